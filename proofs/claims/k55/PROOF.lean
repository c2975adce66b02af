import PyProof.Rows.All
import Wide.All
import OpenK.AllK
import Wide.FinOn
import HandS.ForMost
import HandS.Star
import HandS.TupAny
import HandS.Wide
import HandS.SortInts
import HandS.Conv
import HandS.Strs
import HandS.SetFor
import HandS.Style
import PyProof.ReprRoads
import HandS.Iter
import HandS.Zip
import HandS.EndBits
import HandS.WideBits
import HandS.TryOnly
import HandS.TupMul
import PyProof.DictRoadsH
import KE.KDictWalk
import KE.KEqDict
import KE.GoesZip
import KE.GoesMore
import KE.DataCmp
import KE.KRevSl
import KE.GoesEnum
import PyProof.Rows.ChunkLeaf
import HandS.Flow
import HandS.IsInst
import KE.SortData
import KE.KDictPairs
import KE.KeyNested
import PyProof.NeKinds
import PyProof.EqAt
import PyProof.Rows.IntBool
import HandS.FStr
import HandS.Text
import PySem.Challenge.RW_canpath_k55_garden_texts
set_option Elab.async false
set_option linter.all false
set_option maxRecDepth 100000
set_option maxHeartbeats 4000000
namespace PL
open PySem L2
/-- a tuple whose object bears no dict -/
def TupB (H : Hp) (p : Addr) (xs : List V) : Prop := ∃ o : Obj, H p = some (.frz o (.tup xs)) ∧ o.dict = none
theorem TupB.sq {K : PySem.W.Frag} {H : Hp} {p : Addr} {xs : List V} (h : TupB H p xs) : SqT K H p xs := by
  obtain ⟨o, e, _⟩ := h
  exact .inl (.inr ⟨o, e⟩)
theorem TupB.at_ {H H' : Hp} {p : Addr} {xs : List V} (h : TupB H p xs) (k : ∀ o, H p = some o → H' p = some o) : TupB H' p xs := by
  obtain ⟨o, e, d⟩ := h
  exact ⟨o, k _ e, d⟩
theorem TupB.there {H : Hp} {p : Addr} {xs : List V} (h : TupB H p xs) : H p ≠ none := by
  obtain ⟨o, e, _⟩ := h
  rw [e]
  intro z
  cases z
def bareT (its : List Value) : Obj := { cls := .type "tuple", data := .seq its.toArray }
/-- what is laid new -/
def NewT (H : Hp) (xs : List V) (Q : VK) : Prop := ∀ (p : Addr) (o : Obj), H p = none → o.dict = none → Q (.ref p) (upd H p (.frz o (.tup xs)))
theorem layT {X : Cx} {pins : List (Addr × Obj)} {σ : St} {H : Hp} {s : Shared} {xs : List V} {its : List Value} {Q : VK} (I : Inv X pins σ H s) (r : Vals xs its) (hz : xs.length ≤ sizeLine) (q : NewT H xs Q) :
    EP X pins σ Q (.ref s.heap.objs.size) { s with heap := s.heap.push (bareT its) } := by
  have fr := I.hok.fresh (Nat.le_refl s.heap.objs.size)
  have new : ObjOk X.prog X.w (upd H s.heap.objs.size (.frz (bareT its) (.tup xs))) (s.heap.push (bareT its)) s.heap.objs.size (.frz (bareT its) (.tup xs)) := ⟨Heap.get?_push_size _ rfl, hz, its, r, bareT its, Heap.get?_push_size _ rfl, rfl, _, rfl⟩
  exact ⟨.ref s.heap.objs.size, _, I.laid (t' := s.toks) (fun b u e => Heap.get?_push_of_some _ e) (Nat.le_refl _) new, rfl, q _ _ fr rfl⟩
section
variable {X : Cx}
/-- a display -/
def tTupB (t : TA) : TE := fun σ H Q => t σ H fun xs H1 => xs.length ≤ sizeLine ∧ NewT H1 xs Q
theorem pe_tupB {es : List Expr} {pos : Pos} {t : TA} {x1 : Nat} (h : PA X es t) : PE X (.Tuple es x1 pos) (tTupB t) := by
  constructor
  intro pins s σ H Q I hq
  apply wpAny_Tuple_spliced
  refine thn (h.run pos pins s σ H _ I hq) ?_
  rintro us s1 ⟨xs, H1, I1, r, z, q⟩
  exact ⟨by rw [← r.length]; exact z, layT I1 r z q⟩
/-- tuple(list), tuple(tuple) -/
def rTupB (K : PySem.W.Frag) : List V → Hp → VK → Prop := fun vs H Q => ∃ (p : Addr) (ys : List V), vs = [.ref p] ∧ SqL K H p ys ∧ NewT H ys Q
theorem cr_tupB : CallR X (.type "tuple") (rTupB X.K) := by
  intro pins s σ H xs us Q I r h
  obtain ⟨p, ys, rfl, hq, q⟩ := h
  obtain ⟨u, rfl, rx⟩ := vals1 r
  obtain rfl : u = Value.ref p := rx
  obtain ⟨its, rv, pl, hz⟩ := I.list hq
  have hlen : its.length ≤ sizeLine := by
    rw [← rv.length]
    exact hz
  apply call_tuple_list pl.isList _ (by rw [List.size_toArray]; exact hlen)
  intro h' kp
  exact layT (I.kept (t' := s.toks) kp) rv hz q
/-- t + u -/
def rCatB (K : PySem.W.Frag) : R2 := fun x y H Q => ∃ (a b : Addr) (xs ys : List V), x = .ref a ∧ y = .ref b ∧ SqT K H a xs ∧ SqT K H b ys ∧ xs.length + ys.length ≤ sizeLine ∧
  (xs = [] → Q (.ref b) H) ∧ (xs ≠ [] → ys = [] → Q (.ref a) H) ∧ (xs ≠ [] → ys ≠ [] → NewT H (xs ++ ys) Q)
theorem op_catB : OpR X (binaryOp .Add) (rCatB X.K) := by
  intro pins s σ H x y v u Q I rx ry h
  obtain ⟨a, b, xs, ys, rfl, rfl, ha, hb, hz, q0, q1, q2⟩ := h
  obtain rfl : v = Value.ref a := rx
  obtain rfl : u = Value.ref b := ry
  obtain ⟨i1, r1, p1, _⟩ := I.tuple ha
  obtain ⟨i2, r2, p2, _⟩ := I.tuple hb
  by_cases hx : xs = []
  · subst hx
    cases r1
    exact cat_tup0 p1 p2 ⟨.ref b, H, I, rfl, q0 rfl⟩
  · have n1 : i1 ≠ [] := fun z => hx (r1.nil_iff.mp z)
    have n2 : i1.length + i2.length ≤ sizeLine := by
      rw [← r1.length, ← r2.length]
      exact hz
    apply HT.cat_tup p1 p2 n1 _ _ n2
    · intro z
      exact ⟨.ref a, H, I, rfl, q1 hx (r2.nil_iff.mp z)⟩
    · intro z
      exact layT I (r1.append r2) (by rw [List.length_append]; exact hz) (q2 hx fun w => z (r2.nil_iff.mpr w))
/-- t[lo:hi] -/
def rSlB (K : PySem.W.Frag) : V → Option Int → Option Int → Hp → VK → Prop := fun x lo hi H Q => ∃ (a : Addr) (xs : List V), x = .ref a ∧ SqT K H a xs ∧
  ((HT.sIx xs.length 0 lo = 0 ∧ HT.sIx xs.length xs.length hi = xs.length) → Q (.ref a) H) ∧ (¬ (HT.sIx xs.length 0 lo = 0 ∧ HT.sIx xs.length xs.length hi = xs.length) → NewT H (cutV xs lo hi) Q)
theorem sl_tupB : SlR X (rSlB X.K) := by
  intro pins s σ H x v vl vu lo hi sl Q I rx hs pl pu h
  obtain ⟨a, xs, rfl, hx, q1, q2⟩ := h
  obtain rfl : v = Value.ref a := rx
  obtain ⟨its, r, ht, hz⟩ := I.tuple hx
  have hlen : its.toArray.size = xs.length := by
    rw [List.size_toArray]
    exact r.length.symm
  refine ⟨"tuple", _, PyProof.Rows.slot_tuple_getitem.lookup, ht.typeIs, ?_⟩
  by_cases hw : HT.sIx xs.length 0 lo = 0 ∧ HT.sIx xs.length xs.length hi = xs.length
  · apply getItem_tuple_whole ht hs pl pu
    · rw [hlen]
      exact hw
    · exact ⟨.ref a, H, I, rfl, q1 hw⟩
  · apply HT.getItem_tuple_cut ht hs pl pu
    · rw [hlen]
      exact hw
    · rw [hlen]
      exact layT I ((r.drop _).take _) (Nat.le_trans (cutV_length xs lo hi) hz) (q2 hw)
    · rw [hlen]
      exact hz
end
end PL

namespace PL
open PySem L2

abbrev M (S A : Type) := S → Option (A × S)
section
variable {S A B C : Type}
def pureM (a : A) : M S A := fun s => some (a, s)
def failM : M S A := fun _ => none
def bindM (m : M S A) (k : A → M S B) : M S B := fun s => match m s with
  | none => none
  | some (a, s') => k a s'
def ofO (o : Option A) : M S A := fun s => o.map fun a => (a, s)
def mapM1 (f : A → B) (m : M S A) : M S B := bindM m fun a => pureM (f a)
def guardM (c : Prop) [Decidable c] (m : M S A) : M S A := if c then m else failM
@[simp] theorem bind_pure (a : A) (k : A → M S B) : bindM (pureM a) k = k a := rfl
@[simp] theorem bind_fail (k : A → M S B) : bindM (failM : M S A) k = failM := rfl
@[simp] theorem map_pure (f : A → B) (a : A) : mapM1 f (pureM a : M S A) = pureM (f a) := rfl
@[simp] theorem ofO_some (a : A) : (ofO (some a) : M S A) = pureM a := rfl
@[simp] theorem ofO_none : (ofO (none : Option A) : M S A) = failM := rfl
theorem bind_assoc (m : M S A) (f : A → M S B) (g : B → M S C) : bindM (bindM m f) g = bindM m fun a => bindM (f a) g := by
  funext s
  show (match bindM m f s with | none => none | some (a, s') => g a s') = _
  unfold bindM
  cases m s with
  | none => rfl
  | some p => rfl
theorem bind_some {m : M S A} {k : A → M S B} {s s' : S} {b : B} (h : bindM m k s = some (b, s')) : ∃ a s1, m s = some (a, s1) ∧ k a s1 = some (b, s') := by
  unfold bindM at h
  cases e : m s with
  | none =>
    rw [e] at h
    cases h
  | some p =>
    obtain ⟨a, s1⟩ := p
    rw [e] at h
    exact ⟨a, s1, rfl, h⟩
theorem ofO_eq {o : Option A} {s s' : S} {a : A} (h : (ofO o : M S A) s = some (a, s')) : o = some a ∧ s = s' := by
  unfold ofO at h
  cases o with
  | none => cases h
  | some x =>
    cases h
    exact ⟨rfl, rfl⟩
theorem pure_eq {a b : A} {s s' : S} (h : (pureM a : M S A) s = some (b, s')) : a = b ∧ s = s' := by
  cases h
  exact ⟨rfl, rfl⟩
theorem guard_eq {c : Prop} [Decidable c] {m : M S A} {s : S} {r : A × S} (h : guardM c m s = some r) : c ∧ m s = some r := by
  unfold guardM at h
  by_cases hc : c
  · rw [if_pos hc] at h
    exact ⟨hc, h⟩
  · rw [if_neg hc] at h
    cases h
@[simp] theorem guard_true {c : Prop} [Decidable c] (h : c) (m : M S A) : guardM c m = m := if_pos h
end

class Enc (A : Type) where
  enc : A → PyData
open Enc (enc)
/-- a tuple of items of one type (a list of them is a Python list) -/
def Tup (A : Type) := List A
def toTup {A : Type} (l : List A) : Tup A := l
def unTup {A : Type} (l : Tup A) : List A := l
structure T3 (A B C : Type) where
  a : A
  b : B
  c : C
structure T4 (A B C D : Type) where
  a : A
  b : B
  c : C
  d : D
instance : Enc Int := ⟨.int⟩
instance : Enc Bool := ⟨.bool⟩
instance : Enc Str := ⟨.str⟩
instance : Enc Unit := ⟨fun _ => .none⟩
instance : Enc PyData := ⟨id⟩
instance {A : Type} [Enc A] : Enc (List A) := ⟨fun l => .list (l.map enc)⟩
instance {A : Type} [Enc A] : Enc (Tup A) := ⟨fun l => .tuple (List.map enc l)⟩
instance {A B : Type} [Enc A] [Enc B] : Enc (A × B) := ⟨fun p => .tuple [enc p.1, enc p.2]⟩
instance {A B C : Type} [Enc A] [Enc B] [Enc C] : Enc (T3 A B C) := ⟨fun p => .tuple [enc p.a, enc p.b, enc p.c]⟩
instance {A B C D : Type} [Enc A] [Enc B] [Enc C] [Enc D] : Enc (T4 A B C D) := ⟨fun p => .tuple [enc p.a, enc p.b, enc p.c, enc p.d]⟩
instance {A : Type} [Enc A] : Enc (Option A) := ⟨fun o => match o with | none => .none | some a => enc a⟩

def kD : Key → PyData
  | .inl i => .int i
  | .inr x => .str x
mutual
inductive Rp (Z : Addr → Prop) (H : Hp) : V → PyData → Prop
  | non : Rp Z H .non .none
  | bl (b : Bool) : Rp Z H (.bl b) (.bool b)
  | int (i : Int) : Rp Z H (.int i) (.int i)
  | str (x : Str) : Rp Z H (.str x) (.str x)
  | lst {a : Addr} {xs : List V} {ds : List PyData} : ¬ Z a → H a = some (.lst xs) → RpL Z H xs ds → Rp Z H (.ref a) (.list ds)
  | tup {a : Addr} {xs : List V} {ds : List PyData} : ¬ Z a → TupB H a xs → RpL Z H xs ds → Rp Z H (.ref a) (.tuple ds)
  | dic {a : Addr} {kvs : List (Key × V)} {ds : List (PyData × PyData)} : ¬ Z a → Rd H a (.dK kvs) → RpK Z H kvs ds → Rp Z H (.ref a) (.dict ds)
inductive RpL (Z : Addr → Prop) (H : Hp) : List V → List PyData → Prop
  | nil : RpL Z H [] []
  | cons {v : V} {vs : List V} {d : PyData} {ds : List PyData} : Rp Z H v d → RpL Z H vs ds → RpL Z H (v :: vs) (d :: ds)
inductive RpK (Z : Addr → Prop) (H : Hp) : List (Key × V) → List (PyData × PyData) → Prop
  | nil : RpK Z H [] []
  | cons {k : Key} {v : V} {r : List (Key × V)} {d : PyData} {ds : List (PyData × PyData)} : Rp Z H v d → RpK Z H r ds → RpK Z H ((k, v) :: r) ((kD k, d) :: ds)
end
/-- what stood outside Z stands; what is new in Z' was not there -/
def Ext (Z : Addr → Prop) (H : Hp) (Z' : Addr → Prop) (H' : Hp) : Prop :=
  (∀ b o, ¬ Z b → H b = some o → H' b = some o) ∧ ∀ b, Z' b → Z b ∨ H b = none
theorem Ext.not {Z Z' : Addr → Prop} {H H' : Hp} (e : Ext Z H Z' H') {a : Addr} {o : HO} (hz : ¬ Z a) (h : H a = some o) : ¬ Z' a := fun z => by
  rcases e.2 a z with z | z
  · exact hz z
  · rw [h] at z
    cases z
theorem Ext.trans {Z Z1 Z2 : Addr → Prop} {H H1 H2 : Hp} (e : Ext Z H Z1 H1) (f : Ext Z1 H1 Z2 H2) : Ext Z H Z2 H2 :=
  ⟨fun b o hz h => f.1 b o (e.not hz h) (e.1 b o hz h), fun b z => by
    rcases f.2 b z with z | z
    · exact e.2 b z
    · by_cases hb : Z b
      · exact .inl hb
      · cases q : H b with
        | none => exact .inr rfl
        | some o =>
          rw [e.1 b o hb q] at z
          cases z⟩
theorem Ext.refl (Z : Addr → Prop) (H : Hp) : Ext Z H Z H := ⟨fun _ _ _ h => h, fun _ z => .inl z⟩
theorem Ext.less {Z Z' : Addr → Prop} {H : Hp} (h : ∀ b, Z' b → Z b) : Ext Z H Z' H := ⟨fun _ _ _ h => h, fun b z => .inl (h b z)⟩
mutual
theorem Rp.ext {Z Z' : Addr → Prop} {H H' : Hp} (e : Ext Z H Z' H') : ∀ {v : V} {d : PyData}, Rp Z H v d → Rp Z' H' v d
  | _, _, .non => .non
  | _, _, .bl b => .bl b
  | _, _, .int i => .int i
  | _, _, .str x => .str x
  | _, _, .lst n h r => .lst (e.not n h) (e.1 _ _ n h) (RpL.ext e r)
  | _, _, .tup n h r => .tup (fun z => n ((e.2 _ z).resolve_right h.there)) (h.at_ fun o q => e.1 _ o n q) (RpL.ext e r)
  | _, _, .dic n h r => .dic (h.elim (fun h => e.not n h) fun ⟨_, h⟩ => e.not n h) (h.imp (fun h => e.1 _ _ n h) fun ⟨o, h⟩ => ⟨o, e.1 _ _ n h⟩) (RpK.ext e r)
theorem RpL.ext {Z Z' : Addr → Prop} {H H' : Hp} (e : Ext Z H Z' H') : ∀ {v : List V} {d : List PyData}, RpL Z H v d → RpL Z' H' v d
  | _, _, .nil => .nil
  | _, _, .cons h t => .cons (Rp.ext e h) (RpL.ext e t)
theorem RpK.ext {Z Z' : Addr → Prop} {H H' : Hp} (e : Ext Z H Z' H') : ∀ {v : List (Key × V)} {d : List (PyData × PyData)}, RpK Z H v d → RpK Z' H' v d
  | _, _, .nil => .nil
  | _, _, .cons h t => .cons (Rp.ext e h) (RpK.ext e t)
end
theorem RpL.len {Z : Addr → Prop} {H : Hp} : ∀ {v : List V} {d : List PyData}, RpL Z H v d → v.length = d.length
  | _, _, .nil => rfl
  | _, _, .cons _ t => congrArg (· + 1) t.len
theorem RpL.get {Z : Addr → Prop} {H : Hp} : ∀ {v : List V} {d : List PyData} {i : Nat} {x : PyData}, RpL Z H v d → d[i]? = some x → ∃ y, v[i]? = some y ∧ Rp Z H y x
  | _, _, _, _, .nil, h => by simp at h
  | _, _, 0, _, .cons h _, e => by
    simp at e
    subst e
    exact ⟨_, rfl, h⟩
  | _, _, i + 1, _, .cons _ t, e => by
    obtain ⟨y, h1, h2⟩ := RpL.get t (i := i) (by simpa using e)
    exact ⟨y, by simpa using h1, h2⟩
theorem RpL.append {Z : Addr → Prop} {H : Hp} : ∀ {v w : List V} {d e : List PyData}, RpL Z H v d → RpL Z H w e → RpL Z H (v ++ w) (d ++ e)
  | _, _, _, _, .nil, h => h
  | _, _, _, _, .cons h t, u => .cons h (t.append u)
theorem RpL.drop {Z : Addr → Prop} {H : Hp} : ∀ (n : Nat) {v : List V} {d : List PyData}, RpL Z H v d → RpL Z H (v.drop n) (d.drop n)
  | 0, _, _, h => h
  | _ + 1, _, _, .nil => .nil
  | n + 1, _, _, .cons _ t => RpL.drop n t
theorem RpL.take {Z : Addr → Prop} {H : Hp} : ∀ (n : Nat) {v : List V} {d : List PyData}, RpL Z H v d → RpL Z H (v.take n) (d.take n)
  | 0, _, _, _ => .nil
  | _ + 1, _, _, .nil => .nil
  | n + 1, _, _, .cons h t => .cons h (RpL.take n t)
theorem RpL.rev {Z : Addr → Prop} {H : Hp} : ∀ {v : List V} {d : List PyData}, RpL Z H v d → RpL Z H v.reverse d.reverse
  | _, _, .nil => .nil
  | _, _, .cons h t => by
    rw [List.reverse_cons, List.reverse_cons]
    exact t.rev.append (.cons h .nil)
theorem RpL.rep {Z : Addr → Prop} {H : Hp} {v : List V} {d : List PyData} (h : RpL Z H v d) : ∀ k : Nat, RpL Z H (List.replicate k v).flatten (List.replicate k d).flatten
  | 0 => .nil
  | k + 1 => by
    rw [List.replicate_succ, List.replicate_succ, List.flatten_cons, List.flatten_cons]
    exact h.append (RpL.rep h k)
theorem RpL.set {Z : Addr → Prop} {H : Hp} {y : V} {x : PyData} (r : Rp Z H y x) : ∀ (i : Nat) {v : List V} {d : List PyData}, RpL Z H v d → RpL Z H (v.set i y) (d.set i x)
  | _, _, _, .nil => .nil
  | 0, _, _, .cons _ t => .cons r t
  | i + 1, _, _, .cons h t => .cons h (RpL.set r i t)
theorem RpL.ints {Z : Addr → Prop} {H : Hp} : ∀ {v : List V} {ns : List Int}, RpL Z H v (ns.map enc) → v = ns.map V.int
  | _, [], .nil => rfl
  | _, n :: ns, .cons (.int _) t => by
    rw [RpL.ints t]
    rfl
theorem RpL.of_ints {Z : Addr → Prop} {H : Hp} : ∀ (ns : List Int), RpL Z H (ns.map V.int) (ns.map enc)
  | [] => .nil
  | n :: ns => .cons (.int n) (RpL.of_ints ns)
theorem RpL.nil_iff {Z : Addr → Prop} {H : Hp} {v : List V} {d : List PyData} (r : RpL Z H v d) : v = [] ↔ d = [] := by
  cases r <;> simp

def keyT (v : Tup (Int × Int)) : NestedKey := .tup ((unTup v).map fun r => .tup [.num r.1, .num r.2])
/-- an object that is known exactly -/
def exO (a : Addr) (o : Obj) : HO := .ext fun h => h.get? a = some o
def NEnt (Z : Addr → Prop) (H : Hp) (e : DictEntry) (x : Tup (Int × Int) × Int) : Prop := ∃ a t, e.key = .ref a ∧ e.val = .int x.2 t ∧ (∀ w, e.hash = (keyT x.1).hash w) ∧ Rp Z H (.ref a) (enc x.1)
structure OwnN (Z : Addr → Prop) (H : Hp) (p : Addr) (l : List (Tup (Int × Int) × Int)) (ob : Obj) (es : Array DictEntry) (ep : Nat) : Prop where
  at_ : H p = some (exO p ob)
  ex : ob.ExactDict
  dat : ob.data = .dict es ep
  sys : (p == sysModules) = false
  ent : PySem.Paired (NEnt Z H) es.toList l
  nd : (l.map (·.1)).Nodup
  sz : l.length ≤ sizeLine
theorem paired_map {α β : Type} {F G : α → β → Prop} (h : ∀ a b, F a b → G a b) : ∀ {l : List α} {m : List β}, PySem.Paired F l m → PySem.Paired G l m
  | _, _, .nil => .nil
  | _, _, .cons r t => .cons (h _ _ r) (paired_map h t)
theorem NEnt.ext {Z Z' : Addr → Prop} {H H' : Hp} (e : Ext Z H Z' H') {x : DictEntry} {y : Tup (Int × Int) × Int} (h : NEnt Z H x y) : NEnt Z' H' x y := by
  obtain ⟨a, t, h1, h2, h3, h4⟩ := h
  exact ⟨a, t, h1, h2, h3, h4.ext e⟩
theorem OwnN.ext {Z Z' : Addr → Prop} {H H' : Hp} {p : Addr} {l : List (Tup (Int × Int) × Int)} {ob : Obj} {es : Array DictEntry} {ep : Nat} (e : Ext Z H Z' H') (h : ∀ o, H p = some o → H' p = some o) (x : OwnN Z H p l ob es ep) : OwnN Z' H' p l ob es ep :=
  ⟨h _ x.at_, x.ex, x.dat, x.sys, paired_map (fun _ _ r => r.ext e) x.ent, x.nd, x.sz⟩
/-- what a slot holds: nothing known; a value; data; an object of the frame's own that may change -/
inductive Sl where
  | un
  | raw (v : V)
  | dat (d : PyData)
  | own (d : PyData)
  | ext (f : (Addr → Prop) → Hp → V → Prop) (st : ∀ Z H Z' H' v, Ext Z H Z' H' → f Z H v → f Z' H' v)
/-- objects that calls change (a deck of draws): their region, their state -/
structure Fm (S : Type) where
  Z : Addr → Prop
  at_ : S → Hp → Prop
  loc : ∀ s H H', (∀ b, Z b → H' b = H b) → at_ s H → at_ s H'
  trk : ∀ s H b, at_ s H → Z b → H b ≠ none
/-- none -/
def fm0 : Fm Unit := ⟨fun _ => False, fun _ _ => True, fun _ _ _ _ h => h, fun _ _ _ _ z => z.elim⟩
def Own (G : List Sl) (t : St) (b : Addr) : Prop := ∃ (i : Nat) (d : PyData), G[i]? = some (Sl.own d) ∧ t[i]? = some (some (V.ref b))
def ZF {S : Type} (F : Fm S) (Zx : Addr → Prop) (G : List Sl) (t : St) (b : Addr) : Prop := F.Z b ∨ Zx b ∨ Own G t b
def OwnC (Z : Addr → Prop) (H : Hp) (p : Addr) : PyData → Prop
  | .list ds => ∃ xs, H p = some (.lst xs) ∧ RpL Z H xs ds
  | .dict ds => ∃ kvs, H p = some (.dK kvs) ∧ RpK Z H kvs ds
  | .tuple ds => ∃ l ob es ep, ds = List.map (enc : Tup (Int × Int) × Int → PyData) l ∧ OwnN Z H p l ob es ep
  | _ => False
def SlOk (Z : Addr → Prop) (H : Hp) : Sl → Option V → Prop
  | .un, _ => True
  | .raw v, o => o = some v
  | .dat d, o => ∃ v, o = some v ∧ Rp Z H v d
  | .own d, o => ∃ p, o = some (.ref p) ∧ OwnC Z H p d
  | .ext f _, o => ∃ v, o = some v ∧ f Z H v
structure Gd {S : Type} (F : Fm S) (Zx : Addr → Prop) (G : List Sl) (s : S) (t : St) (H : Hp) : Prop where
  len : t.length = G.length
  at_ : F.at_ s H
  trk : ∀ b, Zx b → H b ≠ none
  slot : ∀ (i : Nat) l o, G[i]? = some l → t[i]? = some o → SlOk (ZF F Zx G t) H l o
  inj : ∀ (i j : Nat) d e p, G[i]? = some (.own d) → G[j]? = some (.own e) → t[i]? = some (some (.ref p)) → t[j]? = some (some (.ref p)) → i = j
  sep : ∀ p, Own G t p → ¬ F.Z p ∧ ¬ Zx p
/-- only what F holds may have changed -/
def Fix {S : Type} (F : Fm S) (H H' : Hp) : Prop := ∀ b o, ¬ F.Z b → H b = some o → H' b = some o
section
variable {S : Type} {F : Fm S} {Zx : Addr → Prop} {G : List Sl} {s s' : S} {t : St} {H H' H'' : Hp}
theorem Fix.refl (H : Hp) : Fix F H H := fun _ _ _ h => h
theorem Fix.trans (a : Fix F H H') (b : Fix F H' H'') : Fix F H H'' := fun x o z h => b x o z (a x o z h)
theorem Fix.same (h : Same H H') : Fix F H H' := fun b o _ e => h b o e
theorem Fix.ext (f : Fix F H H') : Ext (ZF F Zx G t) H (ZF F Zx G t) H' := ⟨fun b o z h => f b o (fun q => z (.inl q)) h, fun _ z => .inl z⟩
theorem OwnC.ne {Z : Addr → Prop} {p : Addr} : ∀ {d : PyData}, OwnC Z H p d → H p ≠ none
  | .list _, ⟨_, h, _⟩ => by
    rw [h]
    intro z
    cases z
  | .dict _, ⟨_, h, _⟩ => by
    rw [h]
    intro z
    cases z
  | .tuple _, ⟨_, _, _, _, _, h⟩ => by
    rw [h.at_]
    intro z
    cases z
theorem OwnC.ext {Z Z' : Addr → Prop} {p : Addr} (e : Ext Z H Z' H') (h : ∀ o, H p = some o → H' p = some o) : ∀ {d : PyData}, OwnC Z H p d → OwnC Z' H' p d
  | .list _, ⟨xs, q, r⟩ => ⟨xs, h _ q, r.ext e⟩
  | .dict _, ⟨xs, q, r⟩ => ⟨xs, h _ q, r.ext e⟩
  | .tuple _, ⟨l, ob, es, ep, q, r⟩ => ⟨l, ob, es, ep, q, r.ext e h⟩
theorem Gd.ownAt (g : Gd F Zx G s t H) {i : Nat} {d : PyData} {p : Addr} (hi : G[i]? = some (.own d)) (ht : t[i]? = some (some (.ref p))) : OwnC (ZF F Zx G t) H p d := by
  obtain ⟨q, e, h⟩ := g.slot i _ _ hi ht
  cases e
  exact h
theorem Gd.all (g : Gd F Zx G s t H) : ∀ b, ZF F Zx G t b → H b ≠ none := by
  rintro b (z | z | ⟨i, d, h1, h2⟩)
  · exact F.trk s H b g.at_ z
  · exact g.trk b z
  · exact (g.ownAt h1 h2).ne
theorem Gd.new (g : Gd F Zx G s t H) {p : Addr} (h : H p = none) : ¬ ZF F Zx G t p := fun z => g.all p z h
/-- behind a step that changed what F holds alone -/
theorem Gd.fix (g : Gd F Zx G s t H) (f : Fix F H H') (h : F.at_ s' H') : Gd F Zx G s' t H' where
  len := g.len
  at_ := h
  trk := fun b z e => by
    by_cases hb : F.Z b
    · exact F.trk _ _ _ h hb e
    · cases q : H b with
      | none => exact g.trk b z q
      | some o =>
        rw [f b o hb q] at e
        cases e
  slot := fun i l o h1 h2 => by
    have q := g.slot i l o h1 h2
    cases l with
    | un => trivial
    | raw v => exact q
    | dat d =>
      obtain ⟨v, e, r⟩ := q
      exact ⟨v, e, r.ext f.ext⟩
    | ext fu hst =>
      obtain ⟨v, e, r⟩ := q
      exact ⟨v, e, hst _ _ _ _ _ f.ext r⟩
    | own d =>
      obtain ⟨p, e, r⟩ := q
      subst e
      exact ⟨p, rfl, OwnC.ext f.ext (fun o ho => f p o (g.sep p ⟨i, d, h1, h2⟩).1 ho) r⟩
  inj := g.inj
  sep := g.sep
theorem Gd.same (g : Gd F Zx G s t H) (h : Same H H') : Gd F Zx G s t H' :=
  g.fix (Fix.same h) (F.loc s H H' (fun b z => by
    cases q : H b with
    | none => exact absurd q (F.trk _ _ _ g.at_ z)
    | some o => exact h b o q) g.at_)
theorem same_new {p : Addr} {o : HO} (h : H p = none) : Same H (upd H p o) := fun b x e => by
  rw [upd_ne (ne_of_none e h)]
  exact e
/-- data at a value stays -/
theorem Rp.fix {v : V} {d : PyData} (r : Rp (ZF F Zx G t) H v d) (f : Fix F H H') : Rp (ZF F Zx G t) H' v d := r.ext f.ext
theorem RpL.fix {v : List V} {d : List PyData} (r : RpL (ZF F Zx G t) H v d) (f : Fix F H H') : RpL (ZF F Zx G t) H' v d := r.ext f.ext
end
end PL

namespace PL
open PySem L2 Enc

section
variable {I S A B C D : Type} [Enc A] [Enc B] [Enc C] [Enc D]
/-- a reading gives what m gives -/
def TEok (F : Fm S) (G : List Sl) (te : TE) (m : M S A) : Prop :=
  ∀ Zx t H s a s', Gd F Zx G s t H → m s = some (a, s') → ∀ Q : VK, (∀ v H', Gd F Zx G s' t H' → Fix F H H' → Rp (ZF F Zx G t) H' v (enc a) → Q v H') → te t H Q
def TTok (F : Fm S) (G : List Sl) (tt : TT) (m : M S Bool) : Prop :=
  ∀ Zx t H s b s', Gd F Zx G s t H → m s = some (b, s') → ∀ Q : Bool → Hp → Prop, (∀ H', Gd F Zx G s' t H' → Fix F H H' → Q b H') → tt t H Q
def TAok (F : Fm S) (G : List Sl) (ta : TA) {U : Type} (m : M S U) (en : U → List PyData) : Prop :=
  ∀ Zx t H s a s', Gd F Zx G s t H → m s = some (a, s') → ∀ Q : List V → Hp → Prop, (∀ vs H', Gd F Zx G s' t H' → Fix F H H' → RpL (ZF F Zx G t) H' vs (en a) → Q vs H') → ta t H Q
def EV (Xs : I → Cx) (F : Fm S) (G : List Sl) (e : Expr) (m : M S A) : Prop := ∃ te, (∀ i, PE (Xs i) e te) ∧ TEok F G te m
def ET (Xs : I → Cx) (F : Fm S) (G : List Sl) (e : Expr) (m : M S Bool) : Prop := ∃ tt, (∀ i, PT (Xs i) e tt) ∧ TTok F G tt m
def EW (Xs : I → Cx) (F : Fm S) (G : List Sl) (e : Expr) (m : M S Bool) : Prop := ∃ tt, (∀ i, PW (Xs i) e tt) ∧ TTok F G tt m
def EA (Xs : I → Cx) (F : Fm S) (G : List Sl) (es : List Expr) {U : Type} (m : M S U) (en : U → List PyData) : Prop := ∃ ta, (∀ i, PA (Xs i) es ta) ∧ TAok F G ta m en

variable {Xs : I → Cx} {F : Fm S} {G : List Sl} {pos p : Pos} {e a b c : Expr} {es : List Expr} {x : Str}
/-- the monad's laws at a judgement -/
theorem EV.eq {m m' : M S A} (h : EV Xs F G e m) (q : m = m') : EV Xs F G e m' := q ▸ h

theorem ev_var {k : Nat} {y : A} (h : G[k]? = some (.dat (enc y)) := by rfl) (hN : ∀ i, (Xs i).N[k]? = some x := by intro _; rfl)
    (hv : ∀ i, Vis (Xs i).env.scope x := by first | exact fun _ => Or.inl rfl | exact fun _ => Or.inr (Or.inl rfl) | exact fun _ => Or.inr (Or.inr rfl))
    (hd : (x == ("__debug__" : Str)) = false := by decide) (hcd : (x == ("__classdict__" : Str)) = false := by decide) : EV Xs F G (.Name x pos) (pureM y) := by
  refine ⟨tVar k, fun i => pe_var (hN i) (hv i) hd hcd, fun Zx t H s y' s' g hm Q q => ?_⟩
  obtain ⟨rfl, rfl⟩ := pure_eq hm
  obtain ⟨hk, _⟩ := List.getElem?_eq_some_iff.mp h
  have hk' : k < t.length := by rw [g.len]; exact hk
  have ht : t[k]? = some (t[k]'hk') := List.getElem?_eq_getElem hk'
  obtain ⟨v, ev, r⟩ := g.slot k _ _ h ht
  exact ⟨v, by rw [ht, ev], q v H g (Fix.refl H) r⟩
theorem ev_con {te : TE} {v : V} {y : A} (hp : ∀ i, PE (Xs i) e (tC v)) (hv : ∀ Z H, Rp Z H v (enc y)) : EV Xs F G e (pureM y) := by
  refine ⟨tC v, hp, fun Zx t H s y' s' g hm Q q => ?_⟩
  obtain ⟨rfl, rfl⟩ := pure_eq hm
  exact q v H g (Fix.refl H) (hv _ _)
theorem ev_int {n : Int} {j : Nat} : EV Xs F G (.Constant (.int n) j pos) (pureM n) := ev_con (te := tC .non) (fun _ => pe_int) fun _ _ => .int n
theorem ev_str {n : Str} {j : Nat} : EV Xs F G (.Constant (.str n) j pos) (pureM n) := ev_con (te := tC .non) (fun _ => pe_str) fun _ _ => .str n
theorem ev_bool {n : Bool} {j : Nat} : EV Xs F G (.Constant (.bool n) j pos) (pureM n) := ev_con (te := tC .non) (fun _ => pe_bl) fun _ _ => .bl n
theorem ev_none {j : Nat} {y : A} (h : enc y = PyData.none := by rfl) : EV Xs F G (.Constant .none j pos) (pureM y) := ev_con (te := tC .non) (fun _ => pe_non) fun _ _ => by
  rw [h]
  exact .non
/-- an int of the module -/
theorem ev_glob {n : Int} (hm : ∀ i, ∃ t, (Xs i).mg x = some (.int n t)) (hg : ∀ i, Gl (Xs i) x := by intro _; rfl) (hd : (x == ("__debug__" : Str)) = false := by decide) : EV Xs F G (.Name x pos) (pureM n) :=
  ev_con (te := tC .non) (fun i => let ⟨t, h⟩ := hm i; pe_glob (v := .int n) (hg i) h ⟨t, rfl⟩ hd) fun _ _ => .int n
theorem ev_globs {n : Str} (hm : ∀ i, ∃ t, (Xs i).mg x = some (.str n t)) (hg : ∀ i, Gl (Xs i) x := by intro _; rfl) (hd : (x == ("__debug__" : Str)) = false := by decide) : EV Xs F G (.Name x pos) (pureM n) :=
  ev_con (te := tC .non) (fun i => let ⟨t, h⟩ := hm i; pe_glob (v := .str n) (hg i) h ⟨t, rfl⟩ hd) fun _ _ => .str n
/-- the same data under another type -/
theorem ev_as {m : M S A} (f : A → B) (hf : ∀ y, enc (f y) = enc y) (h : EV Xs F G e m) : EV Xs F G e (mapM1 f m) := by
  obtain ⟨te, hp, ho⟩ := h
  refine ⟨te, hp, fun Zx t H s y s' g hm Q q => ?_⟩
  obtain ⟨z, s1, h1, h2⟩ := bind_some hm
  obtain ⟨rfl, rfl⟩ := pure_eq h2
  exact ho Zx t H s z s1 g h1 Q fun v H' g' f' r => q v H' g' f' (by rw [hf]; exact r)
/-- .. where it is of that type -/
theorem ev_of {m : M S A} (f : A → Option B) (hf : ∀ y z, f y = some z → enc z = enc y) (h : EV Xs F G e m) : EV Xs F G e (bindM m fun y => ofO (f y)) := by
  obtain ⟨te, hp, ho⟩ := h
  refine ⟨te, hp, fun Zx t H s y s' g hm Q q => ?_⟩
  obtain ⟨z, s1, h1, h2⟩ := bind_some hm
  obtain ⟨h3, rfl⟩ := ofO_eq h2
  exact ho Zx t H s z s1 g h1 Q fun v H' g' f' r => q v H' g' f' (by rw [hf _ _ h3]; exact r)

theorem ea_nil : EA Xs F G [] (pureM ()) fun _ => [] := by
  refine ⟨tNil, fun _ => pa_nil, fun Zx t H s y s' g hm Q q => ?_⟩
  obtain ⟨rfl, rfl⟩ := pure_eq hm
  exact q [] H g (Fix.refl H) .nil
def pairM {U W : Type} (m : M S U) (n : M S W) : M S (U × W) := bindM m fun u => bindM n fun w => pureM (u, w)
@[simp] theorem pairM_pure {U W : Type} (u : U) (w : W) : pairM (pureM u : M S U) (pureM w) = pureM (u, w) := rfl
theorem ea_cons {U : Type} {m : M S A} {n : M S U} {en : U → List PyData} (h : EV Xs F G e m) (hr : EA Xs F G es n en)
    (hs : ∀ i, starEach (e :: es) (Xs i).env = (false, eval e (Xs i).env) :: starEach es (Xs i).env := by intro _; rfl) : EA Xs F G (e :: es) (pairM m n) fun p => enc p.1 :: en p.2 := by
  obtain ⟨te, hp, ho⟩ := h
  obtain ⟨ta, hq, hb⟩ := hr
  refine ⟨tCons te ta, fun i => pa_cons (hp i) (hq i) (hs i), fun Zx t H s y s' g hm Q q => ?_⟩
  obtain ⟨z, s1, h1, h2⟩ := bind_some hm
  obtain ⟨w, s2, h3, h4⟩ := bind_some h2
  obtain ⟨rfl, rfl⟩ := pure_eq h4
  refine ho Zx t H s z s1 g h1 _ fun v H1 g1 f1 r1 => ?_
  refine hb Zx t H1 s1 w s2 g1 h3 _ fun vs H2 g2 f2 r2 => ?_
  exact q _ H2 g2 (f1.trans f2) (.cons (r1.fix f2) r2)
/-- items of one type -/
theorem el_nil : EA Xs F G [] (pureM ([] : List A)) (List.map enc) := by
  refine ⟨tNil, fun _ => pa_nil, fun Zx t H s y s' g hm Q q => ?_⟩
  obtain ⟨rfl, rfl⟩ := pure_eq hm
  exact q [] H g (Fix.refl H) .nil
def consM {U : Type} (m : M S U) (n : M S (List U)) : M S (List U) := bindM m fun u => bindM n fun w => pureM (u :: w)
def appM {U : Type} (m : M S (List U)) (n : M S (List U)) : M S (List U) := bindM m fun u => bindM n fun w => pureM (u ++ w)
@[simp] theorem consM_pure {U : Type} (u : U) (w : List U) : consM (pureM u : M S U) (pureM w) = pureM (u :: w) := rfl
@[simp] theorem appM_pure {U : Type} (u : List U) (w : List U) : appM (pureM u : M S (List U)) (pureM w) = pureM (u ++ w) := rfl
theorem el_cons {m : M S A} {n : M S (List A)} (h : EV Xs F G e m) (hr : EA Xs F G es n (List.map enc))
    (hs : ∀ i, starEach (e :: es) (Xs i).env = (false, eval e (Xs i).env) :: starEach es (Xs i).env := by intro _; rfl) : EA Xs F G (e :: es) (consM m n) (List.map enc) := by
  obtain ⟨te, hp, ho⟩ := h
  obtain ⟨ta, hq, hb⟩ := hr
  refine ⟨tCons te ta, fun i => pa_cons (hp i) (hq i) (hs i), fun Zx t H s y s' g hm Q q => ?_⟩
  obtain ⟨z, s1, h1, h2⟩ := bind_some hm
  obtain ⟨w, s2, h3, h4⟩ := bind_some h2
  obtain ⟨rfl, rfl⟩ := pure_eq h4
  refine ho Zx t H s z s1 g h1 _ fun v H1 g1 f1 r1 => ?_
  refine hb Zx t H1 s1 w s2 g1 h3 _ fun vs H2 g2 f2 r2 => ?_
  exact q _ H2 g2 (f1.trans f2) (.cons (r1.fix f2) r2)
theorem el_starL {m : M S (List A)} {n : M S (List A)} (h : EV Xs F G e m) (hr : EA Xs F G es n (List.map enc))
    (hs : ∀ i, starEach (.Starred e p :: es) (Xs i).env = (true, eval e (Xs i).env) :: starEach es (Xs i).env := by intro _; rfl) (hk : ∀ i j, (Xs i).K = (Xs j).K := by intro _ _; rfl) (i0 : I) : EA Xs F G (.Starred e p :: es) (appM m n) (List.map enc) := by
  obtain ⟨te, hp, ho⟩ := h
  obtain ⟨ta, hq, hb⟩ := hr
  refine ⟨StX.tStar (Xs i0).K te ta, fun i => by rw [hk i0 i]; exact StX.pa_star (hp i) (hq i) (hs i), fun Zx t H s y s' g hm Q q => ?_⟩
  obtain ⟨z, s1, h1, h2⟩ := bind_some hm
  obtain ⟨w, s2, h3, h4⟩ := bind_some h2
  obtain ⟨rfl, rfl⟩ := pure_eq h4
  refine ho Zx t H s z s1 g h1 _ fun v H1 g1 f1 r1 => ?_
  have r1' : Rp (ZF F Zx G t) H1 v (.list (z.map enc)) := r1
  cases r1' with
  | lst n1 e1 l1 =>
    refine ⟨_, _, rfl, .inr (SqL.of e1), ?_⟩
    refine hb Zx t H1 s1 w s2 g1 h3 _ fun vs H2 g2 f2 r2 => ?_
    exact q _ H2 g2 (f1.trans f2) (by rw [List.map_append]; exact (l1.fix f2).append r2)
theorem el_starT {m : M S (Tup A)} {n : M S (List A)} (h : EV Xs F G e m) (hr : EA Xs F G es n (List.map enc))
    (hs : ∀ i, starEach (.Starred e p :: es) (Xs i).env = (true, eval e (Xs i).env) :: starEach es (Xs i).env := by intro _; rfl) (hk : ∀ i j, (Xs i).K = (Xs j).K := by intro _ _; rfl) (i0 : I) : EA Xs F G (.Starred e p :: es) (appM (mapM1 unTup m) n) (List.map enc) := by
  obtain ⟨te, hp, ho⟩ := h
  obtain ⟨ta, hq, hb⟩ := hr
  refine ⟨StX.tStar (Xs i0).K te ta, fun i => by rw [hk i0 i]; exact StX.pa_star (hp i) (hq i) (hs i), fun Zx t H s y s' g hm Q q => ?_⟩
  obtain ⟨z0, s1, h1, h2⟩ := bind_some hm
  obtain ⟨z, s0, h0, h1⟩ := bind_some h1
  obtain ⟨rfl, rfl⟩ := pure_eq h1
  obtain ⟨w, s2, h3, h4⟩ := bind_some h2
  obtain ⟨rfl, rfl⟩ := pure_eq h4
  refine ho Zx t H s z s0 g h0 _ fun v H1 g1 f1 r1 => ?_
  have r1' : Rp (ZF F Zx G t) H1 v (.tuple (List.map enc z)) := r1
  cases r1' with
  | tup n1 e1 l1 =>
    refine ⟨_, _, rfl, .inl e1.sq, ?_⟩
    refine hb Zx t H1 s0 w s2 g1 h3 _ fun vs H2 g2 f2 r2 => ?_
    exact q _ H2 g2 (f1.trans f2) (by
      show RpL _ _ _ (List.map enc (List.append z w))
      rw [show List.map enc (List.append z w) = List.map enc z ++ List.map enc w from List.map_append]
      exact (l1.fix f2).append r2)

def lenOk (n : Nat) : Prop := n ≤ 16777216
instance (n : Nat) : Decidable (lenOk n) := inferInstanceAs (Decidable (n ≤ 16777216))
theorem lenOk_line {n : Nat} (h : lenOk n) : n ≤ sizeLine := by
  rw [sizeLine_eq]
  exact h
/-- a tuple of known arity: f packs -/
theorem ev_tupF {U : Type} {m : M S U} {en : U → List PyData} (f : U → A) (hf : ∀ u, enc (f u) = .tuple (en u)) (hn : ∀ u, (en u).length ≤ 100) {x1 : Nat} (h : EA Xs F G es m en) : EV Xs F G (.Tuple es x1 pos) (mapM1 f m) := by
  obtain ⟨ta, hp, ho⟩ := h
  refine ⟨tTupB ta, fun i => pe_tupB (hp i), fun Zx t H s y s' g hm Q q => ?_⟩
  obtain ⟨z, s1, h1, h2⟩ := bind_some hm
  obtain ⟨rfl, rfl⟩ := pure_eq h2
  refine ho Zx t H s z s1 g h1 _ fun vs H1 g1 f1 r1 => ⟨?_, fun pp ob hn1 hb => ?_⟩
  · rw [r1.len]
    exact Nat.le_trans (hn z) (by rw [sizeLine_eq]; decide)
  · have sm : Same H1 (upd H1 pp (.frz ob (.tup vs))) := same_new hn1
    refine q _ _ (g1.same sm) (f1.trans (Fix.same sm)) ?_
    rw [hf]
    exact .tup (g1.new hn1) ⟨ob, upd_same, hb⟩ (r1.fix (Fix.same sm))
theorem ev_tup2 {m : M S A} {n : M S B} {x1 : Nat} (h : EV Xs F G a m) (h2 : EV Xs F G b n)
    (hs1 : ∀ i, starEach [a, b] (Xs i).env = (false, eval a (Xs i).env) :: starEach [b] (Xs i).env := by intro _; rfl) (hs2 : ∀ i, starEach [b] (Xs i).env = (false, eval b (Xs i).env) :: starEach [] (Xs i).env := by intro _; rfl) :
    EV Xs F G (.Tuple [a, b] x1 pos) (mapM1 (fun u : A × B × Unit => ((u.1, u.2.1) : A × B)) (pairM m (pairM n (pureM ())))) :=
  ev_tupF (fun u : A × B × Unit => ((u.1, u.2.1) : A × B)) (fun _ => rfl) (fun _ => by show 2 ≤ 100; decide) (ea_cons h (ea_cons h2 ea_nil hs2) hs1)
theorem ev_tup3 {m : M S A} {n : M S B} {o : M S C} {x1 : Nat} (h : EV Xs F G a m) (h2 : EV Xs F G b n) (h3 : EV Xs F G c o)
    (hs1 : ∀ i, starEach [a, b, c] (Xs i).env = (false, eval a (Xs i).env) :: starEach [b, c] (Xs i).env := by intro _; rfl) (hs2 : ∀ i, starEach [b, c] (Xs i).env = (false, eval b (Xs i).env) :: starEach [c] (Xs i).env := by intro _; rfl)
    (hs3 : ∀ i, starEach [c] (Xs i).env = (false, eval c (Xs i).env) :: starEach [] (Xs i).env := by intro _; rfl) :
    EV Xs F G (.Tuple [a, b, c] x1 pos) (mapM1 (fun u : A × B × C × Unit => (⟨u.1, u.2.1, u.2.2.1⟩ : T3 A B C)) (pairM m (pairM n (pairM o (pureM ()))))) :=
  ev_tupF (fun u : A × B × C × Unit => (⟨u.1, u.2.1, u.2.2.1⟩ : T3 A B C)) (fun _ => rfl) (fun _ => by show 3 ≤ 100; decide) (ea_cons h (ea_cons h2 (ea_cons h3 ea_nil hs3) hs2) hs1)
/-- a tuple, a list of items of one type -/
theorem ev_tup {m : M S (List A)} {x1 : Nat} (h : EA Xs F G es m (List.map enc)) : EV Xs F G (.Tuple es x1 pos) (bindM m fun l => guardM (lenOk l.length) (pureM (toTup l))) := by
  obtain ⟨ta, hp, ho⟩ := h
  refine ⟨tTupB ta, fun i => pe_tupB (hp i), fun Zx t H s y s' g hm Q q => ?_⟩
  obtain ⟨z, s1, h1, h2⟩ := bind_some hm
  obtain ⟨hl, h3⟩ := guard_eq h2
  obtain ⟨rfl, rfl⟩ := pure_eq h3
  refine ho Zx t H s z s1 g h1 _ fun vs H1 g1 f1 r1 => ⟨?_, fun pp ob hn1 hb => ?_⟩
  · rw [r1.len, List.length_map]
    exact lenOk_line hl
  · have sm : Same H1 (upd H1 pp (.frz ob (.tup vs))) := same_new hn1
    exact q _ _ (g1.same sm) (f1.trans (Fix.same sm)) (.tup (g1.new hn1) ⟨ob, upd_same, hb⟩ (r1.fix (Fix.same sm)))
theorem ev_lst {m : M S (List A)} (h : EA Xs F G es m (List.map enc)) : EV Xs F G (.List es pos) (bindM m fun l => guardM (lenOk l.length) (pureM l)) := by
  obtain ⟨ta, hp, ho⟩ := h
  refine ⟨tLst ta, fun i => pe_lst (hp i), fun Zx t H s y s' g hm Q q => ?_⟩
  obtain ⟨z, s1, h1, h2⟩ := bind_some hm
  obtain ⟨hl, h3⟩ := guard_eq h2
  obtain ⟨rfl, rfl⟩ := pure_eq h3
  refine ho Zx t H s z s1 g h1 _ fun vs H1 g1 f1 r1 => ⟨?_, fun pp hn1 => ?_⟩
  · rw [r1.len, List.length_map]
    exact lenOk_line hl
  · have sm : Same H1 (upd H1 pp (.lst vs)) := same_new hn1
    exact q _ _ (g1.same sm) (f1.trans (Fix.same sm)) (.lst (g1.new hn1) upd_same (r1.fix (Fix.same sm)))

/-- two values -/
def RV2 (r : R2) (f : A → B → Option C) : Prop := ∀ {S : Type} (F : Fm S) Zx G s t H x y vx vy z, Gd F Zx G s t H → Rp (ZF F Zx G t) H vx (enc x) → Rp (ZF F Zx G t) H vy (enc y) → f x y = some z →
  ∀ Q : VK, (∀ v H', Same H H' → Rp (ZF F Zx G t) H' v (enc z) → Q v H') → r vx vy H Q
def RV1 (r : V → Hp → VK → Prop) (f : A → Option B) : Prop := ∀ {S : Type} (F : Fm S) Zx G s t H x vx z, Gd F Zx G s t H → Rp (ZF F Zx G t) H vx (enc x) → f x = some z →
  ∀ Q : VK, (∀ v H', Same H H' → Rp (ZF F Zx G t) H' v (enc z) → Q v H') → r vx H Q
def RVC (r : List V → Hp → VK → Prop) {U : Type} (en : U → List PyData) (f : U → Option B) : Prop := ∀ {S : Type} (F : Fm S) Zx G s t H u vs z, Gd F Zx G s t H → RpL (ZF F Zx G t) H vs (en u) → f u = some z →
  ∀ Q : VK, (∀ v H', Same H H' → Rp (ZF F Zx G t) H' v (enc z) → Q v H') → r vs H Q
def bin2 (f : A → B → Option C) (m : M S A) (n : M S B) : M S C := bindM m fun x => bindM n fun y => ofO (f x y)
@[simp] theorem bin2_pure (f : A → B → Option C) (x : A) (y : B) : bin2 f (pureM x : M S A) (pureM y) = ofO (f x y) := rfl
theorem ok_op2 {r : R2} {f : A → B → Option C} {ta tb : TE} {m : M S A} {n : M S B} (hr : RV2 r f) (ha : TEok F G ta m) (hb : TEok F G tb n) : TEok F G (tOp r ta tb) (bin2 f m n) := fun Zx t H s y s' g hm Q q => by
  obtain ⟨z, s1, h1, h2⟩ := bind_some hm
  obtain ⟨w, s2, h3, h4⟩ := bind_some h2
  obtain ⟨h5, rfl⟩ := ofO_eq h4
  refine ha Zx t H s z s1 g h1 _ fun v H1 g1 f1 r1 => ?_
  refine hb Zx t H1 s1 w s2 g1 h3 _ fun u H2 g2 f2 r2 => ?_
  exact hr F Zx G s2 t H2 z w v u y g2 (r1.fix f2) r2 h5 _ fun o H3 sm r3 => q o H3 (g2.same sm) ((f1.trans f2).trans (Fix.same sm)) r3
theorem ev_op {op : Operator} {r : R2} {f : A → B → Option C} {m : M S A} {n : M S B} (ho : ∀ i, OpR (Xs i) (binaryOp op) r) (hr : RV2 r f) (h : EV Xs F G a m) (h2 : EV Xs F G b n) : EV Xs F G (.BinOp a op b pos) (bin2 f m n) := by
  obtain ⟨ta, hp, hx⟩ := h
  obtain ⟨tb, hq, hy⟩ := h2
  exact ⟨tOp r ta tb, fun i => pe_op (ho i) (hp i) (hq i), ok_op2 hr hx hy⟩
theorem ev_cmp {op : CmpOp} {r : R2} {f : A → B → Option Bool} {m : M S A} {n : M S B} (ho : ∀ i, OpR (Xs i) (compareOp op) r) (hr : RV2 r f) (h : EV Xs F G a m) (h2 : EV Xs F G b n) (hm : behindInMarks op b = false := by first | exact nomark _ | rfl) :
    EV Xs F G (.Compare a [op] [b] pos) (bin2 f m n) := by
  obtain ⟨ta, hp, hx⟩ := h
  obtain ⟨tb, hq, hy⟩ := h2
  exact ⟨tOp r ta tb, fun i => pe_cmpR (ho i) (hp i) (hq i) hm, ok_op2 hr hx hy⟩
theorem Rp.bool {Z : Addr → Prop} {H : Hp} {v : V} {b : Bool} (r : Rp Z H v (enc b)) : v = .bl b := by
  have r' : Rp Z H v (.bool b) := r
  cases r'
  rfl
theorem Rp.toInt {Z : Addr → Prop} {H : Hp} {v : V} {b : Int} (r : Rp Z H v (enc b)) : v = .int b := by
  have r' : Rp Z H v (.int b) := r
  cases r'
  rfl
theorem Rp.toStr {Z : Addr → Prop} {H : Hp} {v : V} {b : Str} (r : Rp Z H v (enc b)) : v = .str b := by
  have r' : Rp Z H v (.str b) := r
  cases r'
  rfl
theorem et_cmp {op : CmpOp} {r : R2} {f : A → B → Option Bool} {m : M S A} {n : M S B} (ho : ∀ i, OpR (Xs i) (compareOp op) r) (hr : RV2 r f) (h : EV Xs F G a m) (h2 : EV Xs F G b n) (hm : behindInMarks op b = false := by first | exact nomark _ | rfl) :
    ET Xs F G (.Compare a [op] [b] pos) (bin2 f m n) := by
  obtain ⟨ta, hp, hx⟩ := h
  obtain ⟨tb, hq, hy⟩ := h2
  refine ⟨tTest (tOp r ta tb), fun i => pt_cmpR (ho i) (hp i) (hq i) hm, fun Zx t H s y s' g hm Q q => ?_⟩
  exact ok_op2 hr hx hy Zx t H s y s' g hm _ fun v H' g' f' r' => ⟨y, r'.bool, q H' g' f'⟩
/-- a value that is a bool, as a test -/
theorem et_val {m : M S Bool} (h : EV Xs F G e m) (he : ∀ i whole, isTrue e (Xs i).env whole = (do let v ← whole; standAt e.pos; holding [v] (truthy v)) := by intro _ _; rfl) : ET Xs F G e m := by
  obtain ⟨te, hp, hx⟩ := h
  refine ⟨tB te, fun i => pt_val (hp i) (he i), fun Zx t H s y s' g hm Q q => ?_⟩
  exact hx Zx t H s y s' g hm _ fun v H' g' f' r' => ⟨y, r'.bool, q H' g' f'⟩
def andM (m n : M S Bool) : M S Bool := bindM m fun c => if c then n else pureM false
def orM (m n : M S Bool) : M S Bool := bindM m fun c => if c then pureM true else n
def notM (m : M S Bool) : M S Bool := mapM1 (fun c => !c) m
def iteM {U : Type} (m : M S Bool) (x y : M S U) : M S U := bindM m fun c => if c then x else y
@[simp] theorem andM_pure (c : Bool) (n : M S Bool) : andM (pureM c) n = if c then n else pureM false := rfl
@[simp] theorem orM_pure (c : Bool) (n : M S Bool) : orM (pureM c) n = if c then pureM true else n := rfl
@[simp] theorem notM_pure (c : Bool) : notM (pureM c : M S Bool) = pureM (!c) := rfl
@[simp] theorem iteM_pure {U : Type} (c : Bool) (x y : M S U) : iteM (pureM c) x y = if c then x else y := rfl
theorem ok_and {t u : TT} {m n : M S Bool} (h1 : TTok F G t m) (h2 : TTok F G u n) : TTok F G (tAnd t u) (andM m n) := fun Zx st H s y s' g hm Q q => by
  obtain ⟨c, s1, e1, e2⟩ := bind_some hm
  refine h1 Zx st H s c s1 g e1 _ fun H1 g1 f1 => ?_
  cases c with
  | true => exact iteT (h2 Zx st H1 s1 y s' g1 e2 _ fun H2 g2 f2 => q H2 g2 (f1.trans f2))
  | false =>
    obtain ⟨rfl, rfl⟩ := pure_eq e2
    exact iteF (q H1 g1 f1)
theorem ok_or {t u : TT} {m n : M S Bool} (h1 : TTok F G t m) (h2 : TTok F G u n) : TTok F G (tOr t u) (orM m n) := fun Zx st H s y s' g hm Q q => by
  obtain ⟨c, s1, e1, e2⟩ := bind_some hm
  refine h1 Zx st H s c s1 g e1 _ fun H1 g1 f1 => ?_
  cases c with
  | true =>
    obtain ⟨rfl, rfl⟩ := pure_eq e2
    exact iteT (q H1 g1 f1)
  | false => exact iteF (h2 Zx st H1 s1 y s' g1 e2 _ fun H2 g2 f2 => q H2 g2 (f1.trans f2))
theorem ew_one_and {m : M S Bool} (h : ET Xs F G a m) : EW Xs F G (.BoolOp .And [a] pos) m := let ⟨t, hp, ho⟩ := h; ⟨t, fun i => pw_and1 (hp i), ho⟩
theorem ew_one_or {m : M S Bool} (h : ET Xs F G a m) : EW Xs F G (.BoolOp .Or [a] pos) m := let ⟨t, hp, ho⟩ := h; ⟨t, fun i => pw_or1 (hp i), ho⟩
theorem ew_and {m n : M S Bool} (h : ET Xs F G a m) (h2 : EW Xs F G (.BoolOp .And (b :: es) pos) n) : EW Xs F G (.BoolOp .And (a :: b :: es) pos) (andM m n) :=
  let ⟨t, hp, ho⟩ := h; let ⟨u, hq, hw⟩ := h2; ⟨tAnd t u, fun i => pw_and (hp i) (hq i), ok_and ho hw⟩
theorem ew_or {m n : M S Bool} (h : ET Xs F G a m) (h2 : EW Xs F G (.BoolOp .Or (b :: es) pos) n) : EW Xs F G (.BoolOp .Or (a :: b :: es) pos) (orM m n) :=
  let ⟨t, hp, ho⟩ := h; let ⟨u, hq, hw⟩ := h2; ⟨tOr t u, fun i => pw_or (hp i) (hq i), ok_or ho hw⟩
theorem et_bool {m : M S Bool} (h : EW Xs F G e m) : ET Xs F G e m := let ⟨t, hp, ho⟩ := h; ⟨t, fun i => (hp i).pt, ho⟩
theorem et_not {m : M S Bool} (h : ET Xs F G a m) : ET Xs F G (.UnaryOp .Not a pos) (notM m) := by
  obtain ⟨t, hp, ho⟩ := h
  refine ⟨tNot t, fun i => pt_not (hp i), fun Zx st H s y s' g hm Q q => ?_⟩
  obtain ⟨c, s1, e1, e2⟩ := bind_some hm
  obtain ⟨rfl, rfl⟩ := pure_eq e2
  exact ho Zx st H s c s1 g e1 _ fun H1 g1 f1 => q H1 g1 f1
/-- as values -/
theorem ev_one {op : BoolOp} {m : M S A} (h : EV Xs F G a m) : EV Xs F G (.BoolOp op [a] pos) m := let ⟨t, hp, ho⟩ := h; ⟨t, fun i => pe_one (hp i), ho⟩
theorem ev_and {m n : M S Bool} (h : EV Xs F G a m) (h2 : EV Xs F G (.BoolOp .And (b :: es) pos) n) : EV Xs F G (.BoolOp .And (a :: b :: es) pos) (andM m n) := by
  obtain ⟨ta, hp, ho⟩ := h
  obtain ⟨tb, hq, hw⟩ := h2
  refine ⟨tAndV ta tb, fun i => pe_and (hp i) (hq i), fun Zx st H s y s' g hm Q q => ?_⟩
  obtain ⟨c, s1, e1, e2⟩ := bind_some hm
  refine ho Zx st H s c s1 g e1 _ fun v H1 g1 f1 r1 => ⟨c, r1.bool, ?_⟩
  cases c with
  | true => exact iteT (hw Zx st H1 s1 y s' g1 e2 _ fun v2 H2 g2 f2 r2 => q v2 H2 g2 (f1.trans f2) r2)
  | false =>
    obtain ⟨rfl, rfl⟩ := pure_eq e2
    exact iteF (q _ H1 g1 f1 (.bl false))
theorem ev_or {m n : M S Bool} (h : EV Xs F G a m) (h2 : EV Xs F G (.BoolOp .Or (b :: es) pos) n) : EV Xs F G (.BoolOp .Or (a :: b :: es) pos) (orM m n) := by
  obtain ⟨ta, hp, ho⟩ := h
  obtain ⟨tb, hq, hw⟩ := h2
  refine ⟨tOrV ta tb, fun i => pe_or (hp i) (hq i), fun Zx st H s y s' g hm Q q => ?_⟩
  obtain ⟨c, s1, e1, e2⟩ := bind_some hm
  refine ho Zx st H s c s1 g e1 _ fun v H1 g1 f1 r1 => ⟨c, r1.bool, ?_⟩
  cases c with
  | true =>
    obtain ⟨rfl, rfl⟩ := pure_eq e2
    exact iteT (q _ H1 g1 f1 (.bl true))
  | false => exact iteF (hw Zx st H1 s1 y s' g1 e2 _ fun v2 H2 g2 f2 r2 => q v2 H2 g2 (f1.trans f2) r2)
theorem ev_not {m : M S Bool} (h : EV Xs F G a m) : EV Xs F G (.UnaryOp .Not a pos) (notM m) := by
  obtain ⟨ta, hp, ho⟩ := h
  refine ⟨tNotV ta, fun i => pe_not (hp i), fun Zx st H s y s' g hm Q q => ?_⟩
  obtain ⟨c, s1, e1, e2⟩ := bind_some hm
  obtain ⟨rfl, rfl⟩ := pure_eq e2
  exact ho Zx st H s c s1 g e1 _ fun v H1 g1 f1 r1 => ⟨c, r1.bool, q _ H1 g1 f1 (.bl _)⟩
theorem ev_if {m : M S Bool} {n o : M S A} (h : ET Xs F G c m) (h1 : EV Xs F G a n) (h2 : EV Xs F G b o) : EV Xs F G (.IfExp c a b pos) (iteM m n o) := by
  obtain ⟨tc, hp, ho⟩ := h
  obtain ⟨ta, hq, hw⟩ := h1
  obtain ⟨tb, hr, hz⟩ := h2
  refine ⟨tIf tc ta tb, fun i => pe_ifExp (hp i) (hq i) (hr i), fun Zx st H s y s' g hm Q q => ?_⟩
  obtain ⟨c, s1, e1, e2⟩ := bind_some hm
  refine ho Zx st H s c s1 g e1 _ fun H1 g1 f1 => ?_
  cases c with
  | true => exact iteT (hw Zx st H1 s1 y s' g1 e2 _ fun v2 H2 g2 f2 r2 => q v2 H2 g2 (f1.trans f2) r2)
  | false => exact iteF (hz Zx st H1 s1 y s' g1 e2 _ fun v2 H2 g2 f2 r2 => q v2 H2 g2 (f1.trans f2) r2)
end

section
variable {I S : Type} {Xs : I → Cx} {F : Fm S} {G : List Sl} {pos p : Pos} {a b c : Expr} {m n o : M S Int}
theorem rv_int0 {g : Int → Int → Int} : RV2 (rI0 fun i j => .int (g i j)) (fun x y : Int => some (g x y)) := fun F Zx G s t H x y vx vy z gd rx ry e Q q => by
  cases e
  exact ⟨x, y, rx.toInt, ry.toInt, q _ H (Same.refl H) (.int _)⟩
theorem rv_intC {C : Int → Int → Prop} {D : Int → Int → Prop} [∀ i j, Decidable (D i j)] (hc : ∀ i j, D i j → C i j) {g : Int → Int → Int} : RV2 (rI C fun i j => .int (g i j)) (fun x y : Int => if D x y then some (g x y) else none) := fun F Zx G s t H x y vx vy z gd rx ry e Q q => by
  replace e : (if D x y then some (g x y) else none) = some z := e
  by_cases h : D x y
  · rw [if_pos h] at e
    cases e
    exact ⟨x, y, rx.toInt, ry.toInt, hc _ _ h, q _ H (Same.refl H) (.int _)⟩
  · rw [if_neg h] at e
    cases e
theorem rv_intB {g : Int → Int → Bool} : RV2 (rI0 fun i j => .bl (g i j)) (fun x y : Int => some (g x y)) := fun F Zx G s t H x y vx vy z gd rx ry e Q q => by
  cases e
  exact ⟨x, y, rx.toInt, ry.toInt, q _ H (Same.refl H) (.bl _)⟩
/-- a bound that holds of all numbers in sight -/
def wide (i : Int) : Prop := i.natAbs < 2 ^ 200
instance (i : Int) : Decidable (wide i) := inferInstanceAs (Decidable (i.natAbs < 2 ^ 200))
theorem wide_log {i : Int} (h : wide i) : i.natAbs.log2 < 200 := by
  by_cases h0 : i.natAbs = 0
  · rw [h0]
    decide
  · exact (Nat.log2_lt h0).mpr h
def mulOk (i j : Int) : Prop := wide i ∧ wide j
instance (i j : Int) : Decidable (mulOk i j) := inferInstanceAs (Decidable (_ ∧ _))
def divOk (_ j : Int) : Prop := 0 < j ∧ wide j
instance (i j : Int) : Decidable (divOk i j) := inferInstanceAs (Decidable (_ ∧ _))
def modOk (_ j : Int) : Prop := 0 < j
instance (i j : Int) : Decidable (modOk i j) := inferInstanceAs (Decidable (0 < j))
def powOk (i j : Int) : Prop := 0 ≤ j ∧ j ≤ 1000000 ∧ i.natAbs < 2 ^ 64
instance (i j : Int) : Decidable (powOk i j) := inferInstanceAs (Decidable (_ ∧ _ ∧ _))
def addM (m n : M S Int) : M S Int := bin2 (fun x y : Int => some (x + y)) m n
def subM (m n : M S Int) : M S Int := bin2 (fun x y : Int => some (x - y)) m n
def mulM (m n : M S Int) : M S Int := bin2 (fun x y : Int => if mulOk x y then some (x * y) else none) m n
def divM (m n : M S Int) : M S Int := bin2 (fun x y : Int => if divOk x y then some (x / y) else none) m n
def modM (m n : M S Int) : M S Int := bin2 (fun x y : Int => if modOk x y then some (x % y) else none) m n
def powM (m n : M S Int) : M S Int := bin2 (fun x y : Int => if powOk x y then some (x ^ y.toNat) else none) m n
def negM (m : M S Int) : M S Int := mapM1 (fun x : Int => -x) m
@[simp] theorem addM_pure (x y : Int) : addM (pureM x : M S Int) (pureM y) = pureM (x + y) := rfl
@[simp] theorem subM_pure (x y : Int) : subM (pureM x : M S Int) (pureM y) = pureM (x - y) := rfl
@[simp] theorem negM_pure (x : Int) : negM (pureM x : M S Int) = pureM (-x) := rfl
theorem mulM_pure {x y : Int} (h : mulOk x y) : mulM (pureM x : M S Int) (pureM y) = pureM (x * y) := by
  show ofO (if mulOk x y then some (x * y) else none) = _
  rw [if_pos h]
  rfl
theorem divM_pure {x y : Int} (h : divOk x y) : divM (pureM x : M S Int) (pureM y) = pureM (x / y) := by
  show ofO (if divOk x y then some (x / y) else none) = _
  rw [if_pos h]
  rfl
theorem modM_pure {x y : Int} (h : 0 < y) : modM (pureM x : M S Int) (pureM y) = pureM (x % y) := by
  show ofO (if modOk x y then some (x % y) else none) = _
  rw [if_pos (show modOk x y from h)]
  rfl
theorem powM_pure {x y : Int} (h : powOk x y) : powM (pureM x : M S Int) (pureM y) = pureM (x ^ y.toNat) := by
  show ofO (if powOk x y then some (x ^ y.toNat) else none) = _
  rw [if_pos h]
  rfl
theorem ev_add (h : EV Xs F G a m) (h2 : EV Xs F G b n) : EV Xs F G (.BinOp a .Add b pos) (addM m n) := ev_op (fun _ => op_add) rv_int0 h h2
theorem ev_sub (h : EV Xs F G a m) (h2 : EV Xs F G b n) : EV Xs F G (.BinOp a .Sub b pos) (subM m n) := ev_op (fun _ => op_sub) rv_int0 h h2
theorem ev_mul (h : EV Xs F G a m) (h2 : EV Xs F G b n) : EV Xs F G (.BinOp a .Mult b pos) (mulM m n) :=
  ev_op (fun _ => op_mulW) (rv_intC (D := mulOk) fun i j h => by
    have h1 := wide_log h.1
    have h2 := wide_log h.2
    show i.natAbs.log2 + j.natAbs.log2 < 1000000
    omega) h h2
theorem ev_fdiv (h : EV Xs F G a m) (h2 : EV Xs F G b n) : EV Xs F G (.BinOp a .FloorDiv b pos) (divM m n) :=
  ev_op (fun _ => op_fdivW) (rv_intC (D := divOk) fun i j h => ⟨h.1, by
    have h2 := wide_log h.2
    omega⟩) h h2
theorem ev_mod (h : EV Xs F G a m) (h2 : EV Xs F G b n) : EV Xs F G (.BinOp a .Mod b pos) (modM m n) := ev_op (fun _ => op_mod) (rv_intC (D := modOk) fun _ _ h => h) h h2
theorem ev_pow (h : EV Xs F G a m) (h2 : EV Xs F G b n) : EV Xs F G (.BinOp a .Pow b pos) (powM m n) := ev_op (fun _ => op_pow) (rv_intC (D := powOk) fun _ _ h => h) h h2
theorem ev_neg (h : EV Xs F G a m) : EV Xs F G (.UnaryOp .USub a pos) (negM m) := by
  obtain ⟨ta, hp, ho⟩ := h
  refine ⟨tUn (rU fun i => .int (-i)) ta, fun i => pe_un un_neg (hp i), fun Zx st H s y s' g hm Q q => ?_⟩
  obtain ⟨c, s1, e1, e2⟩ := bind_some hm
  obtain ⟨rfl, rfl⟩ := pure_eq e2
  exact ho Zx st H s c s1 g e1 _ fun v H1 g1 f1 r1 => ⟨c, r1.toInt, q _ H1 g1 f1 (.int _)⟩
def ltM (m n : M S Int) : M S Bool := bin2 (fun x y : Int => some (decide (x < y))) m n
def leM (m n : M S Int) : M S Bool := bin2 (fun x y : Int => some (decide (x ≤ y))) m n
def gtM (m n : M S Int) : M S Bool := bin2 (fun x y : Int => some (decide (y < x))) m n
def geM (m n : M S Int) : M S Bool := bin2 (fun x y : Int => some (decide (y ≤ x))) m n
def eqIM (m n : M S Int) : M S Bool := bin2 (fun x y : Int => some (decide (x = y))) m n
def neIM (m n : M S Int) : M S Bool := bin2 (fun x y : Int => some (!decide (x = y))) m n
@[simp] theorem ltM_pure (x y : Int) : ltM (pureM x : M S Int) (pureM y) = pureM (decide (x < y)) := rfl
@[simp] theorem leM_pure (x y : Int) : leM (pureM x : M S Int) (pureM y) = pureM (decide (x ≤ y)) := rfl
@[simp] theorem gtM_pure (x y : Int) : gtM (pureM x : M S Int) (pureM y) = pureM (decide (y < x)) := rfl
@[simp] theorem geM_pure (x y : Int) : geM (pureM x : M S Int) (pureM y) = pureM (decide (y ≤ x)) := rfl
@[simp] theorem eqIM_pure (x y : Int) : eqIM (pureM x : M S Int) (pureM y) = pureM (decide (x = y)) := rfl
@[simp] theorem neIM_pure (x y : Int) : neIM (pureM x : M S Int) (pureM y) = pureM (!decide (x = y)) := rfl
theorem ev_lt (h : EV Xs F G a m) (h2 : EV Xs F G b n) : EV Xs F G (.Compare a [.Lt] [b] pos) (ltM m n) := ev_cmp (fun _ => op_lt) rv_intB h h2
theorem ev_le (h : EV Xs F G a m) (h2 : EV Xs F G b n) : EV Xs F G (.Compare a [.LtE] [b] pos) (leM m n) := ev_cmp (fun _ => op_le) rv_intB h h2
theorem ev_gt (h : EV Xs F G a m) (h2 : EV Xs F G b n) : EV Xs F G (.Compare a [.Gt] [b] pos) (gtM m n) := ev_cmp (fun _ => op_gt) rv_intB h h2
theorem ev_ge (h : EV Xs F G a m) (h2 : EV Xs F G b n) : EV Xs F G (.Compare a [.GtE] [b] pos) (geM m n) := ev_cmp (fun _ => op_ge) rv_intB h h2
theorem et_lt (h : EV Xs F G a m) (h2 : EV Xs F G b n) : ET Xs F G (.Compare a [.Lt] [b] pos) (ltM m n) := et_cmp (fun _ => op_lt) rv_intB h h2
theorem et_le (h : EV Xs F G a m) (h2 : EV Xs F G b n) : ET Xs F G (.Compare a [.LtE] [b] pos) (leM m n) := et_cmp (fun _ => op_le) rv_intB h h2
theorem et_gt (h : EV Xs F G a m) (h2 : EV Xs F G b n) : ET Xs F G (.Compare a [.Gt] [b] pos) (gtM m n) := et_cmp (fun _ => op_gt) rv_intB h h2
theorem et_ge (h : EV Xs F G a m) (h2 : EV Xs F G b n) : ET Xs F G (.Compare a [.GtE] [b] pos) (geM m n) := et_cmp (fun _ => op_ge) rv_intB h h2
theorem rv_eqI : RV2 rEq (fun x y : Int => some (decide (x = y))) := fun F Zx G s t H x y vx vy z gd rx ry e Q q => by
  cases e
  rw [rx.toInt, ry.toInt]
  refine ⟨rfl, q _ H (Same.refl H) ?_⟩
  rw [show decide (V.int x = V.int y) = decide (x = y) by simp]
  exact .bl _
theorem rv_neI : RV2 rNe (fun x y : Int => some (!decide (x = y))) := fun F Zx G s t H x y vx vy z gd rx ry e Q q => by
  cases e
  rw [rx.toInt, ry.toInt]
  refine ⟨rfl, q _ H (Same.refl H) ?_⟩
  rw [show decide (V.int x = V.int y) = decide (x = y) by simp]
  exact .bl _
theorem ev_eqI (h : EV Xs F G a m) (h2 : EV Xs F G b n) : EV Xs F G (.Compare a [.Eq] [b] pos) (eqIM m n) := ev_cmp (fun _ => op_eq) rv_eqI h h2
theorem et_eqI (h : EV Xs F G a m) (h2 : EV Xs F G b n) : ET Xs F G (.Compare a [.Eq] [b] pos) (eqIM m n) := et_cmp (fun _ => op_eq) rv_eqI h h2
theorem ev_neI (h : EV Xs F G a m) (h2 : EV Xs F G b n) : EV Xs F G (.Compare a [.NotEq] [b] pos) (neIM m n) := ev_cmp (fun _ => op_ne) rv_neI h h2
theorem et_neI (h : EV Xs F G a m) (h2 : EV Xs F G b n) : ET Xs F G (.Compare a [.NotEq] [b] pos) (neIM m n) := et_cmp (fun _ => op_ne) rv_neI h h2
end
end PL

namespace PL
open PySem L2 Enc

structure FnG (P : Program) (w : World) (K : PySem.W.Frag) (mg : Str → Option Value) (base : Heap) (CX : CXT) (k : Nat) (f : Addr) (fd : FuncData) (ps : List Str) (sp : Sp) : Prop where
  len : ∀ vs H Q E, sp vs H Q E → vs.length = ps.length
  run : ∀ (A : Around) (outer : List Env) (s : Shared) (H : Hp) (args : Args) (us : List Value) (vs : List V) (Q : VK) (E : XK),
    Room k A → A.guards = some [] → Env0 P w K mg base A outer s H → BindsTo s fd args (ps.zip us) → Vals vs us → sp vs H Q E →
      codeAny (model P w) A (.call (.ref f) args) (CR CX outer P w H s Q E) s
/-- a def of the module -/
structure DefG (P : Program) (w : World) (K : PySem.W.Frag) (mg : Str → Option Value) (base : Heap) (CX : CXT) (k : Nat) (x : Str) (ps : List Str) (sp : Sp) : Prop where
  ex : ∃ f fd, FnG P w K mg base CX k f fd ps sp ∧ mg x = some (.ref f) ∧ PySem.W.keepIn K (.ref f) = true ∧ Binds K fd ps []
section
variable {X : Cx} {CX : CXT} {k : Nat} {f : Addr} {fd : FuncData} {ps : List Str} {sp : Sp} {E : XK} {x : Str} {p pos : Pos} {e : Expr} {es : List Expr} {t : TA}
theorem run_fnG {pins : List (Addr × Obj)} {st : St} {H : Hp} {s : Shared} {Q : VK} {us : List Value} {vs : List V}
    (F : FnG X.prog X.w X.K X.mg X.base CX k f fd ps sp) (hr : Room k X.A) (hg : X.A.guards = some []) (hb : Binds X.K fd ps []) (hx : Passes CX X E)
    (I : Inv X pins st H s) (r : Vals vs us) (h : sp vs H Q E) : wpAny (model X.prog X.w) X.A (call (.ref f) us) (EP X pins st Q) X.xe s := by
  have hl : (us ++ []).length = ps.length := by
    rw [List.append_nil, ← r.length]
    exact F.len _ _ _ _ h
  have hb' := hb s us I.kIn hl
  rw [List.append_nil] at hb'
  refine wpAny_call (codeAny_mono (F.run X.A X.stack s H ⟨us, []⟩ us vs Q E hr hg I.env0 hb' r h) fun res s' hq => ?_)
  cases res with
  | error e => exact hx pins st H s e s' I hq
  | ok fl =>
    cases fl with
    | ret u => exact I.after hq
    | next => exact hq.elim
    | brk => exact hq.elim
    | cont => exact hq.elim
theorem pe_callG (D : DefG X.prog X.w X.K X.mg X.base CX k x ps sp) (hr : Room k X.A) (hgd : X.A.guards = some []) (hg : Gl X x) (hx : Passes CX X E) (ha : PA X (e :: es) t)
    (hdb : (x == ("__debug__" : Str)) = false) (he : starEach (e :: es) X.env = (false, eval e X.env) :: starEach es X.env) (hpl : (backTo pos (starEach es X.env)).any (·.1) = false) :
    PE X (.Call (.Name x p) (e :: es) [] pos) (tCall sp [] E t) := by
  obtain ⟨f, fd, F, hm, hk, hb⟩ := D.ex
  refine ⟨fun pins s st H Q I h => ?_⟩
  refine wpAny_Call_Name_kw (ld_glob I hg hm ?_ hdb)
  refine PySem.W.callWith_K (h₀ := X.base) I.ok.mod.kin hk (thn (ha.run pos pins s st H _ I h) fun us s1 ⟨vs, H1, I1, r, q⟩ => ⟨I1.kIn, ?_⟩) he hpl
  have q' : sp (vs ++ []) H1 Q E := q
  rw [List.append_nil] at q'
  exact run_fnG F hr hgd hb hx I1 r q'
theorem pe_callG0 (D : DefG X.prog X.w X.K X.mg X.base CX k x ps sp) (hr : Room k X.A) (hgd : X.A.guards = some []) (hg : Gl X x) (hx : Passes CX X E)
    (hdb : (x == ("__debug__" : Str)) = false) : PE X (.Call (.Name x p) [] [] pos) (tCall sp [] E tNil) := by
  obtain ⟨f, fd, F, hm, hk, hb⟩ := D.ex
  refine ⟨fun pins s st H Q I h => ?_⟩
  refine wpAny_Call_Name_kw (ld_glob I hg hm ?_ hdb)
  exact PySem.W.callWith_K0 I.kIn hk (run_fnG (us := []) F hr hgd hb hx I .nil h)
end

/-- a def that is a function of its data -/
def spP {U A : Type} [Enc A] (en : U → List PyData) (f : U → Option A) : Sp := fun vs H Q _ => ∃ (Z : Addr → Prop) (u : U) (r : A),
  (∀ b, Z b → H b ≠ none) ∧ RpL Z H vs (en u) ∧ f u = some r ∧ ∀ v H', Same H H' → Rp Z H' v (enc r) → Q v H'
/-- a def that besides changes what a frame holds, its first argument: T of them, each with its address -/
def spD {T S U A : Type} [Enc A] (Fm_ : T → Fm S) (root : T → Addr) (en : U → List PyData) (f : U → M S A) : Sp := fun vs H Q _ => ∃ (d : T) (Zx : Addr → Prop) (u : U) (r : A) (s s' : S) (ws : List V),
  vs = .ref (root d) :: ws ∧ (Fm_ d).at_ s H ∧ (∀ b, Zx b → H b ≠ none) ∧ RpL (fun b => (Fm_ d).Z b ∨ Zx b) H ws (en u) ∧ f u s = some (r, s') ∧
    ∀ v H', (Fm_ d).at_ s' H' → Fix (Fm_ d) H H' → Rp (fun b => (Fm_ d).Z b ∨ Zx b) H' v (enc r) → Q v H'
section
variable {I S A B C U : Type} [Enc A] [Enc B] [Enc C] {Xs : I → Cx} {F : Fm S} {G : List Sl} {pos p : Pos} {e a b : Expr} {es : List Expr} {x : Str} {k : Nat} {ps : List Str}
/-- the frame's rest is no place of F -/
theorem Gd.away {Zx : Addr → Prop} {s : S} {t : St} {H : Hp} (g : Gd F Zx G s t H) : ∀ b, ZF F Zx G t b → H b ≠ none := g.all
theorem ev_call {en : U → List PyData} {f : U → Option A} {m : M S U} (D : ∀ i, DefG (Xs i).prog (Xs i).w (Xs i).K (Xs i).mg (Xs i).base CX0 k x ps (spP en f)) (hr : ∀ i, Room k (Xs i).A) (hgd : ∀ i, (Xs i).A.guards = some [])
    (ha : EA Xs F G (e :: es) m en) (hg : ∀ i, Gl (Xs i) x := by intro _; rfl) (hdb : (x == ("__debug__" : Str)) = false := by decide)
    (he : ∀ i, starEach (e :: es) (Xs i).env = (false, eval e (Xs i).env) :: starEach es (Xs i).env := by intro _; rfl) (hpl : ∀ i, (backTo pos (starEach es (Xs i).env)).any (·.1) = false := by intro _; rfl) :
    EV Xs F G (.Call (.Name x p) (e :: es) [] pos) (bindM m fun u => ofO (f u)) := by
  obtain ⟨ta, hp, ho⟩ := ha
  refine ⟨tCall (spP en f) [] E0 ta, fun i => pe_callG (D i) (hr i) (hgd i) (hg i) pass0 (hp i) hdb (he i) (hpl i), fun Zx t H s y s' g hm Q q => ?_⟩
  obtain ⟨z, s1, h1, h2⟩ := bind_some hm
  obtain ⟨h3, rfl⟩ := ofO_eq h2
  refine ho Zx t H s z s1 g h1 _ fun vs H1 g1 f1 r1 => ?_
  refine ⟨ZF F Zx G t, z, y, g1.all, by rw [List.append_nil]; exact r1, h3, fun v H' sm r => ?_⟩
  exact q v H' (g1.same sm) (f1.trans (Fix.same sm)) r
/-- a call that changes what F holds, by the name of its first argument (slot j) -/
theorem ev_callD {T : Type} {Fm_ : T → Fm S} {root : T → Addr} (d : T) {en : U → List PyData} {f : U → M S A} {m : M S U} {j : Nat} {y : Str} {py : Pos} (D : ∀ i, DefG (Xs i).prog (Xs i).w (Xs i).K (Xs i).mg (Xs i).base CX0 k x ps (spD Fm_ root en f))
    (hr : ∀ i, Room k (Xs i).A) (hgd : ∀ i, (Xs i).A.guards = some []) (hj : G[j]? = some (.raw (.ref (root d)))) (hF : F = Fm_ d) (ha : EA Xs F G es m en)
    (hN : ∀ i, (Xs i).N[j]? = some y := by intro _; rfl) (hv : ∀ i, Vis (Xs i).env.scope y := by first | exact fun _ => Or.inl rfl | exact fun _ => Or.inr (Or.inl rfl) | exact fun _ => Or.inr (Or.inr rfl))
    (hd : (y == ("__debug__" : Str)) = false := by decide) (hcd : (y == ("__classdict__" : Str)) = false := by decide) (hg : ∀ i, Gl (Xs i) x := by intro _; rfl) (hdb : (x == ("__debug__" : Str)) = false := by decide)
    (he : ∀ i, starEach (.Name y py :: es) (Xs i).env = (false, eval (.Name y py) (Xs i).env) :: starEach es (Xs i).env := by intro _; rfl) (hpl : ∀ i, (backTo pos (starEach es (Xs i).env)).any (·.1) = false := by intro _; rfl) :
    EV Xs F G (.Call (.Name x p) (.Name y py :: es) [] pos) (bindM m f) := by
  subst hF
  obtain ⟨ta, hp, ho⟩ := ha
  refine ⟨tCall (spD Fm_ root en f) [] E0 (tCons (tVar j) ta), fun i => pe_callG (D i) (hr i) (hgd i) (hg i) pass0 (pa_cons (pe_var (hN i) (hv i) hd hcd) (hp i) (he i)) hdb (he i) (hpl i), fun Zx t H s r s' g hm Q q => ?_⟩
  obtain ⟨z, s1, h1, h2⟩ := bind_some hm
  obtain ⟨hk, _⟩ := List.getElem?_eq_some_iff.mp hj
  have hk' : j < t.length := by
    rw [g.len]
    exact hk
  have ht : t[j]? = some (t[j]'hk') := List.getElem?_eq_getElem hk'
  have hs : t[j]'hk' = some (.ref (root d)) := g.slot j _ _ hj ht
  refine ⟨_, by rw [ht, hs], ?_⟩
  refine ho Zx t H s z s1 g h1 _ fun vs H1 g1 f1 r1 => ?_
  refine ⟨d, fun b => Zx b ∨ Own G t b, z, r, s1, s', vs, by rw [List.append_nil], g1.at_, fun b hb => g1.all b (.inr hb), r1, h2, fun v H' ha f2 r2 => ?_⟩
  exact q v H' (g1.fix f2 ha) (f1.trans f2) r2

theorem ok_cb {r : List V → Hp → VK → Prop} {en : U → List PyData} {f : U → Option B} {ta : TA} {m : M S U} (hr : RVC r en f) (ha : TAok F G ta m en) : TEok F G (tCB r ta) (bindM m fun u => ofO (f u)) := fun Zx t H s y s' g hm Q q => by
  obtain ⟨z, s1, h1, h2⟩ := bind_some hm
  obtain ⟨h3, rfl⟩ := ofO_eq h2
  refine ha Zx t H s z s1 g h1 _ fun vs H1 g1 f1 r1 => ?_
  exact hr F Zx G s1 t H1 z vs y g1 r1 h3 _ fun v H2 sm r2 => q v H2 (g1.same sm) (f1.trans (Fix.same sm)) r2
theorem ev_blt {id : String} {r : List V → Hp → VK → Prop} {en : U → List PyData} {f : U → Option B} {m : M S U} (hc : ∀ i, CallR (Xs i) (.builtin id) r) (hr : RVC r en f) (hm : ∀ i, (Xs i).mg x = none) (hv : bootBuiltins x = some (.builtin id))
    (ha : EA Xs F G (e :: es) m en) (hg : ∀ i, Gl (Xs i) x := by intro _; rfl) (hn : x ≠ "__name__" := by decide) (hdb : (x == ("__debug__" : Str)) = false := by decide)
    (he : ∀ i, starEach (e :: es) (Xs i).env = (false, eval e (Xs i).env) :: starEach es (Xs i).env := by intro _; rfl) (hpl : ∀ i, (backTo pos (starEach es (Xs i).env)).any (·.1) = false := by intro _; rfl) :
    EV Xs F G (.Call (.Name x p) (e :: es) [] pos) (bindM m fun u => ofO (f u)) := by
  obtain ⟨ta, hp, ho⟩ := ha
  exact ⟨tCB r ta, fun i => pe_callB (hc i) (hg i) (hm i) hv (hp i) hn hdb (he i) (hpl i), ok_cb hr ho⟩
theorem ev_ty {id : String} {r : List V → Hp → VK → Prop} {en : U → List PyData} {f : U → Option B} {m : M S U} (hc : ∀ i, CallR (Xs i) (.type id) r) (hr : RVC r en f) (hm : ∀ i, (Xs i).mg x = none) (hv : bootBuiltins x = some (.type id))
    (ha : EA Xs F G (e :: es) m en) (hg : ∀ i, Gl (Xs i) x := by intro _; rfl) (hn : x ≠ "__name__" := by decide) (hdb : (x == ("__debug__" : Str)) = false := by decide)
    (he : ∀ i, starEach (e :: es) (Xs i).env = (false, eval e (Xs i).env) :: starEach es (Xs i).env := by intro _; rfl) (hpl : ∀ i, (backTo pos (starEach es (Xs i).env)).any (·.1) = false := by intro _; rfl) :
    EV Xs F G (.Call (.Name x p) (e :: es) [] pos) (bindM m fun u => ofO (f u)) := by
  obtain ⟨ta, hp, ho⟩ := ha
  exact ⟨tCB r ta, fun i => pe_callTy (hc i) (hg i) (hm i) hv (hp i) hn hdb (he i) (hpl i), ok_cb hr ho⟩
/-- one argument -/
def en1 [Enc A] : A × Unit → List PyData := fun u => [enc u.1]
theorem ea_1 {m : M S A} (h : EV Xs F G a m) (hs : ∀ i, starEach [a] (Xs i).env = (false, eval a (Xs i).env) :: starEach [] (Xs i).env := by intro _; rfl) : EA Xs F G [a] (pairM m (pureM ())) en1 := ea_cons h ea_nil hs
theorem RpL.one {Z : Addr → Prop} {H : Hp} {vs : List V} {d : PyData} (r : RpL Z H vs [d]) : ∃ v, vs = [v] ∧ Rp Z H v d := by
  cases r with
  | cons h t =>
    cases t
    exact ⟨_, rfl, h⟩
theorem RpL.two {Z : Addr → Prop} {H : Hp} {vs : List V} {d e : PyData} (r : RpL Z H vs [d, e]) : ∃ v w, vs = [v, w] ∧ Rp Z H v d ∧ Rp Z H w e := by
  cases r with
  | cons h t =>
    obtain ⟨w, rfl, hw⟩ := t.one
    exact ⟨_, _, rfl, h, hw⟩
theorem Rp.toLst {Z : Addr → Prop} {H : Hp} {v : V} {l : List A} (r : Rp Z H v (enc l)) : ∃ p xs, v = .ref p ∧ ¬ Z p ∧ H p = some (.lst xs) ∧ RpL Z H xs (l.map enc) := by
  have r' : Rp Z H v (.list (l.map enc)) := r
  cases r' with
  | lst n h t => exact ⟨_, _, rfl, n, h, t⟩
theorem Rp.toTup {Z : Addr → Prop} {H : Hp} {v : V} {l : Tup A} (r : Rp Z H v (enc l)) : ∃ p xs, v = .ref p ∧ ¬ Z p ∧ TupB H p xs ∧ RpL Z H xs (List.map enc (unTup l)) := by
  have r' : Rp Z H v (.tuple (List.map enc (unTup l))) := r
  cases r' with
  | tup n h t => exact ⟨_, _, rfl, n, h, t⟩
def fun1M {A B : Type} (f : A → Option B) (m : M S A) : M S B := bindM m fun x => ofO (f x)
@[simp] theorem fun1M_pure {A B : Type} (f : A → Option B) (x : A) : fun1M f (pureM x : M S A) = ofO (f x) := rfl
theorem ev_b1 {id : String} {r : List V → Hp → VK → Prop} {f : A → Option B} {m : M S A} (hc : ∀ i, CallR (Xs i) (.builtin id) r) (hr : RVC r (en1 (A := A)) fun u => f u.1) (hm : ∀ i, (Xs i).mg x = none) (hv : bootBuiltins x = some (.builtin id))
    (h : EV Xs F G a m) (hg : ∀ i, Gl (Xs i) x := by intro _; rfl) (hn : x ≠ "__name__" := by decide) (hdb : (x == ("__debug__" : Str)) = false := by decide)
    (he : ∀ i, starEach [a] (Xs i).env = (false, eval a (Xs i).env) :: starEach [] (Xs i).env := by intro _; rfl) : EV Xs F G (.Call (.Name x p) [a] [] pos) (fun1M f m) := by
  refine EV.eq (ev_blt hc hr hm hv (ea_1 h he) hg hn hdb he (fun _ => rfl)) ?_
  unfold fun1M pairM
  rw [bind_assoc]
  rfl
theorem ev_t1 {id : String} {r : List V → Hp → VK → Prop} {f : A → Option B} {m : M S A} (hc : ∀ i, CallR (Xs i) (.type id) r) (hr : RVC r (en1 (A := A)) fun u => f u.1) (hm : ∀ i, (Xs i).mg x = none) (hv : bootBuiltins x = some (.type id))
    (h : EV Xs F G a m) (hg : ∀ i, Gl (Xs i) x := by intro _; rfl) (hn : x ≠ "__name__" := by decide) (hdb : (x == ("__debug__" : Str)) = false := by decide)
    (he : ∀ i, starEach [a] (Xs i).env = (false, eval a (Xs i).env) :: starEach [] (Xs i).env := by intro _; rfl) : EV Xs F G (.Call (.Name x p) [a] [] pos) (fun1M f m) := by
  refine EV.eq (ev_ty hc hr hm hv (ea_1 h he) hg hn hdb he (fun _ => rfl)) ?_
  unfold fun1M pairM
  rw [bind_assoc]
  rfl
end
section
variable {I S A B C U : Type} [Enc A] [Enc B] [Enc C] {Xs : I → Cx} {F : Fm S} {G : List Sl} {pos p : Pos} {e a b : Expr} {es : List Expr} {K : PySem.W.Frag}
theorem bb_len : bootBuiltins "len" = some (.builtin "len") := by decide +kernel
theorem bb_sum : bootBuiltins "sum" = some (.builtin "sum") := by decide +kernel
theorem bb_abs : bootBuiltins "abs" = some (.builtin "abs") := by decide +kernel
theorem bb_max : bootBuiltins "max" = some (.builtin "max") := by decide +kernel
theorem bb_min : bootBuiltins "min" = some (.builtin "min") := by decide +kernel
theorem bb_sorted : bootBuiltins "sorted" = some (.builtin "sorted") := by decide +kernel
theorem bb_int : bootBuiltins "int" = some (.type "int") := by decide +kernel
theorem bb_tuple : bootBuiltins "tuple" = some (.type "tuple") := by decide +kernel
theorem bb_list : bootBuiltins "list" = some (.type "list") := by decide +kernel
/-- len of a list, of a tuple -/
theorem ev_lenL {m : M S (List A)} (hm : ∀ i, (Xs i).mg "len" = none) (h : EV Xs F G a m) (hg : ∀ i, Gl (Xs i) "len" := by intro _; rfl)
    (he : ∀ i, starEach [a] (Xs i).env = (false, eval a (Xs i).env) :: starEach [] (Xs i).env := by intro _; rfl) (hK : ∀ i, (Xs i).K = K := by intro _; rfl) : EV Xs F G (.Call (.Name "len" p) [a] [] pos) (fun1M (fun l : List A => some (l.length : Int)) m) :=
  ev_b1 (r := fun xs H Q => ∃ p ys, xs = [.ref p] ∧ (SqL K H p ys ∨ SqT K H p ys) ∧ Q (.int ys.length) H) (fun i => by rw [← hK i]; exact call_len_seq) (fun F Zx G s t H u vs z g r e Q q => by
    obtain ⟨v, rfl, rv⟩ := r.one
    obtain ⟨pp, xs, rfl, n, h, l⟩ := rv.toLst
    cases e
    refine ⟨pp, xs, rfl, .inl (SqL.of h), ?_⟩
    rw [l.len, List.length_map]
    exact q _ H (Same.refl H) (.int _)) hm bb_len h hg (by decide) (by decide) he
theorem ev_lenT {m : M S (Tup A)} (hm : ∀ i, (Xs i).mg "len" = none) (h : EV Xs F G a m) (hg : ∀ i, Gl (Xs i) "len" := by intro _; rfl)
    (he : ∀ i, starEach [a] (Xs i).env = (false, eval a (Xs i).env) :: starEach [] (Xs i).env := by intro _; rfl) (hK : ∀ i, (Xs i).K = K := by intro _; rfl) : EV Xs F G (.Call (.Name "len" p) [a] [] pos) (fun1M (fun l : Tup A => some ((unTup l).length : Int)) m) :=
  ev_b1 (r := fun xs H Q => ∃ p ys, xs = [.ref p] ∧ (SqL K H p ys ∨ SqT K H p ys) ∧ Q (.int ys.length) H) (fun i => by rw [← hK i]; exact call_len_seq) (fun F Zx G s t H u vs z g r e Q q => by
    obtain ⟨v, rfl, rv⟩ := r.one
    obtain ⟨pp, xs, rfl, n, h, l⟩ := rv.toTup
    cases e
    refine ⟨pp, xs, rfl, .inr (h.sq), ?_⟩
    rw [l.len, List.length_map]
    exact q _ H (Same.refl H) (.int _)) hm bb_len h hg (by decide) (by decide) he
/-- sum of a list of ints -/
theorem ev_sum {m : M S (List Int)} (hm : ∀ i, (Xs i).mg "sum" = none) (h : EV Xs F G a m) (hc : ∀ i, (Xs i).calm = true := by intro _; rfl) (hg : ∀ i, Gl (Xs i) "sum" := by intro _; rfl)
    (he : ∀ i, starEach [a] (Xs i).env = (false, eval a (Xs i).env) :: starEach [] (Xs i).env := by intro _; rfl) (hK : ∀ i, (Xs i).K = K := by intro _; rfl) : EV Xs F G (.Call (.Name "sum" p) [a] [] pos) (fun1M (fun l : List Int => some l.sum) m) :=
  ev_b1 (r := rSum K) (fun i => by rw [← hK i]; exact cr_sum (hc i)) (fun F Zx G s t H u vs z g r e Q q => by
    obtain ⟨v, rfl, rv⟩ := r.one
    obtain ⟨pp, xs, rfl, n, h, l⟩ := rv.toLst
    cases e
    rw [l.ints] at h
    exact ⟨pp, u.1, rfl, SqL.of h, q _ H (Same.refl H) (.int _)⟩) hm bb_sum h hg (by decide) (by decide) he
def absI (n : Int) : Int := if n < 0 then -n else n
theorem ev_abs {m : M S Int} (hm : ∀ i, (Xs i).mg "abs" = none) (h : EV Xs F G a m) (hg : ∀ i, Gl (Xs i) "abs" := by intro _; rfl)
    (he : ∀ i, starEach [a] (Xs i).env = (false, eval a (Xs i).env) :: starEach [] (Xs i).env := by intro _; rfl) : EV Xs F G (.Call (.Name "abs" p) [a] [] pos) (fun1M (fun n : Int => some (absI n)) m) :=
  ev_b1 (fun i => call_abs) (fun F Zx G s t H u vs z g r e Q q => by
    obtain ⟨v, rfl, rv⟩ := r.one
    obtain rfl := rv.toInt
    cases e
    exact ⟨u.1, rfl, q _ H (Same.refl H) (.int _)⟩) hm bb_abs h hg (by decide) (by decide) he
/-- int of a truth value -/
def b2I (b : Bool) : Int := if b then 1 else 0
theorem ev_intB {m : M S Bool} (hm : ∀ i, (Xs i).mg "int" = none) (h : EV Xs F G a m) (hg : ∀ i, Gl (Xs i) "int" := by intro _; rfl)
    (he : ∀ i, starEach [a] (Xs i).env = (false, eval a (Xs i).env) :: starEach [] (Xs i).env := by intro _; rfl) : EV Xs F G (.Call (.Name "int" p) [a] [] pos) (fun1M (fun n : Bool => some (b2I n)) m) :=
  ev_t1 (fun i => call_int1) (fun F Zx G s t H u vs z g r e Q q => by
    obtain ⟨v, rfl, rv⟩ := r.one
    obtain rfl := rv.bool
    cases e
    exact .inr ⟨u.1, rfl, q _ H (Same.refl H) (.int _)⟩) hm bb_int h hg (by decide) (by decide) he
/-- tuple(list), list(tuple), list(list) -/
theorem ev_tupleL {m : M S (List A)} (hm : ∀ i, (Xs i).mg "tuple" = none) (h : EV Xs F G a m) (hg : ∀ i, Gl (Xs i) "tuple" := by intro _; rfl)
    (he : ∀ i, starEach [a] (Xs i).env = (false, eval a (Xs i).env) :: starEach [] (Xs i).env := by intro _; rfl) (hK : ∀ i, (Xs i).K = K := by intro _; rfl) : EV Xs F G (.Call (.Name "tuple" p) [a] [] pos) (fun1M (fun l : List A => some (toTup l)) m) :=
  ev_t1 (r := rTupB K) (fun i => by rw [← hK i]; exact cr_tupB) (fun F Zx G s t H u vs z g r e Q q => by
    obtain ⟨v, rfl, rv⟩ := r.one
    obtain ⟨pp, xs, rfl, n, h, l⟩ := rv.toLst
    cases e
    refine ⟨pp, xs, rfl, SqL.of h, fun l' ob hl hb => ?_⟩
    have sm : Same H (upd H l' (.frz ob (.tup xs))) := same_new hl
    exact q _ _ sm (.tup (g.new hl) ⟨ob, upd_same, hb⟩ (l.fix (Fix.same sm)))) hm bb_tuple h hg (by decide) (by decide) he
theorem ev_listT {m : M S (Tup A)} (hm : ∀ i, (Xs i).mg "list" = none) (h : EV Xs F G a m) (hg : ∀ i, Gl (Xs i) "list" := by intro _; rfl)
    (he : ∀ i, starEach [a] (Xs i).env = (false, eval a (Xs i).env) :: starEach [] (Xs i).env := by intro _; rfl) (hK : ∀ i, (Xs i).K = K := by intro _; rfl) : EV Xs F G (.Call (.Name "list" p) [a] [] pos) (fun1M (fun l : Tup A => some (unTup l)) m) :=
  ev_t1 (r := fun xs H Q => ∃ p ys, xs = [.ref p] ∧ (SqL K H p ys ∨ SqT K H p ys) ∧ ∀ l, H l = none → Q (.ref l) (upd H l (.lst ys))) (fun i => by rw [← hK i]; exact call_list_of) (fun F Zx G s t H u vs z g r e Q q => by
    obtain ⟨v, rfl, rv⟩ := r.one
    obtain ⟨pp, xs, rfl, n, h, l⟩ := rv.toTup
    cases e
    refine ⟨pp, xs, rfl, .inr (h.sq), fun l' hl => ?_⟩
    have sm : Same H (upd H l' (.lst xs)) := same_new hl
    exact q _ _ sm (.lst (g.new hl) upd_same (l.fix (Fix.same sm)))) hm bb_list h hg (by decide) (by decide) he
/-- sorted ints -/
def sortI (l : List Int) : List Int := l.mergeSort fun a b => decide (a ≤ b)
theorem sortI_perm (l : List Int) : (sortI l).Perm l := List.mergeSort_perm l _
theorem sortI_le (l : List Int) : (sortI l).Pairwise (· ≤ ·) := by
  have h := List.pairwise_mergeSort (le := fun a b : Int => decide (a ≤ b)) (by intro a b c h1 h2; simp at *; omega) (by intro a b; simp; omega) l
  exact h.imp (by intro a b h; simpa using h)
theorem sorted_one : ∀ {l r : List Int}, l.Perm r → l.Pairwise (· ≤ ·) → r.Pairwise (· ≤ ·) → l = r
  | [], r, p, _, _ => p.nil_eq
  | a :: l, [], p, _, _ => absurd p.symm.nil_eq (by simp)
  | a :: l, b :: r, p, h1, h2 => by
    have e : a = b := by
      have m1 : a ∈ b :: r := p.subset List.mem_cons_self
      have m2 : b ∈ a :: l := p.symm.subset List.mem_cons_self
      rcases List.mem_cons.mp m1 with z | z
      · exact z
      · rcases List.mem_cons.mp m2 with y | y
        · exact y.symm
        · have q1 := (List.pairwise_cons.mp h1).1 b y
          have q2 := (List.pairwise_cons.mp h2).1 a z
          omega
    subst e
    rw [sorted_one (List.Perm.cons_inv p) (List.pairwise_cons.mp h1).2 (List.pairwise_cons.mp h2).2]
theorem ev_sortedI {m : M S (List Int)} (hm : ∀ i, (Xs i).mg "sorted" = none) (h : EV Xs F G a m) (hg : ∀ i, Gl (Xs i) "sorted" := by intro _; rfl)
    (he : ∀ i, starEach [a] (Xs i).env = (false, eval a (Xs i).env) :: starEach [] (Xs i).env := by intro _; rfl) (hK : ∀ i, (Xs i).K = K := by intro _; rfl) : EV Xs F G (.Call (.Name "sorted" p) [a] [] pos) (fun1M (fun l : List Int => some (sortI l)) m) :=
  ev_b1 (r := rSortedI K) (fun i => by rw [← hK i]; exact cr_sortedI) (fun F Zx G s t H u vs z g r e Q q => by
    obtain ⟨v, rfl, rv⟩ := r.one
    obtain ⟨pp, xs, rfl, n, h, l⟩ := rv.toLst
    cases e
    rw [l.ints] at h
    refine ⟨pp, u.1, rfl, SqL.of h, fun ns' l' hp hs hl => ?_⟩
    obtain rfl : ns' = sortI u.1 := sorted_one (hp.trans (sortI_perm _).symm) hs (sortI_le _)
    have sm : Same H (upd H l' (.lst ((sortI u.1).map V.int))) := same_new hl
    exact q _ _ sm (.lst (g.new hl) upd_same (RpL.of_ints _))) hm bb_sorted h hg (by decide) (by decide) he
end
end PL

namespace PL
open PySem L2 Enc

section
variable {I S A B C : Type} [Enc A] [Enc B] [Enc C] {Xs : I → Cx} {F : Fm S} {G G' : List Sl} {pos p : Pos} {e a b tg iter : Expr} {es : List Expr}
def teU (Xs : I → Cx) (e : Expr) : TE := fun t H Q => ∃ te : TE, (∀ i, PE (Xs i) e te) ∧ te t H Q
theorem teU_pe (i : I) : PE (Xs i) e (teU Xs e) := ⟨fun pins s t H Q J ⟨te, hp, h⟩ => (hp i).run pins s t H Q J h⟩
theorem EV.uni {m : M S A} (h : EV Xs F G e m) : TEok F G (teU Xs e) m := by
  obtain ⟨te, hp, ho⟩ := h
  exact fun Zx t H s a s' g hm Q q => ⟨te, hp, ho Zx t H s a s' g hm Q q⟩
def EI (Xs : I → Cx) (F : Fm S) (G : List Sl) (ifs : List Expr) (m : M S Bool) : Prop := ∃ tt, (∀ i, PTs (Xs i) ifs tt) ∧ TTok F G tt m
theorem ei_nil : EI Xs F G [] (pureM true) := ⟨tYes, fun _ => pts_nil, fun Zx t H s b s' g hm Q q => by
  obtain ⟨rfl, rfl⟩ := pure_eq hm
  exact q H g (Fix.refl H)⟩
theorem ei_one {m : M S Bool} (h : ET Xs F G e m) : EI Xs F G [e] m := let ⟨t, hp, ho⟩ := h; ⟨t, fun i => pts_one (hp i), ho⟩
def tiU (Xs : I → Cx) (es : List Expr) : TT := fun t H Q => ∃ tt : TT, (∀ i, PTs (Xs i) es tt) ∧ tt t H Q
theorem tiU_pt (i : I) : PTs (Xs i) es (tiU Xs es) := ⟨fun pins s t H Q J ⟨te, hp, h⟩ => (hp i).run pins s t H Q J h⟩
theorem EI.uni {m : M S Bool} (h : EI Xs F G es m) : TTok F G (tiU Xs es) m := by
  obtain ⟨te, hp, ho⟩ := h
  exact fun Zx t H s a s' g hm Q q => ⟨te, hp, ho Zx t H s a s' g hm Q q⟩

def noOwn (G : List Sl) (ks : List Nat) : Bool := ks.all fun k => match G[k]? with
  | some (.own _) => false
  | _ => true
theorem noOwn_at {ks : List Nat} {k : Nat} {d : PyData} (h : noOwn G ks = true) (hk : k ∈ ks) : G[k]? ≠ some (.own d) := fun z => by
  have q := List.all_eq_true.mp h k hk
  rw [z] at q
  cases q
/-- names at ks alone are bound anew -/
structure Bound_ (F : Fm S) (Zx : Addr → Prop) (G' : List Sl) (s : S) (t t' : St) (H : Hp) (G : List Sl) (ks : List Nat) : Prop where
  gd : Gd F Zx G' s t' H
  own : ∀ b, Own G' t' b ↔ Own G t b
  else_ : ∀ j, j ∉ ks → t'[j]? = t[j]?
  len : t'.length = t.length
/-- what a target is handed: a tuple that is taken apart need not be known as bare -/
def Rt (tg : Expr) (Z : Addr → Prop) (H : Hp) (v : V) (d : PyData) : Prop := Rp Z H v d ∨ (∃ es k p, tg = .Tuple es k p) ∧ ∃ (T : Addr) (xs : List V) (ds : List PyData), v = .ref T ∧ d = .tuple ds ∧ ¬ Z T ∧ H T = some (.tup xs) ∧ RpL Z H xs ds
theorem Rt.of {tg : Expr} {Z : Addr → Prop} {H : Hp} {v : V} {d : PyData} (r : Rp Z H v d) : Rt tg Z H v d := .inl r
theorem Rt.ext {tg : Expr} {Z Z' : Addr → Prop} {H H' : Hp} {v : V} {d : PyData} (e : Ext Z H Z' H') (r : Rt tg Z H v d) : Rt tg Z' H' v d := by
  rcases r with r | ⟨h, T, xs, ds, e1, e2, n, h1, r⟩
  · exact .inl (r.ext e)
  · exact .inr ⟨h, T, xs, ds, e1, e2, e.not n h1, e.1 _ _ n h1, r.ext e⟩
theorem Rt.name {x : Str} {p : Pos} {Z : Addr → Prop} {H : Hp} {v : V} {d : PyData} (r : Rt (.Name x p) Z H v d) : Rp Z H v d := by
  rcases r with r | ⟨⟨_, _, _, h⟩, _⟩
  · exact r
  · cases h
theorem Rt.parts {K : PySem.W.Frag} {tg : Expr} {Z : Addr → Prop} {H : Hp} {v : V} {ds : List PyData} (r : Rt tg Z H v (.tuple ds)) : ∃ T xs, v = .ref T ∧ SqT K H T xs ∧ RpL Z H xs ds := by
  rcases r with r | ⟨_, T, xs, ds', e1, e2, n, h1, r⟩
  · cases r with
    | tup n e1 l1 => exact ⟨_, _, rfl, e1.sq, l1⟩
  · cases e2
    exact ⟨T, xs, e1, SqT.of h1, r⟩
def GBok (tg : Expr) (F : Fm S) (G : List Sl) (g : TG) (d : PyData) (G' : List Sl) (ks : List Nat) : Prop :=
  ∀ Zx t H s v, Gd F Zx G s t H → Rt tg (ZF F Zx G t) H v d → ∀ Q : St → Hp → Prop, (∀ t', Bound_ F Zx G' s t t' H G ks → Q t' H) → g v t H Q
def GBsok (F : Fm S) (G : List Sl) (g : TGs) (d : List PyData) (G' : List Sl) (ks : List Nat) : Prop :=
  ∀ Zx t H s v, Gd F Zx G s t H → RpL (ZF F Zx G t) H v d → ∀ Q : St → Hp → Prop, (∀ t', Bound_ F Zx G' s t t' H G ks → Q t' H) → g v t H Q
def BD (Xs : I → Cx) (F : Fm S) (G : List Sl) (tg : Expr) (d : PyData) (G' : List Sl) (ks : List Nat) : Prop := ∃ g, (∀ i, PG (Xs i) tg g) ∧ GBok tg F G g d G' ks
def BDs (Xs : I → Cx) (F : Fm S) (G : List Sl) (es : List Expr) (d : List PyData) (G' : List Sl) (ks : List Nat) : Prop := ∃ g, (∀ i, PGs (Xs i) es g) ∧ GBsok F G g d G' ks
theorem own_set {k : Nat} {d : PyData} {t : St} {o : Option V} (h : noOwn G [k] = true) (b : Addr) : Own (G.set k (.dat d)) (t.set k o) b ↔ Own G t b := by
  constructor
  · rintro ⟨i, d', h1, h2⟩
    by_cases hi : k = i
    · subst hi
      rw [List.getElem?_set] at h1
      by_cases hl : k < G.length
      · rw [if_pos rfl, if_pos hl] at h1
        cases h1
      · rw [if_pos rfl, if_neg hl] at h1
        cases h1
    · rw [List.getElem?_set_ne hi] at h1 h2
      exact ⟨i, d', h1, h2⟩
  · rintro ⟨i, d', h1, h2⟩
    have hi : k ≠ i := fun z => by
      subst z
      exact noOwn_at h List.mem_cons_self h1
    exact ⟨i, d', by rw [List.getElem?_set_ne hi]; exact h1, by rw [List.getElem?_set_ne hi]; exact h2⟩
theorem Gd.set {Zx : Addr → Prop} {s : S} {t : St} {H : Hp} {k : Nat} {d : PyData} {v : V} (g : Gd F Zx G s t H) (h : noOwn G [k] = true) (r : Rp (ZF F Zx G t) H v d) : Gd F Zx (G.set k (.dat d)) s (t.set k (some v)) H := by
  have own := fun b => own_set (d := d) (t := t) (o := some v) h b
  have ez : ZF F Zx (G.set k (.dat d)) (t.set k (some v)) = ZF F Zx G t := funext fun b => propext ⟨fun z => z.imp id (Or.imp id (own b).mp), fun z => z.imp id (Or.imp id (own b).mpr)⟩
  refine ⟨by rw [List.length_set, List.length_set]; exact g.len, g.at_, g.trk, fun i l o h1 h2 => ?_, fun i j d1 d2 p h1 h2 h3 h4 => ?_, fun p z => g.sep p ((own p).mp z)⟩
  · rw [ez]
    by_cases hi : k = i
    · subst hi
      rw [List.getElem?_set] at h1 h2
      by_cases hl : k < G.length
      · rw [if_pos rfl, if_pos hl] at h1
        rw [if_pos rfl, if_pos (by rw [g.len]; exact hl)] at h2
        cases h1
        cases h2
        exact ⟨v, rfl, r⟩
      · rw [if_pos rfl, if_neg hl] at h1
        cases h1
    · rw [List.getElem?_set_ne hi] at h1 h2
      exact g.slot i l o h1 h2
  · have hi : ∀ {i : Nat} {d' : PyData}, (G.set k (.dat d))[i]? = some (.own d') → k ≠ i := fun {i d'} q z => by
      subst z
      rw [List.getElem?_set] at q
      by_cases hl : k < G.length
      · rw [if_pos rfl, if_pos hl] at q
        cases q
      · rw [if_pos rfl, if_neg hl] at q
        cases q
    have ni := hi h1
    have nj := hi h2
    rw [List.getElem?_set_ne ni] at h1 h3
    rw [List.getElem?_set_ne nj] at h2 h4
    exact g.inj i j d1 d2 p h1 h2 h3 h4
theorem bd_name {k : Nat} {x : Str} {d : PyData} (h : noOwn G [k] = true := by rfl) (hN : ∀ i, (Xs i).N.Nodup) (hi : ∀ i, (Xs i).N[k]? = some x := by intro _; rfl)
    (hx : ∀ i, Loc (Xs i).env.scope x := by first | exact fun _ => Or.inl rfl | exact fun _ => Or.inr rfl) (hf : ∀ i, (Xs i).fn x = true ∨ (Xs i).env.scope.names.lookup x = some .local := by first | exact fun _ => .inl rfl | exact fun _ => .inr rfl) :
    BD Xs F G (.Name x pos) d (G.set k (.dat d)) [k] := by
  refine ⟨gName k, fun i => pg_name (hN i) (hi i) (hx i) (hf i), fun Zx t H s v g r Q q => ?_⟩
  exact q _ ⟨g.set h r.name, fun b => own_set h b, fun j hj => by rw [List.getElem?_set_ne (fun z => hj (by rw [z]; exact List.mem_cons_self))], List.length_set⟩
theorem bds_nil : BDs Xs F G [] [] G [] := ⟨gNil, fun _ => pgs_nil, fun Zx t H s v g r Q q => by
  cases r
  exact ⟨rfl, q t ⟨g, fun _ => Iff.rfl, fun _ _ => rfl, rfl⟩⟩⟩
theorem bds_cons {G1 : List Sl} {d : PyData} {ds : List PyData} {ks ls : List Nat} (h : BD Xs F G e d G1 ks) (h2 : BDs Xs F G1 es ds G' ls)
    (hs : ∀ i, (assignEach (e :: es) (Xs i).env).map (·.2) = assign e (Xs i).env :: (assignEach es (Xs i).env).map (·.2) := by intro _; rfl) : BDs Xs F G (e :: es) (d :: ds) G' (ks ++ ls) := by
  obtain ⟨g1, hp, ho⟩ := h
  obtain ⟨g2, hq, hw⟩ := h2
  refine ⟨gCons g1 g2, fun i => pgs_cons (hp i) (hq i) (hs i), fun Zx t H s v g r Q q => ?_⟩
  cases r with
  | cons r1 r2 =>
    refine ⟨_, _, rfl, ?_⟩
    refine ho Zx t H s _ g (.of r1) _ fun t1 b1 => ?_
    have r2' := r2.ext (Z' := ZF F Zx G1 t1) (Ext.less fun b z => z.imp id (Or.imp id (b1.own b).mp))
    refine hw Zx t1 H s _ b1.gd r2' _ fun t2 b2 => ?_
    refine q t2 ⟨b2.gd, fun b => (b2.own b).trans (b1.own b), fun j hj => ?_, b2.len.trans b1.len⟩
    rw [List.mem_append] at hj
    rw [b2.else_ j (fun z => hj (.inr z)), b1.else_ j (fun z => hj (.inl z))]
theorem bd_tup {k n : Nat} {ds : List PyData} {ks : List Nat} (h : BDs Xs F G es ds G' ks) (hc : ∀ i, (Xs i).calm = true := by intro _; rfl) (hl : ds.length = n := by rfl)
    (hn : ∀ i, (assignEach es (Xs i).env).length = n := by intro _; rfl) (hst : ∀ i, (assignEach es (Xs i).env).findIdx? (·.1) = none := by intro _; rfl) {K : PySem.W.Frag} (hK : ∀ i, (Xs i).K = K := by intro _; rfl) :
    BD Xs F G (.Tuple es k pos) (.tuple ds) G' ks := by
  obtain ⟨g1, hp, ho⟩ := h
  refine ⟨gTup K n g1, fun i => by rw [← hK i]; exact pg_tup (hc i) (hp i) (hn i) (hst i), fun Zx t H s v g r Q q => ?_⟩
  obtain ⟨T, xs, rfl, e1, l1⟩ := r.parts
  exact ⟨_, _, rfl, e1, by rw [l1.len, hl], ho Zx t H s _ g l1 Q q⟩
def tgU (Xs : I → Cx) (e : Expr) : TG := fun v t H Q => ∃ g : TG, (∀ i, PG (Xs i) e g) ∧ g v t H Q
theorem tgU_pg (i : I) : PG (Xs i) e (tgU Xs e) := ⟨fun pins s t H v u Q J r ⟨te, hp, h⟩ => (hp i).run pins s t H v u Q J r h⟩
theorem BD.uni {d : PyData} {ks : List Nat} (h : BD Xs F G e d G' ks) : GBok e F G (tgU Xs e) d G' ks := by
  obtain ⟨te, hp, ho⟩ := h
  exact fun Zx t H s v g r Q q => ⟨te, hp, ho Zx t H s v g r Q q⟩

def ItOk (tg : Expr) (J : It) (l : List A) (Z : Addr → Prop) (H1 : Hp) : Prop := ∀ Z' H, Ext Z H1 Z' H → (∀ b, Z' b → H b ≠ none) →
  (∀ i x, l[i]? = some x → J.go i H ∧ ∀ v H', J.yld i H v H' → Same H H' ∧ Rt tg Z' H' v (enc x)) ∧ ∀ i, l.length ≤ i → J.stop i H
def IV (Xs : I → Cx) (F : Fm S) (G : List Sl) (tg iter : Expr) (m : M S (List A)) : Prop := ∃ wi, (∀ i, PI (Xs i) tg iter wi) ∧
  ∀ Zx t H s l s', Gd F Zx G s t H → m s = some (l, s') → ∀ R : It → Hp → Prop, (∀ J H', Gd F Zx G s' t H' → Fix F H H' → ItOk tg J l (ZF F Zx G t) H' → R J H') → wi t H R
theorem iv_list {m : M S (List A)} (h : EV Xs F G iter m) {K : PySem.W.Frag} (hK : ∀ i, (Xs i).K = K := by intro _; rfl) : IV Xs F G tg iter m := by
  obtain ⟨te, hp, ho⟩ := h
  refine ⟨iList K te, fun i => by rw [← hK i]; exact pi_list (hp i), fun Zx t H s l s' g hm R q => ?_⟩
  refine ho Zx t H s l s' g hm _ fun v H1 g1 f1 r1 => ?_
  obtain ⟨pp, xs, rfl, n, h, r⟩ := r1.toLst
  refine ⟨pp, rfl, ⟨xs, SqL.of h⟩, q _ H1 g1 f1 fun Z' H2 ex tr => ⟨fun i x hx => ?_, fun i hi => ?_⟩⟩
  · have h2 := ex.1 _ _ n h
    have r2 := r.ext ex
    obtain ⟨y, hy, ry⟩ := r2.get (i := i) (x := enc x) (by rw [List.getElem?_map, hx]; rfl)
    refine ⟨⟨xs, y, SqL.of h2, hy⟩, fun v H' ⟨e1, e2⟩ => ?_⟩
    subst e1
    have e3 := e2 xs (SqL.of h2)
    rw [hy] at e3
    cases e3
    exact ⟨Same.refl _, .of ry⟩
  · exact ⟨xs, SqL.of (ex.1 _ _ n h), by rw [r.len, List.length_map]; exact hi⟩
theorem iv_tup {m : M S (Tup A)} (h : EV Xs F G iter m) {K : PySem.W.Frag} (hK : ∀ i, (Xs i).K = K := by intro _; rfl) : IV Xs F G tg iter (mapM1 unTup m) := by
  obtain ⟨te, hp, ho⟩ := h
  refine ⟨iTup K te, fun i => by rw [← hK i]; exact pi_tup (hp i), fun Zx t H s l s' g hm R q => ?_⟩
  obtain ⟨z, s1, h1, h2⟩ := bind_some hm
  obtain ⟨rfl, rfl⟩ := pure_eq h2
  refine ho Zx t H s z s1 g h1 _ fun v H1 g1 f1 r1 => ?_
  obtain ⟨pp, xs, rfl, n, h, r⟩ := r1.toTup
  refine ⟨pp, rfl, ⟨xs, h.sq⟩, q _ H1 g1 f1 fun Z' H2 ex tr => ⟨fun i x hx => ?_, fun i hi => ?_⟩⟩
  · have h2 := h.at_ fun o q => ex.1 _ o n q
    have r2 := r.ext ex
    obtain ⟨y, hy, ry⟩ := r2.get (i := i) (x := enc x) (by rw [List.getElem?_map, hx]; rfl)
    refine ⟨⟨xs, y, h2.sq, hy⟩, fun v H' ⟨e1, e2⟩ => ?_⟩
    subst e1
    have e3 := e2 xs h2.sq
    rw [hy] at e3
    cases e3
    exact ⟨Same.refl _, .of ry⟩
  · exact ⟨xs, (h.at_ fun o q => ex.1 _ o n q).sq, by rw [r.len, List.length_map]; exact hi⟩
/-- lo, .., hi - 1 -/
def rangeL (lo hi : Int) : List Int := (List.range (hi - lo).toNat).map fun (i : Nat) => lo + (i : Int)
def rgOk (n : Int) : Prop := -(2 ^ 62) ≤ n ∧ n < 2 ^ 62
instance (n : Int) : Decidable (rgOk n) := inferInstanceAs (Decidable (_ ∧ _))
theorem range_ok {tg : Expr} (lo : Int) (n : Nat) (Z : Addr → Prop) (H1 : Hp) : ItOk tg (Itr lo n) ((List.range n).map fun (i : Nat) => lo + (i : Int)) Z H1 := fun Z' H ex tr => ⟨fun i x hx => by
  rw [List.getElem?_map] at hx
  cases hr : (List.range n)[i]? with
  | none =>
    rw [hr] at hx
    cases hx
  | some j =>
    rw [hr] at hx
    obtain ⟨h1, h2⟩ := List.getElem?_eq_some_iff.mp hr
    rw [List.length_range] at h1
    rw [List.getElem_range] at h2
    subst h2
    have hx' : lo + (i : Int) = x := Option.some.inj hx
    subst hx'
    exact ⟨h1, fun v H' ⟨e1, e2⟩ => by
      subst e1
      subst e2
      exact ⟨Same.refl _, .of (.int _)⟩⟩, fun i hi => by
  rw [List.length_map, List.length_range] at hi
  exact hi⟩
theorem iv_range1 {m : M S Int} (hm : ∀ i, (Xs i).mg "range" = none) (h : EV Xs F G a m) (hg : ∀ i, Gl (Xs i) "range" := by intro _; rfl) (hs : ∀ i, starEach [a] (Xs i).env = [(false, eval a (Xs i).env)] := by intro _; rfl) :
    IV Xs F G tg (.Call (.Name "range" p) [a] [] pos) (bindM m fun n => guardM (rgOk n) (pureM (rangeL 0 n))) := by
  obtain ⟨te, hp, ho⟩ := h
  refine ⟨iRng1 (tCons te tNil), fun i => pi_range1 (hg i) (hm i) (pa_cons (hp i) pa_nil (hs i)) (hs i), fun Zx t H s l s' g hm' R q => ?_⟩
  obtain ⟨z, s1, h1, h2⟩ := bind_some hm'
  obtain ⟨hz, h3⟩ := guard_eq h2
  obtain ⟨rfl, rfl⟩ := pure_eq h3
  refine ho Zx t H s z s1 g h1 _ fun v H1 g1 f1 r1 => ?_
  obtain rfl := r1.toInt
  refine ⟨z, rfl, hz.1, hz.2, q _ H1 g1 f1 ?_⟩
  have := range_ok (tg := tg) 0 z.toNat (ZF F Zx G t) H1
  unfold rangeL
  rw [Int.sub_zero]
  exact this
theorem iv_range2 {m n : M S Int} (hm : ∀ i, (Xs i).mg "range" = none) (h : EV Xs F G a m) (h' : EV Xs F G b n) (hg : ∀ i, Gl (Xs i) "range" := by intro _; rfl) (hs : ∀ i, starEach [a, b] (Xs i).env = [(false, eval a (Xs i).env), (false, eval b (Xs i).env)] := by intro _; rfl)
    (hs2 : ∀ i, starEach [b] (Xs i).env = [(false, eval b (Xs i).env)] := by intro _; rfl) :
    IV Xs F G tg (.Call (.Name "range" p) [a, b] [] pos) (bindM m fun lo => bindM n fun hi => guardM (rgOk lo ∧ rgOk hi) (pureM (rangeL lo hi))) := by
  obtain ⟨te, hp, ho⟩ := h
  obtain ⟨tf, hp', ho'⟩ := h'
  refine ⟨iRng2 (tCons te (tCons tf tNil)), fun i => pi_range2 (hg i) (hm i) (pa_cons (hp i) (pa_cons (hp' i) pa_nil (hs2 i)) (by rw [hs i, hs2 i])) (hs i) (hs2 i), fun Zx t H s l s' g hm' R q => ?_⟩
  obtain ⟨z, s1, h1, h2⟩ := bind_some hm'
  obtain ⟨y, s2, h3, h4⟩ := bind_some h2
  obtain ⟨hz, h5⟩ := guard_eq h4
  obtain ⟨rfl, rfl⟩ := pure_eq h5
  refine ho Zx t H s z s1 g h1 _ fun v H1 g1 f1 r1 => ?_
  refine ho' Zx t H1 s1 y s2 g1 h3 _ fun v2 H2 g2 f2 r2 => ?_
  obtain rfl := r1.toInt
  obtain rfl := r2.toInt
  exact ⟨z, y, rfl, ⟨hz.1.1, hz.1.2, hz.2.1, hz.2.2⟩, q _ H2 g2 (f1.trans f2) (range_ok z _ _ _)⟩
theorem Gd.fresh_tup {es : List Expr} {k : Nat} {p : Pos} {Z' : Addr → Prop} {H : Hp} {T : Addr} {xs : List V} {ds : List PyData} (tr : ∀ b, Z' b → H b ≠ none) (hT : H T = none) (r : RpL Z' H xs ds) : Rt (.Tuple es k p) Z' (upd H T (.tup xs)) (.ref T) (.tuple ds) :=
  .inr ⟨⟨es, k, p, rfl⟩, T, xs, ds, rfl, rfl, fun z => tr T z hT, upd_same, r.ext ⟨fun b o _ h => same_new hT b o h, fun b z => .inl z⟩⟩
theorem iv_zip {m : M S (List A)} {n : M S (List B)} {elts : List Expr} {kk : Nat} {tpos : Pos} (hm : ∀ i, (Xs i).mg "zip" = none) (h : EV Xs F G a m) (h' : EV Xs F G b n) (hg : ∀ i, Gl (Xs i) "zip" := by intro _; rfl)
    (hs1 : ∀ i, starEach [a, b] (Xs i).env = (false, eval a (Xs i).env) :: starEach [b] (Xs i).env := by intro _; rfl) (hs2 : ∀ i, starEach [b] (Xs i).env = (false, eval b (Xs i).env) :: starEach [] (Xs i).env := by intro _; rfl)
    (hpl : ∀ i, (backTo pos (starEach [b] (Xs i).env)).any (·.1) = false := by intro _; rfl) {K : PySem.W.Frag} (hK : ∀ i, (Xs i).K = K := by intro _; rfl) : IV Xs F G (.Tuple elts kk tpos) (.Call (.Name "zip" p) [a, b] [] pos) (bindM m fun x => bindM n fun y => pureM (x.zip y)) := by
  obtain ⟨te, hp, ho⟩ := h
  obtain ⟨tf, hp', ho'⟩ := h'
  refine ⟨iZip K (tCons te (tCons tf tNil)), fun i => by rw [← hK i]; exact pi_zip (hg i) (hm i) (pa_cons (hp i) (pa_cons (hp' i) pa_nil (hs2 i)) (hs1 i)) (hs1 i) (hpl i), fun Zx t H s l s' g hm' R q => ?_⟩
  obtain ⟨z, s1, h1, h2⟩ := bind_some hm'
  obtain ⟨y, s2, h3, h4⟩ := bind_some h2
  obtain ⟨rfl, rfl⟩ := pure_eq h4
  refine ho Zx t H s z s1 g h1 _ fun v H1 g1 f1 r1 => ?_
  refine ho' Zx t H1 s1 y s2 g1 h3 _ fun v2 H2 g2 f2 r2 => ?_
  obtain ⟨p1, xs, rfl, n1, e1, l1⟩ := (r1.fix f2).toLst
  obtain ⟨p2, ys, rfl, n2, e2, l2⟩ := r2.toLst
  refine ⟨p1, p2, xs, ys, rfl, SqL.of e1, SqL.of e2, q _ H2 g2 (f1.trans f2) fun Z' H3 ex tr => ⟨fun i x hx => ?_, fun i hi => ?_⟩⟩
  · obtain ⟨x1, x2⟩ := x
    rw [List.getElem?_zip_eq_some] at hx
    obtain ⟨hx1, hx2⟩ := hx
    have k1 := ex.1 _ _ n1 e1
    have k2 := ex.1 _ _ n2 e2
    obtain ⟨y1, hy1, ry1⟩ := (l1.ext ex).get (i := i) (x := enc x1) (by rw [List.getElem?_map, hx1]; rfl)
    obtain ⟨y2, hy2, ry2⟩ := (l2.ext ex).get (i := i) (x := enc x2) (by rw [List.getElem?_map, hx2]; rfl)
    refine ⟨⟨xs, ys, y1, y2, SqL.of k1, SqL.of k2, hy1, hy2⟩, fun v H' hyl => ?_⟩
    obtain ⟨T, w1, w2, rfl, hT, rfl, q1, q2⟩ := hyl
    have e3 := q1 xs (SqL.of k1)
    have e4 := q2 ys (SqL.of k2)
    rw [hy1] at e3
    rw [hy2] at e4
    cases e3
    cases e4
    exact ⟨same_new hT, Gd.fresh_tup tr hT (.cons ry1 (.cons ry2 .nil))⟩
  · refine ⟨xs, ys, SqL.of (ex.1 _ _ n1 e1), SqL.of (ex.1 _ _ n2 e2), ?_⟩
    rw [l1.len, l2.len, List.length_map, List.length_map]
    rw [List.length_zip] at hi
    omega
theorem iv_enum {m : M S (List A)} {elts : List Expr} {kk : Nat} {tpos : Pos} (hm : ∀ i, (Xs i).mg "enumerate" = none) (h : EV Xs F G a m) (hg : ∀ i, Gl (Xs i) "enumerate" := by intro _; rfl)
    (hs1 : ∀ i, starEach [a] (Xs i).env = (false, eval a (Xs i).env) :: starEach [] (Xs i).env := by intro _; rfl) {K : PySem.W.Frag} (hK : ∀ i, (Xs i).K = K := by intro _; rfl) :
    IV Xs F G (.Tuple elts kk tpos) (.Call (.Name "enumerate" p) [a] [] pos) (bindM m fun x => pureM (x.zipIdx.map fun q => ((q.2 : Int), q.1))) := by
  obtain ⟨te, hp, ho⟩ := h
  refine ⟨iEnum K (tCons te tNil), fun i => by rw [← hK i]; exact pi_enum (hg i) (hm i) (pa_cons (hp i) pa_nil (hs1 i)) (hs1 i), fun Zx t H s l s' g hm' R q => ?_⟩
  obtain ⟨z, s1, h1, h2⟩ := bind_some hm'
  obtain ⟨rfl, rfl⟩ := pure_eq h2
  refine ho Zx t H s z s1 g h1 _ fun v H1 g1 f1 r1 => ?_
  obtain ⟨p1, xs, rfl, n1, e1, l1⟩ := r1.toLst
  refine ⟨p1, xs, rfl, SqL.of e1, q _ H1 g1 f1 fun Z' H3 ex tr => ⟨fun i x hx => ?_, fun i hi => ?_⟩⟩
  · rw [List.getElem?_map, List.getElem?_zipIdx] at hx
    cases hz : z[i]? with
    | none =>
      rw [hz] at hx
      cases hx
    | some x1 =>
      rw [hz] at hx
      have hx' : ((0 + i : Nat) : Int) = x.1 ∧ x1 = x.2 := by
        have := Option.some.inj hx
        rw [← this]
        exact ⟨rfl, rfl⟩
      have k1 := ex.1 _ _ n1 e1
      obtain ⟨y1, hy1, ry1⟩ := (l1.ext ex).get (i := i) (x := enc x1) (by rw [List.getElem?_map, hz]; rfl)
      refine ⟨⟨xs, y1, SqL.of k1, hy1⟩, fun v H' hyl => ?_⟩
      obtain ⟨T, w1, rfl, hT, rfl, q1⟩ := hyl
      have e3 := q1 xs (SqL.of k1)
      rw [hy1] at e3
      cases e3
      refine ⟨same_new hT, ?_⟩
      have := Gd.fresh_tup (es := elts) (k := kk) (p := tpos) tr hT (.cons (.int (i : Nat)) (.cons ry1 .nil))
      show Rt _ Z' _ _ (.tuple [enc x.1, enc x.2])
      rw [← hx'.1, ← hx'.2, Nat.zero_add]
      exact this
  · refine ⟨xs, SqL.of (ex.1 _ _ n1 e1), ?_⟩
    rw [l1.len, List.length_map]
    rw [List.length_map, List.length_zipIdx] at hi
    exact hi

def lcM {A B : Type} (p : A → M S Bool) (f : A → M S B) : List A → M S (List B)
  | [] => pureM []
  | x :: l => bindM (p x) fun c => if c then bindM (f x) fun y => bindM (lcM p f l) fun r => pureM (y :: r) else lcM p f l
def wipeG (G : List Sl) : List Nat → List Sl
  | [] => G
  | v :: vs => (wipeG G vs).set v .un
theorem wipeG_get {G : List Sl} {i : Nat} {l : Sl} : ∀ {vs : List Nat}, (wipeG G vs)[i]? = some l → l = .un ∨ (G[i]? = some l ∧ i ∉ vs)
  | [], h => .inr ⟨h, by simp⟩
  | v :: vs, h => by
    have h' : ((wipeG G vs).set v .un)[i]? = some l := h
    rw [List.getElem?_set] at h'
    by_cases e : v = i
    · rw [if_pos e] at h'
      split at h'
      · cases h'
        exact .inl rfl
      · cases h'
    · rw [if_neg e] at h'
      rcases wipeG_get h' with q | ⟨q, n⟩
      · exact .inl q
      · exact .inr ⟨q, fun z => (List.mem_cons.mp z).elim (fun y => e y.symm) n⟩
theorem wipeG_keep {G : List Sl} {i : Nat} : ∀ {vs : List Nat}, i ∉ vs → (wipeG G vs)[i]? = G[i]?
  | [], _ => rfl
  | v :: vs, h => by
    show ((wipeG G vs).set v .un)[i]? = G[i]?
    rw [List.getElem?_set_ne (fun z => h (by rw [z]; exact List.mem_cons_self)), wipeG_keep fun z => h (List.mem_cons_of_mem _ z)]
theorem wipe_keep {t : St} {i : Nat} : ∀ {vs : List Nat}, i ∉ vs → (wipe t vs)[i]? = t[i]?
  | [], _ => rfl
  | v :: vs, h => by
    show ((wipe t vs).set v none)[i]? = t[i]?
    rw [List.getElem?_set_ne (fun z => h (by rw [z]; exact List.mem_cons_self)), wipe_keep fun z => h (List.mem_cons_of_mem _ z)]
theorem wipeG_len (G : List Sl) : ∀ vs : List Nat, (wipeG G vs).length = G.length
  | [] => rfl
  | v :: vs => by
    show ((wipeG G vs).set v .un).length = _
    rw [List.length_set, wipeG_len G vs]
theorem wipe_at {t : St} {i : Nat} {o : Option V} : ∀ {vs : List Nat}, (wipe t vs)[i]? = some o → i ∈ vs → o = none
  | [], _, h => by simp at h
  | v :: vs, h, hi => by
    have h' : ((wipe t vs).set v none)[i]? = some o := h
    rw [List.getElem?_set] at h'
    by_cases e : v = i
    · rw [if_pos e] at h'
      split at h'
      · cases h'
        rfl
      · cases h'
    · rw [if_neg e] at h'
      exact wipe_at h' ((List.mem_cons.mp hi).elim (fun z => absurd z.symm e) id)
theorem wipe_eq {t t' : St} {vs : List Nat} (h : ∀ j, j ∉ vs → t'[j]? = t[j]?) (hl : t'.length = t.length) : wipe t' vs = wipe t vs := by
  apply List.ext_getElem?
  intro j
  by_cases hj : j ∈ vs
  · cases e1 : (wipe t' vs)[j]? with
    | none =>
      have q := List.getElem?_eq_none_iff.mp e1
      rw [wipe_length, hl] at q
      exact (List.getElem?_eq_none_iff.mpr (by rw [wipe_length]; exact q)).symm
    | some o =>
      obtain rfl := wipe_at e1 hj
      have q := (List.getElem?_eq_some_iff.mp e1).1
      rw [wipe_length, hl] at q
      have q2 : j < (wipe t vs).length := by
        rw [wipe_length]
        exact q
      have e2 : (wipe t vs)[j]? = some ((wipe t vs)[j]'q2) := List.getElem?_eq_getElem q2
      have e3 := wipe_at e2 hj
      rw [e2, e3]
  · rw [wipe_keep hj, wipe_keep hj, h j hj]
theorem own_wipe {t : St} {vs : List Nat} (h : noOwn G vs = true) (b : Addr) : Own (wipeG G vs) (wipe t vs) b ↔ Own G t b := by
  constructor
  · rintro ⟨i, d, h1, h2⟩
    rcases wipeG_get h1 with z | ⟨z, n⟩
    · cases z
    · rw [wipe_keep n] at h2
      exact ⟨i, d, z, h2⟩
  · rintro ⟨i, d, h1, h2⟩
    have n : i ∉ vs := fun z => noOwn_at h z h1
    exact ⟨i, d, by rw [wipeG_keep n]; exact h1, by rw [wipe_keep n]; exact h2⟩
theorem zf_wipe {Zx : Addr → Prop} {t : St} {vs : List Nat} (h : noOwn G vs = true) : ZF F Zx (wipeG G vs) (wipe t vs) = ZF F Zx G t :=
  funext fun b => propext ⟨fun z => z.imp id (Or.imp id (own_wipe h b).mp), fun z => z.imp id (Or.imp id (own_wipe h b).mpr)⟩
theorem Gd.wipe {Zx : Addr → Prop} {s : S} {t : St} {H : Hp} {vs : List Nat} (g : Gd F Zx G s t H) (h : noOwn G vs = true) : Gd F Zx (wipeG G vs) s (L2.wipe t vs) H := by
  refine ⟨by rw [wipe_length, wipeG_len]; exact g.len, g.at_, g.trk, fun i l o h1 h2 => ?_, fun i j d e p h1 h2 h3 h4 => ?_, fun p z => g.sep p ((own_wipe h p).mp z)⟩
  · rw [zf_wipe h]
    rcases wipeG_get h1 with z | ⟨z, n⟩
    · subst z
      trivial
    · rw [wipe_keep n] at h2
      exact g.slot i l o z h2
  · rcases wipeG_get h1 with z | ⟨z1, n1⟩
    · cases z
    · rcases wipeG_get h2 with z | ⟨z2, n2⟩
      · cases z
      · rw [wipe_keep n1] at h3
        rw [wipe_keep n2] at h4
        exact g.inj i j d e p z1 z2 h3 h4
/-- a step that leaves what the names hold -/
theorem Gd.keep {Zx : Addr → Prop} {s : S} {t : St} {H H' : Hp} (g : Gd F Zx G s t H) (h1 : ∀ b o, ¬ F.Z b → ¬ Zx b → H b = some o → H' b = some o) (h2 : ∀ b, F.Z b → H' b = H b) (h3 : ∀ b, Zx b → H' b ≠ none) : Gd F Zx G s t H' := by
  have ex : Ext (ZF F Zx G t) H (ZF F Zx G t) H' := ⟨fun b o z h => h1 b o (fun q => z (.inl q)) (fun q => z (.inr (.inl q))) h, fun b z => .inl z⟩
  refine ⟨g.len, F.loc _ _ _ h2 g.at_, h3, fun i l o e1 e2 => ?_, g.inj, g.sep⟩
  have q := g.slot i l o e1 e2
  cases l with
  | un => trivial
  | raw v => exact q
  | dat d =>
    obtain ⟨v, e, r⟩ := q
    exact ⟨v, e, r.ext ex⟩
  | ext fu hst =>
    obtain ⟨v, e, r⟩ := q
    exact ⟨v, e, hst _ _ _ _ _ ex r⟩
  | own d =>
    obtain ⟨p, e, r⟩ := q
    subst e
    have hp := g.sep p ⟨i, d, e1, e2⟩
    exact ⟨p, rfl, OwnC.ext ex (fun o ho => h1 p o hp.1 hp.2 ho) r⟩
/-- one object more that is not to be met -/
theorem Gd.more {Zx : Addr → Prop} {s : S} {t : St} {H : Hp} {D : Addr} {o : HO} (g : Gd F Zx G s t H) (hD : H D = none) : Gd F (fun b => Zx b ∨ b = D) G s t (upd H D o) := by
  have sm : Same H (upd H D o) := same_new hD
  have g' := g.same sm
  have ex : Ext (ZF F Zx G t) H (ZF F (fun b => Zx b ∨ b = D) G t) (upd H D o) := ⟨fun b o _ h => sm b o h, fun b z => by
    rcases z with z | (z | z) | z
    · exact .inl (.inl z)
    · exact .inl (.inr (.inl z))
    · exact .inr (by rw [z]; exact hD)
    · exact .inl (.inr (.inr z))⟩
  refine ⟨g.len, g'.at_, fun b z => ?_, fun i l o e1 e2 => ?_, g.inj, fun p z => ⟨(g.sep p z).1, fun q => ?_⟩⟩
  · rcases z with z | z
    · exact g'.trk b z
    · rw [z, upd_same]
      intro q
      cases q
  · have q := g.slot i l o e1 e2
    cases l with
    | un => trivial
    | raw v => exact q
    | dat d =>
      obtain ⟨v, e, r⟩ := q
      exact ⟨v, e, r.ext ex⟩
    | ext fu hst =>
      obtain ⟨v, e, r⟩ := q
      exact ⟨v, e, hst _ _ _ _ _ ex r⟩
    | own d =>
      obtain ⟨p, e, r⟩ := q
      subst e
      exact ⟨p, rfl, OwnC.ext ex (fun o ho => sm p o ho) r⟩
  · rcases q with q | q
    · exact (g.sep p z).2 q
    · rw [q] at z
      exact g.new hD (.inr (.inr z))
theorem Gd.less {Zx Zy : Addr → Prop} {s : S} {t : St} {H : Hp} (g : Gd F Zx G s t H) (h : ∀ b, Zy b → Zx b) : Gd F Zy G s t H := by
  have ex : Ext (ZF F Zx G t) H (ZF F Zy G t) H := Ext.less fun b z => z.imp id (Or.imp (h b) id)
  refine ⟨g.len, g.at_, fun b z => g.trk b (h b z), fun i l o e1 e2 => ?_, g.inj, fun p z => ⟨(g.sep p z).1, fun q => (g.sep p z).2 (h p q)⟩⟩
  have q := g.slot i l o e1 e2
  cases l with
  | un => trivial
  | raw v => exact q
  | dat d =>
    obtain ⟨v, e, r⟩ := q
    exact ⟨v, e, r.ext ex⟩
  | ext fu hst =>
    obtain ⟨v, e, r⟩ := q
    exact ⟨v, e, hst _ _ _ _ _ ex r⟩
  | own d =>
    obtain ⟨p, e, r⟩ := q
    subst e
    exact ⟨p, rfl, OwnC.ext ex (fun o ho => ho) r⟩
/-- a comprehension's blocks -/
abbrev blkX (Xs : I → Cx) (scope : Scope) : (I × Shared × Hp × Addr × List (Str × Addr) × List Addr) → Cx :=
  fun j => (Xs j.1).blk j.2.1 j.2.2.1 scope (compEnvC scope j.2.2.2.2.1 j.2.2.2.1 (Xs j.1).env) j.2.2.2.2.2
theorem ok_lc {elt : Expr} {ifs : List Expr} {scope : Scope} {own : List (Str × Nat)} {ml : M S (List A)} {pm : A → M S Bool} {fm : A → M S B} {Gb : A → List Sl} {ks : List Nat} (hi : IV Xs F G tg iter ml)
    (hno : noOwn G (own.map (·.2)) = true) (hks : ∀ k ∈ ks, k ∈ own.map (·.2))
    (hg : ∀ x, BD (blkX Xs scope) F (wipeG G (own.map (·.2))) tg (enc x) (Gb x) ks) (ht : ∀ x, EI (blkX Xs scope) F (Gb x) ifs (pm x)) (he : ∀ x, EV (blkX Xs scope) F (Gb x) elt (fm x))
:
    ∃ wi, (∀ i, PI (Xs i) tg iter wi) ∧ TEok F G (tLc wi (tgU (blkX Xs scope) tg) (tiU (blkX Xs scope) ifs) (teU (blkX Xs scope) elt) (own.map (·.2))) (bindM ml fun l => guardM (lenOk l.length) (lcM pm fm l)) := by
  obtain ⟨wi, hpi, hw⟩ := hi
  have hg' := fun x => (hg x).uni
  have ht' := fun x => (ht x).uni
  have he' := fun x => (he x).uni
  refine ⟨wi, hpi, fun Zx t H s y s' g hm Q q => ?_⟩
  obtain ⟨l, s1, h1, h2⟩ := bind_some hm
  obtain ⟨hlen, h3⟩ := guard_eq h2
  refine hw Zx t H s l s1 g h1 _ fun J H1 g1 f1 itok D hD => ?_
  have nZD : ¬ ZF F Zx G t D := g1.new hD
  have nFD : ¬ F.Z D := fun z => nZD (.inl z)
  have gm := g1.more (o := .lst []) hD
  have smD : Same H1 (upd H1 D (.lst [])) := same_new hD
  -- the invariant
  refine ⟨fun i m H2 => ∃ acc ys s2 rest, m + i = l.length ∧ H2 D = some (.lst acc) ∧ acc.length ≤ i ∧ RpL (ZF F (fun b => Zx b ∨ b = D) G t) H2 acc (ys.map enc) ∧
    Gd F (fun b => Zx b ∨ b = D) G s2 t H2 ∧ lcM pm fm (l.drop i) s2 = some (rest, s') ∧ ys ++ rest = y ∧ (∀ b o, ¬ F.Z b → b ≠ D → H1 b = some o → H2 b = some o),
    ⟨l.length, [], [], s1, y, rfl, upd_same, Nat.zero_le _, .nil, gm, h3, rfl, fun b o _ n h => smD b o h⟩, ?_⟩
  rintro i m H2 ⟨acc, ys, s2, rest, hmi, hacc, hal, hrl, g2, hrun, hys, hkeep⟩
  have ex2 : Ext (ZF F Zx G t) H1 (ZF F (fun b => Zx b ∨ b = D) G t) H2 := ⟨fun b o z h => hkeep b o (fun k => z (.inl k)) (fun k => by rw [k, hD] at h; cases h) h, fun b z => by
    rcases z with z | (z | z) | z
    · exact .inl (.inl z)
    · exact .inl (.inr (.inl z))
    · exact .inr (by rw [z]; exact hD)
    · exact .inl (.inr (.inr z))⟩
  obtain ⟨it1, it2⟩ := itok _ H2 ex2 g2.all
  by_cases hil : i < l.length
  · have hx : l[i]? = some l[i] := List.getElem?_eq_getElem hil
    obtain ⟨go, yl⟩ := it1 i _ hx
    refine .inr ⟨go, fun H' => ∃ acc ys s2 rest, H' D = some (.lst acc) ∧ acc.length ≤ i + 1 ∧ RpL (ZF F (fun b => Zx b ∨ b = D) G t) H' acc (ys.map enc) ∧
      Gd F (fun b => Zx b ∨ b = D) G s2 t H' ∧ lcM pm fm (l.drop (i + 1)) s2 = some (rest, s') ∧ ys ++ rest = y ∧ (∀ b o, ¬ F.Z b → b ≠ D → H1 b = some o → H' b = some o), fun H' ⟨a1, a2, a3, a4, q1, q2, q3, q4, q5, q6, q7⟩ => ?_, fun v H3 hy => ?_⟩
    · exact ⟨m - 1, by omega, a1, a2, a3, a4, by omega, q1, q2, q3, q4, q5, q6, q7⟩
    · obtain ⟨sm3, rv⟩ := yl v H3 hy
      have g3 := g2.same sm3
      have gw := g3.wipe hno
      rw [List.drop_eq_getElem_cons hil] at hrun
      obtain ⟨c, s3, r1, r2⟩ := bind_some hrun
      refine hg' (l[i]) _ _ H3 s2 v gw (by rw [zf_wipe hno]; exact rv) _ fun t2 b2 => ⟨?_, ?_⟩
      · have len2 : t2.length = (L2.wipe t (own.map (·.2))).length := b2.len
        have := wipe_eq (t := L2.wipe t (own.map (·.2))) (t' := t2) (vs := own.map (·.2)) (fun j hj => b2.else_ j fun z => hj (hks j z)) len2
        rw [this]
        exact wipe_eq (fun j hj => wipe_keep hj) (wipe_length _ _)
      · have ow2 : ∀ b, Own (Gb (l[i])) t2 b ↔ Own G t b := fun b => (b2.own b).trans (own_wipe hno b)
        have zf2 : ZF F (fun b => Zx b ∨ b = D) (Gb (l[i])) t2 = ZF F (fun b => Zx b ∨ b = D) G t := funext fun b => propext ⟨fun z => z.imp id (Or.imp id (ow2 b).mp), fun z => z.imp id (Or.imp id (ow2 b).mpr)⟩
        have hacc3 := sm3 _ _ hacc
        refine ht' (l[i]) _ t2 H3 s2 c s3 b2.gd r1 _ fun H4 g4 f4 => ?_
        have hacc4 := f4 D _ nFD hacc3
        cases c with
        | false =>
          refine iteF ⟨acc, ys, s3, rest, hacc4, Nat.le_succ_of_le hal, (hrl.ext ⟨fun b o _ h => sm3 b o h, fun b z => .inl z⟩).fix f4, g3.fix f4 g4.at_, r2, hys, fun b o n1 n2 h => f4 b o n1 (sm3 b o (hkeep b o n1 n2 h))⟩
        | true =>
          obtain ⟨yv, s4, r3, r4⟩ := bind_some r2
          obtain ⟨rs, s5, r5, r6⟩ := bind_some r4
          obtain ⟨rfl, rfl⟩ := pure_eq r6
          refine iteT (he' (l[i]) _ t2 H4 s3 yv s4 g4 r3 _ fun v5 H5 g5 f5 r5' => ?_)
          have hacc5 := f5 D _ nFD hacc4
          rw [zf2] at r5'
          have g35 : Gd F (fun b => Zx b ∨ b = D) G s4 t H5 := g3.fix (f4.trans f5) g5.at_
          have exU : Ext (ZF F (fun b => Zx b ∨ b = D) G t) H5 (ZF F (fun b => Zx b ∨ b = D) G t) (upd H5 D (.lst (acc ++ [v5]))) := ⟨fun b o z h => by
            rw [upd_ne (fun k => z (.inr (.inl (.inr k))))]
            exact h, fun b z => .inl z⟩
          refine ⟨acc, hacc5, ?_, acc ++ [v5], ys ++ [yv], s4, rs, upd_same, ?_, ?_, ?_, r5, by rw [← hys]; simp, fun b o n1 n2 h => ?_⟩
          · have := lenOk_line hlen
            omega
          · rw [List.length_append]
            exact Nat.add_le_add_right hal 1
          · rw [List.map_append]
            exact ((((hrl.ext ⟨fun b o _ h => sm3 b o h, fun b z => .inl z⟩).fix f4).fix f5).append (.cons r5' .nil)).ext exU
          · exact g35.keep (fun b o n1 n2 h => by rw [upd_ne (fun k => n2 (.inr k))]; exact h) (fun b z => upd_ne (fun k => nFD (by rw [← k]; exact z))) (fun b z => by
              by_cases k : b = D
              · rw [k, upd_same]
                intro q
                cases q
              · rw [upd_ne k]
                exact g35.trk b z)
          · rw [upd_ne n2]
            exact f5 b o n1 (f4 b o n1 (sm3 b o (hkeep b o n1 n2 h)))
  · refine .inl ⟨it2 i (by omega), ?_⟩
    rw [List.drop_of_length_le (by omega)] at hrun
    obtain ⟨rfl, rfl⟩ := pure_eq hrun
    rw [List.append_nil] at hys
    subst hys
    refine q (.ref D) H2 (g2.less fun b z => .inl z) (fun b o n h => ?_) ?_
    · have h' := f1 b o n h
      exact hkeep b o n (fun k => by rw [k, hD] at h'; cases h') h'
    · exact .lst nZD hacc (hrl.ext (Ext.less fun b z => z.imp id (Or.imp .inl id)))
theorem ev_lc {elt : Expr} {ifs : List Expr} {scope : Scope} {own : List (Str × Nat)} {ml : M S (List A)} {pm : A → M S Bool} {fm : A → M S B} {Gb : A → List Sl} {ks : List Nat} (hi : IV Xs F G tg iter ml)
    (ok : ∀ i, BlkOk (Xs i).N (Xs i).env.scope scope own) (hN : ∀ i, (Xs i).N.Nodup) (hno : noOwn G (own.map (·.2)) = true) (hks : ∀ k ∈ ks, k ∈ own.map (·.2))
    (hg : ∀ x, BD (blkX Xs scope) F (wipeG G (own.map (·.2))) tg (enc x) (Gb x) ks) (ht : ∀ x, EI (blkX Xs scope) F (Gb x) ifs (pm x)) (he : ∀ x, EV (blkX Xs scope) F (Gb x) elt (fm x))
    (hc : ∀ i, (Xs i).calm = true := by intro _; rfl) (hs : ∀ i x, foldedSetIterable iter (Xs i).env x = pure x := by intro _ _; rfl) :
    EV Xs F G (.ListComp elt [⟨tg, iter, ifs, 0⟩] scope pos) (bindM ml fun l => guardM (lenOk l.length) (lcM pm fm l)) := by
  obtain ⟨wi, hpi, hw⟩ := ok_lc hi hno hks hg ht he
  exact ⟨_, fun i => pe_lc (hc i) (hN i) (hpi i) (ok i) (fun s H C cl fp => tgU_pg (Xs := blkX Xs scope) (i, s, H, C, cl, fp))
    (fun s H C cl fp => tiU_pt (Xs := blkX Xs scope) (i, s, H, C, cl, fp)) (fun s H C cl fp => teU_pe (Xs := blkX Xs scope) (i, s, H, C, cl, fp)) (hs i), hw⟩
end
end PL

namespace PL
open PySem L2 Enc

/-- how a block ends: it goes on, it returns, it leaves the loop, it goes to the loop's next turn -/
inductive Fl (N L R : Type) where
  | nx (b : N)
  | rt (r : R)
  | bk (l : L)
  | ct (l : L)
/-- objects of a frame's own may have changed, new ones may have come -/
def Stp {S : Type} (F : Fm S) (G : List Sl) (t : St) (H : Hp) (G' : List Sl) (t' : St) (H' : Hp) : Prop :=
  (∀ b o, ¬ F.Z b → ¬ Own G t b → H b = some o → H' b = some o) ∧ ∀ b, Own G' t' b → Own G t b ∨ H b = none
section
variable {I S A B C N L R N1 : Type} [Enc A] [Enc B] [Enc C] [Enc R]
def PostOk (F : Fm S) (Zx : Addr → Prop) (G : List Sl) (t : St) (H : Hp) (Gn : N → List Sl) (Gl : L → List Sl) (D : Ends) (s' : S) : Fl N L R → Prop
  | .nx b => ∀ t' H', Gd F Zx (Gn b) s' t' H' → Stp F G t H (Gn b) t' H' → D.nx t' H'
  | .bk b => ∀ t' H', Gd F Zx (Gl b) s' t' H' → Stp F G t H (Gl b) t' H' → D.bk t' H'
  | .ct b => ∀ t' H', Gd F Zx (Gl b) s' t' H' → Stp F G t H (Gl b) t' H' → D.ct t' H'
  | .rt r => ∀ v H', F.at_ s' H' → (∀ b o, ¬ F.Z b → ¬ Own G t b → H b = some o → H' b = some o) → Rp (fun b => F.Z b ∨ Zx b) H' v (enc r) → D.rt v H'
def TSok (F : Fm S) (G : List Sl) (ts : TS) (m : M S (Fl N L R)) (Gn : N → List Sl) (Gl : L → List Sl) : Prop :=
  ∀ Zx t H s r s', Gd F Zx G s t H → m s = some (r, s') → ∀ D : Ends, PostOk F Zx G t H Gn Gl D s' r → ts D t H
def SV (Xs : I → Cx) (F : Fm S) (G : List Sl) (sts : List Stmt) (m : M S (Fl N L R)) (Gn : N → List Sl) (Gl : L → List Sl) : Prop := ∃ ts, (∀ i, PSs (Xs i) sts ts) ∧ TSok F G ts m Gn Gl
def SS (Xs : I → Cx) (F : Fm S) (G : List Sl) (st : Stmt) (m : M S (Fl N L R)) (Gn : N → List Sl) (Gl : L → List Sl) : Prop := ∃ ts, (∀ i, PS (Xs i) st ts) ∧ TSok F G ts m Gn Gl
variable {Xs : I → Cx} {F : Fm S} {G G' G1 : List Sl} {pos p : Pos} {e a b c tg iter : Expr} {es : List Expr} {st : Stmt} {sts : List Stmt} {Gn : N → List Sl} {Gl : L → List Sl} {x : Str}
def seqM (m : M S (Fl N1 L R)) (k : N1 → M S (Fl N L R)) : M S (Fl N L R) := bindM m fun r => match r with
  | .nx b => k b
  | .rt r => pureM (.rt r)
  | .bk l => pureM (.bk l)
  | .ct l => pureM (.ct l)
@[simp] theorem seqM_nx (b : N1) (k : N1 → M S (Fl N L R)) : seqM (pureM (.nx b)) k = k b := rfl
@[simp] theorem seqM_rt (r : R) (k : N1 → M S (Fl N L R)) : seqM (pureM (.rt r)) k = pureM (.rt r) := rfl
@[simp] theorem seqM_bk (r : L) (k : N1 → M S (Fl N L R)) : seqM (pureM (.bk r)) k = pureM (.bk r) := rfl
@[simp] theorem seqM_ct (r : L) (k : N1 → M S (Fl N L R)) : seqM (pureM (.ct r)) k = pureM (.ct r) := rfl
@[simp] theorem seqM_fail (k : N1 → M S (Fl N L R)) : seqM (failM : M S (Fl N1 L R)) k = failM := rfl
theorem Stp.trans {t t1 t2 : St} {H H1 H2 : Hp} {Zx : Addr → Prop} {s : S} (a : Stp F G t H G1 t1 H1) (b : Stp F G1 t1 H1 G' t2 H2) (g : Gd F Zx G' s t2 H2) : Stp F G t H G' t2 H2 := by
  have nn : ∀ b o, ¬ F.Z b → ¬ Own G t b → H b = some o → ¬ Own G1 t1 b := fun x o z y h q => by
    rcases a.2 x q with q | q
    · exact y q
    · rw [h] at q
      cases q
  refine ⟨fun x o z y h => b.1 x o z (nn x o z y h) (a.1 x o z y h), fun x z => ?_⟩
  have nF := (g.sep x z).1
  rcases b.2 x z with z | z
  · exact a.2 x z
  · by_cases q : Own G t x
    · exact .inl q
    · cases e : H x with
      | none => exact .inr rfl
      | some o =>
        rw [a.1 x o nF q e] at z
        cases z
theorem Stp.fix {t : St} {H H' : Hp} (f : Fix F H H') : Stp F G t H G t H' := ⟨fun b o z _ h => f b o z h, fun _ z => .inl z⟩
theorem Stp.at1 {t t1 : St} {H H1 : Hp} (a : Stp F G t H G1 t1 H1) {b : Addr} {o : HO} (z : ¬ F.Z b) (y : ¬ Own G t b) (h : H b = some o) : ¬ Own G1 t1 b ∧ H1 b = some o :=
  ⟨(fun q => by
    rcases a.2 b q with q | q
    · exact y q
    · rw [h] at q
      exact absurd q (by simp)), a.1 b o z y h⟩
/-- what is wanted behind, from a later state -/
theorem PostOk.from {Zx : Addr → Prop} {t t1 : St} {H H1 : Hp} {D : Ends} {s' : S} {r : Fl N L R} (a : Stp F G t H G1 t1 H1) (h : PostOk F Zx G t H Gn Gl D s' r) : PostOk F Zx G1 t1 H1 Gn Gl D s' r := by
  cases r with
  | nx b => exact fun t' H' g s => h t' H' g (a.trans s g)
  | bk b => exact fun t' H' g s => h t' H' g (a.trans s g)
  | ct b => exact fun t' H' g s => h t' H' g (a.trans s g)
  | rt r => exact fun v H' ha k rv => h v H' ha (fun b o z y e => k b o z (a.at1 z y e).1 (a.at1 z y e).2) rv
theorem SV.eq {m m' : M S (Fl N L R)} (h : SV Xs F G sts m Gn Gl) (q : m = m') : SV Xs F G sts m' Gn Gl := q ▸ h
/-- less is said -/
def notTup : PyData → Bool
  | .tuple _ => false
  | _ => true
inductive SubG : List Sl → List Sl → Prop
  | nil : SubG [] []
  | same {x l l'} : SubG l l' → SubG (x :: l) (x :: l')
  | un {x l l'} : SubG l l' → SubG (x :: l) (.un :: l')
  | frz {d l l'} (h : SubG l l') (hd : notTup d = true := by rfl) : SubG (.own d :: l) (.dat d :: l')
theorem SubG.len : ∀ {l l' : List Sl}, SubG l l' → l.length = l'.length
  | _, _, .nil => rfl
  | _, _, .same h => congrArg (· + 1) h.len
  | _, _, .un h => congrArg (· + 1) h.len
  | _, _, .frz h _ => congrArg (· + 1) h.len
theorem SubG.get : ∀ {l l' : List Sl} {i : Nat} {x : Sl}, SubG l l' → l'[i]? = some x → x = .un ∨ l[i]? = some x ∨ ∃ d, x = .dat d ∧ l[i]? = some (.own d) ∧ notTup d = true
  | _, _, 0, _, .same h, e => .inr (.inl e)
  | _, _, 0, _, .un h, e => by
    cases e
    exact .inl rfl
  | _, _, 0, _, .frz h hd, e => by
    cases e
    exact .inr (.inr ⟨_, rfl, rfl, hd⟩)
  | _, _, i + 1, _, .same h, e => SubG.get (i := i) h e
  | _, _, i + 1, _, .un h, e => SubG.get (i := i) h e
  | _, _, i + 1, _, .frz h _, e => SubG.get (i := i) h e
theorem SubG.refl : ∀ (l : List Sl), SubG l l
  | [] => .nil
  | _ :: l => .same (SubG.refl l)
theorem SubG.own {l l' : List Sl} {t : St} {b : Addr} (h : SubG l l') (o : Own l' t b) : Own l t b := by
  obtain ⟨i, d, h1, h2⟩ := o
  have q := h.get h1
  refine q.elim (fun z => nomatch z) fun q => q.elim (fun z => ⟨i, d, z, h2⟩) fun ⟨d', z, _⟩ => nomatch z
theorem OwnC.dat {Z : Addr → Prop} {H : Hp} {p : Addr} (n : ¬ Z p) {d : PyData} (o : OwnC Z H p d) (hd : notTup d = true) : Rp Z H (.ref p) d := by
  cases d with
  | list ds =>
    obtain ⟨_, h, r⟩ := o
    exact .lst n h r
  | dict ds =>
    obtain ⟨_, h, r⟩ := o
    exact .dic n (.inl h) r
  | tuple ds => exact absurd (show false = true from hd) Bool.false_ne_true
  | none => exact (show False from o).elim
  | bool b => exact (show False from o).elim
  | int b => exact (show False from o).elim
  | str b => exact (show False from o).elim
theorem Gd.sub {Zx : Addr → Prop} {s : S} {t : St} {H : Hp} (g : Gd F Zx G s t H) (h : SubG G G') : Gd F Zx G' s t H := by
  have ex : Ext (ZF F Zx G t) H (ZF F Zx G' t) H := Ext.less fun b z => z.imp id (Or.imp id h.own)
  refine ⟨by rw [g.len, h.len], g.at_, g.trk, fun i l o h1 h2 => ?_, fun i j d e p h1 h2 h3 h4 => ?_, fun p z => g.sep p (h.own z)⟩
  · rcases h.get h1 with z | z | ⟨d, z, y, hnt⟩
    · subst z
      trivial
    · have q := g.slot i l o z h2
      cases l with
      | un => trivial
      | raw v => exact q
      | dat d =>
        obtain ⟨v, e, r⟩ := q
        exact ⟨v, e, r.ext ex⟩
      | ext fu hst =>
        obtain ⟨v, e, r⟩ := q
        exact ⟨v, e, hst _ _ _ _ _ ex r⟩
      | own d =>
        obtain ⟨p, e, r⟩ := q
        subst e
        exact ⟨p, rfl, OwnC.ext ex (fun o ho => ho) r⟩
    · subst z
      obtain ⟨p, e, r⟩ := g.slot i _ o y h2
      subst e
      have r2 := OwnC.ext ex (fun o ho => ho) r
      refine ⟨.ref p, rfl, OwnC.dat (fun z => ?_) r2 hnt⟩
      rcases z with z | z | ⟨j, d', z1, z2⟩
      · exact (g.sep p ⟨i, d, y, h2⟩).1 z
      · exact (g.sep p ⟨i, d, y, h2⟩).2 z
      · rcases h.get z1 with w | w | ⟨d2, w, _⟩
        · cases w
        · have := g.inj i j d d' p y w h2 z2
          subst this
          rw [h1] at z1
          cases z1
        · cases w
  · have up : ∀ {i : Nat} {d : PyData}, G'[i]? = some (.own d) → G[i]? = some (.own d) := fun {i d} q => by
      rcases h.get q with w | w | ⟨d2, w, _⟩
      · cases w
      · exact w
      · cases w
    exact g.inj i j d e p (up h1) (up h2) h3 h4
theorem sv_nil {y : N} (h : SubG G (Gn y)) : SV (R := R) Xs F G [] (pureM (.nx y)) Gn Gl := by
  refine ⟨tNext, fun _ => pss_nil, fun Zx t H s r s' g hm D q => ?_⟩
  obtain ⟨rfl, rfl⟩ := pure_eq hm
  exact q t H (g.sub h) ⟨fun b o _ _ h => h, fun b z => .inl (h.own z)⟩
theorem sv_sub {m : M S (Fl N L R)} (h : SubG G G') (k : SV Xs F G' sts m Gn Gl) : SV Xs F G sts m Gn Gl := by
  obtain ⟨ts, hp, ho⟩ := k
  exact ⟨ts, hp, fun Zx t H s r s' g hm D q => ho Zx t H s r s' (g.sub h) hm D (q.from ⟨fun b o _ _ h => h, fun b z => .inl (h.own z)⟩)⟩
def tsU (Xs : I → Cx) (sts : List Stmt) : TS := fun D t H => ∃ ts : TS, (∀ i, PSs (Xs i) sts ts) ∧ ts D t H
theorem tsU_ps (i : I) : PSs (Xs i) sts (tsU Xs sts) := ⟨fun pins s t H D J ⟨te, hp, h⟩ => (hp i).run pins s t H D J h⟩
theorem SV.uni {m : M S (Fl N L R)} (h : SV Xs F G sts m Gn Gl) : TSok F G (tsU Xs sts) m Gn Gl := by
  obtain ⟨ts, hp, ho⟩ := h
  exact fun Zx t H s r s' g hm D q => ⟨ts, hp, ho Zx t H s r s' g hm D q⟩
theorem sv_cons {G1 : N1 → List Sl} {m : M S (Fl N1 L R)} {k : N1 → M S (Fl N L R)} (h : SS Xs F G st m G1 Gl) (hk : ∀ y, SV Xs F (G1 y) sts (k y) Gn Gl) : SV Xs F G (st :: sts) (seqM m k) Gn Gl := by
  obtain ⟨ts, hp, ho⟩ := h
  have hk' := fun y => (hk y).uni
  refine ⟨tSeq ts (tsU Xs sts), fun i => pss_cons (hp i) (tsU_ps i), fun Zx t H s r s' g hm D q => ?_⟩
  obtain ⟨r1, s1, h1, h2⟩ := bind_some hm
  refine ho Zx t H s r1 s1 g h1 _ ?_
  cases r1 with
  | nx y => exact fun t' H' g' st' => hk' y Zx t' H' s1 r s' g' h2 D (q.from st')
  | rt v =>
    obtain ⟨rfl, rfl⟩ := pure_eq h2
    exact q
  | bk v =>
    obtain ⟨rfl, rfl⟩ := pure_eq h2
    exact q
  | ct v =>
    obtain ⟨rfl, rfl⟩ := pure_eq h2
    exact q
theorem sv_one {m : M S (Fl N L R)} (h : SS Xs F G st m Gn Gl) : SV Xs F G [st] m Gn Gl := let ⟨t, hp, ho⟩ := h; ⟨t, fun i => pss_one (hp i), ho⟩
theorem ss_ret {m : M S R} (h : EV Xs F G e m) : SS (N := N) (L := L) Xs F G (.Return (some e) pos) (bindM m fun r => pureM (.rt r)) Gn Gl := by
  obtain ⟨te, hp, ho⟩ := h
  refine ⟨tRet te, fun i => ps_ret (hp i), fun Zx t H s r s' g hm D q => ?_⟩
  obtain ⟨y, s1, h1, h2⟩ := bind_some hm
  obtain ⟨rfl, rfl⟩ := pure_eq h2
  refine ho Zx t H s y s1 g h1 _ fun v H1 g1 f1 r1 => ?_
  exact q v H1 g1.at_ (fun b o z _ h => f1 b o z h) (r1.ext (Ext.less fun b z => z.elim .inl fun z => .inr (.inl z)))
theorem ss_pass : SS (R := R) (L := L) Xs F G (.Pass pos) (pureM (.nx ())) (fun _ => G) Gl := by
  refine ⟨tNext, fun _ => ps_pass, fun Zx t H s r s' g hm D q => ?_⟩
  obtain ⟨rfl, rfl⟩ := pure_eq hm
  exact q t H g (Stp.fix (Fix.refl H))
theorem ss_break {l : L} (h : SubG G (Gl l)) : SS (N := N) (R := R) Xs F G (.Break pos) (pureM (.bk l)) Gn Gl := by
  refine ⟨tBreak, fun _ => ps_break, fun Zx t H s r s' g hm D q => ?_⟩
  obtain ⟨rfl, rfl⟩ := pure_eq hm
  exact q t H (g.sub h) ⟨fun b o _ _ h => h, fun b z => .inl (h.own z)⟩
theorem ss_continue {l : L} (h : SubG G (Gl l)) : SS (N := N) (R := R) Xs F G (.Continue pos) (pureM (.ct l)) Gn Gl := by
  refine ⟨tCont, fun _ => ps_continue, fun Zx t H s r s' g hm D q => ?_⟩
  obtain ⟨rfl, rfl⟩ := pure_eq hm
  exact q t H (g.sub h) ⟨fun b o _ _ h => h, fun b z => .inl (h.own z)⟩
/-- target = e: what is bound is told by G1 -/
theorem ss_asg {m : M S A} {G1 : A → List Sl} {ks : List Nat} (h : EV Xs F G e m) (hb : ∀ y, BD Xs F G tg (enc y) (G1 y) ks) (hs : ∀ i, swapsWithSole [tg] e pos.line (Xs i).env = pure false := by intro _; rfl)
    (hw : ∀ i, swappedStores [tg] e (Xs i).env = pure none := by intro _; rfl) (h1 : ∀ i, (assignEach [tg] (Xs i).env).map (·.2) = [assign tg (Xs i).env] := by intro _; rfl) :
    SS (R := R) (L := L) Xs F G (.Assign [tg] e pos) (bindM m fun y => pureM (.nx y)) G1 Gl := by
  obtain ⟨te, hp, ho⟩ := h
  have hb' := fun y => (hb y).uni
  refine ⟨tAsg te (tgU Xs tg), fun i => ps_asg (hp i) (tgU_pg i) (hs i) (hw i) (h1 i), fun Zx t H s r s' g hm D q => ?_⟩
  obtain ⟨y, s1, e1, e2⟩ := bind_some hm
  obtain ⟨rfl, rfl⟩ := pure_eq e2
  refine ho Zx t H s y s1 g e1 _ fun v H1 g1 f1 r1 => ?_
  refine hb' y Zx t H1 s1 v g1 (.of r1) _ fun t' b => ?_
  exact q t' H1 b.gd ⟨fun x o z _ h => f1 x o z h, fun x z => .inl ((b.own x).mp z)⟩
theorem ss_set {m : M S A} {k : Nat} {pos' : Pos} (h : EV Xs F G e m) (hN : ∀ i, (Xs i).N.Nodup) (hno : noOwn G [k] = true := by rfl) (hi : ∀ i, (Xs i).N[k]? = some x := by intro _; rfl)
    (hx : ∀ i, Loc (Xs i).env.scope x := by first | exact fun _ => Or.inl rfl | exact fun _ => Or.inr rfl) (hs : ∀ i, swapsWith e (some (.Name x pos')) pos.line (Xs i).env = pure false := by intro _; rfl)
    (hf : ∀ i, (Xs i).fn x = true ∨ (Xs i).env.scope.names.lookup x = some .local := by first | exact fun _ => .inl rfl | exact fun _ => .inr rfl) :
    SS (R := R) (L := L) Xs F G (.Assign [.Name x pos'] e pos) (bindM m fun y => pureM (.nx y)) (fun y : A => G.set k (.dat (enc y))) Gl := by
  obtain ⟨te, hp, ho⟩ := h
  refine ⟨tAsg te (gName k), fun i => ps_set (hN i) (hi i) (hx i) (hp i) (hs i) (hf i), fun Zx t H s r s' g hm D q => ?_⟩
  obtain ⟨y, s1, e1, e2⟩ := bind_some hm
  obtain ⟨rfl, rfl⟩ := pure_eq e2
  refine ho Zx t H s y s1 g e1 _ fun v H1 g1 f1 r1 => ?_
  exact q _ H1 (g1.set hno r1) ⟨fun x o z _ h => f1 x o z h, fun x z => .inl ((own_set hno x).mp z)⟩
/-- name = [..] -/
theorem ss_setLc {k : Nat} {pos' spos : Pos} {elt : Expr} {ifs : List Expr} {scope : Scope} {own : List (Str × Nat)} {ml : M S (List A)} {pm : A → M S Bool} {fm : A → M S B} {Gb : A → List Sl} {ks : List Nat} (hi : IV Xs F G tg iter ml)
    (ok : ∀ i, BlkOk (Xs i).N (Xs i).env.scope scope own) (hN : ∀ i, (Xs i).N.Nodup) (hno : noOwn G (own.map (·.2)) = true) (hks : ∀ k ∈ ks, k ∈ own.map (·.2))
    (hg : ∀ x, BD (blkX Xs scope) F (wipeG G (own.map (·.2))) tg (enc x) (Gb x) ks) (ht : ∀ x, EI (blkX Xs scope) F (Gb x) ifs (pm x)) (he : ∀ x, EV (blkX Xs scope) F (Gb x) elt (fm x))
    (hno2 : noOwn G [k] = true := by rfl) (hy : ∀ i, (Xs i).N[k]? = some x := by intro _; rfl) (hyl : ∀ i, (Xs i).env.scope.names.lookup x = some .local := by intro _; rfl)
    (hsw : ∀ i, swapsWith (.ListComp elt [⟨tg, iter, ifs, 0⟩] scope pos) (some (.Name x pos')) spos.line (Xs i).env = pure true := by intro _; exact sw_true rfl rfl rfl (by decide +kernel))
    (hc : ∀ i, (Xs i).calm = true := by intro _; rfl) (hs : ∀ i x, foldedSetIterable iter (Xs i).env x = pure x := by intro _ _; rfl) :
    SS (R := R) (L := L) Xs F G (.Assign [.Name x pos'] (.ListComp elt [⟨tg, iter, ifs, 0⟩] scope pos) spos) (bindM (bindM ml fun l => guardM (lenOk l.length) (lcM pm fm l)) fun y => pureM (.nx y)) (fun y : List B => G.set k (.dat (enc y))) Gl := by
  obtain ⟨wi, hpi, hw⟩ := ok_lc hi hno hks hg ht he
  refine ⟨tAsg _ (gName k), fun i => ps_setLc (hc i) (hN i) (hy i) (hyl i) (hsw i) (hpi i) (ok i) (fun s H C cl fp => tgU_pg (Xs := blkX Xs scope) (i, s, H, C, cl, fp))
    (fun s H C cl fp => tiU_pt (Xs := blkX Xs scope) (i, s, H, C, cl, fp)) (fun s H C cl fp => teU_pe (Xs := blkX Xs scope) (i, s, H, C, cl, fp)) (hs i), fun Zx t H s r s' g hm D q => ?_⟩
  obtain ⟨y, s1, e1, e2⟩ := bind_some hm
  obtain ⟨rfl, rfl⟩ := pure_eq e2
  refine hw Zx t H s y s1 g e1 _ fun v H1 g1 f1 r1 => ?_
  exact q _ H1 (g1.set hno2 r1) ⟨fun x o z _ h => f1 x o z h, fun x z => .inl ((own_set hno2 x).mp z)⟩
theorem ss_if {mc : M S Bool} {m n : M S (Fl N L R)} {sa sb : List Stmt} (h : ET Xs F G c mc) (h1 : SV Xs F G sa m Gn Gl) (h2 : SV Xs F G sb n Gn Gl) : SS Xs F G (.If c sa sb pos) (iteM mc m n) Gn Gl := by
  obtain ⟨tc, hp, ho⟩ := h
  obtain ⟨ta, hq, hw⟩ := h1
  obtain ⟨tb, hr, hz⟩ := h2
  refine ⟨tIfS tc ta tb, fun i => ps_if (hp i) (hq i) (hr i), fun Zx t H s r s' g hm D q => ?_⟩
  obtain ⟨y, s1, e1, e2⟩ := bind_some hm
  refine ho Zx t H s y s1 g e1 _ fun H1 g1 f1 => ?_
  cases y with
  | true => exact iteT (hw Zx t H1 s1 r s' g1 e2 D (q.from (Stp.fix f1)))
  | false => exact iteF (hz Zx t H1 s1 r s' g1 e2 D (q.from (Stp.fix f1)))
def loopM {A L R : Type} (f : L → A → M S (Fl L L R)) : List A → L → M S (Fl L Empty R)
  | [], l => pureM (.nx l)
  | x :: xs, l => bindM (f l x) fun r => match r with
    | .nx l' => loopM f xs l'
    | .ct l' => loopM f xs l'
    | .bk l' => pureM (.nx l')
    | .rt r => pureM (.rt r)
/-- what a loop leaves, in a block around -/
def liftM {L L' R : Type} (m : M S (Fl L Empty R)) : M S (Fl L L' R) := bindM m fun r => match r with
  | .nx l => pureM (.nx l)
  | .rt r => pureM (.rt r)
theorem Stp.ext {t t1 : St} {H H1 : Hp} {Zx : Addr → Prop} (a : Stp F G t H G1 t1 H1) : Ext (ZF F Zx G t) H (ZF F Zx G1 t1) H1 :=
  ⟨fun b o z h => a.1 b o (fun k => z (.inl k)) (fun k => z (.inr (.inr k))) h, fun b z => by
    rcases z with z | z | z
    · exact .inl (.inl z)
    · exact .inl (.inr (.inl z))
    · exact (a.2 b z).imp (fun q => .inr (.inr q)) id⟩
theorem ss_for {L1 : Type} {ml : M S (List A)} {Gs : L1 → List Sl} {Gx : L1 → A → List Sl} {ks : List Nat} {body : List Stmt} {f : L1 → A → M S (Fl L1 L1 R)} {y0 : L1} (hi : IV Xs F G tg iter ml) (hsub : SubG G (Gs y0))
    (hg : ∀ l x, BD Xs F (Gs l) tg (enc x) (Gx l x) ks) (hb : ∀ l x, SV Xs F (Gx l x) body (f l x) Gs Gs)
    (hp : ∀ i, PassesOwn (model (Xs i).prog (Xs i).w) (Xs i).A (Xs i).env (Xs i).xe) (hc : ∀ i, (Xs i).calm = true := by intro _; rfl) (hs : ∀ i x, foldedSetIterable iter (Xs i).env x = pure x := by intro _ _; rfl) :
    SS (N := L1) (L := L) Xs F G (.For tg iter body [] pos) (bindM ml fun l => liftM (loopM f l y0)) Gs Gl := by
  obtain ⟨wi, hpi, hw⟩ := hi
  have hg' := fun l x => (hg l x).uni
  have hb' := fun l x => (hb l x).uni
  refine ⟨tFor wi (tgU Xs tg) (tsU Xs body), fun i => ps_for (hp i) (hc i) (hpi i) (tgU_pg i) (tsU_ps i) (hs i), fun Zx t H s r s' g hm D q => ?_⟩
  obtain ⟨l, s1, h1, h2⟩ := bind_some hm
  obtain ⟨r0, s0, h3, h4⟩ := bind_some h2
  refine hw Zx t H s l s1 g h1 _ fun J H1 g1 f1 itok => ?_
  have g1' := g1.sub hsub
  have st1 : Stp F G t H (Gs y0) t H1 := ⟨fun b o z _ h => f1 b o z h, fun b z => .inl (hsub.own z)⟩
  have st0 : Stp F G t H1 (Gs y0) t H1 := ⟨fun b o z _ h => h, fun b z => .inl (hsub.own z)⟩
  refine ⟨fun i m t2 H2 => ∃ y s2, m + i = l.length ∧ Gd F Zx (Gs y) s2 t2 H2 ∧ Stp F G t H1 (Gs y) t2 H2 ∧ loopM f (l.drop i) y s2 = some (r0, s0), ⟨l.length, y0, s1, rfl, g1', st0, h3⟩, ?_⟩
  rintro i m t2 H2 ⟨y, s2, hmi, g2, st2, hrun⟩
  have stH : Stp F G t H (Gs y) t2 H2 := (Stp.fix (F := F) (G := G) (t := t) f1).trans st2 g2
  obtain ⟨it1, it2⟩ := itok (ZF F Zx (Gs y) t2) H2 st2.ext g2.all
  by_cases hil : i < l.length
  · have hx : l[i]? = some l[i] := List.getElem?_eq_getElem hil
    obtain ⟨go, yl⟩ := it1 i _ hx
    rw [List.drop_eq_getElem_cons hil] at hrun
    obtain ⟨rb, s3, h5, h6⟩ := bind_some hrun
    refine .inr ⟨go, fun t3 H3 => ∃ y' s4, Gd F Zx (Gs y') s4 t3 H3 ∧ Stp F G t H1 (Gs y') t3 H3 ∧ loopM f (l.drop (i + 1)) y' s4 = some (r0, s0), fun t3 H3 ⟨y', s4, q1, q2, q3⟩ => ⟨m - 1, by omega, y', s4, by omega, q1, q2, q3⟩, fun v H3 hy => ?_⟩
    obtain ⟨sm, rv⟩ := yl v H3 hy
    have g3 := g2.same sm
    refine hg' y (l[i]) Zx t2 H3 s2 v g3 rv _ fun t4 b4 => ?_
    have st4 : Stp F (Gs y) t2 H2 (Gx y (l[i])) t4 H3 := ⟨fun b o _ _ h => sm b o h, fun b z => .inl ((b4.own b).mp z)⟩
    have stb : ∀ {y' t5 H5}, Gd F Zx (Gs y') s3 t5 H5 → Stp F (Gx y (l[i])) t4 H3 (Gs y') t5 H5 → Stp F G t H1 (Gs y') t5 H5 := fun {y' t5 H5} g5 s5 => st2.trans (st4.trans s5 g5) g5
    refine hb' y (l[i]) Zx t4 H3 s2 rb s3 b4.gd h5 _ ?_
    cases rb with
    | nx y' => exact fun t5 H5 g5 s5 => ⟨y', s3, g5, stb g5 s5, h6⟩
    | ct y' => exact fun t5 H5 g5 s5 => ⟨y', s3, g5, stb g5 s5, h6⟩
    | bk y' =>
      obtain ⟨rfl, rfl⟩ := pure_eq h6
      obtain ⟨rfl, rfl⟩ := pure_eq h4
      exact fun t5 H5 g5 s5 => q t5 H5 g5 ((Stp.fix (F := F) (G := G) (t := t) f1).trans (stb g5 s5) g5)
    | rt v' =>
      obtain ⟨rfl, rfl⟩ := pure_eq h6
      obtain ⟨rfl, rfl⟩ := pure_eq h4
      refine fun v5 H5 a5 k5 r5 => q v5 H5 a5 (fun b o z y e => ?_) r5
      have e1 := stH.at1 z y e
      have e2 := st4.at1 z e1.1 e1.2
      exact k5 b o z e2.1 e2.2
  · refine .inl ⟨it2 i (by omega), ?_⟩
    rw [List.drop_of_length_le (by omega)] at hrun
    obtain ⟨rfl, rfl⟩ := pure_eq hrun
    obtain ⟨rfl, rfl⟩ := pure_eq h4
    exact q t2 H2 g2 stH
theorem Gd.setOwn {Zx : Addr → Prop} {s : S} {t : St} {H : Hp} {k : Nat} {d : PyData} {p : Addr} (g : Gd F (fun b => Zx b ∨ b = p) G s t H) (h : noOwn G [k] = true) (n : ¬ F.Z p) (n2 : ¬ Zx p) (r : OwnC (ZF F (fun b => Zx b ∨ b = p) G t) H p d)
    (hk : k < G.length) : Gd F Zx (G.set k (.own d)) s (t.set k (some (.ref p))) H ∧ ∀ b, Own (G.set k (.own d)) (t.set k (some (.ref p))) b ↔ (Own G t b ∨ b = p) := by
  have hkt : k < t.length := by
    rw [g.len]
    exact hk
  have gk : (G.set k (.own d))[k]? = some (.own d) := by rw [List.getElem?_set, if_pos rfl, if_pos hk]
  have tk : (t.set k (some (.ref p)))[k]? = some (some (.ref p)) := by rw [List.getElem?_set, if_pos rfl, if_pos hkt]
  have own : ∀ b, Own (G.set k (.own d)) (t.set k (some (.ref p))) b ↔ (Own G t b ∨ b = p) := fun b => by
    constructor
    · rintro ⟨i, d', h1, h2⟩
      by_cases hi : k = i
      · subst hi
        rw [tk] at h2
        cases h2
        exact .inr rfl
      · rw [List.getElem?_set_ne hi] at h1 h2
        exact .inl ⟨i, d', h1, h2⟩
    · rintro (⟨i, d', h1, h2⟩ | z)
      · have hi : k ≠ i := fun z => by
          subst z
          exact noOwn_at h List.mem_cons_self h1
        exact ⟨i, d', by rw [List.getElem?_set_ne hi]; exact h1, by rw [List.getElem?_set_ne hi]; exact h2⟩
      · subst z
        exact ⟨k, d, gk, tk⟩
  have ez : ZF F Zx (G.set k (.own d)) (t.set k (some (.ref p))) = ZF F (fun b => Zx b ∨ b = p) G t := funext fun b => propext ⟨fun z => by
    rcases z with z | z | z
    · exact .inl z
    · exact .inr (.inl (.inl z))
    · rcases (own b).mp z with z | z
      · exact .inr (.inr z)
      · exact .inr (.inl (.inr z)), fun z => by
    rcases z with z | (z | z) | z
    · exact .inl z
    · exact .inr (.inl z)
    · exact .inr (.inr ((own b).mpr (.inr z)))
    · exact .inr (.inr ((own b).mpr (.inl z)))⟩
  refine ⟨⟨by rw [List.length_set, List.length_set]; exact g.len, g.at_, fun b z => g.trk b (.inl z), fun i l o h1 h2 => ?_, fun i j d1 d2 q h1 h2 h3 h4 => ?_, fun q z => ?_⟩, own⟩
  · rw [ez]
    by_cases hi : k = i
    · subst hi
      rw [gk] at h1
      rw [tk] at h2
      cases h1
      cases h2
      exact ⟨p, rfl, r⟩
    · rw [List.getElem?_set_ne hi] at h1 h2
      exact g.slot i l o h1 h2
  · have sp : ∀ {i : Nat} {d' : PyData}, G[i]? = some (.own d') → t[i]? ≠ some (some (.ref p)) := fun {i d'} a b => (g.sep p ⟨i, d', a, b⟩).2 (.inr rfl)
    by_cases hi : k = i
    · by_cases hj : k = j
      · exact hi.symm.trans hj
      · subst hi
        rw [tk] at h3
        cases h3
        rw [List.getElem?_set_ne hj] at h2 h4
        exact absurd h4 (sp h2)
    · by_cases hj : k = j
      · subst hj
        rw [tk] at h4
        cases h4
        rw [List.getElem?_set_ne hi] at h1 h3
        exact absurd h3 (sp h1)
      · rw [List.getElem?_set_ne hi] at h1 h3
        rw [List.getElem?_set_ne hj] at h2 h4
        exact g.inj i j d1 d2 q h1 h2 h3 h4
  · rcases (own q).mp z with z | z
    · exact ⟨(g.sep q z).1, fun y => (g.sep q z).2 (.inl y)⟩
    · rw [z]
      exact ⟨n, n2⟩
/-- an expression whose value is a new object -/
def EO (Xs : I → Cx) (F : Fm S) (G : List Sl) (e : Expr) (m : M S A) : Prop := ∃ te, (∀ i, PE (Xs i) e te) ∧
  ∀ Zx t H s a s', Gd F Zx G s t H → m s = some (a, s') → ∀ Q : VK, (∀ p H', Gd F (fun b => Zx b ∨ b = p) G s' t H' → Fix F H H' → H p = none → OwnC (ZF F (fun b => Zx b ∨ b = p) G t) H' p (enc a) → Q (.ref p) H') → te t H Q
theorem eo_nil : EO Xs F G (.List [] pos) (pureM ([] : List A)) := by
  refine ⟨tLst tNil, fun _ => pe_lst pa_nil, fun Zx t H s y s' g hm Q q => ⟨Nat.zero_le _, fun pp hn => ?_⟩⟩
  obtain ⟨rfl, rfl⟩ := pure_eq hm
  exact q pp _ (g.more hn) (Fix.same (same_new hn)) hn ⟨[], upd_same, .nil⟩
theorem ss_setO {m : M S A} {k : Nat} {pos' : Pos} (h : EO Xs F G e m) (hN : ∀ i, (Xs i).N.Nodup) (hk : k < G.length := by exact Nat.le_of_ble_eq_true rfl) (hno : noOwn G [k] = true := by rfl) (hi : ∀ i, (Xs i).N[k]? = some x := by intro _; rfl)
    (hx : ∀ i, Loc (Xs i).env.scope x := by first | exact fun _ => Or.inl rfl | exact fun _ => Or.inr rfl) (hs : ∀ i, swapsWith e (some (.Name x pos')) pos.line (Xs i).env = pure false := by intro _; rfl)
    (hf : ∀ i, (Xs i).fn x = true ∨ (Xs i).env.scope.names.lookup x = some .local := by first | exact fun _ => .inl rfl | exact fun _ => .inr rfl) :
    SS (R := R) (L := L) Xs F G (.Assign [.Name x pos'] e pos) (bindM m fun y => pureM (.nx y)) (fun y : A => G.set k (.own (enc y))) Gl := by
  obtain ⟨te, hp, ho⟩ := h
  refine ⟨tAsg te (gName k), fun i => ps_set (hN i) (hi i) (hx i) (hp i) (hs i) (hf i), fun Zx t H s r s' g hm D q => ?_⟩
  obtain ⟨y, s1, e1, e2⟩ := bind_some hm
  obtain ⟨rfl, rfl⟩ := pure_eq e2
  refine ho Zx t H s y s1 g e1 _ fun pp H1 g1 f1 hn r1 => ?_
  have nF : ¬ F.Z pp := fun z => F.trk _ _ _ g.at_ z hn
  obtain ⟨g2, own⟩ := g1.setOwn hno nF (fun z => g.trk pp z hn) r1 hk
  refine q _ H1 g2 ⟨fun x o z _ h => f1 x o z h, fun x z => ?_⟩
  rcases (own x).mp z with z | z
  · exact .inl z
  · rw [z]
    exact .inr hn
/-- the own object of slot k is written -/
theorem Gd.putOwn {Zx : Addr → Prop} {s : S} {t : St} {H : Hp} {k : Nat} {d d' : PyData} {p : Addr} {o : HO} (g : Gd F Zx G s t H) (hk : G[k]? = some (.own d)) (ht : t[k]? = some (some (.ref p)))
    (r : OwnC (ZF F Zx G t) (upd H p o) p d') : Gd F Zx (G.set k (.own d')) s t (upd H p o) ∧ ∀ b, Own (G.set k (.own d')) t b ↔ Own G t b := by
  have hl : k < G.length := (List.getElem?_eq_some_iff.mp hk).1
  have gk : (G.set k (.own d'))[k]? = some (.own d') := by rw [List.getElem?_set, if_pos rfl, if_pos hl]
  have hp : Own G t p := ⟨k, d, hk, ht⟩
  have own : ∀ b, Own (G.set k (.own d')) t b ↔ Own G t b := fun b => by
    constructor
    · rintro ⟨i, e, h1, h2⟩
      by_cases hi : k = i
      · subst hi
        rw [ht] at h2
        cases h2
        exact hp
      · rw [List.getElem?_set_ne hi] at h1
        exact ⟨i, e, h1, h2⟩
    · rintro ⟨i, e, h1, h2⟩
      by_cases hi : k = i
      · subst hi
        exact ⟨k, d', gk, h2⟩
      · exact ⟨i, e, by rw [List.getElem?_set_ne hi]; exact h1, h2⟩
  have ez : ZF F Zx (G.set k (.own d')) t = ZF F Zx G t := funext fun b => propext ⟨fun z => z.imp id (Or.imp id (own b).mp), fun z => z.imp id (Or.imp id (own b).mpr)⟩
  have sp := g.sep p hp
  have ex : Ext (ZF F Zx G t) H (ZF F Zx G t) (upd H p o) := ⟨fun b u z h => by
    rw [upd_ne (fun k => z (by rw [k]; exact .inr (.inr hp)))]
    exact h, fun b z => .inl z⟩
  refine ⟨⟨by rw [List.length_set]; exact g.len, F.loc _ _ _ (fun b z => upd_ne (fun k => sp.1 (by rw [← k]; exact z))) g.at_, fun b z => ?_, fun i l u h1 h2 => ?_, fun i j d1 d2 q h1 h2 h3 h4 => ?_, fun q z => g.sep q ((own q).mp z)⟩, own⟩
  · rw [upd_ne (fun k => sp.2 (by rw [← k]; exact z))]
    exact g.trk b z
  · rw [ez]
    by_cases hi : k = i
    · subst hi
      rw [gk] at h1
      cases h1
      rw [ht] at h2
      cases h2
      exact ⟨p, rfl, r⟩
    · rw [List.getElem?_set_ne hi] at h1
      have w := g.slot i l u h1 h2
      cases l with
      | un => trivial
      | raw v => exact w
      | dat d =>
        obtain ⟨v, e, r⟩ := w
        exact ⟨v, e, r.ext ex⟩
      | ext fu hst =>
        obtain ⟨v, e, r⟩ := w
        exact ⟨v, e, hst _ _ _ _ _ ex r⟩
      | own d2 =>
        obtain ⟨p2, e, r2⟩ := w
        subst e
        have ne : p2 ≠ p := fun z => hi (by
          subst z
          exact g.inj k i _ _ _ hk h1 ht h2)
        exact ⟨p2, rfl, OwnC.ext ex (fun o ho => by rw [upd_ne ne]; exact ho) r2⟩
  · have up : ∀ {i : Nat} {e : PyData}, (G.set k (.own d'))[i]? = some (.own e) → ∃ e', G[i]? = some (.own e') := fun {i e} w => by
      by_cases hi : k = i
      · subst hi
        exact ⟨d, hk⟩
      · rw [List.getElem?_set_ne hi] at w
        exact ⟨e, w⟩
    obtain ⟨_, w1⟩ := up h1
    obtain ⟨_, w2⟩ := up h2
    exact g.inj i j _ _ q w1 w2 h3 h4
/-- x.append(e), x in slot k -/
theorem ss_append {l : List A} {m : M S A} {k : Nat} {apos cpos px : Pos} (hk : G[k]? = some (.own (enc l))) (h : EV Xs F G e m) (hN : ∀ i, (Xs i).N[k]? = some x := by intro _; rfl)
    (hv : ∀ i, Vis (Xs i).env.scope x := by first | exact fun _ => Or.inl rfl | exact fun _ => Or.inr (Or.inl rfl) | exact fun _ => Or.inr (Or.inr rfl)) (hd : (x == ("__debug__" : Str)) = false := by decide) (hcd : (x == ("__classdict__" : Str)) = false := by decide)
    (hbase : ∀ i, attributeBase (.Name x px) "append" (Xs i).env (eval (.Name x px) (Xs i).env) = eval (.Name x px) (Xs i).env := by intro _; rfl)
    (hfew : ∀ i, ((backTo cpos (starEach (e :: []) (Xs i).env)).all (fun x => !x.1) && (backToKw cpos (keywordEach [] (Xs i).env)).all (fun x => x.1.isSome)
      && decide ((e :: []).length + ([] : List Keyword).length + (if ([] : List Keyword).isEmpty then 0 else 1) < 30)) = true := by intro _; rfl)
    (hline : (apos.endLine == cpos.line) = true := by rfl) (hs : ∀ i, starEach (e :: []) (Xs i).env = (false, eval e (Xs i).env) :: starEach [] (Xs i).env := by intro _; rfl)
    (hpl : ∀ i, (backTo cpos (starEach [] (Xs i).env)).any (·.1) = false := by intro _; rfl) {K : PySem.W.Frag} (hK : ∀ i, (Xs i).K = K := by intro _; rfl)
    (hsw : ∀ i, swapsWith (.Call (.Attribute (.Name x px) "append" apos) [e] [] cpos) none pos.line (Xs i).env = pure false := by intro _; rfl) :
    SS (R := R) (L := L) Xs F G (.Expr (.Call (.Attribute (.Name x px) "append" apos) [e] [] cpos) pos) (bindM m fun y => guardM (lenOk (l.length + 1)) (pureM (.nx y))) (fun y : A => G.set k (.own (enc (l ++ [y])))) Gl := by
  obtain ⟨te, hp, ho⟩ := h
  refine ⟨tDrop (tBM K "list" rAppend (tVar k) (tCons te tNil)), fun i => ps_expr (by
    rw [← hK i]
    exact pe_bm PySem.F.plainAttrs_list PySem.F.slot_list_append PySem.F.type_list_append mt_append (pe_var (hN i) (hv i) hd hcd) (pa_cons (hp i) pa_nil (hs i)) (hbase i) (hfew i) hline (hs i) (hpl i)) (hsw i), fun Zx t H s r s' g hm D q => ?_⟩
  obtain ⟨y, s1, h1, h2⟩ := bind_some hm
  obtain ⟨hl, h3⟩ := guard_eq h2
  obtain ⟨rfl, rfl⟩ := pure_eq h3
  obtain ⟨hkl, _⟩ := List.getElem?_eq_some_iff.mp hk
  have hk' : k < t.length := by
    rw [g.len]
    exact hkl
  have ht : t[k]? = some (t[k]'hk') := List.getElem?_eq_getElem hk'
  obtain ⟨pp, ep, xs, hxs, _⟩ := g.slot k _ _ hk ht
  rw [ep] at ht
  refine ⟨.ref pp, ht, .inl ⟨rfl, xs, SqL.of hxs⟩, ?_⟩
  refine ho Zx t H s y s1 g h1 _ fun v H1 g1 f1 r1 => ?_
  obtain ⟨pp', ep', ys, hys, ry⟩ := g1.slot k _ _ hk ht
  cases ep'
  have hlen : ys.length = l.length := by rw [ry.len, List.length_map]
  refine ⟨pp, ys, v, rfl, rfl, hys, ?_, ?_⟩
  · rw [hlen]
    exact Nat.lt_of_lt_of_le (Nat.lt_succ_self _) (lenOk_line hl)
  · have hown : Own G t pp := ⟨k, _, hk, ht⟩
    have ex : Ext (ZF F Zx G t) H1 (ZF F Zx G t) (upd H1 pp (.lst (ys ++ [v]))) := ⟨fun b u z h => by
      rw [upd_ne (fun k => z (by rw [k]; exact .inr (.inr hown)))]
      exact h, fun b z => .inl z⟩
    obtain ⟨g2, own2⟩ := g1.putOwn (o := .lst (ys ++ [v])) (d' := enc (l ++ [y])) hk ht ⟨ys ++ [v], upd_same, by
      rw [List.map_append]
      exact (ry.append (.cons r1 .nil)).ext ex⟩
    refine q t _ g2 ⟨fun b o z w h => ?_, fun b z => .inl ((own2 b).mp z)⟩
    rw [upd_ne (fun k => w (by rw [k]; exact hown))]
    exact f1 b o z h
end
def startG (N : List Str) (ds : List PyData) : List Sl := ds.map .dat ++ List.replicate (N.length - ds.length) .un
section
variable {A U : Type} [Enc A] {P : Program} {w : World} {K : PySem.W.Frag} {mg : Str → Option Value} {base : Heap}
theorem Fun.okG {CX : CXT} {x qual : Str} {st : Stmt} {f : Addr} {fd : FuncData} {N ps : List Str} {k : Nat} {sp : Sp} (F : Fun K x qual st f fd) (S : FnScope N ps (defScope st)) (len : ∀ vs H Q E, sp vs H Q E → vs.length = ps.length)
    (hbody : ∀ (cdv : Value) (A : Around) (outer : List Env) (s : Shared) (H : Hp) (vs : List V) (Q : VK) (E : XK), Room k (A.deeper (PyProof.Rows.envOfC qual (defScope st) s.heap.objs.size f cdv)) → A.guards = some [] → sp vs H Q E →
      ∃ t, PSs (cxOf CX P w K mg base N qual (defScope st) f cdv A outer s H E) (defBody st) t ∧ t { nx := fun _ H' => Q .non H', rt := Q } (L2.start N vs) H) : FnG P w K mg base CX (k + 1) f fd ps sp := by
  obtain ⟨oc, od, kV, doc, pm, an, cdv, ct, osl, rfl, lk, hcd⟩ := F.ex
  refine ⟨len, fun A outer s H args us vs Q E hr hgd e0 hb r hsp => ?_⟩
  have hl := len _ _ _ _ hsp
  have KX : K.In s.heap := e0.mod.kin.keeps fun b o e => (e0.bs b o e).1
  have lim : s.heap.NoLimit := e0.mod.nolimit.keeps fun b o e => (e0.bs b o e).1
  have hkind : ∀ y ∈ ps.zip us, (defScope st).names.lookup y.1 = some .local ∨ ((defScope st).names.lookup y.1 = some .cell ∧ ((cellsFrom (s.heap.objs.size + 1) (defScope st).names []).lookup y.1).isSome = true) := fun ⟨n, v⟩ hy => by
    rcases S.par n (List.of_mem_zip hy).1 with q | q
    · exact .inl q
    · exact .inr ⟨q, PySem.W.cellsFrom_some _ _ _ (.inl q)⟩
  refine codeAny_call_function hr.depth (KX _ _ lk) rfl S.co S.gen rfl (PySem.W.codeRec_of KX hcd) (hb _ _ _ _ ?_)
  refine wpAny_newFunctionEnv_cells S.kind hkind fun env he s1 xx => ?_
  subst he
  refine ⟨lim.keeps xx.toInCall.keep, codeAny_func ?_⟩
  obtain ⟨t, ht, hq⟩ := hbody cdv A outer s H vs Q E (hr.deeper _) hgd hsp
  have J : Inv (cxOf CX P w K mg base N qual (defScope st) f cdv A outer s H E) [] (L2.start N vs) H s1 := inv_start S hr.hd e0 hl r xx
  refine wpAny_mono (ht.run [] s1 (L2.start N vs) H _ J hq) (fun fl s' hs => ?_) fun e s' hs => hs
  have fin : ∀ {t' : St} {H' : Hp} {v : V} {u : Value}, Inv (cxOf CX P w K mg base N qual (defScope st) f cdv A outer s H E) [] t' H' s' → RelV v u → Q v H' → CE outer P w H s Q u s' :=
    fun {t' H' v u} Jn rv q => ⟨v, H', Jn.os, Jn.bare, Jn.base, Jn.hok, rv, q⟩
  cases fl with
  | ret u =>
    obtain ⟨v, t', H', Jn, rv, q⟩ := hs
    exact fin Jn rv q
  | next =>
    obtain ⟨t', H', Jn, q⟩ := hs
    exact fin (v := V.non) (u := Value.none) Jn rfl q
  | brk =>
    obtain ⟨_, _, _, q⟩ := hs
    exact q.elim
  | cont =>
    obtain ⟨_, _, _, q⟩ := hs
    exact q.elim
/-- how a body ends a def: what it returns, or None -/
def retM {S R : Type} (none_ : Option R) (m : M S (Fl Unit Empty R)) : M S R := bindM m fun r => match r with
  | .rt r => pureM r
  | .nx _ => ofO none_
theorem startG_ok {Zx : Addr → Prop} {H : Hp} {N : List Str} {vs : List V} {ds : List PyData} (htr : ∀ b, Zx b → H b ≠ none) (r : RpL Zx H vs ds) : Gd fm0 Zx (startG N ds) () (L2.start N vs) H := by
  have hl := r.len
  have noo : ∀ {i : Nat} {d : PyData}, (startG N ds)[i]? ≠ some (.own d) := fun {i d} h => by
    unfold startG at h
    rw [List.getElem?_append] at h
    split at h
    · rw [List.getElem?_map] at h
      cases e : ds[i]? with
      | none =>
        rw [e] at h
        cases h
      | some y =>
        rw [e] at h
        cases h
    · have := List.eq_of_mem_replicate (List.mem_of_getElem? h)
      cases this
  have ez : ZF fm0 Zx (startG N ds) (L2.start N vs) = Zx := funext fun b => propext ⟨fun z => by
    rcases z with z | z | ⟨i, d, z, _⟩
    · exact z.elim
    · exact z
    · exact absurd z noo, fun z => .inr (.inl z)⟩
  refine ⟨?_, trivial, htr, fun i l o h1 h2 => ?_, fun i j d e p h1 => absurd h1 noo, fun p ⟨i, d, z, _⟩ => absurd z noo⟩
  · unfold startG L2.start
    rw [List.length_append, List.length_append, List.length_map, List.length_map, List.length_replicate, List.length_replicate, hl]
  · rw [ez]
    unfold startG at h1
    unfold L2.start at h2
    rw [List.getElem?_append] at h1 h2
    rw [List.length_map] at h1 h2
    rw [hl] at h2
    by_cases hi : i < ds.length
    · rw [if_pos hi, List.getElem?_map] at h1 h2
      cases e : ds[i]? with
      | none =>
        rw [e] at h1
        cases h1
      | some d =>
        rw [e] at h1
        cases h1
        obtain ⟨y, hy, ry⟩ := r.get e
        rw [hy] at h2
        cases h2
        exact ⟨y, rfl, ry⟩
    · rw [if_neg hi] at h1
      have := List.eq_of_mem_replicate (List.mem_of_getElem? h1)
      subst this
      trivial
/-- a def that is a function of its data -/
theorem defP {x : Str} {st : Stmt} {f : Addr} {fd : FuncData} {N ps : List Str} {k : Nat} {en : U → List PyData} {m : U → M Unit (Fl Unit Empty A)} {no : Option A} (F : Fun K x x st f fd) (S : FnScope N ps (defScope st)) (hg : mg x = some (.ref f)) (hb : Binds K fd ps [])
    (hen : ∀ u, (en u).length = ps.length) (hno : ∀ r, no = some r → enc r = PyData.none)
    (hbody : ∀ (cdv : Value) (A : Around) (outer : List Env) (s : Shared) (H : Hp) (E : XK), Room k (A.deeper (PyProof.Rows.envOfC x (defScope st) s.heap.objs.size f cdv)) → A.guards = some [] → ∀ u,
      ∃ Gn, SV (fun _ : Unit => (cxOf CX0 P w K mg base N x (defScope st) f cdv A outer s H E).nox) fm0 (startG N (en u)) (defBody st) (m u) Gn (fun z => z.elim)) :
    DefG P w K mg base CX0 (k + 1) x ps (spP en fun u => (retM no (m u) ()).map (·.1)) := by
  refine ⟨f, fd, Fun.okG F S (fun vs H Q E ⟨Z, u, r, _, hr, _⟩ => by rw [hr.len, hen]) (fun cdv A outer s H vs Q E hr hgd hsp => ?_), hg, F.kp, hb⟩
  obtain ⟨Z, u, r, htr, hrp, hf, q⟩ := hsp
  have g0 := startG_ok (N := N) htr hrp
  replace hf : (retM no (m u) ()).map (·.1) = some r := hf
  have hm : ∃ s1, retM no (m u) () = some (r, s1) := by
    cases e : retM no (m u) () with
    | none =>
      rw [e] at hf
      cases hf
    | some p =>
      rw [e] at hf
      cases hf
      exact ⟨p.2, rfl⟩
  obtain ⟨s1, hm⟩ := hm
  obtain ⟨fl, s2, h1, h2⟩ := bind_some hm
  have fin : ∀ {Gn : Unit → List Sl}, PostOk fm0 Z (startG N (en u)) (L2.start N vs) H Gn (fun z : Empty => z.elim) { nx := fun _ H' => Q .non H', rt := Q } s2 fl := by
    intro Gn
    have nOwn : ∀ b, ¬ Own (startG N (en u)) (L2.start N vs) b := fun b z => by
      have hz := g0.sep b z
      obtain ⟨i, d, z1, _⟩ := z
      unfold startG at z1
      rw [List.getElem?_append] at z1
      split at z1
      · rw [List.getElem?_map] at z1
        cases e : (en u)[i]? with
        | none =>
          rw [e] at z1
          cases z1
        | some y =>
          rw [e] at z1
          cases z1
      · have := List.eq_of_mem_replicate (List.mem_of_getElem? z1)
        cases this
    cases fl with
    | rt r' =>
      obtain ⟨rfl, rfl⟩ := pure_eq h2
      exact fun v H' _ k5 rv => q v H' (fun b o e => k5 b o (fun z => z) (nOwn b) e) (rv.ext (Ext.less fun b z => .inr z))
    | nx b =>
      obtain ⟨h3, rfl⟩ := ofO_eq h2
      refine fun t' H' _ st' => q .non H' (fun b o e => st'.1 b o (fun z => z) (nOwn b) e) ?_
      rw [hno _ h3]
      exact .non
    | bk z => exact z.elim
    | ct z => exact z.elim
  obtain ⟨Gn, ts, hp, ho⟩ := hbody cdv A outer s H E hr hgd u
  exact ⟨ts, (hp ()).nox, ho Z _ H () fl s2 g0 h1 _ fin⟩
end
end PL

namespace PL
open PySem L2 Enc
open PyProof.Rows (IntsAre)
/-- an empty set as it is made -/
def set0 (w : World) : Obj := { cls := .type "set", dict := none, data := .set #[] 0 (.fresh 0 0 (!w.params.followText "set-order")) }
section
variable {P : Program} {w : World} {A : Around} {E : Value → Shared → Prop} {s : Shared}
set_option maxRecDepth 100000 in
set_option maxHeartbeats 3200000 in
theorem set_of_lst {l : Addr} {xs : Array Value} (ks : List Int) {Q : Value → Shared → Prop} (hh : A.handled = none) (hL : s.heap.IsList l xs) (hi : IntsAre xs.toList ks) (hb : ks.length + 1 < scanBound)
    (hQ : ∀ (h1 : Heap) (t1 c : Nat), SetR w h1 s.heap.objs.size (fun j => decide (j ∈ ks)) c → c ≤ ks.length → (∀ b o, s.heap.get? b = some o → h1.get? b = some o) → Q (.ref s.heap.objs.size) { s with heap := h1, toks := t1 }) :
    wpAny (model P w) A (call (.type "set") [.ref l]) Q E s := by
  have hz : xs.size = ks.length := by
    have q := IntsAre.length hi
    rwa [Array.length_toList] at q
  obtain ⟨c0, tl0, hmro0⟩ := F.called_set.mro
  have made0 := F.called_set.made
  have sub0 := F.called_set.sub
  refine wpAny_call (codeAny_of_tree ?_)
  show wpAny _ _ (callAny (.type "set") _) _ _ _
  refine wpAny_pure ⟨Code.quiet_builtin _ (by (decide +kernel)), codeAny_builtin F.entry_type_call ?_⟩
  rw [Around.under_plain (weight_type_call_type "set" [Value.ref l] []) rfl]
  have nt0 := F.called_set.notType
  have cc0 := F.called_set.canCreate
  have tc0 := F.typeCall_set_1 (Value.ref l)
  repeat (any_goals (first | assumption | wp_step))
  refine codeAny_mono (code_set_led1 (.ref l) (E := E) (Q₁ := fun ob s1 => ob = .ref s.heap.objs.size ∧ s1 = { s with heap := s.heap.push (set0 w) }) ⟨rfl, rfl⟩) fun rr s1 hr => ?_
  cases rr with
  | error e => exact hr
  | ok fl =>
    cases fl with
    | ret ob =>
      obtain ⟨rfl, rfl⟩ := hr
      have hS : (s.heap.push (set0 w)).get? s.heap.objs.size = some (set0 w) := Heap.get?_push_size _ rfl
      have hT : Shared.TypeIs { s with heap := s.heap.push (set0 w) } (.ref s.heap.objs.size) "set" := ⟨_, hS, rfl⟩
      have il0 := F.called_set.init.lookup
      have ib0 := F.called_set.init.bind (.ref s.heap.objs.size)
      repeat (any_goals (first | assumption | wp_step))
      refine codeAny_mono (codeAny_call_builtin (R := wants (fun v s2 => v = .none ∧ ∃ h1 t1 c, s2 = { s with heap := h1, toks := t1 } ∧ SetR w h1 s.heap.objs.size (fun j => decide (j ∈ ks)) c ∧ c ≤ ks.length ∧
          (∀ b o, s.heap.get? b = some o → h1.get? b = some o)) E) F.called_set.init.plain F.entry_set_init (check_set_init_1 hT ?_)) fun r2 s2 hr2 => ?_
      · obtain ⟨ol, ho, hcl, nl, hdl⟩ := hL
        obtain ⟨ocls, odict, odata, oslots⟩ := ol
        simp only at hcl hdl
        subst hcl; subst hdl
        have ho1 : (s.heap.push (set0 w)).get? l = some { cls := .type "list", dict := odict, data := .seq xs nl, slots := oslots } := Heap.get?_push_of_some _ ho
        have sub1 := F.sub_list_set
        have sub2 := F.sub_list_frozenset
        have ne1 : (Value.type "list" == Value.type "dict") = false := by decide
        have hl1 : (s.heap.push (set0 w)).IsList l xs := ⟨_, ho1, rfl, nl, rfl⟩
        unfold Builtin.«set.__init__» noKeywords Builtin.Frozenset.updateFrom
        generalize hPI : pyIter = PI
        wp_walk
        subst hPI
        refine wpAny_pyIter_list hl1 ?_
        refine wpAny_bind (wpAny_runValue ?_)
        have hlS : l < s.heap.objs.size := Heap.lt_size ho
        have hh3 : A.in1.in1.in1.handled = none := by simp only [hh]
        have nI : l ≠ (s.heap.push (set0 w)).objs.size := by
          rw [Heap.size_push]
          exact Nat.ne_of_lt (Nat.lt_succ_of_lt hlS)
        have nS : s.heap.objs.size ∉ [(s.heap.push (set0 w)).objs.size, l] := by
          rw [Heap.size_push]
          intro z
          rcases List.mem_cons.mp z with z | z
          · exact absurd z (Nat.ne_of_lt (Nat.lt_succ_self _))
          · exact absurd (List.mem_singleton.mp z) (Nat.ne_of_gt hlS)
        have val : ∀ (i : Nat) (v : Value), xs[i]? = some v → ∃ k t, ks[i]? = some k ∧ v = .int k t := fun i v hv => by
          have hik : i < ks.length := by
            rw [← hz]
            exact (Array.getElem?_eq_some_iff.mp hv).1
          obtain ⟨t, e⟩ := PyProof.Rows.IntsAre.int_at hi i v (by rw [Array.getElem?_toList, hv])
          refine ⟨ks[i], t, List.getElem?_eq_getElem hik, ?_⟩
          rw [e, List.getD_eq_getElem?_getD, List.getElem?_eq_getElem hik]
          rfl
        refine set_update_ints ((Walks.list hh3 _ l nI xs).toS) s.heap.objs.size
          nS ks hz hb val (xs.size - 0) 0 _ (by omega) (Nat.zero_le _)
          ⟨⟨_, Heap.get?_push_size _ rfl, rfl, rfl⟩, (hl1.push _)⟩ ?hS0 ?hR
        case hS0 =>
          have hget : ((s.heap.push (set0 w)).push { cls := .type "list_iterator", data := .fields #[.ref l, .int 0 0] }).get? s.heap.objs.size = some (set0 w) := Heap.get?_push_of_some _ hS
          exact ⟨0, Nat.le_refl 0, setR_new_at hget⟩
        case hR =>
          intro s3 c1 hm hc1 hS1
          obtain ⟨h1, g1, d1, t1, os1⟩ := s3
          have eg : g1 = s.gens := hm.gens
          have ed : d1 = s.drawn := hm.drawn
          have eo : os1 = s.os := hm.os
          subst eg; subst ed; subst eo
          show wpAny _ _ _ _ _ _
          refine wpAny_pure ?_
          show wpAny _ _ (ret Value.none) _ _ _
          rw [hz] at hc1
          refine wpAny_pure ⟨rfl, h1, t1, c1, rfl, hS1, hc1, fun b o e => ?_⟩
          have b0 : b < s.heap.objs.size := Heap.lt_size e
          refine hm.heap b o (fun z => ?_) (Heap.get?_push_of_some _ (Heap.get?_push_of_some _ e))
          rcases List.mem_cons.mp z with z | z
          · exact absurd z (Nat.ne_of_lt b0)
          · refine absurd (List.mem_singleton.mp z) ?_
            rw [Heap.size_push]
            exact Nat.ne_of_lt (Nat.lt_succ_of_lt b0)
      · cases r2 with
        | error e => exact hr2
        | ok fl2 =>
          cases fl2 with
          | ret v =>
            obtain ⟨rfl, h1, t1, c1, rfl, hS1, hc1, hk1⟩ := hr2
            repeat (any_goals (first | assumption | wp_step))
            exact hQ _ _ _ hS1 hc1 hk1
          | _ => exact hr2.elim
    | _ => exact hr.elim
end
section
variable {X : Cx}
/-- set(xs) of a list of ints -/
def rSetOfL (K : PySem.W.Frag) (w : World) : List V → Hp → VK → Prop := fun vs H Q => ∃ (a : Addr) (ns : List Int), vs = [V.ref a] ∧ SqL K H a (ns.map V.int) ∧ ns.length ≤ 1000 ∧
  ∀ p c, H p = none → c ≤ ns.length → Q (.ref p) (upd H p (SetO w p (fun j => decide (j ∈ ns)) c))
theorem cr_setL (hc : X.calm = true) : CallR X (.type "set") (rSetOfL X.K X.w) := by
  intro pins s st H vs us Q I r h
  obtain ⟨a, ns, rfl, hs, hl, q⟩ := h
  obtain ⟨its, rv, pl, _⟩ := I.list hs
  rw [Vals.ref1 r]
  obtain ⟨o, n, e1, e2, _, e3⟩ := pl
  have fr : H s.heap.objs.size = none := I.fresh
  refine set_of_lst ns (I.ok.hd hc) ⟨o, e1, e2, n, e3⟩ (by simpa using rv.ints) (by unfold scanBound; omega) fun h1 t1 c R hcl keep => ?_
  exact ⟨.ref s.heap.objs.size, _, I.laid keep (Nat.le_refl _) (setO_new R), rfl, q _ c fr hcl⟩
end
end PL

namespace PL
open PySem L2 Enc
section
variable {I S A B C U : Type} [Enc A] [Enc B] [Enc C] {Xs : I → Cx} {F : Fm S} {G : List Sl} {pos p p2 : Pos} {e a b c tg iter : Expr} {es : List Expr} {K : PySem.W.Frag} {x : Str}
def chainM {S : Type} (f g : Int → Int → Bool) (m n o : M S Int) : M S Bool := bindM m fun x => bindM n fun y => if f x y then bindM o fun z => pureM (g y z) else pureM false
theorem chainM_pure (f g : Int → Int → Bool) (x y z : Int) : chainM f g (pureM x : M S Int) (pureM y) (pureM z) = pureM (f x y && g y z) := by
  unfold chainM
  simp only [bind_pure]
  cases f x y <;> rfl
theorem ok_chain {f g : Int → Int → Bool} {ta tb tc : TE} {m n o : M S Int} (ha : TEok F G ta m) (hb : TEok F G tb n) (hc : TEok F G tc o) :
    TEok F G (tChain (rI0 fun i j => .bl (f i j)) (rI0 fun i j => .bl (g i j)) ta tb tc) (chainM f g m n o) := fun Zx t H s y s' gd hm Q q => by
  obtain ⟨i, s1, h1, h2⟩ := bind_some hm
  obtain ⟨j, s2, h3, h4⟩ := bind_some h2
  refine ha Zx t H s i s1 gd h1 _ fun v H1 g1 f1 r1 => ?_
  refine hb Zx t H1 s1 j s2 g1 h3 _ fun u H2 g2 f2 r2 => ?_
  refine ⟨i, j, r1.toInt, r2.toInt, f i j, rfl, ?_⟩
  cases e : f i j with
  | true =>
    rw [e] at h4
    obtain ⟨k, s3, h5, h6⟩ := bind_some h4
    obtain ⟨rfl, rfl⟩ := pure_eq h6
    refine iteT (hc Zx t H2 s2 k s3 g2 h5 _ fun w' H3 g3 f3 r3 => ?_)
    exact ⟨j, k, r2.toInt, r3.toInt, q _ H3 g3 ((f1.trans f2).trans f3) (.bl _)⟩
  | false =>
    rw [e] at h4
    obtain ⟨rfl, rfl⟩ := pure_eq h4
    exact iteF (q _ H2 g2 (f1.trans f2) (.bl false))
theorem ev_chain {op op' : CmpOp} {f g : Int → Int → Bool} {m n o : M S Int} (ho : ∀ i, OpR (Xs i) (compareOp op) (rI0 fun i j => .bl (f i j))) (ho' : ∀ i, OpR (Xs i) (compareOp op') (rI0 fun i j => .bl (g i j)))
    (ha : EV Xs F G a m) (hb : EV Xs F G b n) (hc : EV Xs F G c o) (hm : lastMarks [op, op'] [b, c] = false := by with_unfolding_all rfl) : EV Xs F G (.Compare a [op, op'] [b, c] pos) (chainM f g m n o) := by
  obtain ⟨ta, hp, hx⟩ := ha
  obtain ⟨tb, hq, hy⟩ := hb
  obtain ⟨tc, hr, hz⟩ := hc
  exact ⟨_, fun i => pe_chain (ho i) (ho' i) (hp i) (hq i) (hr i) hm, ok_chain hx hy hz⟩
theorem et_chain {op op' : CmpOp} {f g : Int → Int → Bool} {m n o : M S Int} (ho : ∀ i, OpR (Xs i) (compareOp op) (rI0 fun i j => .bl (f i j))) (ho' : ∀ i, OpR (Xs i) (compareOp op') (rI0 fun i j => .bl (g i j)))
    (ha : EV Xs F G a m) (hb : EV Xs F G b n) (hc : EV Xs F G c o) (hm : lastMarks [op, op'] [b, c] = false := by with_unfolding_all rfl) : ET Xs F G (.Compare a [op, op'] [b, c] pos) (chainM f g m n o) := by
  obtain ⟨ta, hp, hx⟩ := ha
  obtain ⟨tb, hq, hy⟩ := hb
  obtain ⟨tc, hr, hz⟩ := hc
  refine ⟨tTest _, fun i => pt_chain (ho i) (ho' i) (hp i) (hq i) (hr i) hm, fun Zx t H s y s' g hm Q q => ?_⟩
  exact ok_chain hx hy hz Zx t H s y s' g hm _ fun v H' g' f' r' => ⟨y, r'.bool, q H' g' f'⟩
theorem atI_map {A B : Type} (f : A → B) (l : List A) (i : Int) : atI (l.map f) i = (atI l i).map f := by
  unfold atI
  rw [List.length_map]
  cases ixN l.length i with
  | none => rfl
  | some j =>
    show (l.map f)[j]? = (l[j]?).map f
    rw [List.getElem?_map]
theorem RpL.at {Z : Addr → Prop} {H : Hp} {xs : List V} {l : List A} {i : Int} {y : A} (r : RpL Z H xs (l.map enc)) (h : atI l i = some y) : ∃ v, atI xs i = some v ∧ Rp Z H v (enc y) := by
  unfold atI at h ⊢
  have hl : xs.length = l.length := by rw [r.len, List.length_map]
  rw [hl]
  cases e : ixN l.length i with
  | none =>
    rw [e] at h
    cases h
  | some j =>
    rw [e] at h
    obtain ⟨v, h1, h2⟩ := r.get (i := j) (x := enc y) (by
      rw [List.getElem?_map]
      have h' : l[j]? = some y := h
      rw [h']
      rfl)
    exact ⟨v, h1, h2⟩
def ixM {A : Type} (m : M S (List A)) (n : M S Int) : M S A := bin2 (fun (l : List A) i => atI l i) m n
@[simp] theorem ixM_pure (l : List A) (i : Int) : ixM (pureM l : M S (List A)) (pureM i) = ofO (atI l i) := rfl
theorem ev_ixL {m : M S (List A)} {n : M S Int} (ha : EV Xs F G a m) (hb : EV Xs F G b n) (hs : PlainIx b := by exact fun _ _ => rfl) (hK : ∀ i, (Xs i).K = K := by intro _; rfl) : EV Xs F G (.Subscript a b pos) (ixM m n) := by
  obtain ⟨ta, hp, hx⟩ := ha
  obtain ⟨tb, hq, hy⟩ := hb
  refine ⟨tOp (rIxL K) ta tb, fun i => by rw [← hK i]; exact pe_ix ix_list (hp i) (hq i) hs, ok_op2 (fun F Zx G s t H x y vx vy z g rx ry e Q q => ?_) hx hy⟩
  obtain ⟨pp, xs, rfl, n1, h, l⟩ := rx.toLst
  obtain rfl := ry.toInt
  obtain ⟨v, h1, h2⟩ := l.at e
  exact ⟨pp, xs, y, v, rfl, rfl, SqL.of h, h1, q v H (Same.refl H) h2⟩
theorem ev_ixT {m : M S (Tup A)} {n : M S Int} (ha : EV Xs F G a m) (hb : EV Xs F G b n) (hs : PlainIx b := by exact fun _ _ => rfl) (hK : ∀ i, (Xs i).K = K := by intro _; rfl) : EV Xs F G (.Subscript a b pos) (ixM (mapM1 unTup m) n) := by
  obtain ⟨ta, hp, hx⟩ := ha
  obtain ⟨tb, hq, hy⟩ := hb
  have := ok_op2 (F := F) (G := G) (r := rIxT K) (f := fun (l : Tup A) i => atI (unTup l) i) (fun F Zx G s t H x y vx vy z g rx ry e Q q => by
    obtain ⟨pp, xs, rfl, n1, h, l⟩ := rx.toTup
    obtain rfl := ry.toInt
    obtain ⟨v, h1, h2⟩ := l.at e
    exact ⟨pp, xs, y, v, rfl, rfl, h.sq, h1, q v H (Same.refl H) h2⟩) hx hy
  refine ⟨tOp (rIxT K) ta tb, fun i => by rw [← hK i]; exact pe_ix ix_tup (hp i) (hq i) hs, ?_⟩
  have e : ixM (mapM1 unTup m) n = bin2 (fun (l : Tup A) i => atI (unTup l) i) m n := by
    unfold ixM bin2 mapM1
    rw [bind_assoc]
    rfl
  rw [e]
  exact this
/-- a place of a tuple of known arity -/
theorem ev_proj {m : M S A} {k : Nat} {j : Nat} {sp : Pos} (f : A → B) (hf : ∀ y, ∃ ds, enc y = .tuple ds ∧ ds[k]? = some (enc (f y))) (ha : EV Xs F G a m) (hK : ∀ i, (Xs i).K = K := by intro _; rfl) :
    EV Xs F G (.Subscript a (.Constant (.int (k : Int)) j sp) pos) (mapM1 f m) := by
  obtain ⟨ta, hp, hx⟩ := ha
  refine ⟨tOp (rIxT K) ta (tC (.int (k : Int))), fun i => by rw [← hK i]; exact pe_ix ix_tup (hp i) pe_int (fun _ _ => rfl), fun Zx t H s y s' g hm Q q => ?_⟩
  obtain ⟨z, s1, h1, h2⟩ := bind_some hm
  obtain ⟨rfl, rfl⟩ := pure_eq h2
  refine hx Zx t H s z s1 g h1 _ fun v H1 g1 f1 r1 => ?_
  obtain ⟨ds, e1, e2⟩ := hf z
  rw [e1] at r1
  cases r1 with
  | tup n h l =>
    obtain ⟨u, h3, h4⟩ := l.get e2
    exact ⟨_, _, (k : Int), u, rfl, rfl, h.sq, atI_nat h3, q u H1 g1 f1 h4⟩
def EP (Xs : I → Cx) (F : Fm S) (G : List Sl) (e : Option Expr) (m : M S (Option Int)) : Prop := ∃ t, (∀ i, PO (Xs i) e t) ∧
  ∀ Zx t1 H s a s', Gd F Zx G s t1 H → m s = some (a, s') → ∀ Q : Option Int → Hp → Prop, (∀ H', Gd F Zx G s' t1 H' → Fix F H H' → Q a H') → t t1 H Q
theorem ep_none : EP Xs F G none (pureM none) := ⟨tNoPart, fun _ => po_none, fun Zx t H s a s' g hm Q q => by
  obtain ⟨rfl, rfl⟩ := pure_eq hm
  exact q H g (Fix.refl H)⟩
theorem ep_some {m : M S Int} (h : EV Xs F G e m) : EP Xs F G (some e) (mapM1 some m) := by
  obtain ⟨te, hp, ho⟩ := h
  refine ⟨tPart te, fun i => po_some (hp i), fun Zx t H s a s' g hm Q q => ?_⟩
  obtain ⟨z, s1, h1, h2⟩ := bind_some hm
  obtain ⟨rfl, rfl⟩ := pure_eq h2
  exact ho Zx t H s z s1 g h1 _ fun v H1 g1 f1 r1 => ⟨z, r1.toInt, q H1 g1 f1⟩
/-- xs[lo:hi] -/
def cutL {A : Type} (lo hi : Option Int) (l : List A) : List A := (l.drop (HT.sIx l.length 0 lo)).take (HT.sIx l.length l.length hi - HT.sIx l.length 0 lo)
def cutM {A : Type} (m : M S (List A)) (n o : M S (Option Int)) : M S (List A) := bindM m fun l => bindM n fun lo => bindM o fun hi => pureM (cutL lo hi l)
@[simp] theorem cutM_pure (l : List A) (lo hi : Option Int) : cutM (pureM l : M S (List A)) (pureM lo) (pureM hi) = pureM (cutL lo hi l) := rfl
theorem RpL.cut {Z : Addr → Prop} {H : Hp} {xs : List V} {l : List A} (r : RpL Z H xs (l.map enc)) (lo hi : Option Int) : RpL Z H (cutV xs lo hi) ((cutL lo hi l).map enc) := by
  have hl : xs.length = l.length := by rw [r.len, List.length_map]
  unfold cutV cutL
  rw [hl, List.map_take, List.map_drop]
  exact (r.drop _).take _
theorem ev_slL {m : M S (List A)} {n o : M S (Option Int)} {lo hi : Option Expr} (ha : EV Xs F G a m) (h1 : EP Xs F G lo n) (h2 : EP Xs F G hi o) (hK : ∀ i, (Xs i).K = K := by intro _; rfl) : EV Xs F G (.Subscript a (.Slice lo hi none p2) pos) (cutM m n o) := by
  obtain ⟨ta, hp, hx⟩ := ha
  obtain ⟨tb, hq, hy⟩ := h1
  obtain ⟨tc, hr, hz⟩ := h2
  refine ⟨tSl (rSlL K) ta tb tc, fun i => by rw [← hK i]; exact pe_slice sl_list (hp i) (hq i) (hr i), fun Zx t H s y s' g hm Q q => ?_⟩
  obtain ⟨l, s1, e1, e2⟩ := bind_some hm
  obtain ⟨i, s2, e3, e4⟩ := bind_some e2
  obtain ⟨j, s3, e5, e6⟩ := bind_some e4
  obtain ⟨rfl, rfl⟩ := pure_eq e6
  refine hx Zx t H s l s1 g e1 _ fun v H1 g1 f1 r1 => ?_
  refine hy Zx t H1 s1 i s2 g1 e3 _ fun H2 g2 f2 => ?_
  refine hz Zx t H2 s2 j s3 g2 e5 _ fun H3 g3 f3 => ?_
  obtain ⟨pp, xs, rfl, n1, h, r⟩ := ((r1.fix f2).fix f3).toLst
  refine ⟨pp, xs, rfl, SqL.of h, fun pn hn => ?_⟩
  have sm : Same H3 (upd H3 pn (.lst (cutV xs i j))) := same_new hn
  exact q _ _ (g3.same sm) (((f1.trans f2).trans f3).trans (Fix.same sm)) (.lst (g3.new hn) upd_same ((r.cut i j).fix (Fix.same sm)))
theorem ev_slT {m : M S (Tup A)} {n o : M S (Option Int)} {lo hi : Option Expr} (ha : EV Xs F G a m) (h1 : EP Xs F G lo n) (h2 : EP Xs F G hi o) (hK : ∀ i, (Xs i).K = K := by intro _; rfl) :
    EV Xs F G (.Subscript a (.Slice lo hi none p2) pos) (mapM1 toTup (cutM (mapM1 unTup m) n o)) := by
  obtain ⟨ta, hp, hx⟩ := ha
  obtain ⟨tb, hq, hy⟩ := h1
  obtain ⟨tc, hr, hz⟩ := h2
  refine ⟨tSl (rSlB K) ta tb tc, fun i => by rw [← hK i]; exact pe_slice sl_tupB (hp i) (hq i) (hr i), fun Zx t H s y s' g hm Q q => ?_⟩
  obtain ⟨y0, s4, hm1, e0⟩ := bind_some hm
  obtain ⟨rfl, rfl⟩ := pure_eq e0
  obtain ⟨l, s1, e1, e2⟩ := bind_some hm1
  obtain ⟨i, s2, e3, e4⟩ := bind_some e2
  obtain ⟨j, s3, e5, e6⟩ := bind_some e4
  obtain ⟨rfl, rfl⟩ := pure_eq e6
  obtain ⟨l0, s0, e7, e8⟩ := bind_some e1
  obtain ⟨rfl, rfl⟩ := pure_eq e8
  refine hx Zx t H s l0 s0 g e7 _ fun v H1 g1 f1 r1 => ?_
  refine hy Zx t H1 s0 i s2 g1 e3 _ fun H2 g2 f2 => ?_
  refine hz Zx t H2 s2 j s3 g2 e5 _ fun H3 g3 f3 => ?_
  obtain ⟨pp, xs, rfl, n1, h, r⟩ := ((r1.fix f2).fix f3).toTup
  have rc := r.cut i j
  refine ⟨pp, xs, rfl, h.sq, fun hw => ?_, fun hw pn ob hn hb => ?_⟩
  · refine q _ H3 g3 ((f1.trans f2).trans f3) (.tup n1 h ?_)
    have e : cutV xs i j = xs := by
      unfold cutV
      rw [hw.1, hw.2, List.drop_zero, Nat.sub_zero, List.take_length]
    rw [e] at rc
    exact rc
  · have sm : Same H3 (upd H3 pn (.frz ob (.tup (cutV xs i j)))) := same_new hn
    exact q _ _ (g3.same sm) (((f1.trans f2).trans f3).trans (Fix.same sm)) (.tup (g3.new hn) ⟨ob, upd_same, hb⟩ (rc.fix (Fix.same sm)))
/-- xs[::-1] of a list -/
theorem ev_revL {m : M S (List A)} {k : Nat} {q1 q2 q3 : Pos} (ha : EV Xs F G a m) (hK : ∀ i, (Xs i).K = K := by intro _; rfl) : EV Xs F G (.Subscript a (.Slice none none (some (.UnaryOp .USub (.Constant (.int 1) k q1) q2)) q3) pos) (mapM1 List.reverse m) := by
  obtain ⟨ta, hp, hx⟩ := ha
  refine ⟨tRevL K ta, fun i => by rw [← hK i]; exact pe_revL (hp i), fun Zx t H s y s' g hm Q q => ?_⟩
  obtain ⟨z, s1, h1, h2⟩ := bind_some hm
  obtain ⟨rfl, rfl⟩ := pure_eq h2
  refine hx Zx t H s z s1 g h1 _ fun v H1 g1 f1 r1 => ?_
  obtain ⟨pp, xs, rfl, n1, h, r⟩ := r1.toLst
  refine ⟨pp, xs, rfl, SqL.of h, fun pn hn => ?_⟩
  have sm : Same H1 (upd H1 pn (.lst xs.reverse)) := same_new hn
  refine q _ _ (g1.same sm) (f1.trans (Fix.same sm)) (.lst (g1.new hn) upd_same ?_)
  rw [List.map_reverse]
  exact r.rev.fix (Fix.same sm)
theorem bin2_map {A B C A' B' C' : Type} (f : A → A') (g : B → B') (h : C' → C) (m : M S A) (n : M S B) (k : A' → B' → Option C') (k' : A → B → Option C) (e : ∀ x y, k' x y = (k (f x) (g y)).map h) :
    mapM1 h (bin2 k (mapM1 f m) (mapM1 g n)) = bin2 k' m n := by
  funext s
  simp only [mapM1, bin2, bindM, pureM, ofO]
  cases m s with
  | none => rfl
  | some p =>
    obtain ⟨x, s1⟩ := p
    simp only
    cases n s1 with
    | none => rfl
    | some q =>
      obtain ⟨y, s2⟩ := q
      simp only [e]
      cases k (f x) (g y) <;> rfl
def catM {A : Type} (m n : M S (List A)) : M S (List A) := bin2 (fun (x y : List A) => if lenOk (x.length + y.length) then some (x ++ y) else none) m n
theorem catM_pure {x y : List A} (h : lenOk (x.length + y.length)) : catM (pureM x : M S (List A)) (pureM y) = pureM (x ++ y) := by
  show ofO (if lenOk (x.length + y.length) then some (x ++ y) else none) = _
  rw [if_pos h]
  rfl
theorem ev_catL {m n : M S (List A)} (ha : EV Xs F G a m) (hb : EV Xs F G b n) : EV Xs F G (.BinOp a .Add b pos) (catM m n) := ev_op (fun _ => op_cat) (fun F Zx G s t H x y vx vy z g rx ry e Q q => by
  replace e : (if lenOk (x.length + y.length) then some (x ++ y) else none) = some z := e
  by_cases hl : lenOk (x.length + y.length)
  · rw [if_pos hl] at e
    cases e
    obtain ⟨pp, xs, rfl, n1, h, r⟩ := rx.toLst
    obtain ⟨p3, ys, rfl, n2, h2, r2⟩ := ry.toLst
    refine ⟨pp, p3, xs, ys, rfl, rfl, h, h2, ?_, fun pn hn => ?_⟩
    · rw [r.len, r2.len, List.length_map, List.length_map]
      exact lenOk_line hl
    · have sm : Same H (upd H pn (.lst (xs ++ ys))) := same_new hn
      refine q _ _ sm (.lst (g.new hn) upd_same ?_)
      rw [List.map_append]
      exact (r.append r2).fix (Fix.same sm)
  · rw [if_neg hl] at e
    cases e) ha hb
theorem ev_catT {m n : M S (Tup A)} (ha : EV Xs F G a m) (hb : EV Xs F G b n) (hK : ∀ i, (Xs i).K = K := by intro _; rfl) : EV Xs F G (.BinOp a .Add b pos) (mapM1 toTup (catM (mapM1 unTup m) (mapM1 unTup n))) := by
  refine EV.eq (ev_op (r := rCatB K) (f := fun (x y : Tup A) => if lenOk ((unTup x).length + (unTup y).length) then some (toTup (unTup x ++ unTup y)) else none) (fun i => by rw [← hK i]; exact op_catB) (fun F Zx G s t H x y vx vy z g rx ry e Q q => ?_) ha hb) ?_
  · replace e : (if lenOk ((unTup x).length + (unTup y).length) then some (toTup (unTup x ++ unTup y)) else none) = some z := e
    by_cases hl : lenOk ((unTup x).length + (unTup y).length)
    · rw [if_pos hl] at e
      cases e
      obtain ⟨pp, xs, rfl, n1, h, r⟩ := rx.toTup
      obtain ⟨p3, ys, rfl, n2, h2, r2⟩ := ry.toTup
      have fin : ∀ {Z H2 v zs}, Rp Z H2 v (.tuple (List.map enc (unTup x) ++ List.map enc (unTup y))) → zs = toTup (unTup x ++ unTup y) → Rp Z H2 v (enc zs) := fun {Z H2 v zs} r e => by
        subst e
        show Rp Z H2 v (.tuple (List.map enc (unTup x ++ unTup y)))
        rw [List.map_append]
        exact r
      refine ⟨pp, p3, xs, ys, rfl, rfl, h.sq, h2.sq, ?_, fun e0 => ?_, fun e0 e1 => ?_, fun e0 e1 pn ob hn hb => ?_⟩
      · rw [r.len, r2.len, List.length_map, List.length_map]
        exact lenOk_line hl
      · have : List.map enc (unTup x) = [] := r.nil_iff.mp e0
        exact q _ H (Same.refl H) (fin (by rw [this, List.nil_append]; exact .tup n2 h2 r2) rfl)
      · have : List.map enc (unTup y) = [] := r2.nil_iff.mp e1
        exact q _ H (Same.refl H) (fin (by rw [this, List.append_nil]; exact .tup n1 h r) rfl)
      · have sm : Same H (upd H pn (.frz ob (.tup (xs ++ ys)))) := same_new hn
        exact q _ _ sm (fin (.tup (g.new hn) ⟨ob, upd_same, hb⟩ ((r.append r2).fix (Fix.same sm))) rfl)
    · rw [if_neg hl] at e
      cases e
  · refine (bin2_map unTup unTup toTup m n _ _ fun x y => ?_).symm
    by_cases hl : lenOk ((unTup x).length + (unTup y).length)
    · rw [if_pos hl, if_pos hl]
      rfl
    · rw [if_neg hl, if_neg hl]
      rfl
def repM {A : Type} (m : M S (List A)) (n : M S Int) : M S (List A) := bin2 (fun (x : List A) (k : Int) => if -(2 ^ 62) ≤ k ∧ k < 2 ^ 62 ∧ lenOk (x.length * k.toNat) then some (List.replicate k.toNat x).flatten else none) m n
theorem flatten_map {A B : Type} (f : A → B) (x : List A) : ∀ k : Nat, ((List.replicate k x).flatten).map f = (List.replicate k (x.map f)).flatten
  | 0 => rfl
  | k + 1 => by rw [List.replicate_succ, List.replicate_succ, List.flatten_cons, List.flatten_cons, List.map_append, flatten_map f x k]
theorem ev_rep {m : M S (List A)} {n : M S Int} (ha : EV Xs F G a m) (hb : EV Xs F G b n) : EV Xs F G (.BinOp a .Mult b pos) (repM m n) := ev_op (fun _ => op_rep) (fun F Zx G s t H x y vx vy z g rx ry e Q q => by
  replace e : (if -(2 ^ 62) ≤ y ∧ y < 2 ^ 62 ∧ lenOk (x.length * y.toNat) then some (List.replicate y.toNat x).flatten else none) = some z := e
  by_cases hl : -(2 ^ 62) ≤ y ∧ y < 2 ^ 62 ∧ lenOk (x.length * y.toNat)
  · rw [if_pos hl] at e
    cases e
    obtain ⟨pp, xs, rfl, n1, h, r⟩ := rx.toLst
    obtain rfl := ry.toInt
    refine ⟨pp, y, xs, rfl, rfl, h, by omega, by omega, ?_, fun pn hn => ?_⟩
    · rw [r.len, List.length_map]
      exact lenOk_line hl.2.2
    · have sm : Same H (upd H pn (.lst (List.replicate y.toNat xs).flatten)) := same_new hn
      refine q _ _ sm (.lst (g.new hn) upd_same ?_)
      rw [flatten_map]
      exact (r.rep _).fix (Fix.same sm)
  · rw [if_neg hl] at e
    cases e) ha hb
def dedupI : List Int → List Int
  | [] => []
  | x :: l => if x ∈ l then dedupI l else x :: dedupI l
theorem mem_dedupI {k : Int} : ∀ {l : List Int}, k ∈ dedupI l ↔ k ∈ l
  | [] => Iff.rfl
  | x :: l => by
    have ih := mem_dedupI (k := k) (l := l)
    unfold dedupI
    by_cases h : x ∈ l
    · rw [if_pos h, ih, List.mem_cons]
      exact ⟨.inr, fun z => z.elim (fun e => e ▸ h) id⟩
    · rw [if_neg h, List.mem_cons, List.mem_cons, ih]
theorem nodup_dedupI : ∀ (l : List Int), (dedupI l).Nodup
  | [] => List.Pairwise.nil
  | x :: l => by
    unfold dedupI
    by_cases h : x ∈ l
    · rw [if_pos h]
      exact nodup_dedupI l
    · rw [if_neg h]
      exact List.nodup_cons.mpr ⟨fun z => h (mem_dedupI.mp z), nodup_dedupI l⟩
theorem len_dedupI : ∀ (l : List Int), (dedupI l).length ≤ l.length
  | [] => Nat.le_refl _
  | x :: l => by
    have ih := len_dedupI l
    unfold dedupI
    split <;> simp only [List.length_cons] <;> omega
/-- sorted(set(l)) -/
def sortU (l : List Int) : List Int := sortI (dedupI l)
theorem mem_sortU {k : Int} {l : List Int} : k ∈ sortU l ↔ k ∈ l := ((sortI_perm _).mem_iff).trans mem_dedupI
theorem sortU_lt (l : List Int) : (sortU l).Pairwise (· < ·) := by
  have h1 := sortI_le (dedupI l)
  have h2 : (sortU l).Nodup := (sortI_perm _).symm.nodup (nodup_dedupI l)
  have h3 : (sortU l).Pairwise fun a b => a ≤ b ∧ a ≠ b := h1.and h2
  exact h3.imp fun h => by omega
theorem sortU_len (l : List Int) : (sortU l).length ≤ l.length := by
  unfold sortU
  rw [(sortI_perm _).length_eq]
  exact len_dedupI l
theorem inc_one {l r : List Int} (h1 : l.Pairwise (· < ·)) (h2 : r.Pairwise (· < ·)) (h : ∀ k, k ∈ l ↔ k ∈ r) : l = r := by
  have n1 : l.Nodup := h1.imp fun h => by omega
  have n2 : r.Nodup := h2.imp fun h => by omega
  exact sorted_one ((List.perm_ext_iff_of_nodup n1 n2).mpr h) (h1.imp fun h => by omega) (h2.imp fun h => by omega)
theorem bb_set : bootBuiltins "set" = some (.type "set") := by decide +kernel
theorem ev_sortU {m : M S (List Int)} {q1 q2 : Pos} (hm : ∀ i, (Xs i).mg "sorted" = none) (hm2 : ∀ i, (Xs i).mg "set" = none) (h : EV Xs F G a m) (hg : ∀ i, Gl (Xs i) "sorted" := by intro _; rfl) (hg2 : ∀ i, Gl (Xs i) "set" := by intro _; rfl)
    (hc : ∀ i, (Xs i).calm = true := by intro _; rfl)
    (he : ∀ i, starEach [a] (Xs i).env = (false, eval a (Xs i).env) :: starEach [] (Xs i).env := by intro _; rfl)
    (he2 : ∀ i, starEach [.Call (.Name "set" q1) [a] [] q2] (Xs i).env = (false, eval (.Call (.Name "set" q1) [a] [] q2) (Xs i).env) :: starEach [] (Xs i).env := by intro _; rfl)
    {w : World} (hK : ∀ i, (Xs i).K = K := by intro _; rfl) (hw : ∀ i, (Xs i).w = w := by intro _; rfl) :
    EV Xs F G (.Call (.Name "sorted" p) [.Call (.Name "set" q1) [a] [] q2] [] pos) (bindM m fun l => guardM (l.length < 64) (pureM (sortU l))) := by
  obtain ⟨ta, hp, hx⟩ := h
  refine ⟨tCB (rSortedSet w) (tCons (tCB (rSetOfL K w) (tCons ta tNil)) tNil), fun i => by
    rw [← hK i, ← hw i]
    exact pe_callB (cr_sortedSet (hc i)) (hg i) (hm i) bb_sorted (pa_cons (pe_callTy (cr_setL (hc i)) (hg2 i) (hm2 i) bb_set (pa_cons (hp i) pa_nil (he i)) (by decide) (by decide) (he i) rfl) pa_nil (he2 i)) (by decide) (by decide) (he2 i) rfl,
    fun Zx t H s y s' g hm' Q q => ?_⟩
  obtain ⟨l, s1, h1, h2⟩ := bind_some hm'
  obtain ⟨hl, h3⟩ := guard_eq h2
  obtain ⟨rfl, rfl⟩ := pure_eq h3
  refine hx Zx t H s l s1 g h1 _ fun v H1 g1 f1 r1 => ?_
  obtain ⟨pp, xs, rfl, n1, h, r⟩ := r1.toLst
  rw [r.ints] at h
  refine ⟨pp, l, rfl, SqL.of h, by omega, fun ps cc hps hcc => ?_⟩
  refine ⟨ps, _, cc, rfl, upd_same, by omega, fun ns pn hlt hmem hlen hpn => ?_⟩
  have sm : Same H1 (upd H1 ps (SetO w ps (fun j => decide (j ∈ l)) cc)) := same_new hps
  have sm2 : Same (upd H1 ps (SetO w ps (fun j => decide (j ∈ l)) cc)) (upd (upd H1 ps (SetO w ps (fun j => decide (j ∈ l)) cc)) pn (.lst (ns.map V.int))) := same_new hpn
  have en : ns = sortU l := inc_one hlt (sortU_lt l) fun k => by
    rw [hmem k, mem_sortU]
    exact decide_eq_true_iff
  subst en
  have g2 := (g1.same sm)
  exact q _ _ (g2.same sm2) ((f1.trans (Fix.same sm)).trans (Fix.same sm2)) (.lst (g2.new hpn) upd_same (RpL.of_ints _))
mutual
theorem Rp.dp {K : PySem.W.Frag} {Z : Addr → Prop} {H : Hp} : ∀ {v : V} {d : PyData}, Rp Z H v d → d.canLay0 = true → Dp K H v d
  | _, _, .non, _ => .non
  | _, _, .bl b, _ => .bl b
  | _, _, .int i, _ => .int i
  | _, _, .str x, _ => .str x
  | _, _, .lst _ h r, k => .lst (SqL.of h) (RpL.dp r (by simpa [PyData.canLay0] using k))
  | _, _, .tup _ h r, k => .tup (h.sq) (RpL.dp r (by simpa [PyData.canLay0] using k))
  | _, _, .dic _ _ _, k => by simp [PyData.canLay0] at k
theorem RpL.dp {K : PySem.W.Frag} {Z : Addr → Prop} {H : Hp} : ∀ {v : List V} {d : List PyData}, RpL Z H v d → PyData.canLayAll0 d = true → DpAll K H v d
  | _, _, .nil, _ => .nil
  | _, _, .cons (d := d) (ds := ds) h t, k => by
    have k' : PyData.canLay0 d = true ∧ PyData.canLayAll0 ds = true := by simpa [PyData.canLayAll0] using k
    exact .cons (Rp.dp h k'.1) (RpL.dp t k'.2)
end
def shpOk (x : A) : Prop := SeqAt.shaped (enc x) = true
instance (x : A) : Decidable (shpOk x) := inferInstanceAs (Decidable (_ = true))
def eqDM {A B : Type} [Enc A] [Enc B] (m : M S A) (n : M S B) : M S Bool := bin2 (fun x y => if shpOk x ∧ shpOk y then some (PyData.eqv (enc x) (enc y)) else none) m n
def neDM {A B : Type} [Enc A] [Enc B] (m : M S A) (n : M S B) : M S Bool := bin2 (fun x y => if shpOk x ∧ shpOk y then some (!PyData.eqv (enc x) (enc y)) else none) m n
theorem rv_eqD {g : PyData → PyData → Bool} {r : R2} (hr : ∀ x y H Q d e, Dp K H x d → Dp K H y e → SeqAt.shaped d = true → SeqAt.shaped e = true → Q (.bl (g d e)) H → r x y H Q) :
    RV2 r (fun (x : A) (y : B) => if shpOk x ∧ shpOk y then some (g (enc x) (enc y)) else none) := fun F Zx G s t H x y vx vy z gd rx ry e Q q => by
  replace e : (if shpOk x ∧ shpOk y then some (g (enc x) (enc y)) else none) = some z := e
  by_cases hl : shpOk x ∧ shpOk y
  · rw [if_pos hl] at e
    cases e
    exact hr vx vy H Q _ _ (rx.dp (SeqAt.canLay_of_shaped hl.1)) (ry.dp (SeqAt.canLay_of_shaped hl.2)) hl.1 hl.2 (q _ H (Same.refl H) (.bl _))
  · rw [if_neg hl] at e
    cases e
theorem ev_eqD {m : M S A} {n : M S B} {k : Nat} (hr : ∀ i, Room k (Xs i).A) (ha : EV Xs F G a m) (hb : EV Xs F G b n) (hK : ∀ i, (Xs i).K = K := by intro _; rfl) : EV Xs F G (.Compare a [.Eq] [b] pos) (eqDM m n) :=
  ev_cmp (r := rEqD K) (fun i => by rw [← hK i]; exact op_eqD (hr i).units) (rv_eqD (K := K) (g := PyData.eqv) fun x y H Q d e h1 h2 h3 h4 q => ⟨d, e, h1, h2, h3, h4, q⟩) ha hb
theorem et_eqD {m : M S A} {n : M S B} {k : Nat} (hr : ∀ i, Room k (Xs i).A) (ha : EV Xs F G a m) (hb : EV Xs F G b n) (hK : ∀ i, (Xs i).K = K := by intro _; rfl) : ET Xs F G (.Compare a [.Eq] [b] pos) (eqDM m n) :=
  et_cmp (r := rEqD K) (fun i => by rw [← hK i]; exact op_eqD (hr i).units) (rv_eqD (K := K) (g := PyData.eqv) fun x y H Q d e h1 h2 h3 h4 q => ⟨d, e, h1, h2, h3, h4, q⟩) ha hb
theorem ev_neD {m : M S A} {n : M S B} {k : Nat} (hr : ∀ i, Room k (Xs i).A) (ha : EV Xs F G a m) (hb : EV Xs F G b n) (hK : ∀ i, (Xs i).K = K := by intro _; rfl) : EV Xs F G (.Compare a [.NotEq] [b] pos) (neDM m n) :=
  ev_cmp (r := rNeD K) (fun i => by rw [← hK i]; exact op_neD (hr i).units) (rv_eqD (K := K) (g := fun d e => !PyData.eqv d e) fun x y H Q d e h1 h2 h3 h4 q => ⟨d, e, h1, h2, h3, h4, q⟩) ha hb
theorem et_neD {m : M S A} {n : M S B} {k : Nat} (hr : ∀ i, Room k (Xs i).A) (ha : EV Xs F G a m) (hb : EV Xs F G b n) (hK : ∀ i, (Xs i).K = K := by intro _; rfl) : ET Xs F G (.Compare a [.NotEq] [b] pos) (neDM m n) :=
  et_cmp (r := rNeD K) (fun i => by rw [← hK i]; exact op_neD (hr i).units) (rv_eqD (K := K) (g := fun d e => !PyData.eqv d e) fun x y H Q d e h1 h2 h3 h4 q => ⟨d, e, h1, h2, h3, h4, q⟩) ha hb
theorem ev_isNone {m : M S (Option A)} {j : Nat} {q1 : Pos} (hA : ∀ y : A, enc y ≠ PyData.none) (ha : EV Xs F G a m) : EV Xs F G (.Compare a [.Is] [.Constant .none j q1] pos) (mapM1 Option.isNone m) := by
  obtain ⟨ta, hp, hx⟩ := ha
  refine ⟨tIsN ta, fun i => pe_cmp (pc_isN (hp i)), fun Zx t H s y s' g hm Q q => ?_⟩
  obtain ⟨z, s1, h1, h2⟩ := bind_some hm
  obtain ⟨rfl, rfl⟩ := pure_eq h2
  refine hx Zx t H s z s1 g h1 _ fun v H1 g1 f1 r1 => ?_
  have e : decide (v = .non) = z.isNone := by
    cases z with
    | none =>
      have r1' : Rp (ZF F Zx G t) H1 v .none := r1
      cases r1'
      rfl
    | some y =>
      have r1' : Rp (ZF F Zx G t) H1 v (enc y) := r1
      refine decide_eq_false fun e => ?_
      subst e
      generalize he : enc y = d at r1'
      cases r1'
      exact hA y he
  rw [e]
  exact q _ H1 g1 f1 (.bl _)
theorem et_isNone {m : M S (Option A)} {j : Nat} {q1 : Pos} (hA : ∀ y : A, enc y ≠ PyData.none) (ha : EV Xs F G a m) : ET Xs F G (.Compare a [.Is] [.Constant .none j q1] pos) (mapM1 Option.isNone m) := by
  obtain ⟨ta, hp, hx⟩ := ha
  refine ⟨tB (tIsN ta), fun i => pt_cmp (pc_isN (hp i)), fun Zx t H s y s' g hm Q q => ?_⟩
  obtain ⟨z, s1, h1, h2⟩ := bind_some hm
  obtain ⟨rfl, rfl⟩ := pure_eq h2
  refine hx Zx t H s z s1 g h1 _ fun v H1 g1 f1 r1 => ?_
  have e : decide (v = .non) = z.isNone := by
    cases z with
    | none =>
      have r1' : Rp (ZF F Zx G t) H1 v .none := r1
      cases r1'
      rfl
    | some y =>
      have r1' : Rp (ZF F Zx G t) H1 v (enc y) := r1
      refine decide_eq_false fun e => ?_
      subst e
      generalize he : enc y = d at r1'
      cases r1'
      exact hA y he
  rw [e]
  exact ⟨_, rfl, q H1 g1 f1⟩
end
end PL

namespace PL
open PySem L2 Enc
/-- a deck: its cells, how many draws -/
structure Dk where
  cells : List Int
  n : Int
/-- where its two lists stand -/
structure DkA where
  d : Addr
  c : Addr
  ne : d ≠ c
def fmA (k : DkA) : Fm Dk where
  Z := fun b => b = k.d ∨ b = k.c
  at_ := fun s H => H k.d = some (.lst [.ref k.c, .int s.n]) ∧ H k.c = some (.lst (s.cells.map V.int))
  loc := fun s H H' h ⟨a, b⟩ => ⟨by rw [h _ (.inl rfl)]; exact a, by rw [h _ (.inr rfl)]; exact b⟩
  trk := fun s H b ⟨h1, h2⟩ z => by
    rcases z with z | z
    · rw [z, h1]
      intro q
      cases q
    · rw [z, h2]
      intro q
      cases q
def rootA (k : DkA) : Addr := k.d
/-- reading a deck -/
def dkN : M Dk Int := fun s => some (s.n, s)
def dkLen : M Dk Int := fun s => some ((s.cells.length : Int), s)
def dkCell (i : Int) : M Dk Int := fun s => (atI s.cells i).map fun x => (x, s)
def dkCells : M Dk (List Int) := fun s => some (s.cells, s)
def dkSetN (x : Int) : M Dk Unit := fun s => some ((), { s with n := x })
def dkSetCell (i x : Int) : M Dk Unit := fun s => (ixN s.cells.length i).map fun j => ((), { s with cells := s.cells.set j x })
section
variable {I : Type} {Xs : I → Cx} {k : DkA} {G : List Sl} {pos p p2 : Pos} {a b c e : Expr} {x : Str} {j : Nat} {K : PySem.W.Frag}
theorem Gd.raw {S : Type} {F : Fm S} {Zx : Addr → Prop} {s : S} {t : St} {H : Hp} {v : V} (g : Gd F Zx G s t H) (h : G[j]? = some (.raw v)) : t[j]? = some (some v) := by
  obtain ⟨hk, _⟩ := List.getElem?_eq_some_iff.mp h
  have hk' : j < t.length := by
    rw [g.len]
    exact hk
  have ht : t[j]? = some (t[j]'hk') := List.getElem?_eq_getElem hk'
  rw [ht, show t[j]'hk' = some v from g.slot j _ _ h ht]
theorem ev_dkN {j0 : Nat} {q1 : Pos} (h : G[j]? = some (.raw (.ref (rootA k)))) (hN : ∀ i, (Xs i).N[j]? = some x := by intro _; rfl)
    (hv : ∀ i, Vis (Xs i).env.scope x := by first | exact fun _ => Or.inl rfl | exact fun _ => Or.inr (Or.inl rfl) | exact fun _ => Or.inr (Or.inr rfl))
    (hd : (x == ("__debug__" : Str)) = false := by decide) (hcd : (x == ("__classdict__" : Str)) = false := by decide) (hK : ∀ i, (Xs i).K = K := by intro _; rfl) :
    EV Xs (fmA k) G (.Subscript (.Name x p) (.Constant (.int 1) j0 q1) pos) dkN := by
  refine ⟨tOp (rIxL K) (tVar j) (tC (.int 1)), fun i => by rw [← hK i]; exact pe_ix ix_list (pe_var (hN i) (hv i) hd hcd) pe_int (fun _ _ => rfl), fun Zx t H s y s' g hm Q q => ?_⟩
  cases hm
  exact ⟨_, g.raw h, k.d, _, 1, .int s.n, rfl, rfl, SqL.of g.at_.1, rfl, q _ H g (Fix.refl H) (.int _)⟩
theorem ev_dkLen {j0 : Nat} {q1 q2 : Pos} (hm : ∀ i, (Xs i).mg "len" = none) (h : G[j]? = some (.raw (.ref (rootA k)))) (hN : ∀ i, (Xs i).N[j]? = some x := by intro _; rfl)
    (hv : ∀ i, Vis (Xs i).env.scope x := by first | exact fun _ => Or.inl rfl | exact fun _ => Or.inr (Or.inl rfl) | exact fun _ => Or.inr (Or.inr rfl))
    (hd : (x == ("__debug__" : Str)) = false := by decide) (hcd : (x == ("__classdict__" : Str)) = false := by decide) (hg : ∀ i, Gl (Xs i) "len" := by intro _; rfl)
    (he : ∀ i, starEach [.Subscript (.Name x p) (.Constant (.int 0) j0 q1) q2] (Xs i).env = (false, eval (.Subscript (.Name x p) (.Constant (.int 0) j0 q1) q2) (Xs i).env) :: starEach [] (Xs i).env := by intro _; rfl) (hK : ∀ i, (Xs i).K = K := by intro _; rfl) :
    EV Xs (fmA k) G (.Call (.Name "len" p2) [.Subscript (.Name x p) (.Constant (.int 0) j0 q1) q2] [] pos) dkLen := by
  refine ⟨tCB (fun xs H Q => ∃ p ys, xs = [.ref p] ∧ (SqL K H p ys ∨ SqT K H p ys) ∧ Q (.int ys.length) H) (tCons (tOp (rIxL K) (tVar j) (tC (.int 0))) tNil), fun i => by
    rw [← hK i]
    exact pe_callB call_len_seq (hg i) (hm i) bb_len (pa_cons (pe_ix ix_list (pe_var (hN i) (hv i) hd hcd) pe_int (fun _ _ => rfl)) pa_nil (he i)) (by decide) (by decide) (he i) rfl, fun Zx t H s y s' g hm' Q q => ?_⟩
  cases hm'
  refine ⟨_, g.raw h, k.d, _, 0, .ref k.c, rfl, rfl, SqL.of g.at_.1, rfl, k.c, _, rfl, .inl (SqL.of g.at_.2), ?_⟩
  rw [List.length_map]
  exact q _ H g (Fix.refl H) (.int _)
theorem ev_dkCell {m : M Dk Int} {j0 : Nat} {q1 q2 : Pos} (h : G[j]? = some (.raw (.ref (rootA k)))) (hb : EV Xs (fmA k) G b m) (hs : PlainIx b := by exact fun _ _ => rfl) (hN : ∀ i, (Xs i).N[j]? = some x := by intro _; rfl)
    (hv : ∀ i, Vis (Xs i).env.scope x := by first | exact fun _ => Or.inl rfl | exact fun _ => Or.inr (Or.inl rfl) | exact fun _ => Or.inr (Or.inr rfl))
    (hd : (x == ("__debug__" : Str)) = false := by decide) (hcd : (x == ("__classdict__" : Str)) = false := by decide) (hK : ∀ i, (Xs i).K = K := by intro _; rfl) :
    EV Xs (fmA k) G (.Subscript (.Subscript (.Name x p) (.Constant (.int 0) j0 q1) q2) b pos) (bindM m dkCell) := by
  obtain ⟨tb, hp, ho⟩ := hb
  refine ⟨tOp (rIxL K) (tOp (rIxL K) (tVar j) (tC (.int 0))) tb, fun i => by rw [← hK i]; exact pe_ix ix_list (pe_ix ix_list (pe_var (hN i) (hv i) hd hcd) pe_int (fun _ _ => rfl)) (hp i) hs, fun Zx t H s y s' g hm Q q => ?_⟩
  obtain ⟨z, s1, h1, h2⟩ := bind_some hm
  refine ⟨_, g.raw h, k.d, _, 0, .ref k.c, rfl, rfl, SqL.of g.at_.1, rfl, ?_⟩
  refine ho Zx t H s z s1 g h1 _ fun v H1 g1 f1 r1 => ?_
  obtain rfl := r1.toInt
  unfold dkCell at h2
  cases e : atI s1.cells z with
  | none =>
    rw [e] at h2
    cases h2
  | some w =>
    rw [e] at h2
    cases h2
    refine ⟨k.c, _, z, .int y, rfl, rfl, SqL.of g1.at_.2, ?_, q _ H1 g1 f1 (.int _)⟩
    rw [atI_map, e]
    rfl
theorem ev_dkCells {j0 : Nat} {q1 : Pos} (h : G[j]? = some (.raw (.ref (rootA k)))) (hN : ∀ i, (Xs i).N[j]? = some x := by intro _; rfl) : True := trivial
/-- deck[1] = e -/
theorem ss_dkN {L R : Type} [Enc R] {Gl : L → List Sl} {m : M Dk Int} {j0 : Nat} {q1 q2 : Pos} (h : G[j]? = some (.raw (.ref (rootA k)))) (hb : EV Xs (fmA k) G e m) (hN : ∀ i, (Xs i).N[j]? = some x := by intro _; rfl)
    (hv : ∀ i, Vis (Xs i).env.scope x := by first | exact fun _ => Or.inl rfl | exact fun _ => Or.inr (Or.inl rfl) | exact fun _ => Or.inr (Or.inr rfl))
    (hd : (x == ("__debug__" : Str)) = false := by decide) (hcd : (x == ("__classdict__" : Str)) = false := by decide)
    (hs : ∀ i, swapsWithSole [.Subscript (.Name x p) (.Constant (.int 1) j0 q1) q2] e pos.line (Xs i).env = pure false := by intro _; rfl) (hw : ∀ i, swappedStores [.Subscript (.Name x p) (.Constant (.int 1) j0 q1) q2] e (Xs i).env = pure none := by intro _; rfl)
    (h1 : ∀ i, (assignEach [.Subscript (.Name x p) (.Constant (.int 1) j0 q1) q2] (Xs i).env).map (·.2) = [assign (.Subscript (.Name x p) (.Constant (.int 1) j0 q1) q2) (Xs i).env] := by intro _; rfl) :
    SS (R := R) (L := L) Xs (fmA k) G (.Assign [.Subscript (.Name x p) (.Constant (.int 1) j0 q1) q2] e pos) (bindM m fun y => bindM (dkSetN y) fun _ => pureM (.nx ())) (fun _ => G) Gl := by
  obtain ⟨te, hp, ho⟩ := hb
  refine ⟨tAsg te (gSub (tVar j) (tC (.int 1)) rSetL), fun i => ps_asg (hp i) (pg_sub (pe_var (hN i) (hv i) hd hcd) pe_int set_list) (hs i) (hw i) (h1 i), fun Zx t H s r s' g hm D q => ?_⟩
  obtain ⟨z, s1, e1, e2⟩ := bind_some hm
  obtain ⟨u, s2, e3, e4⟩ := bind_some e2
  obtain ⟨rfl, rfl⟩ := pure_eq e4
  cases e3
  refine ho Zx t H s z s1 g e1 _ fun v H1 g1 f1 r1 => ?_
  obtain rfl := r1.toInt
  refine ⟨_, g1.raw h, k.d, _, 1, 1, rfl, rfl, g1.at_.1, rfl, ?_⟩
  have fx : Fix (fmA k) H1 (upd H1 k.d (.lst [.ref k.c, .int z])) := fun b o z' h' => by
    rw [upd_ne (fun w => z' (.inl w))]
    exact h'
  exact q t _ (g1.fix fx ⟨upd_same, by rw [upd_ne k.ne.symm]; exact g1.at_.2⟩) (Stp.fix (f1.trans fx))
theorem ss_dkCell {L R : Type} [Enc R] {Gl : L → List Sl} {m n : M Dk Int} {j0 : Nat} {q1 q2 q3 : Pos} (h : G[j]? = some (.raw (.ref (rootA k)))) (hb : EV Xs (fmA k) G e m) (hi : EV Xs (fmA k) G b n) (hN : ∀ i, (Xs i).N[j]? = some x := by intro _; rfl)
    (hv : ∀ i, Vis (Xs i).env.scope x := by first | exact fun _ => Or.inl rfl | exact fun _ => Or.inr (Or.inl rfl) | exact fun _ => Or.inr (Or.inr rfl))
    (hd : (x == ("__debug__" : Str)) = false := by decide) (hcd : (x == ("__classdict__" : Str)) = false := by decide)
    (hs : ∀ i, swapsWithSole [.Subscript (.Subscript (.Name x p) (.Constant (.int 0) j0 q1) q2) b q3] e pos.line (Xs i).env = pure false := by intro _; rfl)
    (hw : ∀ i, swappedStores [.Subscript (.Subscript (.Name x p) (.Constant (.int 0) j0 q1) q2) b q3] e (Xs i).env = pure none := by intro _; rfl)
    (h1 : ∀ i, (assignEach [.Subscript (.Subscript (.Name x p) (.Constant (.int 0) j0 q1) q2) b q3] (Xs i).env).map (·.2) = [assign (.Subscript (.Subscript (.Name x p) (.Constant (.int 0) j0 q1) q2) b q3) (Xs i).env] := by intro _; rfl) (hK : ∀ i, (Xs i).K = K := by intro _; rfl)
    (hz : ∀ i v, assign (.Subscript (.Subscript (.Name x p) (.Constant (.int 0) j0 q1) q2) b q3) (Xs i).env v = (do
      let ov ← holding [v] (eval (.Subscript (.Name x p) (.Constant (.int 0) j0 q1) q2) (Xs i).env)
      let iv ← holding [v, ov] (eval b (Xs i).env)
      standAt q3
      holding [v, ov, iv] (setItem ov iv v)
      release [v, ov, iv] []) := by intro _ _; rfl) :
    SS (R := R) (L := L) Xs (fmA k) G (.Assign [.Subscript (.Subscript (.Name x p) (.Constant (.int 0) j0 q1) q2) b q3] e pos) (bindM m fun y => bindM n fun i => bindM (dkSetCell i y) fun _ => pureM (.nx ())) (fun _ => G) Gl := by
  obtain ⟨te, hp, ho⟩ := hb
  obtain ⟨ti, hq, hoi⟩ := hi
  refine ⟨tAsg te (gSub (tOp (rIxL K) (tVar j) (tC (.int 0))) ti rSetL), fun i => ps_asg (hp i) (pg_sub (by rw [← hK i]; exact pe_ix ix_list (pe_var (hN i) (hv i) hd hcd) pe_int (fun _ _ => rfl)) (hq i) set_list (hz i)) (hs i) (hw i) (h1 i), fun Zx t H s r s' g hm D q => ?_⟩
  obtain ⟨z, s1, e1, e2⟩ := bind_some hm
  obtain ⟨y, s2, e3, e4⟩ := bind_some e2
  obtain ⟨u, s3, e5, e6⟩ := bind_some e4
  obtain ⟨rfl, rfl⟩ := pure_eq e6
  refine ho Zx t H s z s1 g e1 _ fun v H1 g1 f1 r1 => ?_
  obtain rfl := r1.toInt
  refine ⟨_, g1.raw h, k.d, _, 0, .ref k.c, rfl, rfl, SqL.of g1.at_.1, rfl, ?_⟩
  refine hoi Zx t H1 s1 y s2 g1 e3 _ fun v2 H2 g2 f2 r2 => ?_
  obtain rfl := r2.toInt
  unfold dkSetCell at e5
  cases e : ixN s2.cells.length y with
  | none =>
    rw [e] at e5
    cases e5
  | some w =>
    rw [e] at e5
    cases e5
    refine ⟨k.c, _, y, w, rfl, rfl, g2.at_.2, by rw [List.length_map]; exact e, ?_⟩
    have fx : Fix (fmA k) H2 (upd H2 k.c (.lst ((s2.cells.map V.int).set w (.int z)))) := fun b o z' h' => by
      rw [upd_ne (fun w => z' (.inr w))]
      exact h'
    exact q t _ (g2.fix fx ⟨by rw [upd_ne k.ne]; exact g2.at_.1, by rw [upd_same, List.map_set]⟩) (Stp.fix ((f1.trans f2).trans fx))
end
section
variable {A U S T : Type} [Enc A] {P : Program} {w : World} {K : PySem.W.Frag} {mg : Str → Option Value} {base : Heap}
theorem noOwn_all {G : List Sl} {t : St} (h : ∀ l ∈ G, ∀ d, l ≠ .own d) (b : Addr) : ¬ Own G t b := fun ⟨i, d, z, _⟩ => h _ (List.mem_of_getElem? z) d rfl
/-- a def whose first argument is the deck -/
theorem defD {Fm_ : T → Fm S} {root : T → Addr} {x : Str} {st : Stmt} {f : Addr} {fd : FuncData} {N ps : List Str} {k : Nat} {en : U → List PyData} {m : U → M S (Fl Unit Empty A)} {no : Option A} (F : Fun K x x st f fd) (Sc : FnScope N ps (defScope st)) (hg : mg x = some (.ref f)) (hb : Binds K fd ps [])
    (hen : ∀ u, (en u).length + 1 = ps.length) (hno : ∀ r, no = some r → enc r = PyData.none)
    (hbody : ∀ (cdv : Value) (A : Around) (outer : List Env) (s : Shared) (H : Hp) (E : XK), Room k (A.deeper (PyProof.Rows.envOfC x (defScope st) s.heap.objs.size f cdv)) → A.guards = some [] → ∀ (d : T) u,
      ∃ Gn, SV (fun _ : Unit => (cxOf CX0 P w K mg base N x (defScope st) f cdv A outer s H E).nox) (Fm_ d) (.raw (.ref (root d)) :: ((en u).map .dat ++ List.replicate (N.length - ((en u).length + 1)) .un)) (defBody st) (m u) Gn (fun z => z.elim)) :
    DefG P w K mg base CX0 (k + 1) x ps (spD Fm_ root en fun u => retM no (m u)) := by
  refine ⟨f, fd, Fun.okG F Sc (fun vs H Q E ⟨d, Z, u, r, s, s', ws, e, _, _, hr, _⟩ => by rw [e, List.length_cons, hr.len, hen]) (fun cdv A outer sh H vs Q E hr hgd hsp => ?_), hg, F.kp, hb⟩
  obtain ⟨d, Zx, u, r, s, s', ws, rfl, hat, htr, hrp, hf, q⟩ := hsp
  have noo : ∀ l ∈ (Sl.raw (.ref (root d)) :: ((en u).map Sl.dat ++ List.replicate (N.length - ((en u).length + 1)) .un)), ∀ e, l ≠ .own e := fun l hl e z => by
    subst z
    rcases List.mem_cons.mp hl with y | y
    · cases y
    · rcases List.mem_append.mp y with y | y
      · obtain ⟨_, _, y⟩ := List.mem_map.mp y
        cases y
      · have := List.eq_of_mem_replicate y
        cases this
  have hl := hrp.len
  have est : L2.start N (.ref (root d) :: ws) = some (.ref (root d)) :: (ws.map some ++ List.replicate (N.length - ((en u).length + 1)) none) := by
    unfold L2.start
    rw [List.map_cons, List.cons_append, List.length_cons, hl]
  have g0 : Gd (Fm_ d) Zx (.raw (.ref (root d)) :: ((en u).map .dat ++ List.replicate (N.length - ((en u).length + 1)) .un)) s (L2.start N (.ref (root d) :: ws)) H := by
    have nOwn := fun b => noOwn_all (t := L2.start N (.ref (root d) :: ws)) noo b
    refine ⟨?_, hat, htr, fun i l o h1 h2 => ?_, fun i j e1 e2 p h1 => absurd rfl (noo _ (List.mem_of_getElem? h1) e1), fun p z => absurd z (nOwn p)⟩
    · rw [est]
      simp only [List.length_cons, List.length_append, List.length_map, List.length_replicate, hl]
    · rw [est] at h2
      cases i with
      | zero =>
        cases h1
        cases h2
        rfl
      | succ i =>
        rw [List.getElem?_cons_succ, List.getElem?_append] at h1 h2
        rw [List.length_map] at h1 h2
        rw [hl] at h2
        by_cases hi : i < (en u).length
        · rw [if_pos hi, List.getElem?_map] at h1 h2
          cases e : (en u)[i]? with
          | none =>
            rw [e] at h1
            cases h1
          | some y =>
            rw [e] at h1
            cases h1
            obtain ⟨v, hv, rv⟩ := hrp.get e
            rw [hv] at h2
            cases h2
            exact ⟨v, rfl, rv.ext (Ext.less fun b z => by
              rcases z with z | z | z
              · exact .inl z
              · exact .inr z
              · exact absurd z (nOwn b))⟩
        · rw [if_neg hi] at h1
          have := List.eq_of_mem_replicate (List.mem_of_getElem? h1)
          subst this
          trivial
  obtain ⟨fl, s2, h1, h2⟩ := bind_some hf
  have nOwn := fun b => noOwn_all (t := L2.start N (.ref (root d) :: ws)) noo b
  obtain ⟨Gn, ts, hp, ho⟩ := hbody cdv A outer sh H E hr hgd d u
  refine ⟨ts, (hp ()).nox, ho Zx _ H s fl s2 g0 h1 _ ?_⟩
  cases fl with
  | rt r' =>
    obtain ⟨rfl, rfl⟩ := pure_eq h2
    exact fun v H' a5 k5 rv => q v H' a5 (fun b o z e => k5 b o z (nOwn b) e) rv
  | nx b =>
    obtain ⟨h3, rfl⟩ := ofO_eq h2
    refine fun t' H' g' st' => q .non H' g'.at_ (fun b o z e => st'.1 b o z (nOwn b) e) ?_
    rw [hno _ h3]
    exact .non
  | bk z => exact z.elim
  | ct z => exact z.elim
end
end PL

namespace PL
open PySem L2 Enc
/-- the script in a slot -/
def scrF (K : PySem.W.Frag) (ns : List Int) (Z : Addr → Prop) (H : Hp) (v : V) : Prop := ∃ a, v = .ref a ∧ ((¬ Z a ∧ ∃ o, H a = some (.frz o (.lst (ns.map V.int)))) ∨
  ∃ (o : Obj) (its : Array Value) (n : Nat), K.lookup a = some o ∧ o.cls = .type "list" ∧ o.dict = none ∧ o.data = .seq its n ∧ its.size ≤ sizeLine ∧ Vals (ns.map V.int) its.toList)
theorem scrF_ext {K : PySem.W.Frag} {ns : List Int} : ∀ Z H Z' H' v, Ext Z H Z' H' → scrF K ns Z H v → scrF K ns Z' H' v := fun Z H Z' H' v e ⟨a, h, r⟩ =>
  ⟨a, h, r.imp (fun ⟨n, o, q⟩ => ⟨e.not n q, o, e.1 _ _ n q⟩) id⟩
abbrev slScr (K : PySem.W.Frag) (ns : List Int) : Sl := .ext (scrF K ns) scrF_ext
theorem scrF_sq {K : PySem.W.Frag} {ns : List Int} {Z : Addr → Prop} {H : Hp} {v : V} (h : scrF K ns Z H v) : ∃ a, v = .ref a ∧ SqL K H a (ns.map V.int) := by
  obtain ⟨a, e, h | h⟩ := h
  · obtain ⟨_, o, h⟩ := h
    exact ⟨a, e, .inl (.inr ⟨o, h⟩)⟩
  · exact ⟨a, e, .inr h⟩
section
variable {I S : Type} {F : Fm S} {Xs : I → Cx} {G : List Sl} {pos p p2 : Pos} {a b c e : Expr} {x : Str} {j : Nat} {K : PySem.W.Frag} {ns : List Int}
theorem Gd.scr {Zx : Addr → Prop} {s : S} {t : St} {H : Hp} (g : Gd F Zx G s t H) (h : G[j]? = some (slScr K ns)) : ∃ v, t[j]? = some (some v) ∧ scrF K ns (ZF F Zx G t) H v := by
  obtain ⟨hk, _⟩ := List.getElem?_eq_some_iff.mp h
  have hk' : j < t.length := by
    rw [g.len]
    exact hk
  have ht : t[j]? = some (t[j]'hk') := List.getElem?_eq_getElem hk'
  obtain ⟨v, e, r⟩ := g.slot j _ _ h ht
  exact ⟨v, by rw [ht, e], r⟩
/-- script[:n] -/
theorem ev_scrCut {n : Nat} {j0 : Nat} {q1 : Pos} (h : G[j]? = some (slScr K ns)) (hN : ∀ i, (Xs i).N[j]? = some x := by intro _; rfl)
    (hv : ∀ i, Vis (Xs i).env.scope x := by first | exact fun _ => Or.inl rfl | exact fun _ => Or.inr (Or.inl rfl) | exact fun _ => Or.inr (Or.inr rfl))
    (hd : (x == ("__debug__" : Str)) = false := by decide) (hcd : (x == ("__classdict__" : Str)) = false := by decide) (hK : ∀ i, (Xs i).K = K := by intro _; rfl) :
    EV Xs F G (.Subscript (.Name x p) (.Slice none (some (.Constant (.int (n : Int)) j0 q1)) none p2) pos) (pureM (ns.take n)) := by
  refine ⟨tSl (rSlL K) (tVar j) tNoPart (tPart (tC (.int (n : Int)))), fun i => by rw [← hK i]; exact pe_slice sl_list (pe_var (hN i) (hv i) hd hcd) po_none (po_some pe_int), fun Zx t H s y s' g hm Q q => ?_⟩
  obtain ⟨rfl, rfl⟩ := pure_eq hm
  obtain ⟨v, hv1, r⟩ := g.scr h
  obtain ⟨a, rfl, hs⟩ := scrF_sq r
  refine ⟨_, hv1, (n : Int), rfl, a, _, rfl, hs, fun pn hn => ?_⟩
  have ec : cutV (ns.map V.int) none (some (n : Int)) = (ns.take n).map V.int := by
    unfold cutV
    rw [HT.sIx_none, HT.sIx_nat, List.drop_zero, Nat.sub_zero, List.map_take]
    rw [List.length_map]
    by_cases hl : n ≤ ns.length
    · rw [Nat.min_eq_left hl]
    · rw [Nat.min_eq_right (by omega), List.take_of_length_le (by rw [List.length_map]; omega), List.take_of_length_le (by rw [List.length_map]; omega)]
  rw [ec]
  have sm : Same H (upd H pn (.lst ((ns.take n).map V.int))) := same_new hn
  exact q _ _ (g.same sm) (Fix.same sm) (.lst (g.new hn) upd_same (RpL.of_ints _))
theorem ev_scrLen (hm : ∀ i, (Xs i).mg "len" = none) (h : G[j]? = some (slScr K ns)) (hN : ∀ i, (Xs i).N[j]? = some x := by intro _; rfl)
    (hv : ∀ i, Vis (Xs i).env.scope x := by first | exact fun _ => Or.inl rfl | exact fun _ => Or.inr (Or.inl rfl) | exact fun _ => Or.inr (Or.inr rfl))
    (hd : (x == ("__debug__" : Str)) = false := by decide) (hcd : (x == ("__classdict__" : Str)) = false := by decide) (hg : ∀ i, Gl (Xs i) "len" := by intro _; rfl)
    (he : ∀ i, starEach [.Name x p] (Xs i).env = (false, eval (.Name x p) (Xs i).env) :: starEach [] (Xs i).env := by intro _; rfl) (hK : ∀ i, (Xs i).K = K := by intro _; rfl) :
    EV Xs F G (.Call (.Name "len" p2) [.Name x p] [] pos) (pureM (ns.length : Int)) := by
  refine ⟨tCB (fun xs H Q => ∃ p ys, xs = [.ref p] ∧ (SqL K H p ys ∨ SqT K H p ys) ∧ Q (.int ys.length) H) (tCons (tVar j) tNil), fun i => by
    rw [← hK i]
    exact pe_callB call_len_seq (hg i) (hm i) bb_len (pa_cons (pe_var (hN i) (hv i) hd hcd) pa_nil (he i)) (by decide) (by decide) (he i) rfl, fun Zx t H s y s' g hm' Q q => ?_⟩
  obtain ⟨rfl, rfl⟩ := pure_eq hm'
  obtain ⟨v, hv1, r⟩ := g.scr h
  obtain ⟨a, rfl, hs⟩ := scrF_sq r
  refine ⟨_, hv1, a, _, rfl, .inl hs, ?_⟩
  rw [List.length_map]
  exact q _ H g (Fix.refl H) (.int _)
end
section
variable {S T : Type} {P : Program} {w : World} {K : PySem.W.Frag} {mg : Str → Option Value} {base : Heap}
/-- a def of the script that hands back new data -/
def spMk (K : PySem.W.Frag) (f : List Int → Option PyData) : Sp := fun vs H Q _ => ∃ (a : Addr) (ns : List Int) (d : PyData), vs = [.ref a] ∧ scrF K ns (fun _ => False) H (.ref a) ∧ ns.length ≤ 63 ∧ f ns = some d ∧
  ∀ v H', Same H H' → Rp (fun b => H b ≠ none ∧ b ≠ a) H' v d → Q v H'
theorem defMk {x y : Str} {st : Stmt} {f : Addr} {fd : FuncData} {N : List Str} {k : Nat} {m : List Int → M Unit (Fl Unit Empty PyData)} (F : Fun K x x st f fd) (Sc : FnScope N [y] (defScope st)) (hg : mg x = some (.ref f)) (hb : Binds K fd [y] [])
    (hbody : ∀ (cdv : Value) (A : Around) (outer : List Env) (s : Shared) (H : Hp) (E : XK), Room k (A.deeper (PyProof.Rows.envOfC x (defScope st) s.heap.objs.size f cdv)) → A.guards = some [] → ∀ ns : List Int,
      ∃ Gn, SV (fun _ : Unit => (cxOf CX0 P w K mg base N x (defScope st) f cdv A outer s H E).nox) fm0 (slScr K ns :: List.replicate (N.length - 1) .un) (defBody st) (m ns) Gn (fun z => z.elim)) :
    DefG P w K mg base CX0 (k + 1) x [y] (spMk K fun ns => (retM none (m ns) ()).map (·.1)) := by
  refine ⟨f, fd, Fun.okG F Sc (fun vs H Q E ⟨a, ns, d, e, _⟩ => by rw [e]; rfl) (fun cdv A outer sh H vs Q E hr hgd hsp => ?_), hg, F.kp, hb⟩
  obtain ⟨a, ns, d, rfl, hscr, hlen, hf, q⟩ := hsp
  have noo : ∀ l ∈ (slScr K ns :: List.replicate (N.length - 1) .un), ∀ e, l ≠ .own e := fun l hl e z => by
    subst z
    rcases List.mem_cons.mp hl with y | y
    · cases y
    · have := List.eq_of_mem_replicate y
      cases this
  have nOwn := fun b => noOwn_all (t := L2.start N [.ref a]) noo b
  have g0 : Gd fm0 (fun b => H b ≠ none ∧ b ≠ a) (slScr K ns :: List.replicate (N.length - 1) .un) () (L2.start N [.ref a]) H := by
    refine ⟨?_, trivial, fun b z => z.1, fun i l o h1 h2 => ?_, fun i j e1 e2 p h1 => absurd rfl (noo _ (List.mem_of_getElem? h1) e1), fun p z => absurd z (nOwn p)⟩
    · unfold L2.start
      simp only [List.length_cons, List.length_append, List.length_map, List.length_replicate, List.length_nil]
      omega
    · have h2' : (some (V.ref a) :: List.replicate (N.length - 1) none)[i]? = some o := h2
      cases i with
      | zero =>
        cases h1
        cases h2'
        refine ⟨.ref a, rfl, a, rfl, ?_⟩
        obtain ⟨a', e, h | h⟩ := hscr
        · cases e
          refine .inl ⟨fun z => ?_, h.2⟩
          rcases z with z | z | z
          · exact z
          · exact z.2 rfl
          · exact nOwn _ z
        · cases e
          exact .inr h
      | succ i =>
        rw [List.getElem?_cons_succ] at h1
        have := List.eq_of_mem_replicate (List.mem_of_getElem? h1)
        subst this
        trivial
  replace hf : (retM none (m ns) ()).map (·.1) = some d := hf
  have hm : ∃ s1, retM none (m ns) () = some (d, s1) := by
    cases e : retM none (m ns) () with
    | none =>
      rw [e] at hf
      cases hf
    | some p =>
      rw [e] at hf
      cases hf
      exact ⟨p.2, rfl⟩
  obtain ⟨s1, hm⟩ := hm
  obtain ⟨fl, s2, h1, h2⟩ := bind_some hm
  obtain ⟨Gn, ts, hp, ho⟩ := hbody cdv A outer sh H E hr hgd ns
  refine ⟨ts, (hp ()).nox, ho _ _ H () fl s2 g0 h1 _ ?_⟩
  cases fl with
  | rt r' =>
    obtain ⟨rfl, rfl⟩ := pure_eq h2
    exact fun v H' _ k5 rv => q v H' (fun b o e => k5 b o (fun z => z) (nOwn b) e) (rv.ext (Ext.less fun b z => .inr z))
  | nx b =>
    obtain ⟨h3, _⟩ := ofO_eq h2
    cases h3
  | bk z => exact z.elim
  | ct z => exact z.elim
/-- what is asked of a law -/
def spLaw (K : PySem.W.Frag) : Sp := fun vs H Q _ => ∃ (a : Addr) (ns : List Int), vs = [.ref a] ∧ Only H ∧ SqL K H a (ns.map V.int) ∧ ns.length ≤ 63 ∧ ∀ H', Q (.bl true) H'
theorem only_scr {H : Hp} {a : Addr} {ns : List Int} (h : Only H) (s : SqL K H a (ns.map V.int)) : scrF K ns (fun _ => False) H (.ref a) := by
  rcases s with (s | ⟨o, s⟩) | s
  · rcases h a with z | ⟨o, xs, z⟩
    · rw [z] at s
      cases s
    · rw [z] at s
      cases s
  · exact ⟨a, rfl, .inl ⟨id, o, s⟩⟩
  · exact ⟨a, rfl, .inr s⟩
/-- the law's def: its first statement makes the deck, the rest is a function of the deck -/
theorem defLaw {Fm_ : T → Fm S} {root : T → Addr} {init : List Int → S} {mk : List Int → Option PyData} {xd y z : Str} {st : Stmt} {f : Addr} {fd : FuncData} {N : List Str} {k j : Nat} {m : M S (Fl Unit Empty Bool)} {py p1 p2 p3 p4 : Pos} {rest : List Stmt}
    (F : Fun K "law" "law" st f fd) (Sc : FnScope N [y] (defScope st)) (D : DefG P w K mg base CX0 k xd [y] (spMk K mk)) (hbd : defBody st = .Assign [.Name z py] (.Call (.Name xd p1) [.Name y p2] [] p3) p4 :: rest)
    (hmk : ∀ (ns : List Int) (Z : Addr → Prop) (H' : Hp) (v : V) (d : PyData), mk ns = some d → Rp Z H' v d → ∃ t, v = .ref (root t) ∧ (Fm_ t).at_ (init ns) H')
    (hmk2 : ∀ ns, ∃ d, mk ns = some d) (hj : N[j]? = some z) (hj0 : j ≠ 0) (hN0 : N[0]? = some y)
    (hpe : ∀ (cdv : Value) (A : Around) (outer : List Env) (s : Shared) (H : Hp) (E : XK) {sp E' t}, PE (cxOf CX0 P w K mg base N "law" (defScope st) f cdv A outer s H E).nox (.Call (.Name xd p1) [.Name y p2] [] p3) (tCall sp [] E' t) →
      PS (cxOf CX0 P w K mg base N "law" (defScope st) f cdv A outer s H E).nox (.Assign [.Name z py] (.Call (.Name xd p1) [.Name y p2] [] p3) p4) (tAsg (tCall sp [] E' t) (gName j)))
    (hpv : ∀ (cdv : Value) (A : Around) (outer : List Env) (s : Shared) (H : Hp) (E : XK), PA (cxOf CX0 P w K mg base N "law" (defScope st) f cdv A outer s H E).nox [.Name y p2] (tCons (tVar 0) tNil))
    (hgl : ∀ (cdv : Value) (A : Around) (outer : List Env) (s : Shared) (H : Hp) (E : XK), Gl (cxOf CX0 P w K mg base N "law" (defScope st) f cdv A outer s H E).nox xd) (hdb : (xd == ("__debug__" : Str)) = false)
    (hrest : ∀ (cdv : Value) (A : Around) (outer : List Env) (s : Shared) (H : Hp) (E : XK), Room k (A.deeper (PyProof.Rows.envOfC "law" (defScope st) s.heap.objs.size f cdv)) → A.guards = some [] → ∀ t : T,
      ∃ Gn, SV (fun _ : Unit => (cxOf CX0 P w K mg base N "law" (defScope st) f cdv A outer s H E).nox) (Fm_ t) ((List.replicate N.length .un).set j (.raw (.ref (root t)))) rest m Gn (fun z => z.elim))
    (hm : ∀ ns : List Int, ns.length ≤ 63 → ∃ s', retM none m (init ns) = some (true, s')) : FnG P w K mg base CX0 (k + 1) f fd [y] (spLaw K) := by
  refine Fun.okG F Sc (fun vs H Q E ⟨a, ns, e, _⟩ => by rw [e]; rfl) (fun cdv A outer sh H vs Q E hr hgd hsp => ?_)
  obtain ⟨a, ns, rfl, ho, hs, hlen, q⟩ := hsp
  obtain ⟨s', hm⟩ := hm ns hlen
  obtain ⟨fl, s2, h1, h2⟩ := bind_some hm
  have hrest' := fun t => hrest cdv A outer sh H E hr hgd t
  have hN : j < N.length := (List.getElem?_eq_some_iff.mp hj).1
  rw [hbd]
  have hU : ∀ t, TSok (Fm_ t) ((List.replicate N.length .un).set j (.raw (.ref (root t)))) (tsU (fun _ : Unit => (cxOf CX0 P w K mg base N "law" (defScope st) f cdv A outer sh H E).nox) rest) m (fun _ : Unit => (Classical.choose (hrest' t)) ()) (fun z : Empty => z.elim) := fun t => (Classical.choose_spec (hrest' t)).uni
  refine ⟨tSeq (tAsg (tCall (spMk K mk) [] E0 (tCons (tVar 0) tNil)) (gName j)) (tsU (fun _ : Unit => (cxOf CX0 P w K mg base N "law" (defScope st) f cdv A outer sh H E).nox) rest), (pss_cons (hpe cdv A outer sh H E (pe_callG D hr hgd (hgl cdv A outer sh H E) pass0 (hpv cdv A outer sh H E) hdb rfl rfl)) (tsU_ps (Xs := fun _ : Unit => (cxOf CX0 P w K mg base N "law" (defScope st) f cdv A outer sh H E).nox) ())).nox, ?_⟩
  refine ⟨.ref a, ?_, ?_⟩
  · show (some (V.ref a) :: List.replicate (N.length - 1) none)[0]? = _
    rfl
  obtain ⟨d, hd⟩ := hmk2 ns
  refine ⟨a, ns, d, rfl, only_scr ho hs, hlen, hd, fun v H1 sm rv => ?_⟩
  obtain ⟨td, rfl, hat⟩ := hmk ns _ H1 v d hd rv
  have noo : ∀ l ∈ (List.replicate N.length Sl.un).set j (.raw (.ref (root td))), ∀ e, l ≠ .own e := fun l hl e z => by
    subst z
    rcases List.mem_or_eq_of_mem_set hl with y | y
    · have := List.eq_of_mem_replicate y
      cases this
    · cases y
  have nOwn := fun b => noOwn_all (t := (L2.start N [V.ref a]).set j (some (.ref (root td)))) noo b
  have lst : (L2.start N [V.ref a]).length = N.length := by
    unfold L2.start
    simp only [List.length_append, List.length_map, List.length_replicate, List.length_cons, List.length_nil]
    omega
  have g0 : Gd (Fm_ td) (fun _ => False) ((List.replicate N.length .un).set j (.raw (.ref (root td)))) (init ns) ((L2.start N [V.ref a]).set j (some (.ref (root td)))) H1 := by
    refine ⟨by rw [List.length_set, List.length_set, List.length_replicate, lst], hat, fun b z => z.elim, fun i l o e1 e2 => ?_, fun i j e1 e2 p e3 => absurd rfl (noo _ (List.mem_of_getElem? e3) e1), fun p z => absurd z (nOwn p)⟩
    by_cases hi : j = i
    · subst hi
      rw [List.getElem?_set, if_pos rfl, if_pos (by rw [List.length_replicate]; exact hN)] at e1
      rw [List.getElem?_set, if_pos rfl, if_pos (by rw [lst]; exact hN)] at e2
      cases e1
      cases e2
      rfl
    · rw [List.getElem?_set_ne hi] at e1
      have := List.eq_of_mem_replicate (List.mem_of_getElem? e1)
      subst this
      trivial
  refine hU td _ _ H1 (init ns) fl s2 g0 h1 _ ?_
  cases fl with
  | rt r' =>
    obtain ⟨rfl, rfl⟩ := pure_eq h2
    exact fun v H' _ k5 rv => by
      obtain rfl := rv.bool
      exact q H'
  | nx b =>
    obtain ⟨h3, _⟩ := ofO_eq h2
    cases h3
  | bk z => exact z.elim
  | ct z => exact z.elim
end
section
theorem lawG {P : Program} {w : World} {K : PySem.W.Frag} {mg mb : Str → Option Value} {k : Nat} {fa a : Addr} {fd : FuncData} {x : Str} {s1 : Shared} {vs : List Value} {ns : List Int}
    (KX : K.In s1.heap) (hns : s1.heap.Ns mainGlobals mg) (hb : s1.heap.Ns builtinsNs mb) (hbb : ∀ x : Str, x ≠ "__name__" → mb x = bootBuiltins x) (hlim : s1.heap.NoLimit) (hg : s1.gens = #[])
    (ha : s1.heap.get? a = some { cls := .type "list", data := .seq vs.toArray }) (hi : PyProof.Rows.IntsAre vs ns) (hl : ns.length ≤ 63) (hr : Room k callerA)
    (F : ∀ base : Heap, K.In base → base.Ns mainGlobals mg → FnG P w K mg base CX0 k fa fd [x] (spLaw K)) (hbind : ∀ (s : Shared) (u : Value), BindsTo s fd ⟨[u], []⟩ [(x, u)]) :
    codeAny (model P w) callerA (.call (.ref fa) ⟨[.ref a], []⟩) (fun r s' => r = .ok (.ret (.bool true)) ∧ PySem.OldK s1.heap s'.heap ∧ s'.os = s1.os ∧ PyProof.Rows.AllBare s'.gens) s1 := by
  have rv := vals_ints hi
  have lenV := hi.length
  have hline : ns.length ≤ sizeLine := Nat.le_trans hl (by rw [sizeLine_eq]; decide)
  -- from an abstract heap in which at most the script is tracked
  have core : ∀ H : Hp, Only H → SqL K H a (ns.map V.int) → HOk P w H s1.heap → (∀ b, H b ≠ none → b = a) → (H a ≠ none → K.lookup a = none) →
      codeAny (model P w) callerA (.call (.ref fa) ⟨[.ref a], []⟩) (fun r s' => r = .ok (.ret (.bool true)) ∧ PySem.OldK s1.heap s'.heap ∧ s'.os = s1.os ∧ PyProof.Rows.AllBare s'.gens) s1 := by
    intro H hO hS hok hA hK
    have noA : ∀ {b : Addr} {o : Obj} {es : Array DictEntry} {ep : Nat}, s1.heap.get? b = some o → o.data = .dict es ep → H b = none := fun {b o es ep} e d => by
      cases q : H b with
      | none => rfl
      | some u =>
        obtain rfl : b = a := hA b (by rw [q]; intro z; cases z)
        rw [ha] at e
        cases e
        have d' : Data.seq vs.toArray _ = Data.dict es ep := d
        cases d'
    have nsK : ∀ {b : Addr} {m : Str → Option Value}, s1.heap.Ns b m → (hidT s1.heap H).Ns b m := fun {b m} ⟨o, es, ep, e, d, r⟩ => ⟨o, es, ep, hidT_get e (noA e d), d, r⟩
    have hKb : K.In (hidT s1.heap H) := fun b o e => hidT_get (KX b o e) (by
      cases q : H b with
      | none => rfl
      | some u =>
        obtain rfl : b = a := hA b (by rw [q]; intro z; cases z)
        rw [hK (by rw [q]; intro z; cases z)] at e
        cases e)
    have hM : Mod K mg (hidT s1.heap H) := ⟨hKb, nsK hns, ⟨mb, nsK hb, hbb⟩, let ⟨mc, q1, q2⟩ := hlim; ⟨mc, nsK q1, q2⟩⟩
    have e0 : Env0 P w K mg (hidT s1.heap H) callerA [] s1 H := ⟨rfl, hM, fun b o e => of_hidT e, Nat.le_of_eq (hidT_size _ _), trivial, fun b hb => absurd (show b ∈ ([] : List Addr) from hb) List.not_mem_nil, hok, .of_eq hg⟩
    refine codeAny_mono ((F _ hKb (nsK hns)).run callerA [] s1 H ⟨[.ref a], []⟩ [.ref a] [.ref a] (fun v _ => v = .bl true) (fun _ _ _ => False) hr rfl e0 (hbind s1 (.ref a)) (.cons rfl .nil) ⟨a, ns, rfl, hO, hS, hl, fun _ => rfl⟩) fun r s' h => ?_
    cases r with
    | error e => exact h.elim
    | ok fl =>
      cases fl with
      | next => exact h.elim
      | brk => exact h.elim
      | cont => exact h.elim
      | ret u =>
        obtain ⟨v, H', os, bare, un, hok', r', q⟩ := h
        have q' : v = .bl true := q
        subst q'
        obtain rfl : u = Value.bool true := r'
        refine ⟨rfl, PySem.OldK.of_keep fun b o e => ?_, os, bare⟩
        cases q : H b with
        | none => exact un.keep b o e q (fun z => absurd (show b ∈ ([] : List Addr) from z) List.not_mem_nil) List.not_mem_nil
        | some u =>
          rcases hO b with z | ⟨ob, xs, z⟩
          · rw [q] at z
            cases z
          · obtain ⟨e1, _⟩ := hok b _ z
            obtain ⟨e2, _⟩ := hok' b _ (un.frzs b ob _ z)
            rw [e] at e1
            cases e1
            exact e2
  cases hk : K.lookup a with
  | some o =>
    have e := KX a o hk
    rw [ha] at e
    cases e
    refine core (fun _ => none) (fun _ => .inl rfl) (.inr ⟨_, vs.toArray, _, hk, rfl, rfl, rfl, by rw [List.size_toArray, lenV]; exact hline, by simpa using rv⟩) (fun b u z => by
      have z' : (none : Option HO) = some u := z
      cases z') (fun b z => absurd rfl z) fun z => absurd rfl z
  | none =>
    refine core (fun b => if b = a then some (.frz { cls := .type "list", data := .seq vs.toArray } (.lst (ns.map V.int))) else none) (fun b => ?_) (.inl (.inr ⟨{ cls := .type "list", data := .seq vs.toArray }, if_pos rfl⟩)) (fun b u z => ?_) (fun b z => ?_) fun _ => hk
    · by_cases hb : b = a
      · exact .inr ⟨_, _, if_pos hb⟩
      · exact .inl (if_neg hb)
    · by_cases hb : b = a
      · have z' := (if_pos hb).symm.trans z
        cases z'
        subst hb
        exact ⟨ha, by rw [List.length_map]; exact hline, vs, _, rv, ha⟩
      · have z' := (if_neg hb).symm.trans z
        cases z'
    · by_cases hb : b = a
      · exact hb
      · exact absurd (if_neg hb) z
/-- the goal that the head leaves, from the law's promise -/
theorem walkG {l : PySem.W.OpenLaw} {k : Nat} {q : Program} {loose : List Str} {XP : (Str → Option Value) → Heap → Prop} {YP : World → Heap → Prop} {d : DefRec} {K : PySem.Params → PySem.W.Frag} {x : Str}
    (hn : l.most = some 63) (hdf : d.params.defaults = []) (hr : Room k callerA) (hY : ∀ (w : World) (h : Heap), YP w h → (K w.params).In h)
    (F : ∀ (w : World) (mg : Str → Option Value) (fa : Addr) (h : Heap), (K w.params).In h → h.Ns mainGlobals mg → mg d.name = some (.ref fa) →
      ∃ fd : FuncData, (∀ (s : Shared) (u : Value), BindsTo s fd ⟨[u], []⟩ [(x, u)]) ∧
        ∀ base : Heap, (K w.params).In base → base.Ns mainGlobals mg → FnG l.prog w (K w.params) mg base CX0 k fa fd [x] (spLaw (K w.params))) :
    PySem.W.WalkO q loose XP YP l.row.toRowW d [] (fun f vs => PySem.call f vs) := by
  refine Att.attach_call hn hdf fun w s0 s1 mg mb fa o pm cd doc a vs ns G Y ho hd hcd hmg hobj hints hlen hg => ?_
  have KX := hY w _ Y
  obtain ⟨fd, hb, hF⟩ := F w mg fa _ KX G.T.g hmg
  exact lawG KX G.T.g G.T.b G.T.builtins G.T.nolimit hg hobj hints hlen hr hF hb
end
end PL

namespace PL
open PySem L2 Enc
section
variable {I S A B C U : Type} [Enc A] [Enc B] [Enc C] {Xs : I → Cx} {F : Fm S} {G : List Sl} {pos p p2 : Pos} {e a b c tg iter : Expr} {es : List Expr} {K : PySem.W.Frag} {x y z : Str}
def repOk (d : PyData) : Prop := d.showable = true ∧ d.canLay0 = true ∧ d.depth ≤ 60 ∧ d.shown.length ≤ 16777216
instance (d : PyData) : Decidable (repOk d) := inferInstanceAs (Decidable (_ ∧ _ ∧ _ ∧ _))
def rRepr (K : PySem.W.Frag) : List V → Hp → VK → Prop := fun vs H Q => ∃ (v : V) (d : PyData), vs = [v] ∧ Dp K H v d ∧ repOk d ∧ Q (.str d.shown) H
theorem cr_repr {X : Cx} {k : Nat} (hr : Room k X.A) (hg : X.A.guards = some []) : CallR X (.builtin "repr") (rRepr X.K) := by
  intro pins s st H vs us Q J r h
  obtain ⟨v, d, rfl, hd, ⟨h1, h2, h3, h4⟩, q⟩ := h
  obtain ⟨u, rfl, ru⟩ := vals1 r
  have hz : d.shown.length ≤ sizeLine := by
    rw [sizeLine_eq]
    exact h4
  have hu := hr.units
  obtain ⟨as, rd⟩ := Dp.reads J d v u hd ru
  have two : ∀ {a : Addr}, u = .ref a → wpAny (model X.prog X.w) X.A (call (.builtin "repr") [u]) (L2.EP X pins st Q) X.xe s := fun {a} e => by
    subst e
    exact repr_of_reads' rd h1 (PyData.noDict_hsm (PyData.hasDict_of_canLay d h2)) hg (by omega) (fun b o q => q) (fun h' t tk hk => ⟨.str d.shown, H, J.kept hk, ⟨_, rfl⟩, q⟩) hz
  cases rd with
  | none => exact PySem.P.repr_of_none ⟨.str _, H, J.tok _, ⟨_, rfl⟩, by simpa only [PyData.shown] using q⟩
  | bool b => exact PySem.P.repr_of_bool ⟨.str _, H, J.tok _, ⟨_, rfl⟩, by simpa only [PyData.shown] using q⟩
  | int i t => exact PySem.P.repr_of_int (by simpa [PyData.showable] using h1) ⟨.str _, H, J.tok _, ⟨_, rfl⟩, by simpa only [PyData.shown] using q⟩
  | str x t => exact PySem.P.repr_of_str ⟨.str _, H, J.tok _, ⟨_, rfl⟩, by simpa only [PyData.shown] using q⟩ (by simpa only [PyData.shown] using hz)
  | list _ _ _ _ => exact two rfl
  | tuple _ _ _ _ => exact two rfl
  | dict _ _ _ _ _ => exact two rfl
theorem bb_repr : bootBuiltins "repr" = some (.builtin "repr") := by decide +kernel
def repF (y : A) : Option Str := if repOk (enc y) then some (enc y).shown else none
theorem ev_repr {m : M S A} {k : Nat} (hr : ∀ i, Room k (Xs i).A) (hgd : ∀ i, (Xs i).A.guards = some []) (hm : ∀ i, (Xs i).mg "repr" = none) (h : EV Xs F G a m) (hg : ∀ i, Gl (Xs i) "repr" := by intro _; rfl)
    (he : ∀ i, starEach [a] (Xs i).env = (false, eval a (Xs i).env) :: starEach [] (Xs i).env := by intro _; rfl) (hK : ∀ i, (Xs i).K = K := by intro _; rfl) : EV Xs F G (.Call (.Name "repr" p) [a] [] pos) (fun1M repF m) :=
  ev_b1 (r := rRepr K) (fun i => by rw [← hK i]; exact cr_repr (hr i) (hgd i)) (fun F Zx G s t H u vs z g r e Q q => by
    obtain ⟨v, rfl, rv⟩ := r.one
    replace e : (if repOk (enc u.1) then some (enc u.1).shown else none) = some z := e
    by_cases ho : repOk (enc u.1)
    · rw [if_pos ho] at e
      cases e
      exact ⟨v, enc u.1, rfl, rv.dp ho.2.1, ho, q _ H (Same.refl H) (.str _)⟩
    · rw [if_neg ho] at e
      cases e) hm bb_repr h hg (by decide) (by decide) he
def eqSM (m n : M S Str) : M S Bool := bin2 (fun x y : Str => some (decide (x = y))) m n
def neSM (m n : M S Str) : M S Bool := bin2 (fun x y : Str => some (!decide (x = y))) m n
@[simp] theorem eqSM_pure (x y : Str) : eqSM (pureM x : M S Str) (pureM y) = pureM (decide (x = y)) := rfl
@[simp] theorem neSM_pure (x y : Str) : neSM (pureM x : M S Str) (pureM y) = pureM (!decide (x = y)) := rfl
theorem rv_eqS : RV2 rEq (fun x y : Str => some (decide (x = y))) := fun F Zx G s t H x y vx vy z gd rx ry e Q q => by
  cases e
  rw [rx.toStr, ry.toStr]
  refine ⟨rfl, q _ H (Same.refl H) ?_⟩
  rw [show decide (V.str x = V.str y) = decide (x = y) by simp]
  exact .bl _
theorem rv_neS : RV2 rNe (fun x y : Str => some (!decide (x = y))) := fun F Zx G s t H x y vx vy z gd rx ry e Q q => by
  cases e
  rw [rx.toStr, ry.toStr]
  refine ⟨rfl, q _ H (Same.refl H) ?_⟩
  rw [show decide (V.str x = V.str y) = decide (x = y) by simp]
  exact .bl _
theorem ev_eqS {m n : M S Str} (h : EV Xs F G a m) (h2 : EV Xs F G b n) : EV Xs F G (.Compare a [.Eq] [b] pos) (eqSM m n) := ev_cmp (fun _ => op_eq) rv_eqS h h2
theorem et_eqS {m n : M S Str} (h : EV Xs F G a m) (h2 : EV Xs F G b n) : ET Xs F G (.Compare a [.Eq] [b] pos) (eqSM m n) := et_cmp (fun _ => op_eq) rv_eqS h h2
theorem ev_neS {m n : M S Str} (h : EV Xs F G a m) (h2 : EV Xs F G b n) : EV Xs F G (.Compare a [.NotEq] [b] pos) (neSM m n) := ev_cmp (fun _ => op_ne) rv_neS h h2
theorem et_neS {m n : M S Str} (h : EV Xs F G a m) (h2 : EV Xs F G b n) : ET Xs F G (.Compare a [.NotEq] [b] pos) (neSM m n) := et_cmp (fun _ => op_ne) rv_neS h h2
def maxI (i j : Int) : Int := if j > i then j else i
def minI (i j : Int) : Int := if j < i then j else i
def fun2M {A B C : Type} (f : A → B → Option C) (m : M S A) (n : M S B) : M S C := bindM m fun x => bindM n fun y => ofO (f x y)
@[simp] theorem fun2M_pure (f : A → B → Option C) (x : A) (y : B) : fun2M f (pureM x : M S A) (pureM y) = ofO (f x y) := rfl
theorem ev_b2 {id : String} {r : List V → Hp → VK → Prop} {f : A → B → Option C} {m : M S A} {n : M S B} (hc : ∀ i, CallR (Xs i) (.builtin id) r) (hr : RVC r (fun u : A × B × Unit => [enc u.1, enc u.2.1]) fun u => f u.1 u.2.1) (hm : ∀ i, (Xs i).mg x = none) (hv : bootBuiltins x = some (.builtin id))
    (h : EV Xs F G a m) (h' : EV Xs F G b n) (hg : ∀ i, Gl (Xs i) x := by intro _; rfl) (hn : x ≠ "__name__" := by decide) (hdb : (x == ("__debug__" : Str)) = false := by decide)
    (hs1 : ∀ i, starEach [a, b] (Xs i).env = (false, eval a (Xs i).env) :: starEach [b] (Xs i).env := by intro _; rfl) (hs2 : ∀ i, starEach [b] (Xs i).env = (false, eval b (Xs i).env) :: starEach [] (Xs i).env := by intro _; rfl)
    (hpl : ∀ i, (backTo pos (starEach [b] (Xs i).env)).any (·.1) = false := by intro _; rfl) : EV Xs F G (.Call (.Name x p) [a, b] [] pos) (fun2M f m n) := by
  refine EV.eq (ev_blt (en := fun u : A × B × Unit => [enc u.1, enc u.2.1]) hc hr hm hv (ea_cons h (ea_cons h' ea_nil hs2) hs1) hg hn hdb hs1 hpl) ?_
  unfold fun2M pairM
  rw [bind_assoc]
  congr 1
  funext u
  rw [bind_assoc, bind_assoc]
  rfl
theorem ev_max2 {m n : M S Int} (hm : ∀ i, (Xs i).mg "max" = none) (h : EV Xs F G a m) (h' : EV Xs F G b n) (hc : ∀ i, (Xs i).calm = true := by intro _; rfl) (hg : ∀ i, Gl (Xs i) "max" := by intro _; rfl)
    (hs1 : ∀ i, starEach [a, b] (Xs i).env = (false, eval a (Xs i).env) :: starEach [b] (Xs i).env := by intro _; rfl) (hs2 : ∀ i, starEach [b] (Xs i).env = (false, eval b (Xs i).env) :: starEach [] (Xs i).env := by intro _; rfl)
    (hpl : ∀ i, (backTo pos (starEach [b] (Xs i).env)).any (·.1) = false := by intro _; rfl) : EV Xs F G (.Call (.Name "max" p) [a, b] [] pos) (fun2M (fun i j : Int => some (maxI i j)) m n) :=
  ev_b2 (fun i => call_max2 (hc i)) (fun F Zx G s t H u vs z g r e Q q => by
    obtain ⟨v, w, rfl, r1, r2⟩ := r.two
    obtain rfl := r1.toInt
    obtain rfl := r2.toInt
    cases e
    exact ⟨_, _, rfl, q _ H (Same.refl H) (.int _)⟩) hm bb_max h h' hg (by decide) (by decide) hs1 hs2 hpl
theorem ev_min2 {m n : M S Int} (hm : ∀ i, (Xs i).mg "min" = none) (h : EV Xs F G a m) (h' : EV Xs F G b n) (hc : ∀ i, (Xs i).calm = true := by intro _; rfl) (hg : ∀ i, Gl (Xs i) "min" := by intro _; rfl)
    (hs1 : ∀ i, starEach [a, b] (Xs i).env = (false, eval a (Xs i).env) :: starEach [b] (Xs i).env := by intro _; rfl) (hs2 : ∀ i, starEach [b] (Xs i).env = (false, eval b (Xs i).env) :: starEach [] (Xs i).env := by intro _; rfl)
    (hpl : ∀ i, (backTo pos (starEach [b] (Xs i).env)).any (·.1) = false := by intro _; rfl) : EV Xs F G (.Call (.Name "min" p) [a, b] [] pos) (fun2M (fun i j : Int => some (minI i j)) m n) :=
  ev_b2 (fun i => call_min2 (hc i)) (fun F Zx G s t H u vs z g r e Q q => by
    obtain ⟨v, w, rfl, r1, r2⟩ := r.two
    obtain rfl := r1.toInt
    obtain rfl := r2.toInt
    cases e
    exact ⟨_, _, rfl, q _ H (Same.refl H) (.int _)⟩) hm bb_min h h' hg (by decide) (by decide) hs1 hs2 hpl
/-- max, min of a list that is not empty -/
def maxL : List Int → Option Int
  | [] => none
  | x :: l => some (l.foldl maxI x)
def minL : List Int → Option Int
  | [] => none
  | x :: l => some (l.foldl minI x)
theorem foldl_maxI : ∀ (l : List Int) (x : Int), (l.foldl maxI x = x ∨ l.foldl maxI x ∈ l) ∧ x ≤ l.foldl maxI x ∧ ∀ y ∈ l, y ≤ l.foldl maxI x
  | [], x => ⟨.inl rfl, Int.le_refl _, fun y h => absurd h List.not_mem_nil⟩
  | z :: l, x => by
    obtain ⟨h1, h2, h3⟩ := foldl_maxI l (maxI x z)
    have e : (z :: l).foldl maxI x = l.foldl maxI (maxI x z) := rfl
    have m1 : x ≤ maxI x z ∧ z ≤ maxI x z ∧ (maxI x z = x ∨ maxI x z = z) := by
      unfold maxI
      split <;> omega
    rw [e]
    refine ⟨?_, by omega, fun y hy => ?_⟩
    · rcases h1 with h1 | h1
      · rw [h1]
        rcases m1.2.2 with q | q
        · exact .inl q
        · rw [q]
          exact .inr List.mem_cons_self
      · exact .inr (List.mem_cons_of_mem _ h1)
    · rcases List.mem_cons.mp hy with q | q
      · rw [q]
        omega
      · exact h3 y q
theorem foldl_minI : ∀ (l : List Int) (x : Int), (l.foldl minI x = x ∨ l.foldl minI x ∈ l) ∧ l.foldl minI x ≤ x ∧ ∀ y ∈ l, l.foldl minI x ≤ y
  | [], x => ⟨.inl rfl, Int.le_refl _, fun y h => absurd h List.not_mem_nil⟩
  | z :: l, x => by
    obtain ⟨h1, h2, h3⟩ := foldl_minI l (minI x z)
    have e : (z :: l).foldl minI x = l.foldl minI (minI x z) := rfl
    have m1 : minI x z ≤ x ∧ minI x z ≤ z ∧ (minI x z = x ∨ minI x z = z) := by
      unfold minI
      split <;> omega
    rw [e]
    refine ⟨?_, by omega, fun y hy => ?_⟩
    · rcases h1 with h1 | h1
      · rw [h1]
        rcases m1.2.2 with q | q
        · exact .inl q
        · rw [q]
          exact .inr List.mem_cons_self
      · exact .inr (List.mem_cons_of_mem _ h1)
    · rcases List.mem_cons.mp hy with q | q
      · rw [q]
        omega
      · exact h3 y q
theorem maxL_spec {l : List Int} {m : Int} (h : maxL l = some m) : m ∈ l ∧ ∀ y ∈ l, y ≤ m := by
  cases l with
  | nil => cases h
  | cons x l =>
    cases h
    obtain ⟨h1, h2, h3⟩ := foldl_maxI l x
    exact ⟨h1.elim (fun q => by rw [q]; exact List.mem_cons_self) (fun q => List.mem_cons_of_mem _ q), fun y hy => (List.mem_cons.mp hy).elim (fun q => by rw [q]; exact h2) (h3 y)⟩
theorem minL_spec {l : List Int} {m : Int} (h : minL l = some m) : m ∈ l ∧ ∀ y ∈ l, m ≤ y := by
  cases l with
  | nil => cases h
  | cons x l =>
    cases h
    obtain ⟨h1, h2, h3⟩ := foldl_minI l x
    exact ⟨h1.elim (fun q => by rw [q]; exact List.mem_cons_self) (fun q => List.mem_cons_of_mem _ q), fun y hy => (List.mem_cons.mp hy).elim (fun q => by rw [q]; exact h2) (h3 y)⟩
theorem ev_maxL {m : M S (List Int)} (hm : ∀ i, (Xs i).mg "max" = none) (h : EV Xs F G a m) (hc : ∀ i, (Xs i).calm = true := by intro _; rfl) (hg : ∀ i, Gl (Xs i) "max" := by intro _; rfl)
    (he : ∀ i, starEach [a] (Xs i).env = (false, eval a (Xs i).env) :: starEach [] (Xs i).env := by intro _; rfl) (hK : ∀ i, (Xs i).K = K := by intro _; rfl) : EV Xs F G (.Call (.Name "max" p) [a] [] pos) (fun1M maxL m) :=
  ev_b1 (r := rMax K) (fun i => by rw [← hK i]; exact cr_max (hc i)) (fun F Zx G s t H u vs z g r e Q q => by
    obtain ⟨v, rfl, rv⟩ := r.one
    obtain ⟨pp, xs, rfl, n, h, l⟩ := rv.toLst
    rw [l.ints] at h
    replace e : maxL u.1 = some z := e
    obtain ⟨h1, h2⟩ := maxL_spec e
    refine ⟨pp, u.1, rfl, SqL.of h, List.length_pos_of_mem h1, fun mm hm1 hm2 => ?_⟩
    obtain rfl : mm = z := by
      have := h2 _ hm1
      have := hm2 _ h1
      omega
    exact q _ H (Same.refl H) (.int _)) hm bb_max h hg (by decide) (by decide) he
theorem ev_minL {m : M S (List Int)} (hm : ∀ i, (Xs i).mg "min" = none) (h : EV Xs F G a m) (hc : ∀ i, (Xs i).calm = true := by intro _; rfl) (hg : ∀ i, Gl (Xs i) "min" := by intro _; rfl)
    (he : ∀ i, starEach [a] (Xs i).env = (false, eval a (Xs i).env) :: starEach [] (Xs i).env := by intro _; rfl) (hK : ∀ i, (Xs i).K = K := by intro _; rfl) : EV Xs F G (.Call (.Name "min" p) [a] [] pos) (fun1M minL m) :=
  ev_b1 (r := rMin K) (fun i => by rw [← hK i]; exact cr_min (hc i)) (fun F Zx G s t H u vs z g r e Q q => by
    obtain ⟨v, rfl, rv⟩ := r.one
    obtain ⟨pp, xs, rfl, n, h, l⟩ := rv.toLst
    rw [l.ints] at h
    replace e : minL u.1 = some z := e
    obtain ⟨h1, h2⟩ := minL_spec e
    refine ⟨pp, u.1, rfl, SqL.of h, List.length_pos_of_mem h1, fun mm hm1 hm2 => ?_⟩
    obtain rfl : mm = z := by
      have := h2 _ hm1
      have := hm2 _ h1
      omega
    exact q _ H (Same.refl H) (.int _)) hm bb_min h hg (by decide) (by decide) he
/-- values ahead of their stores: data, or new objects of the frame's own (ps) -/
inductive Pend (Z : Addr → Prop) (H : Hp) : List Addr → List V → List (PyData × Bool) → Prop
  | nil : Pend Z H [] [] []
  | d {ps vs v d r} : Rp Z H v d → Pend Z H ps vs r → Pend Z H ps (v :: vs) ((d, false) :: r)
  | o {p ps vs d r} : OwnC Z H p d → Pend Z H ps vs r → Pend Z H (p :: ps) (.ref p :: vs) ((d, true) :: r)
theorem Pend.ext {Z Z' : Addr → Prop} {H H' : Hp} (e : Ext Z H Z' H') : ∀ {ps : List Addr} {vs : List V} {ds : List (PyData × Bool)}, (∀ p ∈ ps, ∀ o, H p = some o → H' p = some o) → Pend Z H ps vs ds → Pend Z' H' ps vs ds
  | _, _, _, _, .nil => .nil
  | _, _, _, k, .d h t => .d (h.ext e) (t.ext e k)
  | _, _, _, k, .o h t => .o (OwnC.ext e (k _ List.mem_cons_self) h) (t.ext e fun p hp => k p (List.mem_cons_of_mem _ hp))
def mkSl : PyData × Bool → Sl
  | (d, true) => .own d
  | (d, false) => .dat d
def storeG (G : List Sl) : List Nat → List (PyData × Bool) → List Sl
  | k :: ks, d :: ds => storeG (G.set k (mkSl d)) ks ds
  | _, _ => G
def storeT (t : St) : List Nat → List V → St
  | k :: ks, v :: vs => storeT (t.set k (some v)) ks vs
  | _, _ => t
theorem noOwn_set {G : List Sl} {k : Nat} {l : Sl} : ∀ {ks : List Nat}, noOwn G ks = true → k ∉ ks → noOwn (G.set k l) ks = true
  | [], _, _ => rfl
  | j :: ks, h, n => by
    unfold noOwn at h ⊢
    rw [List.all_cons, Bool.and_eq_true] at h ⊢
    refine ⟨?_, noOwn_set (ks := ks) h.2 fun z => n (List.mem_cons_of_mem _ z)⟩
    rw [List.getElem?_set_ne (fun z => n (by rw [z]; exact List.mem_cons_self))]
    exact h.1
theorem noOwn_one {G : List Sl} {k : Nat} {ks : List Nat} (h : noOwn G (k :: ks) = true) : noOwn G [k] = true ∧ noOwn G ks = true := by
  unfold noOwn at h ⊢
  rw [List.all_cons, Bool.and_eq_true] at h
  exact ⟨by rw [List.all_cons, List.all_nil, Bool.and_true]; exact h.1, h.2⟩
theorem Gd.storeAll {Zx : Addr → Prop} {s : S} {H : Hp} : ∀ {ks : List Nat} {ps : List Addr} {vs : List V} {ds : List (PyData × Bool)} {G : List Sl} {t : St}, Gd F (fun b => Zx b ∨ b ∈ ps) G s t H →
    Pend (ZF F (fun b => Zx b ∨ b ∈ ps) G t) H ps vs ds → noOwn G ks = true → ks.Nodup → ks.length = ds.length → (∀ k ∈ ks, k < G.length) → (∀ p ∈ ps, ¬ F.Z p ∧ ¬ Zx p) → ps.Nodup →
      Gd F Zx (storeG G ks ds) s (storeT t ks vs) H ∧ ∀ b, Own (storeG G ks ds) (storeT t ks vs) b ↔ Own G t b ∨ b ∈ ps
  | [], _, _, [], G, t, g, .nil, _, _, _, _, _, _ => ⟨g.less fun b z => .inl z, fun b => ⟨.inl, fun z => z.elim id fun y => absurd y List.not_mem_nil⟩⟩
  | k :: ks, _, _, [], G, t, g, .nil, _, _, hl, _, _, _ => absurd hl (by simp)
  | k :: ks, ps, v :: vs, (d, false) :: ds, G, t, g, .d h r, hno, hnd, hl, hk, hps, hpn => by
    obtain ⟨n1, n2⟩ := noOwn_one hno
    have nk := List.nodup_cons.mp hnd
    have ow := fun b => own_set (d := d) (t := t) (o := some v) n1 b
    have g2 := g.set n1 h
    have ez : ZF F (fun b => Zx b ∨ b ∈ ps) (G.set k (.dat d)) (t.set k (some v)) = ZF F (fun b => Zx b ∨ b ∈ ps) G t := funext fun b => propext ⟨fun z => z.imp id (Or.imp id (ow b).mp), fun z => z.imp id (Or.imp id (ow b).mpr)⟩
    obtain ⟨a, b⟩ := Gd.storeAll (ks := ks) g2 (by rw [ez]; exact r) (noOwn_set n2 nk.1) nk.2 (Nat.succ.inj hl) (fun j hj => by rw [List.length_set]; exact hk j (List.mem_cons_of_mem _ hj)) hps hpn
    exact ⟨a, fun c => (b c).trans (or_congr (ow c) Iff.rfl)⟩
  | k :: ks, p :: ps, .ref _ :: vs, (d, true) :: ds, G, t, g, .o h r, hno, hnd, hl, hk, hps, hpn => by
    obtain ⟨n1, n2⟩ := noOwn_one hno
    have nk := List.nodup_cons.mp hnd
    have pn := List.nodup_cons.mp hpn
    have g1 : Gd F (fun b => (Zx b ∨ b ∈ ps) ∨ b = p) G s t H := g.less fun b z => by
      rcases z with (z | z) | z
      · exact .inl z
      · exact .inr (List.mem_cons_of_mem _ z)
      · rw [z]
        exact .inr List.mem_cons_self
    have e1 : (fun b => (Zx b ∨ b ∈ ps) ∨ b = p) = fun b => Zx b ∨ b ∈ p :: ps := funext fun b => propext ⟨fun z => by
      rcases z with (z | z) | z
      · exact .inl z
      · exact .inr (List.mem_cons_of_mem _ z)
      · rw [z]
        exact .inr List.mem_cons_self, fun z => by
      rcases z with z | z
      · exact .inl (.inl z)
      · exact (List.mem_cons.mp z).elim .inr fun y => .inl (.inr y)⟩
    have hp := hps p List.mem_cons_self
    obtain ⟨g2, ow⟩ := g1.setOwn n1 hp.1 (fun z => z.elim hp.2 pn.1) (by rw [e1]; exact h) (hk k List.mem_cons_self)
    have ez : ZF F (fun b => Zx b ∨ b ∈ ps) (G.set k (.own d)) (t.set k (some (.ref p))) = ZF F (fun b => Zx b ∨ b ∈ p :: ps) G t := funext fun b => propext ⟨fun z => by
      rcases z with z | z | z
      · exact .inl z
      · exact .inr (.inl (z.imp id fun y => List.mem_cons_of_mem _ y))
      · rcases (ow b).mp z with z | z
        · exact .inr (.inr z)
        · rw [z]
          exact .inr (.inl (.inr List.mem_cons_self)), fun z => by
      rcases z with z | (z | z) | z
      · exact .inl z
      · exact .inr (.inl (.inl z))
      · rcases List.mem_cons.mp z with z | z
        · exact .inr (.inr ((ow b).mpr (.inr z)))
        · exact .inr (.inl (.inr z))
      · exact .inr (.inr ((ow b).mpr (.inl z)))⟩
    obtain ⟨a, b⟩ := Gd.storeAll (ks := ks) g2 (by rw [ez]; exact r) (noOwn_set n2 nk.1) nk.2 (Nat.succ.inj hl) (fun j hj => by rw [List.length_set]; exact hk j (List.mem_cons_of_mem _ hj)) (fun q hq => hps q (List.mem_cons_of_mem _ hq)) pn.2
    refine ⟨a, fun c => (b c).trans ?_⟩
    rw [ow c, List.mem_cons, or_assoc]
def EKA (Xs : I → Cx) (F : Fm S) (G : List Sl) (es : List Expr) {U : Type} (m : M S U) (en : U → List (PyData × Bool)) : Prop := ∃ ta, (∀ i, PA (Xs i) es ta) ∧
  ∀ Zx t H s u s', Gd F Zx G s t H → m s = some (u, s') → ∀ Q : List V → Hp → Prop, (∀ vs H' ps, Gd F (fun b => Zx b ∨ b ∈ ps) G s' t H' → Fix F H H' → (∀ p ∈ ps, H p = none) → ps.Nodup →
    Pend (ZF F (fun b => Zx b ∨ b ∈ ps) G t) H' ps vs (en u) → Q vs H') → ta t H Q
theorem ek_nil : EKA Xs F G [] (pureM ()) fun _ => [] := by
  refine ⟨tNil, fun _ => pa_nil, fun Zx t H s y s' g hm Q q => ?_⟩
  obtain ⟨rfl, rfl⟩ := pure_eq hm
  exact q [] H [] (g.less fun b z => z.elim id fun y => absurd y List.not_mem_nil) (Fix.refl H) (fun p hp => absurd hp List.not_mem_nil) List.nodup_nil .nil
theorem ek_d {m : M S A} {n : M S U} {en : U → List (PyData × Bool)} (h : EV Xs F G e m) (hr : EKA Xs F G es n en)
    (hs : ∀ i, starEach (e :: es) (Xs i).env = (false, eval e (Xs i).env) :: starEach es (Xs i).env := by intro _; rfl) : EKA Xs F G (e :: es) (pairM m n) fun p => (enc p.1, false) :: en p.2 := by
  obtain ⟨te, hp, ho⟩ := h
  obtain ⟨ta, hq, hb⟩ := hr
  refine ⟨tCons te ta, fun i => pa_cons (hp i) (hq i) (hs i), fun Zx t H s y s' g hm Q q => ?_⟩
  obtain ⟨z, s1, h1, h2⟩ := bind_some hm
  obtain ⟨w, s2, h3, h4⟩ := bind_some h2
  obtain ⟨rfl, rfl⟩ := pure_eq h4
  refine ho Zx t H s z s1 g h1 _ fun v H1 g1 f1 r1 => ?_
  refine hb Zx t H1 s1 w s2 g1 h3 _ fun vs H2 ps g2 f2 hps hnd r2 => ?_
  refine q _ H2 ps g2 (f1.trans f2) (fun p hp => ?_) hnd (.d (r1.ext ⟨fun b o z h => f2 b o (fun k => z (.inl k)) h, fun b z => ?_⟩) r2)
  · cases e : H p with
    | none => rfl
    | some o =>
      have nF : ¬ F.Z p := fun z => F.trk _ _ _ g1.at_ z (hps p hp)
      have := f1 p o nF e
      rw [hps p hp] at this
      cases this
  · rcases z with z | (z | z) | z
    · exact .inl (.inl z)
    · exact .inl (.inr (.inl z))
    · exact .inr (hps b z)
    · exact .inl (.inr (.inr z))
theorem ek_o {m : M S A} {n : M S U} {en : U → List (PyData × Bool)} (h : EO Xs F G e m) (hr : EKA Xs F G es n en)
    (hs : ∀ i, starEach (e :: es) (Xs i).env = (false, eval e (Xs i).env) :: starEach es (Xs i).env := by intro _; rfl) : EKA Xs F G (e :: es) (pairM m n) fun p => (enc p.1, true) :: en p.2 := by
  obtain ⟨te, hp, ho⟩ := h
  obtain ⟨ta, hq, hb⟩ := hr
  refine ⟨tCons te ta, fun i => pa_cons (hp i) (hq i) (hs i), fun Zx t H s y s' g hm Q q => ?_⟩
  obtain ⟨z, s1, h1, h2⟩ := bind_some hm
  obtain ⟨w, s2, h3, h4⟩ := bind_some h2
  obtain ⟨rfl, rfl⟩ := pure_eq h4
  refine ho Zx t H s z s1 g h1 _ fun pp H1 g1 f1 hpn r1 => ?_
  refine hb _ t H1 s1 w s2 g1 h3 _ fun vs H2 ps g2 f2 hps hnd r2 => ?_
  have nF : ¬ F.Z pp := fun z => F.trk _ _ _ g.at_ z hpn
  have np : pp ∉ ps := fun z => g1.trk pp (.inr rfl) (hps pp z)
  have e1 : (fun b => (Zx b ∨ b = pp) ∨ b ∈ ps) = fun b => Zx b ∨ b ∈ pp :: ps := funext fun b => propext ⟨fun z => by
    rcases z with (z | z) | z
    · exact .inl z
    · rw [z]
      exact .inr List.mem_cons_self
    · exact .inr (List.mem_cons_of_mem _ z), fun z => by
    rcases z with z | z
    · exact .inl (.inl z)
    · exact (List.mem_cons.mp z).elim (fun y => .inl (.inr y)) .inr⟩
  rw [e1] at g2 r2
  have ex : Ext (ZF F (fun b => Zx b ∨ b = pp) G t) H1 (ZF F (fun b => Zx b ∨ b ∈ pp :: ps) G t) H2 := ⟨fun b o z h => f2 b o (fun k => z (.inl k)) h, fun b z => by
    rcases z with z | (z | z) | z
    · exact .inl (.inl z)
    · exact .inl (.inr (.inl (.inl z)))
    · rcases List.mem_cons.mp z with z | z
      · exact .inl (.inr (.inl (.inr z)))
      · exact .inr (hps b z)
    · exact .inl (.inr (.inr z))⟩
  refine q _ H2 (pp :: ps) g2 (f1.trans f2) (fun p hp => ?_) (List.nodup_cons.mpr ⟨np, hnd⟩) (.o (OwnC.ext ex (fun o ho => f2 pp o nF ho) r1) r2)
  rcases List.mem_cons.mp hp with z | z
  · rw [z]
    exact hpn
  · cases e : H p with
    | none => rfl
    | some o =>
      have nF : ¬ F.Z p := fun y => F.trk _ _ _ g1.at_ y (hps p z)
      have := f1 p o nF e
      rw [hps p z] at this
      cases this
theorem Pend.len {Z : Addr → Prop} {H : Hp} : ∀ {ps : List Addr} {vs : List V} {ds : List (PyData × Bool)}, Pend Z H ps vs ds → vs.length = ds.length
  | _, _, _, .nil => rfl
  | _, _, _, .d _ t => congrArg (· + 1) t.len
  | _, _, _, .o _ t => congrArg (· + 1) t.len
theorem ss_par2 {L R : Type} [Enc R] {Gl : L → List Sl} {m : M S U} {en : U → List (PyData × Bool)} {i j : Nat} {px py pt : Pos} {kt k2 : Nat} {pt2 : Pos} (h : EKA Xs F G [a, b] m en) (hN : ∀ i, (Xs i).N.Nodup) (hij : i ≠ j := by decide) (hen : ∀ u, (en u).length = 2 := by intro _; rfl)
    (hno : noOwn G [i, j] = true := by rfl) (hk : i < G.length ∧ j < G.length := by exact ⟨Nat.le_of_ble_eq_true rfl, Nat.le_of_ble_eq_true rfl⟩) (hi : ∀ q, (Xs q).N[i]? = some x := by intro _; rfl) (hj : ∀ q, (Xs q).N[j]? = some y := by intro _; rfl)
    (hx : ∀ q, (Xs q).env.scope.names.lookup x = some .local := by intro _; rfl) (hy : ∀ q, (Xs q).env.scope.names.lookup y = some .local := by intro _; rfl) (hc : ∀ i, (Xs i).calm = true := by intro _; rfl)
    (hw : ∀ q, swappedStores [.Tuple [.Name x px, .Name y py] kt pt] (.Tuple [a, b] k2 pt2) (Xs q).env = pure (some [x, y]) := by intro _; rfl)
    (hs : ∀ q, swapsWithSole [.Tuple [.Name x px, .Name y py] kt pt] (.Tuple [a, b] k2 pt2) pos.line (Xs q).env = pure false := by intro _; rfl) :
    SS (R := R) (L := L) Xs F G (.Assign [.Tuple [.Name x px, .Name y py] kt pt] (.Tuple [a, b] k2 pt2) pos) (bindM m fun u => pureM (.nx u)) (fun u => storeG G [i, j] (en u)) Gl := by
  obtain ⟨ta, hp, ho⟩ := h
  refine ⟨tPar i j ta, fun q => ps_par (hc q) (hN q) (hi q) (hj q) hij (hx q) (hy q) (hp q) (hw q) (hs q), fun Zx t H s r s' g hm D q => ?_⟩
  obtain ⟨u, s1, h1, h2⟩ := bind_some hm
  obtain ⟨rfl, rfl⟩ := pure_eq h2
  refine ho Zx t H s u s1 g h1 _ fun vs H1 ps g1 f1 hps hnd r1 => ?_
  have hl := r1.len
  rw [hen] at hl
  obtain ⟨v, w, rfl⟩ : ∃ v w, vs = [v, w] := by
    match vs, hl with
    | [v, w], _ => exact ⟨v, w, rfl⟩
  obtain ⟨g2, ow⟩ := g1.storeAll (ks := [i, j]) r1 hno (by simpa using hij) (by rw [hen]; rfl) (fun k hk' => by
    rcases List.mem_cons.mp hk' with z | z
    · rw [z]
      exact hk.1
    · rw [List.mem_singleton.mp z]
      exact hk.2) (fun p hp => ⟨fun z => F.trk _ _ _ g.at_ z (hps p hp), fun z => g.trk p z (hps p hp)⟩) hnd
  exact ⟨v, w, rfl, q _ H1 g2 ⟨fun b o z _ h => f1 b o z h, fun b z => ((ow b).mp z).imp id (hps b)⟩⟩
theorem ss_par3 {L R : Type} [Enc R] {Gl : L → List Sl} {m : M S U} {en : U → List (PyData × Bool)} {i j l : Nat} {px py pz pt : Pos} {kt k2 : Nat} {pt2 : Pos} (h : EKA Xs F G [a, b, c] m en) (hN : ∀ i, (Xs i).N.Nodup) (hij : i ≠ j ∧ i ≠ l ∧ j ≠ l := by decide) (hen : ∀ u, (en u).length = 3 := by intro _; rfl)
    (hno : noOwn G [i, j, l] = true := by rfl) (hk : i < G.length ∧ j < G.length ∧ l < G.length := by exact ⟨Nat.le_of_ble_eq_true rfl, Nat.le_of_ble_eq_true rfl, Nat.le_of_ble_eq_true rfl⟩) (hi : ∀ q, (Xs q).N[i]? = some x := by intro _; rfl) (hj : ∀ q, (Xs q).N[j]? = some y := by intro _; rfl) (hl : ∀ q, (Xs q).N[l]? = some z := by intro _; rfl)
    (hx : ∀ q, (Xs q).env.scope.names.lookup x = some .local := by intro _; rfl) (hy : ∀ q, (Xs q).env.scope.names.lookup y = some .local := by intro _; rfl) (hz : ∀ q, (Xs q).env.scope.names.lookup z = some .local := by intro _; rfl) (hc : ∀ i, (Xs i).calm = true := by intro _; rfl)
    (hw : ∀ q, swappedStores [.Tuple [.Name x px, .Name y py, .Name z pz] kt pt] (.Tuple [a, b, c] k2 pt2) (Xs q).env = pure (some [x, y, z]) := by intro _; rfl)
    (hs : ∀ q, swapsWithSole [.Tuple [.Name x px, .Name y py, .Name z pz] kt pt] (.Tuple [a, b, c] k2 pt2) pos.line (Xs q).env = pure false := by intro _; rfl) :
    SS (R := R) (L := L) Xs F G (.Assign [.Tuple [.Name x px, .Name y py, .Name z pz] kt pt] (.Tuple [a, b, c] k2 pt2) pos) (bindM m fun u => pureM (.nx u)) (fun u => storeG G [i, j, l] (en u)) Gl := by
  obtain ⟨ta, hp, ho⟩ := h
  refine ⟨tPar3 i j l ta, fun q => ps_par3 (hc q) (hN q) (hi q) (hj q) (hl q) hij.1 hij.2.1 hij.2.2 (hx q) (hy q) (hz q) (hp q) (hw q) (hs q), fun Zx t H s r s' g hm D q => ?_⟩
  obtain ⟨u, s1, h1, h2⟩ := bind_some hm
  obtain ⟨rfl, rfl⟩ := pure_eq h2
  refine ho Zx t H s u s1 g h1 _ fun vs H1 ps g1 f1 hps hnd r1 => ?_
  have hlen := r1.len
  rw [hen] at hlen
  obtain ⟨v, w, o, rfl⟩ : ∃ v w o, vs = [v, w, o] := by
    match vs, hlen with
    | [v, w, o], _ => exact ⟨v, w, o, rfl⟩
  obtain ⟨g2, ow⟩ := g1.storeAll (ks := [i, j, l]) r1 hno (by
    obtain ⟨n1, n2, n3⟩ := hij
    simp [n1, n2, n3]) (by rw [hen]; rfl) (fun k hk' => by
    rcases List.mem_cons.mp hk' with z | z
    · rw [z]
      exact hk.1
    · rcases List.mem_cons.mp z with z | z
      · rw [z]
        exact hk.2.1
      · rw [List.mem_singleton.mp z]
        exact hk.2.2) (fun p hp => ⟨fun z => F.trk _ _ _ g.at_ z (hps p hp), fun z => g.trk p z (hps p hp)⟩) hnd
  exact ⟨v, w, o, rfl, q _ H1 g2 ⟨fun b o z _ h => f1 b o z h, fun b z => ((ow b).mp z).imp id (hps b)⟩⟩
end
end PL

namespace PL
open PySem L2 Enc
section
variable {S A B C D U N L R N1 : Type}
def tup2M (m : M S A) (n : M S B) : M S (A × B) := mapM1 (fun u : A × B × Unit => ((u.1, u.2.1) : A × B)) (pairM m (pairM n (pureM ())))
def tup3M (m : M S A) (n : M S B) (o : M S C) : M S (T3 A B C) := mapM1 (fun u : A × B × C × Unit => (⟨u.1, u.2.1, u.2.2.1⟩ : T3 A B C)) (pairM m (pairM n (pairM o (pureM ()))))
@[simp] theorem tup2M_pure (x : A) (y : B) : tup2M (pureM x : M S A) (pureM y) = pureM (x, y) := rfl
@[simp] theorem tup3M_pure (x : A) (y : B) (z : C) : tup3M (pureM x : M S A) (pureM y) (pureM z) = pureM ⟨x, y, z⟩ := rfl
def lstM (m : M S (List A)) : M S (List A) := bindM m fun l => guardM (lenOk l.length) (pureM l)
def tupM (m : M S (List A)) : M S (Tup A) := bindM m fun l => guardM (lenOk l.length) (pureM (toTup l))
theorem lstM_pure {l : List A} (h : l.length ≤ 16777216) : lstM (pureM l : M S (List A)) = pureM l := if_pos h
theorem tupM_pure {l : List A} (h : l.length ≤ 16777216) : tupM (pureM l : M S (List A)) = pureM (toTup l) := if_pos h
def compM (ml : M S (List A)) (p : A → M S Bool) (f : A → M S B) : M S (List B) := bindM ml fun l => guardM (lenOk l.length) (lcM p f l)
def retS (m : M S R) : M S (Fl N L R) := bindM m fun r => pureM (.rt r)
def setS (m : M S N) : M S (Fl N L R) := bindM m fun y => pureM (.nx y)
def appS (l : List A) (m : M S A) : M S (Fl A L R) := bindM m fun y => guardM (lenOk (l.length + 1)) (pureM (.nx y))
def forS (ml : M S (List A)) (f : N → A → M S (Fl N N R)) (y0 : N) : M S (Fl N L R) := bindM ml fun l => liftM (loopM f l y0)
def callF (f : U → Option A) (m : M S U) : M S A := bindM m fun u => ofO (f u)
def sortUM (m : M S (List Int)) : M S (List Int) := bindM m fun l => guardM (l.length < 64) (pureM (sortU l))
def rng1M (m : M S Int) : M S (List Int) := bindM m fun n => guardM (rgOk n) (pureM (rangeL 0 n))
def rng2M (m n : M S Int) : M S (List Int) := bindM m fun lo => bindM n fun hi => guardM (rgOk lo ∧ rgOk hi) (pureM (rangeL lo hi))
def zipM (m : M S (List A)) (n : M S (List B)) : M S (List (A × B)) := bindM m fun x => bindM n fun y => pureM (x.zip y)
def enumM (m : M S (List A)) : M S (List (Int × A)) := bindM m fun x => pureM (x.zipIdx.map fun q => ((q.2 : Int), q.1))
def untM (m : M S (Tup A)) : M S (List A) := mapM1 unTup m
def catTM (m n : M S (Tup A)) : M S (Tup A) := mapM1 toTup (catM (mapM1 unTup m) (mapM1 unTup n))
def cutTM (m : M S (Tup A)) (n o : M S (Option Int)) : M S (Tup A) := mapM1 toTup (cutM (mapM1 unTup m) n o)
@[simp] theorem untM_pure (l : Tup A) : untM (pureM l : M S (Tup A)) = pureM (unTup l) := rfl
@[simp] theorem cutTM_pure (l : Tup A) (lo hi : Option Int) : cutTM (pureM l : M S (Tup A)) (pureM lo) (pureM hi) = pureM (toTup (cutL lo hi (unTup l))) := rfl
@[simp] theorem retS_pure (r : R) : retS (N := N) (L := L) (pureM r : M S R) = pureM (.rt r) := rfl
@[simp] theorem setS_pure (r : N) : setS (L := L) (R := R) (pureM r : M S N) = pureM (.nx r) := rfl
@[simp] theorem callF_pure (f : U → Option A) (u : U) : callF f (pureM u : M S U) = ofO (f u) := rfl
@[simp] theorem zipM_pure (x : List A) (y : List B) : zipM (pureM x : M S (List A)) (pureM y) = pureM (x.zip y) := rfl
@[simp] theorem seq_set (m : M S N1) (k : N1 → M S (Fl N L R)) : seqM (setS m) k = bindM m k := by
  unfold setS seqM
  rw [bind_assoc]
  rfl
theorem rng1M_pure {n : Int} (h : rgOk n) : rng1M (pureM n : M S Int) = pureM (rangeL 0 n) := if_pos h
theorem rng2M_pure {m n : Int} (h : rgOk m ∧ rgOk n) : rng2M (pureM m : M S Int) (pureM n) = pureM (rangeL m n) := if_pos h
theorem sortUM_pure {l : List Int} (h : l.length < 64) : sortUM (pureM l : M S (List Int)) = pureM (sortU l) := if_pos h
/-- loops and comprehensions that do not fail -/
theorem lcM_pure {p : A → M S Bool} {f : A → M S B} {q : A → Bool} {g : A → B} : ∀ {l : List A}, (∀ x ∈ l, p x = pureM (q x)) → (∀ x ∈ l, q x = true → f x = pureM (g x)) → lcM p f l = pureM ((l.filter q).map g)
  | [], _, _ => rfl
  | x :: l, h1, h2 => by
    have ih := lcM_pure (l := l) (fun y hy => h1 y (List.mem_cons_of_mem _ hy)) (fun y hy => h2 y (List.mem_cons_of_mem _ hy))
    show bindM (p x) _ = _
    rw [h1 x List.mem_cons_self, bind_pure, ih]
    cases e : q x with
    | false =>
      rw [List.filter_cons_of_neg (by rw [e]; exact Bool.false_ne_true)]
      rfl
    | true =>
      rw [List.filter_cons_of_pos e, h2 x List.mem_cons_self e]
      rfl
theorem compM_pure {p : A → M S Bool} {f : A → M S B} {q : A → Bool} {g : A → B} {l : List A} (hl : l.length ≤ 16777216) (h1 : ∀ x ∈ l, p x = pureM (q x)) (h2 : ∀ x ∈ l, q x = true → f x = pureM (g x)) :
    compM (pureM l) p f = pureM ((l.filter q).map g) := by
  show guardM (lenOk l.length) (lcM p f l) = _
  rw [guard_true (show lenOk l.length from hl), lcM_pure h1 h2]
theorem compM_map {p : A → M S Bool} {f : A → M S B} {g : A → B} {l : List A} (hl : l.length ≤ 16777216) (h1 : ∀ x ∈ l, p x = pureM true) (h2 : ∀ x ∈ l, f x = pureM (g x)) :
    compM (pureM l) p f = pureM (l.map g) := by
  rw [compM_pure hl h1 fun x hx _ => h2 x hx, List.filter_eq_self.mpr fun _ _ => rfl]
theorem loopM_pure {f : L → A → M S (Fl L L R)} {g : L → A → L} : ∀ {l : List A} {y : L} (Iv : L → Prop), Iv y → (∀ y x, x ∈ l → Iv y → f y x = pureM (.nx (g y x)) ∧ Iv (g y x)) → loopM f l y = pureM (.nx (l.foldl g y))
  | [], _, _, _, _ => rfl
  | x :: l, y, Iv, h0, h => by
    obtain ⟨h1, h2⟩ := h y x List.mem_cons_self h0
    show bindM (f y x) _ = _
    rw [h1, bind_pure]
    exact loopM_pure Iv h2 fun y x hx hy => h y x (List.mem_cons_of_mem _ hx) hy
structure Cnt (S : Type) where
  cnt : S → Nat
  most : Nat
def OkM (K : Cnt S) (c : Nat) (m : M S A) (Q : A → Prop) : Prop := ∀ s, K.cnt s + c ≤ K.most → ∃ a s', m s = some (a, s') ∧ Q a ∧ K.cnt s' ≤ K.cnt s + c
variable {K : Cnt S} {c c' d : Nat} {m : M S A} {n : M S B} {Q Q' : A → Prop} {T : B → Prop}
theorem OkM.pure {a : A} (h : Q a) : OkM K 0 (pureM a) Q := fun s _ => ⟨a, s, rfl, h, Nat.le_refl _⟩
theorem OkM.bind {k : A → M S B} (h : OkM K c m Q) (hk : ∀ a, Q a → OkM K d (k a) T) : OkM K (c + d) (bindM m k) T := fun s hs => by
  obtain ⟨a, s1, h1, h2, h3⟩ := h s (by omega)
  obtain ⟨b, s2, h4, h5, h6⟩ := hk a h2 s1 (by omega)
  refine ⟨b, s2, ?_, h5, by omega⟩
  unfold bindM
  rw [h1]
  exact h4
theorem OkM.mono (h : OkM K c m Q) (hc : c ≤ c') (hq : ∀ a, Q a → Q' a) : OkM K c' m Q' := fun s hs => by
  obtain ⟨a, s1, h1, h2, h3⟩ := h s (by omega)
  exact ⟨a, s1, h1, hq a h2, by omega⟩
theorem OkM.ofO {o : Option A} {a : A} (h : o = some a) (hq : Q a) : OkM K 0 (PL.ofO o) Q := fun s _ => ⟨a, s, by rw [h]; rfl, hq, Nat.le_refl _⟩
theorem OkM.of_eq {m' : M S A} (e : m = m') (h : OkM K c m' Q) : OkM K c m Q := e ▸ h
theorem OkM.guard {p : Prop} [Decidable p] (hp : p) (h : OkM K c m Q) : OkM K c (guardM p m) Q := by
  rw [guard_true hp]
  exact h
theorem OkM.lc {p : A → M S Bool} {f : A → M S B} {R : B → Prop} : ∀ {l : List A}, (∀ x ∈ l, OkM K 0 (p x) fun _ => True) → (∀ x ∈ l, OkM K c (f x) R) → OkM K (l.length * c) (lcM p f l) fun r => (∀ y ∈ r, R y) ∧ r.length ≤ l.length
  | [], _, _ => by
    refine OkM.mono (OkM.pure (a := []) (Q := fun r => (∀ y ∈ r, R y) ∧ r.length ≤ 0) ⟨fun y hy => absurd hy List.not_mem_nil, Nat.le_refl _⟩) (by simp) fun _ h => h
  | x :: l, h1, h2 => by
    have ih := OkM.lc (l := l) (fun y hy => h1 y (List.mem_cons_of_mem _ hy)) (fun y hy => h2 y (List.mem_cons_of_mem _ hy))
    have hc : ∀ y, R y → OkM K (l.length * c + 0) (bindM (lcM p f l) fun r => pureM (y :: r)) fun r : List B => (∀ y ∈ r, R y) ∧ r.length ≤ l.length + 1 := fun y hy =>
      OkM.bind ih fun r hr => OkM.pure ⟨fun z hz => (List.mem_cons.mp hz).elim (fun e => by rw [e]; exact hy) (hr.1 z), by rw [List.length_cons]; omega⟩
    have hb : ∀ b : Bool, OkM K (c + (l.length * c + 0)) (if b then bindM (f x) fun y => bindM (lcM p f l) fun r => pureM (y :: r) else lcM p f l) fun r : List B => (∀ y ∈ r, R y) ∧ r.length ≤ l.length + 1 := fun b => by
      cases b with
      | false => exact OkM.mono ih (by omega) fun r h => ⟨h.1, by omega⟩
      | true => exact OkM.bind (h2 x List.mem_cons_self) hc
    refine OkM.mono (OkM.bind (h1 x List.mem_cons_self) fun b _ => hb b) (by rw [List.length_cons, Nat.succ_mul]; omega) fun r h => h
/-- a comprehension without tests -/
theorem OkM.lcAll {f : A → M S B} {R : B → Prop} : ∀ {l : List A}, (∀ x ∈ l, OkM K c (f x) R) → OkM K (l.length * c) (lcM (fun _ => pureM true) f l) fun r => (∀ y ∈ r, R y) ∧ r.length = l.length
  | [], _ => by
    refine OkM.mono (OkM.pure (a := []) (Q := fun r => (∀ y ∈ r, R y) ∧ r.length = 0) ⟨fun y hy => absurd hy List.not_mem_nil, rfl⟩) (by simp) fun _ h => h
  | x :: l, h2 => by
    have ih := OkM.lcAll (l := l) (fun y hy => h2 y (List.mem_cons_of_mem _ hy))
    have e : lcM (fun _ => pureM true) f (x :: l) = bindM (f x) fun y => bindM (lcM (fun _ => pureM true) f l) fun r => pureM (y :: r) := rfl
    have hb : OkM K (c + (l.length * c + 0)) (bindM (f x) fun y => bindM (lcM (fun _ => pureM true) f l) fun r => pureM (y :: r)) fun r : List B => (∀ y ∈ r, R y) ∧ r.length = l.length + 1 :=
      OkM.bind (h2 x List.mem_cons_self) fun y hy => OkM.bind ih fun r hr => OkM.pure ⟨fun z hz => (List.mem_cons.mp hz).elim (fun e => by rw [e]; exact hy) (hr.1 z), by rw [List.length_cons]; omega⟩
    exact OkM.mono (OkM.of_eq e hb) (by rw [List.length_cons, Nat.succ_mul]; omega) fun r h => h
/-- a loop by an invariant: of the items taken and the state; it may return r with V r -/
theorem OkM.loop {f : L → A → M S (Fl L L R)} {V : R → Prop} (all : List A) (Iv : List A → L → Prop) (hf : ∀ pre x post y, all = pre ++ x :: post → Iv pre y → OkM K c (f y x) fun r => match r with
      | .nx y' => Iv (pre ++ [x]) y'
      | .ct y' => Iv (pre ++ [x]) y'
      | .bk _ => False
      | .rt r => V r) : ∀ (l pre : List A) (y : L), all = pre ++ l → Iv pre y → OkM K (l.length * c) (loopM f l y) fun r => match r with
      | .nx y' => Iv all y'
      | .rt r => V r
      | .bk z => z.elim
      | .ct z => z.elim
  | [], pre, y, e, h => by
    rw [List.append_nil] at e
    subst e
    exact OkM.mono (OkM.pure (a := (Fl.nx y : Fl L Empty R)) (Q := fun r => match r with
      | .nx y' => Iv all y'
      | .rt r => V r
      | .bk z => z.elim
      | .ct z => z.elim) h) (by simp) fun _ h => h
  | x :: l, pre, y, e, h => by
    refine OkM.mono (OkM.bind (d := l.length * c) (hf pre x l y e h) fun r hr => ?_) (by rw [List.length_cons, Nat.succ_mul]; omega) fun _ h => h
    have e2 : all = (pre ++ [x]) ++ l := by rw [e, List.append_assoc]; rfl
    cases r with
    | nx y' => exact OkM.loop all Iv hf l (pre ++ [x]) y' e2 hr
    | ct y' => exact OkM.loop all Iv hf l (pre ++ [x]) y' e2 hr
    | bk y' => exact hr.elim
    | rt v => exact OkM.mono (OkM.pure (a := (Fl.rt v : Fl L Empty R)) hr) (by omega) fun _ h => h
end
end PL

namespace PL
open PySem L2 Enc
theorem FnG.mono {P : Program} {w : World} {K : PySem.W.Frag} {mg : Str → Option Value} {base : Heap} {CX : CXT} {k j : Nat} {f : Addr} {fd : FuncData} {ps : List Str} {sp : Sp} (F : FnG P w K mg base CX k f fd ps sp) (h : k ≤ j) : FnG P w K mg base CX j f fd ps sp :=
  ⟨F.len, fun A outer s H args us vs Q E hr => F.run A outer s H args us vs Q E (hr.mono h)⟩
theorem DefG.mono {P : Program} {w : World} {K : PySem.W.Frag} {mg : Str → Option Value} {base : Heap} {CX : CXT} {k j : Nat} {x : Str} {ps : List Str} {sp : Sp} (D : DefG P w K mg base CX k x ps sp) (h : k ≤ j) : DefG P w K mg base CX j x ps sp := by
  obtain ⟨f, fd, F, a, b, c⟩ := D
  exact ⟨f, fd, F.mono h, a, b, c⟩
/-- what the making def returns -/
def deckD (l : List Int) : PyData := .list [enc l, enc (0 : Int)]
def initA (ns : List Int) : Dk := ⟨(ns.take 63).map absI, 0⟩
theorem rpl_ints {Z : Addr → Prop} {H : Hp} : ∀ {l : List Int} {xs : List V}, RpL Z H xs (l.map enc) → xs = l.map V.int
  | [], _, h => by
    cases h
    rfl
  | i :: l, _, h => by
    cases h with
    | cons a b =>
      obtain rfl := Rp.toInt a
      rw [rpl_ints b]
      rfl
theorem mk_A {mk : List Int → Option PyData} (e : ∀ ns, mk ns = some (deckD ((ns.take 63).map absI))) (ns : List Int) (Z : Addr → Prop) (H : Hp) (v : V) (d : PyData) (h : mk ns = some d) (r : Rp Z H v d) : ∃ t : DkA, v = .ref (rootA t) ∧ (fmA t).at_ (initA ns) H := by
  rw [e ns] at h
  cases h
  cases r with
  | lst z1 h1 r1 =>
    cases r1 with
    | cons a b =>
      cases b with
      | cons b c =>
        cases c
        obtain rfl := Rp.toInt b
        cases a with
        | lst z2 h2 r2 =>
          obtain rfl := rpl_ints r2
          refine ⟨⟨_, _, fun q => ?_⟩, rfl, h1, h2⟩
          rw [q, h2] at h1
          injection h1 with h1
          injection h1 with h1
          cases hl : (ns.take 63).map absI with
          | nil =>
            rw [hl] at h1
            cases h1
          | cons i l =>
            rw [hl] at h1
            cases h1
theorem mkA_eq (ns : List Int) : (retM none (retS (mapM1 enc (lstM (consM (mapM1 enc (compM (pureM (ns.take 63)) (fun _ : Int => pureM true) (fun x : Int => fun1M (fun n : Int => some (absI n)) (pureM x)))) (consM (mapM1 enc (pureM (0 : Int))) (pureM ([] : List PyData)))))) : M Unit (Fl Unit Empty PyData)) ()).map (·.1) = some (deckD ((ns.take 63).map absI)) := by
  have h : (ns.take 63).length ≤ 63 := List.length_take_le 63 ns
  have e : (compM (pureM (ns.take 63)) (fun _ : Int => pureM true) (fun x : Int => fun1M (fun n : Int => some (absI n)) (pureM x)) : M Unit (List Int)) = pureM ((ns.take 63).map absI) := compM_map (by omega) (fun _ _ => rfl) fun _ _ => rfl
  rw [e]
  rfl
end PL

namespace PL
open PySem L2 Enc
/-- shown in at most n signs, at most h deep -/
structure Bd (n h : Nat) (d : PyData) : Prop where
  sh : d.showable = true
  lay : d.canLay0 = true
  dep : d.depth ≤ h
  len : d.shown.length ≤ n
theorem Bd.mono {n m h k : Nat} {d : PyData} (b : Bd n h d) (h1 : n ≤ m) (h2 : h ≤ k) : Bd m k d := ⟨b.sh, b.lay, Nat.le_trans b.dep h2, Nat.le_trans b.len h1⟩
theorem Bd.int {i : Int} (h : i.natAbs < 10 ^ 60) : Bd 61 0 (.int i) := by
  refine ⟨?_, rfl, Nat.le_refl _, ?_⟩
  · have : i.natAbs.log2 < 1920 := by
      by_cases h0 : i.natAbs = 0
      · rw [h0]
        decide
      · exact (Nat.log2_lt h0).mpr (Nat.lt_trans h (by decide +kernel))
    simpa [PyData.showable] using this
  · show (Str.ofString (toString i)).length ≤ _
    rw [ofString_length]
    exact int_text_length_le10 (by decide) h
theorem Bd.bool {b : Bool} : Bd 5 0 (.bool b) := by cases b <;> exact ⟨rfl, rfl, Nat.le_refl _, by decide +kernel⟩
theorem Bd.none : Bd 4 0 .none := ⟨rfl, rfl, Nat.le_refl _, by decide +kernel⟩
theorem all_sh {n h : Nat} : ∀ {ds : List PyData}, (∀ d ∈ ds, Bd n h d) → PyData.showableAll ds = true ∧ PyData.canLayAll0 ds = true ∧ PyData.depthAll ds ≤ h ∧ piled (PyData.shownAll ds) ≤ ds.length * (n + 2)
  | [], _ => ⟨rfl, rfl, Nat.zero_le _, by simp [PyData.shownAll, piled]⟩
  | d :: ds, hb => by
    obtain ⟨a1, a2, a3, a4⟩ := all_sh (ds := ds) fun x hx => hb x (List.mem_cons_of_mem _ hx)
    obtain ⟨b1, b2, b3, b4⟩ := hb d List.mem_cons_self
    refine ⟨by simp [PyData.showableAll, a1, b1], by simp [PyData.canLayAll0, a2, b2], by simp only [PyData.depthAll]; omega, ?_⟩
    rw [PyData.shownAll, piled_cons, List.length_cons, Nat.succ_mul]
    omega
theorem listText_le (ts : List Str) : (listText ts).length ≤ piled ts + 2 := by
  cases ts with
  | nil => decide +kernel
  | cons t ts =>
    show (textFrom 1 _ ts ++ ("]" : Str)).length ≤ _
    rw [strLen_append, textFrom_length_pos _ _ _ (by decide), strLen_append, strLen_append, piled_cons]
    have e1 : (("[" : String) : Str).length = 1 := rfl
    have e2 : (("]" : String) : Str).length = 1 := rfl
    have e3 : (((if 0 > 0 then ", " else "") : String) : Str).length = 0 := rfl
    omega
theorem tupleText_le (ts : List Str) : (tupleText ts).length ≤ piled ts + 3 := by
  have e1 : (("(" : String) : Str).length = 1 := rfl
  have e4 : (((if ts.length == 1 then ",)" else ")") : String) : Str).length ≤ 2 := by
    split <;> decide +kernel
  show (("(" : Str) ++ Str.join ", " ts ++ _).length ≤ _
  rw [strLen_append, strLen_append]
  by_cases h : ts = []
  · subst h
    have e2 : (Str.join ", " []).length = 0 := rfl
    omega
  · have := join_length_add ts h
    omega
theorem Bd.list {n h k : Nat} {ds : List PyData} (hb : ∀ d ∈ ds, Bd n h d) (hk : ds.length ≤ k) : Bd (k * (n + 2) + 2) (h + 1) (.list ds) := by
  obtain ⟨a1, a2, a3, a4⟩ := all_sh hb
  refine ⟨by simpa [PyData.showable] using a1, by simpa [PyData.canLay0] using a2, by simp only [PyData.depth]; omega, ?_⟩
  have := listText_le (PyData.shownAll ds)
  have := Nat.mul_le_mul_right (n + 2) hk
  show (PyData.shown (.list ds)).length ≤ _
  simp only [PyData.shown]
  omega
theorem Bd.tup {n h k : Nat} {ds : List PyData} (hb : ∀ d ∈ ds, Bd n h d) (hk : ds.length ≤ k) : Bd (k * (n + 2) + 3) (h + 1) (.tuple ds) := by
  obtain ⟨a1, a2, a3, a4⟩ := all_sh hb
  refine ⟨by simpa [PyData.showable] using a1, by simpa [PyData.canLay0] using a2, by simp only [PyData.depth]; omega, ?_⟩
  have := tupleText_le (PyData.shownAll ds)
  have := Nat.mul_le_mul_right (n + 2) hk
  show (PyData.shown (.tuple ds)).length ≤ _
  simp only [PyData.shown]
  omega
section
variable {A B C : Type} [Enc A] [Enc B] [Enc C] {n m o h : Nat}
theorem Bd.listE {l : List A} {k : Nat} (hb : ∀ x ∈ l, Bd n h (enc x)) (hk : l.length ≤ k) : Bd (k * (n + 2) + 2) (h + 1) (enc l) :=
  Bd.list (fun d hd => by
    obtain ⟨x, hx, rfl⟩ := List.mem_map.mp hd
    exact hb x hx) (by rw [List.length_map]; exact hk)
theorem Bd.tupE {l : Tup A} {k : Nat} (hb : ∀ x ∈ unTup l, Bd n h (enc x)) (hk : (unTup l).length ≤ k) : Bd (k * (n + 2) + 3) (h + 1) (enc l) :=
  Bd.tup (ds := (unTup l).map enc) (fun d hd => by
    obtain ⟨x, hx, rfl⟩ := List.mem_map.mp hd
    exact hb x hx) (by rw [List.length_map]; exact hk)
theorem Bd.pair {x : A × B} (h1 : Bd n h (enc x.1)) (h2 : Bd n h (enc x.2)) : Bd (2 * (n + 2) + 3) (h + 1) (enc x) :=
  Bd.tup (ds := [enc x.1, enc x.2]) (fun d hd => by
    rcases List.mem_cons.mp hd with rfl | hd
    · exact h1
    · rcases List.mem_cons.mp hd with rfl | hd
      · exact h2
      · cases hd) (Nat.le_refl 2)
theorem Bd.t3 {x : T3 A B C} (h1 : Bd n h (enc x.a)) (h2 : Bd n h (enc x.b)) (h3 : Bd n h (enc x.c)) : Bd (3 * (n + 2) + 3) (h + 1) (enc x) :=
  Bd.tup (ds := [enc x.a, enc x.b, enc x.c]) (fun d hd => by
    rcases List.mem_cons.mp hd with rfl | hd
    · exact h1
    · rcases List.mem_cons.mp hd with rfl | hd
      · exact h2
      · rcases List.mem_cons.mp hd with rfl | hd
        · exact h3
        · cases hd) (Nat.le_refl 3)
theorem repF_of {x : A} (b : Bd n h (enc x)) (h1 : n ≤ 16777216) (h2 : h ≤ 60) : repF x = some (enc x).shown := if_pos ⟨b.sh, b.lay, Nat.le_trans b.dep h2, Nat.le_trans b.len h1⟩
end
end PL

namespace PL
open PySem L2 Enc
section
variable {S A B C D U N L R N1 L1 : Type}
theorem bind_guard {p : Prop} [Decidable p] (m : M S A) (k : A → M S B) : bindM (guardM p m) k = guardM p (bindM m k) := by
  unfold guardM
  split <;> rfl
theorem bind_if {b : Bool} (m n : M S A) (k : A → M S B) : bindM (if b = true then m else n) k = if b = true then bindM m k else bindM n k := by
  split <;> rfl
theorem bind_ite {p : Prop} [Decidable p] (m n : M S A) (k : A → M S B) : bindM (if p then m else n) k = if p then bindM m k else bindM n k := by
  split <;> rfl
theorem seq_nx (x : N1) (k : N1 → M S (Fl N L R)) : seqM (pureM (.nx x)) k = k x := rfl
theorem seq_rt (x : R) (k : N1 → M S (Fl N L R)) : seqM (pureM (.rt x)) k = pureM (.rt x) := rfl
theorem seq_bk (x : L) (k : N1 → M S (Fl N L R)) : seqM (pureM (.bk x)) k = pureM (.bk x) := rfl
theorem seq_ct (x : L) (k : N1 → M S (Fl N L R)) : seqM (pureM (.ct x)) k = pureM (.ct x) := rfl
theorem seq_bind (m : M S A) (f : A → M S (Fl N1 L R)) (k : N1 → M S (Fl N L R)) : seqM (bindM m f) k = bindM m fun a => seqM (f a) k := bind_assoc _ _ _
theorem seq_guard {p : Prop} [Decidable p] (m : M S (Fl N1 L R)) (k : N1 → M S (Fl N L R)) : seqM (guardM p m) k = guardM p (seqM m k) := bind_guard _ _
theorem seq_ite {p : Prop} [Decidable p] (m n : M S (Fl N1 L R)) (k : N1 → M S (Fl N L R)) : seqM (if p then m else n) k = if p then seqM m k else seqM n k := bind_ite _ _ _
theorem retM_nx (o : Option R) (x : Unit) : retM o (pureM (.nx x) : M S (Fl Unit Empty R)) = ofO o := rfl
theorem retM_rt (o : Option R) (x : R) : retM o (pureM (.rt x) : M S (Fl Unit Empty R)) = pureM x := rfl
theorem retM_bind (o : Option R) (m : M S A) (f : A → M S (Fl Unit Empty R)) : retM o (bindM m f) = bindM m fun a => retM o (f a) := bind_assoc _ _ _
theorem retM_guard {p : Prop} [Decidable p] (o : Option R) (m : M S (Fl Unit Empty R)) : retM o (guardM p m) = guardM p (retM o m) := bind_guard _ _
theorem retM_ite {p : Prop} [Decidable p] (o : Option R) (m n : M S (Fl Unit Empty R)) : retM o (if p then m else n) = if p then retM o m else retM o n := bind_ite _ _ _
theorem addM_nf (m n : M S Int) : addM m n = bindM m fun x => bindM n fun y => pureM (x + y) := rfl
theorem subM_nf (m n : M S Int) : subM m n = bindM m fun x => bindM n fun y => pureM (x - y) := rfl
theorem ofO_if {p : Prop} [Decidable p] (x : A) : (ofO (if p then some x else none) : M S A) = guardM p (pureM x) := by
  unfold guardM
  split <;> rfl
theorem mulM_nf (m n : M S Int) : mulM m n = bindM m fun x => bindM n fun y => guardM (mulOk x y) (pureM (x * y)) := by
  show bindM m (fun x => bindM n fun y => ofO (if mulOk x y then some (x * y) else none)) = _
  simp only [ofO_if]
theorem divM_nf (m n : M S Int) : divM m n = bindM m fun x => bindM n fun y => guardM (divOk x y) (pureM (x / y)) := by
  show bindM m (fun x => bindM n fun y => ofO (if divOk x y then some (x / y) else none)) = _
  simp only [ofO_if]
theorem modM_nf (m n : M S Int) : modM m n = bindM m fun x => bindM n fun y => guardM (modOk x y) (pureM (x % y)) := by
  show bindM m (fun x => bindM n fun y => ofO (if modOk x y then some (x % y) else none)) = _
  simp only [ofO_if]
theorem powM_nf (m n : M S Int) : powM m n = bindM m fun x => bindM n fun y => guardM (powOk x y) (pureM (x ^ y.toNat)) := by
  show bindM m (fun x => bindM n fun y => ofO (if powOk x y then some (x ^ y.toNat) else none)) = _
  simp only [ofO_if]
theorem catM_nf (m n : M S (List A)) : catM m n = bindM m fun x => bindM n fun y => guardM (lenOk (x.length + y.length)) (pureM (x ++ y)) := by
  show bindM m (fun x => bindM n fun y => ofO (if lenOk (x.length + y.length) then some (x ++ y) else none)) = _
  simp only [ofO_if]
theorem catTM_nf (m n : M S (Tup A)) : catTM m n = bindM m fun x => bindM n fun y => guardM (lenOk ((unTup x).length + (unTup y).length)) (pureM (toTup (unTup x ++ unTup y))) := by
  show mapM1 toTup (catM (mapM1 unTup m) (mapM1 unTup n)) = _
  simp only [catM_nf, mapM1, bind_assoc, bind_pure, bind_guard]
theorem cutTM_nf (m : M S (Tup A)) (n o : M S (Option Int)) : cutTM m n o = bindM m fun x => bindM n fun lo => bindM o fun hi => pureM (toTup (cutL lo hi (unTup x))) := by
  show mapM1 toTup (cutM (mapM1 unTup m) n o) = _
  simp only [cutM, mapM1, bind_assoc, bind_pure]
theorem ltM_nf (m n : M S Int) : ltM m n = bindM m fun x => bindM n fun y => pureM (decide (x < y)) := rfl
theorem leM_nf (m n : M S Int) : leM m n = bindM m fun x => bindM n fun y => pureM (decide (x ≤ y)) := rfl
theorem gtM_nf (m n : M S Int) : gtM m n = bindM m fun x => bindM n fun y => pureM (decide (y < x)) := rfl
theorem geM_nf (m n : M S Int) : geM m n = bindM m fun x => bindM n fun y => pureM (decide (y ≤ x)) := rfl
theorem eqIM_nf (m n : M S Int) : eqIM m n = bindM m fun x => bindM n fun y => pureM (decide (x = y)) := rfl
theorem neIM_nf (m n : M S Int) : neIM m n = bindM m fun x => bindM n fun y => pureM (!decide (x = y)) := rfl
theorem eqSM_nf (m n : M S Str) : eqSM m n = bindM m fun x => bindM n fun y => pureM (decide (x = y)) := rfl
theorem neSM_nf (m n : M S Str) : neSM m n = bindM m fun x => bindM n fun y => pureM (!decide (x = y)) := rfl
theorem eqDM_nf [Enc A] [Enc B] (m : M S A) (n : M S B) : eqDM m n = bindM m fun x => bindM n fun y => guardM (shpOk x ∧ shpOk y) (pureM (PyData.eqv (enc x) (enc y))) := by
  show bindM m (fun x => bindM n fun y => ofO (if shpOk x ∧ shpOk y then some (PyData.eqv (enc x) (enc y)) else none)) = _
  simp only [ofO_if]
theorem neDM_nf [Enc A] [Enc B] (m : M S A) (n : M S B) : neDM m n = bindM m fun x => bindM n fun y => guardM (shpOk x ∧ shpOk y) (pureM (!PyData.eqv (enc x) (enc y))) := by
  show bindM m (fun x => bindM n fun y => ofO (if shpOk x ∧ shpOk y then some (!PyData.eqv (enc x) (enc y)) else none)) = _
  simp only [ofO_if]
theorem ixM_nf (m : M S (List A)) (n : M S Int) : ixM m n = bindM m fun l => bindM n fun i => ofO (atI l i) := rfl
theorem fun1M_nf (f : A → Option B) (m : M S A) : fun1M f m = bindM m fun x => ofO (f x) := rfl
theorem fun2M_nf (f : A → B → Option C) (m : M S A) (n : M S B) : fun2M f m n = bindM m fun x => bindM n fun y => ofO (f x y) := rfl
theorem repM_nf (m : M S (List A)) (n : M S Int) : repM m n = bindM m fun x => bindM n fun k => guardM (-(2 ^ 62) ≤ k ∧ k < 2 ^ 62 ∧ lenOk (x.length * k.toNat)) (pureM (List.replicate k.toNat x).flatten) := by
  show bindM m (fun x => bindM n fun k => ofO (if -(2 ^ 62) ≤ k ∧ k < 2 ^ 62 ∧ lenOk (x.length * k.toNat) then some (List.replicate k.toNat x).flatten else none)) = _
  simp only [ofO_if]
end
def m_drawA (u : Int × Unit) : M Dk (Fl Unit Empty Int) :=
  (seqM (bindM (addM dkN (pureM (1 : Int))) fun y => bindM (dkSetN y) fun _ => pureM (.nx ())) (fun _ : Unit => (seqM (setS (tup2M (pureM (0 : Int)) (negM (pureM (1 : Int))))) (fun y1 : (Int × Int) => (seqM (iteM (gtM dkLen (pureM (0 : Int))) (seqM (setS (modM dkN dkLen)) (fun index2 : Int => (seqM (setS (bindM (pureM index2) dkCell)) (fun cell3 : Int => (pureM (.nx (cell3, index2))))))) (pureM (.nx (y1.1, y1.2)))) (fun s4 : (Int × Int) => (seqM (iteM (geM (pureM s4.1) (powM (pureM (10 : Int)) (pureM (18 : Int)))) (seqM (bindM (divM (pureM s4.1) (pureM u.1)) fun y => bindM (pureM s4.2) fun i => bindM (dkSetCell i y) fun _ => pureM (.nx ())) (fun _ : Unit => (retS (modM (pureM s4.1) (pureM u.1))))) (pureM (.nx ()))) (fun s5 : Unit => (retS (modM (divM (modM (powM (addM (addM (modM (pureM s4.1) (pureM (2147483587 : Int))) (mulM (pureM (7919 : Int)) dkN)) (pureM (1 : Int))) (pureM (5 : Int))) (pureM (2147483647 : Int))) (pureM (7 : Int))) (pureM u.1)))))))))))
def drawA (u : Int × Unit) : M Dk Int := retM none (m_drawA u)
/-- draws counted -/
def KA : Cnt Dk := ⟨fun s => if 0 ≤ s.n then s.n.toNat else 2 ^ 50 + 1, 2 ^ 50⟩
theorem KA_n {s : Dk} {c : Nat} (h : KA.cnt s + c ≤ KA.most) : 0 ≤ s.n ∧ s.n + c ≤ 2 ^ 50 := by
  have h' : (if 0 ≤ s.n then s.n.toNat else 2 ^ 50 + 1) + c ≤ 2 ^ 50 := h
  split at h'
  · omega
  · omega
theorem KA_of {s t : Dk} {c : Nat} (h : 0 ≤ s.n) (e : t.n = s.n + c) : KA.cnt t ≤ KA.cnt s + c := by
  show (if 0 ≤ t.n then t.n.toNat else 2 ^ 50 + 1) ≤ (if 0 ≤ s.n then s.n.toNat else 2 ^ 50 + 1) + c
  rw [if_pos h, if_pos (by omega)]
  omega
theorem wide_of {i : Int} (h : -(2 ^ 199) ≤ i) (h2 : i ≤ 2 ^ 199) : wide i := by
  unfold wide
  omega
theorem run_n {A : Type} (k : Int → M Dk A) (s : Dk) : bindM dkN k s = k s.n s := rfl
theorem run_len {A : Type} (k : Int → M Dk A) (s : Dk) : bindM dkLen k s = k (s.cells.length : Int) s := rfl
theorem run_setN {A : Type} (x : Int) (k : Unit → M Dk A) (s : Dk) : bindM (dkSetN x) k s = k () ⟨s.cells, x⟩ := rfl
theorem run_cell {A : Type} {i x : Int} {s : Dk} (h : atI s.cells i = some x) (k : Int → M Dk A) : bindM (dkCell i) k s = k x s := by
  unfold bindM dkCell
  rw [h]
  rfl
theorem run_setCell {A : Type} {i x : Int} {j : Nat} {s : Dk} (h : ixN s.cells.length i = some j) (k : Unit → M Dk A) : bindM (dkSetCell i x) k s = k () ⟨s.cells.set j x, s.n⟩ := by
  unfold bindM dkSetCell
  rw [h]
  rfl
theorem run_guard {A : Type} {p : Prop} [Decidable p] (h : p) (m : M Dk A) (s : Dk) : guardM p m s = m s := by rw [guard_true h]
theorem run_if {A : Type} {p : Prop} [Decidable p] (h : p) (m n : M Dk A) (s : Dk) : (if p then m else n) s = m s := by rw [if_pos h]
theorem run_else {A : Type} {p : Prop} [Decidable p] (h : ¬ p) (m n : M Dk A) (s : Dk) : (if p then m else n) s = n s := by rw [if_neg h]
theorem ok_drawA {n : Int} (hn : 0 < n) (hw : n ≤ 2 ^ 199) : OkM KA 1 (drawA (n, ())) fun r => 0 ≤ r ∧ r < n := by
  intro s hs
  obtain ⟨h0, h1⟩ := KA_n hs
  have hwn : divOk 0 n := ⟨hn, wide_of (by omega) hw⟩
  have p18 : powOk 10 18 := by decide
  have e18 : (10 : Int) ^ (18 : Int).toNat = 1000000000000000000 := by decide
  have hm : mulOk 7919 (s.n + 1) := ⟨by decide, wide_of (by omega) (by omega)⟩
  have hp : ∀ cell : Int, powOk (cell % 2147483587 + 7919 * (s.n + 1) + 1) 5 := fun cell => by
    have a1 : 0 ≤ cell % 2147483587 := Int.emod_nonneg _ (by decide)
    have a2 : cell % 2147483587 < 2147483587 := Int.emod_lt_of_pos _ (by decide)
    exact ⟨by decide, by decide, by omega⟩
  have ke : KA.cnt ⟨s.cells, s.n + 1⟩ ≤ KA.cnt s + 1 := KA_of h0 rfl
  have ks : ∀ j x, KA.cnt ⟨s.cells.set j x, s.n + 1⟩ ≤ KA.cnt s + 1 := fun j x => KA_of h0 rfl
  simp only [drawA, m_drawA, setS, retS, tup2M, pairM, mapM1, negM, iteM, gtM_nf, geM_nf, modM_nf, divM_nf, powM_nf, addM_nf, mulM_nf, bind_assoc, bind_pure, bind_guard, bind_ite, seq_bind, seq_guard, seq_nx, seq_rt, seq_ite, retM_bind, retM_guard, retM_rt, retM_ite,
    run_n, run_len, run_setN, run_guard p18, e18]
  have m2 : ∀ x : Int, modOk x 2147483587 := fun _ => (by decide : (0 : Int) < 2147483587)
  have m3 : ∀ x : Int, modOk x 2147483647 := fun _ => (by decide : (0 : Int) < 2147483647)
  have m4 : ∀ x : Int, divOk x 7 := fun _ => ⟨by decide, by decide⟩
  have m5 : ∀ x : Int, modOk x n := fun _ => hn
  have m6 : ∀ x : Int, divOk x n := fun _ => hwn
  by_cases hl : (0 : Int) < (s.cells.length : Int)
  · have e1 := Int.emod_nonneg (s.n + 1) (b := (s.cells.length : Int)) (by omega)
    have e2 := Int.emod_lt_of_pos (s.n + 1) hl
    have hj : ixN s.cells.length ((s.n + 1) % (s.cells.length : Int)) = some ((s.n + 1) % (s.cells.length : Int)).toNat := by
      unfold ixN
      rw [if_pos e1, if_pos e2]
    have hx : atI s.cells ((s.n + 1) % (s.cells.length : Int)) = some (s.cells[((s.n + 1) % (s.cells.length : Int)).toNat]'(by omega)) := by
      unfold atI
      rw [hj]
      exact List.getElem?_eq_getElem _
    rw [run_if (decide_eq_true hl), run_n, run_len, run_guard (show modOk (s.n + 1) (s.cells.length : Int) from hl), run_cell (s := ⟨s.cells, s.n + 1⟩) hx, run_guard p18]
    generalize (s.cells[((s.n + 1) % (s.cells.length : Int)).toNat]'(by omega)) = cell
    by_cases hc : 1000000000000000000 ≤ cell
    · rw [run_if (decide_eq_true hc), run_guard (m6 cell), run_setCell (s := ⟨s.cells, s.n + 1⟩) hj, run_guard (m5 cell)]
      exact ⟨_, _, rfl, ⟨Int.emod_nonneg _ (by omega), Int.emod_lt_of_pos _ hn⟩, ks _ _⟩
    · rw [run_else (by rw [decide_eq_false hc]; exact Bool.false_ne_true), run_guard (m2 _), run_n, run_guard hm, run_guard (hp _), run_guard (m3 _), run_guard (m4 _), run_guard (m5 _)]
      exact ⟨_, _, rfl, ⟨Int.emod_nonneg _ (by omega), Int.emod_lt_of_pos _ hn⟩, ke⟩
  · rw [run_else (by rw [decide_eq_false hl]; exact Bool.false_ne_true), run_guard p18, run_else (by decide), run_guard (m2 _), run_n, run_guard hm, run_guard (hp _), run_guard (m3 _), run_guard (m4 _), run_guard (m5 _)]
    exact ⟨_, _, rfl, ⟨Int.emod_nonneg _ (by omega), Int.emod_lt_of_pos _ hn⟩, ke⟩
end PL

namespace PL
open PySem L2 Enc
section
variable {S A B C D U N L R N1 L1 : Type} {K : Cnt S} {c d : Nat} {Q : A → Prop} {T : B → Prop}
theorem ob_pure {a : A} (h : Q a) : OkM K c (pureM a) Q := OkM.mono (OkM.pure h) (Nat.zero_le _) fun _ h => h
theorem ob_guard {p : Prop} [Decidable p] {m : M S A} (hp : p) (h : OkM K c m Q) : OkM K c (guardM p m) Q := OkM.guard hp h
theorem ob_if {b : Prop} [Decidable b] {m n : M S A} (h1 : b → OkM K c m Q) (h2 : ¬ b → OkM K c n Q) : OkM K c (if b then m else n) Q := by
  split
  · exact h1 ‹_›
  · exact h2 ‹_›
theorem ob_bind {m : M S A} {k : A → M S B} {e : Nat} (h : OkM K d m Q) (hd : d + e ≤ c) (hk : ∀ a, Q a → OkM K e (k a) T) : OkM K c (bindM m k) T := OkM.mono (OkM.bind h hk) hd fun _ h => h
theorem ob_ofO {o : Option A} {a : A} {k : A → M S B} (h : o = some a) (hk : OkM K c (k a) T) : OkM K c (bindM (ofO o) k) T := by
  rw [h]
  exact hk
theorem ob_ix {l : List A} {i : Int} {k : A → M S B} (h0 : 0 ≤ i) (h1 : i < (l.length : Int)) (hk : ∀ x, x ∈ l → OkM K c (k x) T) : OkM K c (bindM (ofO (atI l i)) k) T := by
  have hj : ixN l.length i = some i.toNat := by
    unfold ixN
    rw [if_pos h0, if_pos h1]
  have hx : atI l i = some (l[i.toNat]'(by omega)) := by
    unfold atI
    rw [hj]
    exact List.getElem?_eq_getElem _
  exact ob_ofO hx (hk _ (List.getElem_mem _))
theorem ob_ofO1 {o : Option A} {a : A} (h : o = some a) (hk : Q a) : OkM K c (ofO o) Q := by
  rw [h]
  exact ob_pure hk
theorem ob_lc {f : A → M S B} {k : List B → M S C} {l : List A} {P : B → Prop} {V : C → Prop} (N c1 e : Nat) (hl : l.length ≤ N) (hc : N * c1 + e ≤ c) (h : ∀ x ∈ l, OkM K c1 (f x) P) (hk : ∀ r : List B, (∀ y ∈ r, P y) → r.length = l.length → OkM K e (k r) V) :
    OkM K c (bindM (lcM (fun _ => pureM true) f l) k) V :=
  ob_bind (OkM.lcAll h) (Nat.le_trans (Nat.add_le_add_right (Nat.mul_le_mul_right _ hl) _) hc) fun r hr => hk r hr.1 hr.2
/-- a comprehension that is a map -/
theorem ob_map {f : A → M S B} {g : A → B} {k : List B → M S C} {l : List A} {V : C → Prop} (h : ∀ x ∈ l, f x = pureM (g x)) (hk : OkM K c (k (l.map g)) V) : OkM K c (bindM (lcM (fun _ => pureM true) f l) k) V := by
  rw [lcM_pure (q := fun _ => true) (g := g) (fun _ _ => rfl) fun x hx _ => h x hx, List.filter_eq_self.mpr fun _ _ => rfl]
  exact hk
theorem ob_filter {p : A → M S Bool} {f : A → M S B} {q : A → Bool} {g : A → B} {k : List B → M S C} {l : List A} {V : C → Prop} (h1 : ∀ x ∈ l, p x = pureM (q x)) (h : ∀ x ∈ l, q x = true → f x = pureM (g x)) (hk : OkM K c (k ((l.filter q).map g)) V) : OkM K c (bindM (lcM p f l) k) V := by
  rw [lcM_pure h1 h]
  exact hk
theorem ob_draw {n : Int} {k : Int → M Dk B} (hn : 0 < n) (hw : n ≤ 2 ^ 199) (hc : 1 ≤ c) (hk : ∀ r, 0 ≤ r → r < n → OkM KA (c - 1) (k r) T) : OkM KA c (bindM (drawA (n, ())) k) T :=
  ob_bind (ok_drawA hn hw) (by omega) fun r hr => hk r hr.1 hr.2
theorem ob_draw1 {n : Int} {Q : Int → Prop} (hn : 0 < n) (hw : n ≤ 2 ^ 199) (hc : 1 ≤ c) (hk : ∀ r, 0 ≤ r → r < n → Q r) : OkM KA c (drawA (n, ())) Q :=
  OkM.mono (ok_drawA hn hw) hc fun r hr => hk r hr.1 hr.2
/-- loops: an invariant of the items taken -/
theorem ob_for {f : L → A → M S (Fl L L R)} {k : L → M S (Fl N L1 R)} {l : List A} {y : L} {V : Fl N L1 R → Prop} (Nn c1 e : Nat) (Iv : List A → L → Prop) (hl : l.length ≤ Nn) (hc : Nn * c1 + e ≤ c) (h0 : Iv [] y)
    (h : ∀ pre x post y, l = pre ++ x :: post → Iv pre y → OkM K c1 (f y x) fun r => match r with
      | .nx y' => Iv (pre ++ [x]) y'
      | .ct y' => Iv (pre ++ [x]) y'
      | .bk _ => False
      | .rt r => V (.rt r)) (hk : ∀ y, Iv l y → OkM K e (k y) V) : OkM K c (seqM (liftM (loopM f l y)) k) V := by
  have h1 := OkM.loop (V := fun r => V (.rt r)) l Iv h l [] y rfl h0
  show OkM K c (bindM (bindM _ _) _) V
  rw [bind_assoc]
  refine ob_bind h1 (Nat.le_trans (Nat.add_le_add_right (Nat.mul_le_mul_right _ hl) _) hc) fun r hr => ?_
  cases r with
  | nx y' => exact hk y' hr
  | rt r => exact ob_pure hr
  | bk z => exact z.elim
  | ct z => exact z.elim
/-- loops that only look -/
theorem ob_each {f : Unit → A → M S (Fl Unit Unit R)} {k : Unit → M S (Fl N L1 R)} {l : List A} {V : Fl N L1 R → Prop} (Nn c1 e : Nat) (hl : l.length ≤ Nn) (hc : Nn * c1 + e ≤ c)
    (h : ∀ x ∈ l, OkM K c1 (f () x) fun r => r = .nx ()) (hk : OkM K e (k ()) V) : OkM K c (seqM (liftM (loopM f l ())) k) V :=
  ob_for Nn c1 e (fun _ _ => True) hl hc trivial (fun pre x post y e _ => OkM.mono (h x (by rw [e]; simp)) (Nat.le_refl _) fun r hr => by
    rw [hr]
    trivial) fun _ _ => hk
/-- a loop without failure that is a fold -/
theorem seq_fold {f : L → A → M S (Fl L L R)} {g : L → A → L} {l : List A} {y : L} (Iv : L → Prop) {k : L → M S (Fl N L1 R)} (h0 : Iv y) (h : ∀ y x, x ∈ l → Iv y → f y x = pureM (.nx (g y x)) ∧ Iv (g y x)) : seqM (liftM (loopM f l y)) k = k (l.foldl g y) := by
  rw [loopM_pure Iv h0 h]
  rfl
end
/-- the law at the end -/
theorem law_of {m : M Dk (Fl Unit Empty Bool)} {c : Nat} (hc : c ≤ 2 ^ 50) (h : OkM KA c m fun r => r = .rt true) (ns : List Int) : ∃ s', retM none m (initA ns) = some (true, s') := by
  obtain ⟨a, s', e, ha, _⟩ := h (initA ns) (show (if (0 : Int) ≤ 0 then (0 : Int).toNat else 2 ^ 50 + 1) + c ≤ 2 ^ 50 by simpa using hc)
  subst ha
  refine ⟨s', ?_⟩
  show bindM m _ _ = _
  unfold bindM
  rw [e]
  rfl
end PL

namespace PL
open PySem L2 Enc
/-- a loop and what comes after it -/
def lpM {S L R : Type} (m : M S (Fl L Empty R)) (k : L → M S R) : M S R := bindM m fun r => match r with
  | .nx y => k y
  | .rt r => pureM r
  | .bk z => z.elim
  | .ct z => z.elim
theorem retM_loop {S L R : Type} (o : Option R) (m : M S (Fl L Empty R)) (k : L → M S (Fl Unit Empty R)) : retM o (seqM (liftM m) k) = lpM m fun y => retM o (k y) := by
  show bindM (bindM (bindM m _) _) _ = bindM m _
  rw [bind_assoc, bind_assoc]
  congr 1
  funext r
  cases r with
  | nx y => rfl
  | rt r => rfl
  | bk z => exact z.elim
  | ct z => exact z.elim
theorem seq_seq {S N1 N2 N L R : Type} (m : M S (Fl N1 L R)) (k : N1 → M S (Fl N2 L R)) (k2 : N2 → M S (Fl N L R)) : seqM (seqM m k) k2 = seqM m fun y => seqM (k y) k2 := by
  show bindM (bindM m _) _ = bindM m _
  rw [bind_assoc]
  congr 1
  funext r
  cases r with
  | nx y => rfl
  | rt r => rfl
  | bk z => rfl
  | ct z => rfl
theorem bind_lp {S L R A : Type} (m : M S (Fl L Empty R)) (k : L → M S R) (k2 : R → M S A) : bindM (lpM m k) k2 = bindM m fun r => match r with
  | .nx y => bindM (k y) k2
  | .rt r => k2 r
  | .bk z => z.elim
  | .ct z => z.elim := by
  show bindM (bindM m _) _ = bindM m _
  rw [bind_assoc]
  congr 1
  funext r
  cases r with
  | nx y => rfl
  | rt r => rfl
  | bk z => exact z.elim
  | ct z => exact z.elim
/-- binds, guards and ifs move outward -/
theorem nf1 : (∀ {S A B : Type} (a : A) (k : A → M S B), bindM (pureM a) k = k a) ∧
    (∀ {S A B C : Type} (m : M S A) (f : A → M S B) (g : B → M S C), bindM (bindM m f) g = bindM m fun a => bindM (f a) g) ∧
    (∀ {S A B : Type} {p : Prop} [Decidable p] (m : M S A) (k : A → M S B), bindM (guardM p m) k = guardM p (bindM m k)) ∧
    (∀ {S A B : Type} {p : Prop} [Decidable p] (m n : M S A) (k : A → M S B), bindM (if p then m else n) k = if p then bindM m k else bindM n k) ∧
    (∀ {S N1 N L R : Type} (x : N1) (k : N1 → M S (Fl N L R)), seqM (pureM (.nx x)) k = k x) ∧
    (∀ {S N1 N L R : Type} (x : R) (k : N1 → M S (Fl N L R)), seqM (pureM (.rt x)) k = pureM (.rt x)) ∧
    (∀ {S N1 N L R : Type} (x : L) (k : N1 → M S (Fl N L R)), seqM (pureM (.bk x)) k = pureM (.bk x)) ∧
    (∀ {S N1 N L R : Type} (x : L) (k : N1 → M S (Fl N L R)), seqM (pureM (.ct x)) k = pureM (.ct x)) ∧
    (∀ {S A N1 N L R : Type} (m : M S A) (f : A → M S (Fl N1 L R)) (k : N1 → M S (Fl N L R)), seqM (bindM m f) k = bindM m fun a => seqM (f a) k) ∧
    (∀ {S N1 N L R : Type} {p : Prop} [Decidable p] (m : M S (Fl N1 L R)) (k : N1 → M S (Fl N L R)), seqM (guardM p m) k = guardM p (seqM m k)) ∧
    (∀ {S N1 N L R : Type} {p : Prop} [Decidable p] (m n : M S (Fl N1 L R)) (k : N1 → M S (Fl N L R)), seqM (if p then m else n) k = if p then seqM m k else seqM n k) ∧
    (∀ {S R : Type} (o : Option R) (x : R), retM o (pureM (.rt x) : M S (Fl Unit Empty R)) = pureM x) ∧
    (∀ {S R : Type} (o : Option R) (x : Unit), retM o (pureM (.nx x) : M S (Fl Unit Empty R)) = ofO o) ∧
    (∀ {S A R : Type} (o : Option R) (m : M S A) (f : A → M S (Fl Unit Empty R)), retM o (bindM m f) = bindM m fun a => retM o (f a)) ∧
    (∀ {S R : Type} {p : Prop} [Decidable p] (o : Option R) (m : M S (Fl Unit Empty R)), retM o (guardM p m) = guardM p (retM o m)) ∧
    (∀ {S R : Type} {p : Prop} [Decidable p] (o : Option R) (m n : M S (Fl Unit Empty R)), retM o (if p then m else n) = if p then retM o m else retM o n) ∧
    (∀ {S A B : Type} (f : A → B) (m : M S A), mapM1 f m = bindM m fun a => pureM (f a)) ∧
    (∀ {S A : Type} (a : A), (ofO (some a) : M S A) = pureM a) ∧
    (∀ {S L R : Type} (o : Option R) (m : M S (Fl L Empty R)) (k : L → M S (Fl Unit Empty R)), retM o (seqM (liftM m) k) = lpM m fun y => retM o (k y)) ∧
    (∀ {S N1 N2 N L R : Type} (m : M S (Fl N1 L R)) (k : N1 → M S (Fl N2 L R)) (k2 : N2 → M S (Fl N L R)), seqM (seqM m k) k2 = seqM m fun y => seqM (k y) k2) :=
  ⟨bind_pure, bind_assoc, bind_guard, bind_ite, seq_nx, seq_rt, seq_bk, seq_ct, seq_bind, seq_guard, seq_ite, retM_rt, retM_nx, retM_bind, retM_guard, retM_ite, fun _ _ => rfl, ofO_some, retM_loop, seq_seq⟩
theorem nf2 : (∀ {S : Type} (m n : M S Int), addM m n = bindM m fun x => bindM n fun y => pureM (x + y)) ∧
    (∀ {S : Type} (m n : M S Int), subM m n = bindM m fun x => bindM n fun y => pureM (x - y)) ∧
    (∀ {S : Type} (m n : M S Int), mulM m n = bindM m fun x => bindM n fun y => guardM (mulOk x y) (pureM (x * y))) ∧
    (∀ {S : Type} (m n : M S Int), divM m n = bindM m fun x => bindM n fun y => guardM (divOk x y) (pureM (x / y))) ∧
    (∀ {S : Type} (m n : M S Int), modM m n = bindM m fun x => bindM n fun y => guardM (modOk x y) (pureM (x % y))) ∧
    (∀ {S : Type} (m n : M S Int), powM m n = bindM m fun x => bindM n fun y => guardM (powOk x y) (pureM (x ^ y.toNat))) ∧
    (∀ {S : Type} (m : M S Int), negM m = bindM m fun x => pureM (-x)) ∧
    (∀ {S : Type} (m n : M S Int), ltM m n = bindM m fun x => bindM n fun y => pureM (decide (x < y))) ∧
    (∀ {S : Type} (m n : M S Int), leM m n = bindM m fun x => bindM n fun y => pureM (decide (x ≤ y))) ∧
    (∀ {S : Type} (m n : M S Int), gtM m n = bindM m fun x => bindM n fun y => pureM (decide (y < x))) ∧
    (∀ {S : Type} (m n : M S Int), geM m n = bindM m fun x => bindM n fun y => pureM (decide (y ≤ x))) ∧
    (∀ {S : Type} (m n : M S Int), eqIM m n = bindM m fun x => bindM n fun y => pureM (decide (x = y))) ∧
    (∀ {S : Type} (m n : M S Int), neIM m n = bindM m fun x => bindM n fun y => pureM (!decide (x = y))) ∧
    (∀ {S : Type} (m n : M S Str), eqSM m n = bindM m fun x => bindM n fun y => pureM (decide (x = y))) ∧
    (∀ {S : Type} (m n : M S Str), neSM m n = bindM m fun x => bindM n fun y => pureM (!decide (x = y))) ∧
    (∀ {S A B : Type} [Enc A] [Enc B] (m : M S A) (n : M S B), eqDM m n = bindM m fun x => bindM n fun y => guardM (shpOk x ∧ shpOk y) (pureM (PyData.eqv (enc x) (enc y)))) ∧
    (∀ {S A B : Type} [Enc A] [Enc B] (m : M S A) (n : M S B), neDM m n = bindM m fun x => bindM n fun y => guardM (shpOk x ∧ shpOk y) (pureM (!PyData.eqv (enc x) (enc y)))) ∧
    (∀ {S : Type} (m n : M S Bool), andM m n = bindM m fun c => if c then n else pureM false) ∧
    (∀ {S : Type} (m n : M S Bool), orM m n = bindM m fun c => if c then pureM true else n) ∧
    (∀ {S : Type} (m : M S Bool), notM m = bindM m fun c => pureM (!c)) ∧
    (∀ {S A : Type} (m : M S Bool) (x y : M S A), iteM m x y = bindM m fun c => if c then x else y) ∧
    (∀ {S : Type} (f g : Int → Int → Bool) (m n o : M S Int), chainM f g m n o = bindM m fun x => bindM n fun y => if f x y then bindM o fun z => pureM (g y z) else pureM false) :=
  ⟨addM_nf, subM_nf, mulM_nf, divM_nf, modM_nf, powM_nf, fun _ => rfl, ltM_nf, leM_nf, gtM_nf, geM_nf, eqIM_nf, neIM_nf, eqSM_nf, neSM_nf, eqDM_nf, neDM_nf, fun _ _ => rfl, fun _ _ => rfl, fun _ => rfl, fun _ _ _ => rfl, fun _ _ _ _ _ => rfl⟩
theorem nf3 : (∀ {S A B : Type} (m : M S A) (n : M S B), pairM m n = bindM m fun u => bindM n fun w => pureM (u, w)) ∧
    (∀ {S A : Type} (m : M S A) (n : M S (List A)), consM m n = bindM m fun u => bindM n fun w => pureM (u :: w)) ∧
    (∀ {S A : Type} (m n : M S (List A)), appM m n = bindM m fun u => bindM n fun w => pureM (u ++ w)) ∧
    (∀ {S A B : Type} (m : M S A) (n : M S B), tup2M m n = bindM m fun u => bindM n fun w => pureM (u, w)) ∧
    (∀ {S A B C : Type} (m : M S A) (n : M S B) (o : M S C), tup3M m n o = bindM m fun u => bindM n fun w => bindM o fun x => pureM (⟨u, w, x⟩ : T3 A B C)) ∧
    (∀ {S A : Type} (m : M S (List A)), lstM m = bindM m fun l => guardM (lenOk l.length) (pureM l)) ∧
    (∀ {S A : Type} (m : M S (List A)), tupM m = bindM m fun l => guardM (lenOk l.length) (pureM (toTup l))) ∧
    (∀ {S A B : Type} (ml : M S (List A)) (p : A → M S Bool) (f : A → M S B), compM ml p f = bindM ml fun l => guardM (lenOk l.length) (lcM p f l)) ∧
    (∀ {S N L R : Type} (m : M S R), (retS m : M S (Fl N L R)) = bindM m fun r => pureM (.rt r)) ∧
    (∀ {S N L R : Type} (m : M S N), (setS m : M S (Fl N L R)) = bindM m fun r => pureM (.nx r)) ∧
    (∀ {S A L R : Type} (l : List A) (m : M S A), (appS l m : M S (Fl A L R)) = bindM m fun y => guardM (lenOk (l.length + 1)) (pureM (.nx y))) ∧
    (∀ {S A N L R : Type} (ml : M S (List A)) (f : N → A → M S (Fl N N R)) (y0 : N), (forS ml f y0 : M S (Fl N L R)) = bindM ml fun l => liftM (loopM f l y0)) ∧
    (∀ {S A U : Type} (f : U → Option A) (m : M S U), callF f m = bindM m fun u => ofO (f u)) ∧
    (∀ {S A B : Type} (f : A → Option B) (m : M S A), fun1M f m = bindM m fun u => ofO (f u)) ∧
    (∀ {S A B C : Type} (f : A → B → Option C) (m : M S A) (n : M S B), fun2M f m n = bindM m fun x => bindM n fun y => ofO (f x y)) ∧
    (∀ {S : Type} (m : M S (List Int)), sortUM m = bindM m fun l => guardM (l.length < 64) (pureM (sortU l))) ∧
    (∀ {S : Type} (m : M S Int), rng1M m = bindM m fun n => guardM (rgOk n) (pureM (rangeL 0 n))) ∧
    (∀ {S : Type} (m n : M S Int), rng2M m n = bindM m fun lo => bindM n fun hi => guardM (rgOk lo ∧ rgOk hi) (pureM (rangeL lo hi))) ∧
    (∀ {S A B : Type} (m : M S (List A)) (n : M S (List B)), zipM m n = bindM m fun x => bindM n fun y => pureM (x.zip y)) ∧
    (∀ {S A : Type} (m : M S (List A)), enumM m = bindM m fun x => pureM (x.zipIdx.map fun q => ((q.2 : Int), q.1))) ∧
    (∀ {S A : Type} (m : M S (Tup A)), untM m = bindM m fun x => pureM (unTup x)) ∧
    (∀ {S A : Type} (m n : M S (List A)), catM m n = bindM m fun x => bindM n fun y => guardM (lenOk (x.length + y.length)) (pureM (x ++ y))) ∧
    (∀ {S A : Type} (m n : M S (Tup A)), catTM m n = bindM m fun x => bindM n fun y => guardM (lenOk ((unTup x).length + (unTup y).length)) (pureM (toTup (unTup x ++ unTup y)))) ∧
    (∀ {S A : Type} (m : M S (List A)) (n o : M S (Option Int)), cutM m n o = bindM m fun x => bindM n fun lo => bindM o fun hi => pureM (cutL lo hi x)) ∧
    (∀ {S A : Type} (m : M S (Tup A)) (n o : M S (Option Int)), cutTM m n o = bindM m fun x => bindM n fun lo => bindM o fun hi => pureM (toTup (cutL lo hi (unTup x)))) ∧
    (∀ {S A : Type} (m : M S (List A)) (n : M S Int), ixM m n = bindM m fun l => bindM n fun i => ofO (atI l i)) ∧
    (∀ {S A : Type} (m : M S (List A)) (n : M S Int), repM m n = bindM m fun x => bindM n fun k => guardM (-(2 ^ 62) ≤ k ∧ k < 2 ^ 62 ∧ lenOk (x.length * k.toNat)) (pureM (List.replicate k.toNat x).flatten)) := by
  refine ⟨fun _ _ => rfl, fun _ _ => rfl, fun _ _ => rfl, fun m n => ?_, fun m n o => ?_, fun _ => rfl, fun _ => rfl, fun _ _ _ => rfl, fun _ => rfl, fun _ => rfl, fun _ _ => rfl, fun _ _ _ => rfl, fun _ _ => rfl, fun _ _ => rfl, fun _ _ _ => rfl, fun _ => rfl, fun _ => rfl, fun _ _ => rfl, fun _ _ => rfl, fun _ => rfl, fun _ => rfl,
    catM_nf, catTM_nf, fun _ _ _ => rfl, cutTM_nf, fun _ _ => rfl, repM_nf⟩
  · simp only [tup2M, mapM1, pairM, bind_assoc, bind_pure]
  · simp only [tup3M, mapM1, pairM, bind_assoc, bind_pure]
theorem f_of {A : Type} {o : Option A} {m : M Unit (Fl Unit Empty A)} {v : A} (h : retM o m = pureM v) : (retM o m ()).map (·.1) = some v := by
  rw [h]
  rfl
theorem foldl_app {A B : Type} (f : A → B) : ∀ (l : List A) (y : List B), l.foldl (fun y x => y ++ [f x]) y = y ++ l.map f
  | [], y => by simp
  | x :: l, y => by
    rw [List.foldl_cons, foldl_app f l, List.map_cons]
    simp
/-- neighbours in an ascending list -/
theorem gap {l : List Int} (h : l.Pairwise (· < ·)) : ∀ {k : Nat} {a b : Int}, l[k]? = some a → l[k + 1]? = some b → a < b ∧ ∀ m ∈ l, m ≤ a ∨ b ≤ m := by
  intro k a b ha hb
  obtain ⟨hk, ea⟩ := List.getElem?_eq_some_iff.mp ha
  obtain ⟨hk1, eb⟩ := List.getElem?_eq_some_iff.mp hb
  have hp := List.pairwise_iff_getElem.mp h
  refine ⟨by rw [← ea, ← eb]; exact hp k (k + 1) hk hk1 (by omega), fun m hm => ?_⟩
  obtain ⟨j, hj, rfl⟩ := List.mem_iff_getElem.mp hm
  by_cases q : j ≤ k
  · by_cases q2 : j = k
    · subst q2
      exact .inl (by omega)
    · exact .inl (by rw [← ea]; exact Int.le_of_lt (hp j k hj hk (by omega)))
  · by_cases q2 : j = k + 1
    · subst q2
      exact .inr (by omega)
    · exact .inr (by rw [← eb]; exact Int.le_of_lt (hp (k + 1) j hk1 hj (by omega)))
theorem zip_tail {A : Type} (l : List A) : l.zip (l.drop 1) = (List.range (l.length - 1)).attach.map fun i => (l[i.1]'(by have := List.mem_range.mp i.2; omega), l[i.1 + 1]'(by have := List.mem_range.mp i.2; omega)) := by
  apply List.ext_getElem
  · simp
  · intro i h1 h2
    simp [Nat.add_comm]
/-- tests put together -/
theorem nf4 : (∀ {S : Type} (b x : Bool), (if b = true then (pureM x : M S Bool) else pureM false) = pureM (b && x)) ∧
    (∀ {S : Type} (b x : Bool), (if b = true then (pureM true : M S Bool) else pureM x) = pureM (b || x)) ∧
    (∀ {S A B : Type} (g : A → B) (l : List A), lcM (fun _ => (pureM true : M S Bool)) (fun x => (pureM (g x) : M S B)) l = pureM (l.map g)) ∧
    (∀ {S A B : Type} (q : A → Bool) (g : A → B) (l : List A), lcM (fun x => (pureM (q x) : M S Bool)) (fun x => (pureM (g x) : M S B)) l = pureM ((l.filter q).map g)) ∧
    (∀ {A : Type} (l : List A), l.filter (fun _ => true) = l) ∧
    (∀ {A : Type} (m n : A), (if true = true then m else n) = m) ∧ (∀ {A : Type} (m n : A), (if false = true then m else n) = n) ∧
    (∀ {A : Type} (m n : A), (if True then m else n) = m) ∧ (∀ {A : Type} (m n : A), (if False then m else n) = n) ∧
    (∀ {A : Type} (l : List A), [] ++ l = l) ∧ (∀ {A : Type} (l : List A), l ++ [] = l) ∧ (∀ {A : Type} (l : List A), l.map (fun x => x) = l) ∧ (∀ {A : Type} (x : A) (l : List A), [x] ++ l = x :: l) ∧ (∀ {A : Type} (l : List A), unTup (toTup l) = l) ∧ (∀ {A : Type} (l : Tup A), toTup (unTup l) = l) :=
  ⟨fun b x => by cases b <;> rfl, fun b x => by cases b <;> rfl, fun g l => by rw [lcM_pure (q := fun _ => true) (g := g) (fun _ _ => rfl) fun _ _ _ => rfl, List.filter_eq_self.mpr fun _ _ => rfl], fun q g l => lcM_pure (fun _ _ => rfl) fun _ _ _ => rfl, fun _ => List.filter_eq_self.mpr fun _ _ => rfl, fun _ _ => rfl, fun _ _ => rfl, fun _ _ => if_pos trivial, fun _ _ => if_neg not_false, fun _ => rfl, List.append_nil, List.map_id', fun _ _ => rfl, fun _ => rfl, fun _ => rfl⟩
theorem foldl_sum {A : Type} (q : A → Bool) (g : A → Int) : ∀ (l : List A) (y : Int), l.foldl (fun s x => if q x = true then s + g x else s) y = y + ((l.filter q).map g).sum
  | [], y => by simp
  | x :: l, y => by
    rw [List.foldl_cons, foldl_sum q g l]
    cases e : q x with
    | true =>
      rw [if_pos rfl, List.filter_cons_of_pos e, List.map_cons, List.sum_cons]
      omega
    | false =>
      rw [if_neg Bool.false_ne_true, List.filter_cons_of_neg (by rw [e]; exact Bool.false_ne_true)]
theorem foldl_add {A : Type} (g : A → Int) : ∀ (l : List A) (y : Int), l.foldl (fun s x => s + g x) y = y + (l.map g).sum
  | [], y => by simp
  | x :: l, y => by
    rw [List.foldl_cons, foldl_add g l, List.map_cons, List.sum_cons]
    omega
theorem atI_nth {A : Type} {l : List A} {k : Nat} (h : k < l.length) : atI l (k : Int) = some l[k] := by
  unfold atI
  have e : ixN l.length (k : Int) = some k := by
    unfold ixN
    rw [if_pos (by omega), if_pos (by omega), Int.toNat_natCast]
  rw [e]
  exact List.getElem?_eq_getElem h
theorem lenOk_le {n : Nat} (h : n ≤ 16777216) : lenOk n := h
theorem mem_rangeL {lo hi k : Int} : k ∈ rangeL lo hi ↔ lo ≤ k ∧ k < hi := by
  unfold rangeL
  rw [List.mem_map]
  constructor
  · rintro ⟨i, hi, rfl⟩
    have := List.mem_range.mp hi
    omega
  · intro h
    exact ⟨(k - lo).toNat, List.mem_range.mpr (by omega), by omega⟩
theorem len_rangeL (lo hi : Int) : (rangeL lo hi).length = (hi - lo).toNat := by
  unfold rangeL
  rw [List.length_map, List.length_range]
theorem get_rangeL {lo hi : Int} {i : Nat} (h : i < (rangeL lo hi).length) : (rangeL lo hi)[i] = lo + (i : Int) := by
  have e : (rangeL lo hi)[i]? = some (lo + (i : Int)) := by
    have h' : i < (hi - lo).toNat := by
      rw [len_rangeL] at h
      exact h
    show ((List.range (hi - lo).toNat).map _)[i]? = _
    rw [List.getElem?_map, List.getElem?_range h']
    rfl
  rw [List.getElem?_eq_getElem h] at e
  exact Option.some.inj e
theorem loop_app {S A B R : Type} {f : List B → A → M S (Fl (List B) (List B) R)} {g : A → B} : ∀ {l : List A} {y : List B}, y.length + l.length ≤ 16777216 → (∀ y x, x ∈ l → f y x = guardM (lenOk (y.length + 1)) (pureM (.nx (y ++ [g x])))) → loopM f l y = pureM (.nx (y ++ l.map g))
  | [], y, _, _ => by rw [List.map_nil, List.append_nil]; rfl
  | x :: l, y, h, hf => by
    show bindM (f y x) _ = _
    rw [List.length_cons] at h
    rw [hf y x List.mem_cons_self, guard_true (show lenOk (y.length + 1) from (by omega : y.length + 1 ≤ 16777216)), bind_pure]
    show loopM f l (y ++ [g x]) = _
    rw [loop_app (by rw [List.length_append, List.length_singleton]; omega) fun y x hx => hf y x (List.mem_cons_of_mem _ hx), List.map_cons, List.append_assoc]
    rfl
theorem seq_app {S A B N L R : Type} {f : List B → A → M S (Fl (List B) (List B) R)} (g : A → B) {l : List A} {k : List B → M S (Fl N L R)} (h : l.length ≤ 16777216) (hf : ∀ y x, x ∈ l → f y x = guardM (lenOk (y.length + 1)) (pureM (.nx (y ++ [g x])))) : seqM (liftM (loopM f l [])) k = k (l.map g) := by
  rw [loop_app (by simpa using h) hf]
  rfl
theorem cutL_tail {A : Type} (l : List A) : cutL (some 1) none l = l.drop 1 := by
  have e : HT.sIx l.length 0 (some 1) = min 1 l.length := by
    show (if (1 : Int) < 0 then ((1 : Int) + (l.length : Int)).toNat else min (1 : Int).toNat l.length) = _
    rw [if_neg (by decide)]
    rfl
  show (l.drop (HT.sIx l.length 0 (some 1))).take (l.length - HT.sIx l.length 0 (some 1)) = _
  rw [e, ← List.length_drop, List.take_length]
  cases l with
  | nil => rfl
  | cons x l => rw [show min 1 (x :: l).length = 1 by simp]
theorem cutL_init {A : Type} (l : List A) : cutL none (some (-1)) l = l.dropLast := by
  show (l.drop 0).take ((if (-1 : Int) < 0 then ((-1 : Int) + (l.length : Int)).toNat else min (-1 : Int).toNat l.length) - 0) = _
  rw [if_pos (by decide), List.drop_zero, Nat.sub_zero, List.dropLast_eq_take]
  congr 1
  omega
theorem lp_app {S A B R : Type} {f : List B → A → M S (Fl (List B) (List B) R)} (g : A → B) {l : List A} {k : List B → M S R} (h : l.length ≤ 16777216) (hf : ∀ y x, x ∈ l → f y x = guardM (lenOk (y.length + 1)) (pureM (.nx (y ++ [g x])))) : lpM (loopM f l []) k = k (l.map g) := by
  rw [loop_app (by simpa using h) hf]
  rfl
theorem lp_fold {S L A R : Type} {f : L → A → M S (Fl L L R)} {g : L → A → L} {l : List A} {y : L} (Iv : L → Prop) {k : L → M S R} (h0 : Iv y) (h : ∀ y x, x ∈ l → Iv y → f y x = pureM (.nx (g y x)) ∧ Iv (g y x)) : lpM (loopM f l y) k = k (l.foldl g y) := by
  rw [loopM_pure Iv h0 h]
  rfl
theorem ob_lp {S A L R : Type} {K : Cnt S} {c : Nat} {f : L → A → M S (Fl L L R)} {k : L → M S R} {l : List A} {y : L} {V : R → Prop} (Nn c1 e : Nat) (Iv : List A → L → Prop) (hl : l.length ≤ Nn) (hc : Nn * c1 + e ≤ c) (h0 : Iv [] y)
    (h : ∀ pre x post y, l = pre ++ x :: post → Iv pre y → OkM K c1 (f y x) fun r => match r with
      | .nx y' => Iv (pre ++ [x]) y'
      | .ct y' => Iv (pre ++ [x]) y'
      | .bk _ => False
      | .rt r => V r) (hk : ∀ y, Iv l y → OkM K e (k y) V) : OkM K c (lpM (loopM f l y) k) V := by
  have h1 := OkM.loop (V := V) l Iv h l [] y rfl h0
  refine ob_bind h1 (Nat.le_trans (Nat.add_le_add_right (Nat.mul_le_mul_right _ hl) _) hc) fun r hr => ?_
  cases r with
  | nx y' => exact hk y' hr
  | rt r => exact ob_pure hr
  | bk z => exact z.elim
  | ct z => exact z.elim
theorem ob_lp_each {S A R : Type} {K : Cnt S} {c : Nat} {f : Unit → A → M S (Fl Unit Unit R)} {k : Unit → M S R} {l : List A} {V : R → Prop} (Nn c1 e : Nat) (hl : l.length ≤ Nn) (hc : Nn * c1 + e ≤ c)
    (h : ∀ x ∈ l, OkM K c1 (f () x) fun r => r = .nx ()) (hk : OkM K e (k ()) V) : OkM K c (lpM (loopM f l ()) k) V :=
  ob_lp Nn c1 e (fun _ _ => True) hl hc trivial (fun pre x post y e _ => OkM.mono (h x (by rw [e]; simp)) (Nat.le_refl _) fun r hr => by
    rw [hr]
    trivial) fun _ _ => hk
inductive F2 {A B : Type} (P : A → B → Prop) : List A → List B → Prop
  | nil : F2 P [] []
  | cons {a : A} {b : B} {l : List A} {r : List B} : P a b → F2 P l r → F2 P (a :: l) (b :: r)
theorem F2.len {A B : Type} {P : A → B → Prop} : ∀ {l : List A} {r : List B}, F2 P l r → r.length = l.length
  | _, _, .nil => rfl
  | _, _, .cons _ t => by rw [List.length_cons, List.length_cons, F2.len t]
theorem F2.app {A B : Type} {P : A → B → Prop} {a : A} {b : B} (h : P a b) : ∀ {l : List A} {r : List B}, F2 P l r → F2 P (l ++ [a]) (r ++ [b])
  | _, _, .nil => .cons h .nil
  | _, _, .cons x t => .cons x (F2.app h t)
theorem F2.mem {A B : Type} {P : A → B → Prop} : ∀ {l : List A} {r : List B}, F2 P l r → ∀ b ∈ r, ∃ a, a ∈ l ∧ P a b
  | _, _, .nil, b, hb => absurd hb List.not_mem_nil
  | _, _, .cons x t, b, hb => by
    rcases List.mem_cons.mp hb with rfl | hb
    · exact ⟨_, List.mem_cons_self, x⟩
    · obtain ⟨a, h1, h2⟩ := F2.mem t b hb
      exact ⟨a, List.mem_cons_of_mem _ h1, h2⟩
theorem F2.map {A B : Type} {P : A → B → Prop} {g : B → A} (h : ∀ a b, P a b → g b = a) : ∀ {l : List A} {r : List B}, F2 P l r → r.map g = l
  | _, _, .nil => rfl
  | _, _, .cons x t => by rw [List.map_cons, h _ _ x, F2.map h t]
/-- a loop that grows a list, one item a turn -/
theorem ob_lp_grow {S A B R : Type} {K : Cnt S} {c : Nat} {f : List B → A → M S (Fl (List B) (List B) R)} {k : List B → M S R} {l : List A} {V : R → Prop} (Nn c1 e : Nat) (P : A → B → Prop) (hl : l.length ≤ Nn) (hc : Nn * c1 + e ≤ c)
    (h : ∀ x ∈ l, ∀ y : List B, y.length < Nn → OkM K c1 (f y x) fun r => ∃ b, P x b ∧ r = .nx (y ++ [b])) (hk : ∀ y, F2 P l y → OkM K e (k y) V) : OkM K c (lpM (loopM f l []) k) V :=
  ob_lp Nn c1 e (fun pre y => F2 P pre y) hl hc .nil (fun pre x post y e hy => by
    have hyl := hy.len
    have hll : pre.length < l.length := by rw [e]; simp
    refine OkM.mono (h x (by rw [e]; simp) y (by omega)) (Nat.le_refl _) fun r hr => ?_
    obtain ⟨b, hb, rfl⟩ := hr
    exact hy.app hb) hk
theorem p10_6 : (10 : Int) ^ (Int.toNat 6) = 1000000 := by decide
theorem p10_9 : (10 : Int) ^ (Int.toNat 9) = 1000000000 := by decide
theorem p10_18 : (10 : Int) ^ (Int.toNat 18) = 1000000000000000000 := by decide
end PL

namespace PL
open PySem L2 Enc
/-- a dict as its pairs, in its order -/
def Dic (A : Type) := List (Int × A)
def toDic {A : Type} (l : List (Int × A)) : Dic A := l
def unDic {A : Type} (l : Dic A) : List (Int × A) := l
def dkv {A : Type} [Enc A] (p : Int × A) : PyData × PyData := (kD (.inl p.1), enc p.2)
instance {A : Type} [Enc A] : Enc (Dic A) := ⟨fun l => .dict (List.map dkv (unDic l))⟩
def valD {A : Type} (l : Dic A) (k : Int) : Option A := ((unDic l).find? fun p => decide (p.1 = k)).map (·.2)
def putD {A : Type} (l : Dic A) (k : Int) (x : A) : Dic A := toDic (if ((unDic l).any fun p => decide (p.1 = k)) = true then (unDic l).map (fun p => if p.1 = k then (p.1, x) else p) else unDic l ++ [(k, x)])
def mkD {A : Type} (l : List (Int × A)) : Dic A := l.foldl (fun d p => putD d p.1 p.2) (toDic [])
def keysD {A : Type} (l : Dic A) : List Int := (unDic l).map (·.1)
section
variable {A B : Type} [Enc A] [Enc B] {Z : Addr → Prop} {H : Hp}
theorem kD_inl {k : Key} {i : Int} (e : kD k = kD (.inl i)) : k = .inl i := by
  cases k with
  | inl j =>
    have e' : PyData.int j = PyData.int i := e
    injection e' with e'
    rw [e']
  | inr x => cases e
theorem RpK.val {l : List (Int × A)} {k : Int} : ∀ {kvs : List (Key × V)}, RpK Z H kvs (l.map dkv) → (valD (toDic l) k = none → valV kvs (.inl k) = none) ∧ ∀ x, valD (toDic l) k = some x → ∃ v, valV kvs (.inl k) = some v ∧ Rp Z H v (enc x) := by
  induction l with
  | nil =>
    intro kvs r
    cases r
    exact ⟨fun _ => rfl, fun x e => by cases e⟩
  | cons p l ih =>
    intro kvs r
    have r' : RpK Z H kvs ((kD (.inl p.1), enc p.2) :: l.map dkv) := r
    generalize ek : kD (.inl p.1) = kd at r'
    cases r' with
    | @cons k0 v r0 _ _ h t =>
      obtain rfl := kD_inl ek.symm
      obtain ⟨a, b⟩ := ih t
      by_cases e : p.1 = k
      · have e1 : valD (toDic (p :: l)) k = some p.2 := by
          unfold valD
          show ((p :: l).find? _).map _ = _
          rw [List.find?_cons_of_pos (by simpa using e)]
          rfl
        rw [valV_pos (show (Sum.inl p.1 : Key) = .inl k by rw [e]), e1]
        exact ⟨(fun z => nomatch z), fun x z => by
          cases z
          exact ⟨v, rfl, h⟩⟩
      · have e1 : valD (toDic (p :: l)) k = valD (toDic l) k := by
          unfold valD
          show ((p :: l).find? _).map _ = _
          rw [List.find?_cons_of_neg (by simpa using e)]
          rfl
        have ne : ¬ (Sum.inl p.1 : Key) = .inl k := fun z => e (by injection z)
        rw [valV_neg (p := ((Sum.inl p.1 : Key), v)) ne, e1]
        exact ⟨a, b⟩
theorem RpK.len : ∀ {kvs : List (Key × V)} {ds : List (PyData × PyData)}, RpK Z H kvs ds → kvs.length = ds.length
  | _, _, .nil => rfl
  | _, _, .cons _ t => by rw [List.length_cons, List.length_cons, RpK.len t]
theorem RpK.any {l : List (Int × A)} {k : Int} : ∀ {kvs : List (Key × V)}, RpK Z H kvs (l.map dkv) → (kvs.any fun kv => decide (kv.1 = .inl k)) = l.any fun p => decide (p.1 = k) := by
  induction l with
  | nil =>
    intro kvs r
    cases r
    rfl
  | cons p l ih =>
    intro kvs r
    have r' : RpK Z H kvs ((kD (.inl p.1), enc p.2) :: l.map dkv) := r
    generalize ek : kD (.inl p.1) = kd at r'
    cases r' with
    | @cons k0 v r0 _ _ h t =>
      obtain rfl := kD_inl ek.symm
      rw [List.any_cons, List.any_cons, ih t]
      congr 1
      simp
theorem RpK.repl {l : List (Int × A)} {k : Int} {x : A} {v : V} (rv : Rp Z H v (enc x)) : ∀ {kvs : List (Key × V)}, RpK Z H kvs (l.map dkv) → RpK Z H (kvs.map fun kv => if kv.1 = .inl k then (kv.1, v) else kv) ((l.map fun p => if p.1 = k then (p.1, x) else p).map dkv) := by
  induction l with
  | nil =>
    intro kvs r
    cases r
    exact .nil
  | cons p l ih =>
    intro kvs r
    have r' : RpK Z H kvs ((kD (.inl p.1), enc p.2) :: l.map dkv) := r
    generalize ek : kD (.inl p.1) = kd at r'
    cases r' with
    | @cons k0 w r0 _ _ h t =>
      obtain rfl := kD_inl ek.symm
      rw [List.map_cons, List.map_cons, List.map_cons]
      by_cases e : p.1 = k
      · rw [if_pos e, if_pos (by rw [e])]
        exact .cons (k := .inl p.1) rv (ih t)
      · rw [if_neg e, if_neg (fun z => e (by injection z))]
        exact .cons (k := .inl p.1) h (ih t)
theorem RpK.snoc {k : Key} {v : V} {d : PyData} (rv : Rp Z H v d) : ∀ {kvs : List (Key × V)} {ds : List (PyData × PyData)}, RpK Z H kvs ds → RpK Z H (kvs ++ [(k, v)]) (ds ++ [(kD k, d)])
  | _, _, .nil => .cons rv .nil
  | _, _, .cons h t => .cons h (RpK.snoc rv t)
theorem RpK.put {l : List (Int × A)} {k : Int} {x : A} {v : V} {kvs : List (Key × V)} (rv : Rp Z H v (enc x)) (r : RpK Z H kvs (l.map dkv)) : RpK Z H (putK kvs (.inl k) v) ((unDic (putD (toDic l) k x)).map dkv) := by
  unfold putK putD
  rw [r.any]
  show RpK Z H _ (List.map dkv (if (l.any _) = true then l.map _ else l ++ [(k, x)]))
  by_cases e : (l.any fun p => decide (p.1 = k)) = true
  · rw [if_pos e, if_pos e]
    exact r.repl rv
  · rw [if_neg e, if_neg e, List.map_append]
    exact RpK.snoc rv r
theorem putD_len (l : Dic A) (k : Int) (x : A) : (unDic (putD l k x)).length ≤ (unDic l).length + 1 := by
  unfold putD
  show (if _ then _ else _ : List (Int × A)).length ≤ _
  split
  · rw [List.length_map]
    omega
  · rw [List.length_append]
    exact Nat.le_refl _
theorem Rp.toDic {v : V} {l : Dic A} (r : Rp Z H v (enc l)) : ∃ p kvs, v = .ref p ∧ ¬ Z p ∧ Rd H p (.dK kvs) ∧ RpK Z H kvs (List.map dkv (unDic l)) := by
  have r' : Rp Z H v (.dict (List.map dkv (unDic l))) := r
  cases r' with
  | dic n h t => exact ⟨_, _, rfl, n, h, t⟩
end
section
variable {I S A B C U N L R : Type} [Enc A] [Enc B] [Enc C] [Enc R] {Xs : I → Cx} {F : Fm S} {G : List Sl} {pos p p2 : Pos} {e a b c : Expr} {K : PySem.W.Frag} {x : Str}
theorem DGet.rk {H : Hp} {a : Addr} {kvs : List (Key × V)} {k : Key} (e : Rd H a (.dK kvs)) : DGet H a (kV k) (valV kvs k) := .inl ⟨kvs, k, e, rfl, rfl⟩
/-- a dict that is read, be it data or one's own -/
def ED (Xs : I → Cx) (F : Fm S) (G : List Sl) (e : Expr) (m : M S (Dic A)) : Prop := ∃ te, (∀ i, PE (Xs i) e te) ∧
  ∀ Zx t H s l s', Gd F Zx G s t H → m s = some (l, s') → ∀ Q : VK, (∀ p H', Gd F Zx G s' t H' → Fix F H H' → (∀ s2 H2, Gd F Zx G s2 t H2 → Fix F H' H2 → ∃ kvs, Rd H2 p (.dK kvs) ∧ RpK (ZF F Zx G t) H2 kvs (List.map dkv (unDic l))) → Q (.ref p) H') → te t H Q
theorem ed_of {m : M S (Dic A)} (h : EV Xs F G e m) : ED Xs F G e m := by
  obtain ⟨te, hp, ho⟩ := h
  refine ⟨te, hp, fun Zx t H s l s' g hm Q q => ho Zx t H s l s' g hm Q fun v H' g' f' r => ?_⟩
  obtain ⟨pp, kvs, rfl, n, h, rk⟩ := r.toDic
  refine q pp H' g' f' fun s2 H2 g2 f2 => ?_
  obtain ⟨pp', kvs', e', _, h', rk'⟩ := (r.fix f2).toDic
  cases e'
  exact ⟨kvs', h', rk'⟩
theorem ed_own {l : Dic A} {k : Nat} (h : G[k]? = some (.own (enc l))) (hN : ∀ i, (Xs i).N[k]? = some x := by intro _; rfl)
    (hv : ∀ i, Vis (Xs i).env.scope x := by first | exact fun _ => Or.inl rfl | exact fun _ => Or.inr (Or.inl rfl) | exact fun _ => Or.inr (Or.inr rfl))
    (hd : (x == ("__debug__" : Str)) = false := by decide) (hcd : (x == ("__classdict__" : Str)) = false := by decide) : ED Xs F G (.Name x pos) (pureM l) := by
  refine ⟨tVar k, fun i => pe_var (hN i) (hv i) hd hcd, fun Zx t H s l' s' g hm Q q => ?_⟩
  obtain ⟨rfl, rfl⟩ := pure_eq hm
  obtain ⟨hk, _⟩ := List.getElem?_eq_some_iff.mp h
  have hk' : k < t.length := by
    rw [g.len]
    exact hk
  have ht : t[k]? = some (t[k]'hk') := List.getElem?_eq_getElem hk'
  obtain ⟨pp, ep, _⟩ := g.slot k _ _ h ht
  rw [ep] at ht
  refine ⟨.ref pp, ht, q pp H g (Fix.refl H) fun s2 H2 g2 f2 => ?_⟩
  obtain ⟨pp', ep', r2⟩ := g2.slot k _ _ h ht
  cases ep'
  exact r2.imp fun _ h => ⟨.inl h.1, h.2⟩
/-- d[k] -/
def getDM (m : M S (Dic A)) (n : M S Int) : M S A := bindM m fun l => bindM n fun k => ofO (valD l k)
theorem ev_dget {m : M S (Dic A)} {n : M S Int} {k : Nat} (hr : ∀ i, Room k (Xs i).A) (hd : ED Xs F G a m) (hk : EV Xs F G b n) (hs : NoSl b := by exact fun _ _ => rfl) : EV Xs F G (.Subscript a b pos) (getDM m n) := by
  obtain ⟨td, hp, hx⟩ := hd
  obtain ⟨ty, hq, hy⟩ := hk
  refine ⟨tDGet td ty, fun i => pe_dget (by have := (hr i).units; omega) (hp i) (hq i) hs, fun Zx t H s y s' g hm Q q => ?_⟩
  obtain ⟨l, s1, e1, e2⟩ := bind_some hm
  obtain ⟨z, s2, e3, e4⟩ := bind_some e2
  obtain ⟨e5, rfl⟩ := ofO_eq e4
  refine hx Zx t H s l s1 g e1 _ fun pp H1 g1 f1 st => ?_
  refine hy Zx t H1 s1 z s2 g1 e3 _ fun u H2 g2 f2 r2 => ?_
  obtain rfl := r2.toInt
  obtain ⟨kvs, hkv, rk⟩ := st s2 H2 g2 f2
  obtain ⟨v, hv, rv⟩ := (RpK.val (l := unDic l) (k := z) rk).2 y e5
  exact ⟨pp, v, rfl, by rw [← hv]; exact DGet.rk (k := .inl z) hkv, q v H2 g2 (f1.trans f2) rv⟩
/-- k in d -/
def inDM (m : M S Int) (n : M S (Dic A)) : M S Bool := bindM m fun k => bindM n fun l => pureM (valD l k).isSome
def ninDM (m : M S Int) (n : M S (Dic A)) : M S Bool := bindM m fun k => bindM n fun l => pureM (!(valD l k).isSome)
theorem valV_some {Z : Addr → Prop} {H : Hp} {l : Dic A} {k : Int} {kvs : List (Key × V)} (rk : RpK Z H kvs (List.map dkv (unDic l))) : (valV kvs (.inl k)).isSome = (valD l k).isSome := by
  obtain ⟨h1, h2⟩ := RpK.val (l := unDic l) (k := k) rk
  cases e : valD l k with
  | none =>
    rw [h1 e]
    rfl
  | some y =>
    obtain ⟨v, hv, _⟩ := h2 y e
    rw [hv]
    rfl
theorem ok_din {ty td : TE} {m : M S Int} {n : M S (Dic A)} (hy : TEok F G ty m)
    (hx : ∀ Zx t H s l s', Gd F Zx G s t H → n s = some (l, s') → ∀ Q : VK, (∀ p H', Gd F Zx G s' t H' → Fix F H H' → (∀ s2 H2, Gd F Zx G s2 t H2 → Fix F H' H2 → ∃ kvs, Rd H2 p (.dK kvs) ∧ RpK (ZF F Zx G t) H2 kvs (List.map dkv (unDic l))) → Q (.ref p) H') → td t H Q) : TEok F G (tDIn ty td) (inDM m n) := fun Zx t H s y s' g hm Q q => by
  obtain ⟨z, s1, e1, e2⟩ := bind_some hm
  obtain ⟨l, s2, e3, e4⟩ := bind_some e2
  obtain ⟨rfl, rfl⟩ := pure_eq e4
  refine hy Zx t H s z s1 g e1 _ fun u H1 g1 f1 r1 => ?_
  obtain rfl := r1.toInt
  refine hx Zx t H1 s1 l s2 g1 e3 _ fun pp H2 g2 f2 st => ?_
  obtain ⟨kvs, hkv, rk⟩ := st s2 H2 g2 (Fix.refl H2)
  refine ⟨pp, _, rfl, DGet.rk (k := .inl z) hkv, ?_⟩
  rw [valV_some rk]
  exact q _ H2 g2 (f1.trans f2) (.bl _)
theorem ok_dnin {ty td : TE} {m : M S Int} {n : M S (Dic A)} (hy : TEok F G ty m)
    (hx : ∀ Zx t H s l s', Gd F Zx G s t H → n s = some (l, s') → ∀ Q : VK, (∀ p H', Gd F Zx G s' t H' → Fix F H H' → (∀ s2 H2, Gd F Zx G s2 t H2 → Fix F H' H2 → ∃ kvs, Rd H2 p (.dK kvs) ∧ RpK (ZF F Zx G t) H2 kvs (List.map dkv (unDic l))) → Q (.ref p) H') → td t H Q) : TEok F G (tDNotIn ty td) (ninDM m n) := fun Zx t H s y s' g hm Q q => by
  obtain ⟨z, s1, e1, e2⟩ := bind_some hm
  obtain ⟨l, s2, e3, e4⟩ := bind_some e2
  obtain ⟨rfl, rfl⟩ := pure_eq e4
  refine hy Zx t H s z s1 g e1 _ fun u H1 g1 f1 r1 => ?_
  obtain rfl := r1.toInt
  refine hx Zx t H1 s1 l s2 g1 e3 _ fun pp H2 g2 f2 st => ?_
  obtain ⟨kvs, hkv, rk⟩ := st s2 H2 g2 (Fix.refl H2)
  refine ⟨pp, _, rfl, DGet.rk (k := .inl z) hkv, ?_⟩
  rw [valV_some rk]
  exact q _ H2 g2 (f1.trans f2) (.bl _)
theorem ev_inD {m : M S Int} {n : M S (Dic A)} {k : Nat} (hr : ∀ i, Room k (Xs i).A) (hk : EV Xs F G a m) (hd : ED Xs F G b n) (hm : behindInMarks .In b = false := by rfl) : EV Xs F G (.Compare a [.In] [b] pos) (inDM m n) := by
  obtain ⟨td, hp, hx⟩ := hd
  obtain ⟨ty, hq, hy⟩ := hk
  exact ⟨tDIn ty td, fun i => pe_cmp (pc_din (by have := (hr i).units; omega) (hq i) (hp i)) hm, ok_din hy hx⟩
theorem ev_ninD {m : M S Int} {n : M S (Dic A)} {k : Nat} (hr : ∀ i, Room k (Xs i).A) (hk : EV Xs F G a m) (hd : ED Xs F G b n) (hm : behindInMarks .NotIn b = false := by rfl) : EV Xs F G (.Compare a [.NotIn] [b] pos) (ninDM m n) := by
  obtain ⟨td, hp, hx⟩ := hd
  obtain ⟨ty, hq, hy⟩ := hk
  exact ⟨tDNotIn ty td, fun i => pe_cmp (pc_dnotin (by have := (hr i).units; omega) (hq i) (hp i)) hm, ok_dnin hy hx⟩
theorem et_inD {m : M S Int} {n : M S (Dic A)} {k : Nat} (hr : ∀ i, Room k (Xs i).A) (hk : EV Xs F G a m) (hd : ED Xs F G b n) (hm : behindInMarks .In b = false := by rfl) : ET Xs F G (.Compare a [.In] [b] pos) (inDM m n) := by
  obtain ⟨td, hp, hx⟩ := hd
  obtain ⟨ty, hq, hy⟩ := hk
  refine ⟨tB (tDIn ty td), fun i => pt_cmp (pc_din (by have := (hr i).units; omega) (hq i) (hp i)) hm, fun Zx t H s y s' g hm' Q q => ?_⟩
  exact ok_din hy hx Zx t H s y s' g hm' _ fun v H' g' f' r' => ⟨y, r'.bool, q H' g' f'⟩
theorem et_ninD {m : M S Int} {n : M S (Dic A)} {k : Nat} (hr : ∀ i, Room k (Xs i).A) (hk : EV Xs F G a m) (hd : ED Xs F G b n) (hm : behindInMarks .NotIn b = false := by rfl) : ET Xs F G (.Compare a [.NotIn] [b] pos) (ninDM m n) := by
  obtain ⟨td, hp, hx⟩ := hd
  obtain ⟨ty, hq, hy⟩ := hk
  refine ⟨tB (tDNotIn ty td), fun i => pt_cmp (pc_dnotin (by have := (hr i).units; omega) (hq i) (hp i)) hm, fun Zx t H s y s' g hm' Q q => ?_⟩
  exact ok_dnin hy hx Zx t H s y s' g hm' _ fun v H' g' f' r' => ⟨y, r'.bool, q H' g' f'⟩
/-- d.get(k, e) -/
def getD2M (m : M S (Dic A)) (n : M S Int) (o : M S A) : M S A := bindM m fun l => bindM n fun k => bindM o fun x => pureM ((valD l k).getD x)
theorem ev_dget2 {m : M S (Dic A)} {n : M S Int} {o : M S A} {k : Nat} {apos cpos : Pos} (hr : ∀ i, Room k (Xs i).A) (hd : ED Xs F G a m) (hk : EV Xs F G b n) (ho : EV Xs F G c o)
    (hM : ∀ i, M2 (Xs i) a "get" apos b c cpos := by intro _; exact ⟨rfl, rfl, rfl, rfl⟩) : EV Xs F G (.Call (.Attribute a "get" apos) [b, c] [] cpos) (getD2M m n o) := by
  obtain ⟨td, hp, hx⟩ := hd
  obtain ⟨ty, hq, hy⟩ := hk
  obtain ⟨tz, hw, hz⟩ := ho
  refine ⟨tDGet2 td ty tz, fun i => pe_dget2 (by have := (hr i).units; omega) (hp i) (hq i) (hw i) (hM i), fun Zx t H s y s' g hm Q q => ?_⟩
  obtain ⟨l, s1, e1, e2⟩ := bind_some hm
  obtain ⟨z, s2, e3, e4⟩ := bind_some e2
  obtain ⟨d, s3, e5, e6⟩ := bind_some e4
  obtain ⟨rfl, rfl⟩ := pure_eq e6
  refine hx Zx t H s l s1 g e1 _ fun pp H1 g1 f1 st => ?_
  obtain ⟨kvs1, hkv1, _⟩ := st s1 H1 g1 (Fix.refl H1)
  refine ⟨pp, rfl, .inl ⟨kvs1, hkv1⟩, ?_⟩
  refine hy Zx t H1 s1 z s2 g1 e3 _ fun u H2 g2 f2 r2 => ?_
  obtain rfl := r2.toInt
  refine hz Zx t H2 s2 d s3 g2 e5 _ fun v H3 g3 f3 r3 => ?_
  obtain ⟨kvs, hkv, rk⟩ := st s3 H3 g3 (f2.trans f3)
  obtain ⟨h1, h2⟩ := RpK.val (l := unDic l) (k := z) rk
  refine ⟨_, DGet.rk (k := .inl z) hkv, ?_⟩
  cases ev : valD l z with
  | none =>
    rw [h1 ev]
    rw [ev] at q
    exact q v H3 g3 ((f1.trans f2).trans f3) r3
  | some w =>
    obtain ⟨v', hv', rv'⟩ := h2 w ev
    rw [hv']
    rw [ev] at q
    exact q v' H3 g3 ((f1.trans f2).trans f3) rv'
/-- {} -/
theorem eo_dnil : EO Xs F G (.Dict [] [] pos) (pureM (toDic [] : Dic A)) := by
  refine ⟨tDNewK, fun _ => pe_dnewK, fun Zx t H s y s' g hm Q q pp hn => ?_⟩
  obtain ⟨rfl, rfl⟩ := pure_eq hm
  exact q pp _ (g.more hn) (Fix.same (same_new hn)) hn ⟨[], upd_same, .nil⟩
theorem ev_dnil : EV Xs F G (.Dict [] [] pos) (pureM (toDic [] : Dic A)) := by
  refine ⟨tDNewK, fun _ => pe_dnewK, fun Zx t H s y s' g hm Q q pp hn => ?_⟩
  obtain ⟨rfl, rfl⟩ := pure_eq hm
  exact q _ _ (g.same (same_new hn)) (Fix.same (same_new hn)) (.dic (g.new hn) (.inl upd_same) .nil)
/-- d[k] = e, d in slot j -/
theorem ss_dput {Gq : L → List Sl} {l : Dic A} {m : M S A} {n : M S Int} {j k : Nat} {pos' px : Pos} (hj : G[j]? = some (.own (enc l))) (hr : ∀ i, Room k (Xs i).A) (hv : EV Xs F G e m) (hk : EV Xs F G b n) (hN : ∀ i, (Xs i).N[j]? = some x := by intro _; rfl)
    (hvs : ∀ i, Vis (Xs i).env.scope x := by first | exact fun _ => Or.inl rfl | exact fun _ => Or.inr (Or.inl rfl) | exact fun _ => Or.inr (Or.inr rfl)) (hd : (x == ("__debug__" : Str)) = false := by decide) (hcd : (x == ("__classdict__" : Str)) = false := by decide)
    (hs : ∀ i, swapsWith e (some (.Subscript (.Name x px) b pos')) pos.line (Xs i).env = pure false := by intro _; rfl) :
    SS (R := R) (L := L) Xs F G (.Assign [.Subscript (.Name x px) b pos'] e pos) (bindM m fun y => bindM n fun k => guardM (lenOk ((unDic l).length + 1)) (pureM (.nx (putD l k y)))) (fun l' : Dic A => G.set j (.own (enc l'))) Gq := by
  obtain ⟨te, hp, hx⟩ := hv
  obtain ⟨ty, hq, hy⟩ := hk
  refine ⟨sDPut (tVar j) ty te, fun i => ps_dput (by have := (hr i).units; omega) (pe_var (hN i) (hvs i) hd hcd) (hq i) (hp i) (hs i), fun Zx t H s r s' g hm D q => ?_⟩
  obtain ⟨y, s1, e1, e2⟩ := bind_some hm
  obtain ⟨z, s2, e3, e4⟩ := bind_some e2
  obtain ⟨hl, e5⟩ := guard_eq e4
  obtain ⟨rfl, rfl⟩ := pure_eq e5
  obtain ⟨hkl, _⟩ := List.getElem?_eq_some_iff.mp hj
  have hk' : j < t.length := by
    rw [g.len]
    exact hkl
  have ht : t[j]? = some (t[j]'hk') := List.getElem?_eq_getElem hk'
  obtain ⟨pp, ep, _⟩ := g.slot j _ _ hj ht
  rw [ep] at ht
  refine hx Zx t H s y s1 g e1 _ fun v H1 g1 f1 r1 => ?_
  refine ⟨.ref pp, ht, ?_⟩
  refine hy Zx t H1 s1 z s2 g1 e3 _ fun u H2 g2 f2 r2 => ?_
  obtain rfl := r2.toInt
  obtain ⟨pp', ep', kvs, hkv, rk⟩ := g2.slot j _ _ hj ht
  cases ep'
  have hlen : kvs.length = (unDic l).length := by rw [rk.len, List.length_map]
  refine ⟨pp, _, rfl, DPut.k (k := .inl z) hkv ?_, ?_⟩
  · rw [hlen]
    exact Nat.lt_of_lt_of_le (Nat.lt_succ_self _) (lenOk_line hl)
  · have hown : Own G t pp := ⟨j, _, hj, ht⟩
    have ex : Ext (ZF F Zx G t) H2 (ZF F Zx G t) (upd H2 pp (.dK (putK kvs (.inl z) v))) := ⟨fun b u z h => by
      rw [upd_ne (fun k => z (by rw [k]; exact .inr (.inr hown)))]
      exact h, fun b z => .inl z⟩
    obtain ⟨g3, own3⟩ := g2.putOwn (o := .dK (putK kvs (.inl z) v)) (d' := enc (putD l z y)) hj ht ⟨_, upd_same, (RpK.put (l := unDic l) (r1.fix f2) rk).ext ex⟩
    refine q t _ g3 ⟨fun b o z w h => ?_, fun b z => .inl ((own3 b).mp z)⟩
    rw [upd_ne (fun k => w (by rw [k]; exact hown))]
    exact f2 b o z (f1 b o z h)
/-- sorted(d) -/
def sortDM (m : M S (Dic A)) : M S (List Int) := bindM m fun l => guardM ((unDic l).length < 64) (pureM (sortI (keysD l)))
theorem keys_of {Z : Addr → Prop} {H : Hp} {l : List (Int × A)} : ∀ {kvs : List (Key × V)}, RpK Z H kvs (l.map dkv) → kvs.map (·.1) = (l.map (·.1)).map Sum.inl := by
  induction l with
  | nil =>
    intro kvs r
    cases r
    rfl
  | cons p l ih =>
    intro kvs r
    have r' : RpK Z H kvs ((kD (.inl p.1), enc p.2) :: l.map dkv) := r
    generalize ek : kD (.inl p.1) = kd at r'
    cases r' with
    | @cons k0 v r0 _ _ h t =>
      obtain rfl := kD_inl ek.symm
      rw [List.map_cons, List.map_cons, List.map_cons, ih t]
theorem ev_sortedD {m : M S (Dic A)} (hm : ∀ i, (Xs i).mg "sorted" = none) (hd : ED Xs F G a m) (hc : ∀ i, (Xs i).calm = true := by intro _; rfl) (hg : ∀ i, Gl (Xs i) "sorted" := by intro _; rfl)
    (he : ∀ i, starEach [a] (Xs i).env = (false, eval a (Xs i).env) :: starEach [] (Xs i).env := by intro _; rfl) : EV Xs F G (.Call (.Name "sorted" p) [a] [] pos) (sortDM m) := by
  obtain ⟨td, hp, hx⟩ := hd
  refine ⟨tCB (fun xs H Q => ∃ (a : Addr) (kvs : List (Key × V)) (ks : List Int), xs = [.ref a] ∧ Rd H a (.dK kvs) ∧ kvs.map (·.1) = ks.map Sum.inl ∧ ks.length < 64 ∧
    ∀ (ys : List Int) (p : Addr), ys.Perm ks → ys.Pairwise (· ≤ ·) → H p = none → Q (.ref p) (upd H p (.lst (ys.map V.int)))) (tCons td tNil),
    fun i => pe_callB (call_sortedDI (hc i)) (hg i) (hm i) bb_sorted (pa_cons (hp i) pa_nil (he i)) (by decide) (by decide) (he i) rfl, fun Zx t H s y s' g hm' Q q => ?_⟩
  obtain ⟨l, s1, h1, h2⟩ := bind_some hm'
  obtain ⟨hl, h3⟩ := guard_eq h2
  obtain ⟨rfl, rfl⟩ := pure_eq h3
  refine hx Zx t H s l s1 g h1 _ fun pp H1 g1 f1 st => ?_
  obtain ⟨kvs, hkv, rk⟩ := st s1 H1 g1 (Fix.refl H1)
  refine ⟨pp, kvs, keysD l, rfl, hkv, keys_of (l := unDic l) rk, ?_, fun ys pn h1 h2 hpn => ?_⟩
  · unfold keysD
    rw [List.length_map]
    exact hl
  · have e : ys = sortI (keysD l) := sorted_one (h1.trans (sortI_perm _).symm) h2 (sortI_le _)
    subst e
    exact q _ _ (g1.same (same_new hpn)) (f1.trans (Fix.same (same_new hpn))) (.lst (g1.new hpn) upd_same (RpL.of_ints _))
end
end PL

namespace PL
open PySem L2 Enc
/-- items that are pairs -/
inductive PairsAt (H : Hp) : List V → List (Key × V) → Prop
  | nil : PairsAt H [] []
  | cons {T : Addr} {k : Key} {v : V} {xs : List V} {kvs : List (Key × V)} : TupB H T [kV k, v] → PairsAt H xs kvs → PairsAt H (V.ref T :: xs) ((k, v) :: kvs)
/-- the same, of the heap -/
structure PairD (P : Program) (w : World) (h : Heap) (T : Addr) (k : Key) (v : V) (key r : Value) : Prop where
  tup : h.IsTuple T #[key, r]
  is : (mixKind P w).is k key = true
  rel : RelV v r
inductive PairsD (P : Program) (w : World) (h : Heap) : List Addr → List (Key × V) → List (Value × Value) → List (Key × Value) → Prop
  | nil : PairsD P w h [] [] [] []
  | cons {T : Addr} {k : Key} {v : V} {key r : Value} {Ts : List Addr} {kvs : List (Key × V)} {ps : List (Value × Value)} {rs : List (Key × Value)} : PairD P w h T k v key r → PairsD P w h Ts kvs ps rs → PairsD P w h (T :: Ts) ((k, v) :: kvs) ((key, r) :: ps) ((k, r) :: rs)
theorem pairD_of {X : Cx} {pins : List (Addr × Obj)} {σ : St} {H : Hp} {s : Shared} (I : Inv X pins σ H s) {T : Addr} {k : Key} {v : V} (h : TupB H T [kV k, v]) : ∃ key r, PairD X.prog X.w s.heap T k v key r := by
  obtain ⟨its, rv, tp, _⟩ := I.tuple (h.sq (K := X.K))
  cases rv with
  | cons r1 t =>
    cases t with
    | cons r2 t2 =>
      cases t2
      obtain ⟨o, e, c, n, d⟩ := tp
      exact ⟨_, _, ⟨o, e, c, n, d⟩, kV_is r1, r2⟩
theorem pairsD_of {X : Cx} {pins : List (Addr × Obj)} {σ : St} {H : Hp} {s : Shared} (I : Inv X pins σ H s) : ∀ {xs : List V} {kvs : List (Key × V)}, PairsAt H xs kvs → ∃ Ts ps rs, xs = Ts.map V.ref ∧ PairsD X.prog X.w s.heap Ts kvs ps rs
  | _, _, .nil => ⟨[], [], [], rfl, .nil⟩
  | _, _, .cons h t => by
    obtain ⟨Ts, ps, rs, e, d⟩ := pairsD_of I t
    obtain ⟨key, r, p⟩ := pairD_of I h
    exact ⟨_ :: Ts, _, _, by rw [e]; rfl, .cons p d⟩
theorem PairsD.kv {P : Program} {w : World} {h : Heap} : ∀ {Ts : List Addr} {kvs : List (Key × V)} {ps : List (Value × Value)} {rs : List (Key × Value)}, PairsD P w h Ts kvs ps rs → KV kvs rs ∧ ps.length = Ts.length ∧ rs.length = Ts.length ∧ kvs.length = Ts.length
  | _, _, _, _, .nil => ⟨.nil, rfl, rfl, rfl⟩
  | _, _, _, _, .cons p t => by
    obtain ⟨a, b, c, d⟩ := PairsD.kv t
    exact ⟨.cons ⟨rfl, p.rel⟩ a, by simp [b], by simp [c], by simp [d]⟩
theorem PairsD.get {P : Program} {w : World} {h : Heap} : ∀ {Ts : List Addr} {kvs : List (Key × V)} {ps : List (Value × Value)} {rs : List (Key × Value)}, PairsD P w h Ts kvs ps rs → ∀ (j : Nat) (key r : Value), ps[j]? = some (key, r) → ∃ T k, Ts[j]? = some T ∧ rs[j]? = some (k, r) ∧ h.IsTuple T #[key, r] ∧ (mixKind P w).is k key = true
  | _, _, _, _, .nil, j, key, r, e => by cases e
  | _, _, _, _, .cons p t, j, key, r, e => by
    cases j with
    | zero =>
      cases e
      exact ⟨_, _, rfl, rfl, p.tup, p.is⟩
    | succ j => exact PairsD.get t j key r e
def rDictT : List V → Hp → VK → Prop := fun vs H Q => ∃ (a : Addr) (xs : List V) (kvs : List (Key × V)), vs = [.ref a] ∧ TupB H a xs ∧ PairsAt H xs kvs ∧ ∀ p, H p = none → Q (.ref p) (upd H p (.dK (mergeK [] kvs)))
theorem cr_dictT {X : Cx} (hc : X.calm = true) : CallR X (.type "dict") rDictT := by
  intro pins s σ H vs us Q I r h
  obtain ⟨a, xs, kvs, rfl, ⟨o, ho, hd⟩, hp, q⟩ := h
  obtain ⟨u, rfl, ru⟩ := vals1 r
  obtain rfl : u = Value.ref a := ru
  obtain ⟨Ts, ps, rs, rfl, D⟩ := pairsD_of I hp
  obtain ⟨kv, l1, l2, l3⟩ := D.kv
  obtain ⟨g0, hz, its, rv, o', g1, c1, n, d1⟩ := (show ObjOk X.prog X.w H s.heap a (.frz o (.tup (Ts.map V.ref))) from I.hok a _ ho)
  rw [g0] at g1
  cases g1
  have hlen : its.length = Ts.length := by
    rw [← rv.length, List.length_map]
  have refs : ∀ {l : List Addr} {vs : List Value}, Vals (l.map V.ref) vs → ∀ (j : Nat) (T : Addr), l[j]? = some T → vs[j]? = some (Value.ref T) := by
    intro l
    induction l with
    | nil => intro vs rv j T e; cases e
    | cons x l ih =>
      intro vs rv j T e
      cases rv with
      | cons r1 t =>
        cases j with
        | zero =>
          cases e
          exact congrArg some (show _ = Value.ref x from r1)
        | succ j => exact ih t j T e
  have lz : Ts.length ≤ sizeLine := by
    rw [List.length_map] at hz
    exact hz
  have PI : PairItems s.heap its.toArray (fun j => (Ts[j]?).getD 0) ps := ⟨by rw [List.size_toArray, hlen, l1], fun j key rr e => by
    obtain ⟨T, k, e1, e2, e3, e4⟩ := D.get j key rr e
    have e5 := refs rv j T e1
    have e6 : (fun j => (Ts[j]?).getD 0) j = T := by
      show (Ts[j]?).getD 0 = T
      rw [e1]
      rfl
    rw [e6]
    exact ⟨by simpa using e5, .inl e3⟩⟩
  refine PySem.call_dict_pairs (knd := mixKind X.prog X.w) (kvs := rs) (PairArg.tuple a its.toArray (fun j => (Ts[j]?).getD 0) ps) (I.ok.hd hc) ⟨⟨o, n, g0, c1, hd, d1⟩, PI⟩ ⟨by rw [l1, l2], fun i key rr e => ?_⟩ (by rw [l1]; exact lz) fun h' tk dd keep => ?_
  · obtain ⟨T, k, _, e2, _, e4⟩ := D.get i key rr e
    exact ⟨k, e2, e4⟩
  · have fr := I.hok.fresh (Nat.le_refl s.heap.objs.size)
    have lm : (mergeK [] kvs).length ≤ sizeLine := by
      have := length_mergeK kvs []
      rw [List.length_nil] at this
      omega
    have new : ObjOk X.prog X.w (upd H s.heap.objs.size (.dK (mergeK [] kvs))) h' s.heap.objs.size (.dK (mergeK [] kvs)) := dk_new lm (beq_eq_false_iff_ne.mpr (Ne.symm (Nat.ne_of_lt I.big))) (kv.merge .nil) dd
    exact ⟨.ref s.heap.objs.size, _, I.laid (t' := tk) (fun b ob e => keep b ob List.not_mem_nil e) (Nat.le_refl _) new, rfl, q _ fr⟩
section
variable {A : Type} [Enc A]
theorem bb_dict : bootBuiltins "dict" = some (.type "dict") := by decide +kernel
/-- data of pairs: the pairs, the dict's data -/
theorem pairs_of {Z : Addr → Prop} {H : Hp} {l : List (Int × A)} : ∀ {xs : List V}, RpL Z H xs (l.map enc) → ∃ kvs, PairsAt H xs kvs ∧ RpK Z H kvs (l.map dkv) := by
  induction l with
  | nil =>
    intro xs r
    cases r
    exact ⟨[], .nil, .nil⟩
  | cons p l ih =>
    intro xs r
    cases r with
    | cons r1 t =>
      obtain ⟨kvs, h1, h2⟩ := ih t
      have r1' : Rp Z H _ (.tuple [enc p.1, enc p.2]) := r1
      cases r1' with
      | tup n tb rl =>
        obtain ⟨v, w, rfl, ra, rb⟩ := rl.two
        obtain rfl := ra.toInt
        exact ⟨(.inl p.1, w) :: kvs, .cons (k := .inl p.1) tb h1, .cons (k := .inl p.1) rb h2⟩
theorem merge_of {Z : Addr → Prop} {H : Hp} {l : List (Int × A)} : ∀ {kvs : List (Key × V)} {d : Dic A} {kvs0 : List (Key × V)}, RpK Z H kvs (l.map dkv) → RpK Z H kvs0 (List.map dkv (unDic d)) → RpK Z H (mergeK kvs0 kvs) (List.map dkv (unDic (l.foldl (fun d p => putD d p.1 p.2) d))) := by
  induction l with
  | nil =>
    intro kvs d kvs0 r r0
    cases r
    exact r0
  | cons p l ih =>
    intro kvs d kvs0 r r0
    have r' : RpK Z H kvs ((kD (.inl p.1), enc p.2) :: l.map dkv) := r
    generalize ek : kD (.inl p.1) = kd at r'
    cases r' with
    | @cons k0 v r1 _ _ h t =>
      obtain rfl := kD_inl ek.symm
      exact ih (kvs := r1) t (RpK.put (l := unDic d) h r0)
end
section
variable {I S A : Type} [Enc A] {Xs : I → Cx} {F : Fm S} {G : List Sl} {pos p p2 : Pos} {a : Expr} {K : PySem.W.Frag}
def dictM (m : M S (Tup (Int × A))) : M S (Dic A) := mapM1 (fun l => mkD (unTup l)) m
theorem ev_dictT {m : M S (Tup (Int × A))} (hm : ∀ i, (Xs i).mg "dict" = none) (h : EV Xs F G a m) (hc : ∀ i, (Xs i).calm = true := by intro _; rfl) (hg : ∀ i, Gl (Xs i) "dict" := by intro _; rfl)
    (he : ∀ i, starEach [a] (Xs i).env = (false, eval a (Xs i).env) :: starEach [] (Xs i).env := by intro _; rfl) : EV Xs F G (.Call (.Name "dict" p) [a] [] pos) (dictM m) := by
  refine EV.eq (ev_t1 (f := fun l : Tup (Int × A) => some (mkD (unTup l))) (r := rDictT) (fun i => cr_dictT (hc i)) (fun F Zx G s t H u vs z g r e Q q => ?_) hm bb_dict h hg (by decide) (by decide) he) rfl
  obtain ⟨v, rfl, rv⟩ := r.one
  obtain ⟨pp, xs, rfl, n, tb, l⟩ := rv.toTup
  cases e
  obtain ⟨kvs, h1, h2⟩ := pairs_of (l := unTup u.1) l
  refine ⟨pp, xs, kvs, rfl, tb, h1, fun pn hn => ?_⟩
  have sm : Same H (upd H pn (.dK (mergeK [] kvs))) := same_new hn
  exact q _ _ sm (.dic (g.new hn) (.inl upd_same) ((merge_of (d := toDic []) h2 .nil).ext (Fix.same sm).ext))
theorem eo_dictT {m : M S (Tup (Int × A))} (hm : ∀ i, (Xs i).mg "dict" = none) (h : EV Xs F G a m) (hc : ∀ i, (Xs i).calm = true := by intro _; rfl) (hg : ∀ i, Gl (Xs i) "dict" := by intro _; rfl)
    (he : ∀ i, starEach [a] (Xs i).env = (false, eval a (Xs i).env) :: starEach [] (Xs i).env := by intro _; rfl) : EO Xs F G (.Call (.Name "dict" p) [a] [] pos) (dictM m) := by
  obtain ⟨te, hp, hx⟩ := h
  refine ⟨tCB rDictT (tCons te tNil), fun i => pe_callTy (cr_dictT (hc i)) (hg i) (hm i) bb_dict (pa_cons (hp i) pa_nil (he i)) (by decide) (by decide) (he i) rfl, fun Zx t H s y s' g hm' Q q => ?_⟩
  obtain ⟨l, s1, h1, h2⟩ := bind_some hm'
  obtain ⟨rfl, rfl⟩ := pure_eq h2
  refine hx Zx t H s l s1 g h1 _ fun v H1 g1 f1 r1 => ?_
  obtain ⟨pp, xs, rfl, n, tb, rl⟩ := r1.toTup
  obtain ⟨kvs, k1, k2⟩ := pairs_of (l := unTup l) rl
  refine ⟨pp, xs, kvs, rfl, tb, k1, fun pn hn => ?_⟩
  have sm : Same H1 (upd H1 pn (.dK (mergeK [] kvs))) := same_new hn
  have hn0 : H pn = none := by
    cases e : H pn with
    | none => rfl
    | some o =>
      by_cases hz : F.Z pn
      · exact absurd hn (F.trk _ _ _ g1.at_ hz)
      · rw [f1 pn o hz e] at hn
        cases hn
  refine q pn _ (g1.more hn) (f1.trans (Fix.same sm)) hn0 ⟨_, upd_same, ?_⟩
  refine (merge_of (d := toDic []) k2 .nil).ext ⟨fun b o z h => same_new hn b o h, fun b z => ?_⟩
  rcases z with z | (z | z) | z
  · exact .inl (.inl z)
  · exact .inl (.inr (.inl z))
  · rw [z]
    exact .inr hn
  · exact .inl (.inr (.inr z))
end
def putS {S A L R : Type} (l : Dic A) (m : M S A) (n : M S Int) : M S (Fl (Dic A) L R) := bindM m fun y => bindM n fun k => guardM (lenOk ((unDic l).length + 1)) (pureM (.nx (putD l k y)))
theorem nf5 : (∀ {S A : Type} (m : M S (Dic A)) (n : M S Int), getDM m n = bindM m fun l => bindM n fun k => ofO (valD l k)) ∧
    (∀ {S A : Type} (m : M S Int) (n : M S (Dic A)), inDM m n = bindM m fun k => bindM n fun l => pureM (valD l k).isSome) ∧
    (∀ {S A : Type} (m : M S Int) (n : M S (Dic A)), ninDM m n = bindM m fun k => bindM n fun l => pureM (!(valD l k).isSome)) ∧
    (∀ {S A : Type} (m : M S (Dic A)) (n : M S Int) (o : M S A), getD2M m n o = bindM m fun l => bindM n fun k => bindM o fun x => pureM ((valD l k).getD x)) ∧
    (∀ {S A : Type} (m : M S (Dic A)), sortDM m = bindM m fun l => guardM ((unDic l).length < 64) (pureM (sortI (keysD l)))) ∧
    (∀ {S A : Type} (m : M S (Tup (Int × A))), dictM m = bindM m fun l => pureM (mkD (unTup l))) ∧
    (∀ {S A L R : Type} (l : Dic A) (m : M S A) (n : M S Int), (putS l m n : M S (Fl (Dic A) L R)) = bindM m fun y => bindM n fun k => guardM (lenOk ((unDic l).length + 1)) (pureM (.nx (putD l k y)))) :=
  ⟨fun _ _ => rfl, fun _ _ => rfl, fun _ _ => rfl, fun _ _ _ => rfl, fun _ => rfl, fun _ => rfl, fun _ _ _ => rfl⟩
end PL

namespace PL
open PySem L2 Enc
def gNames : List Nat → TGs
  | [] => gNil
  | k :: ks => gCons (gName k) (gNames ks)
def NamesTo {I : Type} (Xs : I → Cx) (es : List Expr) (ks : List Nat) : Prop := ∀ i, PGs (Xs i) es (gNames ks)
section
variable {I S U : Type} {Xs : I → Cx} {F : Fm S} {G : List Sl} {pos p : Pos} {es fs : List Expr} {x : Str}
theorem gn_nil : NamesTo Xs [] [] := fun _ => pgs_nil
theorem gn_cons {k : Nat} {ks : List Nat} (hN : ∀ i, (Xs i).N.Nodup) (h : NamesTo Xs es ks) (hi : ∀ i, (Xs i).N[k]? = some x := by intro _; rfl)
    (hx : ∀ i, Loc (Xs i).env.scope x := by first | exact fun _ => Or.inl rfl | exact fun _ => Or.inr rfl) (hf : ∀ i, (Xs i).fn x = true ∨ (Xs i).env.scope.names.lookup x = some .local := by first | exact fun _ => .inl rfl | exact fun _ => .inr rfl)
    (hs : ∀ i, (assignEach (.Name x p :: es) (Xs i).env).map (·.2) = assign (.Name x p) (Xs i).env :: (assignEach es (Xs i).env).map (·.2) := by intro _; rfl) : NamesTo Xs (.Name x p :: es) (k :: ks) :=
  fun i => pgs_cons (pg_name (hN i) (hi i) (hx i) (hf i)) (h i) (hs i)
theorem gNames_run : ∀ {ks : List Nat} {vs : List V} {t : St} {H : Hp} {Q : St → Hp → Prop}, ks.length = vs.length → Q (storeT t ks vs) H → gNames ks vs t H Q
  | [], [], _, _, _, _, q => ⟨rfl, q⟩
  | [], _ :: _, _, _, _, h, _ => absurd h (by simp)
  | _ :: _, [], _, _, _, h, _ => absurd h (by simp)
  | k :: ks, v :: vs, t, H, Q, h, q => ⟨v, vs, rfl, gNames_run (Nat.succ.inj h) q⟩
theorem ss_parV {L R : Type} [Enc R] {Gq : L → List Sl} {m : M S U} {en : U → List (PyData × Bool)} {ks : List Nat} {pt : Pos} {kt k2 : Nat} {pt2 : Pos} {K : PySem.W.Frag} (h : EKA Xs F G fs m en) (hg : NamesTo Xs es ks) (hen : ∀ u, (en u).length = ks.length := by intro _; rfl) (hnd : ks.Nodup := by decide)
    (hz : ks.length ≤ 100 := by decide) (hno : noOwn G ks = true := by rfl) (hk : ks.all (fun k => Nat.blt k G.length) = true := by rfl) (hc : ∀ i, (Xs i).calm = true := by intro _; rfl) (hK : ∀ i, (Xs i).K = K := by intro _; rfl)
    (hn : ∀ i, (assignEach es (Xs i).env).length = ks.length := by intro _; rfl) (hst : ∀ i, (assignEach es (Xs i).env).findIdx? (·.1) = none := by intro _; rfl)
    (hs : ∀ i, swapsWithSole [.Tuple es kt pt] (.Tuple fs k2 pt2) pos.line (Xs i).env = pure false := by intro _; rfl) (hw : ∀ i, swappedStores [.Tuple es kt pt] (.Tuple fs k2 pt2) (Xs i).env = pure none := by intro _; rfl)
    (h1 : ∀ i, (assignEach [.Tuple es kt pt] (Xs i).env).map (·.2) = [assign (.Tuple es kt pt) (Xs i).env] := by intro _; rfl) :
    SS (R := R) (L := L) Xs F G (.Assign [.Tuple es kt pt] (.Tuple fs k2 pt2) pos) (bindM m fun u => pureM (.nx u)) (fun u => storeG G ks (en u)) Gq := by
  obtain ⟨ta, hp, ho⟩ := h
  refine ⟨tAsg (tTupB ta) (gTup K ks.length (gNames ks)), fun i => ps_asg (pe_tupB (hp i)) (by rw [← hK i]; exact pg_tup (hc i) (hg i) (hn i) (hst i)) (hs i) (hw i) (h1 i), fun Zx t H s r s' g hm D q => ?_⟩
  obtain ⟨u, s1, e1, e2⟩ := bind_some hm
  obtain ⟨rfl, rfl⟩ := pure_eq e2
  refine ho Zx t H s u s1 g e1 _ fun vs H1 ps g1 f1 hps hpn r1 => ?_
  have hl : ks.length = vs.length := by rw [r1.len, hen]
  refine ⟨?_, fun pp ob hn1 hb => ?_⟩
  · rw [← hl]
    exact Nat.le_trans hz (by rw [sizeLine_eq]; decide)
  · have sm : Same H1 (upd H1 pp (.frz ob (.tup vs))) := same_new hn1
    have g2 := g1.same sm
    have r2 := r1.ext (Fix.same sm).ext fun p _ o ho => sm p o ho
    refine ⟨pp, vs, rfl, .inl (.inr ⟨ob, upd_same⟩), hl.symm, gNames_run hl ?_⟩
    obtain ⟨g3, ow⟩ := g2.storeAll (ks := ks) r2 hno hnd (by rw [hen]) (fun k hk' => by
      have := List.all_eq_true.mp hk k hk'
      simpa using this) (fun p hp => ⟨fun z => F.trk _ _ _ g.at_ z (hps p hp), fun z => g.trk p z (hps p hp)⟩) hpn
    exact q _ _ g3 ⟨fun b o z _ h => sm b o (f1 b o z h), fun b z => ((ow b).mp z).imp id (hps b)⟩
end
end PL

namespace PL
open PySem L2 Enc
/-- data of a type: flat enough to be compared, equal exactly if the same -/
class LE (A : Type) [Enc A] where
  dp : Nat
  lay : ∀ x : A, (enc x).canLay0 = true ∧ (enc x).depth ≤ dp
  same : ∀ x y : A, PyData.eqv (enc x) (enc y) = true ↔ x = y
/-- .. and never None -/
class NN (A : Type) [Enc A] where
  nn : ∀ x : A, enc x ≠ PyData.none
instance : LE Int := ⟨0, fun x => ⟨show PyData.canLay0 (.int x) = true by simp [PyData.canLay0], show PyData.depth (.int x) ≤ 0 by simp [PyData.depth]⟩, fun x y => by
  show PyData.eqv (.int x) (.int y) = true ↔ _
  simp [PyData.eqv]⟩
instance : LE Bool := ⟨0, fun x => ⟨show PyData.canLay0 (.bool x) = true by simp [PyData.canLay0], show PyData.depth (.bool x) ≤ 0 by simp [PyData.depth]⟩, fun x y => by
  show PyData.eqv (.bool x) (.bool y) = true ↔ _
  simp [PyData.eqv]⟩
instance : NN Int := ⟨fun _ h => by cases h⟩
instance : NN Bool := ⟨fun _ h => by cases h⟩
instance : NN Str := ⟨fun _ h => by cases h⟩
section
variable {A B C D : Type} [Enc A] [Enc B] [Enc C] [Enc D] [LE A] [LE B] [LE C] [LE D]
theorem lay_all : ∀ l : List A, PyData.canLayAll0 (l.map enc) = true ∧ PyData.depthAll (l.map enc) ≤ LE.dp A
  | [] => ⟨by simp [PyData.canLayAll0], by simp [PyData.depthAll]⟩
  | x :: l => by
    obtain ⟨h1, h2⟩ := lay_all l
    obtain ⟨h3, h4⟩ := LE.lay x
    exact ⟨by simp [PyData.canLayAll0, h1, h3], by simp only [List.map_cons, PyData.depthAll]; omega⟩
theorem eqv_all : ∀ l m : List A, PyData.eqvAll (l.map enc) (m.map enc) = true ↔ l = m
  | [], [] => by simp [PyData.eqvAll]
  | [], _ :: _ => by simp [PyData.eqvAll]
  | _ :: _, [] => by simp [PyData.eqvAll]
  | x :: l, y :: m => by
    simp only [List.map_cons, PyData.eqvAll, Bool.and_eq_true, eqv_all l m, LE.same x y, List.cons.injEq]
instance : LE (List A) := ⟨LE.dp A + 1, fun l => by
  obtain ⟨h1, h2⟩ := lay_all l
  exact ⟨by show PyData.canLay0 (.list (l.map enc)) = true; simpa [PyData.canLay0] using h1, by show PyData.depth (.list (l.map enc)) ≤ _; simp only [PyData.depth]; omega⟩, fun l m => by
  show PyData.eqv (.list (l.map enc)) (.list (m.map enc)) = true ↔ _
  simp only [PyData.eqv, eqv_all]⟩
instance : LE (Tup A) := ⟨LE.dp A + 1, fun l => by
  obtain ⟨h1, h2⟩ := lay_all (unTup l)
  exact ⟨by show PyData.canLay0 (.tuple (List.map enc (unTup l))) = true; simpa [PyData.canLay0] using h1, by show PyData.depth (.tuple (List.map enc (unTup l))) ≤ _; simp only [PyData.depth]; omega⟩, fun l m => by
  show PyData.eqv (.tuple (List.map enc (unTup l))) (.tuple (List.map enc (unTup m))) = true ↔ _
  simp only [PyData.eqv]
  exact eqv_all (unTup l) (unTup m)⟩
instance : LE (A × B) := ⟨max (LE.dp A) (LE.dp B) + 1, fun x => by
  obtain ⟨h1, h2⟩ := LE.lay x.1
  obtain ⟨h3, h4⟩ := LE.lay x.2
  exact ⟨by show PyData.canLay0 (.tuple [enc x.1, enc x.2]) = true; simp [PyData.canLay0, PyData.canLayAll0, h1, h3], by show PyData.depth (.tuple [enc x.1, enc x.2]) ≤ _; simp only [PyData.depth, PyData.depthAll]; omega⟩, fun x y => by
  show PyData.eqv (.tuple [enc x.1, enc x.2]) (.tuple [enc y.1, enc y.2]) = true ↔ _
  obtain ⟨a, b⟩ := x
  obtain ⟨c, d⟩ := y
  simp only [PyData.eqv, PyData.eqvAll, Bool.and_eq_true, Bool.and_true, LE.same, Prod.mk.injEq]⟩
instance : LE (T3 A B C) := ⟨max (LE.dp A) (max (LE.dp B) (LE.dp C)) + 1, fun x => by
  obtain ⟨h1, h2⟩ := LE.lay x.a
  obtain ⟨h3, h4⟩ := LE.lay x.b
  obtain ⟨h5, h6⟩ := LE.lay x.c
  exact ⟨by show PyData.canLay0 (.tuple [enc x.a, enc x.b, enc x.c]) = true; simp [PyData.canLay0, PyData.canLayAll0, h1, h3, h5], by show PyData.depth (.tuple [enc x.a, enc x.b, enc x.c]) ≤ _; simp only [PyData.depth, PyData.depthAll]; omega⟩, fun x y => by
  show PyData.eqv (.tuple [enc x.a, enc x.b, enc x.c]) (.tuple [enc y.a, enc y.b, enc y.c]) = true ↔ _
  obtain ⟨a, b, c⟩ := x
  obtain ⟨d, e, f⟩ := y
  simp only [PyData.eqv, PyData.eqvAll, Bool.and_eq_true, Bool.and_true, LE.same, T3.mk.injEq]⟩
instance : NN (List A) := ⟨fun _ h => by cases h⟩
instance : NN (Tup A) := ⟨fun _ h => by cases h⟩
instance : NN (A × B) := ⟨fun _ h => by cases h⟩
instance : NN (T3 A B C) := ⟨fun _ h => by cases h⟩
theorem eqv_none {d : PyData} (h : d ≠ .none) : PyData.eqv .none d = false ∧ PyData.eqv d .none = false := by
  cases d <;> first | exact absurd rfl h | exact ⟨by simp [PyData.eqv], by simp [PyData.eqv]⟩
instance [NN A] : LE (Option A) := ⟨LE.dp A, fun x => match x with
  | none => ⟨show PyData.canLay0 .none = true by simp [PyData.canLay0], show PyData.depth .none ≤ _ by simp [PyData.depth]⟩
  | some x => LE.lay x, fun x y => by
  match x, y with
  | none, none => exact ⟨fun _ => rfl, fun _ => by show PyData.eqv .none .none = true; simp [PyData.eqv]⟩
  | none, some y =>
    show PyData.eqv .none (enc y) = true ↔ _
    rw [(eqv_none (NN.nn y)).1]
    simp
  | some x, none =>
    show PyData.eqv (enc x) .none = true ↔ _
    rw [(eqv_none (NN.nn x)).2]
    simp
  | some x, some y =>
    show PyData.eqv (enc x) (enc y) = true ↔ _
    rw [LE.same]
    simp⟩
theorem shp_of {x : A} (h : LE.dp A ≤ 64 := by decide) : shpOk x := by
  obtain ⟨h1, h2⟩ := LE.lay x
  show ((enc x).canLay0 && decide ((enc x).depth ≤ 64)) = true
  rw [h1, decide_eq_true (Nat.le_trans h2 h)]
  rfl
theorem shp_two {x : A} {y : B} (h : LE.dp A ≤ 64 := by decide) (h2 : LE.dp B ≤ 64 := by decide) : shpOk x ∧ shpOk y := ⟨shp_of h, shp_of h2⟩
theorem eqv_yes {x y : A} (h : x = y) : PyData.eqv (enc x) (enc y) = true := (LE.same x y).mpr h
theorem eqv_no {x y : A} (h : x ≠ y) : PyData.eqv (enc x) (enc y) = false := by
  cases e : PyData.eqv (enc x) (enc y) with
  | false => rfl
  | true => exact absurd ((LE.same x y).mp e) h
end
end PL

namespace PL
open PySem L2 Enc
section
variable {A B S R N L : Type}
theorem putD_new {l : List (Int × A)} {k : Int} {x : A} (h : k ∉ l.map (·.1)) : putD (toDic l) k x = toDic (l ++ [(k, x)]) := by
  unfold putD
  have e : ((unDic (toDic l)).any fun p => decide (p.1 = k)) = false := by
    rw [List.any_eq_false]
    intro p hp z
    exact h (List.mem_map.mpr ⟨p, hp, of_decide_eq_true z⟩)
  rw [e]
  rfl
theorem mkD_go : ∀ (l acc : List (Int × A)), ((acc ++ l).map (·.1)).Nodup → l.foldl (fun d p => putD d p.1 p.2) (toDic acc) = toDic (acc ++ l)
  | [], acc, _ => by rw [List.append_nil]; rfl
  | p :: l, acc, h => by
    have hn : p.1 ∉ acc.map (·.1) := fun z => by
      rw [List.map_append, List.nodup_append] at h
      exact h.2.2 _ z _ (by rw [List.map_cons]; exact List.mem_cons_self) rfl
    rw [List.foldl_cons, putD_new hn]
    have e : acc ++ p :: l = (acc ++ [(p.1, p.2)]) ++ l := by simp
    rw [e] at h ⊢
    exact mkD_go l _ h
theorem mkD_nd {l : List (Int × A)} (h : (l.map (·.1)).Nodup) : mkD l = toDic l := mkD_go l [] (by simpa using h)
theorem loop_put {f : Dic B → A → M S (Fl (Dic B) (Dic B) R)} {kf : A → Int} {vf : A → B} : ∀ (l : List A) (acc : List (Int × B)), ((acc ++ l.map fun x => (kf x, vf x)).map (·.1)).Nodup → acc.length + l.length ≤ 16777216 →
    (∀ s x, x ∈ l → f s x = guardM (lenOk ((unDic s).length + 1)) (pureM (.nx (putD s (kf x) (vf x))))) → loopM f l (toDic acc) = pureM (.nx (toDic (acc ++ l.map fun x => (kf x, vf x))))
  | [], acc, _, _, _ => by rw [List.map_nil, List.append_nil]; rfl
  | x :: l, acc, h, hl, hf => by
    rw [List.length_cons] at hl
    have hn : kf x ∉ acc.map (·.1) := fun z => by
      rw [List.map_append, List.nodup_append] at h
      exact h.2.2 _ z _ (by rw [List.map_cons, List.map_cons]; exact List.mem_cons_self) rfl
    show bindM (f (toDic acc) x) _ = _
    rw [hf _ x List.mem_cons_self, guard_true (show lenOk ((unDic (toDic acc)).length + 1) from (show acc.length + 1 ≤ 16777216 by omega)), bind_pure]
    show loopM f l (putD (toDic acc) (kf x) (vf x)) = _
    rw [putD_new hn]
    have e : acc ++ (x :: l).map (fun x => (kf x, vf x)) = (acc ++ [(kf x, vf x)]) ++ l.map fun x => (kf x, vf x) := by simp
    rw [e] at h ⊢
    exact loop_put l _ h (by rw [List.length_append, List.length_singleton]; omega) fun s x hx => hf s x (List.mem_cons_of_mem _ hx)
theorem seq_put {f : Dic B → A → M S (Fl (Dic B) (Dic B) R)} (kf : A → Int) (vf : A → B) {l : List A} {k : Dic B → M S (Fl N L R)} (h : (l.map kf).Nodup) (hl : l.length ≤ 16777216)
    (hf : ∀ s x, x ∈ l → f s x = guardM (lenOk ((unDic s).length + 1)) (pureM (.nx (putD s (kf x) (vf x))))) : seqM (liftM (loopM f l (toDic []))) k = k (toDic (l.map fun x => (kf x, vf x))) := by
  rw [loop_put (kf := kf) (vf := vf) l [] (by simpa [Function.comp_def] using h) (by simpa using hl) hf]
  rfl
theorem cutL_take {l : List A} (n : Nat) : cutL none (some (n : Int)) l = l.take n := by
  have e : HT.sIx l.length l.length (some (n : Int)) = min n l.length := by
    show (if (n : Int) < 0 then ((n : Int) + (l.length : Int)).toNat else min (n : Int).toNat l.length) = _
    rw [if_neg (by omega), Int.toNat_natCast]
  show (l.drop 0).take (HT.sIx l.length l.length (some (n : Int)) - 0) = _
  rw [e, List.drop_zero, Nat.sub_zero]
  rw [← List.take_take, List.take_length]
theorem nd_of_lt {l : List Int} (h : l.Pairwise (· < ·)) : l.Nodup := h.imp fun h => by omega
end
theorem valD_mem {A : Type} : ∀ {l : List (Int × A)} {k : Int} {w : A}, valD (toDic l) k = some w → ∃ x ∈ l, x.1 = k ∧ x.2 = w
  | [], k, w, h => by cases h
  | p :: l, k, w, h => by
    unfold valD at h
    have h : ((p :: l).find? fun p => decide (p.1 = k)).map (·.2) = some w := h
    cases e : (p :: l).find? fun p => decide (p.1 = k) with
    | none =>
      rw [e] at h
      cases h
    | some q =>
      rw [e] at h
      cases h
      exact ⟨q, List.mem_of_find?_eq_some e, by simpa using List.find?_some e, rfl⟩
end PL

namespace PL
open PySem L2 Enc PySem.W
section
variable {A : Type} [Enc A]
def leD (x y : A) : Bool := dataLe false enc x y
def sortD (l : List A) : List A := l.mergeSort leD
theorem sortD_perm (l : List A) : (sortD l).Perm l := List.mergeSort_perm l _
/-- data that may be sorted: tuples with a first item, or none of them a tuple or None -/
def rSortDat (A : Type) [Enc A] (K : PySem.W.Frag) : List V → Hp → VK → Prop := fun vs H Q => ∃ (a : Addr) (ps : List (V × A)), vs = [.ref a] ∧ SqL K H a (ps.map (·.1)) ∧ (∀ p ∈ ps, Dp K H p.1 (enc p.2)) ∧ AllAlike (ps.map fun p => enc p.2) ∧ Sortable (ps.map fun p => enc p.2) ∧
  (∀ p ∈ ps, (enc p.2).depth ≤ 60) ∧ ∀ q, H q = none → Q (.ref q) (upd H q (.lst ((ps.mergeSort fun x y => leD x.2 y.2).map (·.1))))
theorem each_of {P : Value → V × A → Prop} : ∀ {ps : List (V × A)} {us : List Value}, Vals (ps.map (·.1)) us → (∀ p ∈ ps, ∀ u, RelV p.1 u → P u p) → EachIs P us ps
  | [], _, r, _ => by
    cases r
    exact .nil
  | p :: ps, _, r, h => by
    cases r with
    | cons r1 t => exact .cons (h p List.mem_cons_self _ r1) (each_of t fun q hq => h q (List.mem_cons_of_mem _ hq))
theorem vals_of : ∀ {ps : List (V × A)} {us : List Value}, EachIs (fun u p => RelV p.1 u) us ps → Vals (ps.map (·.1)) us
  | [], _, .nil => .nil
  | _ :: _, _, .cons r t => .cons r (vals_of t)
theorem cr_sortDat {X : Cx} {k : Nat} (hr : Room k X.A) : CallR X (.builtin "sorted") (rSortDat A X.K) := by
  intro pins s σ H vs us Q I r h
  obtain ⟨a, ps, rfl, hs, hd, hal, hk, hdep, q⟩ := h
  obtain ⟨u, rfl, ru⟩ := vals1 r
  obtain rfl : u = Value.ref a := ru
  obtain ⟨its, rv, hl, hz⟩ := I.list hs
  have hu := hr.units
  refine sorted_data (bs := ps) (enc := fun p => enc p.2) (R := fun u p => RelV p.1 u) hl.isList (each_of rv fun p _ u ru => ru) (each_of rv fun p hp u ru => Dp.reads I _ _ _ (hd p hp) ru) hal hk (by rw [List.length_map] at hz; exact hz) (fun p hp => by have := hdep p hp; omega) fun out lo eo => ?_
  obtain ⟨ep, he⟩ := PyProof.Rows.sortedAll_at s.heap its out.toArray
  have ln : ((ps.mergeSort fun x y => leD x.2 y.2).map (·.1)).length ≤ sizeLine := by
    rw [List.length_map, (List.mergeSort_perm _ _).length_eq]
    rw [List.length_map] at hz
    exact hz
  have new : ObjOk X.prog X.w (upd H (s.heap.objs.size + 1) (.lst ((ps.mergeSort fun x y => leD x.2 y.2).map (·.1)))) (PyProof.Rows.sortedAll s.heap its out.toArray) (s.heap.objs.size + 1) (.lst ((ps.mergeSort fun x y => leD x.2 y.2).map (·.1))) := ⟨ln, out, ep, vals_of eo, he⟩
  exact ⟨.ref (s.heap.objs.size + 1), _, I.laid (t' := s.toks) (fun _ _ => PyProof.Rows.sortedAll_old) (Nat.le_succ _) new, rfl, q _ (I.hok.fresh (Nat.le_succ _))⟩
end
/-- any two can be compared by < -/
class AL (A : Type) [Enc A] where
  al : ∀ x y : A, alike (enc x) (enc y) = true
/-- and sorted -/
class SO (A : Type) [Enc A] extends AL A where
  tp : (∀ x : A, ∃ y r, enc x = PyData.tuple (y :: r)) ∨ ∀ x : A, enc x ≠ .none ∧ ∀ xs, enc x ≠ .tuple xs
section
variable {A B C : Type} [Enc A] [Enc B] [Enc C]
instance : AL Int := ⟨fun x y => by show alike (.int x) (.int y) = true; simp [alike]⟩
instance : AL Bool := ⟨fun x y => by show alike (.bool x) (.bool y) = true; simp [alike]⟩
instance : SO Int := ⟨.inr fun x => ⟨(fun h => PyData.noConfusion h), (fun xs h => PyData.noConfusion h)⟩⟩
theorem al_all [AL A] : ∀ l m : List A, alikeAll (l.map enc) (m.map enc) = true
  | [], _ => by simp [alikeAll]
  | _ :: _, [] => by simp [alikeAll]
  | x :: l, y :: m => by simp [alikeAll, AL.al x y, al_all l m]
instance [AL A] : AL (List A) := ⟨fun l m => by show alike (.list (l.map enc)) (.list (m.map enc)) = true; simp [alike, al_all]⟩
instance [AL A] : AL (Tup A) := ⟨fun l m => by
  show alike (.tuple (List.map enc (unTup l))) (.tuple (List.map enc (unTup m))) = true
  simp only [alike]
  exact al_all _ _⟩
instance [AL A] [AL B] : AL (A × B) := ⟨fun x y => by show alike (.tuple [enc x.1, enc x.2]) (.tuple [enc y.1, enc y.2]) = true; simp [alike, alikeAll, AL.al]⟩
instance [AL A] [AL B] [AL C] : AL (T3 A B C) := ⟨fun x y => by show alike (.tuple [enc x.a, enc x.b, enc x.c]) (.tuple [enc y.a, enc y.b, enc y.c]) = true; simp [alike, alikeAll, AL.al]⟩
instance [AL A] [AL B] : SO (A × B) := ⟨.inl fun x => ⟨_, _, rfl⟩⟩
instance [AL A] [AL B] [AL C] : SO (T3 A B C) := ⟨.inl fun x => ⟨_, _, rfl⟩⟩
theorem pairs_up {Z : Addr → Prop} {H : Hp} : ∀ {l : List A} {xs : List V}, RpL Z H xs (l.map enc) → ∃ ps : List (V × A), ps.map (·.1) = xs ∧ ps.map (·.2) = l ∧ ∀ p ∈ ps, Rp Z H p.1 (enc p.2)
  | [], _, r => by
    cases r
    exact ⟨[], rfl, rfl, fun p h => absurd h List.not_mem_nil⟩
  | x :: l, _, r => by
    cases r with
    | cons h t =>
      obtain ⟨ps, e1, e2, e3⟩ := pairs_up t
      refine ⟨(_, x) :: ps, by rw [List.map_cons, e1], by rw [List.map_cons, e2], fun p hp => ?_⟩
      rcases List.mem_cons.mp hp with rfl | hp
      · exact h
      · exact e3 p hp
theorem pairs_down {Z : Addr → Prop} {H : Hp} : ∀ {ps : List (V × A)}, (∀ p ∈ ps, Rp Z H p.1 (enc p.2)) → RpL Z H (ps.map (·.1)) ((ps.map (·.2)).map enc)
  | [], _ => .nil
  | p :: ps, h => .cons (h p List.mem_cons_self) (pairs_down fun q hq => h q (List.mem_cons_of_mem _ hq))
end
section
variable {I S A : Type} [Enc A] [LE A] [SO A] {Xs : I → Cx} {F : Fm S} {G : List Sl} {pos p p2 : Pos} {a : Expr} {K : PySem.W.Frag}
def sortM (m : M S (List A)) : M S (List A) := mapM1 sortD m
theorem ev_sorted {m : M S (List A)} {k : Nat} (hr : ∀ i, Room k (Xs i).A) (hm : ∀ i, (Xs i).mg "sorted" = none) (h : EV Xs F G a m) (hl : LE.dp A ≤ 60 := by decide) (hg : ∀ i, Gl (Xs i) "sorted" := by intro _; rfl)
    (he : ∀ i, starEach [a] (Xs i).env = (false, eval a (Xs i).env) :: starEach [] (Xs i).env := by intro _; rfl) (hK : ∀ i, (Xs i).K = K := by intro _; rfl) : EV Xs F G (.Call (.Name "sorted" p) [a] [] pos) (sortM m) := by
  refine EV.eq (ev_b1 (f := fun l : List A => some (sortD l)) (r := rSortDat A K) (fun i => by rw [← hK i]; exact cr_sortDat (hr i)) (fun F Zx G s t H u vs z g r e Q q => ?_) hm bb_sorted h hg (by decide) (by decide) he) rfl
  obtain ⟨v, rfl, rv⟩ := r.one
  obtain ⟨pp, xs, rfl, n, h, l⟩ := rv.toLst
  cases e
  obtain ⟨ps, e1, e2, e3⟩ := pairs_up (l := u.1) l
  subst e1
  refine ⟨pp, ps, rfl, SqL.of h, fun p hp => (e3 p hp).dp (LE.lay _).1, AllAlike.of fun b b' => AL.al _ _, ?_, fun p hp => Nat.le_trans (LE.lay _).2 hl, fun pn hn => ?_⟩
  · rcases SO.tp (A := A) with t | t
    · exact Sortable.tuples fun b => t b.2
    · exact Sortable.others fun b => t b.2
  · have sm : Same H (upd H pn (.lst ((ps.mergeSort fun x y => leD x.2 y.2).map (·.1)))) := same_new hn
    refine q _ _ sm (.lst (g.new hn) upd_same ?_)
    have e4 : sortD u.1 = (ps.mergeSort fun x y => leD x.2 y.2).map (·.2) := by
      rw [← e2]
      exact (List.map_mergeSort (f := fun p : V × A => p.2) (r := fun x y => leD x.2 y.2) (s := leD) fun x _ y _ => rfl).symm
    show RpL _ _ _ (List.map enc (sortD u.1))
    rw [e4]
    exact (pairs_down fun p hp => e3 p ((List.mergeSort_perm _ _).mem_iff.mp hp)).fix (Fix.same sm)
end
end PL

namespace PL
open PySem L2 Enc
structure DkB where
  cells : List Int
  n : Int
  rests : List Int
  al : Bool
structure DkBA where
  d : Addr
  c : Addr
  r : Addr
  ne1 : d ≠ c
  ne2 : d ≠ r
def fmB (k : DkBA) : Fm DkB where
  Z := fun b => b = k.d ∨ b = k.c ∨ b = k.r
  at_ := fun s H => H k.d = some (.lst [.ref k.c, .int s.n, .ref k.r]) ∧ H k.c = some (.lst (s.cells.map V.int)) ∧ H k.r = some (.lst (s.rests.map V.int)) ∧ (s.al = true ↔ k.c = k.r)
  loc := fun s H H' h ⟨a, b, c, d⟩ => ⟨by rw [h _ (.inl rfl)]; exact a, by rw [h _ (.inr (.inl rfl))]; exact b, by rw [h _ (.inr (.inr rfl))]; exact c, d⟩
  trk := fun s H b ⟨h1, h2, h3, _⟩ z => by
    rcases z with z | z | z
    · rw [z, h1]
      intro q
      cases q
    · rw [z, h2]
      intro q
      cases q
    · rw [z, h3]
      intro q
      cases q
def rootB (k : DkBA) : Addr := k.d
def dkbN : M DkB Int := fun s => some (s.n, s)
def rdLen {S : Type} (get : S → List Int) : M S Int := fun s => some (((get s).length : Int), s)
def rdAt {S : Type} (get : S → List Int) (i : Int) : M S Int := fun s => (atI (get s) i).map fun x => (x, s)
def dkbSetN (x : Int) : M DkB Unit := fun s => some ((), { s with n := x })
def dkbSet (i x : Int) : M DkB Unit := fun s => (ixN s.rests.length i).map fun j => ((), { s with rests := s.rests.set j x, cells := if s.al = true then s.cells.set j x else s.cells })
section
variable {S : Type} {F : Fm S}
theorem own_setR {G : List Sl} {k : Nat} {v : V} {t : St} {o : Option V} (h : noOwn G [k] = true) (b : Addr) : Own (G.set k (.raw v)) (t.set k o) b ↔ Own G t b := by
  constructor
  · rintro ⟨i, d', h1, h2⟩
    by_cases hi : k = i
    · subst hi
      rw [List.getElem?_set] at h1
      by_cases hl : k < G.length
      · rw [if_pos rfl, if_pos hl] at h1
        cases h1
      · rw [if_pos rfl, if_neg hl] at h1
        cases h1
    · rw [List.getElem?_set_ne hi] at h1 h2
      exact ⟨i, d', h1, h2⟩
  · rintro ⟨i, d', h1, h2⟩
    have hi : k ≠ i := fun z => by
      subst z
      exact noOwn_at h List.mem_cons_self h1
    exact ⟨i, d', by rw [List.getElem?_set_ne hi]; exact h1, by rw [List.getElem?_set_ne hi]; exact h2⟩
theorem Gd.setR {G : List Sl} {Zx : Addr → Prop} {s : S} {t : St} {H : Hp} {k : Nat} {v : V} (g : Gd F Zx G s t H) (h : noOwn G [k] = true) : Gd F Zx (G.set k (.raw v)) s (t.set k (some v)) H := by
  have own := fun b => own_setR (v := v) (t := t) (o := some v) h b
  have ez : ZF F Zx (G.set k (.raw v)) (t.set k (some v)) = ZF F Zx G t := funext fun b => propext ⟨fun z => z.imp id (Or.imp id (own b).mp), fun z => z.imp id (Or.imp id (own b).mpr)⟩
  refine ⟨by rw [List.length_set, List.length_set]; exact g.len, g.at_, g.trk, fun i l o h1 h2 => ?_, fun i j d1 d2 p h1 h2 h3 h4 => ?_, fun p z => g.sep p ((own p).mp z)⟩
  · rw [ez]
    by_cases hi : k = i
    · subst hi
      rw [List.getElem?_set] at h1 h2
      by_cases hl : k < G.length
      · rw [if_pos rfl, if_pos hl] at h1
        rw [if_pos rfl, if_pos (by rw [g.len]; exact hl)] at h2
        cases h1
        cases h2
        rfl
      · rw [if_pos rfl, if_neg hl] at h1
        cases h1
    · rw [List.getElem?_set_ne hi] at h1 h2
      exact g.slot i l o h1 h2
  · have hi : ∀ {i : Nat} {d' : PyData}, (G.set k (.raw v))[i]? = some (.own d') → k ≠ i := fun {i d'} q z => by
      subst z
      rw [List.getElem?_set] at q
      by_cases hl : k < G.length
      · rw [if_pos rfl, if_pos hl] at q
        cases q
      · rw [if_pos rfl, if_neg hl] at q
        cases q
    have ni := hi h1
    have nj := hi h2
    rw [List.getElem?_set_ne ni] at h1 h3
    rw [List.getElem?_set_ne nj] at h2 h4
    exact g.inj i j d1 d2 p h1 h2 h3 h4
end
section
variable {I S : Type} {Xs : I → Cx} {F : Fm S} {G : List Sl} {pos p p2 : Pos} {a b c e : Expr} {x y z : Str} {j : Nat} {K : PySem.W.Frag} {get : S → List Int} {pa : Addr}
/-- x[b], x a list of ints of the frame -/
theorem ev_rawIx {m : M S Int} (ha : ∀ s H, F.at_ s H → H pa = some (.lst ((get s).map V.int))) (h : G[j]? = some (.raw (.ref pa))) (hb : EV Xs F G b m) (hs : PlainIx b := by exact fun _ _ => rfl) (hN : ∀ i, (Xs i).N[j]? = some x := by intro _; rfl)
    (hv : ∀ i, Vis (Xs i).env.scope x := by first | exact fun _ => Or.inl rfl | exact fun _ => Or.inr (Or.inl rfl) | exact fun _ => Or.inr (Or.inr rfl))
    (hd : (x == ("__debug__" : Str)) = false := by decide) (hcd : (x == ("__classdict__" : Str)) = false := by decide) (hK : ∀ i, (Xs i).K = K := by intro _; rfl) :
    EV Xs F G (.Subscript (.Name x p) b pos) (bindM m (rdAt get)) := by
  obtain ⟨tb, hp, ho⟩ := hb
  refine ⟨tOp (rIxL K) (tVar j) tb, fun i => by rw [← hK i]; exact pe_ix ix_list (pe_var (hN i) (hv i) hd hcd) (hp i) hs, fun Zx t H s y s' g hm Q q => ?_⟩
  obtain ⟨z, s1, h1, h2⟩ := bind_some hm
  refine ⟨_, g.raw h, ?_⟩
  refine ho Zx t H s z s1 g h1 _ fun v H1 g1 f1 r1 => ?_
  obtain rfl := r1.toInt
  unfold rdAt at h2
  cases e : atI (get s1) z with
  | none =>
    rw [e] at h2
    cases h2
  | some w =>
    rw [e] at h2
    cases h2
    refine ⟨pa, _, z, .int y, rfl, rfl, SqL.of (ha _ _ g1.at_), ?_, q _ H1 g1 f1 (.int _)⟩
    rw [atI_map, e]
    rfl
theorem ev_rawLen (hm : ∀ i, (Xs i).mg "len" = none) (ha : ∀ s H, F.at_ s H → H pa = some (.lst ((get s).map V.int))) (h : G[j]? = some (.raw (.ref pa))) (hN : ∀ i, (Xs i).N[j]? = some x := by intro _; rfl)
    (hv : ∀ i, Vis (Xs i).env.scope x := by first | exact fun _ => Or.inl rfl | exact fun _ => Or.inr (Or.inl rfl) | exact fun _ => Or.inr (Or.inr rfl))
    (hd : (x == ("__debug__" : Str)) = false := by decide) (hcd : (x == ("__classdict__" : Str)) = false := by decide) (hg : ∀ i, Gl (Xs i) "len" := by intro _; rfl)
    (he : ∀ i, starEach [.Name x p] (Xs i).env = (false, eval (.Name x p) (Xs i).env) :: starEach [] (Xs i).env := by intro _; rfl) (hK : ∀ i, (Xs i).K = K := by intro _; rfl) :
    EV Xs F G (.Call (.Name "len" p2) [.Name x p] [] pos) (rdLen get) := by
  refine ⟨tCB (fun xs H Q => ∃ p ys, xs = [.ref p] ∧ (SqL K H p ys ∨ SqT K H p ys) ∧ Q (.int ys.length) H) (tCons (tVar j) tNil), fun i => by
    rw [← hK i]
    exact pe_callB call_len_seq (hg i) (hm i) bb_len (pa_cons (pe_var (hN i) (hv i) hd hcd) pa_nil (he i)) (by decide) (by decide) (he i) rfl, fun Zx t H s y s' g hm' Q q => ?_⟩
  cases hm'
  refine ⟨_, g.raw h, pa, _, rfl, .inl (SqL.of (ha _ _ g.at_)), ?_⟩
  rw [List.length_map]
  exact q _ H g (Fix.refl H) (.int _)
end
section
variable {I : Type} {Xs : I → Cx} {k : DkBA} {G : List Sl} {pos p p2 : Pos} {a b c e : Expr} {x y z y1 y2 y3 : Str} {j : Nat} {K : PySem.W.Frag}
def cellsB (s : DkB) : List Int := s.cells
def restsB (s : DkB) : List Int := s.rests
theorem fmB_c : ∀ s H, (fmB k).at_ s H → H k.c = some (.lst ((cellsB s).map V.int)) := fun s H h => h.2.1
theorem fmB_r : ∀ s H, (fmB k).at_ s H → H k.r = some (.lst ((restsB s).map V.int)) := fun s H h => h.2.2.1
/-- cells, count, rests = deck -/
theorem ss_dkbOpen {L R : Type} [Enc R] {Gl : L → List Sl} {i1 i2 i3 kt : Nat} {p1 p3 tp : Pos} (h : G[j]? = some (.raw (.ref (rootB k)))) (hnd : ∀ i, (Xs i).N.Nodup) (hno1 : noOwn G [i1] = true := by rfl) (hno2 : noOwn (G.set i1 (.raw (.ref k.c))) [i2] = true := by rfl)
    (hno3 : ∀ y : Int, noOwn ((G.set i1 (.raw (.ref k.c))).set i2 (.dat (enc y))) [i3] = true := by intro _; rfl)
    (hN : ∀ i, (Xs i).N[j]? = some x := by intro _; rfl) (hv : ∀ i, Vis (Xs i).env.scope x := by first | exact fun _ => Or.inl rfl | exact fun _ => Or.inr (Or.inl rfl) | exact fun _ => Or.inr (Or.inr rfl))
    (hd : (x == ("__debug__" : Str)) = false := by decide) (hcd : (x == ("__classdict__" : Str)) = false := by decide)
    (hi1 : ∀ i, (Xs i).N[i1]? = some y1 := by intro _; rfl) (hx1 : ∀ i, Loc (Xs i).env.scope y1 := by first | exact fun _ => Or.inl rfl | exact fun _ => Or.inr rfl) (hf1 : ∀ i, (Xs i).fn y1 = true ∨ (Xs i).env.scope.names.lookup y1 = some .local := by first | exact fun _ => .inl rfl | exact fun _ => .inr rfl)
    (hi2 : ∀ i, (Xs i).N[i2]? = some y2 := by intro _; rfl) (hx2 : ∀ i, Loc (Xs i).env.scope y2 := by first | exact fun _ => Or.inl rfl | exact fun _ => Or.inr rfl) (hf2 : ∀ i, (Xs i).fn y2 = true ∨ (Xs i).env.scope.names.lookup y2 = some .local := by first | exact fun _ => .inl rfl | exact fun _ => .inr rfl)
    (hi3 : ∀ i, (Xs i).N[i3]? = some y3 := by intro _; rfl) (hx3 : ∀ i, Loc (Xs i).env.scope y3 := by first | exact fun _ => Or.inl rfl | exact fun _ => Or.inr rfl) (hf3 : ∀ i, (Xs i).fn y3 = true ∨ (Xs i).env.scope.names.lookup y3 = some .local := by first | exact fun _ => .inl rfl | exact fun _ => .inr rfl)
    (hc : ∀ i, (Xs i).calm = true := by intro _; rfl) (hK : ∀ i, (Xs i).K = K := by intro _; rfl)
    (hn : ∀ i, (assignEach [.Name y1 p1, .Name y2 p2, .Name y3 p3] (Xs i).env).length = 3 := by intro _; rfl) (hst : ∀ i, (assignEach [.Name y1 p1, .Name y2 p2, .Name y3 p3] (Xs i).env).findIdx? (·.1) = none := by intro _; rfl)
    (hg1 : ∀ i, (assignEach [.Name y1 p1, .Name y2 p2, .Name y3 p3] (Xs i).env).map (·.2) = assign (.Name y1 p1) (Xs i).env :: (assignEach [.Name y2 p2, .Name y3 p3] (Xs i).env).map (·.2) := by intro _; rfl)
    (hg2 : ∀ i, (assignEach [.Name y2 p2, .Name y3 p3] (Xs i).env).map (·.2) = assign (.Name y2 p2) (Xs i).env :: (assignEach [.Name y3 p3] (Xs i).env).map (·.2) := by intro _; rfl)
    (hg3 : ∀ i, (assignEach [.Name y3 p3] (Xs i).env).map (·.2) = assign (.Name y3 p3) (Xs i).env :: (assignEach [] (Xs i).env).map (·.2) := by intro _; rfl)
    (hs : ∀ i, swapsWithSole [.Tuple [.Name y1 p1, .Name y2 p2, .Name y3 p3] kt tp] (.Name x p) pos.line (Xs i).env = pure false := by intro _; rfl) (hw : ∀ i, swappedStores [.Tuple [.Name y1 p1, .Name y2 p2, .Name y3 p3] kt tp] (.Name x p) (Xs i).env = pure none := by intro _; rfl)
    (h1 : ∀ i, (assignEach [.Tuple [.Name y1 p1, .Name y2 p2, .Name y3 p3] kt tp] (Xs i).env).map (·.2) = [assign (.Tuple [.Name y1 p1, .Name y2 p2, .Name y3 p3] kt tp) (Xs i).env] := by intro _; rfl) :
    SS (R := R) (L := L) Xs (fmB k) G (.Assign [.Tuple [.Name y1 p1, .Name y2 p2, .Name y3 p3] kt tp] (.Name x p) pos) (bindM dkbN fun y => pureM (.nx y)) (fun y : Int => ((G.set i1 (.raw (.ref k.c))).set i2 (.dat (enc y))).set i3 (.raw (.ref k.r))) Gl := by
  refine ⟨tAsg (tVar j) (gLst K 3 (gCons (gName i1) (gCons (gName i2) (gCons (gName i3) gNil)))), fun i => ps_asg (pe_var (hN i) (hv i) hd hcd) (by
    rw [← hK i]
    exact pg_lst (hc i) (pgs_cons (pg_name (hnd i) (hi1 i) (hx1 i) (hf1 i)) (pgs_cons (pg_name (hnd i) (hi2 i) (hx2 i) (hf2 i)) (pgs_cons (pg_name (hnd i) (hi3 i) (hx3 i) (hf3 i)) pgs_nil (hg3 i)) (hg2 i)) (hg1 i)) (hn i) (hst i)) (hs i) (hw i) (h1 i), fun Zx t H s r s' g hm D q => ?_⟩
  obtain ⟨n, s1, e1, e2⟩ := bind_some hm
  obtain ⟨rfl, rfl⟩ := pure_eq e2
  cases e1
  refine ⟨_, g.raw h, k.d, _, rfl, SqL.of g.at_.1, rfl, _, _, rfl, _, _, rfl, _, _, rfl, rfl, ?_⟩
  have o1 : ∀ b, Own _ _ b ↔ Own G t b := fun b => own_setR (v := .ref k.c) (o := some (.ref k.c)) hno1 b
  have g1 := g.setR (v := .ref k.c) hno1
  have g2 := g1.set (d := enc s.n) (v := .int s.n) hno2 (.int _)
  have o2 : ∀ b, Own _ _ b ↔ Own _ _ b := fun b => own_set (t := t.set i1 (some (.ref k.c))) (d := enc s.n) (o := some (.int s.n)) hno2 b
  have g3 := g2.setR (v := .ref k.r) (hno3 s.n)
  have o3 : ∀ b, Own _ _ b ↔ Own _ _ b := fun b => own_setR (t := (t.set i1 (some (.ref k.c))).set i2 (some (.int s.n))) (v := .ref k.r) (o := some (.ref k.r)) (hno3 s.n) b
  exact q _ H g3 ⟨fun x o _ _ h => h, fun x z => .inl ((o1 x).mp ((o2 x).mp ((o3 x).mp z)))⟩
/-- deck[1] = e -/
theorem ss_dkbN {L R : Type} [Enc R] {Gl : L → List Sl} {m : M DkB Int} {j0 : Nat} {q1 q2 : Pos} (h : G[j]? = some (.raw (.ref (rootB k)))) (hb : EV Xs (fmB k) G e m) (hN : ∀ i, (Xs i).N[j]? = some x := by intro _; rfl)
    (hv : ∀ i, Vis (Xs i).env.scope x := by first | exact fun _ => Or.inl rfl | exact fun _ => Or.inr (Or.inl rfl) | exact fun _ => Or.inr (Or.inr rfl))
    (hd : (x == ("__debug__" : Str)) = false := by decide) (hcd : (x == ("__classdict__" : Str)) = false := by decide)
    (hs : ∀ i, swapsWithSole [.Subscript (.Name x p) (.Constant (.int 1) j0 q1) q2] e pos.line (Xs i).env = pure false := by intro _; rfl) (hw : ∀ i, swappedStores [.Subscript (.Name x p) (.Constant (.int 1) j0 q1) q2] e (Xs i).env = pure none := by intro _; rfl)
    (h1 : ∀ i, (assignEach [.Subscript (.Name x p) (.Constant (.int 1) j0 q1) q2] (Xs i).env).map (·.2) = [assign (.Subscript (.Name x p) (.Constant (.int 1) j0 q1) q2) (Xs i).env] := by intro _; rfl) :
    SS (R := R) (L := L) Xs (fmB k) G (.Assign [.Subscript (.Name x p) (.Constant (.int 1) j0 q1) q2] e pos) (bindM m fun y => bindM (dkbSetN y) fun _ => pureM (.nx ())) (fun _ => G) Gl := by
  obtain ⟨te, hp, ho⟩ := hb
  refine ⟨tAsg te (gSub (tVar j) (tC (.int 1)) rSetL), fun i => ps_asg (hp i) (pg_sub (pe_var (hN i) (hv i) hd hcd) pe_int set_list) (hs i) (hw i) (h1 i), fun Zx t H s r s' g hm D q => ?_⟩
  obtain ⟨z, s1, e1, e2⟩ := bind_some hm
  obtain ⟨u, s2, e3, e4⟩ := bind_some e2
  obtain ⟨rfl, rfl⟩ := pure_eq e4
  cases e3
  refine ho Zx t H s z s1 g e1 _ fun v H1 g1 f1 r1 => ?_
  obtain rfl := r1.toInt
  refine ⟨_, g1.raw h, k.d, _, 1, 1, rfl, rfl, g1.at_.1, rfl, ?_⟩
  have fx : Fix (fmB k) H1 (upd H1 k.d (.lst [.ref k.c, .int z, .ref k.r])) := fun b o z' h' => by
    rw [upd_ne (fun w => z' (.inl w))]
    exact h'
  exact q t _ (g1.fix fx ⟨upd_same, by rw [upd_ne k.ne1.symm]; exact g1.at_.2.1, by rw [upd_ne k.ne2.symm]; exact g1.at_.2.2.1, g1.at_.2.2.2⟩) (Stp.fix (f1.trans fx))
/-- rests[b] = e -/
theorem ss_dkbR {L R : Type} [Enc R] {Gl : L → List Sl} {m n : M DkB Int} {q2 : Pos} (h : G[j]? = some (.raw (.ref k.r))) (hb : EV Xs (fmB k) G e m) (hi : EV Xs (fmB k) G b n) (hN : ∀ i, (Xs i).N[j]? = some x := by intro _; rfl)
    (hv : ∀ i, Vis (Xs i).env.scope x := by first | exact fun _ => Or.inl rfl | exact fun _ => Or.inr (Or.inl rfl) | exact fun _ => Or.inr (Or.inr rfl))
    (hd : (x == ("__debug__" : Str)) = false := by decide) (hcd : (x == ("__classdict__" : Str)) = false := by decide)
    (hs : ∀ i, swapsWithSole [.Subscript (.Name x p) b q2] e pos.line (Xs i).env = pure false := by intro _; rfl) (hw : ∀ i, swappedStores [.Subscript (.Name x p) b q2] e (Xs i).env = pure none := by intro _; rfl)
    (h1 : ∀ i, (assignEach [.Subscript (.Name x p) b q2] (Xs i).env).map (·.2) = [assign (.Subscript (.Name x p) b q2) (Xs i).env] := by intro _; rfl)
    (hz : ∀ i v, assign (.Subscript (.Name x p) b q2) (Xs i).env v = (do
      let ov ← holding [v] (eval (.Name x p) (Xs i).env)
      let iv ← holding [v, ov] (eval b (Xs i).env)
      standAt q2
      holding [v, ov, iv] (setItem ov iv v)
      release [v, ov, iv] []) := by intro _ _; rfl) :
    SS (R := R) (L := L) Xs (fmB k) G (.Assign [.Subscript (.Name x p) b q2] e pos) (bindM m fun y => bindM n fun i => bindM (dkbSet i y) fun _ => pureM (.nx ())) (fun _ => G) Gl := by
  obtain ⟨te, hp, ho⟩ := hb
  obtain ⟨ti, hq, hoi⟩ := hi
  refine ⟨tAsg te (gSub (tVar j) ti rSetL), fun i => ps_asg (hp i) (pg_sub (pe_var (hN i) (hv i) hd hcd) (hq i) set_list (hz i)) (hs i) (hw i) (h1 i), fun Zx t H s r s' g hm D q => ?_⟩
  obtain ⟨z, s1, e1, e2⟩ := bind_some hm
  obtain ⟨y, s2, e3, e4⟩ := bind_some e2
  obtain ⟨u, s3, e5, e6⟩ := bind_some e4
  obtain ⟨rfl, rfl⟩ := pure_eq e6
  refine ho Zx t H s z s1 g e1 _ fun v H1 g1 f1 r1 => ?_
  obtain rfl := r1.toInt
  refine ⟨_, g1.raw h, ?_⟩
  refine hoi Zx t H1 s1 y s2 g1 e3 _ fun v2 H2 g2 f2 r2 => ?_
  obtain rfl := r2.toInt
  unfold dkbSet at e5
  cases e : ixN s2.rests.length y with
  | none =>
    rw [e] at e5
    cases e5
  | some w =>
    rw [e] at e5
    cases e5
    refine ⟨k.r, _, y, w, rfl, rfl, g2.at_.2.2.1, by rw [List.length_map]; exact e, ?_⟩
    have fx : Fix (fmB k) H2 (upd H2 k.r (.lst ((s2.rests.map V.int).set w (.int z)))) := fun b o z' h' => by
      rw [upd_ne (fun w => z' (.inr (.inr w)))]
      exact h'
    obtain ⟨a1, a2, a3, a4⟩ := g2.at_
    refine q t _ (g2.fix fx ⟨by rw [upd_ne k.ne2]; exact a1, ?_, by rw [upd_same, List.map_set], a4⟩) (Stp.fix ((f1.trans f2).trans fx))
    show upd H2 k.r _ k.c = some (.lst ((if s2.al = true then s2.cells.set w z else s2.cells).map V.int))
    by_cases hal : s2.al = true
    · have hcr := a4.mp hal
      rw [if_pos hal, hcr, upd_same, List.map_set]
      rw [hcr] at a2
      rw [a2] at a3
      injection a3 with a3
      injection a3 with a3
      rw [a3]
    · rw [if_neg hal, upd_ne fun z => hal (a4.mpr z)]
      exact a2
end
def mulWOk (i j : Int) : Prop := (Builtin.Int.intBits i : Int) + (Builtin.Int.intBits j : Int) ≤ 134217728
instance (i j : Int) : Decidable (mulWOk i j) := inferInstanceAs (Decidable (_ ≤ _))
section
variable {I S A : Type} [Enc A] {Xs : I → Cx} {F : Fm S} {G : List Sl} {pos p p2 : Pos} {a b : Expr} {K : PySem.W.Frag}
def mulWM (m n : M S Int) : M S Int := bin2 (fun x y : Int => if mulWOk x y then some (x * y) else none) m n
theorem mulWM_nf (m n : M S Int) : mulWM m n = bindM m fun x => bindM n fun y => guardM (mulWOk x y) (pureM (x * y)) := by
  show bindM m (fun x => bindM n fun y => ofO (if mulWOk x y then some (x * y) else none)) = _
  simp only [ofO_if]
theorem ev_mulW {m n : M S Int} (h : EV Xs F G a m) (h2 : EV Xs F G b n) : EV Xs F G (.BinOp a .Mult b pos) (mulWM m n) :=
  ev_op (fun _ => op_mulX) (rv_intC (D := mulWOk) fun i j h => h) h h2
theorem ev_listL {m : M S (List A)} (hm : ∀ i, (Xs i).mg "list" = none) (h : EV Xs F G a m) (hg : ∀ i, Gl (Xs i) "list" := by intro _; rfl)
    (he : ∀ i, starEach [a] (Xs i).env = (false, eval a (Xs i).env) :: starEach [] (Xs i).env := by intro _; rfl) (hK : ∀ i, (Xs i).K = K := by intro _; rfl) : EV Xs F G (.Call (.Name "list" p) [a] [] pos) (fun1M (fun l : List A => some l) m) :=
  ev_t1 (r := fun xs H Q => ∃ p ys, xs = [.ref p] ∧ (SqL K H p ys ∨ SqT K H p ys) ∧ ∀ l, H l = none → Q (.ref l) (upd H l (.lst ys))) (fun i => by rw [← hK i]; exact call_list_of) (fun F Zx G s t H u vs z g r e Q q => by
    obtain ⟨v, rfl, rv⟩ := r.one
    obtain ⟨pp, xs, rfl, n, h, l⟩ := rv.toLst
    cases e
    refine ⟨pp, xs, rfl, .inl (SqL.of h), fun l' hl => ?_⟩
    have sm : Same H (upd H l' (.lst xs)) := same_new hl
    exact q _ _ sm (.lst (g.new hl) upd_same (l.fix (Fix.same sm)))) hm bb_list h hg (by decide) (by decide) he
end
end PL

namespace PL
open PySem L2 Enc
def Wd (ns : List Int) : Prop := ∀ k ∈ ns, Builtin.Int.intBits k ≤ 1048576
section
variable {S T : Type} {P : Program} {w : World} {K : PySem.W.Frag} {mg : Str → Option Value} {base : Heap}
/-- what is asked of a law -/
def spLawB (K : PySem.W.Frag) : Sp := fun vs H Q _ => ∃ (a : Addr) (ns : List Int), vs = [.ref a] ∧ Only H ∧ SqL K H a (ns.map V.int) ∧ ns.length ≤ 63 ∧ Wd ns ∧ ∀ H', Q (.bl true) H'
/-- the law's def: its first statement makes the deck, the rest is a function of the deck -/
theorem defLawB {Fm_ : T → Fm S} {root : T → Addr} {P0 : List Int → S → Prop} {mk : List Int → Option PyData} {xd y z : Str} {st : Stmt} {f : Addr} {fd : FuncData} {N : List Str} {k j : Nat} {m : M S (Fl Unit Empty Bool)} {py p1 p2 p3 p4 : Pos} {rest : List Stmt}
    (F : Fun K "law" "law" st f fd) (Sc : FnScope N [y] (defScope st)) (D : DefG P w K mg base CX0 k xd [y] (spMk K mk)) (hbd : defBody st = .Assign [.Name z py] (.Call (.Name xd p1) [.Name y p2] [] p3) p4 :: rest)
    (hmk : ∀ (ns : List Int), ns.length ≤ 63 → Wd ns → ∀ (Z : Addr → Prop) (H' : Hp) (v : V) (d : PyData), mk ns = some d → Rp Z H' v d → ∃ t s0, v = .ref (root t) ∧ P0 ns s0 ∧ (Fm_ t).at_ s0 H')
    (hmk2 : ∀ ns, ns.length ≤ 63 → Wd ns → ∃ d, mk ns = some d) (hj : N[j]? = some z) (hj0 : j ≠ 0) (hN0 : N[0]? = some y)
    (hpe : ∀ (cdv : Value) (A : Around) (outer : List Env) (s : Shared) (H : Hp) (E : XK) {sp E' t}, PE (cxOf CX0 P w K mg base N "law" (defScope st) f cdv A outer s H E).nox (.Call (.Name xd p1) [.Name y p2] [] p3) (tCall sp [] E' t) →
      PS (cxOf CX0 P w K mg base N "law" (defScope st) f cdv A outer s H E).nox (.Assign [.Name z py] (.Call (.Name xd p1) [.Name y p2] [] p3) p4) (tAsg (tCall sp [] E' t) (gName j)))
    (hpv : ∀ (cdv : Value) (A : Around) (outer : List Env) (s : Shared) (H : Hp) (E : XK), PA (cxOf CX0 P w K mg base N "law" (defScope st) f cdv A outer s H E).nox [.Name y p2] (tCons (tVar 0) tNil))
    (hgl : ∀ (cdv : Value) (A : Around) (outer : List Env) (s : Shared) (H : Hp) (E : XK), Gl (cxOf CX0 P w K mg base N "law" (defScope st) f cdv A outer s H E).nox xd) (hdb : (xd == ("__debug__" : Str)) = false)
    (hrest : ∀ (cdv : Value) (A : Around) (outer : List Env) (s : Shared) (H : Hp) (E : XK), Room k (A.deeper (PyProof.Rows.envOfC "law" (defScope st) s.heap.objs.size f cdv)) → A.guards = some [] → ∀ t : T,
      ∃ Gn, SV (fun _ : Unit => (cxOf CX0 P w K mg base N "law" (defScope st) f cdv A outer s H E).nox) (Fm_ t) ((List.replicate N.length .un).set j (.raw (.ref (root t)))) rest m Gn (fun z => z.elim))
    (hm : ∀ (ns : List Int) (s0 : S), ns.length ≤ 63 → Wd ns → P0 ns s0 → ∃ s', retM none m s0 = some (true, s')) : FnG P w K mg base CX0 (k + 1) f fd [y] (spLawB K) := by
  refine Fun.okG F Sc (fun vs H Q E ⟨a, ns, e, _⟩ => by rw [e]; rfl) (fun cdv A outer sh H vs Q E hr hgd hsp => ?_)
  obtain ⟨a, ns, rfl, ho, hs, hlen, hwd, q⟩ := hsp
  have hrest' := fun t => hrest cdv A outer sh H E hr hgd t
  have hN : j < N.length := (List.getElem?_eq_some_iff.mp hj).1
  rw [hbd]
  have hU : ∀ t, TSok (Fm_ t) ((List.replicate N.length .un).set j (.raw (.ref (root t)))) (tsU (fun _ : Unit => (cxOf CX0 P w K mg base N "law" (defScope st) f cdv A outer sh H E).nox) rest) m (fun _ : Unit => (Classical.choose (hrest' t)) ()) (fun z : Empty => z.elim) := fun t => (Classical.choose_spec (hrest' t)).uni
  refine ⟨tSeq (tAsg (tCall (spMk K mk) [] E0 (tCons (tVar 0) tNil)) (gName j)) (tsU (fun _ : Unit => (cxOf CX0 P w K mg base N "law" (defScope st) f cdv A outer sh H E).nox) rest), (pss_cons (hpe cdv A outer sh H E (pe_callG D hr hgd (hgl cdv A outer sh H E) pass0 (hpv cdv A outer sh H E) hdb rfl rfl)) (tsU_ps (Xs := fun _ : Unit => (cxOf CX0 P w K mg base N "law" (defScope st) f cdv A outer sh H E).nox) ())).nox, ?_⟩
  refine ⟨.ref a, ?_, ?_⟩
  · show (some (V.ref a) :: List.replicate (N.length - 1) none)[0]? = _
    rfl
  obtain ⟨d, hd⟩ := hmk2 ns hlen hwd
  refine ⟨a, ns, d, rfl, only_scr ho hs, hlen, hd, fun v H1 sm rv => ?_⟩
  obtain ⟨td, s0, rfl, hp0, hat⟩ := hmk ns hlen hwd _ H1 v d hd rv
  obtain ⟨s', hm⟩ := hm ns s0 hlen hwd hp0
  obtain ⟨fl, s2, h1, h2⟩ := bind_some hm
  have noo : ∀ l ∈ (List.replicate N.length Sl.un).set j (.raw (.ref (root td))), ∀ e, l ≠ .own e := fun l hl e z => by
    subst z
    rcases List.mem_or_eq_of_mem_set hl with y | y
    · have := List.eq_of_mem_replicate y
      cases this
    · cases y
  have nOwn := fun b => noOwn_all (t := (L2.start N [V.ref a]).set j (some (.ref (root td)))) noo b
  have lst : (L2.start N [V.ref a]).length = N.length := by
    unfold L2.start
    simp only [List.length_append, List.length_map, List.length_replicate, List.length_cons, List.length_nil]
    omega
  have g0 : Gd (Fm_ td) (fun _ => False) ((List.replicate N.length .un).set j (.raw (.ref (root td)))) s0 ((L2.start N [V.ref a]).set j (some (.ref (root td)))) H1 := by
    refine ⟨by rw [List.length_set, List.length_set, List.length_replicate, lst], hat, fun b z => z.elim, fun i l o e1 e2 => ?_, fun i j e1 e2 p e3 => absurd rfl (noo _ (List.mem_of_getElem? e3) e1), fun p z => absurd z (nOwn p)⟩
    by_cases hi : j = i
    · subst hi
      rw [List.getElem?_set, if_pos rfl, if_pos (by rw [List.length_replicate]; exact hN)] at e1
      rw [List.getElem?_set, if_pos rfl, if_pos (by rw [lst]; exact hN)] at e2
      cases e1
      cases e2
      rfl
    · rw [List.getElem?_set_ne hi] at e1
      have := List.eq_of_mem_replicate (List.mem_of_getElem? e1)
      subst this
      trivial
  refine hU td _ _ H1 s0 fl s2 g0 h1 _ ?_
  cases fl with
  | rt r' =>
    obtain ⟨rfl, rfl⟩ := pure_eq h2
    exact fun v H' _ k5 rv => by
      obtain rfl := rv.bool
      exact q H'
  | nx b =>
    obtain ⟨h3, _⟩ := ofO_eq h2
    cases h3
  | bk z => exact z.elim
  | ct z => exact z.elim
end
section
theorem lawGB {P : Program} {w : World} {K : PySem.W.Frag} {mg mb : Str → Option Value} {k : Nat} {fa a : Addr} {fd : FuncData} {x : Str} {s1 : Shared} {vs : List Value} {ns : List Int}
    (KX : K.In s1.heap) (hns : s1.heap.Ns mainGlobals mg) (hb : s1.heap.Ns builtinsNs mb) (hbb : ∀ x : Str, x ≠ "__name__" → mb x = bootBuiltins x) (hlim : s1.heap.NoLimit) (hg : s1.gens = #[])
    (ha : s1.heap.get? a = some { cls := .type "list", data := .seq vs.toArray }) (hi : PyProof.Rows.IntsAre vs ns) (hl : ns.length ≤ 63) (hwd : Wd ns) (hr : Room k callerA)
    (F : ∀ base : Heap, K.In base → base.Ns mainGlobals mg → FnG P w K mg base CX0 k fa fd [x] (spLawB K)) (hbind : ∀ (s : Shared) (u : Value), BindsTo s fd ⟨[u], []⟩ [(x, u)]) :
    codeAny (model P w) callerA (.call (.ref fa) ⟨[.ref a], []⟩) (fun r s' => r = .ok (.ret (.bool true)) ∧ PySem.OldK s1.heap s'.heap ∧ s'.os = s1.os ∧ PyProof.Rows.AllBare s'.gens) s1 := by
  have rv := vals_ints hi
  have lenV := hi.length
  have hline : ns.length ≤ sizeLine := Nat.le_trans hl (by rw [sizeLine_eq]; decide)
  -- from an abstract heap in which at most the script is tracked
  have core : ∀ H : Hp, Only H → SqL K H a (ns.map V.int) → HOk P w H s1.heap → (∀ b, H b ≠ none → b = a) → (H a ≠ none → K.lookup a = none) →
      codeAny (model P w) callerA (.call (.ref fa) ⟨[.ref a], []⟩) (fun r s' => r = .ok (.ret (.bool true)) ∧ PySem.OldK s1.heap s'.heap ∧ s'.os = s1.os ∧ PyProof.Rows.AllBare s'.gens) s1 := by
    intro H hO hS hok hA hK
    have noA : ∀ {b : Addr} {o : Obj} {es : Array DictEntry} {ep : Nat}, s1.heap.get? b = some o → o.data = .dict es ep → H b = none := fun {b o es ep} e d => by
      cases q : H b with
      | none => rfl
      | some u =>
        obtain rfl : b = a := hA b (by rw [q]; intro z; cases z)
        rw [ha] at e
        cases e
        have d' : Data.seq vs.toArray _ = Data.dict es ep := d
        cases d'
    have nsK : ∀ {b : Addr} {m : Str → Option Value}, s1.heap.Ns b m → (hidT s1.heap H).Ns b m := fun {b m} ⟨o, es, ep, e, d, r⟩ => ⟨o, es, ep, hidT_get e (noA e d), d, r⟩
    have hKb : K.In (hidT s1.heap H) := fun b o e => hidT_get (KX b o e) (by
      cases q : H b with
      | none => rfl
      | some u =>
        obtain rfl : b = a := hA b (by rw [q]; intro z; cases z)
        rw [hK (by rw [q]; intro z; cases z)] at e
        cases e)
    have hM : Mod K mg (hidT s1.heap H) := ⟨hKb, nsK hns, ⟨mb, nsK hb, hbb⟩, let ⟨mc, q1, q2⟩ := hlim; ⟨mc, nsK q1, q2⟩⟩
    have e0 : Env0 P w K mg (hidT s1.heap H) callerA [] s1 H := ⟨rfl, hM, fun b o e => of_hidT e, Nat.le_of_eq (hidT_size _ _), trivial, fun b hb => absurd (show b ∈ ([] : List Addr) from hb) List.not_mem_nil, hok, .of_eq hg⟩
    refine codeAny_mono ((F _ hKb (nsK hns)).run callerA [] s1 H ⟨[.ref a], []⟩ [.ref a] [.ref a] (fun v _ => v = .bl true) (fun _ _ _ => False) hr rfl e0 (hbind s1 (.ref a)) (.cons rfl .nil) ⟨a, ns, rfl, hO, hS, hl, hwd, fun _ => rfl⟩) fun r s' h => ?_
    cases r with
    | error e => exact h.elim
    | ok fl =>
      cases fl with
      | next => exact h.elim
      | brk => exact h.elim
      | cont => exact h.elim
      | ret u =>
        obtain ⟨v, H', os, bare, un, hok', r', q⟩ := h
        have q' : v = .bl true := q
        subst q'
        obtain rfl : u = Value.bool true := r'
        refine ⟨rfl, PySem.OldK.of_keep fun b o e => ?_, os, bare⟩
        cases q : H b with
        | none => exact un.keep b o e q (fun z => absurd (show b ∈ ([] : List Addr) from z) List.not_mem_nil) List.not_mem_nil
        | some u =>
          rcases hO b with z | ⟨ob, xs, z⟩
          · rw [q] at z
            cases z
          · obtain ⟨e1, _⟩ := hok b _ z
            obtain ⟨e2, _⟩ := hok' b _ (un.frzs b ob _ z)
            rw [e] at e1
            cases e1
            exact e2
  cases hk : K.lookup a with
  | some o =>
    have e := KX a o hk
    rw [ha] at e
    cases e
    refine core (fun _ => none) (fun _ => .inl rfl) (.inr ⟨_, vs.toArray, _, hk, rfl, rfl, rfl, by rw [List.size_toArray, lenV]; exact hline, by simpa using rv⟩) (fun b u z => by
      have z' : (none : Option HO) = some u := z
      cases z') (fun b z => absurd rfl z) fun z => absurd rfl z
  | none =>
    refine core (fun b => if b = a then some (.frz { cls := .type "list", data := .seq vs.toArray } (.lst (ns.map V.int))) else none) (fun b => ?_) (.inl (.inr ⟨{ cls := .type "list", data := .seq vs.toArray }, if_pos rfl⟩)) (fun b u z => ?_) (fun b z => ?_) fun _ => hk
    · by_cases hb : b = a
      · exact .inr ⟨_, _, if_pos hb⟩
      · exact .inl (if_neg hb)
    · by_cases hb : b = a
      · have z' := (if_pos hb).symm.trans z
        cases z'
        subst hb
        exact ⟨ha, by rw [List.length_map]; exact hline, vs, _, rv, ha⟩
      · have z' := (if_neg hb).symm.trans z
        cases z'
    · by_cases hb : b = a
      · exact hb
      · exact absurd (if_neg hb) z
/-- the goal that the head leaves, from the law's promise -/
theorem walkGB {l : PySem.W.OpenLaw} {k : Nat} {q : Program} {loose : List Str} {XP : (Str → Option Value) → Heap → Prop} {YP : World → Heap → Prop} {d : DefRec} {K : PySem.Params → PySem.W.Frag} {x : Str}
    (hn : l.most = some 63) (hdf : d.params.defaults = []) (hr : Room k callerA) (hY : ∀ (w : World) (h : Heap), YP w h → (K w.params).In h)
    (F : ∀ (w : World) (mg : Str → Option Value) (fa : Addr) (h : Heap), (K w.params).In h → h.Ns mainGlobals mg → mg d.name = some (.ref fa) →
      ∃ fd : FuncData, (∀ (s : Shared) (u : Value), BindsTo s fd ⟨[u], []⟩ [(x, u)]) ∧
        ∀ base : Heap, (K w.params).In base → base.Ns mainGlobals mg → FnG l.prog w (K w.params) mg base CX0 k fa fd [x] (spLawB (K w.params))) :
    PySem.W.WalkO q loose XP YP l.row.toRowW d [] (fun f vs => PySem.call f vs) := by
  refine Att.attach_callB hn hdf fun w s0 s1 mg mb fa o pm cd doc a vs ns G Y ho hd hcd hmg hobj hints hlen hbits hg => ?_
  have KX := hY w _ Y
  obtain ⟨fd, hb, hF⟩ := F w mg fa _ KX G.T.g hmg
  exact lawGB KX G.T.g G.T.b G.T.builtins G.T.nolimit hg hobj hints hlen hbits hr hF hb
end
def deckDB (c r : List Int) : PyData := .list [enc c, enc (0 : Int), enc r]
def P0B (cells : List Int → List Int) (ns : List Int) (s : DkB) : Prop := s.n = 0 ∧ s.cells = cells ns ∧ s.rests.length = (cells ns).length
theorem mk_B {mk : List Int → Option PyData} {cells rests : List Int → List Int} (ns : List Int) (e : mk ns = some (deckDB (cells ns) (rests ns))) (hl : (rests ns).length = (cells ns).length) (Z : Addr → Prop) (H : Hp) (v : V) (d : PyData) (h : mk ns = some d) (r : Rp Z H v d) :
    ∃ (t : DkBA) (s0 : DkB), v = .ref (rootB t) ∧ P0B cells ns s0 ∧ (fmB t).at_ s0 H := by
  rw [e] at h
  cases h
  cases r with
  | lst z1 h1 r1 =>
    cases r1 with
    | cons a b =>
      cases b with
      | cons b c =>
        cases c with
        | cons c e =>
          cases e
          obtain rfl := Rp.toInt b
          cases a with
          | lst z2 h2 r2 =>
            cases c with
            | lst z3 h3 r3 =>
              obtain rfl := rpl_ints r2
              obtain rfl := rpl_ints r3
              rename_i a1 a2 a3
              have ne : ∀ (l : List Int), [V.ref a2, V.int 0, V.ref a3] ≠ l.map V.int := fun l q => by
                cases l with
                | nil => cases q
                | cons i l => cases q
              refine ⟨⟨a1, a2, a3, fun q => ?_, fun q => ?_⟩, ⟨cells ns, 0, rests ns, decide (a2 = a3)⟩, rfl, ⟨rfl, rfl, hl⟩, h1, h2, h3, decide_eq_true_iff⟩
              · rw [q, h2] at h1
                injection h1 with h1
                injection h1 with h1
                exact ne _ h1.symm
              · rw [q, h3] at h1
                injection h1 with h1
                injection h1 with h1
                exact ne _ h1.symm
end PL

namespace PL
open PySem L2 Enc
section
variable {I S A B C N L R : Type} [Enc A] [Enc B] [Enc C] [Enc R] {Xs : I → Cx} {F : Fm S} {G : List Sl} {pos p p2 : Pos} {a b c e tg : Expr} {x : Str} {K : PySem.W.Frag}
theorem none_before {Zx : Addr → Prop} {s : S} {t : St} {H H1 : Hp} {pn : Addr} (g1 : Gd F Zx G s t H1) (f1 : Fix F H H1) (hn : H1 pn = none) : H pn = none := by
  cases e : H pn with
  | none => rfl
  | some o =>
    by_cases hz : F.Z pn
    · exact absurd hn (F.trk _ _ _ g1.at_ hz)
    · rw [f1 pn o hz e] at hn
      cases hn
theorem new_ext {Zx : Addr → Prop} {t : St} {H : Hp} {pn : Addr} {o : HO} (hn : H pn = none) : Ext (ZF F Zx G t) H (ZF F (fun b => Zx b ∨ b = pn) G t) (upd H pn o) := ⟨fun b o z h => same_new hn b o h, fun b z => by
  rcases z with z | (z | z) | z
  · exact .inl (.inl z)
  · exact .inl (.inr (.inl z))
  · rw [z]
    exact .inr hn
  · exact .inl (.inr (.inr z))⟩
theorem eo_cat {m n : M S (List A)} (ha : EV Xs F G a m) (hb : EV Xs F G b n) : EO Xs F G (.BinOp a .Add b pos) (catM m n) := by
  obtain ⟨ta, hp, hx⟩ := ha
  obtain ⟨tb, hq, hy⟩ := hb
  refine ⟨tOp rCat ta tb, fun i => pe_op op_cat (hp i) (hq i), fun Zx t H s y s' g hm Q q => ?_⟩
  obtain ⟨z, s1, h1, h2⟩ := bind_some hm
  obtain ⟨w, s2, h3, h4⟩ := bind_some h2
  obtain ⟨h5, rfl⟩ := ofO_eq h4
  replace h5 : (if lenOk (z.length + w.length) then some (z ++ w) else none) = some y := h5
  by_cases hl : lenOk (z.length + w.length)
  · rw [if_pos hl] at h5
    cases h5
    refine hx Zx t H s z s1 g h1 _ fun v H1 g1 f1 r1 => ?_
    refine hy Zx t H1 s1 w s2 g1 h3 _ fun u H2 g2 f2 r2 => ?_
    obtain ⟨pp, xs, rfl, n1, k1, l1⟩ := (r1.fix f2).toLst
    obtain ⟨p3, ys, rfl, n2, k2, l2⟩ := r2.toLst
    refine ⟨pp, p3, xs, ys, rfl, rfl, k1, k2, ?_, fun pn hn => ?_⟩
    · rw [l1.len, l2.len, List.length_map, List.length_map]
      exact lenOk_line hl
    · have sm : Same H2 (upd H2 pn (.lst (xs ++ ys))) := same_new hn
      refine q pn _ (g2.more hn) ((f1.trans f2).trans (Fix.same sm)) (none_before g2 (f1.trans f2) hn) ⟨_, upd_same, ?_⟩
      rw [List.map_append]
      exact (l1.append l2).ext (new_ext hn)
  · rw [if_neg hl] at h5
    cases h5
/-- x.extend(e), x in slot k -/
theorem ss_extend {Gl : L → List Sl} {l : List A} {m : M S (List A)} {k : Nat} {apos cpos px : Pos} (hk : G[k]? = some (.own (enc l))) (h : EV Xs F G e m) (hN : ∀ i, (Xs i).N[k]? = some x := by intro _; rfl)
    (hv : ∀ i, Vis (Xs i).env.scope x := by first | exact fun _ => Or.inl rfl | exact fun _ => Or.inr (Or.inl rfl) | exact fun _ => Or.inr (Or.inr rfl)) (hd : (x == ("__debug__" : Str)) = false := by decide) (hcd : (x == ("__classdict__" : Str)) = false := by decide)
    (hbase : ∀ i, attributeBase (.Name x px) "extend" (Xs i).env (eval (.Name x px) (Xs i).env) = eval (.Name x px) (Xs i).env := by intro _; rfl)
    (hfew : ∀ i, ((backTo cpos (starEach (e :: []) (Xs i).env)).all (fun x => !x.1) && (backToKw cpos (keywordEach [] (Xs i).env)).all (fun x => x.1.isSome)
      && decide ((e :: []).length + ([] : List Keyword).length + (if ([] : List Keyword).isEmpty then 0 else 1) < 30)) = true := by intro _; rfl)
    (hline : (apos.endLine == cpos.line) = true := by rfl) (hs : ∀ i, starEach (e :: []) (Xs i).env = (false, eval e (Xs i).env) :: starEach [] (Xs i).env := by intro _; rfl)
    (hpl : ∀ i, (backTo cpos (starEach [] (Xs i).env)).any (·.1) = false := by intro _; rfl) {K : PySem.W.Frag} (hK : ∀ i, (Xs i).K = K := by intro _; rfl)
    (hsw : ∀ i, swapsWith (.Call (.Attribute (.Name x px) "extend" apos) [e] [] cpos) none pos.line (Xs i).env = pure false := by intro _; rfl) :
    SS (R := R) (L := L) Xs F G (.Expr (.Call (.Attribute (.Name x px) "extend" apos) [e] [] cpos) pos) (bindM m fun y => guardM (lenOk (l.length + y.length)) (pureM (.nx y))) (fun y : List A => G.set k (.own (enc (l ++ y)))) Gl := by
  obtain ⟨te, hp, ho⟩ := h
  refine ⟨tDrop (tBM K "list" rExtend (tVar k) (tCons te tNil)), fun i => ps_expr (by
    rw [← hK i]
    exact pe_bm PySem.F.plainAttrs_list PySem.F.slot_list_extend PySem.F.type_list_extend mt_extend (pe_var (hN i) (hv i) hd hcd) (pa_cons (hp i) pa_nil (hs i)) (hbase i) (hfew i) hline (hs i) (hpl i)) (hsw i), fun Zx t H s r s' g hm D q => ?_⟩
  obtain ⟨y, s1, h1, h2⟩ := bind_some hm
  obtain ⟨hl, h3⟩ := guard_eq h2
  obtain ⟨rfl, rfl⟩ := pure_eq h3
  obtain ⟨hkl, _⟩ := List.getElem?_eq_some_iff.mp hk
  have hk' : k < t.length := by
    rw [g.len]
    exact hkl
  have ht : t[k]? = some (t[k]'hk') := List.getElem?_eq_getElem hk'
  obtain ⟨pp, ep, xs, hxs, _⟩ := g.slot k _ _ hk ht
  rw [ep] at ht
  refine ⟨.ref pp, ht, .inl ⟨rfl, xs, SqL.of hxs⟩, ?_⟩
  refine ho Zx t H s y s1 g h1 _ fun v H1 g1 f1 r1 => ?_
  obtain ⟨pp', ep', ys, hys, ry⟩ := g1.slot k _ _ hk ht
  cases ep'
  obtain ⟨pb, zs, rfl, nb, kb, lb⟩ := r1.toLst
  have hlen : ys.length = l.length := by rw [ry.len, List.length_map]
  have hlen2 : zs.length = y.length := by rw [lb.len, List.length_map]
  refine ⟨pp, pb, ys, zs, rfl, rfl, hys, kb, ?_, ?_⟩
  · rw [hlen, hlen2]
    exact lenOk_line hl
  · have hown : Own G t pp := ⟨k, _, hk, ht⟩
    have ex : Ext (ZF F Zx G t) H1 (ZF F Zx G t) (upd H1 pp (.lst (ys ++ zs))) := ⟨fun b u z h => by
      rw [upd_ne (fun k => z (by rw [k]; exact .inr (.inr hown)))]
      exact h, fun b z => .inl z⟩
    obtain ⟨g2, own2⟩ := g1.putOwn (o := .lst (ys ++ zs)) (d' := enc (l ++ y)) hk ht ⟨ys ++ zs, upd_same, by
      rw [List.map_append]
      exact (ry.append lb).ext ex⟩
    refine q t _ g2 ⟨fun b o z w h => ?_, fun b z => .inl ((own2 b).mp z)⟩
    rw [upd_ne (fun k => w (by rw [k]; exact hown))]
    exact f1 b o z h
end
section
variable {A : Type} [Enc A]
def lckF (l : Dic A) (Z : Addr → Prop) (H : Hp) (v : V) : Prop := ∃ p o kvs, v = .ref p ∧ ¬ Z p ∧ H p = some (.frz o (.dK kvs)) ∧ RpK Z H kvs (List.map dkv (unDic l))
theorem lckF_ext {l : Dic A} : ∀ Z H Z' H' v, Ext Z H Z' H' → lckF l Z H v → lckF l Z' H' v := fun Z H Z' H' v e ⟨p, o, kvs, h1, h2, h3, h4⟩ => ⟨p, o, kvs, h1, e.not h2 h3, e.1 _ _ h2 h3, h4.ext e⟩
abbrev slLck (l : Dic A) : Sl := .ext (lckF l) lckF_ext
def noExt (G : List Sl) : Bool := G.all fun l => match l with
  | .ext _ _ => false
  | _ => true
variable {Z : Addr → Prop} {H : Hp} {d : Addr} {od : Obj} {kv0 : List (Key × V)}
theorem upd_lst {H : Hp} {d a : Addr} {o u w : HO} (h : H a = some u) (e : H d = some o) (n : u ≠ o) : upd H d w a = some u := by
  rw [upd_ne fun z => n (by rw [z, e] at h; injection h with h; exact h.symm)]
  exact h
mutual
theorem Rp.lock (hd : H d = some (.dK kv0)) : ∀ {v : V} {x : PyData}, Rp Z H v x → Rp Z (upd H d (.frz od (.dK kv0))) v x
  | _, _, .non => .non
  | _, _, .bl b => .bl b
  | _, _, .int i => .int i
  | _, _, .str x => .str x
  | _, _, .lst n h r => .lst n (upd_lst h hd (fun z => nomatch z)) (RpL.lock hd r)
  | _, _, .tup n h r => .tup n (h.at_ fun o q => by
      obtain ⟨ob, q2, _⟩ := h
      rw [q] at q2
      cases q2
      exact upd_lst q hd (fun z => nomatch z)) (RpL.lock hd r)
  | _, _, .dic (a := a) n h r => .dic n (by
      by_cases e : a = d
      · subst e
        rcases h with h | ⟨o, h⟩
        · rw [hd] at h
          cases h
          exact .inr ⟨od, upd_same⟩
        · rw [hd] at h
          cases h
      · exact h.imp (fun h => by rw [upd_ne e]; exact h) fun ⟨o, h⟩ => ⟨o, by rw [upd_ne e]; exact h⟩) (RpK.lock hd r)
theorem RpL.lock (hd : H d = some (.dK kv0)) : ∀ {v : List V} {x : List PyData}, RpL Z H v x → RpL Z (upd H d (.frz od (.dK kv0))) v x
  | _, _, .nil => .nil
  | _, _, .cons h t => .cons (Rp.lock hd h) (RpL.lock hd t)
theorem RpK.lock (hd : H d = some (.dK kv0)) : ∀ {v : List (Key × V)} {x : List (PyData × PyData)}, RpK Z H v x → RpK Z (upd H d (.frz od (.dK kv0))) v x
  | _, _, .nil => .nil
  | _, _, .cons h t => .cons (Rp.lock hd h) (RpK.lock hd t)
end
mutual
theorem Rp.unlock (hd : H d = some (.frz od (.dK kv0))) : ∀ {v : V} {x : PyData}, Rp Z H v x → Rp Z (upd H d (.dK kv0)) v x
  | _, _, .non => .non
  | _, _, .bl b => .bl b
  | _, _, .int i => .int i
  | _, _, .str x => .str x
  | _, _, .lst n h r => .lst n (upd_lst h hd (fun z => nomatch z)) (RpL.unlock hd r)
  | _, _, .tup n h r => .tup n (h.at_ fun o q => by
      obtain ⟨ob, q2, _⟩ := h
      rw [q] at q2
      cases q2
      exact upd_lst q hd (fun z => nomatch z)) (RpL.unlock hd r)
  | _, _, .dic (a := a) n h r => .dic n (by
      by_cases e : a = d
      · subst e
        rcases h with h | ⟨o, h⟩
        · rw [hd] at h
          cases h
        · rw [hd] at h
          cases h
          exact .inl upd_same
      · exact h.imp (fun h => by rw [upd_ne e]; exact h) fun ⟨o, h⟩ => ⟨o, by rw [upd_ne e]; exact h⟩) (RpK.unlock hd r)
theorem RpL.unlock (hd : H d = some (.frz od (.dK kv0))) : ∀ {v : List V} {x : List PyData}, RpL Z H v x → RpL Z (upd H d (.dK kv0)) v x
  | _, _, .nil => .nil
  | _, _, .cons h t => .cons (Rp.unlock hd h) (RpL.unlock hd t)
theorem RpK.unlock (hd : H d = some (.frz od (.dK kv0))) : ∀ {v : List (Key × V)} {x : List (PyData × PyData)}, RpK Z H v x → RpK Z (upd H d (.dK kv0)) v x
  | _, _, .nil => .nil
  | _, _, .cons h t => .cons (Rp.unlock hd h) (RpK.unlock hd t)
end
end
section
variable {S A : Type} [Enc A] {F : Fm S} {G : List Sl} {Zx : Addr → Prop} {s : S} {t : St} {H : Hp} {k : Nat} {l : Dic A}
theorem set_own {k : Nat} {y : Sl} {x : Sl} (h : G[k]? = some x) (hx : ∀ d, x ≠ .own d) (hy : ∀ d, y ≠ .own d) (b : Addr) : Own (G.set k y) t b ↔ Own G t b := by
  constructor
  · rintro ⟨i, d, h1, h2⟩
    by_cases hi : k = i
    · subst hi
      rw [List.getElem?_set, if_pos rfl] at h1
      split at h1
      · injection h1 with h1
        exact absurd h1 (hy d)
      · cases h1
    · rw [List.getElem?_set_ne hi] at h1
      exact ⟨i, d, h1, h2⟩
  · rintro ⟨i, d, h1, h2⟩
    by_cases hi : k = i
    · subst hi
      rw [h] at h1
      injection h1 with h1
      exact absurd h1 (hx d)
    · exact ⟨i, d, by rw [List.getElem?_set_ne hi]; exact h1, h2⟩
/-- one slot says something else, and so may the heap -/
theorem Gd.reslot {H' : Hp} {x y : Sl} (g : Gd F Zx G s t H) (h : G[k]? = some x) (hx : ∀ d, x ≠ .own d) (hy : ∀ d, y ≠ .own d) (hat : F.at_ s H') (htr : ∀ b, H b ≠ none → H' b ≠ none)
    (hs : ∀ (i : Nat) z o, i ≠ k → G[i]? = some z → t[i]? = some o → SlOk (ZF F Zx G t) H z o → SlOk (ZF F Zx G t) H' z o) (hk : ∀ o, t[k]? = some o → SlOk (ZF F Zx G t) H' y o) : Gd F Zx (G.set k y) s t H' := by
  have own := fun b => set_own (t := t) h hx hy b
  have ez : ZF F Zx (G.set k y) t = ZF F Zx G t := funext fun b => propext ⟨fun z => z.imp id (Or.imp id (own b).mp), fun z => z.imp id (Or.imp id (own b).mpr)⟩
  refine ⟨by rw [List.length_set]; exact g.len, hat, fun b z => htr b (g.trk b z), fun i z o h1 h2 => ?_, fun i j d1 d2 p h1 h2 h3 h4 => ?_, fun p z => g.sep p ((own p).mp z)⟩
  · rw [ez]
    by_cases hi : k = i
    · subst hi
      rw [List.getElem?_set, if_pos rfl, if_pos (List.getElem?_eq_some_iff.mp h).1] at h1
      injection h1 with h1
      subst h1
      exact hk o h2
    · rw [List.getElem?_set_ne hi] at h1
      exact hs i z o (fun e => hi e.symm) h1 h2 (g.slot i z o h1 h2)
  · have up : ∀ {i : Nat} {d : PyData}, (G.set k y)[i]? = some (.own d) → G[i]? = some (.own d) := fun {i d} q => by
      by_cases hi : k = i
      · subst hi
        rw [List.getElem?_set, if_pos rfl] at q
        split at q
        · injection q with q
          exact absurd q (hy d)
        · cases q
      · rw [List.getElem?_set_ne hi] at q
        exact q
    exact g.inj i j d1 d2 p (up h1) (up h2) h3 h4
theorem noExt_at (h : noExt G = true) {i : Nat} {f : (Addr → Prop) → Hp → V → Prop} {st : ∀ Z H Z' H' v, Ext Z H Z' H' → f Z H v → f Z' H' v} (e : G[i]? = some (.ext f st)) : False := by
  have := List.all_eq_true.mp h _ (List.mem_of_getElem? e)
  cases this
theorem ext_at {k : Nat} (h : noExt (G.set k .un) = true) {i : Nat} (hi : i ≠ k) {f : (Addr → Prop) → Hp → V → Prop} {st : ∀ Z H Z' H' v, Ext Z H Z' H' → f Z H v → f Z' H' v} (e : G[i]? = some (.ext f st)) : False :=
  noExt_at (G := G.set k .un) h (i := i) (by rw [List.getElem?_set_ne (fun z => hi z.symm)]; exact e)
theorem NEnt.lock {d : Addr} {od : Obj} {kv0 : List (Key × V)} {Z : Addr → Prop} (hd : H d = some (.dK kv0)) {e : DictEntry} {x : Tup (Int × Int) × Int} (h : NEnt Z H e x) : NEnt Z (upd H d (.frz od (.dK kv0))) e x := by
  obtain ⟨a, t, h1, h2, h3, h4⟩ := h
  exact ⟨a, t, h1, h2, h3, h4.lock hd⟩
theorem NEnt.unlock {d : Addr} {od : Obj} {kv0 : List (Key × V)} {Z : Addr → Prop} (hd : H d = some (.frz od (.dK kv0))) {e : DictEntry} {x : Tup (Int × Int) × Int} (h : NEnt Z H e x) : NEnt Z (upd H d (.dK kv0)) e x := by
  obtain ⟨a, t, h1, h2, h3, h4⟩ := h
  exact ⟨a, t, h1, h2, h3, h4.unlock hd⟩
theorem SlOk.lock {d : Addr} {od : Obj} {kv0 : List (Key × V)} {Z : Addr → Prop} (hd : H d = some (.dK kv0)) {z : Sl} {o : Option V} (hne : ∀ f st, z ≠ .ext f st) (hp : ∀ p e, z = .own e → o = some (.ref p) → p ≠ d) (h : SlOk Z H z o) : SlOk Z (upd H d (.frz od (.dK kv0))) z o := by
  cases z with
  | un => trivial
  | raw v => exact h
  | dat e =>
    obtain ⟨v, e, r⟩ := h
    exact ⟨v, e, r.lock hd⟩
  | ext f st => exact absurd rfl (hne f st)
  | own e =>
    obtain ⟨p, e1, r⟩ := h
    have np := hp p e rfl e1
    refine ⟨p, e1, ?_⟩
    cases e with
    | list ds =>
      obtain ⟨xs, h1, h2⟩ := r
      exact ⟨xs, by rw [upd_ne np]; exact h1, h2.lock hd⟩
    | dict ds =>
      obtain ⟨xs, h1, h2⟩ := r
      exact ⟨xs, by rw [upd_ne np]; exact h1, h2.lock hd⟩
    | tuple ds =>
      obtain ⟨l, ob, es, ep, q, r⟩ := r
      exact ⟨l, ob, es, ep, q, by rw [upd_ne np]; exact r.at_, r.ex, r.dat, r.sys, paired_map (fun _ _ h => NEnt.lock hd h) r.ent, r.nd, r.sz⟩
    | _ => exact r.elim
theorem SlOk.unlock {d : Addr} {od : Obj} {kv0 : List (Key × V)} {Z : Addr → Prop} (hd : H d = some (.frz od (.dK kv0))) {z : Sl} {o : Option V} (hne : ∀ f st, z ≠ .ext f st) (hp : ∀ p e, z = .own e → o = some (.ref p) → p ≠ d) (h : SlOk Z H z o) : SlOk Z (upd H d (.dK kv0)) z o := by
  cases z with
  | un => trivial
  | raw v => exact h
  | dat e =>
    obtain ⟨v, e, r⟩ := h
    exact ⟨v, e, r.unlock hd⟩
  | ext f st => exact absurd rfl (hne f st)
  | own e =>
    obtain ⟨p, e1, r⟩ := h
    have np := hp p e rfl e1
    refine ⟨p, e1, ?_⟩
    cases e with
    | list ds =>
      obtain ⟨xs, h1, h2⟩ := r
      exact ⟨xs, by rw [upd_ne np]; exact h1, h2.unlock hd⟩
    | dict ds =>
      obtain ⟨xs, h1, h2⟩ := r
      exact ⟨xs, by rw [upd_ne np]; exact h1, h2.unlock hd⟩
    | tuple ds =>
      obtain ⟨l, ob, es, ep, q, r⟩ := r
      exact ⟨l, ob, es, ep, q, by rw [upd_ne np]; exact r.at_, r.ex, r.dat, r.sys, paired_map (fun _ _ h => NEnt.unlock hd h) r.ent, r.nd, r.sz⟩
    | _ => exact r.elim
theorem upd_there {d : Addr} {o : HO} (b : Addr) (h : H b ≠ none) : upd H d o b ≠ none := by
  by_cases e : b = d
  · rw [e, upd_same]
    exact fun z => nomatch z
  · rw [upd_ne e]
    exact h
theorem own_ne {i : Nat} {z : Sl} {o : Option V} {d : Addr} (hz : ¬ ZF F Zx G t d) (h1 : G[i]? = some z) (h2 : t[i]? = some o) (p : Addr) (e : PyData) (e1 : z = .own e) (e2 : o = some (.ref p)) : p ≠ d := fun q => by
  subst e1
  subst e2
  subst q
  exact hz (.inr (.inr ⟨i, e, h1, h2⟩))
theorem Gd.lock {d : Addr} {od : Obj} {kvs : List (Key × V)} (g : Gd F Zx G s t H) (hno : noExt G = true) (hk : G[k]? = some (.dat (enc l))) (hz : ¬ ZF F Zx G t d) (hd : H d = some (.dK kvs)) (ht : t[k]? = some (some (.ref d))) (r : RpK (ZF F Zx G t) H kvs (List.map dkv (unDic l))) :
    Gd F Zx (G.set k (slLck l)) s t (upd H d (.frz od (.dK kvs))) :=
  g.reslot hk (fun _ z => nomatch z) (fun _ z => nomatch z) (F.loc _ _ _ (fun b z => upd_ne fun e => hz (by rw [← e]; exact .inl z)) g.at_) upd_there
    (fun i z o hi h1 h2 hs => hs.lock hd (fun f st e => noExt_at hno (by rw [e] at h1; exact h1)) (own_ne hz h1 h2)) fun o ho => by
      rw [ht] at ho
      cases ho
      exact ⟨.ref d, rfl, d, od, kvs, rfl, hz, upd_same, r.lock hd⟩
theorem Gd.toLck {d : Addr} {od : Obj} {kvs : List (Key × V)} (g : Gd F Zx G s t H) (hk : G[k]? = some (.dat (enc l))) (hz : ¬ ZF F Zx G t d) (hd : H d = some (.frz od (.dK kvs))) (ht : t[k]? = some (some (.ref d))) (r : RpK (ZF F Zx G t) H kvs (List.map dkv (unDic l))) :
    Gd F Zx (G.set k (slLck l)) s t H :=
  g.reslot hk (fun _ z => nomatch z) (fun _ z => nomatch z) g.at_ (fun _ h => h) (fun i z o hi h1 h2 hs => hs) fun o ho => by
      rw [ht] at ho
      cases ho
      exact ⟨.ref d, rfl, d, od, kvs, rfl, hz, hd, r⟩
theorem Gd.unlock {d : Addr} {od : Obj} {kvs : List (Key × V)} (g : Gd F Zx G s t H) (hno : noExt (G.set k .un) = true) (hk : G[k]? = some (slLck l)) (hz : ¬ ZF F Zx G t d) (hd : H d = some (.frz od (.dK kvs))) : Gd F Zx (G.set k (.dat (enc l))) s t (upd H d (.dK kvs)) :=
  g.reslot hk (fun _ z => nomatch z) (fun _ z => nomatch z) (F.loc _ _ _ (fun b z => upd_ne fun e => hz (by rw [← e]; exact .inl z)) g.at_) upd_there
    (fun i z o hi h1 h2 hs => hs.unlock hd (fun f st e => ext_at hno hi (by rw [e] at h1; exact h1)) (own_ne hz h1 h2)) fun o ho => by
      obtain ⟨v, e, p', o', kv', e1, z1, h1, r1⟩ := g.slot k _ _ hk ho
      subst e1
      exact ⟨_, e, Rp.unlock hd (.dic z1 (.inr ⟨o', h1⟩) r1)⟩
theorem Gd.unLck (g : Gd F Zx G s t H) (hk : G[k]? = some (slLck l)) : Gd F Zx (G.set k (.dat (enc l))) s t H :=
  g.reslot hk (fun _ z => nomatch z) (fun _ z => nomatch z) g.at_ (fun _ h => h) (fun i z o hi h1 h2 hs => hs) fun o ho => by
      obtain ⟨v, e, p', o', kv', e1, z1, h1, r1⟩ := g.slot k _ _ hk ho
      subst e1
      exact ⟨_, e, .dic z1 (.inr ⟨o', h1⟩) r1⟩
theorem zf_set {x y : Sl} (h : G[k]? = some x) (hx : ∀ d, x ≠ .own d) (hy : ∀ d, y ≠ .own d) : ZF F Zx (G.set k y) t = ZF F Zx G t :=
  funext fun b => propext ⟨fun z => z.imp id (Or.imp id (set_own h hx hy b).mp), fun z => z.imp id (Or.imp id (set_own h hx hy b).mpr)⟩
end
section
variable {I S A B : Type} [Enc A] [Enc B] {Xs : I → Cx} {F : Fm S} {G : List Sl} {pos p p2 : Pos} {e tg : Expr} {x : Str} {k : Nat} {l : Dic A}
theorem set_get {y : Sl} (h : k < G.length) : (G.set k y)[k]? = some y := by rw [List.getElem?_set, if_pos rfl, if_pos h]
theorem set_back {x y : Sl} (h : G[k]? = some x) : (G.set k y).set k x = G := by
  rw [List.set_set]
  apply List.ext_getElem?
  intro i
  by_cases hi : k = i
  · subst hi
    rw [set_get (List.getElem?_eq_some_iff.mp h).1, h]
  · rw [List.getElem?_set_ne hi]
theorem noExt_un (h : noExt G = true) {y : Sl} : noExt ((G.set k y).set k .un) = true := by
  rw [List.set_set]
  refine List.all_eq_true.mpr fun z hz => ?_
  rcases List.mem_or_eq_of_mem_set hz with q | q
  · exact List.all_eq_true.mp h z q
  · subst q
    rfl
/-- an expression in which the dict of slot k is walked -/
theorem ev_lock {m : M S B} (hk : G[k]? = some (.dat (enc l))) (hno : noExt G = true) (h : EV Xs F (G.set k (slLck l)) e m) : EV Xs F G e m := by
  obtain ⟨te, hp, ho⟩ := h
  have hkl := (List.getElem?_eq_some_iff.mp hk).1
  refine ⟨fun t H Q => tLockE te t H Q ∨ te t H Q, fun i => ⟨fun pins s t H Q J hw => ?_⟩, fun Zx t H s y s' g hm Q q => ?_⟩
  · rcases hw with hw | hw
    · exact (pe_lock (hp i)).run pins s t H Q J hw
    · exact (hp i).run pins s t H Q J hw
  · have hk' : k < t.length := by
      rw [g.len]
      exact hkl
    have ht : t[k]? = some (t[k]'hk') := List.getElem?_eq_getElem hk'
    obtain ⟨v, ev, rv⟩ := g.slot k _ _ hk ht
    rw [ev] at ht
    obtain ⟨d, kvs, rfl, hz, hd, rk⟩ := rv.toDic
    have zs : ZF F Zx (G.set k (slLck l)) t = ZF F Zx G t := zf_set hk (fun _ z => nomatch z) (fun _ z => nomatch z)
    rcases hd with hd | ⟨od, hd⟩
    · refine .inl ⟨d, .dK kvs, hd, trivial, fun od => ?_⟩
      refine ho Zx t _ s y s' (g.lock hno hk hz hd ht rk) hm _ fun v H2 g2 f2 r2 => ?_
      have h2 : H2 d = some (.frz od (.dK kvs)) := f2 d _ (fun z => hz (.inl z)) upd_same
      refine ⟨h2, ?_⟩
      have g3 := g2.unlock (noExt_un hno) (set_get hkl) (by rw [zs]; exact hz) h2
      rw [set_back hk] at g3
      refine q v _ g3 (fun b o z hb => ?_) (by rw [zs] at r2; exact r2.unlock h2)
      by_cases e : b = d
      · rw [e] at hb ⊢
        rw [hd] at hb
        cases hb
        exact upd_same
      · rw [upd_ne e]
        exact f2 b o z (by rw [upd_ne e]; exact hb)
    · refine .inr ?_
      refine ho Zx t _ s y s' (g.toLck hk hz hd ht rk) hm _ fun v H2 g2 f2 r2 => ?_
      have g3 := g2.unLck (l := l) (set_get hkl)
      rw [set_back hk] at g3
      exact q v _ g3 f2 (by rw [zs] at r2; exact r2)
theorem Gd.lck {Zx : Addr → Prop} {s : S} {t : St} {H : Hp} (g : Gd F Zx G s t H) (h : G[k]? = some (slLck l)) : ∃ v, t[k]? = some (some v) ∧ lckF l (ZF F Zx G t) H v := by
  obtain ⟨hk, _⟩ := List.getElem?_eq_some_iff.mp h
  have hk' : k < t.length := by
    rw [g.len]
    exact hk
  have ht : t[k]? = some (t[k]'hk') := List.getElem?_eq_getElem hk'
  obtain ⟨v, e, r⟩ := g.slot k _ _ h ht
  exact ⟨v, by rw [ht, e], r⟩
theorem ed_lck (h : G[k]? = some (slLck l)) (hN : ∀ i, (Xs i).N[k]? = some x := by intro _; rfl)
    (hv : ∀ i, Vis (Xs i).env.scope x := by first | exact fun _ => Or.inl rfl | exact fun _ => Or.inr (Or.inl rfl) | exact fun _ => Or.inr (Or.inr rfl))
    (hd : (x == ("__debug__" : Str)) = false := by decide) (hcd : (x == ("__classdict__" : Str)) = false := by decide) : ED Xs F G (.Name x pos) (pureM l) := by
  refine ⟨tVar k, fun i => pe_var (hN i) (hv i) hd hcd, fun Zx t H s l' s' g hm Q q => ?_⟩
  obtain ⟨rfl, rfl⟩ := pure_eq hm
  obtain ⟨v, ht, d, od, kvs, rfl, hz, hd, rk⟩ := g.lck h
  refine ⟨_, ht, q d H g (Fix.refl H) fun s2 H2 g2 f2 => ?_⟩
  obtain ⟨v, ht2, d2, od2, kvs2, rfl, hz2, hd2, rk2⟩ := g2.lck h
  rw [ht] at ht2
  cases ht2
  exact ⟨kvs2, .inr ⟨od2, hd2⟩, rk2⟩
theorem iv_lck (h : G[k]? = some (slLck l)) (hN : ∀ i, (Xs i).N[k]? = some x := by intro _; rfl)
    (hv : ∀ i, Vis (Xs i).env.scope x := by first | exact fun _ => Or.inl rfl | exact fun _ => Or.inr (Or.inl rfl) | exact fun _ => Or.inr (Or.inr rfl))
    (hd : (x == ("__debug__" : Str)) = false := by decide) (hcd : (x == ("__classdict__" : Str)) = false := by decide) : IV Xs F G tg (.Name x pos) (pureM (keysD l)) := by
  refine ⟨iKeys (tVar k), fun i => pi_keys (pe_var (hN i) (hv i) hd hcd), fun Zx t H s l' s' g hm R q => ?_⟩
  obtain ⟨rfl, rfl⟩ := pure_eq hm
  obtain ⟨v, ht, d, od, kvs, rfl, hz, hd, rk⟩ := g.lck h
  have ek := keys_of (l := unDic l) rk
  have el : kvs.length = (keysD l).length := by
    have := congrArg List.length ek
    simpa [keysD] using this
  refine ⟨_, ht, d, od, rfl, .inl ⟨kvs, hd, q _ H g (Fix.refl H) fun Z' H2 ex tr => ⟨fun i y hy => ?_, fun i hi => ?_⟩⟩⟩
  · have h2 := ex.1 _ _ hz hd
    have hi := (List.getElem?_eq_some_iff.mp hy).1
    refine ⟨⟨h2, by rw [el]; exact hi⟩, fun v H' ⟨e1, kk, w, e2, e3⟩ => ?_⟩
    subst e1
    have e4 : (kvs.map (·.1))[i]? = some kk := by rw [List.getElem?_map, e2]; rfl
    rw [ek, List.getElem?_map] at e4
    have hy' : ((unDic l).map (·.1))[i]? = some y := hy
    rw [hy'] at e4
    cases e4
    subst e3
    exact ⟨Same.refl _, .of (.int y)⟩
  · exact ⟨ex.1 _ _ hz hd, by rw [el]; exact hi⟩
end
end PL

namespace PL
open PySem L2 Enc
section
variable {S A B C D U N L R N1 : Type}
def extS (l : List A) (m : M S (List A)) : M S (Fl (List A) L R) := bindM m fun y => guardM (lenOk (l.length + y.length)) (pureM (.nx y))
end
section
variable {I S A B C : Type} [Enc A] [Enc B] [Enc C] {Xs : I → Cx} {F : Fm S} {G G' : List Sl} {pos p : Pos} {e a b tg iter : Expr} {es : List Expr}
theorem iv_zipT {m : M S (Tup A)} {n : M S (Tup B)} {elts : List Expr} {kk : Nat} {tpos : Pos} (hm : ∀ i, (Xs i).mg "zip" = none) (h : EV Xs F G a m) (h' : EV Xs F G b n) (hg : ∀ i, Gl (Xs i) "zip" := by intro _; rfl)
    (hs1 : ∀ i, starEach [a, b] (Xs i).env = (false, eval a (Xs i).env) :: starEach [b] (Xs i).env := by intro _; rfl) (hs2 : ∀ i, starEach [b] (Xs i).env = (false, eval b (Xs i).env) :: starEach [] (Xs i).env := by intro _; rfl)
    (hpl : ∀ i, (backTo pos (starEach [b] (Xs i).env)).any (·.1) = false := by intro _; rfl) {K : PySem.W.Frag} (hK : ∀ i, (Xs i).K = K := by intro _; rfl) : IV Xs F G (.Tuple elts kk tpos) (.Call (.Name "zip" p) [a, b] [] pos) (zipM (mapM1 unTup m) (mapM1 unTup n)) := by
  obtain ⟨te, hp, ho⟩ := h
  obtain ⟨tf, hp', ho'⟩ := h'
  refine ⟨RZ.iZipA K (tCons te (tCons tf tNil)), fun i => by rw [← hK i]; exact RZ.pi_zipA (hg i) (hm i) (pa_cons (hp i) (pa_cons (hp' i) pa_nil (hs2 i)) (hs1 i)) (hs1 i) (hpl i), fun Zx t H s l s' g hm' R q => ?_⟩
  obtain ⟨z, s1, h1, h2⟩ := bind_some hm'
  obtain ⟨z0, s0, k1, q1⟩ := bind_some h1
  obtain ⟨rfl, rfl⟩ := pure_eq q1
  obtain ⟨y, s2, h3, h4⟩ := bind_some h2
  obtain ⟨y0, s3, k3, q1⟩ := bind_some h3
  obtain ⟨rfl, rfl⟩ := pure_eq q1
  obtain ⟨rfl, rfl⟩ := pure_eq h4
  refine ho Zx t H s z0 _ g k1 _ fun v H1 g1 f1 r1 => ?_
  refine ho' Zx t H1 _ y0 _ g1 k3 _ fun v2 H2 g2 f2 r2 => ?_
  obtain ⟨p1, xs, rfl, n1, e1, l1⟩ := (r1.fix f2).toTup
  obtain ⟨p2, ys, rfl, n2, e2, l2⟩ := r2.toTup
  refine ⟨p1, p2, xs, ys, rfl, .inr ⟨e1.sq, e2.sq, q _ H2 g2 (f1.trans f2) fun Z' H3 ex tr => ⟨fun i x hx => ?_, fun i hi => ?_⟩⟩⟩
  · obtain ⟨x1, x2⟩ := x
    rw [List.getElem?_zip_eq_some] at hx
    obtain ⟨hx1, hx2⟩ := hx
    have kk1 := e1.at_ fun o q => ex.1 _ o n1 q
    have kk2 := e2.at_ fun o q => ex.1 _ o n2 q
    obtain ⟨y1, hy1, ry1⟩ := (l1.ext ex).get (i := i) (x := enc x1) (by rw [List.getElem?_map, hx1]; rfl)
    obtain ⟨y2, hy2, ry2⟩ := (l2.ext ex).get (i := i) (x := enc x2) (by rw [List.getElem?_map, hx2]; rfl)
    refine ⟨⟨xs, ys, y1, y2, kk1.sq, kk2.sq, hy1, hy2⟩, fun v H' hyl => ?_⟩
    obtain ⟨T, w1, w2, rfl, hT, rfl, q1, q2⟩ := hyl
    have e3 := q1 xs (kk1.sq)
    have e4 := q2 ys (kk2.sq)
    rw [hy1] at e3
    rw [hy2] at e4
    cases e3
    cases e4
    exact ⟨same_new hT, Gd.fresh_tup tr hT (.cons ry1 (.cons ry2 .nil))⟩
  · refine ⟨xs, ys, (e1.at_ fun o q => ex.1 _ o n1 q).sq, (e2.at_ fun o q => ex.1 _ o n2 q).sq, ?_⟩
    rw [l1.len, l2.len, List.length_map, List.length_map]
    rw [List.length_zip] at hi
    omega
end
end PL

namespace PL
open PySem L2 Enc
section
variable {X : Cx} {a b c : Expr} {pos : Pos} {tA tB tC : TT}
def tIfT (t u v : TT) : TT := fun σ H Q => t σ H fun c H1 => if c = true then u σ H1 Q else v σ H1 Q
theorem pt_ifx (hc : PT X c tA) (ha : PT X a tB) (hb : PT X b tC) : PT X (.IfExp c a b pos) (tIfT tA tB tC) := by
  refine ⟨fun pins s σ H Q I h => ?_⟩
  have e : isTrue (.IfExp c a b pos) X.env (eval (.IfExp c a b pos) X.env) = (do if ← isTrue c X.env (eval c X.env) then isTrue a X.env (eval a X.env) else isTrue b X.env (eval b X.env)) := rfl
  rw [e]
  refine wpAny_bind (thn (hc.run pins s σ H _ I h) fun d s1 ⟨H1, I1, q1⟩ => ?_)
  cases d with
  | true => exact ha.run pins s1 σ H1 Q I1 q1
  | false => exact hb.run pins s1 σ H1 Q I1 q1
end
section
variable {I S A B C N L R : Type} [Enc A] [Enc B] [Enc C] [Enc R] {Xs : I → Cx} {F : Fm S} {G : List Sl} {pos p p2 q : Pos} {a b c e : Expr} {x : Str} {K : PySem.W.Frag}
theorem et_ifx {m n o : M S Bool} (h : ET Xs F G c m) (h1 : ET Xs F G a n) (h2 : ET Xs F G b o) : ET Xs F G (.IfExp c a b pos) (iteM m n o) := by
  obtain ⟨tc, hp, ho⟩ := h
  obtain ⟨ta, hq, hw⟩ := h1
  obtain ⟨tb, hr, hz⟩ := h2
  refine ⟨tIfT tc ta tb, fun i => pt_ifx (hp i) (hq i) (hr i), fun Zx st H s y s' g hm Q q => ?_⟩
  obtain ⟨c, s1, e1, e2⟩ := bind_some hm
  refine ho Zx st H s c s1 g e1 _ fun H1 g1 f1 => ?_
  cases c with
  | true => exact iteT (hw Zx st H1 s1 y s' g1 e2 _ fun H2 g2 f2 => q H2 g2 (f1.trans f2))
  | false => exact iteF (hz Zx st H1 s1 y s' g1 e2 _ fun H2 g2 f2 => q H2 g2 (f1.trans f2))
def tyName : PyData → String
  | .none => "NoneType"
  | .bool _ => "bool"
  | .int _ => "int"
  | .str _ => "str"
  | .list _ => "list"
  | .tuple _ => "tuple"
  | .dict _ => "dict"
def isIntD (d : PyData) : Bool := tyName d == "int" || tyName d == "bool"
def isBoolD (d : PyData) : Bool := tyName d == "bool"
def isTupD (d : PyData) : Bool := tyName d == "tuple"
def isStrD (d : PyData) : Bool := tyName d == "str"
theorem Rp.ty {K : PySem.W.Frag} {Z : Addr → Prop} {H : Hp} {v : V} {d : PyData} (r : Rp Z H v d) : TyX K H v (.type (tyName d)) := by
  cases r with
  | non => exact .base .non
  | bl b => exact .base (.bl b)
  | int i => exact .base (.int i)
  | str x => exact .base (.str x)
  | lst n h t => exact .base (.lst h)
  | tup n h t =>
    obtain ⟨o, h, _⟩ := h
    exact .fTuple h
  | dic n h t =>
    rcases h with h | ⟨o, h⟩
    · exact .base (.dK h)
    · exact .fDict h
/-- the names of the types of data -/
def tyNames : List String := ["NoneType", "bool", "int", "str", "list", "tuple", "dict"]
theorem Rp.nm {Z : Addr → Prop} {H : Hp} {v : V} {d : PyData} (r : Rp Z H v d) : tyName d ∈ tyNames := by
  cases r <;> simp [tyName, tyNames]
theorem ev_isi {m : M S A} {cs : Str} {cn : String} (f : String → Bool) (hf : ∀ n ∈ tyNames, kitB n cn = some (f n)) (hm : ∀ i, (Xs i).mg "isinstance" = none) (hmc : ∀ i, (Xs i).mg cs = none) (hb : bootBuiltins cs = some (.type cn)) (h : EV Xs F G a m)
    (hg : ∀ i, Gl (Xs i) "isinstance" := by intro _; rfl) (hgc : ∀ i, Gl (Xs i) cs := by intro _; rfl) (hn : cs ≠ "__name__" := by decide) (hdb : (cs == ("__debug__" : Str)) = false := by decide)
    (he : ∀ i, starEach [a, .Name cs q] (Xs i).env = (false, eval a (Xs i).env) :: starEach [.Name cs q] (Xs i).env := by intro _; rfl) (he2 : ∀ i, starEach [.Name cs q] (Xs i).env = (false, eval (.Name cs q) (Xs i).env) :: starEach [] (Xs i).env := by intro _; rfl)
    (hpl : ∀ i, (backTo pos (starEach [.Name cs q] (Xs i).env)).any (·.1) = false := by intro _; rfl) (hK : ∀ i, (Xs i).K = K := by intro _; rfl) :
    EV Xs F G (.Call (.Name "isinstance" p) [a, .Name cs q] [] pos) (mapM1 (fun y => f (tyName (enc y))) m) := by
  obtain ⟨te, hp, ho⟩ := h
  refine ⟨tCB (rIsi K) (tCons te (tCons (L2.tC (.ty cn)) tNil)), fun i => by
    rw [← hK i]
    exact pe_callB call_isi (hg i) (hm i) PyProof.Rows.boot_isinstance (pa_cons (hp i) (pa_cons (pe_bltn (v := .ty cn) (hgc i) (hmc i) hb rfl hn hdb) pa_nil (he2 i)) (he i)) (by decide) (by decide) (he i) (hpl i), fun Zx t H s y s' g hm' Q q => ?_⟩
  obtain ⟨z, s1, h1, h2⟩ := bind_some hm'
  obtain ⟨rfl, rfl⟩ := pure_eq h2
  refine ho Zx t H s z s1 g h1 _ fun v H1 g1 f1 r1 => ?_
  exact ⟨v, .ty cn, _, _, _, rfl, .ty cn, r1.ty, kit_ty (hf _ r1.nm), q _ H1 g1 f1 (.bl _)⟩
theorem kit_int : ∀ n ∈ tyNames, kitB n "int" = some (n == "int" || n == "bool") := by
  intro n hn
  simp only [tyNames, List.mem_cons, List.not_mem_nil, or_false] at hn
  rcases hn with rfl | rfl | rfl | rfl | rfl | rfl | rfl <;> decide +kernel
theorem kit_bool : ∀ n ∈ tyNames, kitB n "bool" = some (n == "bool") := by
  intro n hn
  simp only [tyNames, List.mem_cons, List.not_mem_nil, or_false] at hn
  rcases hn with rfl | rfl | rfl | rfl | rfl | rfl | rfl <;> decide +kernel
theorem kit_tuple : ∀ n ∈ tyNames, kitB n "tuple" = some (n == "tuple") := by
  intro n hn
  simp only [tyNames, List.mem_cons, List.not_mem_nil, or_false] at hn
  rcases hn with rfl | rfl | rfl | rfl | rfl | rfl | rfl <;> decide +kernel
theorem kit_str : ∀ n ∈ tyNames, kitB n "str" = some (n == "str") := by
  intro n hn
  simp only [tyNames, List.mem_cons, List.not_mem_nil, or_false] at hn
  rcases hn with rfl | rfl | rfl | rfl | rfl | rfl | rfl <;> decide +kernel
theorem bb_bool : bootBuiltins "bool" = some (.type "bool") := by decide +kernel
theorem bb_str : bootBuiltins "str" = some (.type "str") := by decide +kernel
/-- what is no None -/
theorem ev_un {m : M S (Option A)} (h : EV Xs F G e m) : EV Xs F G e (bindM m fun y => ofO y) := ev_of (fun y => y) (fun y z h => by rw [h]; rfl) h
end
/-- no value of the type is None -/
class NNo (A : Type) [Enc A] : Prop where
  nn : ∀ y : A, enc y ≠ PyData.none
section
variable {A B C D : Type} [Enc A] [Enc B] [Enc C] [Enc D]
instance : NNo Int := ⟨fun y h => PyData.noConfusion (show PyData.int y = PyData.none from h)⟩
instance : NNo Bool := ⟨fun y h => PyData.noConfusion (show PyData.bool y = PyData.none from h)⟩
instance : NNo Str := ⟨fun y h => PyData.noConfusion (show PyData.str y = PyData.none from h)⟩
instance : NNo (List A) := ⟨fun y h => PyData.noConfusion (show PyData.list (y.map enc) = PyData.none from h)⟩
instance : NNo (Tup A) := ⟨fun y h => PyData.noConfusion (show PyData.tuple (List.map enc y) = PyData.none from h)⟩
instance : NNo (A × B) := ⟨fun y h => PyData.noConfusion (show PyData.tuple [enc y.1, enc y.2] = PyData.none from h)⟩
instance : NNo (T3 A B C) := ⟨fun y h => PyData.noConfusion (show PyData.tuple [enc y.a, enc y.b, enc y.c] = PyData.none from h)⟩
instance : NNo (T4 A B C D) := ⟨fun y h => PyData.noConfusion (show PyData.tuple [enc y.a, enc y.b, enc y.c, enc y.d] = PyData.none from h)⟩
end
section
variable {I S A B C N L R : Type} [Enc A] [Enc B] [Enc C] [Enc R] {Xs : I → Cx} {F : Fm S} {G : List Sl} {pos p p2 q : Pos} {a b c e : Expr} {x : Str} {K : PySem.W.Frag}
def whileM {L R : Type} (c : L → M S Bool) (f : L → M S (Fl L L R)) : Nat → L → M S (Fl L Empty R)
  | 0, _ => failM
  | n + 1, y => bindM (c y) fun b => if b = true then bindM (f y) fun r => match r with
    | .nx y' => whileM c f n y'
    | .ct y' => whileM c f n y'
    | .bk y' => pureM (.nx y')
    | .rt r => pureM (.rt r) else pureM (.nx y)
def whileS {N L R : Type} (n : Nat) (c : N → M S Bool) (f : N → M S (Fl N N R)) (y0 : N) : M S (Fl N L R) := liftM (whileM c f n y0)
def ttU (Xs : I → Cx) (e : Expr) : TT := fun t H Q => ∃ tt : TT, (∀ i, PT (Xs i) e tt) ∧ tt t H Q
theorem ttU_pt (i : I) : PT (Xs i) e (ttU Xs e) := ⟨fun pins s t H Q J ⟨te, hp, h⟩ => (hp i).run pins s t H Q J h⟩
theorem ET.uni {m : M S Bool} (h : ET Xs F G e m) : TTok F G (ttU Xs e) m := by
  obtain ⟨te, hp, ho⟩ := h
  exact fun Zx t H s a s' g hm Q q => ⟨te, hp, ho Zx t H s a s' g hm Q q⟩
theorem ss_while {L1 : Type} {Gl : L → List Sl} {Gs : L1 → List Sl} {body : List Stmt} {mc : L1 → M S Bool} {f : L1 → M S (Fl L1 L1 R)} {y0 : L1} (n : Nat) (hsub : SubG G (Gs y0)) (hc : ∀ l, ET Xs F (Gs l) c (mc l)) (hb : ∀ l, SV Xs F (Gs l) body (f l) Gs Gs)
    (hp : ∀ i, PassesOwn (model (Xs i).prog (Xs i).w) (Xs i).A (Xs i).env (Xs i).xe) : SS (N := L1) (L := L) Xs F G (.While c body [] pos) (liftM (whileM mc f n y0)) Gs Gl := by
  have hc' := fun l => (hc l).uni
  have hb' := fun l => (hb l).uni
  refine ⟨tWhile (ttU Xs c) (tsU Xs body), fun i => ps_while (hp i) (ttU_pt i) (tsU_ps i), fun Zx t H s r s' g hm D q => ?_⟩
  obtain ⟨r0, s0, h3, h4⟩ := bind_some hm
  have g1' := g.sub hsub
  have st0 : Stp F G t H (Gs y0) t H := ⟨fun b o z _ h => h, fun b z => .inl (hsub.own z)⟩
  refine ⟨fun m t2 H2 => ∃ y s2, Gd F Zx (Gs y) s2 t2 H2 ∧ Stp F G t H (Gs y) t2 H2 ∧ whileM mc f m y s2 = some (r0, s0), ⟨n, y0, s, g1', st0, h3⟩, ?_⟩
  rintro m t2 H2 ⟨y, s2, g2, st2, hrun⟩
  cases m with
  | zero => cases hrun
  | succ m =>
    obtain ⟨b, s3, h5, h6⟩ := bind_some hrun
    refine hc' y Zx t2 H2 s2 b s3 g2 h5 _ fun H3 g3 f3 => ?_
    have st3 : Stp F G t H (Gs y) t2 H3 := st2.trans (Stp.fix f3) g3
    cases b with
    | false =>
      rw [if_neg Bool.false_ne_true] at h6 ⊢
      obtain ⟨rfl, rfl⟩ := pure_eq h6
      obtain ⟨rfl, rfl⟩ := pure_eq h4
      exact q t2 H3 g3 st3
    | true =>
      rw [if_pos rfl] at h6 ⊢
      obtain ⟨rb, s4, h7, h8⟩ := bind_some h6
      refine ⟨fun t5 H5 => ∃ y' s5, Gd F Zx (Gs y') s5 t5 H5 ∧ Stp F G t H (Gs y') t5 H5 ∧ whileM mc f m y' s5 = some (r0, s0), fun t5 H5 w => ⟨m, Nat.lt_succ_self m, w⟩, ?_⟩
      refine hb' y Zx t2 H3 s3 rb s4 g3 h7 _ ?_
      cases rb with
      | nx y' => exact fun t5 H5 g5 s5 => ⟨y', s4, g5, st3.trans s5 g5, h8⟩
      | ct y' => exact fun t5 H5 g5 s5 => ⟨y', s4, g5, st3.trans s5 g5, h8⟩
      | bk y' =>
        obtain ⟨rfl, rfl⟩ := pure_eq h8
        obtain ⟨rfl, rfl⟩ := pure_eq h4
        exact fun t5 H5 g5 s5 => q t5 H5 g5 (st3.trans s5 g5)
      | rt v' =>
        obtain ⟨rfl, rfl⟩ := pure_eq h8
        obtain ⟨rfl, rfl⟩ := pure_eq h4
        refine fun v5 H5 a5 k5 r5 => q v5 H5 a5 (fun b o z y e => ?_) r5
        have e1 := st3.at1 z y e
        exact k5 b o z e1.1 e1.2
end
end PL

namespace PL
open PySem L2 Enc
instance (a b : Int) : Decidable (RgOk a b) := inferInstanceAs (Decidable (_ ∧ _ ∧ _ ∧ _ ∧ _))
/-- a list of two items of known types -/
structure Pr (A B : Type) where
  a : A
  b : B
instance {A B : Type} [Enc A] [Enc B] : Enc (Pr A B) := ⟨fun p => .list [enc p.a, enc p.b]⟩
section
variable {I S A B C D N L R : Type} [Enc A] [Enc B] [Enc C] [Enc D] [Enc R] {Xs : I → Cx} {F : Fm S} {G G' : List Sl} {pos p p2 q : Pos} {a b c d e : Expr} {es : List Expr} {x : Str} {K : PySem.W.Frag}
instance : NNo (Pr A B) := ⟨fun y h => PyData.noConfusion (show PyData.list [enc y.a, enc y.b] = PyData.none from h)⟩
theorem bind_run {S A B : Type} {m : M S A} {k : A → M S B} {s s1 : S} {a : A} (h : m s = some (a, s1)) : bindM m k s = k a s1 := by
  unfold bindM
  rw [h]
def pr2M (m : M S A) (n : M S B) : M S (Pr A B) := bindM m fun u => bindM n fun w => pureM ⟨u, w⟩
theorem ev_pr2 {m : M S A} {n : M S B} (h : EV Xs F G a m) (h2 : EV Xs F G b n) (hs1 : ∀ i, starEach [a, b] (Xs i).env = (false, eval a (Xs i).env) :: starEach [b] (Xs i).env := by intro _; rfl)
    (hs2 : ∀ i, starEach [b] (Xs i).env = (false, eval b (Xs i).env) :: starEach [] (Xs i).env := by intro _; rfl) : EV Xs F G (.List [a, b] pos) (pr2M m n) := by
  obtain ⟨ta, hp, ho⟩ := ea_cons h (ea_cons h2 ea_nil hs2) hs1
  refine ⟨tLst ta, fun i => pe_lst (hp i), fun Zx t H s y s' g hm Q q => ?_⟩
  obtain ⟨u, s1, h1, h2⟩ := bind_some hm
  obtain ⟨w, s2, h3, h4⟩ := bind_some h2
  obtain ⟨rfl, rfl⟩ := pure_eq h4
  have hm' : (pairM m (pairM n (pureM ()))) s = some ((u, w, ()), s2) := by
    unfold pairM
    rw [bind_run h1, bind_assoc, bind_run h3]
    rfl
  refine ho Zx t H s (u, w, ()) s2 g hm' _ fun vs H1 g1 f1 r1 => ⟨?_, fun pp hn1 => ?_⟩
  · rw [r1.len]
    show 2 ≤ sizeLine
    rw [sizeLine_eq]
    decide
  · have sm : Same H1 (upd H1 pp (.lst vs)) := same_new hn1
    exact q _ _ (g1.same sm) (f1.trans (Fix.same sm)) (.lst (g1.new hn1) upd_same (r1.fix (Fix.same sm)))
/-- a list taken apart -/
theorem bd_lst {k n : Nat} {ds : List PyData} {ks : List Nat} (h : BDs Xs F G es ds G' ks) (hc : ∀ i, (Xs i).calm = true := by intro _; rfl) (hl : ds.length = n := by rfl)
    (hn : ∀ i, (assignEach es (Xs i).env).length = n := by intro _; rfl) (hst : ∀ i, (assignEach es (Xs i).env).findIdx? (·.1) = none := by intro _; rfl) (hK : ∀ i, (Xs i).K = K := by intro _; rfl) :
    BD Xs F G (.Tuple es k pos) (.list ds) G' ks := by
  obtain ⟨g1, hp, ho⟩ := h
  refine ⟨gLst K n g1, fun i => by rw [← hK i]; exact pg_lst (hc i) (hp i) (hn i) (hst i), fun Zx t H s v g r Q q => ?_⟩
  rcases r with r | ⟨_, T, xs, ds', e1, e2, _⟩
  · cases r with
    | lst n1 e1 l1 => exact ⟨_, _, rfl, SqL.of e1, by rw [l1.len, hl], ho Zx t H s _ g l1 Q q⟩
  · cases e2
/-- a constant place of such a list -/
theorem ev_prL {m : M S A} {k j : Nat} {sp : Pos} (f : A → B) (hf : ∀ y, ∃ ds, enc y = .list ds ∧ ds[k]? = some (enc (f y))) (ha : EV Xs F G a m) (hK : ∀ i, (Xs i).K = K := by intro _; rfl) :
    EV Xs F G (.Subscript a (.Constant (.int (k : Int)) j sp) pos) (mapM1 f m) := by
  obtain ⟨ta, hp, hx⟩ := ha
  refine ⟨tOp (rIxL K) ta (tC (.int (k : Int))), fun i => by rw [← hK i]; exact pe_ix ix_list (hp i) pe_int (fun _ _ => rfl), fun Zx t H s y s' g hm Q q' => ?_⟩
  obtain ⟨z, s1, h1, h2⟩ := bind_some hm
  obtain ⟨rfl, rfl⟩ := pure_eq h2
  refine hx Zx t H s z s1 g h1 _ fun v H1 g1 f1 r1 => ?_
  obtain ⟨ds, e1, e2⟩ := hf z
  rw [e1] at r1
  cases r1 with
  | lst n1 h3 l1 =>
    obtain ⟨w, hw, rw_⟩ := l1.get e2
    refine ⟨_, _, (k : Int), w, rfl, rfl, SqL.of h3, ?_, q' w H1 g1 f1 rw_⟩
    have hk := (List.getElem?_eq_some_iff.mp hw).1
    rw [atI_nth hk]
    rw [List.getElem?_eq_getElem hk] at hw
    exact hw
def tChain3 (r r' r'' : R2) (ta tb tc td : TE) : TT := fun σ H Q => ta σ H fun x H1 => tb σ H1 fun y H2 => r x y H2 fun z H3 => ∃ k, z = .bl k ∧
  if k = true then tc σ H3 fun w H4 => r' y w H4 fun z2 H5 => ∃ k2, z2 = .bl k2 ∧ if k2 = true then td σ H5 fun v H6 => r'' w v H6 fun z3 H7 => ∃ k3, z3 = .bl k3 ∧ Q k3 H7 else Q false H5 else Q false H3
theorem pt_chain3 {X : Cx} {o1 o2 o3 : CmpOp} {r r' r'' : R2} {ta tb tc td : TE} (h1 : OpR X (compareOp o1) r) (h2 : OpR X (compareOp o2) r') (h3 : OpR X (compareOp o3) r'') (ha : PE X a ta) (hb : PE X b tb) (hc : PE X c tc) (hd : PE X d td)
    (hm : lastMarks [o1, o2, o3] [b, c, d] = false := by with_unfolding_all rfl) : PT X (.Compare a [o1, o2, o3] [b, c, d] pos) (tChain3 r r' r'' ta tb tc td) := by
  refine ⟨fun pins s σ H Q I h => ?_⟩
  refine PyProof.Rows.isTrue_chain (thn (ha.run pins s σ H _ I h) fun v s1 ⟨x, H1, I1, r1, q1⟩ => PyProof.Rows.test_link (thn (hb.run pins s1 σ H1 _ I1 q1) fun u s2 ⟨y, H2, I2, r2, q2⟩ =>
    thn (h1 pins s2 σ H2 x y v u _ I2 r1 r2 q2) fun dd s3 ⟨z, H3, I3, r3, k, e, q3⟩ => ?_)) hm
  subst e
  cases r3
  refine wpAny_truthy_bool ?_
  cases k with
  | false => exact PyProof.Rows.ite_ff ⟨H3, I3, q3⟩
  | true =>
    refine PyProof.Rows.ite_tt (PyProof.Rows.test_link (thn (hc.run pins s3 σ H3 _ I3 q3) fun w s4 ⟨z', H4, I4, r4, q4⟩ => thn (h2 pins s4 σ H4 y z' u w _ I4 r2 r4 q4) fun d' s5 ⟨z2, H5, I5, r5, k2, e2, q5⟩ => ?_))
    subst e2
    cases r5
    refine wpAny_truthy_bool ?_
    cases k2 with
    | false => exact PyProof.Rows.ite_ff ⟨H5, I5, q5⟩
    | true =>
      refine PyProof.Rows.ite_tt (PyProof.Rows.test_last (thn (hd.run pins s5 σ H5 _ I5 q5) fun w6 s6 ⟨z6, H6, I6, r6, q6⟩ => thn (h3 pins s6 σ H6 z' z6 w w6 _ I6 r4 r6 q6) fun d7 s7 ⟨z7, H7, I7, r7, k3, e3, q7⟩ => ?_))
      subst e3
      cases r7
      exact wpAny_truthy_bool ⟨H7, I7, q7⟩
def chain3M (f g h : Int → Int → Bool) (m n o o2 : M S Int) : M S Bool := bindM m fun x => bindM n fun y => if f x y then bindM o fun z => if g y z then bindM o2 fun w => pureM (h z w) else pureM false else pureM false
theorem et_chain3 {o1 o2 o3 : CmpOp} {f g h : Int → Int → Bool} {m n o o4 : M S Int} (ho : ∀ i, OpR (Xs i) (compareOp o1) (rI0 fun i j => .bl (f i j))) (ho2 : ∀ i, OpR (Xs i) (compareOp o2) (rI0 fun i j => .bl (g i j))) (ho3 : ∀ i, OpR (Xs i) (compareOp o3) (rI0 fun i j => .bl (h i j)))
    (ha : EV Xs F G a m) (hb : EV Xs F G b n) (hc : EV Xs F G c o) (hd : EV Xs F G d o4) (hlm : lastMarks [o1, o2, o3] [b, c, d] = false := by with_unfolding_all rfl) : ET Xs F G (.Compare a [o1, o2, o3] [b, c, d] pos) (chain3M f g h m n o o4) := by
  obtain ⟨ta, hpa, ha⟩ := ha
  obtain ⟨tb, hpb, hb⟩ := hb
  obtain ⟨tc, hpc, hc⟩ := hc
  obtain ⟨td, hpd, hd⟩ := hd
  refine ⟨_, fun i => pt_chain3 (ho i) (ho2 i) (ho3 i) (hpa i) (hpb i) (hpc i) (hpd i) hlm, fun Zx t H s y s' gd hm Q q => ?_⟩
  obtain ⟨i, s1, h1, h2⟩ := bind_some hm
  obtain ⟨j, s2, h3, h4⟩ := bind_some h2
  refine ha Zx t H s i s1 gd h1 _ fun v H1 g1 f1 r1 => ?_
  refine hb Zx t H1 s1 j s2 g1 h3 _ fun u H2 g2 f2 r2 => ?_
  refine ⟨i, j, r1.toInt, r2.toInt, f i j, rfl, ?_⟩
  cases e : f i j with
  | false =>
    rw [e] at h4
    obtain ⟨rfl, rfl⟩ := pure_eq h4
    exact iteF (q H2 g2 (f1.trans f2))
  | true =>
    rw [e] at h4
    obtain ⟨k, s3, h5, h6⟩ := bind_some h4
    refine iteT (hc Zx t H2 s2 k s3 g2 h5 _ fun w' H3 g3 f3 r3 => ?_)
    refine ⟨j, k, r2.toInt, r3.toInt, g j k, rfl, ?_⟩
    cases e2 : g j k with
    | false =>
      rw [e2] at h6
      obtain ⟨rfl, rfl⟩ := pure_eq h6
      exact iteF (q H3 g3 ((f1.trans f2).trans f3))
    | true =>
      rw [e2] at h6
      obtain ⟨l, s4, h7, h8⟩ := bind_some h6
      obtain ⟨rfl, rfl⟩ := pure_eq h8
      refine iteT (hd Zx t H3 s3 l s4 g3 h7 _ fun w2 H4 g4 f4 r4 => ?_)
      exact ⟨k, l, r3.toInt, r4.toInt, _, rfl, q H4 g4 (((f1.trans f2).trans f3).trans f4)⟩
def lrngM (m n : M S Int) : M S (List Int) := bindM m fun lo => bindM n fun hi => guardM (RgOk lo hi) (pureM (rangeL lo hi))
theorem ev_listRng {m n : M S Int} {q1 : Pos} (hm : ∀ i, (Xs i).mg "list" = none) (hm2 : ∀ i, (Xs i).mg "range" = none) (h : EV Xs F G a m) (h2 : EV Xs F G b n) (hc : ∀ i, (Xs i).calm = true := by intro _; rfl) (hg : ∀ i, Gl (Xs i) "list" := by intro _; rfl) (hg2 : ∀ i, Gl (Xs i) "range" := by intro _; rfl)
    (na : ∀ i, starEach [a, b] (Xs i).env = (false, eval a (Xs i).env) :: starEach [b] (Xs i).env := by intro _; rfl) (nb : ∀ i, starEach [b] (Xs i).env = (false, eval b (Xs i).env) :: starEach [] (Xs i).env := by intro _; rfl)
    (hp2 : ∀ i, (backTo q1 (starEach [b] (Xs i).env)).any (·.1) = false := by intro _; rfl)
    (he : ∀ i, starEach [.Call (.Name "range" p2) [a, b] [] q1] (Xs i).env = (false, eval (.Call (.Name "range" p2) [a, b] [] q1) (Xs i).env) :: starEach [] (Xs i).env := by intro _; rfl) :
    EV Xs F G (.Call (.Name "list" p) [.Call (.Name "range" p2) [a, b] [] q1] [] pos) (lrngM m n) := by
  obtain ⟨ta, hp, ho⟩ := h
  obtain ⟨tb, hq, hw⟩ := h2
  refine ⟨tLstRg (tRg2 ta tb), fun i => pe_listRg (hc i) (hg i) (hm i) (prg_2 (hg2 i) (hm2 i) (hp i) (hq i) (na i) (nb i) (hp2 i)) (he i), fun Zx t H s y s' g hm' Q q => ?_⟩
  obtain ⟨lo, s1, h1, h2⟩ := bind_some hm'
  obtain ⟨hi, s2, h3, h4⟩ := bind_some h2
  obtain ⟨hr, h5⟩ := guard_eq h4
  obtain ⟨rfl, rfl⟩ := pure_eq h5
  refine ho Zx t H s lo s1 g h1 _ fun v H1 g1 f1 r1 => ?_
  refine hw Zx t H1 s1 hi s2 g1 h3 _ fun u H2 g2 f2 r2 => ?_
  refine ⟨lo, hi, r1.toInt, r2.toInt, hr, fun pn hn => ?_⟩
  have sm : Same H2 (upd H2 pn (.lst (rgV lo hi))) := same_new hn
  have e : rgV lo hi = (rangeL lo hi).map V.int := by
    unfold rgV rangeL
    rw [List.map_map]
    rfl
  rw [e] at sm ⊢
  exact q _ _ (g2.same sm) ((f1.trans f2).trans (Fix.same sm)) (.lst (g2.new hn) upd_same (RpL.of_ints _))
/-- len of a tuple of known arity -/
theorem ev_lenN {m : M S A} (n : Nat) (hA : ∀ y : A, ∃ ds, enc y = .tuple ds ∧ ds.length = n) (hm : ∀ i, (Xs i).mg "len" = none) (h : EV Xs F G a m) (hg : ∀ i, Gl (Xs i) "len" := by intro _; rfl)
    (he : ∀ i, starEach [a] (Xs i).env = (false, eval a (Xs i).env) :: starEach [] (Xs i).env := by intro _; rfl) (hK : ∀ i, (Xs i).K = K := by intro _; rfl) : EV Xs F G (.Call (.Name "len" p) [a] [] pos) (fun1M (fun _ : A => some (n : Int)) m) :=
  ev_b1 (r := fun xs H Q => ∃ p ys, xs = [.ref p] ∧ (SqL K H p ys ∨ SqT K H p ys) ∧ Q (.int ys.length) H) (fun i => by rw [← hK i]; exact call_len_seq) (fun F Zx G s t H u vs z g r e Q q => by
    obtain ⟨v, rfl, rv⟩ := r.one
    cases e
    obtain ⟨ds, e1, e2⟩ := hA u.1
    rw [e1] at rv
    cases rv with
    | tup n1 h l =>
      refine ⟨_, _, rfl, .inr h.sq, ?_⟩
      rw [l.len, e2]
      exact q _ H (Same.refl H) (.int _)) hm bb_len h hg (by decide) (by decide) he
theorem ev_notNone {m : M S (Option A)} {j : Nat} {q1 : Pos} (hA : ∀ y : A, enc y ≠ PyData.none) (ha : EV Xs F G a m) : EV Xs F G (.Compare a [.IsNot] [.Constant .none j q1] pos) (mapM1 Option.isSome m) := by
  obtain ⟨ta, hp, hx⟩ := ha
  refine ⟨tNotN ta, fun i => pe_cmp (pc_notN (hp i)), fun Zx t H s y s' g hm Q q => ?_⟩
  obtain ⟨z, s1, h1, h2⟩ := bind_some hm
  obtain ⟨rfl, rfl⟩ := pure_eq h2
  refine hx Zx t H s z s1 g h1 _ fun v H1 g1 f1 r1 => ?_
  have e : (!decide (v = .non)) = z.isSome := by
    cases z with
    | none =>
      have r1' : Rp (ZF F Zx G t) H1 v .none := r1
      cases r1'
      rfl
    | some y =>
      have r1' : Rp (ZF F Zx G t) H1 v (enc y) := r1
      refine congrArg (fun b : Bool => !b) (decide_eq_false (p := v = .non) fun e => ?_)
      subst e
      generalize he : enc y = d at r1'
      cases r1'
      exact hA y he
  rw [e]
  exact q _ H1 g1 f1 (.bl _)
theorem et_notNone {m : M S (Option A)} {j : Nat} {q1 : Pos} (hA : ∀ y : A, enc y ≠ PyData.none) (ha : EV Xs F G a m) : ET Xs F G (.Compare a [.IsNot] [.Constant .none j q1] pos) (mapM1 Option.isSome m) := by
  obtain ⟨ta, hp, hx⟩ := ha
  refine ⟨tB (tNotN ta), fun i => pt_cmp (pc_notN (hp i)), fun Zx t H s y s' g hm Q q => ?_⟩
  obtain ⟨z, s1, h1, h2⟩ := bind_some hm
  obtain ⟨rfl, rfl⟩ := pure_eq h2
  refine hx Zx t H s z s1 g h1 _ fun v H1 g1 f1 r1 => ?_
  have e : (!decide (v = .non)) = z.isSome := by
    cases z with
    | none =>
      have r1' : Rp (ZF F Zx G t) H1 v .none := r1
      cases r1'
      rfl
    | some y =>
      have r1' : Rp (ZF F Zx G t) H1 v (enc y) := r1
      refine congrArg (fun b : Bool => !b) (decide_eq_false (p := v = .non) fun e => ?_)
      subst e
      generalize he : enc y = d at r1'
      cases r1'
      exact hA y he
  rw [e]
  exact ⟨_, rfl, q H1 g1 f1⟩
theorem ev_ownIx {l : List A} {k : Nat} {n : M S Int} (hk : G[k]? = some (.own (enc l))) (hb : EV Xs F G b n) (hs : PlainIx b := by exact fun _ _ => rfl) (hN : ∀ i, (Xs i).N[k]? = some x := by intro _; rfl)
    (hv : ∀ i, Vis (Xs i).env.scope x := by first | exact fun _ => Or.inl rfl | exact fun _ => Or.inr (Or.inl rfl) | exact fun _ => Or.inr (Or.inr rfl)) (hd : (x == ("__debug__" : Str)) = false := by decide) (hcd : (x == ("__classdict__" : Str)) = false := by decide)
    (hK : ∀ i, (Xs i).K = K := by intro _; rfl) : EV Xs F G (.Subscript (.Name x p) b pos) (ixM (pureM l) n) := by
  obtain ⟨tb, hp, ho⟩ := hb
  refine ⟨tOp (rIxL K) (tVar k) tb, fun i => by rw [← hK i]; exact pe_ix ix_list (pe_var (hN i) (hv i) hd hcd) (hp i) hs, fun Zx t H s y s' g hm Q q => ?_⟩
  obtain ⟨z, s1, h1, h2⟩ := bind_some hm
  obtain ⟨h3, rfl⟩ := ofO_eq h2
  obtain ⟨hkl, _⟩ := List.getElem?_eq_some_iff.mp hk
  have hk' : k < t.length := by
    rw [g.len]
    exact hkl
  have ht : t[k]? = some (t[k]'hk') := List.getElem?_eq_getElem hk'
  obtain ⟨pp, ep, _⟩ := g.slot k _ _ hk ht
  rw [ep] at ht
  refine ⟨_, ht, ?_⟩
  refine ho Zx t H s z s1 g h1 _ fun v H1 g1 f1 r1 => ?_
  obtain rfl := r1.toInt
  obtain ⟨pp', ep', xs, hxs, rx⟩ := g1.slot k _ _ hk ht
  cases ep'
  obtain ⟨w, hw, rw_⟩ := RpL.at (l := l) rx h3
  exact ⟨pp, xs, z, w, rfl, rfl, SqL.of hxs, hw, q w H1 g1 f1 rw_⟩
theorem ss_ifNm {Gn : N → List Sl} {Gl : L → List Sl} {m : M S (Option A)} {ma mb : Option A → M S (Fl N L R)} {k j : Nat} {sa sb : List Stmt} {q1 q2 q3 : Pos} (hA : ∀ y : A, enc y ≠ PyData.none) (h : EV Xs F G e m)
    (h1 : ∀ y, SV Xs F (G.set k (.dat (enc y))) sa (ma y) Gn Gl) (h2 : ∀ y, SV Xs F (G.set k (.dat (enc y))) sb (mb y) Gn Gl) (hN : ∀ i, (Xs i).N.Nodup) (hno : noOwn G [k] = true := by rfl) (hi : ∀ i, (Xs i).N[k]? = some x := by intro _; rfl)
    (hx : ∀ i, Loc (Xs i).env.scope x := by first | exact fun _ => Or.inl rfl | exact fun _ => Or.inr rfl) (hf : ∀ i, (Xs i).fn x = true ∨ (Xs i).env.scope.names.lookup x = some .local := by first | exact fun _ => .inl rfl | exact fun _ => .inr rfl) :
    SS Xs F G (.If (.Compare (.NamedExpr (.Name x q1) e q2) [.Is] [.Constant .none j q3] p) sa sb pos) (bindM m fun y => if y.isNone = true then ma y else mb y) Gn Gl := by
  obtain ⟨te, hp, ho⟩ := h
  have h1' := fun y => (h1 y).uni
  have h2' := fun y => (h2 y).uni
  refine ⟨tIfW (wCmp (fun x y H Q => y = .non ∧ Q (.bl (decide (x = .non))) H) (wNm (wE te) k) (tC .non)) (tsU Xs sa) (tsU Xs sb), fun i => ps_ifW (ptw_cmp op_isN (pew_named (hN i) (hi i) (hx i) (pew_of (hp i)) (hf i)) pe_non (by first | exact nomark _ | rfl)) (tsU_ps i) (tsU_ps i), fun Zx t H s r s' g hm D q => ?_⟩
  obtain ⟨y, s1, e1, e2⟩ := bind_some hm
  refine ho Zx t H s y s1 g e1 _ fun v H1 g1 f1 r1 => ⟨rfl, _, rfl, ?_⟩
  have e3 : decide (v = .non) = y.isNone := by
    cases y with
    | none =>
      have r1' : Rp (ZF F Zx G t) H1 v .none := r1
      cases r1'
      rfl
    | some y =>
      have r1' : Rp (ZF F Zx G t) H1 v (enc y) := r1
      refine decide_eq_false fun e => ?_
      subst e
      generalize he : enc y = d at r1'
      cases r1'
      exact hA y he
  rw [e3]
  have g2 := g1.set (d := enc y) hno r1
  have st : Stp F G t H (G.set k (.dat (enc y))) (t.set k (some v)) H1 := ⟨fun x o z _ h => f1 x o z h, fun x z => .inl ((own_set hno x).mp z)⟩
  cases ey : y.isNone with
  | true =>
    rw [ey] at e2
    exact iteT (h1' y Zx _ H1 s1 r s' g2 e2 D (q.from st))
  | false =>
    rw [ey] at e2
    exact iteF (h2' y Zx _ H1 s1 r s' g2 e2 D (q.from st))
end
theorem nf7 : (∀ {S A B : Type} (m : M S A) (n : M S B), pr2M m n = bindM m fun u => bindM n fun w => pureM (⟨u, w⟩ : Pr A B)) ∧
    (∀ {S : Type} (f g h : Int → Int → Bool) (m n o o2 : M S Int), chain3M f g h m n o o2 = bindM m fun x => bindM n fun y => if f x y then bindM o fun z => if g y z then bindM o2 fun w => pureM (h z w) else pureM false else pureM false) ∧
    (∀ {S : Type} (m n : M S Int), lrngM m n = bindM m fun lo => bindM n fun hi => guardM (RgOk lo hi) (pureM (rangeL lo hi))) := ⟨fun _ _ => rfl, fun _ _ _ _ _ _ _ => rfl, fun _ _ => rfl⟩
end PL

namespace PL
open PySem L2 Enc
theorem nfK : (∀ {S A B : Type} (a : A) (k : A → M S B), bindM (pureM a) k = k a) ∧
    (∀ {S A B C : Type} (m : M S A) (f : A → M S B) (g : B → M S C), bindM (bindM m f) g = bindM m fun a => bindM (f a) g) ∧
    (∀ {S A B : Type} {p : Prop} [Decidable p] (m : M S A) (k : A → M S B), bindM (guardM p m) k = guardM p (bindM m k)) ∧
    (∀ {S N1 N L R : Type} (x : N1) (k : N1 → M S (Fl N L R)), seqM (pureM (.nx x)) k = k x) ∧
    (∀ {S N1 N L R : Type} (x : R) (k : N1 → M S (Fl N L R)), seqM (pureM (.rt x)) k = pureM (.rt x)) ∧
    (∀ {S N1 N L R : Type} (x : L) (k : N1 → M S (Fl N L R)), seqM (pureM (.bk x)) k = pureM (.bk x)) ∧
    (∀ {S N1 N L R : Type} (x : L) (k : N1 → M S (Fl N L R)), seqM (pureM (.ct x)) k = pureM (.ct x)) ∧
    (∀ {S A N1 N L R : Type} (m : M S A) (f : A → M S (Fl N1 L R)) (k : N1 → M S (Fl N L R)), seqM (bindM m f) k = bindM m fun a => seqM (f a) k) ∧
    (∀ {S N1 N L R : Type} {p : Prop} [Decidable p] (m : M S (Fl N1 L R)) (k : N1 → M S (Fl N L R)), seqM (guardM p m) k = guardM p (seqM m k)) ∧
    (∀ {S R : Type} (o : Option R) (x : R), retM o (pureM (.rt x) : M S (Fl Unit Empty R)) = pureM x) ∧
    (∀ {S R : Type} (o : Option R) (x : Unit), retM o (pureM (.nx x) : M S (Fl Unit Empty R)) = ofO o) ∧
    (∀ {S A R : Type} (o : Option R) (m : M S A) (f : A → M S (Fl Unit Empty R)), retM o (bindM m f) = bindM m fun a => retM o (f a)) ∧
    (∀ {S R : Type} {p : Prop} [Decidable p] (o : Option R) (m : M S (Fl Unit Empty R)), retM o (guardM p m) = guardM p (retM o m)) ∧
    (∀ {S A B : Type} (f : A → B) (m : M S A), mapM1 f m = bindM m fun a => pureM (f a)) ∧
    (∀ {S A : Type} (a : A), (ofO (some a) : M S A) = pureM a) ∧
    (∀ {S L R : Type} (o : Option R) (m : M S (Fl L Empty R)) (k : L → M S (Fl Unit Empty R)), retM o (seqM (liftM m) k) = lpM m fun y => retM o (k y)) ∧
    (∀ {S N1 N2 N L R : Type} (m : M S (Fl N1 L R)) (k : N1 → M S (Fl N2 L R)) (k2 : N2 → M S (Fl N L R)), seqM (seqM m k) k2 = seqM m fun y => seqM (k y) k2) :=
  ⟨bind_pure, bind_assoc, bind_guard, seq_nx, seq_rt, seq_bk, seq_ct, seq_bind, seq_guard, retM_rt, retM_nx, retM_bind, retM_guard, fun _ _ => rfl, ofO_some, retM_loop, seq_seq⟩
section
variable {S A B N1 N L R : Type} {K : Cnt S} {c : Nat}
/-- if bad: return False -/
theorem ob_ok {p : Prop} [Decidable p] {m : M S (Fl N1 L R)} {x : N1} {k : N1 → M S (Fl N L R)} {T : Fl N L R → Prop} (hp : ¬ p) (h : OkM K c (k x) T) : OkM K c (seqM (if p then m else pureM (.nx x)) k) T := by
  rw [if_neg hp]
  exact h
theorem ob_sif {p : Prop} [Decidable p] {m n : M S (Fl N1 L R)} {k : N1 → M S (Fl N L R)} {T : Fl N L R → Prop} (h1 : p → OkM K c (seqM m k) T) (h2 : ¬ p → OkM K c (seqM n k) T) : OkM K c (seqM (if p then m else n) k) T := by
  split
  · exact h1 ‹_›
  · exact h2 ‹_›
theorem ob_bif {p : Prop} [Decidable p] {m n : M S A} {k : A → M S B} {T : B → Prop} (h1 : p → OkM K c (bindM m k) T) (h2 : ¬ p → OkM K c (bindM n k) T) : OkM K c (bindM (if p then m else n) k) T := by
  split
  · exact h1 ‹_›
  · exact h2 ‹_›
theorem ob_yes {p : Prop} [Decidable p] {m n : M S A} {k : A → M S B} {T : B → Prop} (hp : p) (h : OkM K c (bindM m k) T) : OkM K c (bindM (if p then m else n) k) T := by
  rw [if_pos hp]
  exact h
theorem ob_no {p : Prop} [Decidable p] {m n : M S A} {k : A → M S B} {T : B → Prop} (hp : ¬ p) (h : OkM K c (bindM n k) T) : OkM K c (bindM (if p then m else n) k) T := by
  rw [if_neg hp]
  exact h
end
end PL

namespace PL
open PySem L2 Enc
def rg3Ok (lo hi c : Int) : Prop := c ≠ 0 ∧ c.natAbs < 1073741824 ∧ Builtin.Range.small lo hi c = true
instance (lo hi c : Int) : Decidable (rg3Ok lo hi c) := inferInstanceAs (Decidable (_ ∧ _))
def rangeC (lo hi c : Int) : List Int := (List.range (Builtin.Range.rangeSize lo hi c).toNat).map fun i : Nat => lo + (i : Int) * c
section
variable {S : Type}
def rng3M (m n o : M S Int) : M S (List Int) := bindM m fun lo => bindM n fun hi => bindM o fun c => guardM (rg3Ok lo hi c) (pureM (rangeC lo hi c))
end
theorem rangeC_ok {tg : Expr} (lo c : Int) (n : Nat) (Z : Addr → Prop) (H1 : Hp) : ItOk tg (Itc lo c n) ((List.range n).map fun (i : Nat) => lo + (i : Int) * c) Z H1 := fun Z' H ex tr => ⟨fun i x hx => by
  rw [List.getElem?_map] at hx
  cases hr : (List.range n)[i]? with
  | none =>
    rw [hr] at hx
    cases hx
  | some j =>
    rw [hr] at hx
    obtain ⟨h1, h2⟩ := List.getElem?_eq_some_iff.mp hr
    rw [List.length_range] at h1
    rw [List.getElem_range] at h2
    subst h2
    have hx' : lo + (i : Int) * c = x := Option.some.inj hx
    subst hx'
    exact ⟨h1, fun v H' ⟨e1, e2⟩ => by
      subst e1
      subst e2
      exact ⟨Same.refl _, .of (.int _)⟩⟩, fun i hi => by
  rw [List.length_map, List.length_range] at hi
  exact hi⟩
section
variable {I S A B C : Type} [Enc A] [Enc B] [Enc C] {Xs : I → Cx} {F : Fm S} {G G' : List Sl} {pos p : Pos} {e a b c tg iter : Expr} {es : List Expr}
theorem iv_range3 {m n o : M S Int} (hm : ∀ i, (Xs i).mg "range" = none) (h : EV Xs F G a m) (h' : EV Xs F G b n) (h'' : EV Xs F G c o) (hg : ∀ i, Gl (Xs i) "range" := by intro _; rfl) (hs1 : ∀ i, starEach [a, b, c] (Xs i).env = (false, eval a (Xs i).env) :: starEach [b, c] (Xs i).env := by intro _; rfl)
    (hs2 : ∀ i, starEach [b, c] (Xs i).env = (false, eval b (Xs i).env) :: starEach [c] (Xs i).env := by intro _; rfl) (hs3 : ∀ i, starEach [c] (Xs i).env = [(false, eval c (Xs i).env)] := by intro _; rfl) (hpl : ∀ i, (backTo pos (starEach [b, c] (Xs i).env)).any (·.1) = false := by intro _; rfl) :
    IV Xs F G tg (.Call (.Name "range" p) [a, b, c] [] pos) (rng3M m n o) := by
  obtain ⟨te, hp, ho⟩ := h
  obtain ⟨tf, hp', ho'⟩ := h'
  obtain ⟨tf2, hp'', ho''⟩ := h''
  refine ⟨iRng3 (tCons te (tCons tf (tCons tf2 tNil))), fun i => pi_range3 (hg i) (hm i) (pa_cons (hp i) (pa_cons (hp' i) (pa_cons (hp'' i) pa_nil (hs3 i)) (hs2 i)) (hs1 i)) (hs1 i) (hpl i), fun Zx t H s l s' g hm' R q => ?_⟩
  obtain ⟨z, s1, h1, h2⟩ := bind_some hm'
  obtain ⟨y, s2, h3, h4⟩ := bind_some h2
  obtain ⟨x, s3, h5, h6⟩ := bind_some h4
  obtain ⟨hz, h7⟩ := guard_eq h6
  obtain ⟨rfl, rfl⟩ := pure_eq h7
  refine ho Zx t H s z s1 g h1 _ fun v H1 g1 f1 r1 => ?_
  refine ho' Zx t H1 s1 y s2 g1 h3 _ fun v2 H2 g2 f2 r2 => ?_
  refine ho'' Zx t H2 s2 x _ g2 h5 _ fun v3 H3 g3 f3 r3 => ?_
  obtain rfl := r1.toInt
  obtain rfl := r2.toInt
  obtain rfl := r3.toInt
  exact ⟨z, y, x, _, rfl, ⟨hz.1, hz.2.1, hz.2.2, PyProof.Rows.rangeSize_toNat _ _ _⟩, q _ H3 g3 ((f1.trans f2).trans f3) (rangeC_ok z x _ _ _)⟩
end
theorem rangeC_pos {len c : Int} (hc : 1 ≤ c) (hl : 0 ≤ len) : rangeC 0 len c = (List.range ((len + c - 1) / c).toNat).map fun i : Nat => (i : Int) * c := by
  unfold rangeC
  have e : Builtin.Range.rangeSize 0 len c = (len + c - 1) / c := by
    unfold Builtin.Range.rangeSize
    rw [if_pos (by omega)]
    split
    · rw [show len + c - 1 = (len - 0 - 1) + c by omega, Int.add_ediv_of_dvd_right (Int.dvd_refl c), Int.ediv_self (by omega)]
    · have : len = 0 := by omega
      subst this
      rw [Int.ediv_eq_zero_of_lt (by omega) (by omega)]
  rw [e]
  exact List.map_congr_left fun i _ => by rw [Int.zero_add]
end PL

namespace PL
open PySem L2 Enc PyProof.Rows PySem.Spec
set_option maxHeartbeats 4000000 in
theorem meets_enumT (t : Addr) (items : Array Value) :
    Meets (Builtin.«enumerate.__new__» ⟨[.type "enumerate", .ref t], []⟩) (fun _ R s => s.heap.IsTuple t items ∧
      R (.ok (.ret (.ref (s.heap.push { cls := .type "tuple_iterator", data := .fields #[.ref t, .int 0 0] }).objs.size)))
        { s with heap := (s.heap.push { cls := .type "tuple_iterator", data := .fields #[.ref t, .int 0 0] }).push { cls := .type "enumerate", data := .fields #[.none, .bool false, .ref s.heap.objs.size, rawInt 0, .none, .none] } }) :=
  .of_wp fun prog w A R s h => by
    obtain ⟨hp, g, d, tk, os⟩ := s
    obtain ⟨h1, h⟩ := h
    have hsub := sub_enumerate
    have q1 : ∀ {A' : Around} {E : Value → Shared → Prop} {Q : Value → Shared → Prop}, Q (.ref hp.objs.size) ⟨hp.push { cls := .type "tuple_iterator", data := .fields #[.ref t, .int 0 0] }, g, d, tk, os⟩ → wpAny (model prog w) A' (pyIter (.ref t)) Q E ⟨hp, g, d, tk, os⟩ :=
      fun q => wpAny_pyIter_tuple (s := ⟨hp, g, d, tk, os⟩) h1 q
    wp_walk using q1
    refine wpAny_stack_any fun st => wpAny_pure ?_
    split
    · rename_i c _ _ _ _ _
      cases (c == Value.type "enumerate")
      · wp_walk using q1
        exact ⟨_, rfl, h⟩
      · wp_walk using q1
        exact ⟨_, rfl, h⟩
    · wp_walk using q1
      exact ⟨_, rfl, h⟩
section
variable {prog : Program} {w : World} {A : Around} {E : Value → Shared → Prop} {s : Shared}
theorem call_enumT {t : Addr} {items : Array Value} {Q : Value → Shared → Prop} (hL : s.heap.IsTuple t items)
    (h : ∀ h', IsEnum h' (s.heap.objs.size + 1) s.heap.objs.size 0 .none → h'.IsTupleIter s.heap.objs.size t 0 → h'.objs.size = s.heap.objs.size + 2 →
      (∀ b o, s.heap.get? b = some o → h'.get? b = some o) → Q (.ref (s.heap.objs.size + 1)) { s with heap := h' }) :
    wpAny (model prog w) A (call (.type "enumerate") [.ref t]) Q E s := by
  refine callType_new F.called_enumerate (by decide) (F.typeCall_enumerate_1 _) (F.newCall_enumerate_1 _) (fun obj => F.args_object_init_2 obj _) F.entry_enumerate_new
    (meets_enumT t items) ⟨hL, ?_⟩
  have hz : (s.heap.push { cls := .type "tuple_iterator", data := .fields #[.ref t, .int 0 0] }).objs.size = s.heap.objs.size + 1 := Heap.size_push ..
  show _ ∧ _
  rw [hz]
  have he : IsEnum ((s.heap.push { cls := .type "tuple_iterator", data := .fields #[.ref t, .int 0 0] }).push
      { cls := .type "enumerate", data := .fields #[.none, .bool false, .ref s.heap.objs.size, rawInt 0, .none, .none] }) (s.heap.objs.size + 1) s.heap.objs.size 0 .none := by
    have := Heap.get?_push_size (s.heap.push { cls := .type "tuple_iterator", data := .fields #[.ref t, .int 0 0] })
      (o := { cls := .type "enumerate", data := .fields #[.none, .bool false, .ref s.heap.objs.size, rawInt 0, .none, .none] }) rfl
    rw [hz] at this; exact this
  refine ⟨⟨_, he, rfl⟩, h _ he ⟨_, Heap.get?_push_of_some _ (Heap.get?_push_size _ rfl), rfl, rfl⟩ (by rw [Heap.size_push, hz]) fun b o x => Heap.get?_push_of_some _ (Heap.get?_push_of_some _ x)⟩
end
section
variable {prog : Program} {w : World} {A : Around} {E : Value → Shared → Prop} {s : Shared}
theorem wpAny_pyNext_enum_endT {e it l : Addr} {i : Nat} {items : Array Value} {old : Value} {Q : Option Value → Shared → Prop} (hh : A.handled = none)
    (he : IsEnum s.heap e it i old) (hit : s.heap.IsTupleIter it l i) (hl : s.heap.IsTuple l items) (hx : items[i]? = none)
    (hQ : ∀ h', Heap.ExtBut it s.heap h' → Q none { s with heap := h' }) : wpAny (model prog w) A (pyNext (.ref e)) Q E s := by
  have hT : s.TypeIs (.ref e) "enumerate" := ⟨_, he, rfl⟩
  unfold pyNext
  refine wpAny_bind (wpAny_attempt (wpAny_callSpecial?_slot (name := Str.ofString "__next__") hT F.slot_enumerate_next
    (wpAny_call_entry F.slot_enumerate_next hT F.entry_enumerate_next ?_ (F.args_enumerate_next_1 _))))
  show wpAny _ _ (field (.ref e) 2 >>= _) _ _ _
  refine wpAny_bind (wpAny_field he rfl (x := .ref it) rfl ?_)
  refine wpAny_bind (wpAny_nextOf_tuple_end (A := A.in1) (show A.in1.handled = none from hh) hit hl hx fun h' x he' hx' => ?_)
  obtain ⟨o, ho, hc⟩ := hx'
  refine wpAny_bind (wpAny_isInstance (T := "StopIteration") (b := true) ⟨o, ho, hc⟩ isSubtype_stop ?_)
  exact wpAny_pure (hQ _ he')
end
/-- the tuple at a as it stands at each turn, each item in a new pair -/
def IteT (K : PySem.W.Frag) (a : Addr) : It :=
  ⟨fun i H => ∃ (xs : List V) (x : V), SqT K H a xs ∧ xs[i]? = some x, fun i H v H' => ∃ T x, v = .ref T ∧ H T = none ∧ H' = upd H T (.tup [.int (i : Nat), x]) ∧ ∀ xs, SqT K H a xs → xs[i]? = some x, fun i H => ∃ xs : List V, SqT K H a xs ∧ xs.length ≤ i⟩
theorem cls_ne {h : Heap} {a b : Addr} {o o' : Obj} (h1 : h.get? a = some o) (h2 : h.get? b = some o') (hc : o.cls ≠ o'.cls) : a ≠ b := fun z => by
  subst z
  rw [h1] at h2
  exact hc (congrArg Obj.cls (Option.some.inj h2))
theorem turn_enumT {P : Program} {w : World} {K : PySem.W.Frag} {elts : List Expr} {kk : Nat} {tpos : Pos} (a e it : Addr) :
    Turn P w K (.Tuple elts kk tpos) (IteT K a) [e, it] e (fun i h => (∃ old, IsEnum h e it ((i : Nat) : Int) old) ∧ h.IsTupleIter it a i ∧ e ≠ it) where
  mem := by simp
  obj := fun i h st b hb => by
    obtain ⟨⟨old, he⟩, ⟨o, ho, hc, hd⟩, _⟩ := st
    have e' : b = e ∨ b = it := by simpa using hb
    rcases e' with z | z
    · rw [z]; exact ⟨_, he, fun v q => nomatch q⟩
    · rw [z]; exact ⟨o, ho, fun v q => by rw [hd] at q; cases q⟩
  keep := fun i h h' st k => let ⟨⟨old, he⟩, hi, hne⟩ := st; ⟨⟨old, k e (by simp) _ he⟩, hi.at fun o q => k it (by simp) o q, hne⟩
  item := by
    intro X hP hw hK hc i pins s σ H E I hf st hg
    subst hP hw hK
    obtain ⟨⟨old, he⟩, hit, hne⟩ := st
    obtain ⟨xs, x, hq, hx⟩ := hg
    obtain ⟨its, rv, p, hz⟩ := I.tuple hq
    obtain ⟨u, hu, ru⟩ := rv.get hx
    have hel : e < s.heap.objs.size := Heap.lt_size he
    have hil : it < s.heap.objs.size := by obtain ⟨_, q, _⟩ := hit; exact Heap.lt_size q
    have p' : s.heap.IsTuple a its.toArray := p
    have ne1 : e ≠ a := by
      obtain ⟨o, ho, hc, _⟩ := p'
      exact cls_ne he ho (by rw [hc]; intro z; injection z with z; exact absurd z (by decide))
    have ne2 : a ≠ it := by
      obtain ⟨o, ho, hc, _⟩ := p'
      obtain ⟨o2, ho2, hc2, _⟩ := hit
      exact cls_ne ho ho2 (by rw [hc, hc2]; intro z; injection z with z; exact absurd z (by decide))
    have D : Draws X.prog X.w X.A.in1 it [it, a] its.toArray.size (fun i v => its.toArray[i]? = some v) (fun i h => h.IsTupleIter it a i ∧ h.IsTuple a its.toArray) := Draws.tuple (A := X.A.in1) (show X.A.in1.handled = none from I.ok.hd hc) it a ne2 its.toArray
    have lt : i < its.toArray.size := by
      have := List.getElem?_eq_some_iff.mp hu
      obtain ⟨q, _⟩ := this
      simpa using q
    refine wpAny_pyNext_enum_itemD D he ⟨hit, p'⟩ lt hne (by simp [ne1, hne]) fun x0 h' tk hx0 ho hst' hT hsz hk => ?_
    have ex : x0 = u := by
      have : its.toArray[i]? = some u := by simpa using hu
      have hx0 : its.toArray[i]? = some x0 := hx0
      rw [this] at hx0
      exact (Option.some.inj hx0).symm
    subst ex
    refine ⟨_, rfl, wpAny_letOwnedTupleGo_enum (s := { s with heap := h', toks := tk + 1 }) ho fun h'' he' sb => ?_⟩
    have hT2 : h''.get? s.heap.objs.size = some { cls := .type "tuple", data := .seq #[.int i tk, x0] } := (sb.2 _ (Nat.ne_of_gt hel)).trans hT
    have new : ObjOk X.prog X.w (upd H s.heap.objs.size (.tup [.int (i : Nat), x])) h'' s.heap.objs.size (.tup [.int (i : Nat), x]) :=
      ⟨by show 2 ≤ sizeLine; decide, [.int i tk, x0], .cons ⟨_, rfl⟩ (.cons ru .nil), ⟨_, hT2, rfl, _, rfl⟩⟩
    have I1 : Inv X pins σ (upd H s.heap.objs.size (.tup [.int (i : Nat), x])) { s with heap := h'', toks := tk + 1 } :=
      I.turnedNew (ch := [e, it]) (fun b ob hb q => (sb.2 b (fun z => hb (by simp [z]))).trans (hk b ob (fun z => hb (by simp [z])) (fun z => hb (by simp [z])) q)) hf (Nat.le_refl _) new
    refine ⟨.ref s.heap.objs.size, _, I1, rfl, ⟨_, x, rfl, I.hok.fresh (Nat.le_refl _), rfl, fun ys hy => by rw [I.tuple_inj hy hq]; exact hx⟩, ⟨⟨x0, ?_⟩, hst'.1.at fun o q => (sb.2 it (Ne.symm hne)).trans q, hne⟩, fun b hb => ?_⟩
    · have e1 : ((i + 1 : Nat) : Int) = (i : Int) + 1 := by omega
      rw [e1]; exact he'
    · have hb' : b < s.heap.objs.size := by
        have e' : b = e ∨ b = it := by simpa using hb
        rcases e' with z | z
        · rw [z]; exact hel
        · rw [z]; exact hil
      rw [upd_ne (Nat.ne_of_lt hb')]
      exact (hf b hb).1
  done := by
    intro X hP hw hK hc i pins s σ H E I hf st hg
    subst hP hw hK
    obtain ⟨⟨old, he⟩, hit, hne⟩ := st
    obtain ⟨xs, hq, hx⟩ := hg
    obtain ⟨its, rv, p, hz⟩ := I.tuple hq
    obtain ⟨f0, f1, f2, f3, f4, f5⟩ := hf it (by simp)
    have hl := rv.length
    have p' : s.heap.IsTuple a its.toArray := p
    exact wpAny_pyNext_enum_endT (I.ok.hd hc) he hit p' (by simp; omega) fun h' eb => ⟨rfl, I.turned (t' := s.toks) (fun b o hb q => eb b o hb q) f0 f1 f3 f4 f5⟩
  self := fun A i s Q E st h => let ⟨⟨_, he⟩, _⟩ := st; wpAny_pyIter_enum he h
def iEnumT (K : PySem.W.Frag) (ta : TA) : TI := fun σ H R => ta σ H fun vs H1 => ∃ a xs, vs = [.ref a] ∧ SqT K H1 a xs ∧ R (IteT K a) H1
theorem pi_enumT {X : Cx} {e : Expr} {ta : TA} {p pos tpos : Pos} {elts : List Expr} {kk : Nat} (hg : Gl X "enumerate") (hm : X.mg "enumerate" = none) (ha : PA X [e] ta) (hs : starEach [e] X.env = [(false, eval e X.env)] := by rfl) :
    PI X (.Tuple elts kk tpos) (.Call (.Name "enumerate" p) [e] [] pos) (iEnumT X.K ta) := by
  refine ⟨fun pins s σ H R I h => ?_⟩
  refine Call_ (ld_blt I hg hm boot_enumerate (PyProof.Rows.callWith_type1 (thn (ha.run pos pins s σ H _ I h) fun us s1 ⟨vs, H1, I1, r1, q1⟩ => ?_) hs rfl))
  obtain ⟨a, xs, ex, hq, q⟩ := q1
  subst ex
  cases r1 with
  | cons r rr =>
    cases rr
    cases r
    obtain ⟨its, rv, p', hz⟩ := I1.tuple hq
    refine call_enumT (show s1.heap.IsTuple a its.toArray from p') fun h' he hit hsz hk => wpAny_pyIter_enum he ?_
    have I2 : Inv X pins σ H1 { s1 with heap := h' } := I1.kept (t' := s1.toks) hk
    refine ⟨s1.heap.objs.size + 1, [s1.heap.objs.size + 1, s1.heap.objs.size], _, _, H1, rfl, I2, turn_enumT a (s1.heap.objs.size + 1) s1.heap.objs.size, ⟨⟨.none, he⟩, hit, Nat.succ_ne_self _⟩, fun b hb => ?_, q⟩
    have e' : b = s1.heap.objs.size + 1 ∨ b = s1.heap.objs.size := by simpa using hb
    have hle : s1.heap.objs.size ≤ b := by
      rcases e' with z | z
      · rw [z]; exact Nat.le_add_right _ _
      · rw [z]; exact Nat.le_refl _
    exact I1.fpOk hle (I1.hok.fresh hle)
section
variable {I S A B C : Type} [Enc A] [Enc B] [Enc C] {Xs : I → Cx} {F : Fm S} {G G' : List Sl} {pos p : Pos} {e a b c tg iter : Expr} {es : List Expr}
theorem iv_enumT {m : M S (Tup A)} {elts : List Expr} {kk : Nat} {tpos : Pos} (hm : ∀ i, (Xs i).mg "enumerate" = none) (h : EV Xs F G a m) (hg : ∀ i, Gl (Xs i) "enumerate" := by intro _; rfl)
    (hs1 : ∀ i, starEach [a] (Xs i).env = (false, eval a (Xs i).env) :: starEach [] (Xs i).env := by intro _; rfl) {K : PySem.W.Frag} (hK : ∀ i, (Xs i).K = K := by intro _; rfl) :
    IV Xs F G (.Tuple elts kk tpos) (.Call (.Name "enumerate" p) [a] [] pos) (enumM (mapM1 unTup m)) := by
  obtain ⟨te, hp, ho⟩ := h
  refine ⟨iEnumT K (tCons te tNil), fun i => by rw [← hK i]; exact pi_enumT (hg i) (hm i) (pa_cons (hp i) pa_nil (hs1 i)) (hs1 i), fun Zx t H s l s' g hm' R q => ?_⟩
  obtain ⟨z, s1, h1, h2⟩ := bind_some hm'
  obtain ⟨z0, s0, k1, q1⟩ := bind_some h1
  obtain ⟨rfl, rfl⟩ := pure_eq q1
  obtain ⟨rfl, rfl⟩ := pure_eq h2
  refine ho Zx t H s z0 _ g k1 _ fun v H1 g1 f1 r1 => ?_
  obtain ⟨p1, xs, rfl, n1, e1, l1⟩ := r1.toTup
  refine ⟨p1, xs, rfl, e1.sq, q _ H1 g1 f1 fun Z' H3 ex tr => ⟨fun i x hx => ?_, fun i hi => ?_⟩⟩
  · rw [List.getElem?_map, List.getElem?_zipIdx] at hx
    cases hz : (unTup z0)[i]? with
    | none =>
      rw [hz] at hx
      cases hx
    | some x1 =>
      rw [hz] at hx
      have hx' : ((0 + i : Nat) : Int) = x.1 ∧ x1 = x.2 := by
        have := Option.some.inj hx
        rw [← this]
        exact ⟨rfl, rfl⟩
      have kk1 := e1.at_ fun o q => ex.1 _ o n1 q
      obtain ⟨y1, hy1, ry1⟩ := (l1.ext ex).get (i := i) (x := enc x1) (by rw [List.getElem?_map, hz]; rfl)
      refine ⟨⟨xs, y1, kk1.sq, hy1⟩, fun v H' hyl => ?_⟩
      obtain ⟨T, w1, rfl, hT, rfl, q1⟩ := hyl
      have e3 := q1 xs kk1.sq
      rw [hy1] at e3
      cases e3
      refine ⟨same_new hT, ?_⟩
      have := Gd.fresh_tup (es := elts) (k := kk) (p := tpos) tr hT (.cons (.int (i : Nat)) (.cons ry1 .nil))
      show Rt _ Z' _ _ (.tuple [enc x.1, enc x.2])
      rw [← hx'.1, ← hx'.2, Nat.zero_add]
      exact this
  · refine ⟨xs, (e1.at_ fun o q => ex.1 _ o n1 q).sq, ?_⟩
    rw [l1.len, List.length_map]
    rw [List.length_map, List.length_zipIdx] at hi
    exact hi
end
/-- a list of two items, seen so -/
def toPr {A : Type} : List A → Option (Pr A A)
  | [a, b] => some ⟨a, b⟩
  | _ => none
theorem toPr_enc {A : Type} [Enc A] (y : List A) (z : Pr A A) (h : toPr y = some z) : enc z = enc y := by
  match y with
  | [] => cases h
  | [_] => cases h
  | [a, b] =>
    obtain rfl := Option.some.inj h
    rfl
  | _ :: _ :: _ :: _ => cases h
section
variable {I S A : Type} [Enc A] {Xs : I → Cx} {F : Fm S} {G : List Sl} {e : Expr}
theorem ev_toPr {m : M S (List A)} (h : EV Xs F G e m) : EV Xs F G e (fun1M toPr m) := ev_of toPr toPr_enc h
end
end PL

namespace PL
open PySem L2 Enc
section
variable {I S A : Type} [Enc A] {Xs : I → Cx} {F : Fm S} {G : List Sl} {es : List Expr} {pos : Pos}
theorem eo_lst {m : M S (List A)} (h : EA Xs F G es m (List.map enc)) : EO Xs F G (.List es pos) (lstM m) := by
  obtain ⟨ta, hp, ho⟩ := h
  refine ⟨tLst ta, fun i => pe_lst (hp i), fun Zx t H s y s' g hm Q q => ?_⟩
  obtain ⟨z, s1, h1, h2⟩ := bind_some hm
  obtain ⟨hl, h3⟩ := guard_eq h2
  obtain ⟨rfl, rfl⟩ := pure_eq h3
  refine ho Zx t H s z s1 g h1 _ fun vs H1 g1 f1 r1 => ⟨?_, fun pp hn1 => ?_⟩
  · rw [r1.len, List.length_map]
    exact lenOk_line hl
  · have sm : Same H1 (upd H1 pp (.lst vs)) := same_new hn1
    refine q pp _ (g1.more hn1) (f1.trans (Fix.same sm)) (none_before g1 f1 hn1) ⟨_, upd_same, ?_⟩
    exact r1.ext (new_ext hn1)
end
end PL

namespace PL
open PySem L2 Enc PyProof.Rows PySem.Spec
section
variable {prog : Program} {w : World} {A : Around} {E : Value → Shared → Prop} {s : Shared}
theorem places_rev (n : Nat) : Builtin.Slice.slicePlaces ((n : Int) - 1) (-1) (-1) = n := by
  unfold Builtin.Slice.slicePlaces
  have h1 : ¬ ((-1 : Int) > 0) := by omega
  simp only [h1, if_false, show (-(-1) : Int) = 1 from rfl, Int.ediv_one]
  split <;> omega
theorem fm_congr {α β : Type} {f g : α → Option β} : ∀ {l : List α}, (∀ m ∈ l, f m = g m) → l.filterMap f = l.filterMap g
  | [], _ => rfl
  | x :: l, h => by
    have ih := fm_congr (l := l) fun m hm => h m (List.mem_cons_of_mem _ hm)
    rw [List.filterMap_cons, List.filterMap_cons, h x List.mem_cons_self, ih]
theorem pick_rev (xs : Array Value) : ((List.range xs.size).filterMap fun (m : Nat) => xs[((xs.size : Int) - 1 + (m : Int) * -1).toNat]?).toArray = xs.toList.reverse.toArray := by
  have e : ((List.range xs.size).filterMap fun (m : Nat) => xs[((xs.size : Int) - 1 + (m : Int) * -1).toNat]?) = ((List.range xs.size).map fun k => xs.size - 1 - k).filterMap (xs[·]?) := by
    rw [List.filterMap_map]
    refine fm_congr fun m hm => ?_
    have := List.mem_range.mp hm
    show xs[_]? = xs[xs.size - 1 - m]?
    congr 1
    omega
  rw [e, PySem.W.krv_range, List.filterMap_reverse, PySem.W.krv_all]
theorem applied_rev {sl : Addr} {vl vu vs : Value} {n : Nat} {Q : Int × Int × Nat → Shared → Prop} (hs : s.heap.IsSliceOf sl vl vu vs) (pl : IsPart vl none) (pu : IsPart vu none) (ps : IsPart vs (some (-1)))
    (h : Q ((n : Int) - 1, -1, n) s) : wpAny (model prog w) A (Builtin.Slice.sliceApplied (.ref sl) (pure (n : Int))) Q E s := by
  obtain ⟨os, hos, hcs, hds⟩ := id hs
  unfold Builtin.Slice.sliceApplied Builtin.Slice.sliceFields
  refine wpAny_bind (wpAny_bind (wpAny_field hos hds (x := vl) rfl (wpAny_bind (wpAny_field hos hds (x := vu) rfl (wpAny_bind (wpAny_field hos hds (x := vs) rfl (wpAny_pure ?_)))))))
  refine wpAny_bind (HT.slicePart_ ps ?_)
  show wpAny _ _ (if ((-1 : Int) == 0) = true then _ else _) _ _ s
  rw [if_neg (by decide)]
  refine wpAny_bind (HT.slicePart_ pl (wpAny_bind (HT.slicePart_ pu (wpAny_bind (wpAny_pure ?_)))))
  show wpAny _ _ (pure ((n : Int) - 1, (-1 : Int), Builtin.Slice.slicePlaces ((n : Int) - 1) (-1) (-1))) _ _ s
  rw [places_rev]
  exact wpAny_pure h
theorem getItem_tuple_rev {t sl : Addr} {items : Array Value} {vl vu vs : Value} {Q : Value → Shared → Prop} (ht : IsTup s.heap t items) (hs : s.heap.IsSliceOf sl vl vu vs) (pl : IsPart vl none) (pu : IsPart vu none) (ps : IsPart vs (some (-1)))
    (h : Q (.ref s.heap.objs.size) { s with heap := s.heap.push { cls := .type "tuple", data := .seq items.toList.reverse.toArray } })
    (hsz : items.size ≤ sizeLine) : wpAny (model prog w) A (getItem (.ref t) (.ref sl)) Q E s := by
  have htake : sizeOk (.seq items.toList.reverse.toArray) := by
    show items.toList.reverse.toArray.size ≤ sizeLine
    rw [List.size_toArray, List.length_reverse, Array.length_toList]
    exact hsz
  obtain ⟨os, hos, hcs, hds⟩ := id hs
  have hTs : s.TypeIs (.ref sl) "slice" := ⟨os, hos, hcs⟩
  unfold getItem
  try with_reducible refine wpAny_holding ?_
  first | refine wpAny_bind (wpAny_pure ?_) | skip
  refine wpAny_bind (wpAny_sequenceKey ht.typeIs (by decide) ?_)
  refine wpAny_bind (wpAny_callSpecial?_slot (name := Str.ofString "__getitem__") ht.typeIs PyProof.Rows.slot_tuple_getitem
    (wpAny_call_entry PyProof.Rows.slot_tuple_getitem ht.typeIs entry_tuple_getitem ?_ (args_tuple_getitem _ _)))
  show wpAny _ _ (Builtin.Tuple.tupleItemsOf (.ref t) >>= _) _ _ s
  refine wpAny_bind (tupleItemsOf_ ht ?_)
  refine wpAny_bind (wpAny_typeOf hTs ?_)
  rw [if_pos (by decide)]
  refine wpAny_bind (applied_rev hs pl pu ps ?_)
  have hno : ¬ ((((items.size : Int) - 1) == 0 && (-1 : Int) == 1 && items.size == items.size) = true) := by
    intro q
    rw [Bool.and_eq_true, Bool.and_eq_true] at q
    exact absurd q.1.2 (by decide)
  show wpAny _ _ (if (((items.size : Int) - 1) == 0 && (-1 : Int) == 1 && items.size == items.size) = true then _ else _) _ _ s
  rw [if_neg hno, pick_rev]
  first
    | exact wpAny_bind (m := Builtin.Tuple.tupleExact _) (wpAny_newObj_type (wpAny_pure ⟨_, rfl, wpAny_pure h⟩) htake)
    | exact wpAny_bind (m := Builtin.Tuple.tupleExact _) (wpAny_newObj_type (wpAny_bind (wpAny_pure (wpAny_pure ⟨_, rfl, wpAny_pure h⟩))) htake)
    | exact wpAny_bind (wpAny_bind (m := Builtin.Tuple.tupleExact _) (wpAny_newObj_type (wpAny_pure (wpAny_pure ⟨_, rfl, wpAny_pure h⟩)) htake))
    | exact wpAny_bind (wpAny_bind (m := Builtin.Tuple.tupleExact _) (wpAny_newObj_type (wpAny_pure ⟨_, rfl, wpAny_pure h⟩) htake))
end
def tRevT (K : PySem.W.Frag) (te : TE) : TE := fun σ H Q => te σ H fun x H1 => ∃ a xs, x = .ref a ∧ SqT K H1 a xs ∧ NewT H1 xs.reverse Q
theorem pe_revT {X : Cx} {e : Expr} {te : TE} {k : Nat} {p1 p2 p3 pos : Pos} (he : PE X e te) : PE X (.Subscript e (.Slice none none (some (.UnaryOp .USub (.Constant (.int 1) k p1) p2)) p3) pos) (tRevT X.K te) := by
  refine ⟨fun pins s σ H Q I h => ?_⟩
  refine Subscript_ (thn (he.run pins s σ H _ I h) fun v s1 ⟨x, H1, I1, r1, q1⟩ => ?_)
  obtain ⟨a, xs, ex, hx, q⟩ := q1
  subst ex
  cases r1
  have hst : PO X (some (.UnaryOp .USub (.Constant (.int 1) k p1) p2)) (tPart (tUn (rU fun i => .int (-i)) (tC (.int 1)))) := po_some (pe_un un_neg pe_int)
  refine wpAny_Slice (thn (po_none.run pins s1 σ H1 (fun o H2 => o = none ∧ H2 = H1) I1 ⟨rfl, rfl⟩) fun vl s2 ⟨l, H2, I2, pl, el, e2⟩ => ?_)
  subst el e2
  refine thn (po_none.run pins s2 σ H2 (fun o H3 => o = none ∧ H3 = H2) I2 ⟨rfl, rfl⟩) fun vu s3 ⟨u, H3, I3, pu, eu, e3⟩ => ?_
  subst eu e3
  refine thn (hst.run pins s3 σ H3 (fun o H4 => o = some (-1) ∧ H4 = H3) I3 ⟨1, rfl, -1, rfl, rfl, rfl⟩) fun vs s4 ⟨o, H4, I4, ps, eo, e4⟩ => ?_
  subst eo e4
  have I5 : Inv X pins σ H4 { s4 with heap := s4.heap.push { cls := .type "slice", data := .fields #[vl, vu, vs] } } := I4.kept (t' := s4.toks) fun b ob q => Heap.get?_push_of_some _ q
  obtain ⟨its, r, ht, hz⟩ := I5.tuple hx
  have hlen := r.length
  show wpAny (model X.prog X.w) X.A (subscriptTail e (.Slice none none (some (.UnaryOp .USub (.Constant (.int 1) k p1) p2)) p3) (.ref a) (.ref s4.heap.objs.size)) (L2.EP X pins σ Q) X.xe { s4 with heap := s4.heap.push { cls := .type "slice", data := .fields #[vl, vu, vs] } }
  refine tail_any (ops := [.ref a, .ref s4.heap.objs.size]) ht.typeIs (PyProof.Rows.slot_tuple_getitem.lookup) ?_ (by with_unfolding_all rfl)
  refine getItem_tuple_rev ht (Heap.IsSliceOf.new _ vl vu vs) pl pu ps ?_ (by rw [List.size_toArray]; omega)
  exact layT I5 r.reverse (by rw [List.length_reverse]; exact hz) q
section
variable {I S A : Type} [Enc A] {Xs : I → Cx} {F : Fm S} {G : List Sl} {a : Expr} {pos : Pos} {K : PySem.W.Frag}
def revT (l : Tup A) : Tup A := toTup (unTup l).reverse
theorem ev_revT {m : M S (Tup A)} {k : Nat} {q1 q2 q3 : Pos} (ha : EV Xs F G a m) (hK : ∀ i, (Xs i).K = K := by intro _; rfl) : EV Xs F G (.Subscript a (.Slice none none (some (.UnaryOp .USub (.Constant (.int 1) k q1) q2)) q3) pos) (mapM1 revT m) := by
  obtain ⟨ta, hp, hx⟩ := ha
  refine ⟨tRevT K ta, fun i => by rw [← hK i]; exact pe_revT (hp i), fun Zx t H s y s' g hm Q q => ?_⟩
  obtain ⟨z, s1, h1, h2⟩ := bind_some hm
  obtain ⟨rfl, rfl⟩ := pure_eq h2
  refine hx Zx t H s z s1 g h1 _ fun v H1 g1 f1 r1 => ?_
  obtain ⟨pp, xs, rfl, n1, h, r⟩ := r1.toTup
  refine ⟨pp, xs, rfl, h.sq, fun pn ob hn hb => ?_⟩
  have sm : Same H1 (upd H1 pn (.frz ob (.tup xs.reverse))) := same_new hn
  refine q _ _ (g1.same sm) (f1.trans (Fix.same sm)) (.tup (g1.new hn) ⟨ob, upd_same, hb⟩ ?_)
  show RpL _ _ _ (List.map enc (unTup z).reverse)
  rw [List.map_reverse]
  exact r.rev.fix (Fix.same sm)
end
end PL

namespace PL
open PySem L2 Enc PySem.W
/-- no value of the type is None at the top (for <) -/
def rLtD (K : PySem.W.Frag) : R2 := fun x y H Q => ∃ d e, Dp K H x d ∧ Dp K H y e ∧ alike d e = true ∧ d ≠ .none ∧ d.depth ≤ 60 ∧ Q (.bl (dataLt d e)) H
def rGtD (K : PySem.W.Frag) : R2 := fun x y H Q => ∃ d e, Dp K H x d ∧ Dp K H y e ∧ alike d e = true ∧ d ≠ .none ∧ d.depth ≤ 60 ∧ Q (.bl (dataLt e d)) H
def rLeDD (K : PySem.W.Frag) : R2 := fun x y H Q => ∃ d e, Dp K H x d ∧ Dp K H y e ∧ alike d e = true ∧ d ≠ .none ∧ d.depth ≤ 60 ∧ Q (.bl (!dataLt e d)) H
def rGeD (K : PySem.W.Frag) : R2 := fun x y H Q => ∃ d e, Dp K H x d ∧ Dp K H y e ∧ alike d e = true ∧ d ≠ .none ∧ d.depth ≤ 60 ∧ Q (.bl (!dataLt d e)) H
section
variable {X : Cx}
theorem op_ltD (hu : X.A.units + 64 < cLine) : OpR X (compareOp .Lt) (rLtD X.K) := by
  intro pins s σ H x y v u Q I rx ry h
  obtain ⟨d, e, hd, he, al, hn, hdp, q⟩ := h
  obtain ⟨as, r1⟩ := Dp.reads I d x v hd rx
  obtain ⟨bs, r2⟩ := Dp.reads I e y u he ry
  exact lt_data r1 r2 al hn (by omega) ⟨.bl _, H, I, rfl, q⟩
theorem op_gtD (hu : X.A.units + 64 < cLine) : OpR X (compareOp .Gt) (rGtD X.K) := by
  intro pins s σ H x y v u Q I rx ry h
  obtain ⟨d, e, hd, he, al, hn, hdp, q⟩ := h
  obtain ⟨as, r1⟩ := Dp.reads I d x v hd rx
  obtain ⟨bs, r2⟩ := Dp.reads I e y u he ry
  exact gt_data r1 r2 al hn (by omega) ⟨.bl _, H, I, rfl, q⟩
theorem op_leD (hu : X.A.units + 64 < cLine) : OpR X (compareOp .LtE) (rLeDD X.K) := by
  intro pins s σ H x y v u Q I rx ry h
  obtain ⟨d, e, hd, he, al, hn, hdp, q⟩ := h
  obtain ⟨as, r1⟩ := Dp.reads I d x v hd rx
  obtain ⟨bs, r2⟩ := Dp.reads I e y u he ry
  exact le_data r1 r2 al hn (by omega) ⟨.bl _, H, I, rfl, q⟩
theorem op_geD (hu : X.A.units + 64 < cLine) : OpR X (compareOp .GtE) (rGeD X.K) := by
  intro pins s σ H x y v u Q I rx ry h
  obtain ⟨d, e, hd, he, al, hn, hdp, q⟩ := h
  obtain ⟨as, r1⟩ := Dp.reads I d x v hd rx
  obtain ⟨bs, r2⟩ := Dp.reads I e y u he ry
  exact ge_data r1 r2 al hn (by omega) ⟨.bl _, H, I, rfl, q⟩
end
section
variable {I S A B : Type} [Enc A] [Enc B] [LE A] [AL A] {Xs : I → Cx} {F : Fm S} {G : List Sl} {pos p : Pos} {e a b : Expr} {K : PySem.W.Frag}
def ltT (x y : A) : Bool := dataLt (enc x) (enc y)
def ltDM (m n : M S A) : M S Bool := bin2 (fun x y => some (ltT x y)) m n
def gtDM (m n : M S A) : M S Bool := bin2 (fun x y => some (ltT y x)) m n
def leDM (m n : M S A) : M S Bool := bin2 (fun x y => some (!ltT y x)) m n
def geDM (m n : M S A) : M S Bool := bin2 (fun x y => some (!ltT x y)) m n
theorem rv_ltD {g : PyData → PyData → Bool} {r : R2} (hA : ∀ y : A, enc y ≠ PyData.none) (hl : LE.dp A ≤ 60) (hr : ∀ x y H Q d e, Dp K H x d → Dp K H y e → alike d e = true → d ≠ .none → d.depth ≤ 60 → Q (.bl (g d e)) H → r x y H Q) :
    RV2 r (fun (x : A) (y : A) => some (g (enc x) (enc y))) := fun F Zx G s t H x y vx vy z gd rx ry e Q q => by
  cases e
  exact hr vx vy H Q _ _ (rx.dp (LE.lay x).1) (ry.dp (LE.lay y).1) (AL.al x y) (hA x) (Nat.le_trans (LE.lay x).2 hl) (q _ H (Same.refl H) (.bl _))
variable {m n : M S A} {k : Nat}
theorem ev_ltD (hr : ∀ i, Room k (Xs i).A) (hA : ∀ y : A, enc y ≠ PyData.none) (ha : EV Xs F G a m) (hb : EV Xs F G b n) (hl : LE.dp A ≤ 60 := by decide) (hK : ∀ i, (Xs i).K = K := by intro _; rfl) : EV Xs F G (.Compare a [.Lt] [b] pos) (ltDM m n) :=
  ev_cmp (r := rLtD K) (fun i => by rw [← hK i]; exact op_ltD (hr i).units) (rv_ltD (K := K) (g := dataLt) hA hl fun x y H Q d e h1 h2 h3 h4 h5 q => ⟨d, e, h1, h2, h3, h4, h5, q⟩) ha hb
theorem et_ltD (hr : ∀ i, Room k (Xs i).A) (hA : ∀ y : A, enc y ≠ PyData.none) (ha : EV Xs F G a m) (hb : EV Xs F G b n) (hl : LE.dp A ≤ 60 := by decide) (hK : ∀ i, (Xs i).K = K := by intro _; rfl) : ET Xs F G (.Compare a [.Lt] [b] pos) (ltDM m n) :=
  et_cmp (r := rLtD K) (fun i => by rw [← hK i]; exact op_ltD (hr i).units) (rv_ltD (K := K) (g := dataLt) hA hl fun x y H Q d e h1 h2 h3 h4 h5 q => ⟨d, e, h1, h2, h3, h4, h5, q⟩) ha hb
theorem ev_gtD (hr : ∀ i, Room k (Xs i).A) (hA : ∀ y : A, enc y ≠ PyData.none) (ha : EV Xs F G a m) (hb : EV Xs F G b n) (hl : LE.dp A ≤ 60 := by decide) (hK : ∀ i, (Xs i).K = K := by intro _; rfl) : EV Xs F G (.Compare a [.Gt] [b] pos) (gtDM m n) :=
  ev_cmp (r := rGtD K) (fun i => by rw [← hK i]; exact op_gtD (hr i).units) (rv_ltD (K := K) (g := fun d e => dataLt e d) hA hl fun x y H Q d e h1 h2 h3 h4 h5 q => ⟨d, e, h1, h2, h3, h4, h5, q⟩) ha hb
theorem et_gtD (hr : ∀ i, Room k (Xs i).A) (hA : ∀ y : A, enc y ≠ PyData.none) (ha : EV Xs F G a m) (hb : EV Xs F G b n) (hl : LE.dp A ≤ 60 := by decide) (hK : ∀ i, (Xs i).K = K := by intro _; rfl) : ET Xs F G (.Compare a [.Gt] [b] pos) (gtDM m n) :=
  et_cmp (r := rGtD K) (fun i => by rw [← hK i]; exact op_gtD (hr i).units) (rv_ltD (K := K) (g := fun d e => dataLt e d) hA hl fun x y H Q d e h1 h2 h3 h4 h5 q => ⟨d, e, h1, h2, h3, h4, h5, q⟩) ha hb
theorem ev_leD (hr : ∀ i, Room k (Xs i).A) (hA : ∀ y : A, enc y ≠ PyData.none) (ha : EV Xs F G a m) (hb : EV Xs F G b n) (hl : LE.dp A ≤ 60 := by decide) (hK : ∀ i, (Xs i).K = K := by intro _; rfl) : EV Xs F G (.Compare a [.LtE] [b] pos) (leDM m n) :=
  ev_cmp (r := rLeDD K) (fun i => by rw [← hK i]; exact op_leD (hr i).units) (rv_ltD (K := K) (g := fun d e => !dataLt e d) hA hl fun x y H Q d e h1 h2 h3 h4 h5 q => ⟨d, e, h1, h2, h3, h4, h5, q⟩) ha hb
theorem et_leD (hr : ∀ i, Room k (Xs i).A) (hA : ∀ y : A, enc y ≠ PyData.none) (ha : EV Xs F G a m) (hb : EV Xs F G b n) (hl : LE.dp A ≤ 60 := by decide) (hK : ∀ i, (Xs i).K = K := by intro _; rfl) : ET Xs F G (.Compare a [.LtE] [b] pos) (leDM m n) :=
  et_cmp (r := rLeDD K) (fun i => by rw [← hK i]; exact op_leD (hr i).units) (rv_ltD (K := K) (g := fun d e => !dataLt e d) hA hl fun x y H Q d e h1 h2 h3 h4 h5 q => ⟨d, e, h1, h2, h3, h4, h5, q⟩) ha hb
theorem ev_geD (hr : ∀ i, Room k (Xs i).A) (hA : ∀ y : A, enc y ≠ PyData.none) (ha : EV Xs F G a m) (hb : EV Xs F G b n) (hl : LE.dp A ≤ 60 := by decide) (hK : ∀ i, (Xs i).K = K := by intro _; rfl) : EV Xs F G (.Compare a [.GtE] [b] pos) (geDM m n) :=
  ev_cmp (r := rGeD K) (fun i => by rw [← hK i]; exact op_geD (hr i).units) (rv_ltD (K := K) (g := fun d e => !dataLt d e) hA hl fun x y H Q d e h1 h2 h3 h4 h5 q => ⟨d, e, h1, h2, h3, h4, h5, q⟩) ha hb
theorem et_geD (hr : ∀ i, Room k (Xs i).A) (hA : ∀ y : A, enc y ≠ PyData.none) (ha : EV Xs F G a m) (hb : EV Xs F G b n) (hl : LE.dp A ≤ 60 := by decide) (hK : ∀ i, (Xs i).K = K := by intro _; rfl) : ET Xs F G (.Compare a [.GtE] [b] pos) (geDM m n) :=
  et_cmp (r := rGeD K) (fun i => by rw [← hK i]; exact op_geD (hr i).units) (rv_ltD (K := K) (g := fun d e => !dataLt d e) hA hl fun x y H Q d e h1 h2 h3 h4 h5 q => ⟨d, e, h1, h2, h3, h4, h5, q⟩) ha hb
end
section
variable {I S A : Type} [Enc A] {Xs : I → Cx} {F : Fm S} {G : List Sl} {e : Expr}
/-- a pair of one type, as a tuple of items -/
def prTup (x : A × A) : Tup A := toTup [x.1, x.2]
theorem ev_prTup {m : M S (A × A)} (h : EV Xs F G e m) : EV Xs F G e (mapM1 prTup m) := ev_as prTup (fun _ => rfl) h
end
theorem nf8 : (∀ {S A : Type} [Enc A] (m n : M S A), ltDM m n = bindM m fun x => bindM n fun y => pureM (ltT x y)) ∧
    (∀ {S A : Type} [Enc A] (m n : M S A), gtDM m n = bindM m fun x => bindM n fun y => pureM (ltT y x)) ∧
    (∀ {S A : Type} [Enc A] (m n : M S A), leDM m n = bindM m fun x => bindM n fun y => pureM (!ltT y x)) ∧
    (∀ {S A : Type} [Enc A] (m n : M S A), geDM m n = bindM m fun x => bindM n fun y => pureM (!ltT x y)) := ⟨fun _ _ => rfl, fun _ _ => rfl, fun _ _ => rfl, fun _ _ => rfl⟩
end PL

namespace PL
open PySem L2 Enc
section
variable {I S A B : Type} {Xs : I → Cx} {F : Fm S} {G : List Sl} {pos p : Pos} {e a b : Expr} {K : PySem.W.Frag}
def inIM (m : M S Int) (n : M S (List Int)) : M S Bool := bin2 (fun x l => some (decide (x ∈ l))) m n
def ninIM (m : M S Int) (n : M S (List Int)) : M S Bool := bin2 (fun x l => some (!decide (x ∈ l))) m n
theorem rp_ints {Z : Addr → Prop} {H : Hp} : ∀ {l : List Int} {xs : List V}, RpL Z H xs (l.map enc) → xs = l.map V.int
  | [], _, r => by
    cases r
    rfl
  | i :: l, _, r => by
    cases r with
    | cons h t =>
      rw [rp_ints t, Rp.toInt h]
      rfl
theorem inV_int (i : Int) (l : List Int) : inV (.int i) (l.map V.int) = decide (i ∈ l) := by
  unfold inV
  induction l with
  | nil => rfl
  | cons j l ih =>
    rw [List.map_cons, List.any_cons, ih, Bool.eq_iff_iff, Bool.or_eq_true, decide_eq_true_eq, decide_eq_true_eq, List.mem_cons]
    refine or_congr ?_ Iff.rfl
    show (j == i) = true ↔ _
    rw [beq_iff_eq]
    exact eq_comm
theorem flat_ints (l : List Int) : (l.map V.int).all flatV = true := by
  rw [List.all_eq_true]
  intro x hx
  obtain ⟨i, _, rfl⟩ := List.mem_map.mp hx
  rfl
theorem rv_inI (neg : Bool) : RV2 (rIn K neg) (fun (x : Int) (l : List Int) => some (if neg then !decide (x ∈ l) else decide (x ∈ l))) := fun F Zx G s t H x y vx vy z gd rx ry e Q q => by
  cases e
  obtain rfl := rx.toInt
  obtain ⟨pp, xs, rfl, n, h, r⟩ := ry.toLst
  obtain rfl := rp_ints r
  refine ⟨pp, _, rfl, .inl (SqL.of h), rfl, flat_ints y, ?_⟩
  rw [inV_int]
  exact q _ H (Same.refl H) (.bl _)
variable {m : M S Int} {n : M S (List Int)}
theorem ev_inI (ha : EV Xs F G a m) (hb : EV Xs F G b n) (hm : behindInMarks .In b = false := by rfl) (hK : ∀ i, (Xs i).K = K := by intro _; rfl) : EV Xs F G (.Compare a [.In] [b] pos) (inIM m n) := ev_cmp (r := rIn K false) (fun i => by rw [← hK i]; exact op_in_seq) (rv_inI false) ha hb hm
theorem et_inI (ha : EV Xs F G a m) (hb : EV Xs F G b n) (hm : behindInMarks .In b = false := by rfl) (hK : ∀ i, (Xs i).K = K := by intro _; rfl) : ET Xs F G (.Compare a [.In] [b] pos) (inIM m n) := et_cmp (r := rIn K false) (fun i => by rw [← hK i]; exact op_in_seq) (rv_inI false) ha hb hm
theorem ev_ninI (ha : EV Xs F G a m) (hb : EV Xs F G b n) (hm : behindInMarks .NotIn b = false := by rfl) (hK : ∀ i, (Xs i).K = K := by intro _; rfl) : EV Xs F G (.Compare a [.NotIn] [b] pos) (ninIM m n) := ev_cmp (r := rIn K true) (fun i => by rw [← hK i]; exact op_notIn_seq) (rv_inI true) ha hb hm
theorem et_ninI (ha : EV Xs F G a m) (hb : EV Xs F G b n) (hm : behindInMarks .NotIn b = false := by rfl) (hK : ∀ i, (Xs i).K = K := by intro _; rfl) : ET Xs F G (.Compare a [.NotIn] [b] pos) (ninIM m n) := et_cmp (r := rIn K true) (fun i => by rw [← hK i]; exact op_notIn_seq) (rv_inI true) ha hb hm
end
theorem nf9 : (∀ {S : Type} (m : M S Int) (n : M S (List Int)), inIM m n = bindM m fun x => bindM n fun l => pureM (decide (x ∈ l))) ∧
    (∀ {S : Type} (m : M S Int) (n : M S (List Int)), ninIM m n = bindM m fun x => bindM n fun l => pureM (!decide (x ∈ l))) := ⟨fun _ _ => rfl, fun _ _ => rfl⟩
end PL

namespace PL
open PySem L2 Enc
abbrev PlanT := Tup (Tup (Int × Int) × Int)
inductive Cert where
  | plan (p : PlanT)
  | counts (c : Tup Int)
namespace Cert
def word : Cert → Str
  | plan _ => ("plan" : Str)
  | counts _ => ("counts" : Str)
def asPlan : Cert → Option PlanT
  | plan p => some p
  | counts _ => none
def asCounts : Cert → Option (Tup Int)
  | plan _ => none
  | counts c => some c
end Cert
instance : Enc Cert := ⟨fun x => match x with
  | .plan p => .tuple [.str "plan", enc p]
  | .counts c => .tuple [.str "counts", enc c]⟩
theorem cert_plan (p : PlanT) : enc (Cert.plan p) = enc ((("plan" : Str), p) : Str × PlanT) := rfl
theorem cert_counts (c : Tup Int) : enc (Cert.counts c) = enc ((("counts" : Str), c) : Str × Tup Int) := rfl
theorem ok_plan : PyData.strOk ("plan" : Str) = true := by decide +kernel
theorem ok_counts : PyData.strOk ("counts" : Str) = true := by decide +kernel
instance : LE Cert := ⟨max (LE.dp PlanT) (LE.dp (Tup Int)) + 1, fun x => by
  cases x with
  | plan p =>
    obtain ⟨h1, h2⟩ := LE.lay p
    exact ⟨by show PyData.canLay0 (.tuple [.str "plan", enc p]) = true; simp [PyData.canLay0, PyData.canLayAll0, h1, ok_plan], by show PyData.depth (.tuple [.str "plan", enc p]) ≤ _; simp only [PyData.depth, PyData.depthAll]; omega⟩
  | counts c =>
    obtain ⟨h1, h2⟩ := LE.lay c
    exact ⟨by show PyData.canLay0 (.tuple [.str "counts", enc c]) = true; simp [PyData.canLay0, PyData.canLayAll0, h1, ok_counts], by show PyData.depth (.tuple [.str "counts", enc c]) ≤ _; simp only [PyData.depth, PyData.depthAll]; omega⟩, fun x y => by
  cases x with
  | plan p =>
    cases y with
    | plan q =>
      show PyData.eqv (.tuple [.str "plan", enc p]) (.tuple [.str "plan", enc q]) = true ↔ _
      simp [PyData.eqv, PyData.eqvAll, LE.same p q]
    | counts c =>
      show PyData.eqv (.tuple [.str "plan", enc p]) (.tuple [.str "counts", enc c]) = true ↔ _
      simp [PyData.eqv, PyData.eqvAll]
      intro z
      exact absurd z (by decide)
  | counts c =>
    cases y with
    | plan q =>
      show PyData.eqv (.tuple [.str "counts", enc c]) (.tuple [.str "plan", enc q]) = true ↔ _
      simp [PyData.eqv, PyData.eqvAll]
      intro z
      exact absurd z (by decide)
    | counts d =>
      show PyData.eqv (.tuple [.str "counts", enc c]) (.tuple [.str "counts", enc d]) = true ↔ _
      simp [PyData.eqv, PyData.eqvAll, LE.same c d]⟩
instance : NNo Cert := ⟨fun y h => by cases y <;> exact PyData.noConfusion h⟩
section
variable {I S A B : Type} [Enc A] [Enc B] {Xs : I → Cx} {F : Fm S} {G : List Sl} {pos p : Pos} {e a : Expr} {K : PySem.W.Frag}
/-- a place of a tuple, where it is of that type -/
theorem ev_projO {m : M S A} {k : Nat} {j : Nat} {sp : Pos} (f : A → Option B) (hf : ∀ y z, f y = some z → ∃ ds, enc y = .tuple ds ∧ ds[k]? = some (enc z)) (ha : EV Xs F G a m) (hK : ∀ i, (Xs i).K = K := by intro _; rfl) :
    EV Xs F G (.Subscript a (.Constant (.int (k : Int)) j sp) pos) (fun1M f m) := by
  obtain ⟨ta, hp, hx⟩ := ha
  refine ⟨tOp (rIxT K) ta (tC (.int (k : Int))), fun i => by rw [← hK i]; exact pe_ix ix_tup (hp i) pe_int (fun _ _ => rfl), fun Zx t H s y s' g hm Q q => ?_⟩
  obtain ⟨z, s1, h1, h2⟩ := bind_some hm
  obtain ⟨h5, rfl⟩ := ofO_eq h2
  refine hx Zx t H s z s1 g h1 _ fun v H1 g1 f1 r1 => ?_
  obtain ⟨ds, e1, e2⟩ := hf z y h5
  rw [e1] at r1
  cases r1 with
  | tup n h l =>
    obtain ⟨u, h3, h4⟩ := l.get e2
    exact ⟨_, _, (k : Int), u, rfl, rfl, h.sq, atI_nat h3, q u H1 g1 f1 h4⟩
end
theorem word_at (y : Cert) : ∃ ds, enc y = .tuple ds ∧ ds[0]? = some (enc y.word) := by cases y <;> exact ⟨_, rfl, rfl⟩
theorem plan_at (y : Cert) (z : PlanT) (h : y.asPlan = some z) : ∃ ds, enc y = .tuple ds ∧ ds[1]? = some (enc z) := by
  cases y with
  | plan p =>
    obtain rfl := Option.some.inj h
    exact ⟨_, rfl, rfl⟩
  | counts c => cases h
theorem counts_at (y : Cert) (z : Tup Int) (h : y.asCounts = some z) : ∃ ds, enc y = .tuple ds ∧ ds[1]? = some (enc z) := by
  cases y with
  | plan p => cases h
  | counts c =>
    obtain rfl := Option.some.inj h
    exact ⟨_, rfl, rfl⟩
theorem cert_len (y : Cert) : ∃ ds, enc y = .tuple ds ∧ ds.length = 2 := by cases y <;> exact ⟨_, rfl, rfl⟩
def toPlanC (x : Str × PlanT) : Option Cert := if x.1 = ("plan" : Str) then some (.plan x.2) else none
def toCountsC (x : Str × Tup Int) : Option Cert := if x.1 = ("counts" : Str) then some (.counts x.2) else none
theorem toPlanC_enc (y : Str × PlanT) (z : Cert) (h : toPlanC y = some z) : enc z = enc y := by
  obtain ⟨w, p⟩ := y
  unfold toPlanC at h
  by_cases c : w = ("plan" : Str)
  · rw [if_pos c] at h
    cases h
    subst c
    rfl
  · rw [if_neg c] at h
    cases h
theorem toCountsC_enc (y : Str × Tup Int) (z : Cert) (h : toCountsC y = some z) : enc z = enc y := by
  obtain ⟨w, p⟩ := y
  unfold toCountsC at h
  by_cases c : w = ("counts" : Str)
  · rw [if_pos c] at h
    cases h
    subst c
    rfl
  · rw [if_neg c] at h
    cases h
section
variable {I S : Type} {Xs : I → Cx} {F : Fm S} {G : List Sl} {e : Expr}
theorem ev_toPlanC {m : M S (Str × PlanT)} (h : EV Xs F G e m) : EV Xs F G e (fun1M toPlanC m) := ev_of toPlanC toPlanC_enc h
theorem ev_toCountsC {m : M S (Str × Tup Int)} (h : EV Xs F G e m) : EV Xs F G e (fun1M toCountsC m) := ev_of toCountsC toCountsC_enc h
end
end PL

namespace PL
open PySem L2 Enc PyProof.Rows PySem.Spec
section
variable {prog : Program} {w : World} {A : Around} {E : Value → Shared → Prop} {s : Shared}
theorem zipLT_next_end {z TI TO i1 i2 l1 l2 : Addr} {k1 k2 : Nat} {xs ys : Array Value} {a b : Value} {Q : Fin → Shared → Prop} (hh : A.handled = none) (D : ZipApart z TI TO i1 i2 l1 l2)
    (hz : IsZip s.heap z TI TO .none) (hTI : IsPair s.heap TI (.ref i1) (.ref i2)) (hTO : IsPair s.heap TO a b)
    (h1 : s.heap.IsListIter i1 l1 k1) (h2 : s.heap.IsTupleIter i2 l2 k2) (hl1 : s.heap.IsList l1 xs) (hl2 : s.heap.IsTuple l2 ys) (hend : xs[k1]? = none ∨ ys[k2]? = none)
    (hE : ∀ h' e, (∀ c o, c ≠ z → c ≠ TO → c ≠ i1 → c ≠ i2 → s.heap.get? c = some o → h'.get? c = some o) → (∃ o, h'.get? e = some o ∧ o.cls = .type "StopIteration") → E (.ref e) { s with heap := h' }) :
    wpAny (model prog w) A (Builtin.«zip.__next__» ⟨[.ref z], []⟩) Q E s := by
  show wpAny _ _ (field (.ref z) 2 >>= _) _ _ _
  refine wpAny_bind (wpAny_field hz rfl (x := .bool false) rfl ?_)
  show wpAny _ _ (field (.ref z) 3 >>= _) _ _ _
  refine wpAny_bind (wpAny_field hz rfl (x := .ref TI) rfl ?_)
  refine wpAny_bind (wpAny_seqItems hTI rfl ?_)
  show wpAny _ _ (Builtin.SmallTypes.ownedTupleIsFree (.ref z) >>= _) _ _ _
  refine wpAny_bind ?_
  unfold Builtin.SmallTypes.ownedTupleIsFree
  refine wpAny_bind (wpAny_field hz rfl (x := .none) rfl (wpAny_pure ?_))
  simp only [if_true]
  refine wpAny_bind (wpAny_rule ?_)
  refine wpAny_bind (wpAny_field hz rfl (x := .ref TO) rfl ?_)
  refine wpAny_bind (wpAny_setField_rec hz (by simp) fun h₁ hz₁ hs₁ => ?_)
  replace hz₁ : IsZip h₁ z TI TO .ellipsis := hz₁
  refine wpAny_bind ?_
  simp only [List.zipIdx_cons, List.zipIdx_nil, List.forIn_cons, List.forIn_nil]
  refine wpAny_bind (wpAny_bind (wpAny_onRaise ?_))
  show wpAny _ _ (Builtin.SmallTypes.nextOf (.ref i1) >>= _) _ _ _
  cases hx : xs[k1]? with
  | none =>
    refine wpAny_bind (wpAny_nextOf_list_end hh (h1.extBut hs₁.extBut D.i1z) (hl1.extBut hs₁.extBut D.l1z) hx fun h₂ e hs₂ he => ?_)
    obtain ⟨oe, hoe, hce⟩ := he
    have hz₂ : IsZip h₂ z TI TO .ellipsis := hs₂ _ _ D.i1z.symm hz₁
    have hez : e ≠ z := fun x => by subst x; rw [hz₂] at hoe; cases hoe; simp at hce
    refine wpAny_setField_rec hz₂ (by simp) fun h₃ _ hs₃ => hE h₃ e (fun c o c1 _ c3 _ x => hs₃.extBut _ _ c1 (hs₂ _ _ c3 (hs₁.extBut _ _ c1 x))) ⟨oe, hs₃.extBut _ _ hez hoe, hce⟩
  | some x =>
    have hy : ys[k2]? = none := by rcases hend with h | h; rw [hx] at h; cases h; exact h
    refine wpAny_bind (wpAny_nextOf_list_item (h1.extBut hs₁.extBut D.i1z) (hl1.extBut hs₁.extBut D.l1z) hx fun h₂ h1₂ hs₂ => wpAny_pure ?_)
    have hTO₂ : IsPair h₂ TO a b := hs₂.extBut _ _ D.TOi1 (hs₁.extBut _ _ D.TOz hTO)
    refine wpAny_bind (wpAny_seqItems hTO₂ rfl ?_)
    refine wpAny_bind (wpAny_updateSeq_pair hTO₂ fun h₃ hTO₃ hs₃ => ?_)
    refine wpAny_bind (wpAny_letGo (wpAny_pure ?_))
    refine wpAny_bind (wpAny_bind (wpAny_onRaise ?_))
    show wpAny _ _ (Builtin.SmallTypes.nextOf (.ref i2) >>= _) _ _ _
    refine wpAny_bind (RZ.nextOf_tuple_end hh (((h2.extBut hs₁.extBut D.i2z).extBut hs₂.extBut D.i12.symm).extBut hs₃.extBut D.TOi2.symm)
      (((hl2.extBut hs₁.extBut D.l2z).extBut hs₂.extBut D.l2i1).extBut hs₃.extBut D.l2TO) hy fun h₄ e hs₄ he => ?_)
    obtain ⟨oe, hoe, hce⟩ := he
    have hz₄ : IsZip h₄ z TI TO .ellipsis := hs₄ _ _ D.i2z.symm (hs₃.extBut _ _ D.TOz.symm (hs₂.extBut _ _ D.i1z.symm hz₁))
    have hez : e ≠ z := fun x => by subst x; rw [hz₄] at hoe; cases hoe; simp at hce
    refine wpAny_setField_rec hz₄ (by simp) fun h₅ _ hs₅ => hE h₅ e (fun c o c1 c2 c3 c4 x => hs₅.extBut _ _ c1 (hs₄ _ _ c4 (hs₃.extBut _ _ c2 (hs₂.extBut _ _ c3 (hs₁.extBut _ _ c1 x))))) ⟨oe, hs₅.extBut _ _ hez hoe, hce⟩
theorem pyNext_zipLT_end {z TI TO i1 i2 l1 l2 : Addr} {k1 k2 : Nat} {xs ys : Array Value} {a b : Value} {Q : Option Value → Shared → Prop} (hh : A.handled = none) (D : ZipApart z TI TO i1 i2 l1 l2)
    (hz : IsZip s.heap z TI TO .none) (hTI : IsPair s.heap TI (.ref i1) (.ref i2)) (hTO : IsPair s.heap TO a b)
    (h1 : s.heap.IsListIter i1 l1 k1) (h2 : s.heap.IsTupleIter i2 l2 k2) (hl1 : s.heap.IsList l1 xs) (hl2 : s.heap.IsTuple l2 ys) (hend : xs[k1]? = none ∨ ys[k2]? = none)
    (hQ : ∀ h', (∀ c o, c ≠ z → c ≠ TO → c ≠ i1 → c ≠ i2 → s.heap.get? c = some o → h'.get? c = some o) → Q none { s with heap := h' }) : wpAny (model prog w) A (pyNext (.ref z)) Q E s := by
  have hT : s.TypeIs (.ref z) "zip" := ⟨_, hz, rfl⟩
  unfold pyNext
  refine wpAny_bind (wpAny_attempt (wpAny_callSpecial?_slot (name := Str.ofString "__next__") hT F.slot_zip_next
    (wpAny_call_entry F.slot_zip_next hT F.entry_zip_next (zipLT_next_end (A := A.in1) (show A.in1.handled = none from hh) D hz hTI hTO h1 h2 hl1 hl2 hend fun h' e hk he => ?_) (F.args_zip_next_1 _))))
  obtain ⟨o, ho, hc⟩ := he
  refine wpAny_bind (wpAny_isInstance (T := "StopIteration") (b := true) ⟨o, ho, hc⟩ isSubtype_stop ?_)
  exact wpAny_pure (hQ _ hk)
end
/-- the tuples at a and b as they stand at each turn, the items in new pairs -/
def ItzLT (K : PySem.W.Frag) (a b : Addr) : It :=
  ⟨fun i H => ∃ (xs ys : List V) (x y : V), SqL K H a xs ∧ SqT K H b ys ∧ xs[i]? = some x ∧ ys[i]? = some y,
    fun i H v H' => ∃ T x y, v = .ref T ∧ H T = none ∧ H' = upd H T (.tup [x, y]) ∧ (∀ xs, SqL K H a xs → xs[i]? = some x) ∧ ∀ ys, SqT K H b ys → ys[i]? = some y,
    fun i H => ∃ xs ys : List V, SqL K H a xs ∧ SqT K H b ys ∧ (xs.length ≤ i ∨ ys.length ≤ i)⟩
theorem turn_zipLT {P : Program} {w : World} {K : PySem.W.Frag} {elts : List Expr} {kk : Nat} {tpos : Pos} {a b z TI TO i1 i2 : Addr} (D : ZipApart z TI TO i1 i2 a b) :
    Turn P w K (.Tuple elts kk tpos) (ItzLT K a b) [z, TI, TO, i1, i2] z (fun i h => IsZip h z TI TO .none ∧ IsPair h TI (.ref i1) (.ref i2) ∧ (∃ x y, IsPair h TO x y) ∧ h.IsListIter i1 a i ∧ h.IsTupleIter i2 b i) where
  mem := by simp
  obj := fun i h st c hc => by
    obtain ⟨hz, hTI, ⟨x, y, hTO⟩, ⟨o1, e1, _, d1⟩, ⟨o2, e2, _, d2⟩⟩ := st
    have e' : c = z ∨ c = TI ∨ c = TO ∨ c = i1 ∨ c = i2 := by simpa using hc
    rcases e' with q | q | q | q | q
    · rw [q]; exact ⟨_, hz, fun v q => nomatch q⟩
    · rw [q]; exact ⟨_, hTI, fun v q => nomatch q⟩
    · rw [q]; exact ⟨_, hTO, fun v q => nomatch q⟩
    · rw [q]; exact ⟨o1, e1, fun v q => by rw [d1] at q; cases q⟩
    · rw [q]; exact ⟨o2, e2, fun v q => by rw [d2] at q; cases q⟩
  keep := fun i h h' st k => by
    obtain ⟨hz, hTI, ⟨x, y, hTO⟩, h1, h2⟩ := st
    exact ⟨k z (by simp) _ hz, k TI (by simp) _ hTI, ⟨x, y, k TO (by simp) _ hTO⟩, h1.at fun o q => k i1 (by simp) o q, h2.at fun o q => k i2 (by simp) o q⟩
  item := by
    intro X hP hw hK hc i pins s σ H E I hf st hg
    subst hP hw hK
    obtain ⟨hz, hTI, ⟨x0, y0, hTO⟩, h1, h2⟩ := st
    obtain ⟨xs, ys, x, y, hqx, hqy, hx, hy⟩ := hg
    obtain ⟨its, rv, p, _⟩ := I.list hqx
    obtain ⟨its2, rv2, p2, _⟩ := I.tuple hqy
    obtain ⟨u, hu, ru⟩ := rv.get hx
    obtain ⟨u2, hu2, ru2⟩ := rv2.get hy
    have hzl : z < s.heap.objs.size := Heap.lt_size hz
    have px : s.heap.IsList a its.toArray := p.isList
    have py : s.heap.IsTuple b its2.toArray := p2
    have sz1 : i < its.toArray.size := by
      obtain ⟨q, _⟩ := List.getElem?_eq_some_iff.mp hu
      simpa using q
    have sz2 : i < its2.toArray.size := by
      obtain ⟨q, _⟩ := List.getElem?_eq_some_iff.mp hu2
      simpa using q
    have S : ZipSep2 z TI TO i1 i2 [i1, a] [i2, b] := { TIz := D.TIz, TOz := D.TOz, TITO := D.TITO, TIi1 := D.TIi1, mem1 := List.mem_cons_self, zf1 := (by simp [D.i1z.symm, D.l1z.symm]), Tf1 := (by simp [D.TOi1, D.l1TO.symm]), TIi2 := D.TIi2, mem2 := List.mem_cons_self, zf2 := (by simp [D.i2z.symm, D.l2z.symm]), Tf2 := (by simp [D.TOi2, D.l2TO.symm]), sep1_2 := (by simp [D.i12, D.l2i1.symm]), sep2_1 := (by simp [D.i12.symm, D.l1i2.symm]) }
    have D1 : Draws X.prog X.w X.A.in1 i1 [i1, a] its.toArray.size (fun k v => its.toArray[k]? = some v) (fun k h => h.IsListIter i1 a k ∧ h.IsList a its.toArray) := Draws.list (A := X.A.in1) (show X.A.in1.handled = none from I.ok.hd hc) i1 a D.l1i1 its.toArray
    have D2 : Draws X.prog X.w X.A.in1 i2 [i2, b] its2.toArray.size (fun k v => its2.toArray[k]? = some v) (fun k h => h.IsTupleIter i2 b k ∧ h.IsTuple b its2.toArray) := Draws.tuple (A := X.A.in1) (show X.A.in1.handled = none from I.ok.hd hc) i2 b D.l2i2 its2.toArray
    refine wpAny_pyNext_zipD2_item S D1 D2 hz hTI hTO ⟨h1, px⟩ ⟨h2, py⟩ sz1 sz2 fun u' u2' h' tk e1 e2 z' TO' h1'' h2'' hT hsz hk => ?_
    have eu : u' = u := by
      have : its.toArray[i]? = some u := by simpa using hu
      have e1 : its.toArray[i]? = some u' := e1
      rw [this] at e1
      exact (Option.some.inj e1).symm
    have eu2 : u2' = u2 := by
      have : its2.toArray[i]? = some u2 := by simpa using hu2
      have e2 : its2.toArray[i]? = some u2' := e2
      rw [this] at e2
      exact (Option.some.inj e2).symm
    subst eu eu2
    have h1' := h1''.1
    have h2' := h2''.1
    refine ⟨_, rfl, wpAny_letOwnedTupleGo_zip (s := { s with heap := h', toks := tk }) z' fun h'' z'' sb => ?_⟩
    have hT2 : h''.get? s.heap.objs.size = some { cls := .type "tuple", data := .seq #[u', u2'] } := (sb.2 _ (Nat.ne_of_gt hzl)).trans hT
    have new : ObjOk X.prog X.w (upd H s.heap.objs.size (.tup [x, y])) h'' s.heap.objs.size (.tup [x, y]) :=
      ⟨by show 2 ≤ sizeLine; decide, [u', u2'], .cons ru (.cons ru2 .nil), ⟨_, hT2, rfl, _, rfl⟩⟩
    have I1 : Inv X pins σ (upd H s.heap.objs.size (.tup [x, y])) { s with heap := h'', toks := tk } :=
      I.turnedNew (t' := tk) (ch := [z, TI, TO, i1, i2]) (fun c o hb q => (sb.2 c (fun q' => hb (by simp [q']))).trans (hk c o (fun q' => hb (by simp [q'])) (fun q' => hb (by simp [q'])) (fun q' => hb (by simp [q'])) (fun q' => hb (by simp [q'])) q)) hf (Nat.le_refl _) new
    refine ⟨.ref s.heap.objs.size, _, I1, rfl, ⟨_, x, y, rfl, I.hok.fresh (Nat.le_refl _), rfl, fun l hl => by rw [I.list_inj hl hqx]; exact hx, fun l hl => by rw [I.tuple_inj hl hqy]; exact hy⟩, ⟨z'', ?_, ⟨u', u2', ?_⟩, ?_, ?_⟩, fun c hcm => ?_⟩
    · exact (sb.2 _ D.TIz).trans (hk _ _ D.TIz D.TITO D.TIi1 D.TIi2 hTI)
    · exact (sb.2 _ D.TOz).trans TO'
    · exact h1'.at fun o q => (sb.2 _ D.i1z).trans q
    · exact h2'.at fun o q => (sb.2 _ D.i2z).trans q
    · have hlt : c < s.heap.objs.size := by
        have e' : c = z ∨ c = TI ∨ c = TO ∨ c = i1 ∨ c = i2 := by simpa using hcm
        rcases e' with q | q | q | q | q
        · rw [q]; exact hzl
        · rw [q]; exact Heap.lt_size hTI
        · rw [q]; exact Heap.lt_size hTO
        · rw [q]; obtain ⟨_, e1, _⟩ := h1; exact Heap.lt_size e1
        · rw [q]; obtain ⟨_, e2, _⟩ := h2; exact Heap.lt_size e2
      rw [upd_ne (Nat.ne_of_lt hlt)]
      exact (hf c hcm).1
  done := by
    intro X hP hw hK hc i pins s σ H E I hf st hg
    subst hP hw hK
    obtain ⟨hz, hTI, ⟨x0, y0, hTO⟩, h1, h2⟩ := st
    obtain ⟨xs, ys, hqx, hqy, hend⟩ := hg
    obtain ⟨its, rv, p, _⟩ := I.list hqx
    obtain ⟨its2, rv2, p2, _⟩ := I.tuple hqy
    have l1 := rv.length
    have l2 := rv2.length
    have he : its.toArray[i]? = none ∨ its2.toArray[i]? = none := by
      rcases hend with q | q
      · exact .inl (by simp; omega)
      · exact .inr (by simp; omega)
    exact pyNext_zipLT_end (I.ok.hd hc) D hz hTI hTO h1 h2 p.isList p2 he fun h' hk => ⟨rfl, I.turnedL (t' := s.toks) (ch := [z, TI, TO, i1, i2]) (fun c o hb q =>
      hk c o (fun q' => hb (by simp [q'])) (fun q' => hb (by simp [q'])) (fun q' => hb (by simp [q'])) (fun q' => hb (by simp [q'])) q) hf⟩
  self := fun A i s Q E st h => wpAny_pyIter_zip st.1 h
abbrev zipLTH1 (h : Heap) (l1 : Addr) : Heap := h.push { cls := .type "list_iterator", data := .fields #[.ref l1, .int 0 0] }
abbrev zipLTH2 (h : Heap) (l1 l2 : Addr) : Heap := (zipLTH1 h l1).push { cls := .type "tuple_iterator", data := .fields #[.ref l2, .int 0 0] }
abbrev zipLTH3 (h : Heap) (l1 l2 : Addr) : Heap := (zipLTH2 h l1 l2).push { cls := .type "tuple", data := .seq #[.ref h.objs.size, .ref (zipLTH1 h l1).objs.size] }
abbrev zipLTH4 (h : Heap) (l1 l2 : Addr) : Heap := (zipLTH3 h l1 l2).push { cls := .type "tuple", data := .seq #[.none, .none] }
abbrev zipLTH5 (h : Heap) (l1 l2 : Addr) : Heap := (zipLTH4 h l1 l2).push { cls := .type "zip", data := .fields #[.none, .bool false, .bool false, .ref (zipLTH2 h l1 l2).objs.size, .ref (zipLTH3 h l1 l2).objs.size] }

theorem meets_zipLT_new (l1 l2 : Addr) (xs ys : Array Value) :
    Meets (Builtin.«zip.__new__» ⟨[.type "zip", .ref l1, .ref l2], []⟩) (fun _ R s => s.heap.IsList l1 xs ∧ s.heap.IsTuple l2 ys ∧
      R (.ok (.ret (.ref (zipLTH4 s.heap l1 l2).objs.size))) { s with heap := zipLTH5 s.heap l1 l2 }) :=
  .of_wp fun prog w A R s h => by
    obtain ⟨hp, g, d, tk, os⟩ := s; obtain ⟨hl1, hl2, h⟩ := h
    have hsub := sub_zip
    have hL1 : Heap.IsList (Shared.heap ⟨hp, g, d, tk, os⟩) l1 xs := hl1
    have hL2 : Heap.IsTuple (Shared.heap ⟨hp.push { cls := .type "list_iterator", data := .fields #[.ref l1, .int 0 0] }, g, d, tk, os⟩) l2 ys := Heap.IsTuple.push hl2 _
    wp_walk using wpAny_pyIter_list hL1, wpAny_pyIter_tuple hL2
    exact ⟨_, rfl, h⟩

section
variable {prog : Program} {w : World} {A : Around} {E : Value → Shared → Prop} {s : Shared}

theorem call_zipLT {l1 l2 : Addr} {xs ys : Array Value} {Q : Value → Shared → Prop} (hl1 : s.heap.IsList l1 xs) (hl2 : s.heap.IsTuple l2 ys)
    (h : ∀ h', IsZip h' (s.heap.objs.size + 4) (s.heap.objs.size + 2) (s.heap.objs.size + 3) .none → IsPair h' (s.heap.objs.size + 2) (.ref s.heap.objs.size) (.ref (s.heap.objs.size + 1)) →
      IsPair h' (s.heap.objs.size + 3) .none .none → h'.IsListIter s.heap.objs.size l1 0 → h'.IsTupleIter (s.heap.objs.size + 1) l2 0 → h'.objs.size = s.heap.objs.size + 5 →
      (∀ c o, s.heap.get? c = some o → h'.get? c = some o) → Q (.ref (s.heap.objs.size + 4)) { s with heap := h' }) :
    wpAny (model prog w) A (call (.type "zip") [.ref l1, .ref l2]) Q E s := by
  refine callType_new F.called_zip (by decide) (F.typeCall_zip_2 _ _) (F.newCall_zip_2 _ _) (fun obj => F.args_object_init_3 obj _ _) F.entry_zip_new
    (meets_zipLT_new l1 l2 xs ys) ⟨hl1, hl2, ?_⟩
  have z1 : (zipLTH1 s.heap l1).objs.size = s.heap.objs.size + 1 := Heap.size_push ..
  have z2 : (zipLTH2 s.heap l1 l2).objs.size = s.heap.objs.size + 2 := by rw [Heap.size_push, z1]
  have z3 : (zipLTH3 s.heap l1 l2).objs.size = s.heap.objs.size + 3 := by rw [Heap.size_push, z2]
  have z4 : (zipLTH4 s.heap l1 l2).objs.size = s.heap.objs.size + 4 := by rw [Heap.size_push, z3]
  have z5 : (zipLTH5 s.heap l1 l2).objs.size = s.heap.objs.size + 5 := by rw [Heap.size_push, z4]
  have g5 : (zipLTH5 s.heap l1 l2).get? (zipLTH4 s.heap l1 l2).objs.size = some _ := Heap.get?_push_size _ rfl
  have g4 : (zipLTH5 s.heap l1 l2).get? (zipLTH3 s.heap l1 l2).objs.size = some _ := Heap.get?_push_of_some _ (Heap.get?_push_size _ rfl)
  have g3 : (zipLTH5 s.heap l1 l2).get? (zipLTH2 s.heap l1 l2).objs.size = some _ := Heap.get?_push_of_some _ (Heap.get?_push_of_some _ (Heap.get?_push_size _ rfl))
  have g2 : (zipLTH5 s.heap l1 l2).get? (zipLTH1 s.heap l1).objs.size = some _ := Heap.get?_push_of_some _ (Heap.get?_push_of_some _ (Heap.get?_push_of_some _ (Heap.get?_push_size _ rfl)))
  have g1 : (zipLTH5 s.heap l1 l2).get? s.heap.objs.size = some _ := Heap.get?_push_of_some _ (Heap.get?_push_of_some _ (Heap.get?_push_of_some _ (Heap.get?_push_of_some _ (Heap.get?_push_size _ rfl))))
  show _ ∧ _
  rw [z2, z3, z4] at g5
  rw [z1, z2] at g3
  rw [z3] at g4
  rw [z1] at g2
  rw [z4]
  exact ⟨⟨_, g5, rfl⟩, h _ g5 g3 g4 ⟨_, g1, rfl, rfl⟩ ⟨_, g2, rfl, rfl⟩ z5 fun c o x =>
    Heap.get?_push_of_some _ (Heap.get?_push_of_some _ (Heap.get?_push_of_some _ (Heap.get?_push_of_some _ (Heap.get?_push_of_some _ x))))⟩
end
def iZipLT (K : PySem.W.Frag) (ta : TA) : TI := fun σ H R => ta σ H fun vs H1 => ∃ a b xs ys, vs = [.ref a, .ref b] ∧ SqL K H1 a xs ∧ SqT K H1 b ys ∧ R (ItzLT K a b) H1
theorem pi_zipLT {X : Cx} {e e2 : Expr} {ta : TA} {p pos tpos : Pos} {elts : List Expr} {kk : Nat} (hg : Gl X "zip") (hm : X.mg "zip" = none) (ha : PA X [e, e2] ta)
    (hs : starEach [e, e2] X.env = (false, eval e X.env) :: starEach [e2] X.env := by rfl) (hpl : (backTo pos (starEach [e2] X.env)).any (·.1) = false := by rfl) :
    PI X (.Tuple elts kk tpos) (.Call (.Name "zip" p) [e, e2] [] pos) (iZipLT X.K ta) := by
  refine ⟨fun pins s σ H R I h => ?_⟩
  refine Call_ (ld_blt I hg hm PyProof.Rows.boot_zip (PyProof.Rows.callWith_type1 (thn (ha.run pos pins s σ H _ I h) fun us s1 ⟨vs, H1, I1, r1, q1⟩ => ?_) hs hpl))
  obtain ⟨a, b, xs, ys, ex, hqx, hqy, q⟩ := q1
  subst ex
  cases r1 with
  | cons r rr =>
    cases rr with
    | cons r' rr =>
      cases rr
      cases r
      cases r'
      have fresh5 : ∀ c, c ∈ [s1.heap.objs.size + 4, s1.heap.objs.size + 2, s1.heap.objs.size + 3, s1.heap.objs.size, s1.heap.objs.size + 1] → FpOk X pins H1 c := fun c hcm => by
        have e' : c = s1.heap.objs.size + 4 ∨ c = s1.heap.objs.size + 2 ∨ c = s1.heap.objs.size + 3 ∨ c = s1.heap.objs.size ∨ c = s1.heap.objs.size + 1 := by simpa using hcm
        have hle : s1.heap.objs.size ≤ c := by
          rcases e' with z | z | z | z | z
          · rw [z]; exact Nat.le_add_right _ _
          · rw [z]; exact Nat.le_add_right _ _
          · rw [z]; exact Nat.le_add_right _ _
          · rw [z]; exact Nat.le_refl _
          · rw [z]; exact Nat.le_add_right _ _
        exact I1.fpOk hle (I1.hok.fresh hle)
      obtain ⟨its, rv, p1, _⟩ := I1.list hqx
      obtain ⟨its2, rv2, p2, _⟩ := I1.tuple hqy
      obtain ⟨o2, ho2, _⟩ := id p2
      refine call_zipLT p1.isList (show s1.heap.IsTuple b its2.toArray from p2) fun h' hz hTI hTO h1 h2 hsz hk => wpAny_pyIter_zip hz ?_
      have I2 : Inv X pins σ H1 { s1 with heap := h' } := I1.kept (t' := s1.toks) hk
      exact ⟨s1.heap.objs.size + 4, [s1.heap.objs.size + 4, s1.heap.objs.size + 2, s1.heap.objs.size + 3, s1.heap.objs.size, s1.heap.objs.size + 1], _, _, H1, rfl, I2, turn_zipLT (PySem.W.ktu_apart s1.heap.objs.size a b p1.lt (Heap.lt_size ho2)), ⟨hz, hTI, ⟨_, _, hTO⟩, h1, h2⟩, fresh5, q⟩
section
variable {I S A B C : Type} [Enc A] [Enc B] [Enc C] {Xs : I → Cx} {F : Fm S} {G G' : List Sl} {pos p : Pos} {e a b tg iter : Expr} {es : List Expr}
theorem iv_zipLT {m : M S (List A)} {n : M S (Tup B)} {elts : List Expr} {kk : Nat} {tpos : Pos} (hm : ∀ i, (Xs i).mg "zip" = none) (h : EV Xs F G a m) (h' : EV Xs F G b n) (hg : ∀ i, Gl (Xs i) "zip" := by intro _; rfl)
    (hs1 : ∀ i, starEach [a, b] (Xs i).env = (false, eval a (Xs i).env) :: starEach [b] (Xs i).env := by intro _; rfl) (hs2 : ∀ i, starEach [b] (Xs i).env = (false, eval b (Xs i).env) :: starEach [] (Xs i).env := by intro _; rfl)
    (hpl : ∀ i, (backTo pos (starEach [b] (Xs i).env)).any (·.1) = false := by intro _; rfl) {K : PySem.W.Frag} (hK : ∀ i, (Xs i).K = K := by intro _; rfl) : IV Xs F G (.Tuple elts kk tpos) (.Call (.Name "zip" p) [a, b] [] pos) (zipM m (mapM1 unTup n)) := by
  obtain ⟨te, hp, ho⟩ := h
  obtain ⟨tf, hp', ho'⟩ := h'
  refine ⟨iZipLT K (tCons te (tCons tf tNil)), fun i => by rw [← hK i]; exact pi_zipLT (hg i) (hm i) (pa_cons (hp i) (pa_cons (hp' i) pa_nil (hs2 i)) (hs1 i)) (hs1 i) (hpl i), fun Zx t H s l s' g hm' R q => ?_⟩
  obtain ⟨z, s1, h1, h2⟩ := bind_some hm'
  obtain ⟨y, s2, h3, h4⟩ := bind_some h2
  obtain ⟨y0, s3, k3, q1⟩ := bind_some h3
  obtain ⟨rfl, rfl⟩ := pure_eq q1
  obtain ⟨rfl, rfl⟩ := pure_eq h4
  refine ho Zx t H s z _ g h1 _ fun v H1 g1 f1 r1 => ?_
  refine ho' Zx t H1 _ y0 _ g1 k3 _ fun v2 H2 g2 f2 r2 => ?_
  obtain ⟨p1, xs, rfl, n1, e1, l1⟩ := (r1.fix f2).toLst
  obtain ⟨p2, ys, rfl, n2, e2, l2⟩ := r2.toTup
  refine ⟨p1, p2, xs, ys, rfl, SqL.of e1, e2.sq, q _ H2 g2 (f1.trans f2) fun Z' H3 ex tr => ⟨fun i x hx => ?_, fun i hi => ?_⟩⟩
  · obtain ⟨x1, x2⟩ := x
    rw [List.getElem?_zip_eq_some] at hx
    obtain ⟨hx1, hx2⟩ := hx
    have kk1 := ex.1 _ _ n1 e1
    have kk2 := e2.at_ fun o q => ex.1 _ o n2 q
    obtain ⟨y1, hy1, ry1⟩ := (l1.ext ex).get (i := i) (x := enc x1) (by rw [List.getElem?_map, hx1]; rfl)
    obtain ⟨y2, hy2, ry2⟩ := (l2.ext ex).get (i := i) (x := enc x2) (by rw [List.getElem?_map, hx2]; rfl)
    refine ⟨⟨xs, ys, y1, y2, SqL.of kk1, kk2.sq, hy1, hy2⟩, fun v H' hyl => ?_⟩
    obtain ⟨T, w1, w2, rfl, hT, rfl, q1, q2⟩ := hyl
    have e3 := q1 xs (SqL.of kk1)
    have e4 := q2 ys (kk2.sq)
    rw [hy1] at e3
    rw [hy2] at e4
    cases e3
    cases e4
    exact ⟨same_new hT, Gd.fresh_tup tr hT (.cons ry1 (.cons ry2 .nil))⟩
  · refine ⟨xs, ys, SqL.of (ex.1 _ _ n1 e1), (e2.at_ fun o q => ex.1 _ o n2 q).sq, ?_⟩
    rw [l1.len, l2.len, List.length_map, List.length_map]
    rw [List.length_zip] at hi
    omega
end
end PL

namespace PL
open PySem L2 Enc PyProof.Rows PySem.Spec
section
variable {I S : Type} {Xs : I → Cx} {F : Fm S} {G : List Sl} {pos p : Pos} {a b : Expr} {K : PySem.W.Frag}
theorem bb_all : bootBuiltins "all" = some (.builtin "all") := by decide +kernel
theorem rp_bls {Z : Addr → Prop} {H : Hp} : ∀ {l : List Bool} {v : List V}, RpL Z H v (l.map enc) → v = l.map V.bl
  | [], _, .nil => rfl
  | b :: l, _, .cons h1 t => by
    rw [rp_bls t, show _ = V.bl b from h1.bool]
    rfl
def allM (m : M S (List Bool)) : M S Bool := fun1M (fun l : List Bool => some (l.all id)) m
theorem ev_all {m : M S (List Bool)} (hm : ∀ i, (Xs i).mg "all" = none) (h : EV Xs F G a m) (hc : ∀ i, (Xs i).calm = true := by intro _; rfl) (hg : ∀ i, Gl (Xs i) "all" := by intro _; rfl)
    (he : ∀ i, starEach [a] (Xs i).env = (false, eval a (Xs i).env) :: starEach [] (Xs i).env := by intro _; rfl) (hK : ∀ i, (Xs i).K = K := by intro _; rfl) : EV Xs F G (.Call (.Name "all" p) [a] [] pos) (allM m) :=
  ev_b1 (r := rAll K) (fun i => by rw [← hK i]; exact cr_all (hc i)) (fun F Zx G s t H u vs z g r e Q q => by
    obtain ⟨v, rfl, rv⟩ := r.one
    obtain ⟨pp, xs, rfl, n, h, l⟩ := rv.toLst
    cases e
    rw [rp_bls l] at h
    exact ⟨pp, u.1, rfl, SqL.of h, q _ H (Same.refl H) (.bl _)⟩) hm bb_all h hg (by decide) (by decide) he
/-- dicts of ints: the same length, and each value found at its key in the other one -/
def eqI (l m : Dic Int) : Bool := decide ((unDic l).length = (unDic m).length) && (unDic l).all fun p => decide (valD m p.1 = some p.2)
def kvI (p : Int × Int) : Key × V := (.inl p.1, .int p.2)
theorem rpk_ints {Z : Addr → Prop} {H : Hp} : ∀ {l : List (Int × Int)} {kvs : List (Key × V)}, RpK Z H kvs (l.map dkv) → kvs = l.map kvI := by
  intro l
  induction l with
  | nil =>
    intro kvs r
    cases r
    rfl
  | cons p l ih =>
    intro kvs r
    have r' : RpK Z H kvs ((kD (.inl p.1), enc p.2) :: l.map dkv) := r
    generalize ek : kD (.inl p.1) = kd at r'
    cases r' with
    | @cons k0 v r0 _ _ h t =>
      obtain rfl := kD_inl ek.symm
      obtain rfl := h.toInt
      rw [ih t]
      rfl
theorem valV_kvI (m : List (Int × Int)) (k : Int) : valV (m.map kvI) (.inl k) = (valD (toDic m) k).map V.int := by
  have hk : RpK (fun _ => False) (fun _ => none) (m.map kvI) (m.map dkv) := by
    induction m with
    | nil => exact .nil
    | cons p m ih => exact .cons (k := .inl p.1) (.int _) ih
  obtain ⟨h1, h2⟩ := RpK.val (l := m) (k := k) hk
  cases e : valD (toDic m) k with
  | none => exact h1 e
  | some y =>
    obtain ⟨v, hv, rv⟩ := h2 y e
    rw [hv, show v = V.int y from rv.toInt]
    rfl
theorem hits_ints {A : Around} {s : Shared} {m : List (Int × Int)} {vb : List (Key × Value)} (rb : KV (m.map kvI) vb) : ∀ {l : List (Int × Int)} {va : List (Key × Value)}, KV (l.map kvI) va → PySem.W.KeqHits A s vb va (l.all fun p => decide (valD (toDic m) p.1 = some p.2)) := by
  intro l
  induction l with
  | nil =>
    intro va ra
    cases ra
    exact .nil
  | cons p l ih =>
    intro va ra
    cases ra with
    | @cons x y xs ys h t =>
      obtain ⟨k, v⟩ := y
      obtain ⟨e1, r1⟩ := h
      obtain rfl : (Sum.inl p.1 : Key) = k := e1
      obtain ⟨t1, rfl⟩ : ∃ t, v = Value.int p.2 t := r1
      have hv := rb.val (.inl p.1)
      rw [valV_kvI] at hv
      rw [List.all_cons]
      cases e : valD (toDic m) p.1 with
      | none =>
        rw [e] at hv
        have hn : valueAt vb (.inl p.1) = none := by
          cases q : valueAt vb (.inl p.1 : Key) with
          | none => rfl
          | some z => rw [q] at hv; exact hv.elim
        rw [show decide ((none : Option Int) = some p.2) = false from rfl, Bool.false_and]
        exact .miss hn
      | some j =>
        rw [e] at hv
        cases q : valueAt vb (.inl p.1 : Key) with
        | none => rw [q] at hv; exact hv.elim
        | some z =>
          rw [q] at hv
          obtain ⟨t2, rfl⟩ : ∃ t, z = Value.int j t := hv
          have ee : decide ((some j : Option Int) = some p.2) = (p.2 == j) := by
            by_cases w : j = p.2
            · rw [w]; simp
            · rw [decide_eq_false (fun h => w (by injection h)), beq_eq_false_iff_ne.mpr (fun h => w h.symm)]
          rw [ee]
          exact .hit q (SeqAt.EqAt.int_int _ _ _ _) (ih t)
def rEqDI : R2 := fun x y H Q => ∃ a b l m, x = .ref a ∧ y = .ref b ∧ Rd H a (.dK (List.map kvI l)) ∧ Rd H b (.dK (List.map kvI m)) ∧ Q (.bl (eqI (toDic l) (toDic m))) H
theorem op_eq_dictI {X : Cx} (hu : X.A.units < cLine) : OpR X (compareOp .Eq) rEqDI := by
  intro pins s σ H x y v u Q I rx ry h
  obtain ⟨a, b, l, m, rfl, rfl, ea, eb, q⟩ := h
  obtain rfl : v = Value.ref a := rx
  obtain rfl : u = Value.ref b := ry
  obtain ⟨_, ya, va, ra, da⟩ := dk_rd I.hok ea
  obtain ⟨_, yb, vb, rb, db⟩ := dk_rd I.hok eb
  have hl : (va.length == vb.length) = decide (l.length = m.length) := by
    rw [← ra.length, ← rb.length, List.length_map, List.length_map]
    by_cases w : l.length = m.length
    · rw [w]; simp
    · rw [decide_eq_false w, beq_eq_false_iff_ne.mpr w]
  refine PySem.W.keq_eq (knd := mixKind X.prog X.w) ya yb da db hu (fun _ => hits_ints rb ra) ?_
  rw [hl]
  exact fin_bl I q rfl
def eqDI (m n : M S (Dic Int)) : M S Bool := bin2 (fun x y => some (eqI x y)) m n
theorem ev_eqDI {m n : M S (Dic Int)} {k : Nat} (hr : ∀ i, Room k (Xs i).A) (ha : EV Xs F G a m) (hb : EV Xs F G b n) : EV Xs F G (.Compare a [.Eq] [b] pos) (eqDI m n) :=
  ev_cmp (r := rEqDI) (fun i => op_eq_dictI (by have := (hr i).units; omega)) (fun F Zx G s t H x y vx vy z g rx ry e Q q => by
    cases e
    obtain ⟨p1, k1, rfl, n1, h1, r1⟩ := rx.toDic
    obtain ⟨p2, k2, rfl, n2, h2, r2⟩ := ry.toDic
    rw [rpk_ints (l := unDic x) r1] at h1
    rw [rpk_ints (l := unDic y) r2] at h2
    exact ⟨p1, p2, unDic x, unDic y, rfl, rfl, h1, h2, q _ H (Same.refl H) (.bl _)⟩) ha hb
end
theorem nf10 : (∀ {S : Type} (m : M S (List Bool)), allM m = bindM m fun l => pureM (l.all id)) ∧ (∀ {S : Type} (m n : M S (Dic Int)), eqDI m n = bindM m fun x => bindM n fun y => pureM (eqI x y)) := ⟨fun _ => rfl, fun _ _ => rfl⟩
end PL

namespace PL
open PySem L2 Enc PySem.W
class Dec (A : Type) [Enc A] where
  dec : PyData → Option A
  sound : ∀ d x, dec d = some x → enc x = d
  back : ∀ x : A, dec (enc x) = some x
open Dec
theorem dec_eq {A : Type} [Enc A] [Dec A] {d : PyData} {x : A} (h : enc x = d) : dec d = some x := by rw [← h, back]
def decInt : PyData → Option Int
  | .int i => some i
  | _ => none
def decStr : PyData → Option Str
  | .str i => some i
  | _ => none
def decL {A : Type} (f : PyData → Option A) : List PyData → Option (List A)
  | [] => some []
  | d :: ds => (f d).bind fun x => (decL f ds).map fun xs => x :: xs
theorem decL_sound {A : Type} [Enc A] [Dec A] : ∀ (ds : List PyData) (xs : List A), decL dec ds = some xs → xs.map enc = ds
  | [], xs, h => by
    cases h
    rfl
  | d :: ds, xs, h => by
    unfold decL at h
    cases e : (dec d : Option A) with
    | none => rw [e] at h; cases h
    | some x =>
      rw [e] at h
      cases e2 : decL (dec : PyData → Option A) ds with
      | none => rw [e2] at h; cases h
      | some ys =>
        rw [e2] at h
        cases h
        rw [List.map_cons, sound d x e, decL_sound ds ys e2]
theorem decL_back {A : Type} [Enc A] [Dec A] : ∀ xs : List A, decL dec (xs.map enc) = some xs
  | [] => rfl
  | x :: xs => by
    rw [List.map_cons]
    unfold decL
    rw [back, decL_back xs]
    rfl
instance : Dec PyData := ⟨some, fun d x h => by cases h; rfl, fun _ => rfl⟩
instance : Dec Int := ⟨decInt, fun d x h => by
  cases d <;> first | (cases h; done) | (cases h; rfl), fun _ => rfl⟩
instance : Dec Str := ⟨decStr, fun d x h => by
  cases d <;> first | (cases h; done) | (cases h; rfl), fun _ => rfl⟩
def decTup {A : Type} (f : PyData → Option A) : PyData → Option (Tup A)
  | .tuple l => (decL f l).map toTup
  | _ => none
def decLst {A : Type} (f : PyData → Option A) : PyData → Option (List A)
  | .list l => decL f l
  | _ => none
def decPair {A B : Type} (f : PyData → Option A) (g : PyData → Option B) : PyData → Option (A × B)
  | .tuple [a, b] => (f a).bind fun x => (g b).map fun y => (x, y)
  | _ => none
def decT3 {A B C : Type} (f : PyData → Option A) (g : PyData → Option B) (h : PyData → Option C) : PyData → Option (T3 A B C)
  | .tuple [a, b, c] => (f a).bind fun x => (g b).bind fun y => (h c).map fun z => ⟨x, y, z⟩
  | _ => none
theorem decTup_sound {A : Type} [Enc A] [Dec A] (d : PyData) (x : Tup A) (h : decTup dec d = some x) : enc x = d := by
  cases d with
  | tuple l =>
    replace h : (decL (dec : PyData → Option A) l).map toTup = some x := h
    cases e : decL (dec : PyData → Option A) l with
    | none => rw [e] at h; cases h
    | some ys =>
      rw [e] at h
      cases h
      exact congrArg PyData.tuple (decL_sound l ys e)
  | _ => cases h
theorem decLst_sound {A : Type} [Enc A] [Dec A] (d : PyData) (x : List A) (h : decLst dec d = some x) : enc x = d := by
  cases d with
  | list l => exact congrArg PyData.list (decL_sound l x h)
  | _ => cases h
instance {A : Type} [Enc A] [Dec A] : Dec (Tup A) where
  dec := decTup dec
  sound := decTup_sound
  back x := by
    show (decL dec ((unTup x).map enc)).map toTup = some x
    rw [decL_back]
    rfl
instance {A : Type} [Enc A] [Dec A] : Dec (List A) where
  dec := decLst dec
  sound := decLst_sound
  back x := decL_back x
theorem decPair_sound {A B : Type} [Enc A] [Enc B] [Dec A] [Dec B] (d : PyData) (x : A × B) (h : decPair dec dec d = some x) : enc x = d := by
  unfold decPair at h
  split at h
  · rename_i a b
    cases e : (dec a : Option A) with
    | none => rw [e] at h; cases h
    | some y =>
      rw [e] at h
      cases e2 : (dec b : Option B) with
      | none => rw [e2] at h; cases h
      | some z =>
        rw [e2] at h
        cases h
        show PyData.tuple [enc y, enc z] = _
        rw [sound a y e, sound b z e2]
  · cases h
instance {A B : Type} [Enc A] [Enc B] [Dec A] [Dec B] : Dec (A × B) where
  dec := decPair dec dec
  sound := decPair_sound
  back x := by
    show ((dec (enc x.1) : Option A).bind fun y => (dec (enc x.2) : Option B).map fun z => (y, z)) = some x
    rw [back, back]
    rfl
theorem decT3_sound {A B C : Type} [Enc A] [Enc B] [Enc C] [Dec A] [Dec B] [Dec C] (d : PyData) (x : T3 A B C) (h : decT3 dec dec dec d = some x) : enc x = d := by
  unfold decT3 at h
  split at h
  · rename_i a b c
    cases e : (dec a : Option A) with
    | none => rw [e] at h; cases h
    | some y =>
      rw [e] at h
      cases e2 : (dec b : Option B) with
      | none => rw [e2] at h; cases h
      | some z =>
        rw [e2] at h
        cases e3 : (dec c : Option C) with
        | none => rw [e3] at h; cases h
        | some w =>
          rw [e3] at h
          cases h
          show PyData.tuple [enc y, enc z, enc w] = _
          rw [sound a y e, sound b z e2, sound c w e3]
  · cases h
instance {A B C : Type} [Enc A] [Enc B] [Enc C] [Dec A] [Dec B] [Dec C] : Dec (T3 A B C) where
  dec := decT3 dec dec dec
  sound := decT3_sound
  back x := by
    show ((dec (enc x.a) : Option A).bind fun y => (dec (enc x.b) : Option B).bind fun z => (dec (enc x.c) : Option C).map fun w => T3.mk y z w) = some x
    rw [back, back, back]
    rfl
def notNone : PyData → Bool
  | .none => false
  | _ => true
theorem notNone_iff {d : PyData} : notNone d = true ↔ d ≠ .none := by
  cases d <;> simp [notNone]
section
variable {I S A B : Type} [Enc A] [Enc B] {Xs : I → Cx} {F : Fm S} {G : List Sl} {pos p : Pos} {e a b : Expr} {K : PySem.W.Frag}
def decM (A : Type) [Enc A] [Dec A] (m : M S PyData) : M S A := bindM m fun y => ofO (dec y)
theorem ev_dec [Dec A] {m : M S PyData} (h : EV Xs F G e m) : EV Xs F G e (decM A m) := ev_of dec (fun y z h => sound y z h) h
theorem ev_any {m : M S A} (h : EV Xs F G e m) : EV Xs F G e (mapM1 (enc : A → PyData) m) := ev_as _ (fun _ => rfl) h
theorem ev_ancs {m : M S (List A)} (h : EV Xs F G e m) : EV Xs F G e (mapM1 (List.map enc : List A → List PyData) m) := ev_as _ (fun y => by
  show PyData.list (List.map enc (List.map enc y)) = PyData.list (List.map enc y)
  rw [List.map_map]
  rfl) h
def ltOk (d e : PyData) : Bool := d.canLay0 && e.canLay0 && alike d e && notNone d && decide (d.depth ≤ 60)
theorem rv_ltA {g : PyData → PyData → Bool} {r : R2} (hr : ∀ x y H Q d e, Dp K H x d → Dp K H y e → alike d e = true → d ≠ .none → d.depth ≤ 60 → Q (.bl (g d e)) H → r x y H Q) :
    RV2 r (fun (x : PyData) (y : PyData) => if ltOk x y = true then some (g x y) else none) := fun F Zx G s t H x y vx vy z gd rx ry e Q q => by
  replace e : (if ltOk x y = true then some (g x y) else none) = some z := e
  by_cases c : ltOk x y = true
  · rw [if_pos c] at e
    cases e
    unfold ltOk at c
    simp only [Bool.and_eq_true, decide_eq_true_eq, notNone_iff] at c
    obtain ⟨⟨⟨⟨c1, c2⟩, c3⟩, c4⟩, c5⟩ := c
    exact hr vx vy H Q x y (rx.dp c1) (ry.dp c2) c3 c4 c5 (q _ H (Same.refl H) (.bl _))
  · rw [if_neg c] at e
    cases e
def ltAM (m n : M S PyData) : M S Bool := bin2 (fun x y => if ltOk x y = true then some (dataLt x y) else none) m n
def leAM (m n : M S PyData) : M S Bool := bin2 (fun x y => if ltOk x y = true then some (!dataLt y x) else none) m n
variable {m n : M S PyData} {k : Nat}
theorem ev_ltA (hr : ∀ i, Room k (Xs i).A) (ha : EV Xs F G a m) (hb : EV Xs F G b n) (hK : ∀ i, (Xs i).K = K := by intro _; rfl) : EV Xs F G (.Compare a [.Lt] [b] pos) (ltAM m n) :=
  ev_cmp (r := rLtD K) (fun i => by rw [← hK i]; exact op_ltD (hr i).units) (rv_ltA (K := K) (g := dataLt) fun x y H Q d e h1 h2 h3 h4 h5 q => ⟨d, e, h1, h2, h3, h4, h5, q⟩) ha hb
theorem et_leA (hr : ∀ i, Room k (Xs i).A) (ha : EV Xs F G a m) (hb : EV Xs F G b n) (hK : ∀ i, (Xs i).K = K := by intro _; rfl) : ET Xs F G (.Compare a [.LtE] [b] pos) (leAM m n) :=
  et_cmp (r := rLeDD K) (fun i => by rw [← hK i]; exact op_leD (hr i).units) (rv_ltA (K := K) (g := fun d e => !dataLt e d) fun x y H Q d e h1 h2 h3 h4 h5 q => ⟨d, e, h1, h2, h3, h4, h5, q⟩) ha hb
end
theorem nf11 : (∀ {S A : Type} [Enc A] [Dec A] (m : M S PyData), decM A m = bindM m fun y => ofO (Dec.dec y)) ∧
    (∀ {S : Type} (m n : M S PyData), ltAM m n = bindM m fun x => bindM n fun y => ofO (if ltOk x y = true then some (dataLt x y) else none)) ∧
    (∀ {S : Type} (m n : M S PyData), leAM m n = bindM m fun x => bindM n fun y => ofO (if ltOk x y = true then some (!dataLt y x) else none)) := ⟨fun _ => rfl, fun _ _ => rfl, fun _ _ => rfl⟩
end PL

namespace PL
open PySem L2 Enc PyProof.Rows PySem.Spec
abbrev KeyV := Tup (Int × Int)
instance : DecidableEq KeyV := inferInstanceAs (DecidableEq (List (Int × Int)))
/-- such a dict, as its pairs, in its order -/
def NDic := List (KeyV × Int)
def toND (l : List (KeyV × Int)) : NDic := l
def unND (l : NDic) : List (KeyV × Int) := l
instance : Enc NDic := ⟨fun l => .tuple (List.map enc (unND l))⟩
def valN (l : NDic) (k : KeyV) : Option Int := ((unND l).find? fun p => decide (p.1 = k)).map (·.2)
def putN (l : NDic) (k : KeyV) (x : Int) : NDic := toND (if (valN l k).isSome = true then (unND l).map (fun p => if p.1 = k then (p.1, x) else p) else unND l ++ [(k, x)])
def keysN (l : NDic) : List KeyV := (unND l).map (·.1)
theorem enc_inj2 {x y : KeyV × Int} (h : (enc x : PyData) = enc y) : x = y := by
  have := congrArg (Dec.dec : PyData → Option (KeyV × Int)) h
  rw [Dec.back, Dec.back] at this
  exact Option.some.inj this
theorem encs_inj : ∀ {l m : List (KeyV × Int)}, l.map (enc : KeyV × Int → PyData) = m.map enc → l = m
  | [], [], _ => rfl
  | [], _ :: _, h => by cases h
  | _ :: _, [], h => by cases h
  | x :: l, y :: m, h => by
    rw [List.map_cons, List.map_cons] at h
    injection h with h1 h2
    rw [enc_inj2 h1, encs_inj h2]
theorem keyT_inj {v w : KeyV} (h : keyT v = keyT w) : v = w := by
  have key : ∀ {l m : List (Int × Int)}, l.map (fun r : Int × Int => NestedKey.tup [.num r.1, .num r.2]) = m.map (fun r => .tup [.num r.1, .num r.2]) → l = m := by
    intro l
    induction l with
    | nil => intro m h; cases m with
      | nil => rfl
      | cons _ _ => cases h
    | cons x l ih =>
      intro m h
      cases m with
      | nil => cases h
      | cons y m =>
        rw [List.map_cons, List.map_cons] at h
        injection h with h1 h2
        injection h1 with h3
        injection h3 with h4 h5
        injection h4 with h4
        injection h5 with h5 _
        injection h5 with h5
        rw [ih h2, show x = y from Prod.ext h4 h5]
  unfold keyT at h
  injection h with h
  exact key h
theorem keyT_depth (v : KeyV) : (keyT v).depth ≤ 8 := by
  have key : ∀ l : List (Int × Int), NestedKey.depthAll (l.map fun r => .tup [.num r.1, .num r.2]) ≤ 1 := fun l => by
    induction l with
    | nil => exact Nat.zero_le _
    | cons x l ih =>
      rw [List.map_cons]
      show max (NestedKey.depth (.tup [.num x.1, .num x.2])) _ ≤ 1
      exact Nat.max_le.mpr ⟨Nat.le_refl 1, ih⟩
  show NestedKey.depthAll _ + 1 ≤ 8
  have := key (unTup v)
  omega
theorem keyT_hash (v : KeyV) (w w' : World) : (keyT v).hash w = (keyT v).hash w' := by
  have key : ∀ l : List (Int × Int), NestedKey.hashes w (l.map fun r => .tup [.num r.1, .num r.2]) = NestedKey.hashes w' (l.map fun r => .tup [.num r.1, .num r.2]) := fun l => by
    induction l with
    | nil => rfl
    | cons x l ih =>
      rw [List.map_cons]
      show NestedKey.hash w _ :: _ = NestedKey.hash w' _ :: _
      rw [ih]
      rfl
  show reduceHash (Builtin.Tuple.tupleHashOf (NestedKey.hashes w _)) = reduceHash (Builtin.Tuple.tupleHashOf (NestedKey.hashes w' _))
  rw [key]
section
variable {X : Cx} {pins : List (Addr × Obj)} {σ : L2.St} {H : Hp} {s : Shared} {Z : Addr → Prop}
theorem nest_row (I : Inv X pins σ H s) {x : Int × Int} {v : V} {u : Value} (r : Rp Z H v (enc x)) (rv : RelV v u) : NestedIs s.heap (.tup [.num x.1, .num x.2]) u := by
  have r' : Rp Z H v (.tuple [enc x.1, enc x.2]) := r
  cases r' with
  | tup n tb rl =>
    rename_i a xs
    obtain rfl : u = Value.ref a := rv
    obtain ⟨v1, v2, rfl, r1, r2⟩ := rl.two
    obtain rfl := r1.toInt
    obtain rfl := r2.toInt
    obtain ⟨its, rvs, ⟨o, e, c, n2, d⟩, _⟩ := I.tuple (tb.sq (K := X.K))
    cases rvs with
    | cons q1 t1 =>
      cases t1 with
      | cons q2 t2 =>
        cases t2
        obtain ⟨t1, rfl⟩ : ∃ t, _ = Value.int x.1 t := q1
        obtain ⟨t2, rfl⟩ : ∃ t, _ = Value.int x.2 t := q2
        exact .tup e c d (.cons (.int _ _) (.cons (.int _ _) .nil))
theorem nest_rows (I : Inv X pins σ H s) : ∀ {l : List (Int × Int)} {vs : List V} {us : List Value}, RpL Z H vs (l.map enc) → Vals vs us → NestedAll s.heap (l.map fun r => .tup [.num r.1, .num r.2]) us
  | [], _, _, .nil, .nil => .nil
  | x :: l, _, _, .cons h t, .cons h2 t2 => .cons (nest_row I h h2) (nest_rows I t t2)
theorem nest_of (I : Inv X pins σ H s) {k : KeyV} {b : Addr} (r : Rp Z H (.ref b) (enc k)) : (nestedKind X.prog X.w).is s.heap (keyT k) b := by
  refine ⟨?_, keyT_depth k⟩
  have r' : Rp Z H (.ref b) (.tuple ((unTup k).map enc)) := r
  cases r' with
  | tup n tb rl =>
    obtain ⟨its, rvs, ⟨o, e, c, n2, d⟩, _⟩ := I.tuple (tb.sq (K := X.K))
    exact .tup e c d (by simpa using nest_rows I rl rvs)
/-- entries by their keys, and the pairs that they hold -/
def NX (Z : Addr → Prop) (H : Hp) : List (NestedKey × Addr × Value) → List (KeyV × Int) → Prop := Paired fun x y => x.1 = keyT y.1 ∧ (∃ t, x.2.2 = .int y.2 t) ∧ Rp Z H (.ref x.2.1) (enc y.1)
theorem NX.of_ent {es : List DictEntry} {l : List (KeyV × Int)} (w : World) (P : Program) (h : Paired (NEnt Z H) es l) : ∃ xs, es = xs.map (entryOfKey (nestedKind P w)) ∧ NX Z H xs l := by
  induction h with
  | nil => exact ⟨[], rfl, .nil⟩
  | @cons e y _ _ r _ ih =>
    obtain ⟨xs, e1, e2⟩ := ih
    obtain ⟨a, t, h1, h2, h3, h4⟩ := r
    refine ⟨(keyT y.1, a, .int y.2 t) :: xs, ?_, .cons ⟨rfl, ⟨t, rfl⟩, h4⟩ e2⟩
    rw [List.map_cons, ← e1]
    congr 1
    obtain ⟨eh, ek, ev⟩ := e
    simp only at h1 h2 h3
    rw [h1, h2, h3 w]
    rfl
theorem NX.to_ent {xs : List (NestedKey × Addr × Value)} {l : List (KeyV × Int)} (w : World) (P : Program) (h : NX Z H xs l) : Paired (NEnt Z H) (xs.map (entryOfKey (nestedKind P w))) l := by
  induction h with
  | nil => exact .nil
  | @cons x y _ _ r _ ih =>
    obtain ⟨h1, ⟨t, h2⟩, h3⟩ := r
    refine .cons ⟨x.2.1, t, rfl, h2, fun w' => ?_, h3⟩ ih
    show NestedKey.hash w x.1 = _
    rw [h1]
    exact keyT_hash _ _ _
theorem NX.is (I : Inv X pins σ H s) {xs : List (NestedKey × Addr × Value)} {l : List (KeyV × Int)} (h : NX Z H xs l) : ∀ x ∈ xs, (nestedKind X.prog X.w).is s.heap x.1 x.2.1 := by
  induction h with
  | nil => intro x hx; cases hx
  | @cons x y _ _ r _ ih =>
    intro z hz
    rcases List.mem_cons.mp hz with rfl | hz
    · obtain ⟨h1, _, h3⟩ := r
      rw [h1]
      exact nest_of I h3
    · exact ih z hz
theorem NX.keys {xs : List (NestedKey × Addr × Value)} {l : List (KeyV × Int)} (h : NX Z H xs l) : xs.map (·.1) = (l.map (·.1)).map keyT := by
  induction h with
  | nil => rfl
  | cons r _ ih =>
    rw [List.map_cons, List.map_cons, List.map_cons, ih]
    congr 1
    exact r.1
theorem nodup_keys {l : List KeyV} (h : l.Nodup) : (l.map keyT).Nodup := by
  rw [List.nodup_iff_pairwise_ne, List.pairwise_map] at *
  exact h.imp fun n z => n (keyT_inj z)
theorem OwnN.dict (I : Inv X pins σ H s) {p : Addr} {l : List (KeyV × Int)} {ob : Obj} {es : Array DictEntry} {ep : Nat} (h : OwnN Z H p l ob es ep) : ∃ xs, NX Z H xs l ∧ s.heap.DictOfH (nestedKind X.prog X.w) p xs ∧ xs.length = l.length := by
  obtain ⟨xs, e1, e2⟩ := NX.of_ent X.w X.prog h.ent
  have g : s.heap.get? p = some ob := (show ObjOk X.prog X.w H s.heap p (exO p ob) from I.hok p _ h.at_).1
  exact ⟨xs, e2, ⟨ob, es, ep, g, h.ex, h.dat, e1, e2.is I, by rw [e2.keys]; exact nodup_keys h.nd⟩, Paired.length e2⟩
theorem NX.at_ {xs : List (NestedKey × Addr × Value)} {l : List (KeyV × Int)} (h : NX Z H xs l) (k : KeyV) : (valN (toND l) k = none → atKey xs (keyT k) = none) ∧ ∀ i, valN (toND l) k = some i → ∃ a t, atKey xs (keyT k) = some (a, .int i t) := by
  induction h with
  | nil => exact ⟨fun _ => rfl, fun i e => (by cases e)⟩
  | @cons x y xs l r _ ih =>
    obtain ⟨h1, ⟨t, h2⟩, h3⟩ := r
    have ev : valN (toND (y :: l)) k = if y.1 = k then some y.2 else valN (toND l) k := by
      unfold valN
      show ((y :: l).find? _).map _ = _
      rw [List.find?_cons]
      by_cases c : y.1 = k
      · rw [decide_eq_true c, if_pos c]
        rfl
      · rw [decide_eq_false c, if_neg c]
        rfl
    have ea : atKey (x :: xs) (keyT k) = if y.1 = k then some x.2 else atKey xs (keyT k) := by
      unfold atKey
      rw [List.find?_cons, h1]
      by_cases c : y.1 = k
      · rw [decide_eq_true (congrArg keyT c), if_pos c]
        rfl
      · rw [decide_eq_false (fun z => c (keyT_inj z)), if_neg c]
    rw [ev, ea]
    by_cases c : y.1 = k
    · rw [if_pos c, if_pos c]
      refine ⟨fun z => (by cases z), fun i e => ?_⟩
      injection e with e
      exact ⟨x.2.1, t, by rw [← e, ← h2]⟩
    · rw [if_neg c, if_neg c]
      exact ih
theorem NX.put {xs : List (NestedKey × Addr × Value)} {l : List (KeyV × Int)} (h : NX Z H xs l) {k : KeyV} {b : Addr} {i : Int} {t : Tok} (r : Rp Z H (.ref b) (enc k)) : NX Z H (storedH xs (keyT k) b (.int i t)) (unND (putN (toND l) k i)) := by
  obtain ⟨h1, h2⟩ := h.at_ k
  unfold putN storedH
  cases e : valN (toND l) k with
  | none =>
    rw [h1 e]
    show NX Z H (xs ++ [_]) (l ++ [(k, i)])
    exact Paired.snoc h ⟨rfl, ⟨t, rfl⟩, r⟩
  | some j =>
    obtain ⟨a, t', e2⟩ := h2 j e
    rw [e2]
    show NX Z H (xs.map _) (l.map _)
    clear h1 h2 e e2
    induction h with
    | nil => exact .nil
    | @cons x y xs l q _ ih =>
      rw [List.map_cons, List.map_cons]
      refine .cons ?_ ih
      obtain ⟨q1, ⟨t2, q2⟩, q3⟩ := q
      unfold putAt
      by_cases c : y.1 = k
      · rw [if_pos c, if_pos (by rw [q1, c])]
        exact ⟨q1, ⟨t, rfl⟩, q3⟩
      · rw [if_neg c, if_neg (fun z => c (keyT_inj (q1.symm.trans z)))]
        exact ⟨q1, ⟨t2, q2⟩, q3⟩
theorem keys_putN (l : NDic) (k : KeyV) (i : Int) : keysN (putN l k i) = if k ∈ keysN l then keysN l else keysN l ++ [k] := by
  have e : (valN l k).isSome = decide (k ∈ keysN l) := by
    rw [Bool.eq_iff_iff, decide_eq_true_eq]
    unfold valN keysN
    rw [Option.isSome_map, List.find?_isSome, List.mem_map]
    simp only [decide_eq_true_eq]
  unfold putN
  rw [e]
  by_cases c : k ∈ keysN l
  · rw [if_pos (decide_eq_true c), if_pos c]
    show ((unND l).map _).map _ = _
    rw [List.map_map]
    refine List.map_congr_left fun p _ => ?_
    show (if p.1 = k then (p.1, i) else p).1 = p.1
    split <;> rfl
  · rw [if_neg (by rw [decide_eq_false c]; exact Bool.false_ne_true), if_neg c]
    show (unND l ++ [(k, i)]).map _ = _
    rw [List.map_append]
    rfl
theorem keys_putN_nd {l : NDic} {k : KeyV} {i : Int} (h : (keysN l).Nodup) : (keysN (putN l k i)).Nodup := by
  rw [keys_putN]
  split
  · exact h
  · rename_i c
    exact List.nodup_append.mpr ⟨h, by simp, fun a ha b hb => by
      rw [List.mem_singleton.mp hb]
      rintro rfl
      exact c ha⟩
theorem OwnN.type (I : Inv X pins σ H s) {p : Addr} {l : List (KeyV × Int)} {ob : Obj} {es : Array DictEntry} {ep : Nat} (h : OwnN Z H p l ob es ep) : s.TypeIs (.ref p) "dict" ∧ ∀ b, Value.ref p = .ref b → ∃ ob, s.heap.get? b = some ob ∧ ob.dict = none := by
  have g : s.heap.get? p = some ob := (show ObjOk X.prog X.w H s.heap p (exO p ob) from I.hok p _ h.at_).1
  refine ⟨⟨ob, g, h.ex.1⟩, fun b q => ?_⟩
  cases q
  exact ⟨ob, g, h.ex.2.1⟩
def numV (o : Option Int) (d : V) : V := match o with
  | some i => .int i
  | none => d
theorem n_get2 {A : Around} {E : Value → Shared → Prop} {Q : Value → Shared → Prop} {a b : Addr} {l : List (KeyV × Int)} {ob : Obj} {es : Array DictEntry} {ep : Nat} {k : KeyV} {d : V} {r : Value} (hu : A.units + 64 < cLine) (I : Inv X pins σ H s) (h : OwnN Z H a l ob es ep) (rk : Rp Z H (.ref b) (enc k)) (rd : RelV d r)
    (q : ∀ w' s', Inv X pins σ H s' → RelV (numV (valN (toND l) k) d) w' → Q w' s') : wpAny (model X.prog X.w) A (call (.builtin "dict.get") [.ref a, .ref b, r]) Q E s := by
  obtain ⟨xs, nx, dd, _⟩ := h.dict I
  refine call_meetsIn PySem.F.slot_dict_get dd.typeIs PySem.F.entry_dict_get (PySem.F.args_dict_get_3 _ _ _) (meetsH_dict_get_default (nestedKind X.prog X.w) a b h.sys r) ⟨by show A.units + 1 + 8 < cLine; omega, keyT k, xs, nest_of I rk, dd, q _ _ (I.tok _) ?_⟩
  obtain ⟨h1, h2⟩ := nx.at_ k
  cases e : valN (toND l) k with
  | none =>
    rw [h1 e]
    exact rd
  | some i =>
    obtain ⟨a', t, e2⟩ := h2 i e
    rw [e2]
    exact ⟨t, rfl⟩
theorem n_getItem {A : Around} {E : Value → Shared → Prop} {Q : Value → Shared → Prop} {a b : Addr} {l : List (KeyV × Int)} {ob : Obj} {es : Array DictEntry} {ep : Nat} {k : KeyV} {i : Int} (hu : A.units + 64 < cLine) (I : Inv X pins σ H s) (h : OwnN Z H a l ob es ep) (rk : Rp Z H (.ref b) (enc k)) (hv : valN (toND l) k = some i)
    (q : ∀ w' s', Inv X pins σ H s' → RelV (.int i) w' → Q w' s') : wpAny (model X.prog X.w) A (getItem (.ref a) (.ref b)) Q E s := by
  obtain ⟨xs, nx, dd, _⟩ := h.dict I
  obtain ⟨a', t, e2⟩ := (nx.at_ k).2 i hv
  exact wpAny_getItem_heap (knd := nestedKind X.prog X.w) (by show A.units + 1 + 8 < cLine; omega) (nest_of I rk) dd e2 (q _ _ (I.tok _) ⟨t, rfl⟩)
theorem n_setItem {A : Around} {E : Value → Shared → Prop} {Q : Unit → Shared → Prop} {a b : Addr} {l : List (KeyV × Int)} {ob : Obj} {es : Array DictEntry} {ep : Nat} {k : KeyV} {i : Int} {r : Value} (hu : A.units + 64 < cLine) (I : Inv X pins σ H s) (h : OwnN Z H a l ob es ep) (hz : Z a) (hl : l.length < sizeLine) (rk : Rp Z H (.ref b) (enc k)) (rv : RelV (.int i) r)
    (q : ∀ ob' es' ep' s', OwnN Z (upd H a (exO a ob')) a (unND (putN (toND l) k i)) ob' es' ep' → Inv X pins σ (upd H a (exO a ob')) s' → Q () s') : wpAny (model X.prog X.w) A (setItem (.ref a) (.ref b) r) Q E s := by
  obtain ⟨xs, nx, dd, hlen⟩ := h.dict I
  obtain ⟨t, rfl⟩ : ∃ t, r = Value.int i t := rv
  refine wpAny_setItem_heap (knd := nestedKind X.prog X.w) (hsz := by omega) (by show A.units + 1 + 8 < cLine; omega) (nest_of I rk) dd fun h' dd' hs => ?_
  obtain ⟨ob', es', ep', g', ex', dat', e', _, nd'⟩ := dd'
  have ext : Ext Z H Z (upd H a (exO a ob')) := ⟨fun c u z hc => by
    rw [upd_ne (fun k => z (by rw [k]; exact hz))]
    exact hc, fun _ z => .inl z⟩
  have nx' := nx.put (b := b) (i := i) (t := t) rk
  have hnd : (keysN (putN (toND l) k i)).Nodup := keys_putN_nd (l := toND l) h.nd
  refine q ob' es' ep' _ ⟨upd_same, ex', dat', h.sys, ?_, hnd, ?_⟩ (d_write I (by rw [h.at_]; exact True.intro) hs ⟨ob', g'⟩ ⟨g', ⟨ob', g'⟩, fun h1 h2 e k => k _ e⟩)
  · rw [e']
    exact paired_map (fun _ _ r => r.ext ext) (nx'.to_ent X.w X.prog)
  · have := congrArg List.length (keys_putN (toND l) k i)
    unfold keysN at this
    rw [List.length_map] at this
    show (unND (putN (toND l) k i)).length ≤ sizeLine
    rw [this]
    have e2 : (unND (toND l)).length = l.length := rfl
    split
    · rw [List.length_map]
      omega
    · rw [List.length_append, List.length_map, List.length_singleton]
      omega
end
def AtN (H : Hp) (a : Addr) : Prop := ∃ ob, H a = some (exO a ob) ∧ ob.ExactDict
def tNGet2 (td ty tx : TE) : TE := fun σ H Q => td σ H fun x H1 => ∃ a, x = .ref a ∧ AtN H1 a ∧ ty σ H1 fun y H2 => tx σ H2 fun z H3 => ∃ Z l ob es ep b k, OwnN Z H3 a l ob es ep ∧ y = .ref b ∧ Rp Z H3 (.ref b) (enc (k : KeyV)) ∧ Q (numV (valN (toND l) k) z) H3
def tNGet (td ty : TE) : TE := fun σ H Q => td σ H fun x H1 => ty σ H1 fun y H2 => ∃ a Z l ob es ep b k i, x = .ref a ∧ OwnN Z H2 a l ob es ep ∧ y = .ref b ∧ Rp Z H2 (.ref b) (enc (k : KeyV)) ∧ valN (toND l) k = some i ∧ Q (.int i) H2
def sNPut (td ty tv : TE) : TS := fun D σ H => tv σ H fun v H1 => td σ H1 fun x H2 => ty σ H2 fun y H3 => ∃ a Z l ob es ep b k i, x = .ref a ∧ OwnN Z H3 a l ob es ep ∧ Z a ∧ l.length < sizeLine ∧ y = .ref b ∧ Rp Z H3 (.ref b) (enc (k : KeyV)) ∧ v = .int i ∧
  ∀ ob' es' ep', OwnN Z (upd H3 a (exO a ob')) a (unND (putN (toND l) k i)) ob' es' ep' → D.nx σ (upd H3 a (exO a ob'))
def tDNewN : TE := fun _ H Q => ∀ p, H p = none → ∀ ob ep, ob.ExactDict → ob.data = .dict #[] ep → (p == sysModules) = false → Q (.ref p) (upd H p (exO p ob))
section
variable {X : Cx} {o i e f value : Expr} {pos pos' apos cpos : Pos} {td ty tx tv : TE}
theorem pe_nget2 (hu : X.A.units + 64 < cLine) (ho : PE X o td) (he : PE X e ty) (hf : PE X f tx) (m : M2 X o "get" apos e f cpos) : PE X (.Call (.Attribute o "get" apos) [e, f] [] cpos) (tNGet2 td ty tx) := by
  refine ⟨fun pins s σ H Q I h => ?_⟩
  refine wpAny_Call_method m.base m.few m.line PySem.F.plainAttrs_dict PySem.F.slot_dict_get PySem.F.type_dict_get (thn (ho.run pins s σ H _ I h) fun u s1 ⟨x, H1, I1, rx, a, ex, ⟨ob, d1, d2⟩, q1⟩ => ?_)
  subst ex
  obtain rfl : u = Value.ref a := rx
  have g : s1.heap.get? a = some ob := (show ObjOk X.prog X.w H1 s1.heap a (exO a ob) from I1.hok a _ d1).1
  refine ⟨⟨ob, g, d2.1⟩, fun b q => by
    cases q
    exact ⟨ob, g, d2.2.1⟩, ?_⟩
  rw [m.trees]
  refine Calls.callWith_builtin rfl (Calls.evalArgs_plain (Calls.spliced_cons (thn (he.run pins s1 σ H1 _ I1 q1) fun iv s2 ⟨y, H2, I2, ry, q2⟩ =>
    Calls.spliced_cons (thn (hf.run pins s2 σ H2 _ I2 q2) fun fv s3 ⟨z, H3, I3, rz, Z, l, ob, es, ep, b, k, on, ey, rk, q3⟩ => Calls.spliced_nil ?_))))
  subst ey
  obtain rfl : iv = Value.ref b := ry
  exact n_get2 hu I3 on rk rz fun w' s4 I4 rw' => ⟨_, H3, I4, rw', q3⟩
theorem pe_nget (hu : X.A.units + 64 < cLine) (ho : PE X o td) (hi : PE X i ty) (hs : NoSl i) : PE X (.Subscript o i pos) (tNGet td ty) := by
  refine ⟨fun pins s σ H Q I h => ?_⟩
  refine subD_of PySem.F.slot_dict_getitem.lookup hs (thn (ho.run pins s σ H _ I h) fun u s1 ⟨x, H1, I1, rx, q1⟩ => thn (hi.run pins s1 σ H1 _ I1 q1) fun iv s2 ⟨y, H2, I2, ry, a, Z, l, ob, es, ep, b, k, j, ex, on, ey, rk, hv, q2⟩ => ?_)
  subst ex ey
  obtain rfl : u = Value.ref a := rx
  obtain rfl : iv = Value.ref b := ry
  exact ⟨(on.type I2).1, n_getItem hu I2 on rk hv fun w' s3 I3 rw' => ⟨.int j, H2, I3, rw', q2⟩⟩
theorem ps_nput (hu : X.A.units + 64 < cLine) (ho : PE X o td) (hi : PE X i ty) (hv : PE X value tv) (hs : swapsWith value (some (.Subscript o i pos')) pos.line X.env = pure false) :
    PS X (.Assign [.Subscript o i pos'] value pos) (sNPut td ty tv) := by
  refine ⟨fun pins s σ H D I h => ?_⟩
  refine wpAny_Assign_Subscript (thn (hv.run pins s σ H _ I h) fun r s1 ⟨v, H1, I1, rv, q1⟩ => thn (ho.run pins s1 σ H1 _ I1 q1) fun u s2 ⟨x, H2, I2, rx, q2⟩ => thn (hi.run pins s2 σ H2 _ I2 q2) fun iv s3 ⟨y, H3, I3, ry, a, Z, l, ob, es, ep, b, k, j, ex, on, hz, hl, ey, rk, ev, q3⟩ => ?_) hs
  subst ex ey ev
  obtain rfl : u = Value.ref a := rx
  obtain rfl : iv = Value.ref b := ry
  exact n_setItem hu I3 on hz hl rk rv fun ob' es' ep' s4 on' I4 => ⟨σ, _, I4, q3 ob' es' ep' on'⟩
theorem pe_dnewN : PE X (.Dict [] [] pos) tDNewN := ⟨fun pins s σ H Q I h =>
  wpAny_Dict_empty ⟨.ref s.heap.objs.size, _, I.laid (a := s.heap.objs.size) (o := exO s.heap.objs.size { cls := .type "dict", data := .dict #[] }) (t' := s.toks) (fun _ _ q => Heap.get?_push_of_some _ q) (Nat.le_refl _) ⟨Heap.get?_push_size _ rfl, ⟨_, Heap.get?_push_size _ rfl⟩, fun h1 h2 e k => k _ e⟩, rfl,
    h _ (I.hok.fresh (Nat.le_refl _)) _ 0 ⟨rfl, rfl, rfl⟩ rfl (beq_eq_false_iff_ne.mpr (Ne.symm (Nat.ne_of_lt I.big)))⟩⟩
end
end PL

namespace PL
open PySem L2 Enc PyProof.Rows PySem.Spec
section
variable {I S N L R : Type} [Enc R] {Xs : I → Cx} {F : Fm S} {G : List Sl} {pos p p2 : Pos} {e a b c tg : Expr} {x : Str} {sts : List Stmt} {Gn : N → List Sl} {Gl : L → List Sl}
/-- a nested dict that is read -/
def EN (Xs : I → Cx) (F : Fm S) (G : List Sl) (e : Expr) (m : M S NDic) : Prop := ∃ te, (∀ i, PE (Xs i) e te) ∧
  ∀ Zx t H s l s', Gd F Zx G s t H → m s = some (l, s') → ∀ Q : VK, (∀ p H', Gd F Zx G s' t H' → Fix F H H' → (∀ s2 H2, Gd F Zx G s2 t H2 → Fix F H' H2 → ∃ ob es ep, OwnN (ZF F Zx G t) H2 p (unND l) ob es ep) → Q (.ref p) H') → te t H Q
theorem own_ofC {Z : Addr → Prop} {H : Hp} {p : Addr} {l : NDic} (h : OwnC Z H p (enc l)) : ∃ ob es ep, OwnN Z H p (unND l) ob es ep := by
  obtain ⟨l', ob, es, ep, e, h⟩ : ∃ l' ob es ep, List.map (enc : KeyV × Int → PyData) (unND l) = List.map enc l' ∧ OwnN Z H p l' ob es ep := h
  rw [encs_inj e]
  exact ⟨ob, es, ep, h⟩
theorem ownC_of {Z : Addr → Prop} {H : Hp} {p : Addr} {l : NDic} {ob : Obj} {es : Array DictEntry} {ep : Nat} (h : OwnN Z H p (unND l) ob es ep) : OwnC Z H p (enc l) := ⟨unND l, ob, es, ep, rfl, h⟩
theorem en_own {l : NDic} {k : Nat} (h : G[k]? = some (.own (enc l))) (hN : ∀ i, (Xs i).N[k]? = some x := by intro _; rfl)
    (hv : ∀ i, Vis (Xs i).env.scope x := by first | exact fun _ => Or.inl rfl | exact fun _ => Or.inr (Or.inl rfl) | exact fun _ => Or.inr (Or.inr rfl))
    (hd : (x == ("__debug__" : Str)) = false := by decide) (hcd : (x == ("__classdict__" : Str)) = false := by decide) : EN Xs F G (.Name x pos) (pureM l) := by
  refine ⟨tVar k, fun i => pe_var (hN i) (hv i) hd hcd, fun Zx t H s l' s' g hm Q q => ?_⟩
  obtain ⟨rfl, rfl⟩ := pure_eq hm
  obtain ⟨hk, _⟩ := List.getElem?_eq_some_iff.mp h
  have hk' : k < t.length := by
    rw [g.len]
    exact hk
  have ht : t[k]? = some (t[k]'hk') := List.getElem?_eq_getElem hk'
  obtain ⟨pp, ep, _⟩ := g.slot k _ _ h ht
  rw [ep] at ht
  refine ⟨.ref pp, ht, q pp H g (Fix.refl H) fun s2 H2 g2 f2 => ?_⟩
  obtain ⟨pp', ep', r2⟩ := g2.slot k _ _ h ht
  cases ep'
  exact own_ofC r2
def nF (l : NDic) (Z : Addr → Prop) (H : Hp) (v : V) : Prop := ∃ p ob es ep, v = .ref p ∧ ¬ Z p ∧ OwnN Z H p (unND l) ob es ep
theorem nF_ext {l : NDic} : ∀ Z H Z' H' v, Ext Z H Z' H' → nF l Z H v → nF l Z' H' v := fun Z H Z' H' v e ⟨p, ob, es, ep, h1, h2, h3⟩ => ⟨p, ob, es, ep, h1, e.not h2 h3.at_, h3.ext e fun o ho => e.1 _ _ h2 ho⟩
abbrev slN (l : NDic) : Sl := .ext (nF l) nF_ext
theorem Gd.atN {Zx : Addr → Prop} {s : S} {t : L2.St} {H : Hp} {l : NDic} {k : Nat} (g : Gd F Zx G s t H) (h : G[k]? = some (slN l)) : ∃ v, t[k]? = some (some v) ∧ nF l (ZF F Zx G t) H v := by
  obtain ⟨hk, _⟩ := List.getElem?_eq_some_iff.mp h
  have hk' : k < t.length := by
    rw [g.len]
    exact hk
  have ht : t[k]? = some (t[k]'hk') := List.getElem?_eq_getElem hk'
  obtain ⟨v, e, r⟩ := g.slot k _ _ h ht
  exact ⟨v, by rw [ht, e], r⟩
theorem en_ext {l : NDic} {k : Nat} (h : G[k]? = some (slN l)) (hN : ∀ i, (Xs i).N[k]? = some x := by intro _; rfl)
    (hv : ∀ i, Vis (Xs i).env.scope x := by first | exact fun _ => Or.inl rfl | exact fun _ => Or.inr (Or.inl rfl) | exact fun _ => Or.inr (Or.inr rfl))
    (hd : (x == ("__debug__" : Str)) = false := by decide) (hcd : (x == ("__classdict__" : Str)) = false := by decide) : EN Xs F G (.Name x pos) (pureM l) := by
  refine ⟨tVar k, fun i => pe_var (hN i) (hv i) hd hcd, fun Zx t H s l' s' g hm Q q => ?_⟩
  obtain ⟨rfl, rfl⟩ := pure_eq hm
  obtain ⟨v, ht, pp, ob, es, ep, rfl, hz, on⟩ := g.atN h
  refine ⟨_, ht, q pp H g (Fix.refl H) fun s2 H2 g2 f2 => ?_⟩
  obtain ⟨v2, ht2, p2, ob2, es2, ep2, e2, hz2, on2⟩ := g2.atN h
  rw [ht] at ht2
  cases ht2
  cases e2
  exact ⟨ob2, es2, ep2, on2⟩
def ngetM (m : M S NDic) (n : M S KeyV) : M S Int := bindM m fun l => bindM n fun k => ofO (valN l k)
def nget2M (m : M S NDic) (n : M S KeyV) (o : M S Int) : M S Int := bindM m fun l => bindM n fun k => bindM o fun x => pureM ((valN l k).getD x)
theorem ev_nget {m : M S NDic} {n : M S KeyV} {k : Nat} (hr : ∀ i, Room k (Xs i).A) (hd : EN Xs F G a m) (hk : EV Xs F G b n) (hs : NoSl b := by exact fun _ _ => rfl) : EV Xs F G (.Subscript a b pos) (ngetM m n) := by
  obtain ⟨td, hp, hx⟩ := hd
  obtain ⟨ty, hq, hy⟩ := hk
  refine ⟨tNGet td ty, fun i => pe_nget (hr i).units (hp i) (hq i) hs, fun Zx t H s y s' g hm Q q => ?_⟩
  obtain ⟨l, s1, e1, e2⟩ := bind_some hm
  obtain ⟨z, s2, e3, e4⟩ := bind_some e2
  obtain ⟨e5, rfl⟩ := ofO_eq e4
  refine hx Zx t H s l s1 g e1 _ fun pp H1 g1 f1 st => ?_
  refine hy Zx t H1 s1 z s2 g1 e3 _ fun u H2 g2 f2 r2 => ?_
  obtain ⟨ob, es, ep, on⟩ := st s2 H2 g2 f2
  obtain ⟨q2, xs, rfl, _, _, _⟩ := r2.toTup
  exact ⟨pp, _, _, ob, es, ep, q2, z, y, rfl, on, rfl, r2, e5, q _ H2 g2 (f1.trans f2) (.int y)⟩
theorem ev_nget2 {m : M S NDic} {n : M S KeyV} {o : M S Int} {k : Nat} {apos cpos : Pos} (hr : ∀ i, Room k (Xs i).A) (hd : EN Xs F G a m) (hk : EV Xs F G b n) (ho : EV Xs F G c o)
    (hM : ∀ i, M2 (Xs i) a "get" apos b c cpos := by intro _; exact ⟨rfl, rfl, rfl, rfl⟩) : EV Xs F G (.Call (.Attribute a "get" apos) [b, c] [] cpos) (nget2M m n o) := by
  obtain ⟨td, hp, hx⟩ := hd
  obtain ⟨ty, hq, hy⟩ := hk
  obtain ⟨tz, hw, hz⟩ := ho
  refine ⟨tNGet2 td ty tz, fun i => pe_nget2 (hr i).units (hp i) (hq i) (hw i) (hM i), fun Zx t H s y s' g hm Q q => ?_⟩
  obtain ⟨l, s1, e1, e2⟩ := bind_some hm
  obtain ⟨z, s2, e3, e4⟩ := bind_some e2
  obtain ⟨d, s3, e5, e6⟩ := bind_some e4
  obtain ⟨rfl, rfl⟩ := pure_eq e6
  refine hx Zx t H s l s1 g e1 _ fun pp H1 g1 f1 st => ?_
  obtain ⟨ob1, es1, ep1, on1⟩ := st s1 H1 g1 (Fix.refl H1)
  refine ⟨pp, rfl, ⟨ob1, on1.at_, on1.ex⟩, ?_⟩
  refine hy Zx t H1 s1 z s2 g1 e3 _ fun u H2 g2 f2 r2 => ?_
  refine hz Zx t H2 s2 d s3 g2 e5 _ fun v H3 g3 f3 r3 => ?_
  obtain ⟨ob, es, ep, on⟩ := st s3 H3 g3 (f2.trans f3)
  have r2' := r2.fix f3
  obtain ⟨q2, xs, rfl, _, _, _⟩ := r2'.toTup
  obtain rfl := r3.toInt
  refine ⟨_, _, ob, es, ep, q2, z, on, rfl, r2', ?_⟩
  show Q (numV (valN l z) _) H3
  cases e : valN l z with
  | none =>
    rw [e] at q
    exact q _ H3 g3 ((f1.trans f2).trans f3) (.int d)
  | some j =>
    rw [e] at q
    exact q _ H3 g3 ((f1.trans f2).trans f3) (.int j)
theorem eo_nnil : EO Xs F G (.Dict [] [] pos) (pureM (toND [] : NDic)) := by
  refine ⟨tDNewN, fun _ => pe_dnewN, fun Zx t H s y s' g hm Q q pp hn ob ep hx hdt hs => ?_⟩
  obtain ⟨rfl, rfl⟩ := pure_eq hm
  exact q pp _ (g.more hn) (Fix.same (same_new hn)) hn (ownC_of (l := toND []) ⟨upd_same, hx, hdt, hs, .nil, List.nodup_nil, Nat.zero_le _⟩)
/-- d[k] = e, d in slot j -/
theorem ss_nput {Gq : L → List Sl} {l : NDic} {m : M S Int} {n : M S KeyV} {j k : Nat} {pos' px : Pos} (hj : G[j]? = some (.own (enc l))) (hr : ∀ i, Room k (Xs i).A) (hv : EV Xs F G e m) (hk : EV Xs F G b n) (hN : ∀ i, (Xs i).N[j]? = some x := by intro _; rfl)
    (hvs : ∀ i, Vis (Xs i).env.scope x := by first | exact fun _ => Or.inl rfl | exact fun _ => Or.inr (Or.inl rfl) | exact fun _ => Or.inr (Or.inr rfl)) (hd : (x == ("__debug__" : Str)) = false := by decide) (hcd : (x == ("__classdict__" : Str)) = false := by decide)
    (hs : ∀ i, swapsWith e (some (.Subscript (.Name x px) b pos')) pos.line (Xs i).env = pure false := by intro _; rfl) :
    SS (R := R) (L := L) Xs F G (.Assign [.Subscript (.Name x px) b pos'] e pos) (bindM m fun y => bindM n fun k => guardM (lenOk ((unND l).length + 1)) (pureM (.nx (putN l k y)))) (fun l' : NDic => G.set j (.own (enc l'))) Gq := by
  obtain ⟨te, hp, hx⟩ := hv
  obtain ⟨ty, hq, hy⟩ := hk
  refine ⟨sNPut (tVar j) ty te, fun i => ps_nput (hr i).units (pe_var (hN i) (hvs i) hd hcd) (hq i) (hp i) (hs i), fun Zx t H s r s' g hm D q => ?_⟩
  obtain ⟨y, s1, e1, e2⟩ := bind_some hm
  obtain ⟨z, s2, e3, e4⟩ := bind_some e2
  obtain ⟨hl, e5⟩ := guard_eq e4
  obtain ⟨rfl, rfl⟩ := pure_eq e5
  obtain ⟨hkl, _⟩ := List.getElem?_eq_some_iff.mp hj
  have hk' : j < t.length := by
    rw [g.len]
    exact hkl
  have ht : t[j]? = some (t[j]'hk') := List.getElem?_eq_getElem hk'
  obtain ⟨pp, ep, _⟩ := g.slot j _ _ hj ht
  rw [ep] at ht
  refine hx Zx t H s y s1 g e1 _ fun v H1 g1 f1 r1 => ?_
  obtain rfl := r1.toInt
  refine ⟨.ref pp, ht, ?_⟩
  refine hy Zx t H1 s1 z s2 g1 e3 _ fun u H2 g2 f2 r2 => ?_
  obtain ⟨pp', ep', oc⟩ := g2.slot j _ _ hj ht
  cases ep'
  obtain ⟨ob, es, ep2, on⟩ := own_ofC oc
  obtain ⟨q2, xs, rfl, _, _, _⟩ := r2.toTup
  have hown : Own G t pp := ⟨j, _, hj, ht⟩
  refine ⟨pp, _, _, ob, es, ep2, q2, z, y, rfl, on, .inr (.inr hown), Nat.lt_of_lt_of_le (Nat.lt_succ_self _) (lenOk_line hl), rfl, r2, rfl, fun ob' es' ep' on' => ?_⟩
  obtain ⟨g3, own3⟩ := g2.putOwn (o := exO pp ob') (d' := enc (putN l z y)) hj ht (ownC_of (l := putN l z y) on')
  refine q t _ g3 ⟨fun b o z w h => ?_, fun b z => .inl ((own3 b).mp z)⟩
  rw [upd_ne (fun k => w (by rw [k]; exact hown))]
  exact f2 b o z (f1 b o z h)
/-- the dict of slot k is no longer changed -/
theorem set_own_less {k : Nat} {y : Sl} {t : L2.St} (hy : ∀ d, y ≠ .own d) {b : Addr} (h : Own (G.set k y) t b) : Own G t b := by
  obtain ⟨i, d, h1, h2⟩ := h
  by_cases hi : k = i
  · subst hi
    rw [List.getElem?_set, if_pos rfl] at h1
    split at h1
    · injection h1 with h1
      exact absurd h1 (hy d)
    · cases h1
  · rw [List.getElem?_set_ne hi] at h1
    exact ⟨i, d, h1, h2⟩
theorem slN_ne (l : NDic) (d : PyData) : slN l ≠ .own d := fun z => Sl.noConfusion z
theorem Gd.nfz {Zx : Addr → Prop} {s : S} {t : L2.St} {H : Hp} {k : Nat} {l : NDic} (g : Gd F Zx G s t H) (hk : G[k]? = some (.own (enc l))) : Gd F Zx (G.set k (slN l)) s t H := by
  have less : ∀ b, Own (G.set k (slN l)) t b → Own G t b := fun b h => set_own_less (slN_ne l) h
  have ex : Ext (ZF F Zx G t) H (ZF F Zx (G.set k (slN l)) t) H := Ext.less fun b z => z.imp id (Or.imp id (less b))
  have up : ∀ {i : Nat} {d : PyData}, (G.set k (slN l))[i]? = some (.own d) → k ≠ i ∧ G[i]? = some (.own d) := fun {i d} q => by
    by_cases hi : k = i
    · subst hi
      rw [List.getElem?_set, if_pos rfl] at q
      split at q
      · cases q
      · cases q
    · rw [List.getElem?_set_ne hi] at q
      exact ⟨hi, q⟩
  refine ⟨by rw [List.length_set]; exact g.len, g.at_, g.trk, fun i z o h1 h2 => ?_, fun i j d e p h1 h2 h3 h4 => g.inj i j d e p (up h1).2 (up h2).2 h3 h4, fun p z => g.sep p (less p z)⟩
  by_cases hi : k = i
  · subst hi
    rw [List.getElem?_set, if_pos rfl, if_pos (List.getElem?_eq_some_iff.mp hk).1] at h1
    injection h1 with h1
    subst h1
    obtain ⟨p, e, r⟩ := g.slot k _ o hk h2
    subst e
    obtain ⟨ob, es, ep, on⟩ := own_ofC r
    refine ⟨.ref p, rfl, p, ob, es, ep, rfl, fun z => ?_, on.ext ex fun _ h => h⟩
    rcases z with z | z | ⟨j, d', z1, z2⟩
    · exact (g.sep p ⟨k, _, hk, h2⟩).1 z
    · exact (g.sep p ⟨k, _, hk, h2⟩).2 z
    · obtain ⟨n, z3⟩ := up z1
      exact n (g.inj k j _ _ p hk z3 h2 z2)
  · rw [List.getElem?_set_ne hi] at h1
    have q := g.slot i z o h1 h2
    cases z with
    | un => trivial
    | raw v => exact q
    | dat d =>
      obtain ⟨v, e, r⟩ := q
      exact ⟨v, e, r.ext ex⟩
    | ext fu hst =>
      obtain ⟨v, e, r⟩ := q
      exact ⟨v, e, hst _ _ _ _ _ ex r⟩
    | own d =>
      obtain ⟨p, e, r⟩ := q
      subst e
      exact ⟨p, rfl, OwnC.ext ex (fun o ho => ho) r⟩
theorem sv_nfz {k : Nat} {l : NDic} {m : M S (Fl N L R)} (hk : G[k]? = some (.own (enc l))) (h : SV Xs F (G.set k (slN l)) sts m Gn Gl) : SV Xs F G sts m Gn Gl := by
  obtain ⟨ts, hp, ho⟩ := h
  exact ⟨ts, hp, fun Zx t H s r s' g hm D q => ho Zx t H s r s' (g.nfz hk) hm D (q.from ⟨fun b o _ _ h => h, fun b z => .inl (set_own_less (slN_ne l) z)⟩)⟩
end
def Itn (d : Addr) (o : Obj) (es : Array DictEntry) : It := ⟨fun i H => H d = some (exO d o) ∧ i < es.size, fun i H v H' => H' = H ∧ ∃ e a, es[i]? = some e ∧ e.key = .ref a ∧ v = .ref a, fun i H => H d = some (exO d o) ∧ es.size ≤ i⟩
def iNKeys (td : TE) : TI := fun σ H R => td σ H fun x H1 => ∃ d o es ep, x = .ref d ∧ H1 d = some (exO d o) ∧ o.ExactDict ∧ o.data = .dict es ep ∧ (d == sysModules) = false ∧ (∀ (i : Nat) (e : DictEntry), es[i]? = some e → ∃ a, e.key = Value.ref a) ∧ R (Itn d o es) H1
section
variable {P : Program} {w : World} {K : PySem.W.Frag} {tg : Expr} {d : Addr} {o : Obj} {es : Array DictEntry} {ep : Nat}
theorem turn_nkeys (it : Addr) (hx : o.ExactDict) (hod : o.data = .dict es ep) (hk : ∀ (i : Nat) (e : DictEntry), es[i]? = some e → ∃ a, e.key = Value.ref a) : Turn P w K tg (Itn d o es) [it] it (fun i h => h.IsKeyIter it d i es.size ep) where
  mem := by simp
  obj := fun i h st b hb => by
    have e : b = it := by simpa using hb
    subst e
    obtain ⟨oi, e, c, dd⟩ := st
    exact ⟨oi, e, fun v z => by rw [dd] at z; cases z⟩
  keep := fun i h h' st k => st.at fun oi e => k it (by simp) oi e
  item := by
    intro X hP hw hK hc i pins s σ H E I hf st hg
    subst hP hw hK
    obtain ⟨hd, hi⟩ := hg
    obtain ⟨f0, f1, f2, f3, f4, f5⟩ := hf it (by simp)
    have hgd : s.heap.get? d = some o := (show ObjOk X.prog X.w H s.heap d (exO d o) from I.hok d _ hd).1
    have hen : es[i]? = some es[i] := Array.getElem?_eq_getElem hi
    obtain ⟨q, hq⟩ := hk i _ hen
    refine next_key_item st hgd hod rfl hen fun h' st' sb => ?_
    have I1 : Inv X pins σ H { s with heap := h' } := I.turned (t' := s.toks) (fun b ob hb e => (sb.2 b hb).trans e) f0 f1 f3 f4 f5
    obtain ⟨oi, e, c, dd⟩ := id st'
    exact ⟨es[i].key, rfl, go_of (s := { s with heap := h' }) e c dd (by decide) ⟨.ref q, H, I1, hq, ⟨rfl, es[i], q, hen, hq, rfl⟩, st', fun b hb => (hf b hb).1⟩⟩
  done := by
    intro X hP hw hK hc i pins s σ H E I hf st hg
    subst hP hw hK
    obtain ⟨hd, hi⟩ := hg
    obtain ⟨f0, f1, f2, f3, f4, f5⟩ := hf it (by simp)
    have hgd : s.heap.get? d = some o := (show ObjOk X.prog X.w H s.heap d (exO d o) from I.hok d _ hd).1
    exact next_key_end (I.ok.hd hc) st hgd hod rfl hi fun h' eb => ⟨rfl, I.turned (t' := s.toks) (fun b ob hb e => eb b ob hb e) f0 f1 f3 f4 f5⟩
  self := fun A i s Q E st h => wpAny_pyIter_keyiter st h
end
theorem pi_nkeys {X : Cx} {tg e : Expr} {td : TE} (he : PE X e td) : PI X tg e (iNKeys td) := by
  refine ⟨fun pins s σ H R I h => ?_⟩
  refine thn (he.run pins s σ H _ I h) fun u s1 ⟨x, H1, I1, rx, d, o, es, ep, ex, hd, hx, hdt, hs, hk, q⟩ => ?_
  subst ex
  obtain rfl : u = Value.ref d := rx
  have hgd : s1.heap.get? d = some o := (show ObjOk X.prog X.w H1 s1.heap d (exO d o) from I1.hok d _ hd).1
  exact iter_keys hs hgd hx hdt (pi_one (tk := s1.toks) I1 _ (turn_nkeys _ hx hdt hk) ⟨_, Heap.get?_push_size _ rfl, rfl, rfl⟩ q)
section
variable {I S : Type} {Xs : I → Cx} {F : Fm S} {G : List Sl} {pos : Pos} {tg : Expr} {x : Str}
theorem ents_at {Z : Addr → Prop} {H : Hp} {es : List DictEntry} {l : List (KeyV × Int)} (h : PySem.Paired (NEnt Z H) es l) : ∀ (i : Nat) (e : DictEntry), es[i]? = some e → ∃ y, l[i]? = some y ∧ NEnt Z H e y := by
  induction h with
  | nil => intro i e q; simp at q
  | @cons e y _ _ r _ ih =>
    intro i e' q
    cases i with
    | zero =>
      simp at q
      subst q
      exact ⟨y, rfl, r⟩
    | succ i =>
      obtain ⟨z, h1, h2⟩ := ih i e' (by simpa using q)
      exact ⟨z, by simpa using h1, h2⟩
theorem iv_nkeys {l : NDic} {k : Nat} (h : G[k]? = some (slN l)) (hN : ∀ i, (Xs i).N[k]? = some x := by intro _; rfl)
    (hv : ∀ i, Vis (Xs i).env.scope x := by first | exact fun _ => Or.inl rfl | exact fun _ => Or.inr (Or.inl rfl) | exact fun _ => Or.inr (Or.inr rfl))
    (hd : (x == ("__debug__" : Str)) = false := by decide) (hcd : (x == ("__classdict__" : Str)) = false := by decide) : IV Xs F G tg (.Name x pos) (pureM (keysN l)) := by
  refine ⟨iNKeys (tVar k), fun i => pi_nkeys (pe_var (hN i) (hv i) hd hcd), fun Zx t H s l' s' g hm R q => ?_⟩
  obtain ⟨rfl, rfl⟩ := pure_eq hm
  obtain ⟨v, ht, d, ob, es, ep, rfl, hz, on⟩ := g.atN h
  have sz : es.size = (unND l).length := by
    rw [← Array.length_toList]
    exact Paired.length on.ent
  have kl : (keysN l).length = (unND l).length := List.length_map _
  refine ⟨_, ht, d, ob, es, ep, rfl, on.at_, on.ex, on.dat, on.sys, fun i e he => ?_, q _ H g (Fix.refl H) fun Z' H2 ex tr => ⟨fun i y hy => ?_, fun i hi => ?_⟩⟩
  · obtain ⟨y, _, a, _, h1, _⟩ := ents_at on.ent i e (by simpa using he)
    exact ⟨a, h1⟩
  · have h2 := ex.1 _ _ hz on.at_
    have hi := (List.getElem?_eq_some_iff.mp hy).1
    refine ⟨⟨h2, by omega⟩, fun v H' ⟨e1, en, a, e2, e3, e4⟩ => ?_⟩
    subst e1 e4
    obtain ⟨z, hz2, a', t', k1, _, _, k4⟩ := ents_at on.ent i en (by simpa using e2)
    rw [e3] at k1
    cases k1
    have : (keysN l)[i]? = some z.1 := by
      unfold keysN
      rw [List.getElem?_map, hz2]
      rfl
    rw [this] at hy
    cases hy
    exact ⟨Same.refl _, .of (k4.ext ex)⟩
  · exact ⟨ex.1 _ _ hz on.at_, by omega⟩
end
def putNS {S L R : Type} (l : NDic) (m : M S Int) (n : M S KeyV) : M S (Fl NDic L R) := bindM m fun y => bindM n fun k => guardM (lenOk ((unND l).length + 1)) (pureM (.nx (putN l k y)))
theorem nf12 : (∀ {S : Type} (m : M S NDic) (n : M S KeyV), ngetM m n = bindM m fun l => bindM n fun k => ofO (valN l k)) ∧
    (∀ {S : Type} (m : M S NDic) (n : M S KeyV) (o : M S Int), nget2M m n o = bindM m fun l => bindM n fun k => bindM o fun x => pureM ((valN l k).getD x)) ∧
    (∀ {S L R : Type} (l : NDic) (m : M S Int) (n : M S KeyV), (putNS l m n : M S (Fl NDic L R)) = bindM m fun y => bindM n fun k => guardM (lenOk ((unND l).length + 1)) (pureM (.nx (putN l k y)))) := ⟨fun _ _ => rfl, fun _ _ _ => rfl, fun _ _ _ => rfl⟩
end PL

namespace PL
open PySem L2 Enc
mutual
/-- data without a dict -/
def noDict : PyData → Bool
  | .list l => noDicts l
  | .tuple l => noDicts l
  | .dict _ => false
  | .none => true
  | .bool _ => true
  | .int _ => true
  | .str _ => true
def noDicts : List PyData → Bool
  | [] => true
  | d :: l => noDict d && noDicts l
end
class NDc (A : Type) [Enc A] : Prop where
  nd : ∀ x : A, noDict (enc x) = true
theorem noDicts_map {A : Type} [Enc A] [NDc A] : ∀ l : List A, noDicts (l.map enc) = true
  | [] => by simp [noDicts]
  | x :: l => by
    rw [List.map_cons, noDicts, NDc.nd x, noDicts_map l]
    rfl
instance : NDc Int := ⟨fun _ => by show noDict (.int _) = true; simp [noDict]⟩
instance : NDc Bool := ⟨fun _ => by show noDict (.bool _) = true; simp [noDict]⟩
instance : NDc Str := ⟨fun _ => by show noDict (.str _) = true; simp [noDict]⟩
instance {A : Type} [Enc A] [NDc A] : NDc (List A) := ⟨fun l => by show noDict (.list (l.map enc)) = true; rw [noDict, noDicts_map]⟩
instance {A : Type} [Enc A] [NDc A] : NDc (Tup A) := ⟨fun l => by show noDict (.tuple ((unTup l).map enc)) = true; rw [noDict, noDicts_map]⟩
instance {A B : Type} [Enc A] [Enc B] [NDc A] [NDc B] : NDc (A × B) := ⟨fun x => by show noDict (.tuple [enc x.1, enc x.2]) = true; rw [noDict, noDicts, noDicts, noDicts, NDc.nd, NDc.nd]; rfl⟩
section
variable {Z Z2 : Addr → Prop} {H : Hp} {p : Addr} {kv0 : List (Key × V)}
mutual
theorem Rp.add (hz : ∀ b, Z2 b → Z b ∨ b = p) (hp : H p = some (.dK kv0)) : ∀ {v : V} {d : PyData}, noDict d = true → Rp Z H v d → Rp Z2 H v d
  | _, _, _, .non => .non
  | _, _, _, .bl b => .bl b
  | _, _, _, .int i => .int i
  | _, _, _, .str x => .str x
  | _, .list ds, n, .lst n1 h r => .lst (fun z => (hz _ z).elim n1 fun e => by rw [e, hp] at h; cases h) h (RpL.add hz hp (by rw [noDict] at n; exact n) r)
  | _, .tuple ds, n, .tup n1 h r => .tup (fun z => (hz _ z).elim n1 fun e => by obtain ⟨o, h, _⟩ := h; rw [e, hp] at h; cases h) h (RpL.add hz hp (by rw [noDict] at n; exact n) r)
  | _, .dict ds, n, .dic _ _ _ => by rw [noDict] at n; cases n
theorem RpL.add (hz : ∀ b, Z2 b → Z b ∨ b = p) (hp : H p = some (.dK kv0)) : ∀ {v : List V} {d : List PyData}, noDicts d = true → RpL Z H v d → RpL Z2 H v d
  | _, _, _, .nil => .nil
  | _, _, n, .cons h t => by
    rw [noDicts, Bool.and_eq_true] at n
    exact .cons (Rp.add hz hp n.1 h) (RpL.add hz hp n.2 t)
end
end
section
variable {I S A B N L R : Type} [Enc A] [Enc B] [Enc R] {Xs : I → Cx} {F : Fm S} {G : List Sl} {e : Expr} {k : Nat} {st : Stmt}
theorem subG_set {d : PyData} (hd : notTup d = true) : ∀ {G : List Sl} {k : Nat}, G[k]? = some (.own d) → SubG G (G.set k (.dat d))
  | [], _, h => by simp at h
  | x :: G, 0, h => by
    simp at h
    subst h
    exact .frz (SubG.refl G) hd
  | x :: G, k + 1, h => .same (subG_set hd (k := k) (by simpa using h))
/-- an expression that reads a dict of one's own as data -/
theorem ev_lend {l : Dic A} {m : M S B} [NDc B] (hk : G[k]? = some (.own (enc l))) (h : EV Xs F (G.set k (.dat (enc l))) e m) : EV Xs F G e m := by
  obtain ⟨te, hp, ho⟩ := h
  refine ⟨te, hp, fun Zx t H s y s' g hm Q q => ?_⟩
  have g1 := g.sub (subG_set (d := enc l) rfl hk)
  refine ho Zx t H s y s' g1 hm _ fun v H1 g2 f1 r1 => q v H1 (g.fix f1 g2.at_) f1 ?_
  have hk' : k < t.length := by
    rw [g.len]
    exact (List.getElem?_eq_some_iff.mp hk).1
  have ht : t[k]? = some (t[k]'hk') := List.getElem?_eq_getElem hk'
  obtain ⟨p, ep, kvs, hkv, _⟩ := g.slot k _ _ hk ht
  rw [ep] at ht
  have hp1 : H1 p = some (.dK kvs) := f1 p _ (g.sep p ⟨k, _, hk, ht⟩).1 hkv
  refine Rp.add (p := p) (fun b z => ?_) hp1 (NDc.nd y) r1
  rcases z with z | z | ⟨i, d, h1, h2⟩
  · exact .inl (.inl z)
  · exact .inl (.inr (.inl z))
  · by_cases hi : k = i
    · subst hi
      rw [ht] at h2
      cases h2
      exact .inr rfl
    · exact .inl (.inr (.inr ⟨i, d, by rw [List.getElem?_set_ne hi]; exact h1, h2⟩))
theorem dat_ne (x : PyData) (d : PyData) : Sl.dat x ≠ .own d := fun z => Sl.noConfusion z
theorem slLck_ne (l : Dic A) (d : PyData) : slLck l ≠ .own d := fun z => Sl.noConfusion z
/-- a statement in which the dict of slot k is walked -/
theorem ss_lock {l : Dic A} {m : M S (Fl N L R)} {Gn' : N → List Sl} {Gl Gl' : L → List Sl} (hk : G[k]? = some (.dat (enc l))) (hno : noExt G = true) (hn : ∀ y, (Gn' y)[k]? = some (slLck l)) (hne : ∀ y, noExt ((Gn' y).set k .un) = true)
    (hnb : ∀ s r s', m s = some (r, s') → (∃ y, r = .nx y) ∨ ∃ v, r = .rt v) (h : SS Xs F (G.set k (slLck l)) st m Gn' Gl') : SS Xs F G st m (fun y => (Gn' y).set k (.dat (enc l))) Gl := by
  obtain ⟨ts, hp, ho⟩ := h
  have hkl := (List.getElem?_eq_some_iff.mp hk).1
  refine ⟨fun D t H => tLock ts D t H ∨ ts D t H, fun i => ⟨fun pins s t H D J hw => ?_⟩, fun Zx t H s r s' g hm D q => ?_⟩
  · rcases hw with hw | hw
    · exact (ps_lock (hp i)).run pins s t H D J hw
    · exact (hp i).run pins s t H D J hw
  have hk' : k < t.length := by
    rw [g.len]
    exact hkl
  have ht : t[k]? = some (t[k]'hk') := List.getElem?_eq_getElem hk'
  obtain ⟨v, ev, rv⟩ := g.slot k _ _ hk ht
  rw [ev] at ht
  obtain ⟨d, kvs, rfl, hz, hd, rk⟩ := rv.toDic
  have nF : ¬ F.Z d := fun z => hz (.inl z)
  have nX : ¬ Zx d := fun z => hz (.inr (.inl z))
  have nO : ¬ Own G t d := fun z => hz (.inr (.inr z))
  have ow1 : ∀ b, Own (G.set k (slLck l)) t b ↔ Own G t b := fun b => set_own hk (fun _ z => nomatch z) (slLck_ne l) b
  have ow2 : ∀ y (t' : L2.St) b, Own ((Gn' y).set k (.dat (enc l))) t' b ↔ Own (Gn' y) t' b := fun y t' b => set_own (hn y) (slLck_ne l) (dat_ne _) b
  rcases hd with hd | ⟨od, hd⟩
  · refine .inl ⟨d, .dK kvs, hd, trivial, fun od => ho Zx t _ s r s' (g.lock hno hk hz hd ht rk) hm _ ?_⟩
    rcases hnb s r s' hm with ⟨y, rfl⟩ | ⟨v, rfl⟩
    · intro t' H' g' st'
      have h2 : H' d = some (.frz od (.dK kvs)) := st'.1 d _ nF (fun z => nO ((ow1 d).mp z)) upd_same
      have hz' : ¬ ZF F Zx (Gn' y) t' d := by
        rintro (z | z | z)
        · exact nF z
        · exact nX z
        · rcases st'.2 d z with w | w
          · exact nO ((ow1 d).mp w)
          · rw [upd_same] at w
            cases w
      refine ⟨h2, q t' _ (g'.unlock (hne y) (hn y) hz' h2) ⟨fun c o z w hc => ?_, fun c z => ?_⟩⟩
      · by_cases e : c = d
        · rw [e] at hc ⊢
          rw [hd] at hc
          cases hc
          exact upd_same
        · rw [upd_ne e]
          exact st'.1 c o z (fun x => w ((ow1 c).mp x)) (by rw [upd_ne e]; exact hc)
      · rcases st'.2 c ((ow2 y t' c).mp z) with w | w
        · exact .inl ((ow1 c).mp w)
        · by_cases e : c = d
          · rw [e, upd_same] at w
            cases w
          · rw [upd_ne e] at w
            exact .inr w
    · intro v' H' at' k' r'
      have h2 : H' d = some (.frz od (.dK kvs)) := k' d _ nF (fun z => nO ((ow1 d).mp z)) upd_same
      refine ⟨h2, q v' _ (F.loc _ _ _ (fun b z => upd_ne fun e => nF (by rw [← e]; exact z)) at') (fun c o z w hc => ?_) (r'.unlock h2)⟩
      by_cases e : c = d
      · rw [e] at hc ⊢
        rw [hd] at hc
        cases hc
        exact upd_same
      · rw [upd_ne e]
        exact k' c o z (fun x => w ((ow1 c).mp x)) (by rw [upd_ne e]; exact hc)
  · refine .inr (ho Zx t H s r s' (g.toLck hk hz hd ht rk) hm _ ?_)
    rcases hnb s r s' hm with ⟨y, rfl⟩ | ⟨v, rfl⟩
    · intro t' H' g' st'
      exact q t' H' (g'.unLck (hn y)) ⟨fun c o z w hc => st'.1 c o z (fun x => w ((ow1 c).mp x)) hc, fun c z => (st'.2 c ((ow2 y t' c).mp z)).imp (ow1 c).mp id⟩
    · intro v' H' at' k' r'
      exact q v' H' at' (fun c o z w hc => k' c o z (fun x => w ((ow1 c).mp x)) hc) r'
theorem for_nb {B : Type} {ml : M S (List B)} {f : N → B → M S (Fl N N R)} {y0 : N} : ∀ s r s', (bindM ml fun l => liftM (loopM f l y0) : M S (Fl N L R)) s = some (r, s') → (∃ y, r = .nx y) ∨ ∃ v, r = .rt v := fun s r s' h => by
  obtain ⟨l, s1, h1, h2⟩ := bind_some h
  obtain ⟨r0, s2, h3, h4⟩ := bind_some h2
  cases r0 with
  | nx y =>
    obtain ⟨rfl, rfl⟩ := pure_eq h4
    exact .inl ⟨y, rfl⟩
  | rt v =>
    obtain ⟨rfl, rfl⟩ := pure_eq h4
    exact .inr ⟨v, rfl⟩
  | bk y => exact y.elim
  | ct y => exact y.elim
end
section
variable {I S : Type} {Xs : I → Cx} {F : Fm S} {G : List Sl} {pos p : Pos} {a b : Expr} {K : PySem.W.Frag} {m : M S Int} {n : M S (Tup Int)}
/-- x in a tuple of ints -/
def inTM (m : M S Int) (n : M S (Tup Int)) : M S Bool := bin2 (fun x l => some (decide (x ∈ unTup l))) m n
theorem rv_inT : RV2 (rIn K false) (fun (x : Int) (l : Tup Int) => some (decide (x ∈ unTup l))) := fun F Zx G s t H x y vx vy z gd rx ry e Q q => by
  cases e
  obtain rfl := rx.toInt
  obtain ⟨pp, xs, rfl, n, h, r⟩ := ry.toTup
  obtain rfl := rp_ints r
  refine ⟨pp, _, rfl, .inr h.sq, rfl, flat_ints (unTup y), ?_⟩
  rw [inV_int]
  exact q _ H (Same.refl H) (.bl _)
theorem ev_inT (ha : EV Xs F G a m) (hb : EV Xs F G b n) (hm : behindInMarks .In b = false := by rfl) (hK : ∀ i, (Xs i).K = K := by intro _; rfl) : EV Xs F G (.Compare a [.In] [b] pos) (inTM m n) := ev_cmp (r := rIn K false) (fun i => by rw [← hK i]; exact op_in_seq) rv_inT ha hb hm
theorem et_inT (ha : EV Xs F G a m) (hb : EV Xs F G b n) (hm : behindInMarks .In b = false := by rfl) (hK : ∀ i, (Xs i).K = K := by intro _; rfl) : ET Xs F G (.Compare a [.In] [b] pos) (inTM m n) := et_cmp (r := rIn K false) (fun i => by rw [← hK i]; exact op_in_seq) rv_inT ha hb hm
end
theorem nf13 : (∀ {S : Type} (m : M S Int) (n : M S (Tup Int)), inTM m n = bindM m fun x => bindM n fun l => pureM (decide (x ∈ unTup l))) := fun _ _ => rfl
end PL

namespace PySem.W
open PySem PySem.Calls PyProof.Rows PyProof.V PySem.Spec
section
variable {prog : Program} {w : World} {A : Around} {E : Value → Shared → Prop} {s : Shared}
theorem collectT {l : Addr} {vs : List Value} {Q : List Value → Shared → Prop} (hl : s.heap.IsTuple l vs.toArray)
    (h : Q vs { s with heap := (s.heap.push (seqObj "list" #[] 0)).update s.heap.objs.size (Obj.mapSeq (· ++ vs.toArray)) }) (hsz : vs.length ≤ sizeLine) :
    wpAny (model prog w) A (collect (.ref l)) Q E s := by
  obtain ⟨o, ho, hc, n, hd⟩ := id hl
  unfold collect
  refine wpAny_bind (wpAny_runValue (codeAny_builtin entry_proto_collect' ?_))
  show wpAny _ _ (do again (.builtin "list.__iadd__" ⟨[← newList [], .ref l], []⟩)) _ _ s
  refine wpAny_bind (wpAny_newList (wpAny_pure ⟨Code.quiet_builtin _ (by decide +kernel), codeAny_builtin entry_list_iadd' ?_⟩))
  show wpAny _ _ (Builtin.List.listExtendWith (.ref s.heap.objs.size) (.ref l) (.ref s.heap.objs.size)) _ _ { s with heap := s.heap.push (seqObj "list" #[] 0) }
  unfold Builtin.List.listExtendWith
  have ho' : (s.heap.push (seqObj "list" #[] 0)).get? l = some o := Heap.get?_push_of_some _ ho
  refine wpAny_bind (wpAny_typeOf (T := "tuple") ⟨o, ho', hc⟩ ?_)
  have ht : (Value.type "tuple" == Value.type "tuple") = true := by rfl
  rw [if_pos (by rw [ht]; simp)]
  refine wpAny_bind (listItems_at ho' hd ?_)
  refine wpAny_bind (listItems_at (xs := #[]) (n := 0) (Heap.get?_push_size _ rfl) rfl ?_)
  rw [if_neg (by simp)]
  refine wpAny_bind (listUpdate_at (xs := #[]) (n := 0) (Heap.get?_push_size _ rfl) rfl ?_ (Nat.zero_le _) (by show (#[] ++ vs.toArray).size ≤ sizeLine + 1; simp only [Array.size_append, List.size_toArray, List.length_nil]; omega))
  refine wpAny_pure ?_
  show wpAny (model prog w) A (do
      let o ← load s.heap.objs.size
      match o.data with
      | .seq xs _ => pure xs.toList
      | _ => unsupported "internal:collect") Q E { s with heap := (s.heap.push (seqObj "list" #[] 0)).update s.heap.objs.size (Obj.mapSeq (· ++ vs.toArray)) }
  refine wpAny_bind (wpAny_load (get?_update_seq (Heap.get?_push_size _ rfl) _) ?_)
  show wpAny _ _ (pure ((#[] : Array Value) ++ vs.toArray).toList) Q E _
  rw [show ((#[] : Array Value) ++ vs.toArray).toList = vs by simp]
  exact wpAny_pure h
theorem sortedT_of_sort {l : Addr} {vs : List Value} {kw : List (Str × Value)} {Q : Value → Shared → Prop} (hl : s.heap.IsTuple l vs.toArray) (hL : vs.length ≤ sizeLine) (ha1 : argsOk "sorted" ⟨[.ref l], kw⟩) (ha2 : ∀ x, argsOk "list.sort" ⟨[.ref x], kw⟩)
    (body : ∀ E' : Value → Shared → Prop, wpAny (model prog w) A.in1.in1 (Builtin.«list.sort» ⟨[.ref (s.heap.objs.size + 1)], kw⟩) (fun f s' => f = .done (.ret .none) ∧ Q (.ref (s.heap.objs.size + 1)) s') E' { s with heap := copyHeap s.heap vs }) :
    wpAny (model prog w) A (call (.builtin "sorted") [.ref l] kw) Q E s := by
  refine call_function_entry_kw kind_sorted plain_sorted entry_sorted ha1 ?_
  unfold Builtin.«sorted»
  refine wpAny_bind (m := checkCount "sorted" 1 1 _) (wpAny_pure ?_)
  refine wpAny_bind (collectT hl ?_ hL)
  refine wpAny_bind (wpAny_newList ?_ hL)
  have hsz : ((s.heap.push (seqObj "list" #[] 0)).update s.heap.objs.size (Obj.mapSeq (· ++ vs.toArray))).objs.size = s.heap.objs.size + 1 := by
    rw [Heap.size_update, size_push']
  show wpAny _ _ _ _ _ { s with heap := copyHeap s.heap vs }
  rw [hsz]
  refine wpAny_bind (wpAny_holding (wpAny_call_entry_kw slot_list_sort ⟨_, copyHeap_at s.heap vs, rfl⟩ entry_list_sort ?body (ha2 _)))
  case body =>
    show wpAny (model prog w) A.in1.in1 (Builtin.«list.sort» ⟨[.ref (s.heap.objs.size + 1)], kw⟩) _ _ _
    refine wpAny_mono (body _) (fun f s' hf => ?_) fun _ _ e => e
    obtain ⟨rfl, hq⟩ := hf
    exact ⟨_, rfl, wpAny_pure ⟨_, rfl, hq⟩⟩
variable {β : Type} {vs : List Value} {bs : List β} {enc : β → PyData} {R : Value → β → Prop}
theorem sortedT_data {l : Addr} {Q : Value → Shared → Prop} (hl : s.heap.IsTuple l vs.toArray) (e : EachIs R vs bs) (er : EachIs (fun v b => ∃ as, Reads s.heap v (enc b) as) vs bs) (hal : AllAlike (bs.map enc)) (hk : Sortable (bs.map enc)) (hL : bs.length ≤ sizeLine)
    (hu : ∀ b, b ∈ bs → A.units + 2 + (enc b).depth < cLine) (h : ∀ out, out.length = bs.length → EachIs R out (bs.mergeSort (dataLe false enc)) → Q (.ref (s.heap.objs.size + 1)) { s with heap := sortedAll s.heap vs (List.toArray out) }) :
    wpAny (model prog w) A (call (.builtin "sorted") [.ref l]) Q E s := by
  have er' : EachIs (fun v b => ∃ as, Reads (sortingHeap (copyHeap s.heap vs) (s.heap.objs.size + 1) vs) v (enc b) as) vs bs := er.mono fun _ _ ⟨as, r⟩ => ⟨as, PyProof.Rows.Reads.keeps (fun _ _ => sorting_copy_old) r⟩
  exact sortedT_of_sort hl (by rw [e.length]; exact hL) (args_sorted1 _) (fun _ => args_list_sort _) fun _ => list_sort_vals (s := { s with heap := copyHeap s.heap vs }) (copyHeap_at s.heap vs) (SortsAt.data (s := { s with heap := sortingHeap (copyHeap s.heap vs) (s.heap.objs.size + 1) vs }) (each_map (R := fun v d => ∃ as, Reads (sortingHeap (copyHeap s.heap vs) (s.heap.objs.size + 1) vs) v d as) enc er') hal hk (bound_map hu)) (by rw [e.length]; exact hL)
    ⟨rfl, h _ (by rw [sortVals_length false rfl]; exact e.length) (sortVals_data false e er' hal)⟩
end
end PySem.W
namespace PL
open PySem L2 Enc PySem.W
section
variable {A : Type} [Enc A]
def rSortTup (A : Type) [Enc A] (K : PySem.W.Frag) : List V → Hp → VK → Prop := fun vs H Q => ∃ (a : Addr) (ps : List (V × A)), vs = [.ref a] ∧ SqT K H a (ps.map (·.1)) ∧ (∀ p ∈ ps, Dp K H p.1 (enc p.2)) ∧ AllAlike (ps.map fun p => enc p.2) ∧ Sortable (ps.map fun p => enc p.2) ∧
  (∀ p ∈ ps, (enc p.2).depth ≤ 60) ∧ ∀ q, H q = none → Q (.ref q) (upd H q (.lst ((ps.mergeSort fun x y => leD x.2 y.2).map (·.1))))
theorem cr_sortTup {X : Cx} {k : Nat} (hr : Room k X.A) : CallR X (.builtin "sorted") (rSortTup A X.K) := by
  intro pins s σ H vs us Q I r h
  obtain ⟨a, ps, rfl, hs, hd, hal, hk, hdep, q⟩ := h
  obtain ⟨u, rfl, ru⟩ := vals1 r
  obtain rfl : u = Value.ref a := ru
  obtain ⟨its, rv, hl, hz⟩ := I.tuple hs
  have hu := hr.units
  refine sortedT_data (bs := ps) (enc := fun p => enc p.2) (R := fun u p => RelV p.1 u) (show s.heap.IsTuple _ _ from hl) (each_of rv fun p _ u ru => ru) (each_of rv fun p hp u ru => Dp.reads I _ _ _ (hd p hp) ru) hal hk (by rw [List.length_map] at hz; exact hz) (fun p hp => by have := hdep p hp; omega) fun out lo eo => ?_
  obtain ⟨ep, he⟩ := PyProof.Rows.sortedAll_at s.heap its out.toArray
  have ln : ((ps.mergeSort fun x y => leD x.2 y.2).map (·.1)).length ≤ sizeLine := by
    rw [List.length_map, (List.mergeSort_perm _ _).length_eq]
    rw [List.length_map] at hz
    exact hz
  have new : ObjOk X.prog X.w (upd H (s.heap.objs.size + 1) (.lst ((ps.mergeSort fun x y => leD x.2 y.2).map (·.1)))) (PyProof.Rows.sortedAll s.heap its out.toArray) (s.heap.objs.size + 1) (.lst ((ps.mergeSort fun x y => leD x.2 y.2).map (·.1))) := ⟨ln, out, ep, vals_of eo, he⟩
  exact ⟨.ref (s.heap.objs.size + 1), _, I.laid (t' := s.toks) (fun _ _ => PyProof.Rows.sortedAll_old) (Nat.le_succ _) new, rfl, q _ (I.hok.fresh (Nat.le_succ _))⟩
end
section
variable {I S A : Type} [Enc A] [LE A] [SO A] {Xs : I → Cx} {F : Fm S} {G : List Sl} {pos p p2 : Pos} {a : Expr} {K : PySem.W.Frag}
def sortTM (m : M S (Tup A)) : M S (List A) := mapM1 (fun l : Tup A => sortD (unTup l)) m
theorem ev_sortedT {m : M S (Tup A)} {k : Nat} (hr : ∀ i, Room k (Xs i).A) (hm : ∀ i, (Xs i).mg "sorted" = none) (h : EV Xs F G a m) (hl : LE.dp A ≤ 60 := by decide) (hg : ∀ i, Gl (Xs i) "sorted" := by intro _; rfl)
    (he : ∀ i, starEach [a] (Xs i).env = (false, eval a (Xs i).env) :: starEach [] (Xs i).env := by intro _; rfl) (hK : ∀ i, (Xs i).K = K := by intro _; rfl) : EV Xs F G (.Call (.Name "sorted" p) [a] [] pos) (sortTM m) := by
  refine EV.eq (ev_b1 (f := fun l : Tup A => some (sortD (unTup l))) (r := rSortTup A K) (fun i => by rw [← hK i]; exact cr_sortTup (hr i)) (fun F Zx G s t H u vs z g r e Q q => ?_) hm bb_sorted h hg (by decide) (by decide) he) rfl
  obtain ⟨v, rfl, rv⟩ := r.one
  obtain ⟨pp, xs, rfl, n, h, l⟩ := rv.toTup
  cases e
  obtain ⟨ps, e1, e2, e3⟩ := pairs_up (l := unTup u.1) l
  subst e1
  refine ⟨pp, ps, rfl, h.sq, fun p hp => (e3 p hp).dp (LE.lay _).1, AllAlike.of fun b b' => AL.al _ _, ?_, fun p hp => Nat.le_trans (LE.lay _).2 hl, fun pn hn => ?_⟩
  · rcases SO.tp (A := A) with t | t
    · exact Sortable.tuples fun b => t b.2
    · exact Sortable.others fun b => t b.2
  · have sm : Same H (upd H pn (.lst ((ps.mergeSort fun x y => leD x.2 y.2).map (·.1)))) := same_new hn
    refine q _ _ sm (.lst (g.new hn) upd_same ?_)
    have e4 : sortD (unTup u.1) = (ps.mergeSort fun x y => leD x.2 y.2).map (·.2) := by
      rw [← e2]
      exact (List.map_mergeSort (f := fun p : V × A => p.2) (r := fun x y => leD x.2 y.2) (s := leD) fun x _ y _ => rfl).symm
    show RpL _ _ _ (List.map enc (sortD (unTup u.1)))
    rw [e4]
    exact (pairs_down fun p hp => e3 p ((List.mergeSort_perm _ _).mem_iff.mp hp)).fix (Fix.same sm)
end
theorem nf14 : (∀ {S A : Type} [Enc A] [LE A] [SO A] (m : M S (Tup A)), sortTM m = bindM m fun l => pureM (sortD (unTup l))) := fun _ => rfl
end PL

namespace PL
open PySem L2 Enc
section
variable {X : Cx} {pins : List (Addr × Obj)} {σ : St} {H : Hp} {s : Shared} {Z : Addr → Prop}
def Shw (X : Cx) (h : Heap) (u : Value) (d : PyData) : Prop := ∃ as bs, Reads h u d as ∧ ReadAtMost h d.depth bs ∧ ReprK X.prog X.w bs h d.depth u d.shown
def ShwL (X : Cx) (h : Heap) (us : List Value) (ds : List PyData) : Prop := ∃ as bs, ReadsAll h us ds as ∧ ReadAtMost h (PyData.depthAll ds) bs ∧ ReprAllK X.prog X.w bs h (PyData.depthAll ds) us (PyData.shownAll ds)
theorem ShwL.cons {h : Heap} {u : Value} {us : List Value} {d : PyData} {ds : List PyData} (h1 : Shw X h u d) (h2 : ShwL X h us ds) : ShwL X h (u :: us) (d :: ds) := by
  obtain ⟨as, b1, r1, hb1, k1⟩ := h1
  obtain ⟨as', b2, r2, hb2, k2⟩ := h2
  refine ⟨as ++ as', b1 ++ b2, .cons r1 r2, ?_, ?_⟩
  · intro b hm
    simp only [PyData.depthAll]
    rcases List.mem_append.mp hm with hm | hm
    · obtain ⟨d', as', r', hd'⟩ := hb1 b hm
      exact ⟨d', as', r', Nat.le_trans hd' (Nat.le_max_left _ _)⟩
    · obtain ⟨d', as', r', hd'⟩ := hb2 b hm
      exact ⟨d', as', r', Nat.le_trans hd' (Nat.le_max_right _ _)⟩
  · simp only [PyData.depthAll, PyData.shownAll]
    exact .cons ((k1.more fun b hb => List.mem_append_left _ hb).level_le (Nat.le_max_left _ _)) (k2.more_le (fun b hb => List.mem_append_right _ hb) (Nat.le_max_right _ _))
theorem ShwL.nil {h : Heap} : ShwL X h [] [] := ⟨[], [], .nil, (fun _ h => nomatch h), by simp only [PyData.shownAll]; exact .nil⟩
theorem shw_key {h : Heap} {k : Key} {u : Value} (hk : (mixKind X.prog X.w).is k u = true) (hs : (kD k).showable = true) (hz : (kD k).shown.length ≤ sizeLine) : Shw X h u (kD k) := by
  rcases keyIs_shape hk with ⟨i, t, rfl, rfl⟩ | ⟨x, t, rfl, rfl⟩
  · exact ⟨[], [], .int i t, (fun _ h => nomatch h), ReprK.of_is (ReprIs.int t (by simpa [kD, PyData.showable] using hs)) _ _ _⟩
  · exact ⟨[], [], .str x t, (fun _ h => nomatch h), ReprK.of_is (ReprIs.str x t (by simpa only [kD, PyData.shown] using hz)) _ _ _⟩
theorem sz_kv : ∀ (kvs : List (PyData × PyData)), (∀ p ∈ PyData.shownKv kvs, p.length ≤ sizeLine) → (∀ t ∈ PyData.shownAll (kvs.map (·.1)), t.length ≤ sizeLine) ∧ ∀ t ∈ PyData.shownAll (kvs.map (·.2)), t.length ≤ sizeLine := fun kvs h =>
  ⟨fun t ht => by obtain ⟨p, hp, hl⟩ := PyData.shownKv_key_le kvs t ht; exact Nat.le_trans hl (h p hp), fun t ht => by obtain ⟨p, hp, hl⟩ := PyData.shownKv_val_le kvs t ht; exact Nat.le_trans hl (h p hp)⟩
theorem shw_keys {h : Heap} : ∀ {es : List DictEntry} {vs : List (Key × Value)} {ks : List Key}, Pairs (mixKind X.prog X.w) es vs → vs.map (·.1) = ks → PyData.showableAll (ks.map kD) = true → (∀ t ∈ PyData.shownAll (ks.map kD), t.length ≤ sizeLine) → ShwL X h (es.map (·.key)) (ks.map kD)
  | _, _, _, .nil, e, _, _ => by
    subst e
    exact .nil
  | _, _, _, .cons (e := e) (kv := kv) (kvs := kvs) h1 h2 h3, ek, hs, hz => by
    subst ek
    have hs' : (kD kv.1).showable = true ∧ PyData.showableAll ((kvs.map fun x => x.1).map kD) = true := by simpa [PyData.showableAll] using hs
    exact .cons (shw_key h1 hs'.1 (hz _ (by simp only [List.map_cons, PyData.shownAll]; exact List.mem_cons_self ..))) (shw_keys h3 rfl hs'.2 fun t ht => hz t (by simp only [List.map_cons, PyData.shownAll]; exact List.mem_cons_of_mem _ ht))
theorem pairs_vals : ∀ {es : List DictEntry} {vs : List (Key × Value)}, Pairs (mixKind X.prog X.w) es vs → es.map (·.val) = vs.map (·.2)
  | _, _, .nil => rfl
  | _, _, .cons h1 h2 h3 => by rw [List.map_cons, List.map_cons, h2, pairs_vals h3]
theorem rpk_keys : ∀ {kvs : List (Key × V)} {ds : List (PyData × PyData)} {vs : List (Key × Value)}, RpK Z H kvs ds → KV kvs vs → ds.map (·.1) = (vs.map (·.1)).map kD
  | _, _, _, .nil, .nil => rfl
  | _, _, _, .cons _ t, .cons h1 h2 => by
    rw [List.map_cons, List.map_cons, List.map_cons, ← h1.1, rpk_keys t h2]
mutual
theorem Rp.shw (I : Inv X pins σ H s) : ∀ {v : V} {d : PyData} {u : Value}, Rp Z H v d → RelV v u → d.showable = true → d.shown.length ≤ sizeLine → Shw X s.heap u d
  | _, _, _, .non, r, _, _ => by
    cases r
    exact ⟨[], [], .none, (fun _ h => nomatch h), by simp only [PyData.shown]; exact .of_is ReprIs.none _ _ _⟩
  | _, _, _, .bl b, r, _, _ => by
    cases r
    exact ⟨[], [], .bool b, (fun _ h => nomatch h), by simp only [PyData.shown]; exact .of_is (ReprIs.bool b) _ _ _⟩
  | _, _, _, .int i, r, hs, _ => by
    obtain ⟨t, rfl⟩ := r
    exact ⟨[], [], .int i t, (fun _ h => nomatch h), by simp only [PyData.shown]; exact .of_is (ReprIs.int t (by simpa [PyData.showable] using hs)) _ _ _⟩
  | _, _, _, .str x, r, _, hz => by
    obtain ⟨t, rfl⟩ := r
    exact ⟨[], [], .str x t, (fun _ h => nomatch h), by simp only [PyData.shown]; exact .of_is (ReprIs.str x t (by simpa only [PyData.shown] using hz)) _ _ _⟩
  | _, _, _, .lst (a := a) (xs := xs) (ds := ds) n h l, r, hs, hz => by
    cases r
    obtain ⟨its, rv, ⟨o, nn, h1, h2, _, h3⟩, _⟩ := I.list (SqL.of h)
    have hz' : (listText (PyData.shownAll ds)).length ≤ sizeLine := by simpa only [PyData.shown] using hz
    obtain ⟨as, bs, h4, hb, hk⟩ := RpL.shw I l rv (by simpa [PyData.showable] using hs) (fun t ht => Nat.le_trans (listText_mem_le ht) hz')
    have r : Reads s.heap (.ref a) (.list ds) _ := .list h1 h2 h3 h4
    have hna : a ∉ bs := not_mem_of_deeper r (by simp only [PyData.depth]; omega) hb
    refine ⟨_, a :: bs, r, ReadAtMost.cons r (by simp only [PyData.depth]; omega) hb, ?_⟩
    simp only [PyData.depth, PyData.shown]
    cases its with
    | nil =>
      have h4' : ReadsAll s.heap [] ds _ := h4
      cases h4'
      simp only [PyData.shownAll, listText_nil]
      exact ReprK.listEmpty h1 h2 h3
    | cons x l => exact ReprK.list h1 h2 h3 hna (by simpa using hk.length_eq) (fun i y e => hk.item i y (by simpa using e))
  | _, _, _, .tup (a := a) (xs := xs) (ds := ds) n h l, r, hs, hz => by
    cases r
    obtain ⟨its, rv, ⟨o, h1, h2, nn, h3⟩, _⟩ := I.tuple (h.sq (K := X.K))
    have hz' : (tupleText (PyData.shownAll ds)).length ≤ sizeLine := by simpa only [PyData.shown] using hz
    obtain ⟨as, bs, h4, hb, hk⟩ := RpL.shw I l rv (by simpa [PyData.showable] using hs) (fun t ht => Nat.le_trans (tupleText_mem_le ht) hz')
    have r : Reads s.heap (.ref a) (.tuple ds) _ := .tuple h1 h2 h3 h4
    have hna : a ∉ bs := not_mem_of_deeper r (by simp only [PyData.depth]; omega) hb
    refine ⟨_, a :: bs, r, ReadAtMost.cons r (by simp only [PyData.depth]; omega) hb, ?_⟩
    simp only [PyData.depth, PyData.shown]
    exact ReprK.tuple h1 h2 h3 hna hk
  | _, _, _, .dic (a := a) (kvs := kvs) (ds := ds) n h l, r, hs, hz => by
    cases r
    obtain ⟨_, hsys, vs, rel, o, es, ep, h1, h2, h3, _, pr, _⟩ := dk_rd I.hok h
    have hz' : (dictText (PyData.shownKv ds)).length ≤ sizeLine := by simpa only [PyData.shown] using hz
    obtain ⟨hs1, hs2⟩ := PyData.showableKv_split ds (by simpa [PyData.showable] using hs)
    obtain ⟨z1, z2⟩ := sz_kv ds fun p hp => Nat.le_trans (dictText_mem_le hp) hz'
    have ek := rpk_keys l rel
    have sk : ShwL X s.heap (es.toList.map (·.key)) (ds.map (·.1)) := by
      rw [ek]
      exact shw_keys pr rfl (by rw [← ek]; exact hs1) (by rw [← ek]; exact z1)
    have sv : ShwL X s.heap (es.toList.map (·.val)) (ds.map (·.2)) := by
      rw [pairs_vals pr]
      exact RpK.shw I l rel hs2 z2
    obtain ⟨as1, b1, h4, hb1, k1⟩ := sk
    obtain ⟨as2, b2, h5, hb2, k2⟩ := sv
    have r : Reads s.heap (.ref a) (.dict ds) _ := .dict h1 h2.1 h3 h4 h5
    have hb : ReadAtMost s.heap (PyData.depthKv ds) (b1 ++ b2) := (hb1.mono (PyData.depthAll_keys_le ds)).append (hb2.mono (PyData.depthAll_vals_le ds))
    have hna : a ∉ b1 ++ b2 := not_mem_of_deeper r (by simp only [PyData.depth]; omega) hb
    refine ⟨_, a :: (b1 ++ b2), r, ReadAtMost.cons r (by simp only [PyData.depth]; omega) hb, ?_⟩
    simp only [PyData.depth, PyData.shown, PyData.shownKv_eq]
    exact ReprK.dict h1 h2.1 h3 hsys hna (ReprEntriesK.of_two es.toList _ _
      (k1.more_le (fun b hb => List.mem_append_left _ hb) (PyData.depthAll_keys_le ds)) (k2.more_le (fun b hb => List.mem_append_right _ hb) (PyData.depthAll_vals_le ds)))
theorem RpL.shw (I : Inv X pins σ H s) : ∀ {vs : List V} {ds : List PyData} {us : List Value}, RpL Z H vs ds → Vals vs us → PyData.showableAll ds = true → (∀ t ∈ PyData.shownAll ds, t.length ≤ sizeLine) → ShwL X s.heap us ds
  | _, _, _, .nil, r, _, _ => by
    cases r
    exact .nil
  | _, _, _, .cons (d := d) (ds := ds) h t, r, hs, hz => by
    cases r with
    | cons r1 r2 =>
      have hs' : d.showable = true ∧ PyData.showableAll ds = true := by simpa [PyData.showableAll] using hs
      exact .cons (Rp.shw I h r1 hs'.1 (hz _ (by simp only [PyData.shownAll]; exact List.mem_cons_self ..))) (RpL.shw I t r2 hs'.2 fun t ht => hz t (by simp only [PyData.shownAll]; exact List.mem_cons_of_mem _ ht))
theorem RpK.shw (I : Inv X pins σ H s) : ∀ {kvs : List (Key × V)} {ds : List (PyData × PyData)} {vs : List (Key × Value)}, RpK Z H kvs ds → KV kvs vs → PyData.showableAll (ds.map (·.2)) = true → (∀ t ∈ PyData.shownAll (ds.map (·.2)), t.length ≤ sizeLine) → ShwL X s.heap (vs.map (·.2)) (ds.map (·.2))
  | _, _, _, .nil, r, _, _ => by
    cases r
    exact .nil
  | _, _, _, .cons (d := d) (ds := ds) h t, r, hs, hz => by
    cases r with
    | cons r1 r2 =>
      have hs' : d.showable = true ∧ PyData.showableAll (ds.map (·.2)) = true := by simpa [PyData.showableAll] using hs
      exact .cons (Rp.shw I h r1.2 hs'.1 (hz _ (by simp only [List.map_cons, PyData.shownAll]; exact List.mem_cons_self ..))) (RpK.shw I t r2 hs'.2 fun t ht => hz t (by simp only [List.map_cons, PyData.shownAll]; exact List.mem_cons_of_mem _ ht))
end
theorem Rp.showsBy (I : Inv X pins σ H s) {a : Addr} {d : PyData} (r : Rp Z H (.ref a) d) (hs : d.showable = true) (hz : d.shown.length ≤ sizeLine) : ∃ T idr, ShowsBy X.prog X.w s.heap a d T idr := by
  cases r with
  | lst n h l =>
    rename_i xs ds
    obtain ⟨its, rv, ⟨o, nn, h1, h2, _, h3⟩, _⟩ := I.list (SqL.of h)
    have hz' : (listText (PyData.shownAll ds)).length ≤ sizeLine := by simpa only [PyData.shown] using hz
    obtain ⟨as, bs, h4, hb, hk⟩ := RpL.shw I l rv (by simpa [PyData.showable] using hs) (fun t ht => Nat.le_trans (listText_mem_le ht) hz')
    have hna : a ∉ bs := not_mem_of_deeper (.list h1 h2 h3 h4) (by simp only [PyData.depth]; omega) hb
    refine ⟨"list", "list.__repr__", F.slot_list_repr.toG, F.slot_list_str, F.slot_list_format, fun s hk0 => ⟨o, hk0 _ _ h1, h2⟩, fun A E s Q hg hu hk0 hQ => ?_⟩
    simp only [PyData.depth] at hu
    simp only [PyData.shown] at hQ
    cases its with
    | nil =>
      have h4' : ReadsAll _ [] ds _ := h4
      cases h4'
      simp only [PyData.shownAll, listText_nil] at hQ
      exact call_list_repr_empty ⟨o, hk0 _ _ h1, h2⟩ (hk0 _ _ h1) h3 (hQ s.heap _ _ fun _ _ e => e)
    | cons x l =>
      exact call_list_reprK h1 h2 h3 hna (by simpa using hk.length_eq) (fun i y e => hk.item i y (by simpa using e)) hg (fun b _ => Clear.nil b) hu hk0 hQ hz'
  | tup n h l =>
    rename_i xs ds
    obtain ⟨its, rv, ⟨o, h1, h2, nn, h3⟩, _⟩ := I.tuple (h.sq (K := X.K))
    have hz' : (tupleText (PyData.shownAll ds)).length ≤ sizeLine := by simpa only [PyData.shown] using hz
    obtain ⟨as, bs, h4, hb, hk⟩ := RpL.shw I l rv (by simpa [PyData.showable] using hs) (fun t ht => Nat.le_trans (tupleText_mem_le ht) hz')
    have hna : a ∉ bs := not_mem_of_deeper (.tuple h1 h2 h3 h4) (by simp only [PyData.depth]; omega) hb
    refine ⟨"tuple", "tuple.__repr__", F.slot_tuple_repr, F.slot_tuple_str, F.slot_tuple_format, fun s hk0 => ⟨o, hk0 _ _ h1, h2⟩, fun A E s Q hg hu hk0 hQ => ?_⟩
    simp only [PyData.depth] at hu
    simp only [PyData.shown] at hQ
    exact call_tuple_reprK h1 h2 h3 hna hk hg (fun b _ => Clear.nil b) hu hk0 hQ hz'
  | dic n h l =>
    rename_i kvs ds
    obtain ⟨_, hsys, vs, rel, o, es, ep, h1, h2, h3, _, pr, _⟩ := dk_rd I.hok h
    have hz' : (dictText (PyData.shownKv ds)).length ≤ sizeLine := by simpa only [PyData.shown] using hz
    obtain ⟨hs1, hs2⟩ := PyData.showableKv_split ds (by simpa [PyData.showable] using hs)
    obtain ⟨z1, z2⟩ := sz_kv ds fun p hp => Nat.le_trans (dictText_mem_le hp) hz'
    have ek := rpk_keys l rel
    have sk : ShwL X s.heap (es.toList.map (·.key)) (ds.map (·.1)) := by
      rw [ek]
      exact shw_keys pr rfl (by rw [← ek]; exact hs1) (by rw [← ek]; exact z1)
    have sv : ShwL X s.heap (es.toList.map (·.val)) (ds.map (·.2)) := by
      rw [pairs_vals pr]
      exact RpK.shw I l rel hs2 z2
    obtain ⟨as1, b1, h4, hb1, k1⟩ := sk
    obtain ⟨as2, b2, h5, hb2, k2⟩ := sv
    have hb : ReadAtMost s.heap (PyData.depthKv ds) (b1 ++ b2) := (hb1.mono (PyData.depthAll_keys_le ds)).append (hb2.mono (PyData.depthAll_vals_le ds))
    have hna : a ∉ b1 ++ b2 := not_mem_of_deeper (.dict h1 h2.1 h3 h4 h5) (by simp only [PyData.depth]; omega) hb
    refine ⟨"dict", "dict.__repr__", F.slot_dict_repr, F.slot_dict_str, F.slot_dict_format, fun s hk0 => ⟨o, hk0 _ _ h1, h2.1⟩, fun A E s Q hg hu hk0 hQ => ?_⟩
    simp only [PyData.depth] at hu
    simp only [PyData.shown, PyData.shownKv_eq] at hQ
    exact call_dict_reprK h1 h2.1 h3 hsys hna (ReprEntriesK.of_two es.toList _ _
      (k1.more_le (fun b hb => List.mem_append_left _ hb) (PyData.depthAll_keys_le ds)) (k2.more_le (fun b hb => List.mem_append_right _ hb) (PyData.depthAll_vals_le ds))) hg (fun b _ => Clear.nil b) hu hk0 hQ (by rw [← PyData.shownKv_eq]; exact hz')
/-- data whose text is told, dicts too -/
def repOkA (d : PyData) : Prop := d.showable = true ∧ d.depth ≤ 60 ∧ d.shown.length ≤ 16777216
instance (d : PyData) : Decidable (repOkA d) := inferInstanceAs (Decidable (_ ∧ _ ∧ _))
def rReprA : List V → Hp → VK → Prop := fun vs H Q => ∃ (Z : Addr → Prop) (v : V) (d : PyData), vs = [v] ∧ Rp Z H v d ∧ repOkA d ∧ Q (.str d.shown) H
theorem cr_reprA {X : Cx} {k : Nat} (hr : Room k X.A) (hg : X.A.guards = some []) : CallR X (.builtin "repr") rReprA := by
  intro pins s st H vs us Q J r h
  obtain ⟨Z, v, d, rfl, hd, ⟨h1, h3, h4⟩, q⟩ := h
  obtain ⟨u, rfl, ru⟩ := vals1 r
  have hz : d.shown.length ≤ sizeLine := by
    rw [sizeLine_eq]
    exact h4
  have hu := hr.units
  have two : ∀ {a : Addr}, v = .ref a → wpAny (model X.prog X.w) X.A (call (.builtin "repr") [u]) (L2.EP X pins st Q) X.xe s := fun {a} e => by
    subst e
    obtain rfl : u = Value.ref a := ru
    obtain ⟨T, idr, S⟩ := Rp.showsBy J hd h1 hz
    exact call_repr_slot (by omega) (S.typeIs s fun _ _ e => e) S.slotRepr (S.call X.A.in1 X.xe s _ hg (by show X.A.units + 1 + d.depth < cLine; omega) (fun _ _ e => e) fun h' u tk hk => ⟨_, _, rfl, ⟨.str d.shown, H, J.kept hk, ⟨_, rfl⟩, q⟩⟩)
  cases hd with
  | non =>
    cases ru
    exact PySem.P.repr_of_none ⟨.str _, H, J.tok _, ⟨_, rfl⟩, by simpa only [PyData.shown] using q⟩
  | bl b =>
    cases ru
    exact PySem.P.repr_of_bool ⟨.str _, H, J.tok _, ⟨_, rfl⟩, by simpa only [PyData.shown] using q⟩
  | int i =>
    obtain ⟨t, rfl⟩ := ru
    exact PySem.P.repr_of_int (by simpa [PyData.showable] using h1) ⟨.str _, H, J.tok _, ⟨_, rfl⟩, by simpa only [PyData.shown] using q⟩
  | str x =>
    obtain ⟨t, rfl⟩ := ru
    exact PySem.P.repr_of_str ⟨.str _, H, J.tok _, ⟨_, rfl⟩, by simpa only [PyData.shown] using q⟩ (by simpa only [PyData.shown] using hz)
  | lst _ _ _ => exact two rfl
  | tup _ _ _ => exact two rfl
  | dic _ _ _ => exact two rfl
end
section
variable {I S A : Type} [Enc A] {Xs : I → Cx} {F : Fm S} {G : List Sl} {pos p : Pos} {a : Expr} {K : PySem.W.Frag}
def repFA (y : A) : Option Str := if repOkA (enc y) then some (enc y).shown else none
theorem ev_reprA {m : M S A} {k : Nat} (hr : ∀ i, Room k (Xs i).A) (hgd : ∀ i, (Xs i).A.guards = some []) (hm : ∀ i, (Xs i).mg "repr" = none) (h : EV Xs F G a m) (hg : ∀ i, Gl (Xs i) "repr" := by intro _; rfl)
    (he : ∀ i, starEach [a] (Xs i).env = (false, eval a (Xs i).env) :: starEach [] (Xs i).env := by intro _; rfl) : EV Xs F G (.Call (.Name "repr" p) [a] [] pos) (fun1M repFA m) :=
  ev_b1 (r := rReprA) (fun i => cr_reprA (hr i) (hgd i)) (fun F Zx G s t H u vs z g r e Q q => by
    obtain ⟨v, rfl, rv⟩ := r.one
    replace e : (if repOkA (enc u.1) then some (enc u.1).shown else none) = some z := e
    by_cases ho : repOkA (enc u.1)
    · rw [if_pos ho] at e
      cases e
      exact ⟨_, v, enc u.1, rfl, rv, ho, q _ H (Same.refl H) (.str _)⟩
    · rw [if_neg ho] at e
      cases e) hm bb_repr h hg (by decide) (by decide) he
end
end PL

namespace PL
open PySem L2 Enc PyProof.Rows PySem.Spec
def numA : PyData → Option Int
  | .int i => some i
  | .bool b => some (b2I b)
  | _ => none
def strV (d : PyData) : Option Str := match d with
  | .int i => if i.natAbs.log2 < 1920 then some (PyData.shown (.int i)) else none
  | .bool b => some (PyData.shown (.bool b))
  | _ => none
section
variable {X : Cx}
def rNumL (f : Int → Int → Int) : R2 := fun x y H Q => (∃ i j, x = .int i ∧ y = .int j ∧ Q (.int (f i j)) H) ∨ ∃ b j, x = .bl b ∧ y = .int j ∧ Q (.int (f (b2I b) j)) H
def rNumR (f : Int → Int → Int) : R2 := fun x y H Q => (∃ i j, x = .int i ∧ y = .int j ∧ Q (.int (f i j)) H) ∨ ∃ i b, x = .int i ∧ y = .bl b ∧ Q (.int (f i (b2I b))) H
theorem op_addL : OpR X (binaryOp .Add) (rNumL (· + ·)) := by
  intro pins s σ H x y v u Q I rx ry h
  rcases h with ⟨i, j, rfl, rfl, q⟩ | ⟨b, j, rfl, rfl, q⟩
  · obtain ⟨t, rfl⟩ := rx
    obtain ⟨t', rfl⟩ := ry
    exact add_int ⟨.int (i + j), H, I.tok _, ⟨_, rfl⟩, q⟩
  · cases rx
    obtain ⟨t', rfl⟩ := ry
    exact PySem.IntBool.add_bool_int ⟨.int (b2I b + j), H, I.tok _, ⟨_, rfl⟩, q⟩
theorem op_subL : OpR X (binaryOp .Sub) (rNumL (· - ·)) := by
  intro pins s σ H x y v u Q I rx ry h
  rcases h with ⟨i, j, rfl, rfl, q⟩ | ⟨b, j, rfl, rfl, q⟩
  · obtain ⟨t, rfl⟩ := rx
    obtain ⟨t', rfl⟩ := ry
    exact sub_int ⟨.int (i - j), H, I.tok _, ⟨_, rfl⟩, q⟩
  · cases rx
    obtain ⟨t', rfl⟩ := ry
    exact PySem.IntBool.sub_bool_int ⟨.int (b2I b - j), H, I.tok _, ⟨_, rfl⟩, q⟩
theorem op_subR : OpR X (binaryOp .Sub) (rNumR (· - ·)) := by
  intro pins s σ H x y v u Q I rx ry h
  rcases h with ⟨i, j, rfl, rfl, q⟩ | ⟨i, b, rfl, rfl, q⟩
  · obtain ⟨t, rfl⟩ := rx
    obtain ⟨t', rfl⟩ := ry
    exact sub_int ⟨.int (i - j), H, I.tok _, ⟨_, rfl⟩, q⟩
  · obtain ⟨t', rfl⟩ := rx
    cases ry
    exact PySem.IntBool.sub_int_bool ⟨.int (i - b2I b), H, I.tok _, ⟨_, rfl⟩, q⟩
def rStrN : List V → Hp → VK → Prop := fun xs H Q => (∃ i, xs = [.int i] ∧ i.natAbs.log2 < 1920 ∧ Q (.str (PyData.shown (.int i))) H) ∨ ∃ b, xs = [.bl b] ∧ Q (.str (PyData.shown (.bool b))) H
theorem call_strN : CallR X (.type "str") rStrN := by
  intro pins s σ H xs us Q I r h
  rcases h with ⟨i, rfl, hz, q⟩ | ⟨b, rfl, q⟩
  · obtain ⟨u, rfl, t, rfl⟩ := vals1 r
    exact PySem.P.str_of_int hz ⟨.str _, H, I.tok _, ⟨_, rfl⟩, q⟩
  · obtain ⟨u, rfl, r1⟩ := vals1 r
    cases r1
    exact PySem.P.str_of_bool ⟨.str _, H, I.tok _, ⟨_, rfl⟩, q⟩
def rEqE (K : PySem.W.Frag) : R2 := fun x y H Q => ∃ a b xs, x = .ref a ∧ y = .ref b ∧ SqT K H a xs ∧ SqT K H b [] ∧ Q (.bl xs.isEmpty) H
def rNeE (K : PySem.W.Frag) : R2 := fun x y H Q => ∃ a b xs, x = .ref a ∧ y = .ref b ∧ SqT K H a xs ∧ SqT K H b [] ∧ Q (.bl (!xs.isEmpty)) H
theorem op_neE (hu : X.A.units < cLine) : OpR X (compareOp .NotEq) (rNeE X.K) := by
  intro pins s σ H x y v u Q I rx ry h
  obtain ⟨a, b, xs, rfl, rfl, ha, hb, q⟩ := h
  obtain rfl : v = Value.ref a := rx
  obtain rfl : u = Value.ref b := ry
  obtain ⟨its, rv, hl, _⟩ := I.tuple ha
  obtain ⟨its', rv', hl', _⟩ := I.tuple hb
  cases rv'
  have e := SeqAt.RcNeAt.tuples (e := fun _ => true) (show s.heap.IsTuple a its.toArray from hl) (show s.heap.IsTuple b ([] : List Value).toArray from hl') hu fun j _ h2 => absurd h2 (Nat.not_lt_zero _)
  refine e X.prog X.w X.xe _ ⟨.bl (!xs.isEmpty), H, I, ?_, q⟩
  show _ = Value.bool (!xs.isEmpty)
  cases rv with
  | nil => rfl
  | cons _ _ => rfl
theorem op_eqE (hu : X.A.units < cLine) : OpR X (compareOp .Eq) (rEqE X.K) := by
  intro pins s σ H x y v u Q I rx ry h
  obtain ⟨a, b, xs, rfl, rfl, ha, hb, q⟩ := h
  obtain rfl : v = Value.ref a := rx
  obtain rfl : u = Value.ref b := ry
  obtain ⟨its, rv, hl, _⟩ := I.tuple ha
  obtain ⟨its', rv', hl', _⟩ := I.tuple hb
  cases rv'
  have e := SeqAt.RcAt.tuples (e := fun _ => true) (show s.heap.IsTuple a its.toArray from hl) (show s.heap.IsTuple b ([] : List Value).toArray from hl') hu fun j _ h2 => absurd h2 (Nat.not_lt_zero _)
  refine e X.prog X.w X.xe _ ⟨.bl xs.isEmpty, H, I, ?_, q⟩
  show _ = Value.bool xs.isEmpty
  cases rv with
  | nil => rfl
  | cons _ _ => rfl
end
section
variable {I S A B : Type} [Enc A] [Enc B] {Xs : I → Cx} {F : Fm S} {G : List Sl} {pos p p2 p3 : Pos} {a b : Expr} {K : PySem.W.Frag}
theorem rv_numL {f : Int → Int → Int} : RV2 (rNumL f) (fun (d : PyData) (j : Int) => (numA d).map (f · j)) := fun F Zx G s t H x y vx vy z gd rx ry e Q q => by
  obtain rfl := ry.toInt
  cases x with
  | int i =>
    cases e
    obtain rfl := (show Rp _ H vx (enc i) from rx).toInt
    exact .inl ⟨i, y, rfl, rfl, q _ H (Same.refl H) (.int _)⟩
  | bool i =>
    cases e
    obtain rfl := (show Rp _ H vx (enc i) from rx).bool
    exact .inr ⟨i, y, rfl, rfl, q _ H (Same.refl H) (.int _)⟩
  | none => cases e
  | str _ => cases e
  | list _ => cases e
  | tuple _ => cases e
  | dict _ => cases e
theorem rv_numR {f : Int → Int → Int} : RV2 (rNumR f) (fun (j : Int) (d : PyData) => (numA d).map (f j ·)) := fun F Zx G s t H x y vx vy z gd rx ry e Q q => by
  obtain rfl := rx.toInt
  cases y with
  | int i =>
    cases e
    obtain rfl := (show Rp _ H vy (enc i) from ry).toInt
    exact .inl ⟨x, i, rfl, rfl, q _ H (Same.refl H) (.int _)⟩
  | bool i =>
    cases e
    obtain rfl := (show Rp _ H vy (enc i) from ry).bool
    exact .inr ⟨x, i, rfl, rfl, q _ H (Same.refl H) (.int _)⟩
  | none => cases e
  | str _ => cases e
  | list _ => cases e
  | tuple _ => cases e
  | dict _ => cases e
def addAM (m : M S PyData) (n : M S Int) : M S Int := bin2 (fun d j => (numA d).map (· + j)) m n
def subAM (m : M S PyData) (n : M S Int) : M S Int := bin2 (fun d j => (numA d).map (· - j)) m n
def subRM (m : M S Int) (n : M S PyData) : M S Int := bin2 (fun j d => (numA d).map (j - ·)) m n
theorem ev_addA {m : M S PyData} {n : M S Int} (h : EV Xs F G a m) (h2 : EV Xs F G b n) : EV Xs F G (.BinOp a .Add b pos) (addAM m n) := ev_op (fun _ => op_addL) rv_numL h h2
theorem ev_subA {m : M S PyData} {n : M S Int} (h : EV Xs F G a m) (h2 : EV Xs F G b n) : EV Xs F G (.BinOp a .Sub b pos) (subAM m n) := ev_op (fun _ => op_subL) rv_numL h h2
theorem ev_subR {m : M S Int} {n : M S PyData} (h : EV Xs F G a m) (h2 : EV Xs F G b n) : EV Xs F G (.BinOp a .Sub b pos) (subRM m n) := ev_op (fun _ => op_subR) rv_numR h h2
theorem ev_strA {m : M S PyData} (hm : ∀ i, (Xs i).mg "str" = none) (h : EV Xs F G a m) (hg : ∀ i, Gl (Xs i) "str" := by intro _; rfl)
    (he : ∀ i, starEach [a] (Xs i).env = (false, eval a (Xs i).env) :: starEach [] (Xs i).env := by intro _; rfl) : EV Xs F G (.Call (.Name "str" p) [a] [] pos) (fun1M strV m) :=
  ev_t1 (r := rStrN) (fun i => call_strN) (fun F Zx G s t H u vs z g r e Q q => by
    obtain ⟨v, rfl, rv⟩ := r.one
    obtain ⟨d, u2⟩ := u
    cases d with
    | int i =>
      obtain rfl := (show Rp _ H v (enc i) from rv).toInt
      replace e : (if i.natAbs.log2 < 1920 then some (PyData.shown (.int i)) else none) = some z := e
      by_cases ho : i.natAbs.log2 < 1920
      · rw [if_pos ho] at e
        cases e
        exact .inl ⟨i, rfl, ho, q _ H (Same.refl H) (.str _)⟩
      · rw [if_neg ho] at e
        cases e
    | bool i =>
      obtain rfl := (show Rp _ H v (enc i) from rv).bool
      cases e
      exact .inr ⟨i, rfl, q _ H (Same.refl H) (.str _)⟩
    | none => cases e
    | str _ => cases e
    | list _ => cases e
    | tuple _ => cases e
    | dict _ => cases e) hm bb_str h hg (by decide) (by decide) he
/-- t == (), t != () -/
def eqEM (m : M S (Tup A)) (n : M S (Tup B)) : M S Bool := bin2 (fun l r => if (unTup r).isEmpty then some (unTup l).isEmpty else none) m n
def neEM (m : M S (Tup A)) (n : M S (Tup B)) : M S Bool := bin2 (fun l r => if (unTup r).isEmpty then some (!(unTup l).isEmpty) else none) m n
theorem rv_E {r : R2} {f : Bool → Bool} (hr : ∀ x y H Q, (∃ a b xs, x = V.ref a ∧ y = V.ref b ∧ SqT K H a xs ∧ SqT K H b [] ∧ Q (.bl (f xs.isEmpty)) H) → r x y H Q) :
    RV2 r (fun (l : Tup A) (m : Tup B) => if (unTup m).isEmpty then some (f (unTup l).isEmpty) else none) := fun F Zx G s t H x y vx vy z gd rx ry e Q q => by
  obtain ⟨pp, xs, rfl, n, h, l⟩ := rx.toTup
  obtain ⟨pp2, ys, rfl, n2, h2, l2⟩ := ry.toTup
  replace e : (if (unTup y).isEmpty then some (f (unTup x).isEmpty) else none) = some z := e
  by_cases ho : (unTup y).isEmpty
  · rw [if_pos ho] at e
    cases e
    have ye : ys = [] := by
      have := l2.len
      rw [List.length_map, List.isEmpty_iff.mp ho] at this
      exact List.length_eq_zero_iff.mp this
    subst ye
    have xe : xs.isEmpty = (unTup x).isEmpty := by
      have := l.len
      rw [List.length_map] at this
      rw [Bool.eq_iff_iff, List.isEmpty_iff, List.isEmpty_iff, ← List.length_eq_zero_iff, ← List.length_eq_zero_iff, this]
    exact hr _ _ _ _ ⟨pp, pp2, xs, rfl, rfl, h.sq, h2.sq, by rw [xe]; exact q _ H (Same.refl H) (.bl _)⟩
  · rw [if_neg ho] at e
    cases e
theorem ev_neE {m : M S (Tup A)} {n : M S (Tup B)} {k : Nat} (hr : ∀ i, Room k (Xs i).A) (ha : EV Xs F G a m) (hb : EV Xs F G b n) (hK : ∀ i, (Xs i).K = K := by intro _; rfl) : EV Xs F G (.Compare a [.NotEq] [b] pos) (neEM m n) :=
  ev_cmp (r := rNeE K) (fun i => by rw [← hK i]; exact op_neE (by have := (hr i).units; omega)) (rv_E (K := K) (f := fun b => !b) fun x y H Q q => q) ha hb
theorem et_neE {m : M S (Tup A)} {n : M S (Tup B)} {k : Nat} (hr : ∀ i, Room k (Xs i).A) (ha : EV Xs F G a m) (hb : EV Xs F G b n) (hK : ∀ i, (Xs i).K = K := by intro _; rfl) : ET Xs F G (.Compare a [.NotEq] [b] pos) (neEM m n) :=
  et_cmp (r := rNeE K) (fun i => by rw [← hK i]; exact op_neE (by have := (hr i).units; omega)) (rv_E (K := K) (f := fun b => !b) fun x y H Q q => q) ha hb
theorem ev_eqE {m : M S (Tup A)} {n : M S (Tup B)} {k : Nat} (hr : ∀ i, Room k (Xs i).A) (ha : EV Xs F G a m) (hb : EV Xs F G b n) (hK : ∀ i, (Xs i).K = K := by intro _; rfl) : EV Xs F G (.Compare a [.Eq] [b] pos) (eqEM m n) :=
  ev_cmp (r := rEqE K) (fun i => by rw [← hK i]; exact op_eqE (by have := (hr i).units; omega)) (rv_E (K := K) (f := fun b => b) fun x y H Q q => q) ha hb
theorem et_eqE {m : M S (Tup A)} {n : M S (Tup B)} {k : Nat} (hr : ∀ i, Room k (Xs i).A) (ha : EV Xs F G a m) (hb : EV Xs F G b n) (hK : ∀ i, (Xs i).K = K := by intro _; rfl) : ET Xs F G (.Compare a [.Eq] [b] pos) (eqEM m n) :=
  et_cmp (r := rEqE K) (fun i => by rw [← hK i]; exact op_eqE (by have := (hr i).units; omega)) (rv_E (K := K) (f := fun b => b) fun x y H Q q => q) ha hb
/-- {"a": 1} -/
theorem ev_d1 {x : Str} {n : Int} {j j2 : Nat} : EV Xs F G (.Dict [some (.Constant (.str x) j p)] [.Constant (.int n) j2 p2] pos) (pureM (PyData.dict [(.str x, .int n)])) := by
  refine ⟨tDisp [(tC (.str x), tC (.int n))], fun _ => pe_disp (pps_cons pe_str pe_int pps_nil) rfl rfl (List.cons_ne_nil _ _) (Nat.le_of_ble_eq_true rfl), fun Zx t H s y s' g hm Q q pp hn => ?_⟩
  obtain ⟨rfl, rfl⟩ := pure_eq hm
  refine ⟨upd_same, [(.inr x, .int n)], rfl, Nat.le_of_ble_eq_true rfl, ?_⟩
  rw [upd_upd]
  exact q _ _ (g.same (same_new hn)) (Fix.same (same_new hn)) (.dic (g.new hn) (.inl upd_same) (.cons (k := .inr x) (.int n) .nil))
end
theorem nf15 : (∀ {S : Type} (m : M S PyData) (n : M S Int), addAM m n = bindM m fun d => bindM n fun j => ofO ((numA d).map (· + j))) ∧ (∀ {S : Type} (m : M S PyData) (n : M S Int), subAM m n = bindM m fun d => bindM n fun j => ofO ((numA d).map (· - j))) ∧
    (∀ {S : Type} (m : M S Int) (n : M S PyData), subRM m n = bindM m fun j => bindM n fun d => ofO ((numA d).map (j - ·))) ∧
    (∀ {S A B : Type} (m : M S (Tup A)) (n : M S (Tup B)), eqEM m n = bindM m fun l => bindM n fun r => guardM ((unTup r).isEmpty = true) (pureM (unTup l).isEmpty)) ∧
    (∀ {S A B : Type} (m : M S (Tup A)) (n : M S (Tup B)), neEM m n = bindM m fun l => bindM n fun r => guardM ((unTup r).isEmpty = true) (pureM (!(unTup l).isEmpty))) := by
  refine ⟨fun _ _ => rfl, fun _ _ => rfl, fun _ _ => rfl, fun m n => ?_, fun m n => ?_⟩
  · show bindM m (fun x => bindM n fun y => ofO (if (unTup y).isEmpty = true then some _ else none)) = _
    simp only [ofO_if]
  · show bindM m (fun x => bindM n fun y => ofO (if (unTup y).isEmpty = true then some _ else none)) = _
    simp only [ofO_if]
end PL

namespace PL
open PySem L2 Enc
section
variable {A U S T : Type} [Enc A] {P : Program} {w : World} {K : PySem.W.Frag} {mg : Str → Option Value} {base : Heap}
theorem def0 {Fm_ : T → Fm S} {root : T → Addr} {x : Str} {st : Stmt} {f : Addr} {fd : FuncData} {N ps : List Str} {k : Nat} {en : U → List PyData} (F : Fun K x x st f fd) (Sc : FnScope N ps (defScope st)) (hg : mg x = some (.ref f)) (hb : Binds K fd ps []) :
    DefG P w K mg base CX0 (k + 1) x ps (spD (A := A) Fm_ root en fun _ _ => none) := by
  refine ⟨f, fd, Fun.okG F Sc (fun vs H Q E ⟨d, Z, u, r, s, s', ws, e, _, _, hr, hf, _⟩ => by cases hf) (fun cdv A outer sh H vs Q E hr hgd hsp => ?_), hg, F.kp, hb⟩
  obtain ⟨d, Zx, u, r, s, s', ws, rfl, hat, htr, hrp, hf, q⟩ := hsp
  cases hf
end
section
variable {I S A : Type} [Enc A] {Xs : I → Cx} {F : Fm S} {G : List Sl} {pos p : Pos} {a : Expr} {K : PySem.W.Frag}
/-- tuple(tuple) -/
theorem ev_tupleT {m : M S (Tup A)} (hm : ∀ i, (Xs i).mg "tuple" = none) (h : EV Xs F G a m) (hg : ∀ i, Gl (Xs i) "tuple" := by intro _; rfl)
    (he : ∀ i, starEach [a] (Xs i).env = (false, eval a (Xs i).env) :: starEach [] (Xs i).env := by intro _; rfl) (hK : ∀ i, (Xs i).K = K := by intro _; rfl) : EV Xs F G (.Call (.Name "tuple" p) [a] [] pos) (fun1M (fun l : Tup A => some l) m) :=
  ev_t1 (r := fun xs H Q => ∃ a ys, xs = [.ref a] ∧ SqT K H a ys ∧ Q (.ref a) H) (fun i => by rw [← hK i]; exact call_tupleT) (fun F Zx G s t H u vs z g r e Q q => by
    obtain ⟨v, rfl, rv⟩ := r.one
    have rv' := rv
    obtain ⟨pp, xs, rfl, n, h, l⟩ := rv'.toTup
    cases e
    exact ⟨pp, xs, rfl, h.sq, q _ H (Same.refl H) rv⟩) hm bb_tuple h hg (by decide) (by decide) he
end
end PL

namespace PL
open PySem L2 Enc PySem.Spec PyProof.Rows
theorem tuple_mul0 (l : Addr) (n : Nat) (dd : Option Addr) (sl : Array (Option Value)) (x : Int) (u : Tok) (c0 : (decide (x < -(2 ^ 63)) || decide (x ≥ 2 ^ 63)) = false) :
    Meets (Builtin.«tuple.__mul__» ⟨[.ref l, .int x u], []⟩) (fun _ R s => s.heap.get? l = some { cls := .type "tuple", dict := dd, data := .seq #[] n, slots := sl } ∧ R (.ok (.ret (Value.ref l))) s) :=
  .of_wp fun prog w A R s h => by
    obtain ⟨hp, g, d, tk, os⟩ := s
    obtain ⟨hl, h⟩ := h
    have f1 := AutoSeq1.idx_int
    wp_walk using wpAny_loadPart' hl
    repeat (first
      | (refine wpAny_ite_false (decide_eq_false (by rw [c0]; exact Bool.false_ne_true)) ?_; wp_walk using wpAny_loadPart' hl))
    exact ⟨_, rfl, h⟩
def rRepB (K : PySem.W.Frag) : R2 := fun x y H Q => ∃ (l : Addr) (k : Int) (xs : List V), x = .ref l ∧ y = .int k ∧ SqT K H l xs ∧ 2 ≤ k ∧ k ≤ 1000 ∧ xs.length ≤ 1000 ∧ (xs = [] → Q (.ref l) H) ∧ (xs ≠ [] → NewT H (List.replicate k.toNat xs).flatten Q)
section
variable {X : Cx}
theorem op_repB : OpR X (binaryOp .Mult) (rRepB X.K) := by
  intro pins s σ H x y v u Q I rx ry h
  obtain ⟨l, k, xs, rfl, rfl, hT, h1, h2, hz, q0, q⟩ := h
  cases rx
  obtain ⟨t, rfl⟩ := ry
  obtain ⟨its, r, ⟨⟨cls, dd, data, sl⟩, ho, hc, n, hd⟩, hs⟩ := I.tuple hT
  simp only at hc hd
  subst hc hd
  have c0 : (decide (k < -(2 ^ 63)) || decide (k ≥ 2 ^ 63)) = false := by
    rw [decide_eq_false (by omega), decide_eq_false (by omega)] <;> rfl
  by_cases hx : xs = []
  · subst hx
    cases r
    exact wpAny_binaryOp_repeat_ref (T := "tuple") (U := "int") (by decide) ⟨_, ho, rfl⟩ (fun s' => typeIs_int s' k t) noFill_tuple_mul F.fills_int_mul F.slot_int_rmul repeat_tuple F.slot_int_index.lookup
      (call_meets F.slot_int_rmul (typeIs_int s k t) F.entry_int_rmul (F.args_int_rmul_2 _ _) (int_rmul_tuple k t l _ n dd sl)
        ⟨ho, rfl, ⟨_, ho, rfl⟩, call_meets F.slot_tuple_mul ⟨_, ho, rfl⟩ F.entry_tuple_mul (F.args_tuple_mul_2 _ _) (tuple_mul0 l n dd sl k t c0) ⟨ho, ⟨.ref l, H, I, rfl, q0 rfl⟩⟩⟩)
  · have hle : its.length = xs.length := r.length.symm
    have hn : its ≠ [] := fun e => hx (by
      rw [e] at hle
      exact List.eq_nil_of_length_eq_zero hle.symm)
    have hi : its.toArray.isEmpty = false := by
      cases its with
      | nil => exact absurd rfl hn
      | cons a b => rfl
    have hsz0 : its.toArray.size = xs.length := by rw [List.size_toArray, hle]
    have hm : ((its.toArray.size : Nat) : Int) * k ≤ 1000000 := by
      rw [hsz0]
      have a1 : ((xs.length : Nat) : Int) * k ≤ 1000 * k := Int.mul_le_mul_of_nonneg_right (by omega) (by omega)
      omega
    have flen : (List.replicate k.toNat its).flatten.length ≤ sizeLine := by
      rw [PyProof.Rows.lm_len_rep_flat, hle, sizeLine_eq]
      have a1 : k.toNat * xs.length ≤ 1000 * 1000 := Nat.mul_le_mul (by omega) hz
      omega
    have c1 : (its.toArray.isEmpty || k == 1) = false := by
      rw [hi, Bool.false_or]
      exact beq_eq_false_iff_ne.mpr (by omega)
    have c2 : (decide (k ≤ 0) || its.toArray.isEmpty) = false := by
      rw [hi, Bool.or_false]
      exact decide_eq_false (by omega)
    have c4 : Builtin.Tuple.tupleTooMany (((its.toArray.size : Nat) : Int) * k) = false := by
      unfold Builtin.Tuple.tupleTooMany
      rw [sizeLine_eq]
      exact decide_eq_false (by omega)
    refine wpAny_binaryOp_repeat_ref (T := "tuple") (U := "int") (by decide) ⟨_, ho, rfl⟩ (fun s' => typeIs_int s' k t) noFill_tuple_mul F.fills_int_mul F.slot_int_rmul repeat_tuple F.slot_int_index.lookup
      (call_meets F.slot_int_rmul (typeIs_int s k t) F.entry_int_rmul (F.args_int_rmul_2 _ _) (int_rmul_tuple k t l its.toArray n dd sl)
        ⟨ho, rfl, ⟨_, ho, rfl⟩, call_meets F.slot_tuple_mul ⟨_, ho, rfl⟩ F.entry_tuple_mul (F.args_tuple_mul_2 _ _) (tuple_mulW l its.toArray n dd sl k t c0 c1 c2 (by omega) c4 (by rw [size_rep, List.size_toArray]; exact flen)) ⟨ho, ?_⟩⟩)
    rw [size_rep]
    exact layT I (r.rep k.toNat) (by rw [PyProof.Rows.lm_len_rep_flat, sizeLine_eq]; have a1 : k.toNat * xs.length ≤ 1000 * 1000 := Nat.mul_le_mul (by omega) hz; omega) (q hx)
end
section
variable {I S A : Type} [Enc A] {Xs : I → Cx} {F : Fm S} {G : List Sl} {pos : Pos} {a b : Expr} {K : PySem.W.Frag}
def repTM (m : M S (Tup A)) (n : M S Int) : M S (Tup A) := bin2 (fun (x : Tup A) (k : Int) => if 2 ≤ k ∧ k ≤ 1000 ∧ (unTup x).length ≤ 1000 then some (toTup (List.replicate k.toNat (unTup x)).flatten) else none) m n
theorem ev_repT {m : M S (Tup A)} {n : M S Int} (ha : EV Xs F G a m) (hb : EV Xs F G b n) (hK : ∀ i, (Xs i).K = K := by intro _; rfl) : EV Xs F G (.BinOp a .Mult b pos) (repTM m n) :=
  ev_op (r := rRepB K) (fun i => by rw [← hK i]; exact op_repB) (fun F Zx G s t H x y vx vy z g rx ry e Q q => by
    replace e : (if 2 ≤ y ∧ y ≤ 1000 ∧ (unTup x).length ≤ 1000 then some (toTup (List.replicate y.toNat (unTup x)).flatten) else none) = some z := e
    by_cases hl : 2 ≤ y ∧ y ≤ 1000 ∧ (unTup x).length ≤ 1000
    · rw [if_pos hl] at e
      cases e
      have rx' := rx
      obtain ⟨pp, xs, rfl, n1, h, r⟩ := rx'.toTup
      obtain rfl := ry.toInt
      have hlen := r.len
      rw [List.length_map] at hlen
      refine ⟨pp, y, xs, rfl, rfl, h.sq, hl.1, hl.2.1, by omega, fun e0 => ?_, fun e0 pn ob hn hb => ?_⟩
      · have xe : unTup x = [] := List.length_eq_zero_iff.mp (by rw [← hlen, e0]; rfl)
        have ze : toTup (List.replicate y.toNat (unTup x)).flatten = x := by
          show (List.replicate y.toNat (unTup x)).flatten = unTup x
          rw [xe]
          simp
        rw [ze] at q
        exact q _ H (Same.refl H) rx
      · have sm : Same H (upd H pn (.frz ob (.tup (List.replicate y.toNat xs).flatten))) := same_new hn
        refine q _ _ sm (.tup (g.new hn) ⟨ob, upd_same, hb⟩ ?_)
        show RpL _ _ _ (List.map enc (List.replicate y.toNat (unTup x)).flatten)
        rw [flatten_map]
        exact (r.rep _).fix (Fix.same sm)
    · rw [if_neg hl] at e
      cases e) ha hb
end
theorem nf16 : (∀ {S A : Type} (m : M S (Tup A)) (n : M S Int), repTM m n = bindM m fun x => bindM n fun k => guardM (2 ≤ k ∧ k ≤ 1000 ∧ (unTup x).length ≤ 1000) (pureM (toTup (List.replicate k.toNat (unTup x)).flatten))) := fun m n => by
  show bindM m (fun x => bindM n fun y => ofO (if 2 ≤ y ∧ y ≤ 1000 ∧ (unTup x).length ≤ 1000 then some _ else none)) = _
  simp only [ofO_if]
end PL

namespace PL
open PySem L2 Enc
section
variable {I S A : Type} [Enc A] {Xs : I → Cx} {F : Fm S} {G : List Sl} {pos p : Pos} {x : Str} {k : Nat} {ps : List Str}
theorem ev_call0 {en : Unit → List PyData} {f : Unit → Option A} (D : ∀ i, DefG (Xs i).prog (Xs i).w (Xs i).K (Xs i).mg (Xs i).base CX0 k x ps (spP en f)) (hr : ∀ i, Room k (Xs i).A) (hgd : ∀ i, (Xs i).A.guards = some [])
    (hen : en () = [] := by rfl) (hg : ∀ i, Gl (Xs i) x := by intro _; rfl) (hdb : (x == ("__debug__" : Str)) = false := by decide) : EV Xs F G (.Call (.Name x p) [] [] pos) (callF f (pureM ())) := by
  refine ⟨tCall (spP en f) [] E0 tNil, fun i => pe_callG0 (D i) (hr i) (hgd i) (hg i) pass0 hdb, fun Zx t H s y s' g hm Q q => ?_⟩
  obtain ⟨z, s1, h1, h2⟩ := bind_some hm
  obtain ⟨rfl, rfl⟩ := pure_eq h1
  obtain ⟨h3, rfl⟩ := ofO_eq h2
  refine ⟨ZF F Zx G t, (), y, g.all, by rw [hen]; exact .nil, h3, fun v H' sm r => ?_⟩
  exact q v H' (g.same sm) (Fix.same sm) r
end
end PL

namespace PL
open PySem L2 Enc PyProof.Rows PySem.Spec
section
variable {X : Cx}
def rNeEL (K : PySem.W.Frag) : R2 := fun x y H Q => ∃ a b xs, x = .ref a ∧ y = .ref b ∧ SqL K H a xs ∧ SqL K H b [] ∧ Q (.bl (!xs.isEmpty)) H
theorem op_neEL (hu : X.A.units < cLine) : OpR X (compareOp .NotEq) (rNeEL X.K) := by
  intro pins s σ H x y v u Q I rx ry h
  obtain ⟨a, b, xs, rfl, rfl, ha, hb, q⟩ := h
  obtain rfl : v = Value.ref a := rx
  obtain rfl : u = Value.ref b := ry
  obtain ⟨its, rv, hl, _⟩ := I.list ha
  obtain ⟨its', rv', hl', _⟩ := I.list hb
  cases rv'
  cases rv with
  | nil =>
    have e := SeqAt.RcNeAt.lists (e := fun _ => true) hl.isList hl'.isList rfl hu fun j h1 _ => absurd h1 (Nat.not_lt_zero _)
    exact e X.prog X.w X.xe _ ⟨.bl false, H, I, rfl, q⟩
  | cons h1 h2 =>
    have e := SeqAt.RcNeAt.lists_lengths hl.isList hl'.isList (by simp) hu
    exact e X.prog X.w X.xe _ ⟨.bl true, H, I, rfl, q⟩
end
section
variable {I S A B : Type} [Enc A] [Enc B] {Xs : I → Cx} {F : Fm S} {G : List Sl} {pos : Pos} {a b : Expr} {K : PySem.W.Frag}
/-- l != [] -/
def neELM (m : M S (List A)) (n : M S (List B)) : M S Bool := bin2 (fun l r => if r.isEmpty then some (!l.isEmpty) else none) m n
theorem rv_EL {r : R2} {f : Bool → Bool} (hr : ∀ x y H Q, (∃ a b xs, x = V.ref a ∧ y = V.ref b ∧ SqL K H a xs ∧ SqL K H b [] ∧ Q (.bl (f xs.isEmpty)) H) → r x y H Q) :
    RV2 r (fun (l : List A) (m : List B) => if m.isEmpty then some (f l.isEmpty) else none) := fun F Zx G s t H x y vx vy z gd rx ry e Q q => by
  obtain ⟨pp, xs, rfl, n, h, l⟩ := rx.toLst
  obtain ⟨pp2, ys, rfl, n2, h2, l2⟩ := ry.toLst
  replace e : (if y.isEmpty then some (f x.isEmpty) else none) = some z := e
  by_cases ho : y.isEmpty
  · rw [if_pos ho] at e
    cases e
    have ye : ys = [] := by
      have := l2.len
      rw [List.length_map, List.isEmpty_iff.mp ho] at this
      exact List.length_eq_zero_iff.mp this
    subst ye
    have xe : xs.isEmpty = x.isEmpty := by
      have := l.len
      rw [List.length_map] at this
      rw [Bool.eq_iff_iff, List.isEmpty_iff, List.isEmpty_iff, ← List.length_eq_zero_iff, ← List.length_eq_zero_iff, this]
    exact hr _ _ _ _ ⟨pp, pp2, xs, rfl, rfl, SqL.of h, SqL.of h2, by rw [xe]; exact q _ H (Same.refl H) (.bl _)⟩
  · rw [if_neg ho] at e
    cases e
theorem ev_neEL {m : M S (List A)} {n : M S (List B)} {k : Nat} (hr : ∀ i, Room k (Xs i).A) (ha : EV Xs F G a m) (hb : EV Xs F G b n) (hK : ∀ i, (Xs i).K = K := by intro _; rfl) : EV Xs F G (.Compare a [.NotEq] [b] pos) (neELM m n) :=
  ev_cmp (r := rNeEL K) (fun i => by rw [← hK i]; exact op_neEL (by have := (hr i).units; omega)) (rv_EL (K := K) (f := fun b => !b) fun x y H Q q => q) ha hb
theorem et_neEL {m : M S (List A)} {n : M S (List B)} {k : Nat} (hr : ∀ i, Room k (Xs i).A) (ha : EV Xs F G a m) (hb : EV Xs F G b n) (hK : ∀ i, (Xs i).K = K := by intro _; rfl) : ET Xs F G (.Compare a [.NotEq] [b] pos) (neELM m n) :=
  et_cmp (r := rNeEL K) (fun i => by rw [← hK i]; exact op_neEL (by have := (hr i).units; omega)) (rv_EL (K := K) (f := fun b => !b) fun x y H Q q => q) ha hb
end
theorem nf17 : (∀ {S A B : Type} (m : M S (List A)) (n : M S (List B)), neELM m n = bindM m fun l => bindM n fun r => guardM (r.isEmpty = true) (pureM (!l.isEmpty))) := fun m n => by
  show bindM m (fun x => bindM n fun y => ofO (if y.isEmpty = true then some _ else none)) = _
  simp only [ofO_if]
end PL

namespace PL
open PySem L2 Enc PySem.Spec PyProof.Rows
theorem tuple_mul1 (l : Addr) (items : Array Value) (n : Nat) (dd : Option Addr) (sl : Array (Option Value)) (u : Tok) :
    Meets (Builtin.«tuple.__mul__» ⟨[.ref l, .int 1 u], []⟩) (fun _ R s => s.heap.get? l = some { cls := .type "tuple", dict := dd, data := .seq items n, slots := sl } ∧ R (.ok (.ret (Value.ref l))) s) :=
  .of_wp fun prog w A R s h => by
    obtain ⟨hp, g, d, tk, os⟩ := s
    obtain ⟨hl, h⟩ := h
    have f1 := AutoSeq1.idx_int
    wp_walk using wpAny_loadPart' hl
    repeat (first
      | (refine wpAny_ite_false (decide_eq_false (by decide)) ?_; wp_walk using wpAny_loadPart' hl)
      | (refine wpAny_ite_true (decide_eq_true (by simp)) ?_; wp_walk using wpAny_loadPart' hl))
    exact ⟨_, rfl, h⟩
theorem tuple_mulN (l : Addr) (items : Array Value) (n : Nat) (dd : Option Addr) (sl : Array (Option Value)) (x : Int) (u : Tok) (c0 : (decide (x < -(2 ^ 63)) || decide (x ≥ 2 ^ 63)) = false) (c1 : (items.isEmpty || x == 1) = false) (c2 : (decide (x ≤ 0) || items.isEmpty) = true) :
    Meets (Builtin.«tuple.__mul__» ⟨[.ref l, .int x u], []⟩) (fun _ R s => s.heap.get? l = some { cls := .type "tuple", dict := dd, data := .seq items n, slots := sl } ∧
      R (.ok (.ret (Value.ref s.heap.objs.size))) { s with heap := s.heap.push { cls := Value.type "tuple", data := Data.seq #[] }, toks := s.toks }) :=
  .of_wp fun prog w A R s h => by
    obtain ⟨hp, g, d, tk, os⟩ := s
    obtain ⟨hl, h⟩ := h
    have f1 := AutoSeq1.idx_int
    wp_walk using wpAny_loadPart' hl
    repeat (first
      | (refine wpAny_ite_false (decide_eq_false (by rw [c0]; exact Bool.false_ne_true)) ?_; wp_walk using wpAny_loadPart' hl)
      | (refine wpAny_ite_false (decide_eq_false (by rw [c1]; exact Bool.false_ne_true)) ?_; wp_walk using wpAny_loadPart' hl)
      | (refine wpAny_ite_true (decide_eq_true (by rw [c2])) ?_; wp_walk using wpAny_loadPart' hl))
    exact ⟨_, rfl, h⟩
def rRepU (K : PySem.W.Frag) : R2 := fun x y H Q => ∃ (l : Addr) (k : Int) (xs : List V), x = .ref l ∧ y = .int k ∧ SqT K H l xs ∧ -1000 ≤ k ∧ k ≤ 1000 ∧ xs.length ≤ 1000 ∧ (xs = [] ∨ k = 1 → Q (.ref l) H) ∧ (xs ≠ [] → k ≠ 1 → NewT H (List.replicate k.toNat xs).flatten Q)
section
variable {X : Cx}
theorem op_repU : OpR X (binaryOp .Mult) (rRepU X.K) := by
  intro pins s σ H x y v u Q I rx ry h
  obtain ⟨l, k, xs, rfl, rfl, hT, h1, h2, hz, q0, q⟩ := h
  by_cases big : 2 ≤ k
  · exact op_repB pins s σ H _ _ v u Q I rx ry ⟨l, k, xs, rfl, rfl, hT, big, h2, hz, fun e => q0 (.inl e), fun e => q e (by omega)⟩
  cases rx
  obtain ⟨t, rfl⟩ := ry
  obtain ⟨its, r, ⟨⟨cls, dd, data, sl⟩, ho, hc, n, hd⟩, hs⟩ := I.tuple hT
  simp only at hc hd
  subst hc hd
  have c0 : (decide (k < -(2 ^ 63)) || decide (k ≥ 2 ^ 63)) = false := by
    rw [decide_eq_false (by omega), decide_eq_false (by omega)] <;> rfl
  by_cases hx : xs = []
  · subst hx
    cases r
    exact wpAny_binaryOp_repeat_ref (T := "tuple") (U := "int") (by decide) ⟨_, ho, rfl⟩ (fun s' => typeIs_int s' k t) noFill_tuple_mul F.fills_int_mul F.slot_int_rmul repeat_tuple F.slot_int_index.lookup
      (call_meets F.slot_int_rmul (typeIs_int s k t) F.entry_int_rmul (F.args_int_rmul_2 _ _) (int_rmul_tuple k t l _ n dd sl)
        ⟨ho, rfl, ⟨_, ho, rfl⟩, call_meets F.slot_tuple_mul ⟨_, ho, rfl⟩ F.entry_tuple_mul (F.args_tuple_mul_2 _ _) (tuple_mul0 l n dd sl k t c0) ⟨ho, ⟨.ref l, H, I, rfl, q0 (.inl rfl)⟩⟩⟩)
  by_cases k1 : k = 1
  · subst k1
    exact wpAny_binaryOp_repeat_ref (T := "tuple") (U := "int") (by decide) ⟨_, ho, rfl⟩ (fun s' => typeIs_int s' 1 t) noFill_tuple_mul F.fills_int_mul F.slot_int_rmul repeat_tuple F.slot_int_index.lookup
      (call_meets F.slot_int_rmul (typeIs_int s 1 t) F.entry_int_rmul (F.args_int_rmul_2 _ _) (int_rmul_tuple 1 t l _ n dd sl)
        ⟨ho, rfl, ⟨_, ho, rfl⟩, call_meets F.slot_tuple_mul ⟨_, ho, rfl⟩ F.entry_tuple_mul (F.args_tuple_mul_2 _ _) (tuple_mul1 l _ n dd sl t) ⟨ho, ⟨.ref l, H, I, rfl, q0 (.inr rfl)⟩⟩⟩)
  · have hle : its.length = xs.length := r.length.symm
    have hn : its ≠ [] := fun e => hx (by
      rw [e] at hle
      exact List.eq_nil_of_length_eq_zero hle.symm)
    have hi : its.toArray.isEmpty = false := by
      cases its with
      | nil => exact absurd rfl hn
      | cons a b => rfl
    have c1 : (its.toArray.isEmpty || k == 1) = false := by
      rw [hi, Bool.false_or]
      exact beq_eq_false_iff_ne.mpr k1
    have c2 : (decide (k ≤ 0) || its.toArray.isEmpty) = true := by
      rw [decide_eq_true (by omega)]
      rfl
    have q := q hx k1
    rw [show k.toNat = 0 by omega] at q
    refine wpAny_binaryOp_repeat_ref (T := "tuple") (U := "int") (by decide) ⟨_, ho, rfl⟩ (fun s' => typeIs_int s' k t) noFill_tuple_mul F.fills_int_mul F.slot_int_rmul repeat_tuple F.slot_int_index.lookup
      (call_meets F.slot_int_rmul (typeIs_int s k t) F.entry_int_rmul (F.args_int_rmul_2 _ _) (int_rmul_tuple k t l its.toArray n dd sl)
        ⟨ho, rfl, ⟨_, ho, rfl⟩, call_meets F.slot_tuple_mul ⟨_, ho, rfl⟩ F.entry_tuple_mul (F.args_tuple_mul_2 _ _) (tuple_mulN l its.toArray n dd sl k t c0 c1 c2) ⟨ho, ?_⟩⟩)
    exact layT (its := []) I .nil (Nat.zero_le _) q
end
section
variable {I S A : Type} [Enc A] {Xs : I → Cx} {F : Fm S} {G : List Sl} {pos : Pos} {a b : Expr} {K : PySem.W.Frag}
def repUM (m : M S (Tup A)) (n : M S Int) : M S (Tup A) := bin2 (fun (x : Tup A) (k : Int) => if -1000 ≤ k ∧ k ≤ 1000 ∧ (unTup x).length ≤ 1000 then some (toTup (List.replicate k.toNat (unTup x)).flatten) else none) m n
theorem ev_repU {m : M S (Tup A)} {n : M S Int} (ha : EV Xs F G a m) (hb : EV Xs F G b n) (hK : ∀ i, (Xs i).K = K := by intro _; rfl) : EV Xs F G (.BinOp a .Mult b pos) (repUM m n) :=
  ev_op (r := rRepU K) (fun i => by rw [← hK i]; exact op_repU) (fun F Zx G s t H x y vx vy z g rx ry e Q q => by
    replace e : (if -1000 ≤ y ∧ y ≤ 1000 ∧ (unTup x).length ≤ 1000 then some (toTup (List.replicate y.toNat (unTup x)).flatten) else none) = some z := e
    by_cases hl : -1000 ≤ y ∧ y ≤ 1000 ∧ (unTup x).length ≤ 1000
    · rw [if_pos hl] at e
      cases e
      have rx' := rx
      obtain ⟨pp, xs, rfl, n1, h, r⟩ := rx'.toTup
      obtain rfl := ry.toInt
      have hlen := r.len
      rw [List.length_map] at hlen
      refine ⟨pp, y, xs, rfl, rfl, h.sq, hl.1, hl.2.1, by omega, fun e0 => ?_, fun e0 k1 pn ob hn hb => ?_⟩
      · have ze : toTup (List.replicate y.toNat (unTup x)).flatten = x := by
          show (List.replicate y.toNat (unTup x)).flatten = unTup x
          rcases e0 with e0 | e0
          · have xe : unTup x = [] := List.length_eq_zero_iff.mp (by rw [← hlen, e0]; rfl)
            rw [xe]
            simp
          · rw [e0]
            simp
        rw [ze] at q
        exact q _ H (Same.refl H) rx
      · have sm : Same H (upd H pn (.frz ob (.tup (List.replicate y.toNat xs).flatten))) := same_new hn
        refine q _ _ sm (.tup (g.new hn) ⟨ob, upd_same, hb⟩ ?_)
        show RpL _ _ _ (List.map enc (List.replicate y.toNat (unTup x)).flatten)
        rw [flatten_map]
        exact (r.rep _).fix (Fix.same sm)
    · rw [if_neg hl] at e
      cases e) ha hb
end
theorem nf18 : (∀ {S A : Type} (m : M S (Tup A)) (n : M S Int), repUM m n = bindM m fun x => bindM n fun k => guardM (-1000 ≤ k ∧ k ≤ 1000 ∧ (unTup x).length ≤ 1000) (pureM (toTup (List.replicate k.toNat (unTup x)).flatten))) := fun m n => by
  show bindM m (fun x => bindM n fun y => ofO (if -1000 ≤ y ∧ y ≤ 1000 ∧ (unTup x).length ≤ 1000 then some _ else none)) = _
  simp only [ofO_if]
end PL

namespace PL
open PySem L2 Enc
def catS (x y : Str) : Option Str := if x.length + y.length ≤ sizeLine then some (x ++ y) else none
section
variable {S : Type}
def catSM (m n : M S Str) : M S Str := bin2 catS m n
def joinS (a : Str) (ys : List Str) : Option Str := if (ys.map (·.length)).sum + ys.length * a.length ≤ 16777216 then some (Txt.join a ys) else none
def joinM (m : M S Str) (n : M S (List Str)) : M S Str := bin2 joinS m n
def orSM (m n : M S Str) : M S Str := bindM m fun x => guardM (x.length ≤ sizeLine) (if x.length = 0 then n else pureM x)
/-- the field of an f-string: a text, a number -/
def fmtS (x : Str) : Option Str := if x.length ≤ sizeLine then some x else none
def fmtI (i : Int) : Option Str := if i.natAbs.log2 < 1920 then some (PyData.shown (.int i)) else none
/-- the parts of an f-string behind a text -/
def fsNil : M S (List Str) := pureM []
def gluedS (l : List Str) : Option Str := if (l.foldl (· ++ ·) Str.empty).length ≤ sizeLine ∧ ∀ k ≤ l.length, ((l.take k).foldl (· ++ ·) Str.empty).length ≤ sizeLine then some (l.foldl (· ++ ·) Str.empty) else none
end
section
variable {I S : Type} {Xs : I → Cx} {F : Fm S} {G : List Sl} {pos p apos : Pos} {e a b : Expr} {es : List Expr}
theorem ev_catS {m n : M S Str} (ha : EV Xs F G a m) (hb : EV Xs F G b n) : EV Xs F G (.BinOp a .Add b pos) (catSM m n) := ev_op (fun _ => op_add_str) (fun F Zx G s t H x y vx vy z g rx ry e Q q => by
  replace e : (if x.length + y.length ≤ sizeLine then some (x ++ y) else none) = some z := e
  by_cases hl : x.length + y.length ≤ sizeLine
  · rw [if_pos hl] at e
    cases e
    obtain rfl := rx.toStr
    obtain rfl := ry.toStr
    exact ⟨x, y, rfl, rfl, hl, q _ H (Same.refl H) (.str _)⟩
  · rw [if_neg hl] at e
    cases e) ha hb
theorem RpL.strs {Z : Addr → Prop} {H : Hp} : ∀ {v : List V} {ns : List Str}, RpL Z H v (ns.map enc) → v = ns.map V.str
  | _, [], .nil => rfl
  | _, n :: ns, .cons (.str _) t => by
    rw [RpL.strs t]
    rfl
def rJoinS (K : PySem.W.Frag) : V → List V → Hp → VK → Prop := fun x xs H Q => ∃ a p, ∃ ys : List Str, x = .str a ∧ xs = [.ref p] ∧ (SqL K H p (ys.map V.str) ∨ SqT K H p (ys.map V.str)) ∧ (ys.map (·.length)).sum + ys.length * a.length ≤ 16777216 ∧ Q (.str (Txt.join a ys)) H
theorem ev_join {m : M S Str} {n : M S (List Str)} (ha : EV Xs F G a m) (hb : EV Xs F G b n) (he : ∀ i, starEach [b] (Xs i).env = [(false, eval b (Xs i).env)] := by intro _; rfl)
    (hat : ∀ i, attributeBase a (Str.ofString "join") (Xs i).env (eval a (Xs i).env) = eval a (Xs i).env := by intro _; rfl) (hl : (apos.endLine == pos.line) = true := by rfl) (hK : ∀ i j, (Xs i).K = (Xs j).K := by intro _ _; rfl) (i0 : I) :
    EV Xs F G (.Call (.Attribute a "join" apos) [b] [] pos) (joinM m n) := by
  obtain ⟨ta, hp, ho⟩ := ha
  obtain ⟨tb, hq, hb⟩ := hb
  refine ⟨tM1 (rJoinS (Xs i0).K) ta tb, fun i => by rw [hK i0 i]; exact pe_join (hp i) (hq i) (he i) (hat i) hl, fun Zx t H s y s' g hm Q q => ?_⟩
  obtain ⟨x, s1, h1, h2⟩ := bind_some hm
  obtain ⟨ys, s2, h3, h4⟩ := bind_some h2
  obtain ⟨h5, rfl⟩ := ofO_eq h4
  replace h5 : (if (ys.map (·.length)).sum + ys.length * x.length ≤ 16777216 then some (Txt.join x ys) else none) = some y := h5
  refine ho Zx t H s x s1 g h1 _ fun v H1 g1 f1 r1 => ?_
  obtain rfl := r1.toStr
  refine ⟨⟨x, rfl⟩, hb Zx t H1 s1 ys s2 g1 h3 _ fun w H2 g2 f2 r2 => ?_⟩
  obtain ⟨pp, xs, rfl, n, h, l⟩ := r2.toLst
  rw [l.strs] at h
  by_cases c : (ys.map (·.length)).sum + ys.length * x.length ≤ 16777216
  · rw [if_pos c] at h5
    cases h5
    exact ⟨x, pp, ys, rfl, rfl, .inl (SqL.of h), c, q _ H2 g2 (f1.trans f2) (.str _)⟩
  · rw [if_neg c] at h5
    cases h5
theorem ev_orS {m n : M S Str} {b : Expr} (ha : EV Xs F G a m) (hb : EV Xs F G (.BoolOp .Or [b] pos) n) (hK : ∀ i j, (Xs i).K = (Xs j).K := by intro _ _; rfl) (i0 : I) : EV Xs F G (.BoolOp .Or [a, b] pos) (orSM m n) := by
  obtain ⟨ta, hp, ho⟩ := ha
  obtain ⟨tb, hq, hb⟩ := hb
  refine ⟨tOrT (Xs i0).K ta tb, fun i => by rw [hK i0 i]; exact pe_orT (hp i) (hq i), fun Zx t H s y s' g hm Q q => ?_⟩
  obtain ⟨x, s1, h1, h2⟩ := bind_some hm
  obtain ⟨h3, h4⟩ := guard_eq h2
  refine ho Zx t H s x s1 g h1 _ fun v H1 g1 f1 r1 => ?_
  obtain rfl := r1.toStr
  refine ⟨_, ⟨h3, rfl⟩, ?_⟩
  by_cases c : x.length = 0
  · rw [if_pos c] at h4
    rw [if_neg (by rw [c]; decide)]
    exact hb Zx t H1 s1 y s' g1 h4 Q fun v H2 g2 f2 r2 => q v H2 g2 (f1.trans f2) r2
  · rw [if_neg c] at h4
    obtain ⟨rfl, rfl⟩ := pure_eq h4
    rw [if_pos (by
      show ((x.length : Int) != 0) = true
      rw [bne_iff_ne]
      omega)]
    exact q _ H1 g1 f1 (.str _)
/-- a field -/
theorem ev_fmtI {m : M S Int} (h : EV Xs F G e m) : EV Xs F G (.FormattedValue e (-1) none pos) (fun1M fmtI m) := by
  obtain ⟨te, hp, ho⟩ := h
  refine ⟨tFmt te, fun i => pe_fmt (hp i), fun Zx t H s y s' g hm Q q => ?_⟩
  obtain ⟨x, s1, h1, h2⟩ := bind_some hm
  obtain ⟨h3, rfl⟩ := ofO_eq h2
  refine ho Zx t H s x s1 g h1 _ fun v H1 g1 f1 r1 => ?_
  obtain rfl := r1.toInt
  replace h3 : (if x.natAbs.log2 < 1920 then some (PyData.shown (.int x)) else none) = some y := h3
  by_cases c : x.natAbs.log2 < 1920
  · rw [if_pos c] at h3
    cases h3
    exact .inr ⟨x, rfl, c, q _ H1 g1 f1 (.str _)⟩
  · rw [if_neg c] at h3
    cases h3
theorem ev_fmtS {m : M S Str} (h : EV Xs F G e m) : EV Xs F G (.FormattedValue e (-1) none pos) (fun1M fmtS m) := by
  obtain ⟨te, hp, ho⟩ := h
  refine ⟨tFmt te, fun i => pe_fmt (hp i), fun Zx t H s y s' g hm Q q => ?_⟩
  obtain ⟨x, s1, h1, h2⟩ := bind_some hm
  obtain ⟨h3, rfl⟩ := ofO_eq h2
  refine ho Zx t H s x s1 g h1 _ fun v H1 g1 f1 r1 => ?_
  obtain rfl := r1.toStr
  replace h3 : (if x.length ≤ sizeLine then some x else none) = some y := h3
  by_cases c : x.length ≤ sizeLine
  · rw [if_pos c] at h3
    cases h3
    exact .inl ⟨_, rfl, c, q _ H1 g1 f1 (.str _)⟩
  · rw [if_neg c] at h3
    cases h3
/-- the parts of an f-string -/
def EJ (Xs : I → Cx) (F : Fm S) (G : List Sl) (es : List Expr) (m : M S (List Str)) : Prop := ∃ ts, (∀ i, PJ (Xs i) es ts) ∧
  ∀ Zx t H s l s', Gd F Zx G s t H → m s = some (l, s') → ∀ acc : Str, (∀ k ≤ l.length, ((l.take k).foldl (· ++ ·) acc).length ≤ sizeLine) → ∀ Q : Str → Hp → Prop, (∀ H', Gd F Zx G s' t H' → Fix F H H' → Q (l.foldl (· ++ ·) acc) H') → tJs ts acc t H Q
theorem ej_nil : EJ Xs F G [] (pureM []) := by
  refine ⟨[], fun _ => .nil, fun Zx t H s l s' g hm acc hl Q q => ?_⟩
  obtain ⟨rfl, rfl⟩ := pure_eq hm
  exact q H g (Fix.refl H)
theorem ej_cons {m : M S Str} {n : M S (List Str)} (h : EV Xs F G e m) (hr : EJ Xs F G es n) : EJ Xs F G (e :: es) (consM m n) := by
  obtain ⟨te, hp, ho⟩ := h
  obtain ⟨ts, hq, hb⟩ := hr
  refine ⟨te :: ts, fun i => .cons (hp i) (hq i), fun Zx t H s l s' g hm acc hl Q q => ?_⟩
  obtain ⟨x, s1, h1, h2⟩ := bind_some hm
  obtain ⟨r, s2, h3, h4⟩ := bind_some h2
  obtain ⟨rfl, rfl⟩ := pure_eq h4
  refine ho Zx t H s x s1 g h1 _ fun v H1 g1 f1 r1 => ?_
  obtain rfl := r1.toStr
  refine ⟨_, rfl, hl 1 (by simp), hb Zx t H1 s1 r s2 g1 h3 _ (fun k hk => hl (k + 1) (by simpa using hk)) Q fun H2 g2 f2 => q H2 g2 (f1.trans f2)⟩
def fstrM (m : M S (List Str)) : M S Str := fun1M gluedS m
theorem ev_fstr {e2 : Expr} {m : M S (List Str)} (h : EJ Xs F G (e :: e2 :: es) m) : EV Xs F G (.JoinedStr (e :: e2 :: es) pos) (fstrM m) := by
  obtain ⟨ts, hp, ho⟩ := h
  refine ⟨_, fun i => pe_joined (hp i), fun Zx t H s y s' g hm Q q => ?_⟩
  obtain ⟨l, s1, h1, h2⟩ := bind_some hm
  obtain ⟨h3, rfl⟩ := ofO_eq h2
  unfold gluedS at h3
  split at h3
  · rename_i c
    cases h3
    exact ho Zx t H s l s1 g h1 Str.empty c.2 _ fun H1 g1 f1 => q _ H1 g1 f1 (.str _)
  · cases h3
end
end PL

namespace K55
open PySem L2 PL PL.Enc
def topS (i : Nat) : Stmt := PySem.Challenge.pw_canpath_k55_garden_texts.main.body.getD i (.Pass ⟨0, 0, 0, 0⟩)
section
variable {P : Program} {w : World} {K : PySem.W.Frag} {mg : Str → Option Value} {base : Heap}
structure Txt (K : PySem.W.Frag) (mg : Str → Option Value) : Prop where
  d_garden_text : ∃ f fd, Fun K "garden_text" "garden_text" (topS 4) f fd ∧ mg "garden_text" = some (.ref f) ∧ Binds K fd ["garden"] []
  d__law_deck : ∃ f fd, Fun K "_law_deck" "_law_deck" (topS 6) f fd ∧ mg "_law_deck" = some (.ref f) ∧ Binds K fd ["_law_script"] []
  d__law_draw : ∃ f fd, Fun K "_law_draw" "_law_draw" (topS 7) f fd ∧ mg "_law_draw" = some (.ref f) ∧ Binds K fd ["_law_deck_here", "_law_many"] []
  d__law_garden : ∃ f fd, Fun K "_law_garden" "_law_garden" (topS 8) f fd ∧ mg "_law_garden" = some (.ref f) ∧ Binds K fd ["_law_deck_here", "_law_most"] []
  d__law_text : ∃ f fd, Fun K "_law_text" "_law_text" (topS 9) f fd ∧ mg "_law_text" = some (.ref f) ∧ Binds K fd ["_law_garden_here"] []
  z_abs : mg "abs" = none
  z_enumerate : mg "enumerate" = none
  z_int : mg "int" = none
  z_isinstance : mg "isinstance" = none
  z_len : mg "len" = none
  z_range : mg "range" = none
  z_repr : mg "repr" = none
  z_sorted : mg "sorted" = none
  z_str : mg "str" = none
  z_tuple : mg "tuple" = none
  g_COLON : ∃ t, mg "COLON" = some (.str ":" t)
  g_COMMA : ∃ t, mg "COMMA" = some (.str "," t)
  g_NO_BEDS : ∃ t, mg "NO_BEDS" = some (.str "none" t)
abbrev st_garden_text : Stmt := topS 4
abbrev N_garden_text : List Str := ["garden", "tap", "can", "beds", "words", "place", "litres"]
theorem sc_garden_text : FnScope N_garden_text ["garden"] (defScope st_garden_text) := ⟨rfl, rfl, rfl, by decide +kernel, rfl, by decide +kernel, by decide +kernel⟩
def m_garden_text (u : (T3 Int Int (Tup (Int × Int))) × Unit) : M Unit (Fl Unit Empty Str) :=
  (seqM (setS (pureM u.1)) (fun y1 : (T3 Int Int (Tup (Int × Int))) => (seqM (setS (compM (mapM1 unTup (pureM y1.c)) (fun x3 : (Int × Int) => (pureM true)) (fun x3 : (Int × Int) => (fstrM (consM (fun1M fmtI (pureM x3.1)) (consM (fun1M fmtS (pureM (":" : Str))) (consM (fun1M fmtI (pureM x3.2)) (pureM ([] : List Str))))))))) (fun words2 : (List Str) => (retS (fstrM (consM (fun1M fmtI (pureM y1.a)) (consM (pureM (" " : Str)) (consM (fun1M fmtI (pureM y1.b)) (consM (pureM (" " : Str)) (consM (fun1M fmtS (orSM (joinM (pureM ("," : Str)) (pureM words2)) (pureM ("none" : Str)))) (pureM ([] : List Str)))))))))))))
def en_garden_text (u : (T3 Int Int (Tup (Int × Int))) × Unit) : List PyData := [enc (u.1)]
def f_garden_text (u : (T3 Int Int (Tup (Int × Int))) × Unit) : Option Str := (retM none (m_garden_text u) ()).map (·.1)
theorem ok_garden_text (T : Txt K mg) : DefG P w K mg base CX0 1 "garden_text" ["garden"] (spP en_garden_text f_garden_text) := by
  obtain ⟨f, fd, F, hg, hb⟩ := T.d_garden_text
  refine defP F sc_garden_text hg hb (fun _ => rfl) (fun _ h => by cases h) fun cdv A outer s H E hr hgd u => ⟨fun _ => [], ?_⟩
  exact (sv_cons (ss_asg (ev_var (k := 0) (y := u.1)) (fun y1 => (bd_tup (bds_cons (bd_name (k := 1) (hN := fun _ => sc_garden_text.nd)) (bds_cons (bd_name (k := 2) (hN := fun _ => sc_garden_text.nd)) (bds_cons (bd_name (k := 3) (hN := fun _ => sc_garden_text.nd)) bds_nil)))))) (fun y1 => (sv_cons (ss_setLc (k := 4) (own := [("place", 5), ("litres", 6)]) (iv_tup (ev_var (k := 3) (y := y1.c))) (fun _ => blkOk_by (N := N_garden_text) (sc := defScope st_garden_text) (by decide +kernel)) (fun _ => sc_garden_text.nd) rfl (by decide) (fun x3 => (bd_tup (bds_cons (bd_name (k := 5) (hN := fun _ => sc_garden_text.nd)) (bds_cons (bd_name (k := 6) (hN := fun _ => sc_garden_text.nd)) bds_nil)))) (fun x3 => ei_nil) (fun x3 => (ev_fstr (ej_cons (ev_fmtI (ev_var (k := 5) (y := x3.1))) (ej_cons (ev_fmtS (ev_globs (n := ":") (fun _ => T.g_COLON))) (ej_cons (ev_fmtI (ev_var (k := 6) (y := x3.2))) ej_nil)))))) (fun words2 => (sv_one (ss_ret (ev_fstr (ej_cons (ev_fmtI (ev_var (k := 1) (y := y1.a))) (ej_cons ev_str (ej_cons (ev_fmtI (ev_var (k := 2) (y := y1.b))) (ej_cons ev_str (ej_cons (ev_fmtS (ev_orS (ev_join (ev_globs (n := ",") (fun _ => T.g_COMMA)) (ev_var (k := 4) (y := words2)) (i0 := ())) (ev_one (ev_globs (n := "none") (fun _ => T.g_NO_BEDS))) (i0 := ()))) ej_nil))))))))))))
abbrev st__law_deck : Stmt := topS 6
abbrev N__law_deck : List Str := ["_law_script", "_law_cell"]
theorem sc__law_deck : FnScope N__law_deck ["_law_script"] (defScope st__law_deck) := ⟨rfl, rfl, rfl, by decide +kernel, rfl, by decide +kernel, by decide +kernel⟩
def m__law_deck (ns : List Int) : M Unit (Fl Unit Empty PyData) :=
  (retS (mapM1 enc (lstM (consM (mapM1 enc (compM (pureM (ns.take 63)) (fun x1 : Int => (pureM true)) (fun x1 : Int => (fun1M (fun n : Int => some (absI n)) (pureM x1))))) (consM (mapM1 enc (pureM (0 : Int))) (pureM ([] : List PyData)))))))
def f__law_deck (ns : List Int) : Option PyData := (retM none (m__law_deck ns) ()).map (·.1)
theorem ok__law_deck (T : Txt K mg) : DefG P w K mg base CX0 1 "_law_deck" ["_law_script"] (spMk K f__law_deck) := by
  obtain ⟨f, fd, F, hg, hb⟩ := T.d__law_deck
  refine defMk F sc__law_deck hg hb fun cdv A outer s H E hr hgd ns => ⟨fun _ => [], ?_⟩
  exact (sv_one (ss_ret (ev_any (ev_lst (el_cons (ev_any (ev_lc (own := [("_law_cell", 1)]) (iv_list (ev_scrCut (j := 0) (n := 63) (by rfl))) (fun _ => blkOk_by (N := N__law_deck) (sc := defScope st__law_deck) (by decide +kernel)) (fun _ => sc__law_deck.nd) rfl (by decide) (fun x1 => (bd_name (k := 1) (hN := fun _ => sc__law_deck.nd))) (fun x1 => ei_nil) (fun x1 => (ev_abs (fun _ => T.z_abs) (ev_var (k := 1) (y := x1)))))) (el_cons (ev_any ev_int) el_nil))))))
abbrev st__law_draw : Stmt := topS 7
abbrev N__law_draw : List Str := ["_law_deck_here", "_law_many", "_law_cell", "_law_place"]
theorem sc__law_draw : FnScope N__law_draw ["_law_deck_here", "_law_many"] (defScope st__law_draw) := ⟨rfl, rfl, rfl, by decide +kernel, rfl, by decide +kernel, by decide +kernel⟩
def m__law_draw (u : Int × Unit) : M Dk (Fl Unit Empty Int) :=
  (seqM (bindM (addM dkN (pureM (1 : Int))) fun y => bindM (dkSetN y) fun _ => pureM (.nx ())) (fun _ : Unit => (seqM (setS (pureM (0 : Int))) (fun cell1 : Int => (seqM (setS (negM (pureM (1 : Int)))) (fun place2 : Int => (seqM (iteM (gtM dkLen (pureM (0 : Int))) (seqM (setS (modM dkN dkLen)) (fun place3 : Int => (seqM (setS (bindM (pureM place3) dkCell)) (fun cell4 : Int => (pureM (.nx (cell4, place3))))))) (pureM (.nx (cell1, place2)))) (fun s5 : (Int × Int) => (seqM (iteM (geM (pureM s5.1) (powM (pureM (10 : Int)) (pureM (18 : Int)))) (seqM (bindM (divM (pureM s5.1) (pureM u.1)) fun y => bindM (pureM s5.2) fun i => bindM (dkSetCell i y) fun _ => pureM (.nx ())) (fun _ : Unit => (retS (modM (pureM s5.1) (pureM u.1))))) (pureM (.nx ()))) (fun s6 : Unit => (retS (modM (modM (powM (addM (addM (modM (pureM s5.1) (pureM (2147483587 : Int))) (mulM (pureM (7919 : Int)) dkN)) (pureM (1 : Int))) (pureM (5 : Int))) (pureM (2147483647 : Int))) (pureM u.1)))))))))))))
def en__law_draw (u : Int × Unit) : List PyData := [enc (u.1)]
def d__law_draw (u : Int × Unit) : M Dk Int := retM none (m__law_draw u)
theorem ok__law_draw (T : Txt K mg) : DefG P w K mg base CX0 1 "_law_draw" ["_law_deck_here", "_law_many"] (spD fmA rootA en__law_draw d__law_draw) := by
  obtain ⟨f, fd, F, hg, hb⟩ := T.d__law_draw
  refine defD F sc__law_draw hg hb (fun _ => rfl) (fun _ h => by cases h) fun cdv A outer s H E hr hgd dk u => ⟨fun _ => [], ?_⟩
  exact (sv_cons (ss_dkN (j := 0) (by rfl) (ev_add (ev_dkN (j := 0) (by rfl)) ev_int)) (fun _ => (sv_cons (ss_set (k := 2) ev_int (fun _ => sc__law_draw.nd)) (fun cell1 => (sv_cons (ss_set (k := 3) (ev_neg ev_int) (fun _ => sc__law_draw.nd)) (fun place2 => (sv_cons (ss_if (Gn := (fun s5 : (Int × Int) => [.raw (.ref (rootA dk)), .dat (enc u.1), .dat (enc s5.1), .dat (enc s5.2)])) (et_gt (ev_dkLen (j := 0) (fun _ => T.z_len) (by rfl)) ev_int) (sv_cons (ss_set (k := 3) (ev_mod (ev_dkN (j := 0) (by rfl)) (ev_dkLen (j := 0) (fun _ => T.z_len) (by rfl))) (fun _ => sc__law_draw.nd)) (fun place3 => (sv_cons (ss_set (k := 2) (ev_dkCell (j := 0) (by rfl) (ev_var (k := 3) (y := place3))) (fun _ => sc__law_draw.nd)) (fun cell4 => (sv_nil (.same (.same (.same (.same SubG.nil))))))))) (sv_nil (.same (.same (.same (.same SubG.nil)))))) (fun s5 => (sv_cons (ss_if (Gn := (fun s6 : Unit => [.raw (.ref (rootA dk)), .dat (enc u.1), .dat (enc s5.1), .dat (enc s5.2)])) (et_ge (ev_var (k := 2) (y := s5.1)) (ev_pow ev_int ev_int)) (sv_cons (ss_dkCell (j := 0) (by rfl) (ev_fdiv (ev_var (k := 2) (y := s5.1)) (ev_var (k := 1) (y := u.1))) (ev_var (k := 3) (y := s5.2))) (fun _ => (sv_one (ss_ret (ev_mod (ev_var (k := 2) (y := s5.1)) (ev_var (k := 1) (y := u.1))))))) (sv_nil (.same (.same (.same (.same SubG.nil)))))) (fun s6 => (sv_one (ss_ret (ev_mod (ev_mod (ev_pow (ev_add (ev_add (ev_mod (ev_var (k := 2) (y := s5.1)) ev_int) (ev_mul ev_int (ev_dkN (j := 0) (by rfl)))) ev_int) ev_int) ev_int) (ev_var (k := 1) (y := u.1)))))))))))))))
abbrev st__law_garden : Stmt := topS 8
abbrev N__law_garden : List Str := ["_law_deck_here", "_law_most", "_law_reach", "_law_some", "_law_k", "_law_place", "_law_top", "_law_beds", "_law_tap", "_law_can"]
theorem sc__law_garden : FnScope N__law_garden ["_law_deck_here", "_law_most"] (defScope st__law_garden) := ⟨rfl, rfl, rfl, by decide +kernel, rfl, by decide +kernel, by decide +kernel⟩
def m__law_garden (u : Int × Unit) : M Dk (Fl Unit Empty (T3 Int Int (Tup (Int × Int)))) :=
  (seqM (setS (pairM (ixM (lstM (consM (pureM (4 : Int)) (consM (pureM (20 : Int)) (consM (powM (pureM (10 : Int)) (pureM (6 : Int))) (pureM ([] : List Int)))))) (bindM (pairM (pureM (3 : Int)) (pureM ())) d__law_draw)) (pairM (lstM (pureM ([] : List Int))) (pureM ())))) (fun uv1 : (Int × (List Int) × Unit) => (seqM (forS (rng1M (bindM (pairM (addM (pureM u.1) (pureM (1 : Int))) (pureM ())) d__law_draw)) (fun (s2 : ((List Int))) (x3 : Int) => (seqM (setS (subM (bindM (pairM (addM (mulM (pureM (2 : Int)) (pureM uv1.1)) (pureM (1 : Int))) (pureM ())) d__law_draw) (pureM uv1.1))) (fun place4 : Int => (seqM (setS (catM (pureM s2) (repM (lstM (consM (pureM place4) (pureM ([] : List Int)))) (fun1M (fun n : Bool => some (b2I n)) (ninIM (pureM place4) (pureM s2)))))) (fun some5 : (List Int) => (pureM (.nx (some5)))))))) (uv1.2.1)) (fun s6 : ((List Int)) => (seqM (setS (ixM (lstM (consM (pureM (3 : Int)) (consM (pureM (30 : Int)) (consM (powM (pureM (10 : Int)) (pureM (9 : Int))) (pureM ([] : List Int)))))) (bindM (pairM (pureM (3 : Int)) (pureM ())) d__law_draw))) (fun top7 : Int => (seqM (setS (fun1M (fun l : (List (Int × Int)) => some (toTup l)) (compM (fun1M (fun l : List Int => some (sortI l)) (pureM s6)) (fun x9 : Int => (pureM true)) (fun x9 : Int => (tup2M (pureM x9) (addM (pureM (1 : Int)) (bindM (pairM (pureM top7) (pureM ())) d__law_draw))))))) (fun beds8 : (Tup (Int × Int)) => (seqM (setS (ixM (lstM (consM (subM (bindM (pairM (addM (mulM (pureM (2 : Int)) (pureM uv1.1)) (pureM (1 : Int))) (pureM ())) d__law_draw) (pureM uv1.1)) (consM (ixM (catM (pureM s6) (lstM (consM (pureM (0 : Int)) (pureM ([] : List Int))))) (bindM (pairM (addM (fun1M (fun l : (List Int) => some (l.length : Int)) (pureM s6)) (pureM (1 : Int))) (pureM ())) d__law_draw)) (pureM ([] : List Int))))) (bindM (pairM (pureM (2 : Int)) (pureM ())) d__law_draw))) (fun tap10 : Int => (seqM (setS (addM (pureM (1 : Int)) (bindM (pairM (ixM (lstM (consM (pureM (3 : Int)) (consM (pureM (30 : Int)) (consM (powM (pureM (10 : Int)) (pureM (6 : Int))) (pureM ([] : List Int)))))) (bindM (pairM (pureM (3 : Int)) (pureM ())) d__law_draw)) (pureM ())) d__law_draw))) (fun can11 : Int => (retS (tup3M (pureM tap10) (pureM can11) (pureM beds8)))))))))))))))
def en__law_garden (u : Int × Unit) : List PyData := [enc (u.1)]
def d__law_garden (u : Int × Unit) : M Dk (T3 Int Int (Tup (Int × Int))) := retM none (m__law_garden u)
theorem ok__law_garden (T : Txt K mg) : DefG P w K mg base CX0 2 "_law_garden" ["_law_deck_here", "_law_most"] (spD fmA rootA en__law_garden d__law_garden) := by
  obtain ⟨f, fd, F, hg, hb⟩ := T.d__law_garden
  refine defD F sc__law_garden hg hb (fun _ => rfl) (fun _ h => by cases h) fun cdv A outer s H E hr hgd dk u => ⟨fun _ => [], ?_⟩
  exact (sv_cons (ss_par2 (i := 2) (j := 3) (ek_d (ev_ixL (ev_lst (el_cons ev_int (el_cons ev_int (el_cons (ev_pow ev_int ev_int) el_nil)))) (ev_callD (Fm_ := fmA) (root := rootA) dk (j := 0) (D := fun _ => ok__law_draw T) (fun _ => hr.mono (by decide)) (fun _ => hgd) (by rfl) rfl (ea_cons ev_int ea_nil))) (ek_d (ev_lst el_nil) ek_nil)) (fun _ => sc__law_garden.nd)) (fun uv1 => (sv_cons (ss_for (Gs := (fun s2 : ((List Int)) => [.raw (.ref (rootA dk)), .dat (enc u.1), .dat (enc uv1.1), .dat (enc s2), .un, .un, .un, .un, .un, .un])) (y0 := (uv1.2.1)) (iv_range1 (fun _ => T.z_range) (ev_callD (Fm_ := fmA) (root := rootA) dk (j := 0) (D := fun _ => ok__law_draw T) (fun _ => hr.mono (by decide)) (fun _ => hgd) (by rfl) rfl (ea_cons (ev_add (ev_var (k := 1) (y := u.1)) ev_int) ea_nil))) (.same (.same (.same (.same (.same (.same (.same (.same (.same (.same SubG.nil)))))))))) (fun s2 x3 => (bd_name (k := 4) (hN := fun _ => sc__law_garden.nd))) (fun s2 x3 => (sv_cons (ss_set (k := 5) (ev_sub (ev_callD (Fm_ := fmA) (root := rootA) dk (j := 0) (D := fun _ => ok__law_draw T) (fun _ => hr.mono (by decide)) (fun _ => hgd) (by rfl) rfl (ea_cons (ev_add (ev_mul ev_int (ev_var (k := 2) (y := uv1.1))) ev_int) ea_nil)) (ev_var (k := 2) (y := uv1.1))) (fun _ => sc__law_garden.nd)) (fun place4 => (sv_cons (ss_set (k := 3) (ev_catL (ev_var (k := 3) (y := s2)) (ev_rep (ev_lst (el_cons (ev_var (k := 5) (y := place4)) el_nil)) (ev_intB (fun _ => T.z_int) (ev_ninI (ev_var (k := 5) (y := place4)) (ev_var (k := 3) (y := s2)))))) (fun _ => sc__law_garden.nd)) (fun some5 => (sv_nil (.same (.same (.same (.same (.un (.un (.same (.same (.same (.same SubG.nil)))))))))))))))) (fun _ => PassesOwn.never)) (fun s6 => (sv_cons (ss_set (k := 6) (ev_ixL (ev_lst (el_cons ev_int (el_cons ev_int (el_cons (ev_pow ev_int ev_int) el_nil)))) (ev_callD (Fm_ := fmA) (root := rootA) dk (j := 0) (D := fun _ => ok__law_draw T) (fun _ => hr.mono (by decide)) (fun _ => hgd) (by rfl) rfl (ea_cons ev_int ea_nil))) (fun _ => sc__law_garden.nd)) (fun top7 => (sv_cons (ss_set (k := 7) (ev_tupleL (fun _ => T.z_tuple) (ev_lc (own := [("_law_place", 5)]) (iv_list (ev_sortedI (fun _ => T.z_sorted) (ev_var (k := 3) (y := s6)))) (fun _ => blkOk_by (N := N__law_garden) (sc := defScope st__law_garden) (by decide +kernel)) (fun _ => sc__law_garden.nd) rfl (by decide) (fun x9 => (bd_name (k := 5) (hN := fun _ => sc__law_garden.nd))) (fun x9 => ei_nil) (fun x9 => (ev_tup2 (ev_var (k := 5) (y := x9)) (ev_add ev_int (ev_callD (Fm_ := fmA) (root := rootA) dk (j := 0) (D := fun _ => ok__law_draw T) (fun _ => hr.mono (by decide)) (fun _ => hgd) (by rfl) rfl (ea_cons (ev_var (k := 6) (y := top7)) ea_nil))))))) (fun _ => sc__law_garden.nd)) (fun beds8 => (sv_cons (ss_set (k := 8) (ev_ixL (ev_lst (el_cons (ev_sub (ev_callD (Fm_ := fmA) (root := rootA) dk (j := 0) (D := fun _ => ok__law_draw T) (fun _ => hr.mono (by decide)) (fun _ => hgd) (by rfl) rfl (ea_cons (ev_add (ev_mul ev_int (ev_var (k := 2) (y := uv1.1))) ev_int) ea_nil)) (ev_var (k := 2) (y := uv1.1))) (el_cons (ev_ixL (ev_catL (ev_var (k := 3) (y := s6)) (ev_lst (el_cons ev_int el_nil))) (ev_callD (Fm_ := fmA) (root := rootA) dk (j := 0) (D := fun _ => ok__law_draw T) (fun _ => hr.mono (by decide)) (fun _ => hgd) (by rfl) rfl (ea_cons (ev_add (ev_lenL (fun _ => T.z_len) (ev_var (k := 3) (y := s6))) ev_int) ea_nil))) el_nil))) (ev_callD (Fm_ := fmA) (root := rootA) dk (j := 0) (D := fun _ => ok__law_draw T) (fun _ => hr.mono (by decide)) (fun _ => hgd) (by rfl) rfl (ea_cons ev_int ea_nil))) (fun _ => sc__law_garden.nd)) (fun tap10 => (sv_cons (ss_set (k := 9) (ev_add ev_int (ev_callD (Fm_ := fmA) (root := rootA) dk (j := 0) (D := fun _ => ok__law_draw T) (fun _ => hr.mono (by decide)) (fun _ => hgd) (by rfl) rfl (ea_cons (ev_ixL (ev_lst (el_cons ev_int (el_cons ev_int (el_cons (ev_pow ev_int ev_int) el_nil)))) (ev_callD (Fm_ := fmA) (root := rootA) dk (j := 0) (D := fun _ => ok__law_draw T) (fun _ => hr.mono (by decide)) (fun _ => hgd) (by rfl) rfl (ea_cons ev_int ea_nil))) ea_nil))) (fun _ => sc__law_garden.nd)) (fun can11 => (sv_one (ss_ret (ev_tup3 (ev_var (k := 8) (y := tap10)) (ev_var (k := 9) (y := can11)) (ev_var (k := 7) (y := beds8)))))))))))))))))
abbrev st__law_text : Stmt := topS 9
abbrev N__law_text : List Str := ["_law_garden_here", "_law_beds", "_law_place", "_law_litres"]
theorem sc__law_text : FnScope N__law_text ["_law_garden_here"] (defScope st__law_text) := ⟨rfl, rfl, rfl, by decide +kernel, rfl, by decide +kernel, by decide +kernel⟩
def m__law_text (u : (T3 Int Int (Tup (Int × Int))) × Unit) : M Unit (Fl Unit Empty Str) :=
  (seqM (setS (joinM (pureM ("," : Str)) (compM (mapM1 unTup (mapM1 (fun y : (T3 Int Int (Tup (Int × Int))) => y.c) (pureM u.1))) (fun x2 : (Int × Int) => (pureM true)) (fun x2 : (Int × Int) => (catSM (catSM (fun1M strV (mapM1 enc (pureM x2.1))) (pureM (":" : Str))) (fun1M strV (mapM1 enc (pureM x2.2)))))))) (fun beds1 : Str => (retS (joinM (pureM (" " : Str)) (lstM (consM (fun1M strV (mapM1 enc (mapM1 (fun y : (T3 Int Int (Tup (Int × Int))) => y.a) (pureM u.1)))) (consM (fun1M strV (mapM1 enc (mapM1 (fun y : (T3 Int Int (Tup (Int × Int))) => y.b) (pureM u.1)))) (consM (iteM (neSM (pureM beds1) (pureM ("" : Str))) (pureM beds1) (pureM ("none" : Str))) (pureM ([] : List Str))))))))))
def en__law_text (u : (T3 Int Int (Tup (Int × Int))) × Unit) : List PyData := [enc (u.1)]
def f__law_text (u : (T3 Int Int (Tup (Int × Int))) × Unit) : Option Str := (retM none (m__law_text u) ()).map (·.1)
theorem ok__law_text (T : Txt K mg) : DefG P w K mg base CX0 1 "_law_text" ["_law_garden_here"] (spP en__law_text f__law_text) := by
  obtain ⟨f, fd, F, hg, hb⟩ := T.d__law_text
  refine defP F sc__law_text hg hb (fun _ => rfl) (fun _ h => by cases h) fun cdv A outer s H E hr hgd u => ⟨fun _ => [], ?_⟩
  exact (sv_cons (ss_set (k := 1) (ev_join ev_str (ev_lc (own := [("_law_place", 2), ("_law_litres", 3)]) (iv_tup (ev_proj (k := 2) (fun y : (T3 Int Int (Tup (Int × Int))) => y.c) (fun _ => ⟨_, rfl, rfl⟩) (ev_var (k := 0) (y := u.1)))) (fun _ => blkOk_by (N := N__law_text) (sc := defScope st__law_text) (by decide +kernel)) (fun _ => sc__law_text.nd) rfl (by decide) (fun x2 => (bd_tup (bds_cons (bd_name (k := 2) (hN := fun _ => sc__law_text.nd)) (bds_cons (bd_name (k := 3) (hN := fun _ => sc__law_text.nd)) bds_nil)))) (fun x2 => ei_nil) (fun x2 => (ev_catS (ev_catS (ev_strA (fun _ => T.z_str) (ev_any (ev_var (k := 2) (y := x2.1)))) ev_str) (ev_strA (fun _ => T.z_str) (ev_any (ev_var (k := 3) (y := x2.2))))))) (i0 := ())) (fun _ => sc__law_text.nd)) (fun beds1 => (sv_one (ss_ret (ev_join ev_str (ev_lst (el_cons (ev_strA (fun _ => T.z_str) (ev_any (ev_proj (k := 0) (fun y : (T3 Int Int (Tup (Int × Int))) => y.a) (fun _ => ⟨_, rfl, rfl⟩) (ev_var (k := 0) (y := u.1))))) (el_cons (ev_strA (fun _ => T.z_str) (ev_any (ev_proj (k := 1) (fun y : (T3 Int Int (Tup (Int × Int))) => y.b) (fun _ => ⟨_, rfl, rfl⟩) (ev_var (k := 0) (y := u.1))))) (el_cons (ev_if (et_neS (ev_var (k := 1) (y := beds1)) ev_str) (ev_var (k := 1) (y := beds1)) ev_str) el_nil)))) (i0 := ()))))))
abbrev st_law : Stmt := topS 10
abbrev N_law : List Str := ["_law_script", "_law_deck_here", "_law_wide", "_law_gardens", "_law_texts", "_law_garden_here", "_law_kept", "_law_text_here", "_law_k", "_law_other"]
theorem sc_law : FnScope N_law ["_law_script"] (defScope st_law) := ⟨rfl, rfl, rfl, by decide +kernel, rfl, by decide +kernel, by decide +kernel⟩
def m_law : M Dk (Fl Unit Empty Bool) :=
  (seqM (setS (fun1M (fun l : (List (Int × Int)) => some (toTup l)) (compM (rng1M (pureM (12 : Int))) (fun x2 : Int => (pureM true)) (fun x2 : Int => (tup2M (addM (subM (pureM (1000000 : Int)) (pureM (11 : Int))) (pureM x2)) (powM (pureM (10 : Int)) (pureM (9 : Int)))))))) (fun wide1 : (Tup (Int × Int)) => (seqM (setS (lstM (consM (tup3M (pureM (0 : Int)) (pureM (1 : Int)) (tupM (pureM ([] : List (Int × Int))))) (consM (tup3M (negM (powM (pureM (10 : Int)) (pureM (6 : Int)))) (powM (pureM (10 : Int)) (pureM (6 : Int))) (pureM wide1)) (consM (tup3M (powM (pureM (10 : Int)) (pureM (6 : Int))) (pureM (1 : Int)) (tupM (consM (tup2M (negM (powM (pureM (10 : Int)) (pureM (6 : Int)))) (pureM (1 : Int))) (pureM ([] : List (Int × Int)))))) (consM (tup3M (pureM (1 : Int)) (pureM (11 : Int)) (tupM (pureM ([] : List (Int × Int))))) (consM (tup3M (pureM (11 : Int)) (pureM (1 : Int)) (tupM (pureM ([] : List (Int × Int))))) (pureM ([] : List (T3 Int Int (Tup (Int × Int)))))))))))) (fun gardens3 : (List (T3 Int Int (Tup (Int × Int)))) => (seqM (setS (catM (pureM gardens3) (lstM (consM (tup3M (pureM (0 : Int)) (pureM (2 : Int)) (tupM (consM (tup2M (pureM (1 : Int)) (pureM (1 : Int))) (pureM ([] : List (Int × Int)))))) (consM (tup3M (pureM (0 : Int)) (pureM (2 : Int)) (tupM (consM (tup2M (negM (pureM (1 : Int))) (pureM (1 : Int))) (pureM ([] : List (Int × Int)))))) (consM (tup3M (pureM (0 : Int)) (pureM (2 : Int)) (tupM (consM (tup2M (pureM (1 : Int)) (pureM (1 : Int))) (consM (tup2M (pureM (3 : Int)) (pureM (2 : Int))) (pureM ([] : List (Int × Int))))))) (consM (tup3M (pureM (0 : Int)) (pureM (2 : Int)) (tupM (consM (tup2M (pureM (11 : Int)) (pureM (3 : Int))) (consM (tup2M (pureM (12 : Int)) (pureM (2 : Int))) (pureM ([] : List (Int × Int))))))) (pureM ([] : List (T3 Int Int (Tup (Int × Int)))))))))))) (fun gardens4 : (List (T3 Int Int (Tup (Int × Int)))) => (seqM (setS (pairM (catM (pureM gardens4) (compM (rng1M (pureM (12 : Int))) (fun x6 : Int => (pureM true)) (fun x6 : Int => (bindM (pairM (pureM (12 : Int)) (pureM ())) d__law_garden)))) (pairM (pureM ([] : (List Str))) (pureM ())))) (fun uv5 : ((List (T3 Int Int (Tup (Int × Int)))) × (List Str) × Unit) => (seqM (forS (pureM uv5.1) (fun (s7 : ((List Str))) (x8 : (T3 Int Int (Tup (Int × Int)))) => (seqM (setS (pairM (fun1M repF (pureM x8)) (pairM (callF f_garden_text (pairM (pureM x8) (pureM ()))) (pureM ())))) (fun uv9 : (Str × Str × Unit) => (seqM (iteM (orM (notM (mapM1 (fun y : Str => (fun n => n == "str") (tyName (enc y))) (pureM uv9.2.1))) (orM (neSM (pureM uv9.2.1) (callF f__law_text (pairM (pureM x8) (pureM ())))) (neSM (callF f_garden_text (pairM (pureM x8) (pureM ()))) (pureM uv9.2.1)))) (retS (pureM false)) (pureM (.nx ()))) (fun s10 : Unit => (seqM (iteM (neSM (fun1M repF (pureM x8)) (pureM uv9.1)) (retS (pureM false)) (pureM (.nx ()))) (fun s11 : Unit => (seqM (appS s7 (pureM uv9.2.1)) (fun y12 : Str => (pureM (.nx ((s7 ++ [y12]))))))))))))) (uv5.2.1)) (fun s13 : ((List Str)) => (seqM (forS (enumM (pureM s13)) (fun (s14 : Unit) (x15 : (Int × Str)) => (seqM (iteM (neDM (compM (pureM s13) (fun x16 : Str => (pureM true)) (fun x16 : Str => (eqSM (pureM x15.2) (pureM x16)))) (compM (pureM uv5.1) (fun x17 : (T3 Int Int (Tup (Int × Int))) => (pureM true)) (fun x17 : (T3 Int Int (Tup (Int × Int))) => (eqDM (ixM (pureM uv5.1) (pureM x15.1)) (pureM x17))))) (retS (pureM false)) (pureM (.nx ()))) (fun s18 : Unit => (pureM (.nx ()))))) ()) (fun s19 : Unit => (retS (eqDM (lstM (consM (callF f_garden_text (pairM (tup3M (pureM (0 : Int)) (pureM (2 : Int)) (tupM (consM (tup2M (negM (pureM (1 : Int))) (pureM (1 : Int))) (consM (tup2M (pureM (3 : Int)) (pureM (2 : Int))) (pureM ([] : List (Int × Int))))))) (pureM ()))) (consM (callF f_garden_text (pairM (tup3M (negM (pureM (7 : Int))) (pureM (1 : Int)) (tupM (pureM ([] : List (Int × Int))))) (pureM ()))) (pureM ([] : List Str))))) (lstM (consM (pureM ("0 2 -1:1,3:2" : Str)) (consM (pureM ("-7 1 none" : Str)) (pureM ([] : List Str)))))))))))))))))))
theorem ok_law {f : Addr} {fd : FuncData} (T : Txt K mg) (F : Fun K "law" "law" st_law f fd) (hm : ∀ ns : List Int, ns.length ≤ 63 → ∃ s', retM none m_law (initA ns) = some (true, s')) : FnG P w K mg base CX0 3 f fd ["_law_script"] (spLaw K) :=
  defLaw (m := m_law) (Fm_ := fmA) (root := rootA) (j := 1) F sc_law (DefG.mono (ok__law_deck T) (by decide)) rfl (hmk := mk_A fun ns => mkA_eq ns) (hmk2 := fun ns => ⟨_, mkA_eq ns⟩) rfl (by decide) rfl
    (fun cdv A outer s H E => fun h => ps_set (i := 1) sc_law.nd rfl (.inr rfl) h) (fun cdv A outer s H E => pa_cons (pv 0) pa_nil) (fun cdv A outer s H E => rfl) (by decide)
    (fun cdv A outer s H E hr hgd dk => ⟨fun _ => [], (sv_cons (ss_set (k := 2) (ev_tupleL (fun _ => T.z_tuple) (ev_lc (own := [("_law_k", 8)]) (iv_range1 (fun _ => T.z_range) ev_int) (fun _ => blkOk_by (N := N_law) (sc := defScope st_law) (by decide +kernel)) (fun _ => sc_law.nd) rfl (by decide) (fun x2 => (bd_name (k := 8) (hN := fun _ => sc_law.nd))) (fun x2 => ei_nil) (fun x2 => (ev_tup2 (ev_add (ev_sub ev_int ev_int) (ev_var (k := 8) (y := x2))) (ev_pow ev_int ev_int))))) (fun _ => sc_law.nd)) (fun wide1 => (sv_cons (ss_set (k := 3) (ev_lst (el_cons (ev_tup3 ev_int ev_int (ev_tup el_nil)) (el_cons (ev_tup3 (ev_neg (ev_pow ev_int ev_int)) (ev_pow ev_int ev_int) (ev_var (k := 2) (y := wide1))) (el_cons (ev_tup3 (ev_pow ev_int ev_int) ev_int (ev_tup (el_cons (ev_tup2 (ev_neg (ev_pow ev_int ev_int)) ev_int) el_nil))) (el_cons (ev_tup3 ev_int ev_int (ev_tup el_nil)) (el_cons (ev_tup3 ev_int ev_int (ev_tup el_nil)) el_nil)))))) (fun _ => sc_law.nd)) (fun gardens3 => (sv_cons (ss_set (k := 3) (ev_catL (ev_var (k := 3) (y := gardens3)) (ev_lst (el_cons (ev_tup3 ev_int ev_int (ev_tup (el_cons (ev_tup2 ev_int ev_int) el_nil))) (el_cons (ev_tup3 ev_int ev_int (ev_tup (el_cons (ev_tup2 (ev_neg ev_int) ev_int) el_nil))) (el_cons (ev_tup3 ev_int ev_int (ev_tup (el_cons (ev_tup2 ev_int ev_int) (el_cons (ev_tup2 ev_int ev_int) el_nil)))) (el_cons (ev_tup3 ev_int ev_int (ev_tup (el_cons (ev_tup2 ev_int ev_int) (el_cons (ev_tup2 ev_int ev_int) el_nil)))) el_nil)))))) (fun _ => sc_law.nd)) (fun gardens4 => (sv_cons (ss_parV (ks := [3, 4]) (ek_d (ev_catL (ev_var (k := 3) (y := gardens4)) (ev_lc (own := [("_law_k", 8)]) (iv_range1 (fun _ => T.z_range) ev_int) (fun _ => blkOk_by (N := N_law) (sc := defScope st_law) (by decide +kernel)) (fun _ => sc_law.nd) rfl (by decide) (fun x6 => (bd_name (k := 8) (hN := fun _ => sc_law.nd))) (fun x6 => ei_nil) (fun x6 => (ev_callD (Fm_ := fmA) (root := rootA) dk (j := 1) (D := fun _ => ok__law_garden T) (fun _ => hr.mono (by decide)) (fun _ => hgd) (by rfl) rfl (ea_cons ev_int ea_nil))))) (ek_o (eo_nil (A := Str)) ek_nil)) (gn_cons (k := 3) (fun _ => sc_law.nd) (gn_cons (k := 4) (fun _ => sc_law.nd) gn_nil))) (fun uv5 => (sv_cons (ss_for (Gs := (fun s7 : ((List Str)) => [.un, .raw (.ref (rootA dk)), .dat (enc wide1), .dat (enc uv5.1), .own (enc s7), .un, .un, .un, .un, .un])) (y0 := (uv5.2.1)) (iv_list (ev_var (k := 3) (y := uv5.1))) (.same (.same (.same (.same (.same (.same (.same (.same (.same (.same SubG.nil)))))))))) (fun s7 x8 => (bd_name (k := 5) (hN := fun _ => sc_law.nd))) (fun s7 x8 => (sv_cons (ss_parV (ks := [6, 7]) (ek_d (ev_repr (fun _ => hr) (fun _ => hgd) (fun _ => T.z_repr) (ev_var (k := 5) (y := x8))) (ek_d (ev_call (D := fun _ => ok_garden_text T) (fun _ => hr.mono (by decide)) (fun _ => hgd) (ea_cons (ev_var (k := 5) (y := x8)) ea_nil)) ek_nil)) (gn_cons (k := 6) (fun _ => sc_law.nd) (gn_cons (k := 7) (fun _ => sc_law.nd) gn_nil))) (fun uv9 => (sv_cons (ss_if (Gn := (fun s10 : Unit => [.un, .raw (.ref (rootA dk)), .dat (enc wide1), .dat (enc uv5.1), .own (enc s7), .dat (enc x8), .dat (enc uv9.1), .dat (enc uv9.2.1), .un, .un])) (et_bool (ew_or (et_not (et_val (ev_isi (fun n => n == "str") kit_str (fun _ => T.z_isinstance) (fun _ => T.z_str) bb_str (ev_var (k := 7) (y := uv9.2.1))))) (ew_or (et_neS (ev_var (k := 7) (y := uv9.2.1)) (ev_call (D := fun _ => ok__law_text T) (fun _ => hr.mono (by decide)) (fun _ => hgd) (ea_cons (ev_var (k := 5) (y := x8)) ea_nil))) (ew_one_or (et_neS (ev_call (D := fun _ => ok_garden_text T) (fun _ => hr.mono (by decide)) (fun _ => hgd) (ea_cons (ev_var (k := 5) (y := x8)) ea_nil)) (ev_var (k := 7) (y := uv9.2.1))))))) (sv_one (ss_ret ev_bool)) (sv_nil (.same (.same (.same (.same (.same (.same (.same (.same (.same (.same SubG.nil)))))))))))) (fun s10 => (sv_cons (ss_if (Gn := (fun s11 : Unit => [.un, .raw (.ref (rootA dk)), .dat (enc wide1), .dat (enc uv5.1), .own (enc s7), .dat (enc x8), .dat (enc uv9.1), .dat (enc uv9.2.1), .un, .un])) (et_neS (ev_repr (fun _ => hr) (fun _ => hgd) (fun _ => T.z_repr) (ev_var (k := 5) (y := x8))) (ev_var (k := 6) (y := uv9.1))) (sv_one (ss_ret ev_bool)) (sv_nil (.same (.same (.same (.same (.same (.same (.same (.same (.same (.same SubG.nil)))))))))))) (fun s11 => (sv_cons (ss_append (k := 4) (l := s7) (by rfl) (ev_var (k := 7) (y := uv9.2.1))) (fun y12 => (sv_nil (.same (.same (.same (.same (.same (.un (.un (.un (.same (.same SubG.nil)))))))))))))))))))) (fun _ => PassesOwn.never)) (fun s13 => (sv_sub (G' := [.un, .raw (.ref (rootA dk)), .dat (enc wide1), .dat (enc uv5.1), .dat (enc s13), .un, .un, .un, .un, .un]) (.same (.same (.same (.same (.frz (.same (.same (.same (.same (.same SubG.nil)))))))))) (sv_cons (ss_for (Gs := (fun s14 : Unit => [.un, .raw (.ref (rootA dk)), .dat (enc wide1), .dat (enc uv5.1), .dat (enc s13), .un, .un, .un, .un, .un])) (y0 := ()) (iv_enum (fun _ => T.z_enumerate) (ev_var (k := 4) (y := s13))) (.same (.same (.same (.same (.same (.same (.same (.same (.same (.same SubG.nil)))))))))) (fun s14 x15 => (bd_tup (bds_cons (bd_name (k := 8) (hN := fun _ => sc_law.nd)) (bds_cons (bd_name (k := 7) (hN := fun _ => sc_law.nd)) bds_nil)))) (fun s14 x15 => (sv_cons (ss_if (Gn := (fun s18 : Unit => [.un, .raw (.ref (rootA dk)), .dat (enc wide1), .dat (enc uv5.1), .dat (enc s13), .un, .un, .dat (enc x15.2), .dat (enc x15.1), .un])) (et_neD (fun _ => hr) (ev_lc (own := [("_law_other", 9)]) (iv_list (ev_var (k := 4) (y := s13))) (fun _ => blkOk_by (N := N_law) (sc := defScope st_law) (by decide +kernel)) (fun _ => sc_law.nd) rfl (by decide) (fun x16 => (bd_name (k := 9) (hN := fun _ => sc_law.nd))) (fun x16 => ei_nil) (fun x16 => (ev_eqS (ev_var (k := 7) (y := x15.2)) (ev_var (k := 9) (y := x16))))) (ev_lc (own := [("_law_other", 9)]) (iv_list (ev_var (k := 3) (y := uv5.1))) (fun _ => blkOk_by (N := N_law) (sc := defScope st_law) (by decide +kernel)) (fun _ => sc_law.nd) rfl (by decide) (fun x17 => (bd_name (k := 9) (hN := fun _ => sc_law.nd))) (fun x17 => ei_nil) (fun x17 => (ev_eqD (fun _ => hr) (ev_ixL (ev_var (k := 3) (y := uv5.1)) (ev_var (k := 8) (y := x15.1))) (ev_var (k := 9) (y := x17)))))) (sv_one (ss_ret ev_bool)) (sv_nil (.same (.same (.same (.same (.same (.same (.same (.same (.same (.same SubG.nil)))))))))))) (fun s18 => (sv_nil (.same (.same (.same (.same (.same (.same (.same (.un (.un (.same SubG.nil)))))))))))))) (fun _ => PassesOwn.never)) (fun s19 => (sv_one (ss_ret (ev_eqD (fun _ => hr) (ev_lst (el_cons (ev_call (D := fun _ => ok_garden_text T) (fun _ => hr.mono (by decide)) (fun _ => hgd) (ea_cons (ev_tup3 ev_int ev_int (ev_tup (el_cons (ev_tup2 (ev_neg ev_int) ev_int) (el_cons (ev_tup2 ev_int ev_int) el_nil)))) ea_nil)) (el_cons (ev_call (D := fun _ => ok_garden_text T) (fun _ => hr.mono (by decide)) (fun _ => hgd) (ea_cons (ev_tup3 (ev_neg ev_int) ev_int (ev_tup el_nil)) ea_nil)) el_nil))) (ev_lst (el_cons ev_str (el_cons ev_str el_nil)))))))))))))))))))⟩) hm
end
end K55

local macro_rules | `(tactic| walk_at "side") => `(tactic| first | with_reducible exact PL.shp_two | omega | decide | exact Nat.le_of_ble_eq_true rfl | exact PL.wide_of (by omega) (by omega) | exact ⟨by omega, PL.wide_of (by omega) (by omega)⟩ | exact ⟨PL.wide_of (by omega) (by omega), PL.wide_of (by omega) (by omega)⟩ | exact ⟨by omega, by omega⟩ | (unfold PL.modOk; omega) | (unfold PL.lenOk; omega) | ((try unfold PL.lenOk); simp only [List.length_append, List.length_cons, List.length_nil, List.length_map, List.length_replicate, List.length_dropLast, PL.len_rangeL]; omega))
local macro_rules | `(tactic| walk_at "step") => `(tactic| first | ((with_reducible refine PL.ob_guard ?hg ?_); case hg => (walk_at "side")) | ((with_reducible refine PL.ob_draw ?h1 ?h2 (by omega) fun _ _ _ => ?_); (case h1 => (walk_at "side")); (case h2 => (walk_at "side"))) | ((with_reducible refine PL.ob_draw1 ?h1 ?h2 (by omega) fun _ _ _ => ?_); (case h1 => (walk_at "side")); (case h2 => (walk_at "side"))) | ((with_reducible refine PL.ob_ix ?h0 ?h1 fun _ hx => ?_); (case h0 => omega); (case h1 => (simp only [List.length_append, List.length_cons, List.length_nil, List.length_map] at *; omega)); simp only [List.mem_append, List.mem_cons, List.not_mem_nil, or_false] at hx))
namespace PL
open PySem L2 Enc
abbrev Bed := Int × Int
abbrev Gar := T3 Int Int (Tup Bed)
def m_gardenA (u : Int × Int × Unit) : M Dk (Fl Unit Empty Gar) :=
  (seqM (setS (pairM (ixM (lstM (consM (bindM (pairM (addM (pureM u.1) (pureM (1 : Int))) (pureM ())) drawA) (consM (pureM u.1) (pureM ([] : List Int))))) (bindM (pairM (pureM (2 : Int)) (pureM ())) drawA)) (pairM (ixM (lstM (consM (addM (pureM u.1) (pureM (2 : Int))) (consM (pureM (40 : Int)) (consM (powM (pureM (10 : Int)) (pureM (6 : Int))) (pureM ([] : List Int)))))) (bindM (pairM (pureM (3 : Int)) (pureM ())) drawA)) (pureM ())))) (fun uv1 : (Int × Int × Unit) => (seqM (setS (ixM (lstM (consM (subM (pureM (0 : Int)) (divM (pureM uv1.2.1) (pureM (2 : Int)))) (consM (subM (powM (pureM (10 : Int)) (pureM (6 : Int))) (pureM uv1.2.1)) (consM (negM (powM (pureM (10 : Int)) (pureM (6 : Int)))) (consM (subM (pureM (0 : Int)) (bindM (pairM (pureM uv1.2.1) (pureM ())) drawA)) (pureM ([] : List Int))))))) (bindM (pairM (pureM (4 : Int)) (pureM ())) drawA))) (fun low2 : Int => (seqM (setS (pairM (ixM (lstM (consM (pureM (3 : Int)) (consM (pureM (12 : Int)) (consM (pureM u.2.1) (pureM ([] : List Int)))))) (bindM (pairM (pureM (3 : Int)) (pureM ())) drawA)) (pairM (pureM ([] : (List (Int × Int)))) (pureM ())))) (fun uv3 : (Int × (List (Int × Int)) × Unit) => (seqM (forS (sortUM (compM (rng1M (pureM uv1.1)) (fun x4 : Int => (pureM true)) (fun x4 : Int => (addM (pureM low2) (bindM (pairM (pureM uv1.2.1) (pureM ())) drawA))))) (fun (s5 : ((List (Int × Int)))) (x6 : Int) => (seqM (appS s5 (tup2M (pureM x6) (addM (pureM (1 : Int)) (bindM (pairM (pureM uv3.1) (pureM ())) drawA)))) (fun y7 : (Int × Int) => (pureM (.nx ((s5 ++ [y7]))))))) (uv3.2.1)) (fun s8 : ((List (Int × Int))) => (seqM (setS (ixM (lstM (consM (pureM (1 : Int)) (consM (addM (pureM (1 : Int)) (bindM (pairM (pureM (4 : Int)) (pureM ())) drawA)) (consM (addM (pureM (1 : Int)) (bindM (pairM (pureM (30 : Int)) (pureM ())) drawA)) (consM (addM (pureM (1 : Int)) (bindM (pairM (powM (pureM (10 : Int)) (pureM (6 : Int))) (pureM ())) drawA)) (pureM ([] : List Int))))))) (bindM (pairM (pureM (4 : Int)) (pureM ())) drawA))) (fun can9 : Int => (seqM (setS (catM (lstM (consM (addM (pureM low2) (bindM (pairM (pureM uv1.2.1) (pureM ())) drawA)) (consM (pureM low2) (consM (addM (pureM low2) (pureM uv1.2.1)) (pureM ([] : List Int)))))) (compM (pureM s8) (fun x11 : (Int × Int) => (pureM true)) (fun x11 : (Int × Int) => (pureM x11.1))))) (fun taps10 : (List Int) => (retS (tup3M (ixM (pureM taps10) (bindM (pairM (fun1M (fun l : (List Int) => some (l.length : Int)) (pureM taps10)) (pureM ())) drawA)) (pureM can9) (fun1M (fun l : (List (Int × Int)) => some (toTup l)) (pureM s8))))))))))))))))
def gardenA (u : Int × Int × Unit) : M Dk Gar := retM none (m_gardenA u)
/-- a garden as drawn -/
structure GardOk (most : Nat) (g : Gar) : Prop where
  len : (unTup g.c).length ≤ most
  tap : -1000000 ≤ g.a ∧ g.a ≤ 1000000
  can : 1 ≤ g.b ∧ g.b ≤ 1000000
  asc : ((unTup g.c).map (·.1)).Pairwise (· < ·)
  pl : ∀ x ∈ unTup g.c, -1000000 ≤ x.1 ∧ x.1 ≤ 1000000 ∧ 1 ≤ x.2 ∧ x.2 ≤ 1000000000
theorem gardenA_ok {most top : Int} (hm : 0 ≤ most ∧ most ≤ 12) (ht : 1 ≤ top ∧ top ≤ 1000000000) : OkM KA 100 (gardenA (most, top, ())) (GardOk most.toNat) := by
  show OkM KA 100 (retM none (m_gardenA (most, top, ()))) _
  simp only [m_gardenA, nf1, nf2, nf3, nf4, p10_6]
  repeat' walk_at "step"
  rename_i cn _ _ _ _ _ count hcount _ _ _ span hspan r0 _ _ _ _ _ low hlow _ _ _ bound hbound
  have hct : 0 ≤ count ∧ count ≤ most := by omega
  have len0 : (rangeL 0 count).length = count.toNat := by
    rw [len_rangeL, Int.sub_zero]
  refine ob_lc (P := fun p => low ≤ p ∧ p < low + span) 12 1 60 (by omega) (by omega) (fun x _ => ?_) fun ps hps lps => ?_
  · refine ob_draw (by omega) (by omega) (by omega) fun r h0 h1 => ob_pure ⟨by omega, by omega⟩
  have slen := sortU_len ps
  refine ob_guard (by omega) (ob_lp_grow 12 1 20 (fun a b => b.1 = a ∧ 1 ≤ b.2 ∧ b.2 ≤ bound) (by omega) (by omega) (fun x _ y hy => ?_) fun beds hb => ?_)
  · refine ob_draw (by omega) (by omega) (by omega) fun r h0 h1 => ob_guard (lenOk_le (by omega)) (ob_pure ⟨_, ⟨rfl, by show 1 ≤ 1 + r; omega, by show 1 + r ≤ bound; omega⟩, rfl⟩)
  have blen := hb.len
  have basc : beds.map (·.1) = sortU ps := hb.map fun a b h => h.1
  have hpl : ∀ x ∈ beds, -1000000 ≤ x.1 ∧ x.1 ≤ 1000000 ∧ 1 ≤ x.2 ∧ x.2 ≤ 1000000000 := fun x hx => by
    obtain ⟨a, ha, h1, h2, h3⟩ := hb.mem x hx
    have := hps a (mem_sortU.mp ha)
    omega
  repeat' walk_at "step"
  rename_i can hcan r1 _ _ _ _ _ tap htap
  refine ob_pure ⟨?_, ?_, ?_, ?_, hpl⟩
  · show beds.length ≤ most.toNat
    omega
  · show -1000000 ≤ tap ∧ tap ≤ 1000000
    rcases htap with h | h
    · omega
    · obtain ⟨x, hx, rfl⟩ := List.mem_map.mp h
      have := hpl x hx
      omega
  · show 1 ≤ can ∧ can ≤ 1000000
    omega
  · show (beds.map (·.1)).Pairwise (· < ·)
    rw [basc]
    exact sortU_lt ps
end PL

namespace PL
open PySem L2 Enc
/-- the draw of laws k28 to k33, k46, k55 to k63 -/
def m_drawX (u : Int × Unit) : M Dk (Fl Unit Empty Int) :=
  (seqM (bindM (addM dkN (pureM (1 : Int))) fun y => bindM (dkSetN y) fun _ => pureM (.nx ())) (fun _ : Unit => (seqM (setS (pureM (0 : Int))) (fun cell1 : Int => (seqM (setS (negM (pureM (1 : Int)))) (fun place2 : Int => (seqM (iteM (gtM dkLen (pureM (0 : Int))) (seqM (setS (modM dkN dkLen)) (fun place3 : Int => (seqM (setS (bindM (pureM place3) dkCell)) (fun cell4 : Int => (pureM (.nx (cell4, place3))))))) (pureM (.nx (cell1, place2)))) (fun s5 : (Int × Int) => (seqM (iteM (geM (pureM s5.1) (powM (pureM (10 : Int)) (pureM (18 : Int)))) (seqM (bindM (divM (pureM s5.1) (pureM u.1)) fun y => bindM (pureM s5.2) fun i => bindM (dkSetCell i y) fun _ => pureM (.nx ())) (fun _ : Unit => (retS (modM (pureM s5.1) (pureM u.1))))) (pureM (.nx ()))) (fun s6 : Unit => (retS (modM (modM (powM (addM (addM (modM (pureM s5.1) (pureM (2147483587 : Int))) (mulM (pureM (7919 : Int)) dkN)) (pureM (1 : Int))) (pureM (5 : Int))) (pureM (2147483647 : Int))) (pureM u.1)))))))))))))
def drawX (u : Int × Unit) : M Dk Int := retM none (m_drawX u)
theorem ok_drawX {n : Int} (hn : 0 < n) (hw : n ≤ 2 ^ 199) : OkM KA 1 (drawX (n, ())) fun r => 0 ≤ r ∧ r < n := by
  intro s hs
  obtain ⟨h0, h1⟩ := KA_n hs
  have hwn : divOk 0 n := ⟨hn, wide_of (by omega) hw⟩
  have p18 : powOk 10 18 := by decide
  have e18 : (10 : Int) ^ (18 : Int).toNat = 1000000000000000000 := by decide
  have hm : mulOk 7919 (s.n + 1) := ⟨by decide, wide_of (by omega) (by omega)⟩
  have hp : ∀ cell : Int, powOk (cell % 2147483587 + 7919 * (s.n + 1) + 1) 5 := fun cell => by
    have a1 : 0 ≤ cell % 2147483587 := Int.emod_nonneg _ (by decide)
    have a2 : cell % 2147483587 < 2147483587 := Int.emod_lt_of_pos _ (by decide)
    exact ⟨by decide, by decide, by omega⟩
  have ke : KA.cnt ⟨s.cells, s.n + 1⟩ ≤ KA.cnt s + 1 := KA_of h0 rfl
  have ks : ∀ j x, KA.cnt ⟨s.cells.set j x, s.n + 1⟩ ≤ KA.cnt s + 1 := fun j x => KA_of h0 rfl
  simp only [drawX, m_drawX, setS, retS, tup2M, pairM, mapM1, negM, iteM, gtM_nf, geM_nf, modM_nf, divM_nf, powM_nf, addM_nf, mulM_nf, bind_assoc, bind_pure, bind_guard, bind_ite, seq_bind, seq_guard, seq_nx, seq_rt, seq_ite, retM_bind, retM_guard, retM_rt, retM_ite,
    run_n, run_len, run_setN, run_guard p18, e18]
  have m2 : ∀ x : Int, modOk x 2147483587 := fun _ => (by decide : (0 : Int) < 2147483587)
  have m3 : ∀ x : Int, modOk x 2147483647 := fun _ => (by decide : (0 : Int) < 2147483647)
  have m4 : ∀ x : Int, divOk x 7 := fun _ => ⟨by decide, by decide⟩
  have m5 : ∀ x : Int, modOk x n := fun _ => hn
  have m6 : ∀ x : Int, divOk x n := fun _ => hwn
  by_cases hl : (0 : Int) < (s.cells.length : Int)
  · have e1 := Int.emod_nonneg (s.n + 1) (b := (s.cells.length : Int)) (by omega)
    have e2 := Int.emod_lt_of_pos (s.n + 1) hl
    have hj : ixN s.cells.length ((s.n + 1) % (s.cells.length : Int)) = some ((s.n + 1) % (s.cells.length : Int)).toNat := by
      unfold ixN
      rw [if_pos e1, if_pos e2]
    have hx : atI s.cells ((s.n + 1) % (s.cells.length : Int)) = some (s.cells[((s.n + 1) % (s.cells.length : Int)).toNat]'(by omega)) := by
      unfold atI
      rw [hj]
      exact List.getElem?_eq_getElem _
    rw [run_if (decide_eq_true hl), run_n, run_len, run_guard (show modOk (s.n + 1) (s.cells.length : Int) from hl), run_cell (s := ⟨s.cells, s.n + 1⟩) hx, run_guard p18]
    generalize (s.cells[((s.n + 1) % (s.cells.length : Int)).toNat]'(by omega)) = cell
    by_cases hc : 1000000000000000000 ≤ cell
    · rw [run_if (decide_eq_true hc), run_guard (m6 cell), run_setCell (s := ⟨s.cells, s.n + 1⟩) hj, run_guard (m5 cell)]
      exact ⟨_, _, rfl, ⟨Int.emod_nonneg _ (by omega), Int.emod_lt_of_pos _ hn⟩, ks _ _⟩
    · rw [run_else (by rw [decide_eq_false hc]; exact Bool.false_ne_true), run_guard (m2 _), run_n, run_guard hm, run_guard (hp _), run_guard (m3 _), run_guard (m5 _)]
      exact ⟨_, _, rfl, ⟨Int.emod_nonneg _ (by omega), Int.emod_lt_of_pos _ hn⟩, ke⟩
  · rw [run_else (by rw [decide_eq_false hl]; exact Bool.false_ne_true), run_guard p18, run_else (by decide), run_guard (m2 _), run_n, run_guard hm, run_guard (hp _), run_guard (m3 _), run_guard (m5 _)]
    exact ⟨_, _, rfl, ⟨Int.emod_nonneg _ (by omega), Int.emod_lt_of_pos _ hn⟩, ke⟩
section
variable {B : Type} {c : Nat} {T : B → Prop}
theorem ob_drawX {n : Int} {k : Int → M Dk B} (hn : 0 < n) (hw : n ≤ 2 ^ 199) (hc : 1 ≤ c) (hk : ∀ r, 0 ≤ r → r < n → OkM KA (c - 1) (k r) T) : OkM KA c (bindM (drawX (n, ())) k) T :=
  ob_bind (ok_drawX hn hw) (by omega) fun r hr => hk r hr.1 hr.2
theorem ob_drawX1 {n : Int} {Q : Int → Prop} (hn : 0 < n) (hw : n ≤ 2 ^ 199) (hc : 1 ≤ c) (hk : ∀ r, 0 ≤ r → r < n → Q r) : OkM KA c (drawX (n, ())) Q :=
  OkM.mono (ok_drawX hn hw) hc fun r hr => hk r hr.1 hr.2
end
end PL
local macro_rules | `(tactic| walk_at "side") => `(tactic| first | with_reducible exact PL.shp_two | omega | decide | exact Nat.le_of_ble_eq_true rfl | exact PL.wide_of (by omega) (by omega) | exact ⟨by omega, PL.wide_of (by omega) (by omega)⟩ | exact ⟨PL.wide_of (by omega) (by omega), PL.wide_of (by omega) (by omega)⟩ | exact ⟨by omega, by omega⟩ | (unfold PL.modOk; omega) | (unfold PL.lenOk; omega) | ((try unfold PL.lenOk); simp only [List.length_append, List.length_cons, List.length_nil, List.length_map, List.length_replicate, List.length_dropLast, PL.len_rangeL]; omega))
local macro_rules | `(tactic| walk_at "step") => `(tactic| first | ((with_reducible refine PL.ob_guard ?hg ?_); case hg => (walk_at "side")) | ((with_reducible refine PL.ob_drawX ?h1 ?h2 (by omega) fun _ _ _ => ?_); (case h1 => (walk_at "side")); (case h2 => (walk_at "side"))) | ((with_reducible refine PL.ob_drawX1 ?h1 ?h2 (by omega) fun _ _ _ => ?_); (case h1 => (walk_at "side")); (case h2 => (walk_at "side"))) | ((with_reducible refine PL.ob_ix ?h0 ?h1 fun _ hx => ?_); (case h0 => omega); (case h1 => (simp only [List.length_append, List.length_cons, List.length_nil, List.length_map] at *; omega)); simp only [List.mem_append, List.mem_cons, List.not_mem_nil, or_false] at hx))
namespace PL
open PySem L2 Enc
theorem sortI_asc {l : List Int} (h : l.Nodup) : (sortI l).Pairwise (· < ·) := by
  have h2 : (sortI l).Nodup := (sortI_perm l).nodup_iff.mpr h
  exact ((sortI_le l).and h2).imp fun ⟨a, b⟩ => by omega
theorem lcAllF {S A B : Type} {K : Cnt S} {c : Nat} {f : A → M S B} {R : A → B → Prop} : ∀ {l : List A}, (∀ x ∈ l, OkM K c (f x) (R x)) → OkM K (l.length * c) (lcM (fun _ => pureM true) f l) fun r => F2 R l r
  | [], _ => OkM.mono (OkM.pure (a := []) (Q := fun r => F2 R [] r) .nil) (by simp) fun _ h => h
  | x :: l, h2 => by
    have ih := lcAllF (l := l) (fun y hy => h2 y (List.mem_cons_of_mem _ hy))
    have e : lcM (fun _ => pureM true) f (x :: l) = bindM (f x) fun y => bindM (lcM (fun _ => pureM true) f l) fun r => pureM (y :: r) := rfl
    have hb : OkM K (c + (l.length * c + 0)) (bindM (f x) fun y => bindM (lcM (fun _ => pureM true) f l) fun r => pureM (y :: r)) fun r : List B => F2 R (x :: l) r :=
      OkM.bind (h2 x List.mem_cons_self) fun y hy => OkM.bind ih fun r hr => OkM.pure (.cons hy hr)
    exact OkM.mono (OkM.of_eq e hb) (by rw [List.length_cons, Nat.succ_mul]; omega) fun r h => h
/-- a comprehension, item by item -/
theorem ob_lcF {S A B C : Type} {K : Cnt S} {c : Nat} {f : A → M S B} {k : List B → M S C} {l : List A} {V : C → Prop} (P : A → B → Prop) (N c1 e : Nat) (hl : l.length ≤ N) (hc : N * c1 + e ≤ c) (h : ∀ x ∈ l, OkM K c1 (f x) (P x)) (hk : ∀ r : List B, F2 P l r → OkM K e (k r) V) :
    OkM K c (bindM (lcM (fun _ => pureM true) f l) k) V :=
  ob_bind (lcAllF h) (Nat.le_trans (Nat.add_le_add_right (Nat.mul_le_mul_right _ hl) _) hc) hk
def m_gardenX (u : Int × Unit) : M Dk (Fl Unit Empty Gar) :=
  (seqM (setS (pairM (ixM (lstM (consM (pureM (4 : Int)) (consM (pureM (20 : Int)) (consM (powM (pureM (10 : Int)) (pureM (6 : Int))) (pureM ([] : List Int)))))) (bindM (pairM (pureM (3 : Int)) (pureM ())) drawX)) (pairM (lstM (pureM ([] : List Int))) (pureM ())))) (fun uv1 : (Int × (List Int) × Unit) => (seqM (forS (rng1M (bindM (pairM (addM (pureM u.1) (pureM (1 : Int))) (pureM ())) drawX)) (fun (s2 : ((List Int))) (x3 : Int) => (seqM (setS (subM (bindM (pairM (addM (mulM (pureM (2 : Int)) (pureM uv1.1)) (pureM (1 : Int))) (pureM ())) drawX) (pureM uv1.1))) (fun place4 : Int => (seqM (setS (catM (pureM s2) (repM (lstM (consM (pureM place4) (pureM ([] : List Int)))) (fun1M (fun n : Bool => some (b2I n)) (ninIM (pureM place4) (pureM s2)))))) (fun some5 : (List Int) => (pureM (.nx (some5)))))))) (uv1.2.1)) (fun s6 : ((List Int)) => (seqM (setS (ixM (lstM (consM (pureM (3 : Int)) (consM (pureM (30 : Int)) (consM (powM (pureM (10 : Int)) (pureM (9 : Int))) (pureM ([] : List Int)))))) (bindM (pairM (pureM (3 : Int)) (pureM ())) drawX))) (fun top7 : Int => (seqM (setS (fun1M (fun l : (List (Int × Int)) => some (toTup l)) (compM (fun1M (fun l : List Int => some (sortI l)) (pureM s6)) (fun x9 : Int => (pureM true)) (fun x9 : Int => (tup2M (pureM x9) (addM (pureM (1 : Int)) (bindM (pairM (pureM top7) (pureM ())) drawX))))))) (fun beds8 : (Tup (Int × Int)) => (seqM (setS (ixM (lstM (consM (subM (bindM (pairM (addM (mulM (pureM (2 : Int)) (pureM uv1.1)) (pureM (1 : Int))) (pureM ())) drawX) (pureM uv1.1)) (consM (ixM (catM (pureM s6) (lstM (consM (pureM (0 : Int)) (pureM ([] : List Int))))) (bindM (pairM (addM (fun1M (fun l : (List Int) => some (l.length : Int)) (pureM s6)) (pureM (1 : Int))) (pureM ())) drawX)) (pureM ([] : List Int))))) (bindM (pairM (pureM (2 : Int)) (pureM ())) drawX))) (fun tap10 : Int => (seqM (setS (addM (pureM (1 : Int)) (bindM (pairM (ixM (lstM (consM (pureM (3 : Int)) (consM (pureM (30 : Int)) (consM (powM (pureM (10 : Int)) (pureM (6 : Int))) (pureM ([] : List Int)))))) (bindM (pairM (pureM (3 : Int)) (pureM ())) drawX)) (pureM ())) drawX))) (fun can11 : Int => (retS (tup3M (pureM tap10) (pureM can11) (pureM beds8)))))))))))))))
def gardenX (u : Int × Unit) : M Dk Gar := retM none (m_gardenX u)
theorem gardenX_ok {most : Int} (hm : 0 ≤ most ∧ most ≤ 12) : OkM KA 100 (gardenX (most, ())) (GardOk most.toNat) := by
  show OkM KA 100 (retM none (m_gardenX (most, ()))) _
  simp only [m_gardenX, nf1, nf2, nf3, nf4, nf9, p10_6, p10_9]
  repeat' walk_at "step"
  rename_i r0 _ _ reach hreach count hc0 hc1
  have hr : 4 ≤ reach ∧ reach ≤ 1000000 := by omega
  refine ob_lp 12 1 60 (fun pre s => s.length ≤ pre.length ∧ s.Nodup ∧ ∀ p ∈ s, -reach ≤ p ∧ p ≤ reach) (by rw [len_rangeL]; omega) (by omega) ⟨Nat.le_refl _, List.nodup_nil, fun p h => nomatch h⟩ (fun pre x post s e hs => ?_) fun s hs => ?_
  · obtain ⟨s1, s2, s3⟩ := hs
    have hl : pre.length + 1 ≤ 12 := by
      have := congrArg List.length e
      rw [len_rangeL, List.length_append, List.length_cons] at this
      omega
    refine ob_guard (by first | exact ⟨PL.wide_of (by omega) (by omega), PL.wide_of (by omega) (by omega)⟩ | exact ⟨by omega, PL.wide_of (by omega) (by omega)⟩ | (walk_at "side")) (ob_drawX (by omega) (by omega) (by omega) fun r h0 h1 => ?_)
    by_cases c : r - reach ∈ s
    · rw [decide_eq_true c]
      refine ob_guard (lenOk_le (by simp)) (ob_guard ⟨by decide, by decide, lenOk_le (by simp [b2I])⟩ (ob_guard (lenOk_le (by simp [b2I]; omega)) (ob_pure ?_)))
      show _ ∧ _
      simp only [b2I, Bool.not_true, Bool.false_eq_true, if_false, Int.toNat_zero, List.replicate_zero, List.flatten_nil, List.append_nil, List.length_append, List.length_singleton]
      exact ⟨by omega, s2, s3⟩
    · rw [decide_eq_false c]
      refine ob_guard (lenOk_le (by simp)) (ob_guard ⟨by decide, by decide, lenOk_le (by simp [b2I])⟩ (ob_guard (lenOk_le (by simp [b2I]; omega)) (ob_pure ?_)))
      show _ ∧ _
      have e1 : (List.replicate (Int.toNat (b2I !false)) [r - reach]).flatten = [r - reach] := rfl
      rw [e1, List.length_append, List.length_append, List.length_singleton, List.length_singleton]
      refine ⟨by omega, ?_, fun p hp => ?_⟩
      · rw [List.nodup_append]
        exact ⟨s2, List.pairwise_singleton _ _, fun a ha b hb e => c (by rw [List.mem_singleton.mp hb] at e; rw [← e]; exact ha)⟩
      · rcases List.mem_append.mp hp with hp | hp
        · exact s3 p hp
        · rw [List.mem_singleton.mp hp]
          omega
  obtain ⟨s1, s2, s3⟩ := hs
  have sl : s.length ≤ 12 := by
    rw [len_rangeL] at s1
    omega
  have hsl : (sortI s).length = s.length := (sortI_perm s).length_eq
  have hmem : ∀ x ∈ sortI s, -reach ≤ x ∧ x ≤ reach := fun x hx => s3 x ((sortI_perm s).mem_iff.mp hx)
  refine ob_guard (by decide) (ob_guard (lenOk_le (by simp)) (ob_drawX (by omega) (by omega) (by omega) fun i h0 h1 => ob_ix (by omega) (by simpa using h1) fun top ht => ob_guard (lenOk_le (by omega)) ?_))
  have ht : 1 ≤ top ∧ top ≤ 1000000000 := by
    simp only [List.mem_cons, List.not_mem_nil, or_false] at ht
    omega
  refine ob_lcF (fun x b => b.1 = x ∧ 1 ≤ b.2 ∧ b.2 ≤ 1000000000) 12 1 40 (by omega) (by omega) (fun x hx => ?_) fun beds hb => ?_
  · exact ob_drawX (by omega) (by omega) (by omega) fun r h0 h1 => ob_pure ⟨rfl, by show 1 ≤ 1 + r; omega, by show 1 + r ≤ _; omega⟩
  have blen := hb.len
  have basc : beds.map (·.1) = sortI s := hb.map fun a b h => h.1
  have hpl : ∀ x ∈ beds, -1000000 ≤ x.1 ∧ x.1 ≤ 1000000 ∧ 1 ≤ x.2 ∧ x.2 ≤ 1000000000 := fun x hx => by
    obtain ⟨a, ha, h1, h2, h3⟩ := hb.mem x hx
    have := hmem a ha
    omega
  repeat' walk_at "step"
  rename_i r1 _ _ r2 _ _ pt hpt _ _ _ tap htap _ _ _ cn hcn c _ _
  refine ob_pure ⟨?_, ?_, ?_, ?_, hpl⟩
  · show beds.length ≤ most.toNat
    rw [len_rangeL] at s1
    omega
  · show -1000000 ≤ tap ∧ tap ≤ 1000000
    rcases htap with h | h
    · omega
    · rcases hpt with h2 | h2
      · have := s3 _ h2
        omega
      · omega
  · show 1 ≤ 1 + c ∧ 1 + c ≤ 1000000
    omega
  · show (beds.map (·.1)).Pairwise (· < ·)
    rw [basc]
    exact sortI_asc s2
end PL

namespace PX
open PySem L2 PL PL.Enc PyProof.Rows
abbrev Gdn := T3 Int Int (Tup (Int × Int))
def numT (i : Int) : Str := PyData.shown (.int i)
def bedT (r : Int × Int) : Str := numT r.1 ++ (":" : Str) ++ numT r.2
def bedsT (l : List (Int × Int)) : Str := if l = [] then ("none" : Str) else Txt.join ("," : Str) (l.map bedT)
def gardT (g : Gdn) : Str := numT g.a ++ (" " : Str) ++ numT g.b ++ (" " : Str) ++ bedsT (unTup g.c)
/-- a text's letters -/
def cl (x : Str) : List Nat := x.cps.toList
theorem cl_app (x y : Str) : cl (x ++ y) = cl x ++ cl y := by
  show (x ++ y).cps.toList = _
  rw [Str.cps_append, Array.toList_append]
  rfl
theorem cl_inj {x y : Str} (h : cl x = cl y) : x = y := by
  cases x
  cases y
  exact congrArg Str.mk (Array.toList_inj.mp h)
theorem ofString_inj {x y : String} (h : Str.ofString x = Str.ofString y) : x = y := by
  rw [Str.ofString_eq_toList, Str.ofString_eq_toList] at h
  injection h with h
  have h1 : x.toList.map Char.toNat = y.toList.map Char.toNat := by
    have := congrArg Array.toList h
    simpa using this
  exact String.toList_inj.mp ((List.map_inj_right fun _ _ e => Char.toNat_inj.mp e).mp h1)
theorem numT_inj {a b : Int} (h : numT a = numT b) : a = b := Int.repr_inj.mp (ofString_inj h)
theorem free32 (i : Int) : 32 ∉ cl (numT i) := fun h => (shown_int_free_32 i).mp h
theorem free58 (i : Int) : 58 ∉ cl (numT i) := fun h => (shown_int_free_58 i).mp h
theorem free44 (i : Int) : 44 ∉ cl (numT i) := fun h => (shown_int_free_44 i).mp h
theorem clSp : cl (" " : Str) = [32] := by decide +kernel
theorem clCo : cl (":" : Str) = [58] := by decide +kernel
theorem clCm : cl ("," : Str) = [44] := by decide +kernel
theorem clNo : cl ("none" : Str) = [110, 111, 110, 101] := by decide +kernel
/-- the part ahead of the first mark -/
theorem split1 {c : Nat} : ∀ {x x' y y' : List Nat}, c ∉ x → c ∉ x' → x ++ c :: y = x' ++ c :: y' → x = x' ∧ y = y'
  | [], [], _, _, _, _, h => ⟨rfl, by injection h⟩
  | [], a :: l, _, _, _, n, h => absurd (by injection h with h _; rw [h]; exact List.mem_cons_self) n
  | a :: l, [], _, _, n, _, h => absurd (by injection h with h _; rw [h]; exact List.mem_cons_self) n
  | a :: l, b :: m, _, _, n, n', h => by
    injection h with h1 h2
    subst h1
    obtain ⟨e1, e2⟩ := split1 (fun z => n (List.mem_cons_of_mem _ z)) (fun z => n' (List.mem_cons_of_mem _ z)) h2
    exact ⟨congrArg _ e1, e2⟩
theorem cl_bed (r : Int × Int) : cl (bedT r) = cl (numT r.1) ++ 58 :: cl (numT r.2) := by
  unfold bedT
  rw [cl_app, cl_app, clCo]
  simp
theorem bedT_inj {r s : Int × Int} (h : bedT r = bedT s) : r = s := by
  have e := congrArg cl h
  rw [cl_bed, cl_bed] at e
  obtain ⟨e1, e2⟩ := split1 (free58 _) (free58 _) e
  exact Prod.ext (numT_inj (cl_inj e1)) (numT_inj (cl_inj e2))
theorem bed44 (r : Int × Int) : 44 ∉ cl (bedT r) := by
  rw [cl_bed]
  intro h
  rcases List.mem_append.mp h with h | h
  · exact free44 _ h
  · rcases List.mem_cons.mp h with h | h
    · cases h
    · exact free44 _ h
theorem bed58 (r : Int × Int) : 58 ∈ cl (bedT r) := by
  rw [cl_bed]
  exact List.mem_append_right _ List.mem_cons_self
/-- join, letter by letter -/
def joinL (sep : List Nat) : List (List Nat) → List Nat
  | [] => []
  | [x] => x
  | x :: y :: l => x ++ sep ++ joinL sep (y :: l)
theorem foldl_glue (sep : Str) : ∀ (l : List Str) (acc : Array Nat), (l.foldl (fun acc p => acc ++ sep.cps ++ p.cps) acc).toList = acc.toList ++ (l.map fun p => cl sep ++ cl p).flatten
  | [], acc => by simp
  | x :: l, acc => by
    rw [List.foldl_cons, foldl_glue sep l, List.map_cons, List.flatten_cons, Array.toList_append, Array.toList_append, List.append_assoc, List.append_assoc]
    show acc.toList ++ (cl sep ++ (cl x ++ _)) = acc.toList ++ ((cl sep ++ cl x) ++ _)
    rw [List.append_assoc]
theorem join_cons (sep x : Str) (l : List Str) : cl (Txt.join sep (x :: l)) = cl x ++ (l.map fun p => cl sep ++ cl p).flatten := foldl_glue sep l x.cps
theorem join_nil (sep : Str) : cl (Txt.join sep []) = [] := rfl
theorem joins_inj : ∀ {l m : List (Int × Int)}, (l.map fun p => 44 :: cl (bedT p)).flatten = (m.map fun p => 44 :: cl (bedT p)).flatten → l = m
  | [], [], _ => rfl
  | [], r :: m, h => by simp at h
  | r :: l, [], h => by simp at h
  | r :: l, s :: m, h => by
    rw [List.map_cons, List.map_cons, List.flatten_cons, List.flatten_cons, List.cons_append, List.cons_append] at h
    injection h with _ h
    have key : cl (bedT r) = cl (bedT s) ∧ (l.map fun p => 44 :: cl (bedT p)).flatten = (m.map fun p => 44 :: cl (bedT p)).flatten := by
      cases l with
      | nil =>
        cases m with
        | nil =>
          simp at h
          exact ⟨h, rfl⟩
        | cons t m =>
          exfalso
          have : 44 ∈ cl (bedT r) ++ ([].map fun p => 44 :: cl (bedT p)).flatten := by
            rw [h, List.map_cons, List.flatten_cons]
            exact List.mem_append_right _ List.mem_cons_self
          simp at this
          exact bed44 _ this
      | cons q l =>
        cases m with
        | nil =>
          exfalso
          have : 44 ∈ cl (bedT s) ++ ([].map fun p => 44 :: cl (bedT p)).flatten := by
            rw [← h, List.map_cons, List.flatten_cons]
            exact List.mem_append_right _ List.mem_cons_self
          simp at this
          exact bed44 _ this
        | cons t m =>
          rw [List.map_cons, List.flatten_cons, List.map_cons, List.flatten_cons, List.cons_append, List.cons_append] at h
          obtain ⟨e1, e2⟩ := split1 (bed44 _) (bed44 _) h
          refine ⟨e1, ?_⟩
          rw [List.map_cons, List.flatten_cons, List.map_cons, List.flatten_cons, List.cons_append, List.cons_append, e2]
    rw [bedT_inj (cl_inj key.1), joins_inj key.2]
theorem cl_beds {r : Int × Int} {l : List (Int × Int)} : 44 :: cl (bedsT (r :: l)) = ((r :: l).map fun p => 44 :: cl (bedT p)).flatten := by
  unfold bedsT
  rw [if_neg (List.cons_ne_nil _ _), List.map_cons, join_cons, List.map_map, clCm, List.map_cons, List.flatten_cons, List.cons_append]
  rfl
theorem bedsT_inj {l m : List (Int × Int)} (h : bedsT l = bedsT m) : l = m := by
  have no : ∀ {r : Int × Int} {l : List (Int × Int)}, bedsT [] = bedsT (r :: l) → False := fun {r l} e => by
    have e1 : 44 :: cl (bedsT []) = ((r :: l).map fun p => 44 :: cl (bedT p)).flatten := by rw [e, cl_beds]
    have e2 : 58 ∈ 44 :: cl (bedsT []) := by
      rw [e1, List.map_cons, List.flatten_cons]
      exact List.mem_append_left _ (List.mem_cons_of_mem _ (bed58 r))
    rw [show bedsT [] = ("none" : Str) from rfl, clNo] at e2
    revert e2
    decide
  cases l with
  | nil =>
    cases m with
    | nil => rfl
    | cons r m => exact (no h).elim
  | cons r l =>
    cases m with
    | nil => exact (no h.symm).elim
    | cons s m => exact joins_inj (by rw [← cl_beds, ← cl_beds, h])
theorem cl_gard (g : Gdn) : cl (gardT g) = cl (numT g.a) ++ 32 :: (cl (numT g.b) ++ 32 :: cl (bedsT (unTup g.c))) := by
  unfold gardT
  rw [cl_app, cl_app, cl_app, cl_app, clSp]
  simp
theorem gardT_inj {g h : Gdn} (e : gardT g = gardT h) : g = h := by
  have e := congrArg cl e
  rw [cl_gard, cl_gard] at e
  obtain ⟨e1, e⟩ := split1 (free32 _) (free32 _) e
  obtain ⟨e2, e⟩ := split1 (free32 _) (free32 _) e
  have e3 : unTup g.c = unTup h.c := bedsT_inj (cl_inj e)
  cases g
  cases h
  cases numT_inj (cl_inj e1)
  cases numT_inj (cl_inj e2)
  exact congrArg _ e3
theorem len_app (x y : Str) : (x ++ y).length = x.length + y.length := Str.length_append x y
theorem numT_len {i : Int} (h : i.natAbs < 10 ^ 12) : (numT i).length ≤ 13 := PyData.shown_int_le h
theorem fold_app : ∀ (l : List Str) (acc : Str), (l.foldl (· ++ ·) acc).length = acc.length + (l.map (·.length)).sum
  | [], acc => rfl
  | x :: l, acc => by
    rw [List.foldl_cons, fold_app l, len_app, List.map_cons, List.sum_cons, Nat.add_assoc]
theorem sum_take : ∀ (l : List Nat) (k : Nat), (l.take k).sum ≤ l.sum
  | [], k => by simp
  | x :: l, 0 => by simp
  | x :: l, k + 1 => by
    rw [List.take_succ_cons, List.sum_cons, List.sum_cons]
    have := sum_take l k
    omega
theorem glued_ok {l : List Str} (h : (l.map (·.length)).sum ≤ sizeLine) : gluedS l = some (l.foldl (· ++ ·) Str.empty) := by
  have e0 : Str.empty.length = 0 := rfl
  refine if_pos ⟨by rw [fold_app, e0]; omega, fun k _ => ?_⟩
  rw [fold_app, e0, List.map_take]
  have := sum_take (l.map (·.length)) k
  omega
theorem fmtI_ok {i : Int} (h : i.natAbs < 10 ^ 12) : fmtI i = some (numT i) := if_pos (by
  by_cases c : i.natAbs = 0
  · rw [c]
    decide
  · exact (Nat.log2_lt c).mpr (Nat.lt_of_lt_of_le h (by
      show 10 ^ 12 ≤ 2 ^ 1920
      exact Nat.le_trans (show 10 ^ 12 ≤ 2 ^ 40 by decide) (Nat.pow_le_pow_right (by decide) (by decide)))))
theorem strV_ok {i : Int} (h : i.natAbs < 10 ^ 12) : strV (.int i) = some (numT i) := fmtI_ok h
theorem fmtS_ok {x : Str} (h : x.length ≤ sizeLine) : fmtS x = some x := if_pos h
theorem fold3 (x y z : Str) : [x, y, z].foldl (· ++ ·) Str.empty = x ++ y ++ z := by
  show Str.empty ++ x ++ y ++ z = _
  rw [Str.empty_append]
theorem fold5 (x y z u v : Str) : [x, y, z, u, v].foldl (· ++ ·) Str.empty = x ++ y ++ z ++ u ++ v := by
  show Str.empty ++ x ++ y ++ z ++ u ++ v = _
  rw [Str.empty_append]
end PX

namespace PL
open PySem L2 Enc
def sumN (f : Int → Int) (a : Int) : Nat → Int
  | 0 => 0
  | n + 1 => f a + sumN f (a + 1) n
def isum (f : Int → Int) (a b : Int) : Int := sumN f a (b - a).toNat
theorem sumN_add (f : Int → Int) : ∀ (n m : Nat) (a : Int), sumN f a (n + m) = sumN f a n + sumN f (a + n) m
  | 0, m, a => by
    rw [Nat.zero_add, show a + ((0 : Nat) : Int) = a by omega]
    show _ = 0 + _
    omega
  | n + 1, m, a => by
    rw [show n + 1 + m = (n + m) + 1 by omega]
    show f a + sumN f (a + 1) (n + m) = f a + sumN f (a + 1) n + _
    rw [sumN_add f n m (a + 1), show a + 1 + (n : Int) = a + ((n + 1 : Nat) : Int) by omega]
    omega
theorem isum_add {f : Int → Int} {a b c : Int} (h1 : a ≤ b) (h2 : b ≤ c) : isum f a c = isum f a b + isum f b c := by
  unfold isum
  rw [show (c - a).toNat = (b - a).toNat + (c - b).toNat by omega, sumN_add, show a + ((b - a).toNat : Int) = b by omega]
theorem sumN_congr {f g : Int → Int} : ∀ (n : Nat) (a : Int), (∀ x, a ≤ x → x < a + n → f x = g x) → sumN f a n = sumN g a n
  | 0, _, _ => rfl
  | n + 1, a, h => by
    show f a + _ = g a + _
    rw [h a (by omega) (by omega), sumN_congr n (a + 1) fun x h1 h2 => h x (by omega) (by omega)]
theorem isum_congr {f g : Int → Int} {a b : Int} (h : ∀ x, a ≤ x → x < b → f x = g x) : isum f a b = isum g a b := sumN_congr _ _ fun x h1 h2 => h x h1 (by omega)
theorem sumN_const (c : Int) : ∀ (n : Nat) (a : Int), sumN (fun _ => c) a n = n * c
  | 0, _ => by
    show (0 : Int) = _
    simp
  | n + 1, a => by
    show c + sumN (fun _ => c) (a + 1) n = _
    rw [sumN_const c n, Int.natCast_add, Int.add_mul]
    omega
theorem isum_const {c a b : Int} (h : a ≤ b) : isum (fun _ => c) a b = (b - a) * c := by
  unfold isum
  rw [sumN_const, show ((b - a).toNat : Int) = b - a by omega]
theorem isum_self (f : Int → Int) (a : Int) : isum f a a = 0 := by
  unfold isum
  rw [Int.sub_self]
  rfl
theorem isum_const' {f : Int → Int} {c a b : Int} (h : a ≤ b) (hf : ∀ x, a ≤ x → x < b → f x = c) : isum f a b = (b - a) * c := (isum_congr hf).trans (isum_const h)
theorem isum_zero {f : Int → Int} {a b : Int} (hf : ∀ x, a ≤ x → x < b → f x = 0) : isum f a b = 0 := by
  by_cases h : a ≤ b
  · rw [isum_const' h hf, Int.mul_zero]
  · unfold isum
    rw [show (b - a).toNat = 0 by omega]
    rfl
theorem sumN_le {f g : Int → Int} : ∀ (n : Nat) (a : Int), (∀ x, a ≤ x → x < a + n → f x ≤ g x) → sumN f a n ≤ sumN g a n
  | 0, _, _ => Int.le_refl _
  | n + 1, a, h => by
    have h1 := h a (by omega) (by omega)
    have h2 := sumN_le n (a + 1) fun x h1 h2 => h x (by omega) (by omega)
    show f a + _ ≤ g a + _
    omega
theorem isum_le {f g : Int → Int} {a b : Int} (h : ∀ x, a ≤ x → x < b → f x ≤ g x) : isum f a b ≤ isum g a b := sumN_le _ _ fun x h1 h2 => h x h1 (by omega)
theorem sumN_plus (f g : Int → Int) : ∀ (n : Nat) (a : Int), sumN (fun x => f x + g x) a n = sumN f a n + sumN g a n
  | 0, _ => rfl
  | n + 1, a => by
    show f a + g a + _ = f a + _ + (g a + _)
    rw [sumN_plus f g n]
    omega
theorem isum_plus (f g : Int → Int) (a b : Int) : isum (fun x => f x + g x) a b = isum f a b + isum g a b := sumN_plus f g _ _
theorem sumN_mul (c : Int) (f : Int → Int) : ∀ (n : Nat) (a : Int), sumN (fun x => c * f x) a n = c * sumN f a n
  | 0, _ => by
    show (0 : Int) = c * 0
    rw [Int.mul_zero]
  | n + 1, a => by
    show c * f a + _ = c * (f a + _)
    rw [sumN_mul c f n, Int.mul_add]
theorem isum_mul (c : Int) (f : Int → Int) (a b : Int) : isum (fun x => c * f x) a b = c * isum f a b := sumN_mul c f _ _
theorem sumN_shift (f : Int → Int) (s : Int) : ∀ (n : Nat) (a : Int), sumN (fun x => f (x + s)) a n = sumN f (a + s) n
  | 0, _ => rfl
  | n + 1, a => by
    show f (a + s) + _ = f (a + s) + _
    rw [sumN_shift f s n, show a + 1 + s = a + s + 1 by omega]
theorem isum_shift (f : Int → Int) (s a b : Int) : isum (fun x => f (x + s)) a b = isum f (a + s) (b + s) := by
  unfold isum
  rw [sumN_shift, show b + s - (a + s) = b - a by omega]
theorem sumN_last (f : Int → Int) (n : Nat) (a : Int) : sumN f a (n + 1) = sumN f a n + f (a + n) := by
  rw [sumN_add]
  show _ + (f (a + n) + 0) = _
  omega
theorem sumN_rev (f : Int → Int) : ∀ (n : Nat) (a : Int), sumN (fun x => f (-x)) a n = sumN f (1 - a - n) n
  | 0, _ => rfl
  | n + 1, a => by
    rw [sumN_last f n]
    show f (-a) + sumN (fun x => f (-x)) (a + 1) n = _
    rw [sumN_rev f n, show 1 - a - ((n + 1 : Nat) : Int) + (n : Int) = -a by omega, show 1 - (a + 1) - (n : Int) = 1 - a - ((n + 1 : Nat) : Int) by omega]
    omega
theorem isum_rev (f : Int → Int) {a b : Int} (h : a ≤ b) : isum (fun x => f (-x)) a b = isum f (1 - b) (1 - a) := by
  unfold isum
  rw [sumN_rev, show 1 - a - ((b - a).toNat : Int) = 1 - b by omega, show (1 - a - (1 - b)) = b - a by omega]
theorem isum_nn {f : Int → Int} {a b : Int} (h : ∀ x, a ≤ x → x < b → 0 ≤ f x) : 0 ≤ isum f a b := by
  have := isum_le (f := fun _ => 0) h
  rw [isum_zero fun _ _ _ => rfl] at this
  exact this
/-- one summand more -/
theorem isum_lt {f g : Int → Int} {a b y : Int} (h : ∀ x, a ≤ x → x < b → f x ≤ g x) (h1 : a ≤ y) (h2 : y < b) (h3 : f y < g y) : isum f a b < isum g a b := by
  rw [isum_add (f := f) h1 (by omega : y ≤ b), isum_add (f := g) h1 (by omega : y ≤ b), isum_add (f := f) (show y ≤ y + 1 by omega) (by omega : y + 1 ≤ b), isum_add (f := g) (show y ≤ y + 1 by omega) (by omega : y + 1 ≤ b)]
  have q1 := isum_le (f := f) (g := g) (a := a) (b := y) fun x h4 h5 => h x h4 (by omega)
  have q2 := isum_le (f := f) (g := g) (a := y + 1) (b := b) fun x h4 h5 => h x (by omega) h5
  have q3 : isum f y (y + 1) = f y := by
    unfold isum
    rw [show (y + 1 - y).toNat = 1 by omega]
    show f y + 0 = _
    omega
  have q4 : isum g y (y + 1) = g y := by
    unfold isum
    rw [show (y + 1 - y).toNat = 1 by omega]
    show g y + 0 = _
    omega
  omega
theorem isum_one (f : Int → Int) (y : Int) : isum f y (y + 1) = f y := by
  unfold isum
  rw [show (y + 1 - y).toNat = 1 by omega]
  show f y + 0 = _
  omega
/-- a sum over neighbours in a rising list -/
theorem zip_sum {f : Int → Int} {F : Int × Int → Int} : ∀ (l : List Int) (a : Int), (a :: l).Pairwise (· < ·) → (∀ p ∈ (a :: l).zip l, F p = isum f p.1 p.2) → (((a :: l).zip l).map F).sum = isum f a ((a :: l).getLast (by simp))
  | [], a, _, _ => by
    show (0 : Int) = isum f a a
    rw [isum_self]
  | b :: l, a, hp, h => by
    have hab : a < b := (List.pairwise_cons.mp hp).1 b List.mem_cons_self
    have ih := zip_sum l b (List.pairwise_cons.mp hp).2 fun p hp => h p (by rw [List.zip_cons_cons]; exact List.mem_cons_of_mem _ hp)
    have ne : (b :: l) ≠ [] := List.cons_ne_nil _ _
    rw [List.zip_cons_cons, List.map_cons, List.sum_cons, ih, h (a, b) (by rw [List.zip_cons_cons]; exact List.mem_cons_self), List.getLast_cons ne]
    refine (isum_add (f := f) (Int.le_of_lt hab) ?_).symm
    have q := List.getLast_mem (l := b :: l) ne
    rcases List.mem_cons.mp q with q | q
    · rw [q]
      exact Int.le_refl _
    · exact Int.le_of_lt ((List.pairwise_cons.mp (List.pairwise_cons.mp hp).2).1 _ q)
theorem mem_zip_tl {l : List Int} {a b : Int} (h : (a, b) ∈ l.zip (l.drop 1)) : ∃ k : Nat, l[k]? = some a ∧ l[k + 1]? = some b := by
  obtain ⟨k, hk, e⟩ := List.getElem_of_mem h
  refine ⟨k, ?_⟩
  have e2 : (l.zip (l.drop 1))[k]? = some (a, b) := by rw [List.getElem?_eq_getElem hk, e]
  rw [List.getElem?_zip_eq_some] at e2
  obtain ⟨h1, h2⟩ := e2
  rw [List.getElem?_drop] at h2
  exact ⟨h1, by rw [Nat.add_comm]; exact h2⟩
abbrev Gdn := T3 Int Int (Tup (Int × Int))
def litP (p : Int → Bool) (l : List (Int × Int)) : Int := ((l.filter fun x => p x.1).map (·.2)).sum
theorem litP_congr {p q : Int → Bool} {l : List (Int × Int)} (h : ∀ x ∈ l, p x.1 = q x.1) : litP p l = litP q l := by
  unfold litP
  rw [List.filter_congr h]
theorem litP_none {p : Int → Bool} {l : List (Int × Int)} (h : ∀ x ∈ l, p x.1 = false) : litP p l = 0 := by
  unfold litP
  rw [List.filter_eq_nil_iff.mpr fun x hx => by rw [h x hx]; exact Bool.false_ne_true]
  rfl
theorem litP_cons (p : Int → Bool) (x : Int × Int) (l : List (Int × Int)) : litP p (x :: l) = (if p x.1 = true then x.2 else 0) + litP p l := by
  unfold litP
  by_cases h : p x.1 = true
  · rw [List.filter_cons_of_pos (p := fun x : Int × Int => p x.1) h, if_pos h]
    rfl
  · rw [List.filter_cons_of_neg (p := fun x : Int × Int => p x.1) h, if_neg h, Int.zero_add]
theorem litP_nn {p : Int → Bool} {b : Int} : ∀ {l : List (Int × Int)}, (∀ x ∈ l, 0 ≤ x.2 ∧ x.2 ≤ b) → 0 ≤ litP p l ∧ litP p l ≤ l.length * b
  | [], _ => by
    show (0 : Int) ≤ 0 ∧ (0 : Int) ≤ ((0 : Nat) : Int) * b
    simp
  | x :: l, h => by
    have h1 := h x List.mem_cons_self
    have h2 := litP_nn (p := p) (l := l) fun y hy => h y (List.mem_cons_of_mem _ hy)
    rw [litP_cons, List.length_cons, Int.natCast_add, Int.add_mul]
    split <;> omega
theorem litP_le {p q : Int → Bool} : ∀ {l : List (Int × Int)}, (∀ x ∈ l, 0 ≤ x.2) → (∀ x ∈ l, p x.1 = true → q x.1 = true) → litP p l ≤ litP q l
  | [], _, _ => Int.le_refl _
  | x :: l, h, hq => by
    have h1 := h x List.mem_cons_self
    have h2 := litP_le (l := l) (fun y hy => h y (List.mem_cons_of_mem _ hy)) fun y hy => hq y (List.mem_cons_of_mem _ hy)
    have h3 := hq x List.mem_cons_self
    rw [litP_cons, litP_cons]
    by_cases e : p x.1 = true
    · rw [if_pos e, if_pos (h3 e)]
      omega
    · rw [if_neg e]
      split <;> omega
theorem litP_all {l : List (Int × Int)} {p : Int → Bool} (h : ∀ x ∈ l, p x.1 = true) : litP p l = (l.map (·.2)).sum := by
  unfold litP
  rw [List.filter_eq_self.mpr h]
theorem perm_sum {l m : List Int} (h : l.Perm m) : l.sum = m.sum := by
  induction h with
  | nil => rfl
  | cons x _ ih => rw [List.sum_cons, List.sum_cons, ih]
  | swap x y l =>
    rw [List.sum_cons, List.sum_cons, List.sum_cons, List.sum_cons]
    omega
  | trans _ _ h1 h2 => rw [h1, h2]
theorem litP_perm {l m : List (Int × Int)} {p : Int → Bool} (h : l.Perm m) : litP p l = litP p m := by
  unfold litP
  exact perm_sum ((h.filter _).map _)
theorem litP_app (p : Int → Bool) (l m : List (Int × Int)) : litP p (l ++ m) = litP p l + litP p m := by
  unfold litP
  rw [List.filter_append, List.map_append, List.sum_append]
/-- the litres beyond the step from x to x + 1, seen from the tap -/
def byd (g : Gdn) (x : Int) : Int := if g.a ≤ x then litP (fun p => decide (x < p)) (unTup g.c) else litP (fun p => decide (p ≤ x)) (unTup g.c)
def cdiv (n c : Int) : Int := (n + c - 1) / c
theorem cdiv_zero {c : Int} (h : 1 ≤ c) : cdiv 0 c = 0 := Int.ediv_eq_zero_of_lt (by omega) (by omega)
theorem cdiv_iff {n c k : Int} (h : 1 ≤ c) : cdiv n c ≤ k ↔ n ≤ k * c := by
  unfold cdiv
  constructor
  · intro hk
    have h1 := Int.lt_ediv_add_one_mul_self (n + c - 1) (show 0 < c by omega)
    have h2 : ((n + c - 1) / c + 1) * c ≤ (k + 1) * c := Int.mul_le_mul_of_nonneg_right (by omega) (by omega)
    rw [Int.add_mul] at h2
    rw [Int.add_mul, Int.one_mul] at h1 h2
    omega
  · intro hk
    refine Int.lt_add_one_iff.mp (Int.ediv_lt_of_lt_mul (by omega) ?_)
    rw [Int.add_mul, Int.one_mul]
    omega
theorem cdiv_mono {n m c : Int} (h : 1 ≤ c) (hn : n ≤ m) : cdiv n c ≤ cdiv m c := (cdiv_iff h).mpr (Int.le_trans hn ((cdiv_iff h).mp (Int.le_refl _)))
theorem cdiv_nn {n c : Int} (h : 1 ≤ c) (hn : 0 ≤ n) : 0 ≤ cdiv n c := by
  have := cdiv_mono h hn
  rw [cdiv_zero h] at this
  exact this
theorem cdiv_le {n c : Int} (h : 1 ≤ c) (hn : 0 ≤ n) : cdiv n c ≤ n := (cdiv_iff h).mpr (by
  have := Int.mul_le_mul_of_nonneg_left h hn
  omega)
/-- the way: each step out and back as often as the litres beyond it fill cans -/
def wayR (R : Int) (g : Gdn) : Int := isum (fun x => 2 * cdiv (byd g x) g.b) (-R) R
structure Gok (g : Gdn) : Prop where
  len : (unTup g.c).length ≤ 40
  tap : -4000000 ≤ g.a ∧ g.a ≤ 4000000
  can : 1 ≤ g.b ∧ g.b ≤ 1000000000000
  pl : ∀ x ∈ unTup g.c, -1000000 ≤ x.1 ∧ x.1 ≤ 1000000 ∧ 0 ≤ x.2 ∧ x.2 ≤ 1000000000000
theorem Gok.lit {g : Gdn} (h : Gok g) (p : Int → Bool) : 0 ≤ litP p (unTup g.c) ∧ litP p (unTup g.c) ≤ 40000000000000 := by
  have h1 := litP_nn (p := p) (b := 1000000000000) fun x hx => (h.pl x hx).2.2
  have h2 := h.len
  refine ⟨h1.1, Int.le_trans h1.2 ?_⟩
  omega
theorem Gok.byd {g : Gdn} (h : Gok g) (x : Int) : 0 ≤ byd g x ∧ byd g x ≤ 40000000000000 := by
  unfold PL.byd
  split
  · exact h.lit _
  · exact h.lit _
def marksG (g : Gdn) : List Int := sortU (g.a :: (unTup g.c).map (·.1))
theorem mem_marksG {g : Gdn} {x : Int} : x ∈ marksG g ↔ x = g.a ∨ ∃ b ∈ unTup g.c, b.1 = x := by
  unfold marksG
  rw [mem_sortU, List.mem_cons, List.mem_map]
theorem Gok.marks {g : Gdn} (h : Gok g) : (∀ x ∈ marksG g, -4000000 ≤ x ∧ x ≤ 4000000) ∧ (marksG g).length ≤ 41 := by
  refine ⟨fun x hx => ?_, Nat.le_trans (sortU_len _) ?_⟩
  · rcases mem_marksG.mp hx with e | ⟨b, hb, e⟩
    · rw [e]
      exact h.tap
    · have := h.pl b hb
      omega
  · have := h.len
    rw [List.length_cons, List.length_map]
    omega
def stepG (g : Gdn) (x : Int × Int) : T3 Int Int Int := ⟨x.1, x.2, byd g x.1⟩
/-- each stretch with the litres beyond it -/
def strG (g : Gdn) : List (T3 Int Int Int) := ((marksG g).zip ((marksG g).drop 1)).map (stepG g)
/-- two marks side by side -/
structure Nb (g : Gdn) (lo hi : Int) : Prop where
  lt : lo < hi
  tap : g.a ≤ lo ∨ hi ≤ g.a
  pl : ∀ x ∈ unTup g.c, x.1 ≤ lo ∨ hi ≤ x.1
theorem nb_of {g : Gdn} {p : Int × Int} (h : p ∈ (marksG g).zip ((marksG g).drop 1)) : Nb g p.1 p.2 := by
  obtain ⟨k, h1, h2⟩ := mem_zip_tl (a := p.1) (b := p.2) h
  obtain ⟨g1, g2⟩ := gap (sortU_lt _) h1 h2
  exact ⟨g1, g2 g.a (mem_marksG.mpr (.inl rfl)), fun x hx => g2 x.1 (mem_marksG.mpr (.inr ⟨x, hx, rfl⟩))⟩
theorem Nb.byd {g : Gdn} {lo hi x : Int} (h : Nb g lo hi) (h1 : lo ≤ x) (h2 : x < hi) : byd g x = byd g lo := by
  unfold PL.byd
  have ht := h.tap
  by_cases c : g.a ≤ lo
  · rw [if_pos c, if_pos (by omega)]
    refine litP_congr fun b hb => ?_
    have := h.pl b hb
    rw [decide_eq_decide]
    omega
  · rw [if_neg c, if_neg (by omega)]
    refine litP_congr fun b hb => ?_
    have := h.pl b hb
    rw [decide_eq_decide]
    omega
theorem mem_strG {g : Gdn} {t : T3 Int Int Int} (h : t ∈ strG g) : Nb g t.a t.b ∧ t.c = byd g t.a ∧ t.a ∈ marksG g ∧ t.b ∈ marksG g := by
  obtain ⟨p, hp, rfl⟩ := List.mem_map.mp h
  exact ⟨nb_of hp, rfl, (List.of_mem_zip hp).1, List.mem_of_mem_drop (List.of_mem_zip hp).2⟩
theorem Gok.str {g : Gdn} (h : Gok g) : (strG g).length ≤ 40 ∧ ∀ t ∈ strG g, -4000000 ≤ t.a ∧ t.a < t.b ∧ t.b ≤ 4000000 ∧ 0 ≤ t.c ∧ t.c ≤ 40000000000000 := by
  refine ⟨?_, fun t ht => ?_⟩
  · unfold strG
    have := h.marks.2
    rw [List.length_map, List.length_zip, List.length_drop]
    omega
  · obtain ⟨n, e, m1, m2⟩ := mem_strG ht
    have q1 := h.marks.1 _ m1
    have q2 := h.marks.1 _ m2
    have q3 := h.byd t.a
    have q4 := n.lt
    rw [e]
    omega
/-- beyond all marks nothing is wanted -/
theorem byd_out {g : Gdn} {x : Int} (h : (∀ m ∈ marksG g, x < m) ∨ ∀ m ∈ marksG g, m ≤ x) : byd g x = 0 := by
  have ha := mem_marksG (g := g) (x := g.a).mpr (.inl rfl)
  have hb := fun b (hb : b ∈ unTup g.c) => mem_marksG (g := g) (x := b.1).mpr (.inr ⟨b, hb, rfl⟩)
  unfold byd
  rcases h with h | h
  · rw [if_neg (by have := h _ ha; omega)]
    exact litP_none fun b h1 => by
      have := h _ (hb b h1)
      rw [decide_eq_false_iff_not]
      omega
  · rw [if_pos (h _ ha)]
    exact litP_none fun b h1 => by
      have := h _ (hb b h1)
      rw [decide_eq_false_iff_not]
      omega
/-- a sum over the stretches is a sum over all steps -/
theorem str_sum {g : Gdn} {R : Int} (hR : ∀ m ∈ marksG g, -R ≤ m ∧ m ≤ R) (c : Int → Int) (hc : c 0 = 0) : ((strG g).map fun t => (t.b - t.a) * c t.c).sum = isum (fun x => c (byd g x)) (-R) R := by
  have hs := sortU_lt (g.a :: (unTup g.c).map (·.1))
  obtain ⟨m0, ms, e⟩ : ∃ m0 ms, marksG g = m0 :: ms := by
    cases e : marksG g with
    | nil =>
      have := mem_marksG (g := g) (x := g.a).mpr (.inl rfl)
      rw [e] at this
      cases this
    | cons m0 ms => exact ⟨m0, ms, rfl⟩
  have hz : (marksG g).zip ((marksG g).drop 1) = (m0 :: ms).zip ms := by rw [e]; rfl
  have h1 : ((strG g).map fun t => (t.b - t.a) * c t.c).sum = (((m0 :: ms).zip ms).map fun p => (p.2 - p.1) * c (byd g p.1)).sum := by
    unfold strG
    rw [hz, List.map_map]
    rfl
  have hs' : (m0 :: ms).Pairwise (· < ·) := by
    rw [← e]
    exact hs
  rw [h1, zip_sum (f := fun x => c (byd g x)) ms m0 hs' fun p hp => ?_]
  · have q0 := hR m0 (by rw [e]; exact List.mem_cons_self)
    have ql := hR _ (by rw [e]; exact List.getLast_mem (l := m0 :: ms) (by simp))
    have le : m0 ≤ (m0 :: ms).getLast (by simp) := by
      have q := List.getLast_mem (l := m0 :: ms) (by simp)
      rcases List.mem_cons.mp q with q | q
      · rw [q]
        exact Int.le_refl _
      · exact Int.le_of_lt ((List.pairwise_cons.mp hs').1 _ q)
    rw [isum_add (a := -R) (b := m0) (c := R) (by omega) (by omega), isum_add (a := m0) (b := (m0 :: ms).getLast (by simp)) (c := R) le ql.2]
    rw [isum_zero (a := -R) (b := m0) fun x h1 h2 => ?_, isum_zero (a := (m0 :: ms).getLast (by simp)) (b := R) fun x h1 h2 => ?_]
    · omega
    · rw [byd_out (.inr fun m hm => ?_), hc]
      rw [e] at hm
      have : ∀ (l : List Int) (hl : l ≠ []), l.Pairwise (· < ·) → ∀ m ∈ l, m ≤ l.getLast hl := fun l hl => by
        induction l with
        | nil => exact absurd rfl hl
        | cons a l ih =>
          intro hp m hm
          cases l with
          | nil =>
            rw [List.mem_singleton] at hm
            rw [hm]
            exact Int.le_refl _
          | cons b l =>
            rw [List.getLast_cons (by simp)]
            rcases List.mem_cons.mp hm with rfl | hm
            · exact Int.le_of_lt ((List.pairwise_cons.mp hp).1 _ (List.getLast_mem _))
            · exact ih (by simp) (List.pairwise_cons.mp hp).2 m hm
      exact Int.le_trans (this _ (by simp) hs' m hm) h1
    · rw [byd_out (.inl fun m hm => ?_), hc]
      rw [e] at hm
      rcases List.mem_cons.mp hm with rfl | hm
      · exact h2
      · have := (List.pairwise_cons.mp hs').1 m hm
        omega
  · rw [← hz] at hp
    have n := nb_of hp
    rw [isum_const' (c := c (byd g p.1)) (Int.le_of_lt n.lt) fun x h1 h2 => by rw [n.byd h1 h2]]
def KU : Cnt Unit := ⟨fun _ => 0, 0⟩
theorem f_ok {A : Type} {o : Option A} {m : M Unit (Fl Unit Empty A)} {v : A} (h : OkM KU 0 (retM o m) fun r => r = v) : (retM o m ()).map (·.1) = some v := by
  obtain ⟨a, s', e, ha, _⟩ := h () (Nat.le_refl _)
  rw [e, ← ha]
  rfl
end PL

namespace PL
open PySem L2 Enc
theorem bd_int {i : Int} (h : -1000000000000000000000000000000 ≤ i ∧ i ≤ 1000000000000000000000000000000) : Bd 61 0 (enc i) := Bd.int (by
  have : i.natAbs ≤ 1000000000000000000000000000000 := by omega
  exact Nat.lt_of_le_of_lt this (by decide))
theorem bd_ints {l : List Int} (h : ∀ i ∈ l, -1000000000000000000000000000000 ≤ i ∧ i ≤ 1000000000000000000000000000000) (hl : l.length ≤ 1000) : Bd 63002 1 (enc l) :=
  Bd.listE (n := 61) (h := 0) (k := 1000) (fun x hx => bd_int (h x hx)) hl
theorem Gok.bd {g : Gdn} (h : Gok g) : Bd 16000 3 (enc g) := by
  have hc : Bd (40 * (129 + 2) + 3) 2 (enc g.c) := Bd.tupE (n := 129) (h := 1) (fun x hx => by
    have := h.pl x hx
    exact Bd.pair (bd_int (by omega)) (bd_int (by omega))) h.len
  have ht := h.tap
  have hb := h.can
  exact Bd.mono (Bd.t3 (n := 5243) (h := 2) ((bd_int (by omega)).mono (by omega) (by omega)) ((bd_int (by omega)).mono (by omega) (by omega)) (hc.mono (by omega) (by omega))) (by omega) (by omega)
theorem Gok.repr {g : Gdn} (h : Gok g) : repF g = some (enc g).shown := repF_of h.bd (by decide) (by decide)
theorem ints_repr {l : List Int} (h : ∀ i ∈ l, -1000000000000000000000000000000 ≤ i ∧ i ≤ 1000000000000000000000000000000) (hl : l.length ≤ 1000) : repF l = some (enc l).shown := repF_of (bd_ints h hl) (by decide) (by decide)
theorem way_bd {g : Gdn} (h : Gok g) : 0 ≤ wayR 4000000 g ∧ wayR 4000000 g ≤ 640000000000000000000 := by
  have hc := h.can
  have hb := fun x => h.byd x
  have q := fun x => cdiv_nn hc.1 (hb x).1
  have q2 := fun x => cdiv_le hc.1 (hb x).1
  unfold wayR
  refine ⟨isum_nn fun x _ _ => by have := q x; omega, ?_⟩
  have := isum_le (f := fun x => 2 * cdiv (PL.byd g x) g.b) (g := fun _ => 80000000000000) (a := -4000000) (b := 4000000) fun x _ _ => by
    have h1 := q2 x
    have h2 := hb x
    show 2 * cdiv (PL.byd g x) g.b ≤ 80000000000000
    omega
  rw [isum_const (by omega)] at this
  omega
end PL

local macro_rules | `(tactic| walk_at "side") => `(tactic| first | with_reducible exact PL.shp_two | omega | decide | exact Nat.le_of_ble_eq_true rfl | exact PL.wide_of (by omega) (by omega) | exact ⟨by omega, PL.wide_of (by omega) (by omega)⟩ | exact ⟨PL.wide_of (by omega) (by omega), PL.wide_of (by omega) (by omega)⟩ | exact ⟨by omega, by omega⟩ | (unfold PL.modOk; omega) | (unfold PL.lenOk; omega) | ((try unfold PL.lenOk); simp only [List.length_append, List.length_cons, List.length_nil, List.length_map, List.length_replicate, List.length_dropLast, PL.len_rangeL]; omega))
local macro_rules | `(tactic| walk_at "step") => `(tactic| first | ((with_reducible refine PL.ob_guard ?hg ?_); case hg => (walk_at "side")) | ((with_reducible refine PL.ob_drawX ?h1 ?h2 (by omega) fun _ _ _ => ?_); (case h1 => (walk_at "side")); (case h2 => (walk_at "side"))) | ((with_reducible refine PL.ob_drawX1 ?h1 ?h2 (by omega) fun _ _ _ => ?_); (case h1 => (walk_at "side")); (case h2 => (walk_at "side"))) | ((with_reducible refine PL.ob_ix ?h0 ?h1 fun _ hx => ?_); (case h0 => omega); (case h1 => (simp only [List.length_append, List.length_cons, List.length_nil, List.length_map] at *; omega)); simp only [List.mem_append, List.mem_cons, List.not_mem_nil, or_false] at hx))
namespace K55
open PySem L2 PL.Enc PX
open PL hiding Gdn
theorem draw_eq : d__law_draw = drawX := rfl
theorem garden_eq : d__law_garden = gardenX := rfl
/-- gardens with a text -/
structure TextOk (g : Gdn) : Prop where
  len : (unTup g.c).length ≤ 12
  tap : -1000000 ≤ g.a ∧ g.a ≤ 1000000
  can : 1 ≤ g.b ∧ g.b ≤ 1000000
  pl : ∀ x ∈ unTup g.c, -1000000 ≤ x.1 ∧ x.1 ≤ 1000000 ∧ 1 ≤ x.2 ∧ x.2 ≤ 1000000000
theorem ab {i : Int} (h : -1000000000 ≤ i ∧ i ≤ 1000000000) : i.natAbs < 10 ^ 12 := by
  have : i.natAbs ≤ 1000000000 := by omega
  exact Nat.lt_of_le_of_lt this (by decide)
theorem bed_len {r : Int × Int} (h : -1000000 ≤ r.1 ∧ r.1 ≤ 1000000 ∧ 1 ≤ r.2 ∧ r.2 ≤ 1000000000) : (bedT r).length ≤ 27 := by
  have h1 := numT_len (i := r.1) (ab (by omega))
  have h2 := numT_len (i := r.2) (ab (by omega))
  unfold bedT
  rw [len_app, len_app]
  have : (":" : Str).length = 1 := by decide +kernel
  omega
theorem beds_len {g : Gdn} (h : TextOk g) : ((((unTup g.c).map bedT).map (·.length)).sum ≤ 324) := by
  have : ∀ l : List (Int × Int), (∀ x ∈ l, -1000000 ≤ x.1 ∧ x.1 ≤ 1000000 ∧ 1 ≤ x.2 ∧ x.2 ≤ 1000000000) → ((l.map bedT).map (·.length)).sum ≤ 27 * l.length := by
    intro l
    induction l with
    | nil => exact fun _ => Nat.le_refl _
    | cons x l ih =>
      intro hx
      have h1 := bed_len (hx x List.mem_cons_self)
      have h2 := ih fun y hy => hx y (List.mem_cons_of_mem _ hy)
      rw [List.map_cons, List.map_cons, List.sum_cons, List.length_cons]
      omega
  have := this _ h.pl
  have := h.len
  omega
theorem join_ok {g : Gdn} (h : TextOk g) : joinS (",":Str) ((unTup g.c).map bedT) = some (Txt.join ("," : Str) ((unTup g.c).map bedT)) := if_pos (by
  have := beds_len h
  have := h.len
  have e : ("," : Str).length = 1 := by decide +kernel
  rw [List.length_map, e]
  omega)
theorem join_len (sep : Str) : ∀ l : List Str, (Txt.join sep l).length ≤ (l.map (·.length)).sum + l.length * sep.length
  | [] => Nat.zero_le _
  | x :: l => by
    show (cl (Txt.join sep (x :: l))).length ≤ _
    rw [join_cons, List.length_append, List.map_cons, List.sum_cons, List.length_cons]
    have : ∀ l : List Str, ((l.map fun p => cl sep ++ cl p).flatten).length = (l.map (·.length)).sum + l.length * sep.length := by
      intro l
      induction l with
      | nil => simp
      | cons y l ih =>
        rw [List.map_cons, List.flatten_cons, List.length_append, ih, List.length_append, List.map_cons, List.sum_cons, List.length_cons, Nat.succ_mul]
        have e1 : (cl sep).length = sep.length := rfl
        have e2 : (cl y).length = y.length := rfl
        omega
    rw [this, Nat.succ_mul]
    have e2 : (cl x).length = x.length := rfl
    omega
theorem join_z {g : Gdn} : (Txt.join ("," : Str) ((unTup g.c).map bedT)).length = 0 ↔ unTup g.c = [] := by
  cases e : unTup g.c with
  | nil => exact ⟨fun _ => rfl, fun _ => rfl⟩
  | cons r l =>
    refine ⟨fun h => ?_, fun h => by cases h⟩
    have h : (cl (Txt.join ("," : Str) ((r :: l).map bedT))).length = 0 := h
    rw [List.map_cons, join_cons, List.length_append] at h
    have := List.length_pos_of_mem (bed58 r)
    omega
theorem eNone : ("none" : Str).length = 4 := by decide +kernel
theorem eSp : (" " : Str).length = 1 := by decide +kernel
theorem eCo : (":" : Str).length = 1 := by decide +kernel
theorem eCm : ("," : Str).length = 1 := by decide +kernel
theorem sl : sizeLine = 16777216 := rfl
theorem bed_of {S : Type} {r : Int × Int} (h : -1000000 ≤ r.1 ∧ r.1 ≤ 1000000 ∧ 1 ≤ r.2 ∧ r.2 ≤ 1000000000) : (bindM (ofO (fmtI r.1)) fun a => bindM (ofO (fmtS (":" : Str))) fun a_1 => bindM (ofO (fmtI r.2)) fun a_2 => ofO (gluedS [a, a_1, a_2]) : M S Str) = pureM (bedT r) := by
  have h1 := numT_len (i := r.1) (ab (by omega))
  have h2 := numT_len (i := r.2) (ab (by omega))
  rw [fmtI_ok (ab (by omega)), fmtI_ok (ab (by omega)), fmtS_ok (by rw [eCo, sl]; omega)]
  simp only [nf1]
  rw [glued_ok (by
    simp only [List.map_cons, List.map_nil, List.sum_cons, List.sum_nil, eCo, sl]
    omega), fold3]
  rfl
theorem join_le {g : Gdn} (h : TextOk g) : (Txt.join ("," : Str) ((unTup g.c).map bedT)).length ≤ 400 := by
  have h1 := join_len ("," : Str) ((unTup g.c).map bedT)
  have h2 := beds_len h
  have h3 := h.len
  rw [List.length_map, eCm] at h1
  omega
theorem text_ok {g : Gdn} (h : TextOk g) : f_garden_text (g, ()) = some (gardT g) := by
  refine f_of ?_
  simp only [m_garden_text, nf1, nf2, nf3, nf4, fstrM, joinM, orSM]
  have hl := h.len
  have ht := h.tap
  have hc := h.can
  have hj := join_le h
  have h1 := numT_len (i := g.a) (ab (by omega))
  have h2 := numT_len (i := g.b) (ab (by omega))
  rw [guard_true (lenOk_le (by omega)), lcM_pure (q := fun _ => true) (g := bedT) (fun _ _ => rfl) fun r hr _ => bed_of (h.pl r hr), List.filter_eq_self.mpr fun _ _ => rfl]
  simp only [nf1]
  rw [fmtI_ok (ab (by omega)), fmtI_ok (ab (by omega)), fmtS_ok (by rw [eNone, sl]; omega)]
  simp only [nf1, bin2_pure]
  rw [join_ok h]
  simp only [nf1]
  rw [guard_true (by rw [sl]; omega), fmtS_ok (by rw [sl]; omega)]
  simp only [nf1]
  have fin : ∀ x : Str, x.length ≤ 400 → (bindM (ofO (gluedS [numT g.a, (" " : Str), numT g.b, (" " : Str), x])) fun a => pureM a : M Unit Str) = pureM (numT g.a ++ (" " : Str) ++ numT g.b ++ (" " : Str) ++ x) := fun x hx => by
    rw [glued_ok (by
      simp only [List.map_cons, List.map_nil, List.sum_cons, List.sum_nil, eSp, sl]
      omega), fold5]
    rfl
  rw [fin _ hj, fin _ (by rw [eNone]; decide)]
  unfold gardT bedsT
  by_cases c : unTup g.c = []
  · rw [if_pos (join_z.mpr c), if_pos c]
  · rw [if_neg (fun z => c (join_z.mp z)), if_neg c]
theorem join3 (x y z : Str) : Txt.join (" " : Str) [x, y, z] = x ++ (" " : Str) ++ y ++ (" " : Str) ++ z := by
  refine cl_inj ?_
  rw [join_cons, cl_app, cl_app, cl_app, cl_app]
  simp
theorem ltext_ok {g : Gdn} (h : TextOk g) : f__law_text (g, ()) = some (gardT g) := by
  refine f_of ?_
  simp only [m__law_text, nf1, nf2, nf3, nf4, fstrM, joinM, orSM, catSM]
  have hl := h.len
  have ht := h.tap
  have hc := h.can
  have hj := join_le h
  have h1 := numT_len (i := g.a) (ab (by omega))
  have h2 := numT_len (i := g.b) (ab (by omega))
  rw [guard_true (lenOk_le (by omega)), lcM_pure (q := fun _ => true) (g := bedT) (fun _ _ => rfl) fun r hr _ => by
    have h := h.pl r hr
    have h1 := numT_len (i := r.1) (ab (by omega))
    have h2 := numT_len (i := r.2) (ab (by omega))
    rw [show strV (enc r.1) = some (numT r.1) from strV_ok (ab (by omega)), show strV (enc r.2) = some (numT r.2) from strV_ok (ab (by omega))]
    simp only [nf1, bin2_pure]
    rw [show catS (numT r.1) (":" : Str) = some (numT r.1 ++ (":" : Str)) from if_pos (by rw [eCo, sl]; omega)]
    simp only [nf1, bin2_pure]
    rw [show catS (numT r.1 ++ (":" : Str)) (numT r.2) = some (bedT r) from if_pos (by rw [len_app, eCo, sl]; omega)]
    rfl, List.filter_eq_self.mpr fun _ _ => rfl]
  simp only [bin2_pure]
  rw [join_ok h, show strV (enc g.a) = some (numT g.a) from strV_ok (ab (by omega)), show strV (enc g.b) = some (numT g.b) from strV_ok (ab (by omega))]
  simp only [nf1]
  have j3 : ∀ x : Str, x.length ≤ 400 → (bindM (bin2 joinS (pureM (" " : Str)) (pureM [numT g.a, numT g.b, x])) fun a => pureM a : M Unit Str) = pureM (numT g.a ++ (" " : Str) ++ numT g.b ++ (" " : Str) ++ x) := fun x hx => by
    simp only [bin2_pure]
    rw [show joinS (" " : Str) [numT g.a, numT g.b, x] = some _ from if_pos (by
      simp only [List.map_cons, List.map_nil, List.sum_cons, List.sum_nil, List.length_cons, List.length_nil, eSp]
      omega), join3]
    rfl
  rw [guard_true (lenOk_le (by simp)), guard_true (lenOk_le (by simp))]
  unfold gardT bedsT
  by_cases c : unTup g.c = []
  · rw [c, if_pos rfl, if_neg (by decide), j3 _ (by rw [eNone]; decide)]
  · have nz : ¬ Txt.join ("," : Str) ((unTup g.c).map bedT) = ("" : Str) := fun e => c (join_z.mp (by rw [e]; decide +kernel))
    rw [if_pos (by rw [decide_eq_false nz]; rfl), if_neg c, j3 _ hj]
theorem same_text (g h : Gdn) : PyData.eqv (enc g) (enc h) = decide (gardT g = gardT h) := by
  have e : PyData.eqv (enc g) (enc h) = true ↔ g = h := PL.LE.same g h
  by_cases c : g = h
  · rw [e.mpr c, decide_eq_true (congrArg gardT c)]
  · rw [decide_eq_false (fun z => c (gardT_inj z))]
    cases q : PyData.eqv (enc g) (enc h) with
    | false => rfl
    | true => exact absurd (e.mp q) c
theorem row_ok {gs : List Gdn} {k : Int} (h0 : 0 ≤ k) (h1 : k < (gs.length : Int)) : ∃ g ∈ gs, atI gs k = some g ∧ gs[k.toNat]? = some g := by
  have hk : k.toNat < gs.length := by omega
  refine ⟨gs[k.toNat], List.getElem_mem hk, ?_, List.getElem?_eq_getElem hk⟩
  unfold atI ixN
  rw [if_pos h0, if_pos h1]
  exact List.getElem?_eq_getElem hk
theorem rep_ok {g : Gdn} (h : TextOk g) : repF g = some (enc g).shown := by
  have hc : Bd (12 * (129 + 2) + 3) 2 (enc g.c) := Bd.tupE (n := 129) (h := 1) (fun x hx => by
    have := h.pl x hx
    exact Bd.pair (bd_int (by omega)) (bd_int (by omega))) h.len
  have ht := h.tap
  have hb := h.can
  exact repF_of (Bd.mono (Bd.t3 (n := 5243) (h := 2) ((bd_int (by omega)).mono (by omega) (by omega)) ((bd_int (by omega)).mono (by omega) (by omega)) (hc.mono (by omega) (by omega))) (Nat.le_refl _) (Nat.le_refl _)) (by decide) (by decide)
theorem text_of {g : Gdn} (h : GardOk (Int.toNat 12) g) : TextOk g := ⟨h.len, h.tap, h.can, h.pl⟩
theorem law_ok : OkM KA 100000 m_law fun r => r = .rt true := by
  simp only [m_law, draw_eq, garden_eq, nfK, nf2, nf3, nf4, nf5, nf7, p10_6, p10_9]
  refine ob_guard (by decide) (ob_guard (lenOk_le (by rw [len_rangeL]; decide)) ?_)
  refine ob_map (g := fun k => (1000000 - 11 + k, 1000000000)) (fun k _ => guard_true (by decide) _) ?_
  generalize hw : (rangeL 0 12).map (fun k : Int => ((1000000 - 11 + k, 1000000000) : Int × Int)) = wide
  have hwl : wide.length = 12 := by
    rw [← hw, List.length_map, len_rangeL]
    rfl
  have hwp : ∀ x ∈ wide, -1000000 ≤ x.1 ∧ x.1 ≤ 1000000 ∧ 1 ≤ x.2 ∧ x.2 ≤ 1000000000 := fun x hx => by
    rw [← hw] at hx
    obtain ⟨k, hk, rfl⟩ := List.mem_map.mp hx
    have := mem_rangeL.mp hk
    show -1000000 ≤ 1000000 - 11 + k ∧ 1000000 - 11 + k ≤ 1000000 ∧ (1 : Int) ≤ 1000000000 ∧ (1000000000 : Int) ≤ 1000000000
    omega
  repeat' (refine ob_guard (by first | decide | exact lenOk_le (by simp)) ?_)
  try refine ob_guard (lenOk_le (by rw [len_rangeL]; decide)) ?_
  refine ob_lc (P := TextOk) 12 100 90000 (by rw [len_rangeL]; decide) (by decide) (fun x _ => OkM.mono (gardenX_ok (by decide)) (Nat.le_refl _) fun g hg => text_of hg) fun drawn hd ld => ?_
  have hd12 : drawn.length = 12 := by
    rw [ld, len_rangeL]
    rfl
  refine ob_guard (lenOk_le (by simp [hd12])) ?_
  have hall : ∀ g ∈ ([⟨0, 1, toTup []⟩, ⟨-1000000, 1000000, toTup wide⟩, ⟨1000000, 1, toTup [(-1000000, 1)]⟩, ⟨1, 11, toTup []⟩, ⟨11, 1, toTup []⟩] ++ [⟨0, 2, toTup [(1, 1)]⟩, ⟨0, 2, toTup [(-1, 1)]⟩, ⟨0, 2, toTup [(1, 1), (3, 2)]⟩, ⟨0, 2, toTup [(11, 3), (12, 2)]⟩] ++ drawn : List Gdn), TextOk g := fun g hg => by
    rcases List.mem_append.mp hg with hg | hg
    · simp only [List.mem_append, List.mem_cons, List.not_mem_nil, or_false] at hg
      rcases hg with (rfl | rfl | rfl | rfl | rfl) | rfl | rfl | rfl | rfl
      · exact ⟨by decide, by decide, by decide, by decide⟩
      · exact ⟨by show wide.length ≤ 12; omega, by show (-1000000 : Int) ≤ -1000000 ∧ (-1000000 : Int) ≤ 1000000; decide, by show (1 : Int) ≤ 1000000 ∧ (1000000 : Int) ≤ 1000000; decide, hwp⟩
      · exact ⟨by decide, by decide, by decide, by decide⟩
      · exact ⟨by decide, by decide, by decide, by decide⟩
      · exact ⟨by decide, by decide, by decide, by decide⟩
      · exact ⟨by decide, by decide, by decide, by decide⟩
      · exact ⟨by decide, by decide, by decide, by decide⟩
      · exact ⟨by decide, by decide, by decide, by decide⟩
      · exact ⟨by decide, by decide, by decide, by decide⟩
    · exact hd g hg
  have hlen : ([⟨0, 1, toTup []⟩, ⟨-1000000, 1000000, toTup wide⟩, ⟨1000000, 1, toTup [(-1000000, 1)]⟩, ⟨1, 11, toTup []⟩, ⟨11, 1, toTup []⟩] ++ [⟨0, 2, toTup [(1, 1)]⟩, ⟨0, 2, toTup [(-1, 1)]⟩, ⟨0, 2, toTup [(1, 1), (3, 2)]⟩, ⟨0, 2, toTup [(11, 3), (12, 2)]⟩] ++ drawn : List Gdn).length = 21 := by simp [hd12]
  revert hall hlen
  generalize ([⟨0, 1, toTup []⟩, ⟨-1000000, 1000000, toTup wide⟩, ⟨1000000, 1, toTup [(-1000000, 1)]⟩, ⟨1, 11, toTup []⟩, ⟨11, 1, toTup []⟩] ++ [⟨0, 2, toTup [(1, 1)]⟩, ⟨0, 2, toTup [(-1, 1)]⟩, ⟨0, 2, toTup [(1, 1), (3, 2)]⟩, ⟨0, 2, toTup [(11, 3), (12, 2)]⟩] ++ drawn : List Gdn) = gs
  intro hall hlen
  refine ob_for 21 0 0 (fun pre (s : List Str) => s = pre.map gardT) (by omega) (by omega) rfl (fun pre g post s e hs => ?_) fun s hs => ?_
  · subst hs
    have hg := hall g (by rw [e]; simp)
    rw [rep_ok hg, text_ok hg, ltext_ok hg]
    simp only [nfK]
    have t1 : (!tyName (enc (gardT g)) == "str") = false := rfl
    simp only [t1, Bool.false_eq_true, if_false, decide_true, Bool.not_true, nfK]
    refine ob_guard (lenOk_le (by
      have := congrArg List.length e
      rw [List.length_append] at this
      rw [List.length_map]
      omega)) (ob_pure ?_)
    show _ = _
    rw [List.map_append]
    rfl
  · subst hs
    refine ob_each 21 0 0 (by rw [List.length_map, List.length_zipIdx, List.length_map]; omega) (by omega) (fun x hx => ?_) ?_
    · obtain ⟨q, hq, rfl⟩ := List.mem_map.mp hx
      obtain ⟨t, k⟩ := q
      have hk := List.mem_zipIdx hq
      obtain ⟨_, hk, ht⟩ := hk
      rw [List.length_map] at hk
      obtain ⟨g, hg, e1, e2⟩ := row_ok (gs := gs) (k := (k : Int)) (by omega) (by omega)
      have et : t = gardT g := by
        have e3 : gs[k]? = some g := e2
        have e4 : (gs.map gardT)[k]? = some (gardT g) := by rw [List.getElem?_map, e3]; rfl
        rw [ht]
        simp only [Nat.sub_zero]
        rw [List.getElem?_eq_getElem (by rw [List.length_map]; omega)] at e4
        injection e4
      subst et
      dsimp only
      rw [e1]
      simp only [nfK]
      refine ob_guard (lenOk_le (by rw [List.length_map]; omega)) (ob_guard (lenOk_le (by omega)) (ob_map (g := fun h => PyData.eqv (enc g) (enc h)) (fun h _ => guard_true PL.shp_two _) (ob_guard PL.shp_two ?_)))
      have e5 : (gs.map gardT).map (fun x => decide (gardT g = x)) = gs.map fun h => PyData.eqv (enc g) (enc h) := by
        rw [List.map_map]
        exact List.map_congr_left fun h _ => (same_text g h).symm
      rw [e5, (PL.LE.same (gs.map fun h => PyData.eqv (enc g) (enc h)) _).mpr rfl]
      exact ob_pure rfl
    · rw [text_ok (g := ⟨0, 2, toTup [(-1, 1), (3, 2)]⟩) ⟨by decide, by decide, by decide, by decide⟩, text_ok (g := ⟨-7, 1, toTup []⟩) ⟨by decide, by decide, by decide, by decide⟩]
      simp only [nfK]
      have e1 : gardT ⟨0, 2, toTup [(-1, 1), (3, 2)]⟩ = ("0 2 -1:1,3:2" : Str) := by decide +kernel
      have e2 : gardT ⟨-7, 1, toTup []⟩ = ("-7 1 none" : Str) := by decide +kernel
      rw [e1, e2]
      refine ob_guard (lenOk_le (by simp)) (ob_guard (lenOk_le (by simp)) (ob_guard (lenOk_le (by simp)) (ob_guard (lenOk_le (by simp)) (ob_guard ⟨by decide +kernel, by decide +kernel⟩ (ob_pure ?_)))))
      exact congrArg Fl.rt (show PyData.eqv (enc ([("0 2 -1:1,3:2" : Str), ("-7 1 none" : Str)] : List Str)) (enc ([("0 2 -1:1,3:2" : Str), ("-7 1 none" : Str)] : List Str)) = true by decide +kernel)
theorem law_true (ns : List Int) (_ : ns.length ≤ 63) : ∃ s', retM none m_law (initA ns) = some (true, s') := law_of (c := 100000) (m := m_law) (by omega) law_ok ns
end K55

namespace K55
open PySem L2 PL PL.Enc
theorem txt_mk {K : PySem.W.Frag} {h : Heap} {mg : Str → Option Value} (X : K.In h) (G : h.Ns mainGlobals mg)
    {f0 : Addr} {od0 an0 : Option Addr} {sl0 : Array (Option Value)} {oc0 kV0 dc0 pm0 cd0 ct0 : Value}
    {f1 : Addr} {od1 an1 : Option Addr} {sl1 : Array (Option Value)} {oc1 kV1 dc1 pm1 cd1 ct1 : Value}
    {f2 : Addr} {od2 an2 : Option Addr} {sl2 : Array (Option Value)} {oc2 kV2 dc2 pm2 cd2 ct2 : Value}
    {f3 : Addr} {od3 an3 : Option Addr} {sl3 : Array (Option Value)} {oc3 kV3 dc3 pm3 cd3 ct3 : Value}
    {f4 : Addr} {od4 an4 : Option Addr} {sl4 : Array (Option Value)} {oc4 kV4 dc4 pm4 cd4 ct4 : Value}
    {f5 : Addr} {od5 an5 : Option Addr} {sl5 : Array (Option Value)} {oc5 kV5 dc5 pm5 cd5 ct5 : Value}
    {t_COLON : Tok}
    {t_COMMA : Tok}
    {t_NO_BEDS : Tok}
    (a0 : PySem.W.nsIn K mainGlobals "garden_text" = some (some (.ref f0))) (l0 : K.lookup f0 = some ⟨oc0, od0, .func (PySem.W.fnOf "garden_text" "garden_text" (defArgs (topS 4)) (defBody (topS 4)) (defScope (topS 4)) .none kV0 dc0 pm0 an0 cd0 ct0), sl0⟩) (c0 : PySem.W.codeIn K cd0 "garden_text" = true) (k0 : PySem.W.keepIn K (.ref f0) = true)
    (a1 : PySem.W.nsIn K mainGlobals "_law_deck" = some (some (.ref f1))) (l1 : K.lookup f1 = some ⟨oc1, od1, .func (PySem.W.fnOf "_law_deck" "_law_deck" (defArgs (topS 6)) (defBody (topS 6)) (defScope (topS 6)) .none kV1 dc1 pm1 an1 cd1 ct1), sl1⟩) (c1 : PySem.W.codeIn K cd1 "_law_deck" = true) (k1 : PySem.W.keepIn K (.ref f1) = true)
    (a2 : PySem.W.nsIn K mainGlobals "_law_draw" = some (some (.ref f2))) (l2 : K.lookup f2 = some ⟨oc2, od2, .func (PySem.W.fnOf "_law_draw" "_law_draw" (defArgs (topS 7)) (defBody (topS 7)) (defScope (topS 7)) .none kV2 dc2 pm2 an2 cd2 ct2), sl2⟩) (c2 : PySem.W.codeIn K cd2 "_law_draw" = true) (k2 : PySem.W.keepIn K (.ref f2) = true)
    (a3 : PySem.W.nsIn K mainGlobals "_law_garden" = some (some (.ref f3))) (l3 : K.lookup f3 = some ⟨oc3, od3, .func (PySem.W.fnOf "_law_garden" "_law_garden" (defArgs (topS 8)) (defBody (topS 8)) (defScope (topS 8)) .none kV3 dc3 pm3 an3 cd3 ct3), sl3⟩) (c3 : PySem.W.codeIn K cd3 "_law_garden" = true) (k3 : PySem.W.keepIn K (.ref f3) = true)
    (a4 : PySem.W.nsIn K mainGlobals "_law_text" = some (some (.ref f4))) (l4 : K.lookup f4 = some ⟨oc4, od4, .func (PySem.W.fnOf "_law_text" "_law_text" (defArgs (topS 9)) (defBody (topS 9)) (defScope (topS 9)) .none kV4 dc4 pm4 an4 cd4 ct4), sl4⟩) (c4 : PySem.W.codeIn K cd4 "_law_text" = true) (k4 : PySem.W.keepIn K (.ref f4) = true)
    (a5 : PySem.W.nsIn K mainGlobals "law" = some (some (.ref f5))) (l5 : K.lookup f5 = some ⟨oc5, od5, .func (PySem.W.fnOf "law" "law" (defArgs (topS 10)) (defBody (topS 10)) (defScope (topS 10)) .none kV5 dc5 pm5 an5 cd5 ct5), sl5⟩) (c5 : PySem.W.codeIn K cd5 "law" = true) (k5 : PySem.W.keepIn K (.ref f5) = true)
    (z_abs : PySem.W.nsIn K mainGlobals "abs" = some none)
    (z_enumerate : PySem.W.nsIn K mainGlobals "enumerate" = some none)
    (z_int : PySem.W.nsIn K mainGlobals "int" = some none)
    (z_isinstance : PySem.W.nsIn K mainGlobals "isinstance" = some none)
    (z_len : PySem.W.nsIn K mainGlobals "len" = some none)
    (z_range : PySem.W.nsIn K mainGlobals "range" = some none)
    (z_repr : PySem.W.nsIn K mainGlobals "repr" = some none)
    (z_sorted : PySem.W.nsIn K mainGlobals "sorted" = some none)
    (z_str : PySem.W.nsIn K mainGlobals "str" = some none)
    (z_tuple : PySem.W.nsIn K mainGlobals "tuple" = some none)
    (g_COLON : PySem.W.nsIn K mainGlobals "COLON" = some (some (.str ":" t_COLON)))
    (g_COMMA : PySem.W.nsIn K mainGlobals "COMMA" = some (some (.str "," t_COMMA)))
    (g_NO_BEDS : PySem.W.nsIn K mainGlobals "NO_BEDS" = some (some (.str "none" t_NO_BEDS))) : Txt K mg :=
  ⟨⟨f0, _, fun_mk (st := topS 4) l0 c0 k0, PySem.W.mg_of X G a0, (fun_mk (st := topS 4) l0 c0 k0).binds (ps := ["garden"]) fun _ _ _ _ _ _ us hl => match us, hl with | [_], _ => rfl⟩,
   ⟨f1, _, fun_mk (st := topS 6) l1 c1 k1, PySem.W.mg_of X G a1, (fun_mk (st := topS 6) l1 c1 k1).binds (ps := ["_law_script"]) fun _ _ _ _ _ _ us hl => match us, hl with | [_], _ => rfl⟩,
   ⟨f2, _, fun_mk (st := topS 7) l2 c2 k2, PySem.W.mg_of X G a2, (fun_mk (st := topS 7) l2 c2 k2).binds (ps := ["_law_deck_here", "_law_many"]) fun _ _ _ _ _ _ us hl => match us, hl with | [_, _], _ => rfl⟩,
   ⟨f3, _, fun_mk (st := topS 8) l3 c3 k3, PySem.W.mg_of X G a3, (fun_mk (st := topS 8) l3 c3 k3).binds (ps := ["_law_deck_here", "_law_most"]) fun _ _ _ _ _ _ us hl => match us, hl with | [_, _], _ => rfl⟩,
   ⟨f4, _, fun_mk (st := topS 9) l4 c4 k4, PySem.W.mg_of X G a4, (fun_mk (st := topS 9) l4 c4 k4).binds (ps := ["_law_garden_here"]) fun _ _ _ _ _ _ us hl => match us, hl with | [_], _ => rfl⟩,
   PySem.W.mg_none_of X G z_abs,
   PySem.W.mg_none_of X G z_enumerate,
   PySem.W.mg_none_of X G z_int,
   PySem.W.mg_none_of X G z_isinstance,
   PySem.W.mg_none_of X G z_len,
   PySem.W.mg_none_of X G z_range,
   PySem.W.mg_none_of X G z_repr,
   PySem.W.mg_none_of X G z_sorted,
   PySem.W.mg_none_of X G z_str,
   PySem.W.mg_none_of X G z_tuple,
   ⟨t_COLON, PySem.W.mg_of X G g_COLON⟩,
   ⟨t_COMMA, PySem.W.mg_of X G g_COMMA⟩,
   ⟨t_NO_BEDS, PySem.W.mg_of X G g_NO_BEDS⟩⟩
theorem all_mk {l : PySem.W.OpenLaw} {w : World} {K : PySem.W.Frag} {h : Heap} {mg : Str → Option Value} {fa : Addr} (X : K.In h) (G : h.Ns mainGlobals mg) (hfa : mg "law" = some (.ref fa))
    {f0 : Addr} {od0 an0 : Option Addr} {sl0 : Array (Option Value)} {oc0 kV0 dc0 pm0 cd0 ct0 : Value}
    {f1 : Addr} {od1 an1 : Option Addr} {sl1 : Array (Option Value)} {oc1 kV1 dc1 pm1 cd1 ct1 : Value}
    {f2 : Addr} {od2 an2 : Option Addr} {sl2 : Array (Option Value)} {oc2 kV2 dc2 pm2 cd2 ct2 : Value}
    {f3 : Addr} {od3 an3 : Option Addr} {sl3 : Array (Option Value)} {oc3 kV3 dc3 pm3 cd3 ct3 : Value}
    {f4 : Addr} {od4 an4 : Option Addr} {sl4 : Array (Option Value)} {oc4 kV4 dc4 pm4 cd4 ct4 : Value}
    {f5 : Addr} {od5 an5 : Option Addr} {sl5 : Array (Option Value)} {oc5 kV5 dc5 pm5 cd5 ct5 : Value}
    {t_COLON : Tok}
    {t_COMMA : Tok}
    {t_NO_BEDS : Tok}
    (a0 : PySem.W.nsIn K mainGlobals "garden_text" = some (some (.ref f0))) (l0 : K.lookup f0 = some ⟨oc0, od0, .func (PySem.W.fnOf "garden_text" "garden_text" (defArgs (topS 4)) (defBody (topS 4)) (defScope (topS 4)) .none kV0 dc0 pm0 an0 cd0 ct0), sl0⟩) (c0 : PySem.W.codeIn K cd0 "garden_text" = true) (k0 : PySem.W.keepIn K (.ref f0) = true)
    (a1 : PySem.W.nsIn K mainGlobals "_law_deck" = some (some (.ref f1))) (l1 : K.lookup f1 = some ⟨oc1, od1, .func (PySem.W.fnOf "_law_deck" "_law_deck" (defArgs (topS 6)) (defBody (topS 6)) (defScope (topS 6)) .none kV1 dc1 pm1 an1 cd1 ct1), sl1⟩) (c1 : PySem.W.codeIn K cd1 "_law_deck" = true) (k1 : PySem.W.keepIn K (.ref f1) = true)
    (a2 : PySem.W.nsIn K mainGlobals "_law_draw" = some (some (.ref f2))) (l2 : K.lookup f2 = some ⟨oc2, od2, .func (PySem.W.fnOf "_law_draw" "_law_draw" (defArgs (topS 7)) (defBody (topS 7)) (defScope (topS 7)) .none kV2 dc2 pm2 an2 cd2 ct2), sl2⟩) (c2 : PySem.W.codeIn K cd2 "_law_draw" = true) (k2 : PySem.W.keepIn K (.ref f2) = true)
    (a3 : PySem.W.nsIn K mainGlobals "_law_garden" = some (some (.ref f3))) (l3 : K.lookup f3 = some ⟨oc3, od3, .func (PySem.W.fnOf "_law_garden" "_law_garden" (defArgs (topS 8)) (defBody (topS 8)) (defScope (topS 8)) .none kV3 dc3 pm3 an3 cd3 ct3), sl3⟩) (c3 : PySem.W.codeIn K cd3 "_law_garden" = true) (k3 : PySem.W.keepIn K (.ref f3) = true)
    (a4 : PySem.W.nsIn K mainGlobals "_law_text" = some (some (.ref f4))) (l4 : K.lookup f4 = some ⟨oc4, od4, .func (PySem.W.fnOf "_law_text" "_law_text" (defArgs (topS 9)) (defBody (topS 9)) (defScope (topS 9)) .none kV4 dc4 pm4 an4 cd4 ct4), sl4⟩) (c4 : PySem.W.codeIn K cd4 "_law_text" = true) (k4 : PySem.W.keepIn K (.ref f4) = true)
    (a5 : PySem.W.nsIn K mainGlobals "law" = some (some (.ref f5))) (l5 : K.lookup f5 = some ⟨oc5, od5, .func (PySem.W.fnOf "law" "law" (defArgs (topS 10)) (defBody (topS 10)) (defScope (topS 10)) .none kV5 dc5 pm5 an5 cd5 ct5), sl5⟩) (c5 : PySem.W.codeIn K cd5 "law" = true) (k5 : PySem.W.keepIn K (.ref f5) = true)
    (z_abs : PySem.W.nsIn K mainGlobals "abs" = some none)
    (z_enumerate : PySem.W.nsIn K mainGlobals "enumerate" = some none)
    (z_int : PySem.W.nsIn K mainGlobals "int" = some none)
    (z_isinstance : PySem.W.nsIn K mainGlobals "isinstance" = some none)
    (z_len : PySem.W.nsIn K mainGlobals "len" = some none)
    (z_range : PySem.W.nsIn K mainGlobals "range" = some none)
    (z_repr : PySem.W.nsIn K mainGlobals "repr" = some none)
    (z_sorted : PySem.W.nsIn K mainGlobals "sorted" = some none)
    (z_str : PySem.W.nsIn K mainGlobals "str" = some none)
    (z_tuple : PySem.W.nsIn K mainGlobals "tuple" = some none)
    (g_COLON : PySem.W.nsIn K mainGlobals "COLON" = some (some (.str ":" t_COLON)))
    (g_COMMA : PySem.W.nsIn K mainGlobals "COMMA" = some (some (.str "," t_COMMA)))
    (g_NO_BEDS : PySem.W.nsIn K mainGlobals "NO_BEDS" = some (some (.str "none" t_NO_BEDS))) :
    ∃ fd : FuncData, (∀ (s : Shared) (v : Value), BindsTo s fd ⟨[v], []⟩ [("_law_script", v)]) ∧ ∀ base : Heap, K.In base → base.Ns mainGlobals mg → FnG l.prog w K mg base CX0 3 fa fd ["_law_script"] (spLaw K) := by
  have e := hfa.symm.trans (PySem.W.mg_of X G a5)
  cases e
  have T : Txt K mg := txt_mk X G a0 l0 c0 k0 a1 l1 c1 k1 a2 l2 c2 k2 a3 l3 c3 k3 a4 l4 c4 k4 a5 l5 c5 k5 z_abs z_enumerate z_int z_isinstance z_len z_range z_repr z_sorted z_str z_tuple g_COLON g_COMMA g_NO_BEDS
  exact ⟨PySem.W.fnOf "law" "law" (defArgs st_law) (defBody st_law) (defScope st_law) .none kV5 dc5 pm5 an5 cd5 ct5, fun s v => .of_eq rfl, fun base _ _ => ok_law T (fun_mk (st := st_law) l5 c5 k5) law_true⟩
end K55
open PySem PySem.W PyProof.Rows
set_option maxHeartbeats 0 in
theorem PySem.Challenge.cw_canpath_k55_garden_texts_holds : PySem.Challenge.rw_canpath_k55_garden_texts.Holds := by
  w_on; o_law; k_head; (case hw => w_witness2)
  k_fill
  refine PL.walkG (l := PySem.Challenge.rw_canpath_k55_garden_texts) (k := 3) (x := "_law_script") rfl rfl ⟨rfl, by decide, by decide⟩ (fun w h Y => PySem.W.kIn_of Y) ?F
  case F =>
    intro w mg fa h KX G hmg
    refine' K55.all_mk KX G hmg ?a0 ?l0 ?c0 ?k0 ?a1 ?l1 ?c1 ?k1 ?a2 ?l2 ?c2 ?k2 ?a3 ?l3 ?c3 ?k3 ?a4 ?l4 ?c4 ?k4 ?a5 ?l5 ?c5 ?k5 ?z_abs ?z_enumerate ?z_int ?z_isinstance ?z_len ?z_range ?z_repr ?z_sorted ?z_str ?z_tuple ?g_COLON ?g_COMMA ?g_NO_BEDS
    (case a0 => k_is)
    (case l0 => k_is)
    (case c0 => k_is)
    (case k0 => k_is)
    (case a1 => k_is)
    (case l1 => k_is)
    (case c1 => k_is)
    (case k1 => k_is)
    (case a2 => k_is)
    (case l2 => k_is)
    (case c2 => k_is)
    (case k2 => k_is)
    (case a3 => k_is)
    (case l3 => k_is)
    (case c3 => k_is)
    (case k3 => k_is)
    (case a4 => k_is)
    (case l4 => k_is)
    (case c4 => k_is)
    (case k4 => k_is)
    (case a5 => k_is)
    (case l5 => k_is)
    (case c5 => k_is)
    (case k5 => k_is)
    (case z_abs => k_is)
    (case z_enumerate => k_is)
    (case z_int => k_is)
    (case z_isinstance => k_is)
    (case z_len => k_is)
    (case z_range => k_is)
    (case z_repr => k_is)
    (case z_sorted => k_is)
    (case z_str => k_is)
    (case z_tuple => k_is)
    (case g_COLON => k_is)
    (case g_COMMA => k_is)
    (case g_NO_BEDS => k_is)
