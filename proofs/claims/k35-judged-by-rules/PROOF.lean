import PyProof.Rows.All
import Wide.All
import OpenK.AllK
import Wide.FinOn
import HandS.Base
import HandS.Call
import HandS.List
import HandS.Comp
import HandS.Ends
import HandS.Dict
import HandS.Iter
import HandS.Text
import HandS.Words
import HandS.Exc
import HandS.ExcOwn
import HandS.More
import HandS.TupAny
import HandS.TupMul
import HandS.Lambda
import HandS.HeadHook4
import HandS.ForMost
import HandS.IsInst
import HandS.Deep
import HandS.Style
import HandS.Walk
import HandS.WordsExc
import HandS.Defaults
import HandS.Head0
import HandS.Head1
import HandS.Head2
import HandS.HeadEnd
import HandS.HeadHook1
import HandS.HeadHook2
import HandS.HeadHook3
import HandS.RaiseMore
import HandS.ExcValue
import HandS.ExcIs
import KE.KEqDict
import KE.KDictLaw
import HandS.TryOnly
import HandS.NestedK
import HandS.Strs
import HandS.Zip
import HandS.ListItems
import HandS.Finally
import HandS.StrMore
import HandS.TupSets
import KE.KDictPairs
import HandS.TupLen
import HandS.SortInts
import HandS.NamedTupSort
import HandS.SortRule
import HandS.DictTup
import HandS.SortOrd
import KE.KSortTup
import HandS.Conv
import HandS.SetKeys
import HandS.SetFor
import PyProof.EnumMake
import PyProof.ListStr
import PyProof.MinMaxWalk
import PyProof.WalksMore
import HandS.Replace
import PyProof.ToksMono
import HandS.WrittenGet
import PyProof.Rows.TupDisplay
import KE.KDictDisplayH
import HandS.Wide
import PyProof.StrLawsFrom
import PySem.Challenge.RW_bellyard_k35_judged_by_rules
set_option Elab.async false
set_option linter.all false
set_option maxRecDepth 100000
set_option maxHeartbeats 0
namespace Bel
open PySem PySem.Spec PyProof.Rows L2
/-- a tuple's own object at a, no instance dict -/
def TupO (o : Obj) (xs : List V) : HO := .frz o (.tup xs)
/-- a new tuple, whatever its object -/
def NewT (H : Hp) (xs : List V) (Q : VK) : Prop := ∀ p o, H p = none → o.dict = none → Q (.ref p) (upd H p (TupO o xs))
section
variable {X : Cx} {pins : List (Addr × Obj)} {σ : L2.St} {H : Hp} {s : Shared}
theorem tup_laid {h' : Heap} {a : Addr} {xs : List V} {its : Array Value} {n t' : Nat} {us : List Value} (I : Inv X pins σ H s) (k : ∀ b u, s.heap.get? b = some u → h'.get? b = some u) (hp : s.heap.objs.size ≤ a)
    (at_ : h'.get? a = some { cls := .type "tuple", data := .seq its n }) (hz : xs.length ≤ sizeLine) (r : Vals xs us) (e : its = us.toArray) :
    Inv X pins σ (upd H a (TupO { cls := .type "tuple", data := .seq its n } xs)) { s with heap := h', toks := t' } := by
  subst e
  exact I.laid k hp ⟨at_, hz, us, r, ⟨_, at_, rfl, n, rfl⟩⟩
/-- the new tuple at the heap's end -/
theorem tup_push {Q : VK} {xs : List V} {us : List Value} (I : Inv X pins σ H s) (hz : xs.length ≤ sizeLine) (r : Vals xs us) (q : NewT H xs Q) :
    EP X pins σ Q (.ref s.heap.objs.size) { s with heap := s.heap.push { cls := .type "tuple", data := .seq us.toArray } } :=
  ⟨.ref s.heap.objs.size, _, tup_laid (t' := s.toks) I (fun _ _ z => Heap.get?_push_of_some _ z) (Nat.le_refl _) (Heap.get?_push_size _ rfl) hz r rfl, rfl, q _ _ (I.hok.fresh (Nat.le_refl _)) rfl⟩
def tTupX (t : TA) : TE := fun σ H Q => t σ H fun xs H1 => xs.length ≤ sizeLine ∧ NewT H1 xs Q
theorem pe_tupX {es : List Expr} {t : TA} {pos : Pos} {k} (h : PA X es t) : PE X (.Tuple es k pos) (tTupX t) := by
  constructor
  intro pins s σ H Q I hq
  apply wpAny_Tuple_spliced
  apply thn (h.run pos pins s σ H _ I hq)
  rintro us s1 ⟨xs, H1, I1, r, z, q⟩
  exact ⟨by rw [← r.length]; exact z, tup_push I1 z r q⟩
def rTupX (K : PySem.W.Frag) : List V → Hp → VK → Prop := fun xs H Q => ∃ p ys, xs = [.ref p] ∧ ((SqL K H p ys ∧ NewT H ys Q) ∨ (SqT K H p ys ∧ Q (.ref p) H))
theorem call_tupX : CallR X (.type "tuple") (rTupX X.K) := by
  intro pins s σ H xs us Q I r h
  obtain ⟨p, ys, rfl, h⟩ := h
  obtain ⟨u, rfl, rx⟩ := vals1 r
  cases rx
  rcases h with ⟨hl, q⟩ | ⟨ht, q⟩
  · obtain ⟨its, rv, pl, hz⟩ := I.list hl
    have le := rv.length
    refine call_tuple_list pl.isList (fun h1 k1 => ?_) (by rw [List.size_toArray, ← le]; exact hz)
    exact tup_push (I.kept (t' := s.toks) k1) hz rv q
  · obtain ⟨its, rv, tp, _⟩ := I.tuple ht
    exact call_tuple_same tp ⟨.ref p, H, I, rfl, q⟩
def rCatX (K : PySem.W.Frag) : R2 := fun x y H Q => ∃ a b xs ys, x = .ref a ∧ y = .ref b ∧ SqT K H a xs ∧ SqT K H b ys ∧ xs.length + ys.length ≤ sizeLine ∧
  (xs = [] → Q (.ref b) H) ∧ (xs ≠ [] → ys = [] → Q (.ref a) H) ∧ (xs ≠ [] → ys ≠ [] → NewT H (xs ++ ys) Q)
theorem op_catX : OpR X (binaryOp .Add) (rCatX X.K) := by
  intro pins s σ H x y v u Q I rx ry h
  obtain ⟨a, b, xs, ys, rfl, rfl, ha, hb, hz, q0, q1, q2⟩ := h
  cases rx
  cases ry
  obtain ⟨us, r1, p1, _⟩ := I.tuple ha
  obtain ⟨vs, r2, p2, _⟩ := I.tuple hb
  by_cases hx : xs = []
  · subst hx
    cases r1
    exact cat_tup0 p1 p2 ⟨.ref b, H, I, rfl, q0 rfl⟩
  · apply HT.cat_tup p1 p2 (fun z => hx (r1.nil_iff.mp z)) (fun z => ⟨.ref a, H, I, rfl, q1 hx (r2.nil_iff.mp z)⟩)
    · intro z
      exact tup_push I (by rw [List.length_append]; exact hz) (r1.append r2) (q2 hx fun w => z (r2.nil_iff.mpr w))
    · rw [← r1.length, ← r2.length]; exact hz
def rSlX (K : PySem.W.Frag) : V → Option Int → Option Int → Hp → VK → Prop := fun x lo hi H Q => ∃ a xs, x = .ref a ∧ SqT K H a xs ∧
  (HT.sIx xs.length 0 lo = 0 ∧ HT.sIx xs.length xs.length hi = xs.length → Q (.ref a) H) ∧ (¬ (HT.sIx xs.length 0 lo = 0 ∧ HT.sIx xs.length xs.length hi = xs.length) → NewT H (cutV xs lo hi) Q)
theorem sl_tupX : SlR X (rSlX X.K) := by
  intro pins s σ H x v vl vu lo hi sl Q I rx hs pl pu h
  obtain ⟨a, xs, rfl, hx, q1, q2⟩ := h
  cases rx
  obtain ⟨us, r, ht, hz⟩ := I.tuple hx
  have le : us.toArray.size = xs.length := by rw [List.size_toArray, ← r.length]
  refine ⟨"tuple", _, slot_tuple_getitem.lookup, ht.typeIs, ?_⟩
  by_cases hw : HT.sIx xs.length 0 lo = 0 ∧ HT.sIx xs.length xs.length hi = xs.length
  · exact getItem_tuple_whole ht hs pl pu (by rw [le]; exact hw) ⟨.ref a, H, I, rfl, q1 hw⟩
  · refine HT.getItem_tuple_cut ht hs pl pu (by rw [le]; exact hw) ?_ (by rw [le]; exact hz)
    rw [le]
    exact tup_push I (Nat.le_trans (cutV_length xs lo hi) hz) ((r.drop (HT.sIx xs.length 0 lo)).take _) (q2 hw)
end
end Bel

namespace Bel
open PySem PySem.Spec PyProof.Rows L2

inductive W where
  | non | bl (b : Bool) | int (i : Int) | str (x : List Nat) | tup (l : List W) | lst (l : List W) | dct (l : List (W × W)) | exc (c : Nat) | kdc (l : List (List Nat × W)) | tdc (l : List (List Int × W))
/-- what a name holds: a plain value, or an own object by its number -/
inductive U where
  | v (w : W) | o (n : Nat)
/-- a class of the text: its name, its instances' attributes in the order in which they come -/
structure Cl where
  name : Str
  at_ : List Str
deriving DecidableEq
/-- what an object with references in it is: a list, a tuple, an instance of a class (its first attributes), a dict with these keys (texts and numbers), one whose keys are tuples of numbers -/
inductive RK where
  | lst | tup | ins (c : Cl) | dk (ks : List W) | td (ks : List (List Int))
/-- an own object; ru: one that may hold references to own objects -/
inductive Ob where
  | lst (l : List W) | dct (l : List (W × W)) | scr (l : List W) | tbl (x q : Str) | td (l : List (List Int × W)) | ru (k : RK) (us : List U) | dead
abbrev Store := List Ob

abbrev okCp (c : Nat) : Bool := decide (c < 1114112)

/-- an exception object of the class cls at a, held as a value -/
def ExV (cls : Value) (a : Addr) : HO := .ext fun h => ∃ (oe : Obj) (vs : Array Value), h.get? a = some oe ∧ Zc cls none oe ∧ oe.data = .fields vs

/-- the object of a dict at a whose keys are tuples of numbers; xs: the keys, where they stand, the values -/
def TdAt (w : World) (a : Addr) (o : Obj) (xs : List (List Int × Addr × Value)) (h : Heap) : Prop :=
  ∃ es ep, h.get? a = some o ∧ o.ExactDict ∧ o.data = .dict es ep ∧ (∀ P : Program, es.toList = xs.map (entryOfKey (tupleKind (intKind P w)))) ∧ (xs.map (·.1)).Nodup
def TdO (w : World) (a : Addr) (o : Obj) (xs : List (List Int × Addr × Value)) : HO := .ext (TdAt w a o xs)
def TdI (w : World) (H : Hp) (a : Addr) (xs : List (List Int × Addr × Value)) : Prop := ∃ o, H a = some (TdO w a o xs)
/-- the classes of own errors by their numbers; rf: whether objects may hold references -/
structure Ec where
  f : Nat → Value
  rf : Bool
instance : CoeFun Ec fun _ => Nat → Value := ⟨Ec.f⟩
/-- what is fixed: the written part, the classes of own errors by their numbers -/
structure Fx where
  K : PySem.W.Frag
  w : World
  ec : Ec

section
variable (F : Fx) (H : Hp) (O : Addr → Prop)
def KTup (a : Addr) (xs : List V) : Prop := ∃ (o : Obj) (its : Array Value) (n : Nat), F.K.lookup a = some o ∧ o.cls = .type "tuple" ∧ o.dict = none ∧ o.data = .seq its n ∧ its.size ≤ sizeLine ∧ Vals xs its.toList
/-- a written dict with text keys -/
def KDc (a : Addr) (kvs : List (Str × V)) : Prop :=
  (∃ es n, F.K.lookup a = some ⟨.type "dict", none, .dict es n, #[]⟩ ∧ PySem.W.KeysLit F.w.params es.toList ∧ (a == sysModules) = false) ∧
    ∀ x : Str, match kvs.lookup x with
      | some v => ∃ u, PySem.W.nsIn F.K a x = some (some u) ∧ RelV v u
      | none => PySem.W.nsIn F.K a x = some none
def FLst (a : Addr) (xs : List V) : Prop := H a = some (.lst xs) ∧ ¬ O a
/-- a tuple's own object, without an instance dict -/
def ExT (a : Addr) (xs : List V) : Prop := ∃ o, H a = some (TupO o xs) ∧ o.dict = none
def FTup (a : Addr) (xs : List V) : Prop := (ExT H a xs ∧ ¬ O a) ∨ KTup F a xs
def FDct (a : Addr) (kvs : List (Key × V)) : Prop := Rd H a (.dK kvs) ∧ ¬ O a
/-- w stands for v, and stays -/
inductive Rp : W → V → Prop where
  | non : Rp .non .non
  | bl (b : Bool) : Rp (.bl b) (.bl b)
  | int (i : Int) : Rp (.int i) (.int i)
  | str (x : List Nat) (h : x.length ≤ sizeLine) (h2 : x.all okCp = true) : Rp (.str x) (.str ⟨x.toArray⟩)
  | tup {a : Addr} {vs : List V} {ws : List W} (h : FTup F H O a vs) (hl : ws.length = vs.length) (hs : ∀ (i : Nat) (w : W) (v : V), ws[i]? = some w → vs[i]? = some v → Rp w v) : Rp (.tup ws) (.ref a)
  | lst {a : Addr} {vs : List V} {ws : List W} (h : FLst H O a vs) (hl : ws.length = vs.length) (hs : ∀ (i : Nat) (w : W) (v : V), ws[i]? = some w → vs[i]? = some v → Rp w v) : Rp (.lst ws) (.ref a)
  | dct {a : Addr} {kvs : List (Key × V)} {ws : List (W × W)} (h : FDct H O a kvs) (hl : ws.length = kvs.length)
      (hk : ∀ (i : Nat) (w : W × W) (v : Key × V), ws[i]? = some w → kvs[i]? = some v → Rp w.1 (kV v.1)) (hs : ∀ (i : Nat) (w : W × W) (v : Key × V), ws[i]? = some w → kvs[i]? = some v → Rp w.2 v.2) : Rp (.dct ws) (.ref a)
  | exc {a : Addr} {c : Nat} (h : H a = some (ExV (F.ec c) a)) (hn : ¬ O a) : Rp (.exc c) (.ref a)
  | kdc {a : Addr} {kvs : List (Str × V)} {ws : List (List Nat × W)} (h : KDc F a kvs) (hl : ws.length = kvs.length) (hk : ∀ (i : Nat) (w : List Nat × W) (v : Str × V), ws[i]? = some w → kvs[i]? = some v → v.1 = ⟨w.1.toArray⟩)
      (hs : ∀ (i : Nat) (w : List Nat × W) (v : Str × V), ws[i]? = some w → kvs[i]? = some v → Rp w.2 v.2) : Rp (.kdc ws) (.ref a)
  | tdc {a : Addr} {o : Obj} {xs : List (List Int × Addr × Value)} {vs : List V} {ws : List (List Int × W)} (h : H a = some (TdO F.w a o xs)) (hn : ¬ O a) (hm : (a == sysModules) = false) (hl : ws.length = xs.length) (hv : vs.length = xs.length)
      (hk : ∀ (i : Nat) (w : List Int × W) (x : List Int × Addr × Value), ws[i]? = some w → xs[i]? = some x → x.1 = w.1 ∧ FTup F H O x.2.1 (w.1.map V.int))
      (hr : ∀ (i : Nat) (v : V) (x : List Int × Addr × Value), vs[i]? = some v → xs[i]? = some x → RelV v x.2.2)
      (hs : ∀ (i : Nat) (w : List Int × W) (v : V), ws[i]? = some w → vs[i]? = some v → Rp w.2 v) : Rp (.tdc ws) (.ref a)
/-- lists of them -/
def RpL (ws : List W) (vs : List V) : Prop := ws.length = vs.length ∧ ∀ (i : Nat) (w : W) (v : V), ws[i]? = some w → vs[i]? = some v → Rp F H O w v
def RpD (ws : List (W × W)) (kvs : List (Key × V)) : Prop := ws.length = kvs.length ∧ (∀ (i : Nat) (w : W × W) (v : Key × V), ws[i]? = some w → kvs[i]? = some v → Rp F H O w.1 (kV v.1)) ∧ ∀ (i : Nat) (w : W × W) (v : Key × V), ws[i]? = some w → kvs[i]? = some v → Rp F H O w.2 v.2
end
section
variable {F : Fx} {H H' : Hp} {O O' : Addr → Prop}
theorem RpL.nil : RpL F H O [] [] := ⟨rfl, fun i w v h => by simp at h⟩
theorem RpL.cons {w : W} {v : V} {ws : List W} {vs : List V} (h : Rp F H O w v) (r : RpL F H O ws vs) : RpL F H O (w :: ws) (v :: vs) := by
  refine ⟨by simp [r.1], fun i x y hx hy => ?_⟩
  cases i with
  | zero => simp at hx hy; subst hx hy; exact h
  | succ i => simp at hx hy; exact r.2 i x y hx hy
theorem RpL.head {w : W} {v : V} {ws : List W} {vs : List V} (r : RpL F H O (w :: ws) (v :: vs)) : Rp F H O w v := r.2 0 w v rfl rfl
theorem RpL.tail {w : W} {v : V} {ws : List W} {vs : List V} (r : RpL F H O (w :: ws) (v :: vs)) : RpL F H O ws vs := ⟨by have := r.1; simpa using this, fun i x y hx hy => r.2 (i + 1) x y (by simpa using hx) (by simpa using hy)⟩
theorem RpL.nil_iff {vs : List V} (r : RpL F H O [] vs) : vs = [] := by
  have := r.1
  cases vs with
  | nil => rfl
  | cons _ _ => simp at this
theorem RpL.cons_iff {w : W} {ws : List W} {vs : List V} (r : RpL F H O (w :: ws) vs) : ∃ v vs', vs = v :: vs' ∧ Rp F H O w v ∧ RpL F H O ws vs' := by
  cases vs with
  | nil => have := r.1; simp at this
  | cons v vs' => exact ⟨v, vs', rfl, r.head, r.tail⟩
theorem RpL.append {ws xs : List W} {vs ys : List V} (r : RpL F H O ws vs) (q : RpL F H O xs ys) : RpL F H O (ws ++ xs) (vs ++ ys) := by
  induction ws generalizing vs with
  | nil => rw [r.nil_iff]; exact q
  | cons w ws ih =>
    obtain ⟨v, vs', rfl, h, r'⟩ := r.cons_iff
    exact .cons h (ih r')
theorem RpL.get {ws : List W} {vs : List V} (r : RpL F H O ws vs) {i : Nat} {w : W} (h : ws[i]? = some w) : ∃ v, vs[i]? = some v ∧ Rp F H O w v := by
  obtain ⟨hi, _⟩ := List.getElem?_eq_some_iff.mp h
  have hi' : i < vs.length := by rw [← r.1]; exact hi
  exact ⟨vs[i], by simp [hi'], r.2 i w vs[i] h (by simp [hi'])⟩
theorem RpL.take {ws : List W} {vs : List V} (r : RpL F H O ws vs) (n : Nat) : RpL F H O (ws.take n) (vs.take n) := by
  refine ⟨by simp [r.1], fun i x y hx hy => ?_⟩
  rw [List.getElem?_take] at hx hy
  split at hx <;> simp_all
  exact r.2 i x y hx hy
theorem RpL.drop {ws : List W} {vs : List V} (r : RpL F H O ws vs) (n : Nat) : RpL F H O (ws.drop n) (vs.drop n) := by
  refine ⟨by simp [r.1], fun i x y hx hy => ?_⟩
  rw [List.getElem?_drop] at hx hy
  exact r.2 _ x y hx hy
theorem RpL.set {ws : List W} {vs : List V} (r : RpL F H O ws vs) (n : Nat) {w : W} {v : V} (h : Rp F H O w v) : RpL F H O (ws.set n w) (vs.set n v) := by
  refine ⟨by simp [r.1], fun i x y hx hy => ?_⟩
  rw [List.getElem?_set] at hx hy
  split at hx
  · split at hx
    · split at hy
      · split at hy
        · cases hx; cases hy; exact h
        · cases hy
      · rename_i a b c; exact absurd a c
    · cases hx
  · rename_i a
    rw [if_neg a] at hy
    exact r.2 i x y hx hy
theorem RpL.reverse {ws : List W} {vs : List V} (r : RpL F H O ws vs) : RpL F H O ws.reverse vs.reverse := by
  induction ws generalizing vs with
  | nil => rw [r.nil_iff]; exact .nil
  | cons w ws ih =>
    obtain ⟨v, vs', rfl, h, r'⟩ := r.cons_iff
    simp only [List.reverse_cons]
    exact (ih r').append (.cons h .nil)
theorem RpL.dropLast {ws : List W} {vs : List V} (r : RpL F H O ws vs) : RpL F H O ws.dropLast vs.dropLast := by
  rw [List.dropLast_eq_take, List.dropLast_eq_take, r.1]
  exact r.take _
theorem Rp.mkTup {a : Addr} {vs : List V} {ws : List W} (h : FTup F H O a vs) (r : RpL F H O ws vs) : Rp F H O (.tup ws) (.ref a) := .tup h r.1 r.2
theorem Rp.mkLst {a : Addr} {vs : List V} {ws : List W} (h : FLst H O a vs) (r : RpL F H O ws vs) : Rp F H O (.lst ws) (.ref a) := .lst h r.1 r.2
theorem Rp.mkDct {a : Addr} {kvs : List (Key × V)} {ws : List (W × W)} (h : FDct H O a kvs) (r : RpD F H O ws kvs) : Rp F H O (.dct ws) (.ref a) := .dct h r.1 r.2.1 r.2.2
theorem Rp.tup_inv {ws : List W} {v : V} (r : Rp F H O (.tup ws) v) : ∃ a vs, v = .ref a ∧ FTup F H O a vs ∧ RpL F H O ws vs := by
  cases r with
  | tup h hl hs => exact ⟨_, _, rfl, h, hl, hs⟩
theorem Rp.lst_inv {ws : List W} {v : V} (r : Rp F H O (.lst ws) v) : ∃ a vs, v = .ref a ∧ FLst H O a vs ∧ RpL F H O ws vs := by
  cases r with
  | lst h hl hs => exact ⟨_, _, rfl, h, hl, hs⟩
theorem Rp.dct_inv {ws : List (W × W)} {v : V} (r : Rp F H O (.dct ws) v) : ∃ a kvs, v = .ref a ∧ FDct H O a kvs ∧ RpD F H O ws kvs := by
  cases r with
  | dct h hl hk hs => exact ⟨_, _, rfl, h, hl, hk, hs⟩
theorem FTup.sq {a : Addr} {vs : List V} (h : FTup F H O a vs) : SqT F.K H a vs := by
  rcases h with ⟨⟨o, h, _⟩, _⟩ | ⟨o, its, n, h1, h2, _, h3⟩
  · exact .inl (.inr ⟨o, h⟩)
  · exact .inr ⟨o, its, n, h1, h2, h3⟩
theorem FLst.sq {a : Addr} {vs : List V} (h : FLst H O a vs) : SqL F.K H a vs := .inl (.inl h.1)

/-- what nobody owns stays -/
def Ext (O : Addr → Prop) (H H' : Hp) : Prop := ∀ a ho, H a = some ho → ¬ O a → H' a = some ho
/-- nothing that stood becomes owned -/
def Own (O O' : Addr → Prop) (H : Hp) : Prop := ∀ a, O' a → O a ∨ H a = none
theorem Rd.ext {a : Addr} {u : HO} (e : Ext O H H') (p : Own O O' H) (h : Rd H a u) (n : ¬ O a) : Rd H' a u ∧ ¬ O' a := by
  rcases h with h | ⟨o, h⟩
  · exact ⟨.inl (e a _ h n), fun z => (p a z).elim n fun q => by rw [h] at q; cases q⟩
  · exact ⟨.inr ⟨o, e a _ h n⟩, fun z => (p a z).elim n fun q => by rw [h] at q; cases q⟩
theorem FTup.ext {a : Addr} {vs : List V} (e : Ext O H H') (p : Own O O' H) (h : FTup F H O a vs) : FTup F H' O' a vs := by
  rcases h with ⟨⟨o, h, hd⟩, n⟩ | h
  · exact .inl ⟨⟨o, e a _ h n, hd⟩, fun z => (p a z).elim n fun q => by rw [h] at q; cases q⟩
  · exact .inr h
theorem FLst.ext {a : Addr} {vs : List V} (e : Ext O H H') (p : Own O O' H) (h : FLst H O a vs) : FLst H' O' a vs := ⟨e a _ h.1 h.2, fun z => (p a z).elim h.2 fun q => by rw [h.1] at q; cases q⟩
theorem FDct.ext {a : Addr} {kvs : List (Key × V)} (e : Ext O H H') (p : Own O O' H) (h : FDct H O a kvs) : FDct H' O' a kvs := Rd.ext e p h.1 h.2
theorem Rp.ext (e : Ext O H H') (p : Own O O' H) {w : W} {v : V} (r : Rp F H O w v) : Rp F H' O' w v := by
  induction r with
  | non => exact .non
  | bl b => exact .bl b
  | int i => exact .int i
  | str x h h2 => exact .str x h h2
  | tup h hl hs ih => exact .tup (h.ext e p) hl ih
  | lst h hl hs ih => exact .lst (h.ext e p) hl ih
  | dct h hl hk hs ihk ihs => exact .dct (h.ext e p) hl ihk ihs
  | kdc h hl hk hs ihs => exact .kdc h hl hk ihs
  | tdc h hn hm hl hv hk hr hs ihs => exact .tdc (e _ _ h hn) (fun z => (p _ z).elim hn fun q => by rw [h] at q; cases q) hm hl hv (fun i w x h1 h2 => ⟨(hk i w x h1 h2).1, (hk i w x h1 h2).2.ext e p⟩) hr ihs
  | exc h hn => exact .exc (e _ _ h hn) fun z => (p _ z).elim hn fun q => by rw [h] at q; cases q
theorem RpL.ext (e : Ext O H H') (p : Own O O' H) {ws : List W} {vs : List V} (r : RpL F H O ws vs) : RpL F H' O' ws vs := ⟨r.1, fun i w v h1 h2 => (r.2 i w v h1 h2).ext e p⟩
theorem RpD.ext (e : Ext O H H') (p : Own O O' H) {ws : List (W × W)} {vs : List (Key × V)} (r : RpD F H O ws vs) : RpD F H' O' ws vs := ⟨r.1, fun i w v h1 h2 => (r.2.1 i w v h1 h2).ext e p, fun i w v h1 h2 => (r.2.2 i w v h1 h2).ext e p⟩
end

/-- what is owned: the addresses of the objects that live -/
def Ow (ι : List Addr) (S : Store) (a : Addr) : Prop := ∃ (n : Nat) (o : Ob), S[n]? = some o ∧ o ≠ Ob.dead ∧ ι[n]? = some a
/-- .. or hidden: what is being made -/
def Oq (ι : List Addr) (S : Store) (B : Addr → Prop) (a : Addr) : Prop := Ow ι S a ∨ B a
/-- the table of the inner code of the def x; q the name of what is made there -/
def TblR (F : Fx) (H : Hp) (O : Addr → Prop) (a : Addr) (x q : Str) : Prop :=
  a = (He.cT F.K (x, none)).2 ∧ ∃ ps : Array Value, H a = some (.tbl ps) ∧ TriplesOk ps.toList ∧ ∀ (pos : Pos) (cv : Value), codeAmong pos ps.toList = some cv → ∃ c, cv = .ref c ∧ H c = some (LamX.CodeO c q) ∧ ¬ O c
theorem TblR.ext {F : Fx} {H H' : Hp} {O O' : Addr → Prop} {a : Addr} {x q : Str} (r : TblR F H O a x q) (e : Ext O H H') (p : Own O O' H) (h : ∀ ho, H a = some ho → H' a = some ho) : TblR F H' O' a x q := by
  obtain ⟨h1, ps, h3, h4, h5⟩ := r
  refine ⟨h1, ps, h _ h3, h4, fun pos cv hc => ?_⟩
  obtain ⟨c, e1, e2, e3⟩ := h5 pos cv hc
  exact ⟨c, e1, e c _ e2 e3, fun z => (p c z).elim e3 fun z => by rw [e2] at z; cases z⟩
/-- an own dict whose keys are tuples of numbers -/
structure TdV (F : Fx) (H : Hp) (O : Addr → Prop) (a : Addr) (ws : List (List Int × W)) (xs : List (List Int × Addr × Value)) (vs : List V) : Prop where
  at_ : TdI F.w H a xs
  sm : (a == sysModules) = false
  l1 : ws.length = xs.length
  l2 : vs.length = xs.length
  keys : ∀ (i : Nat) (w : List Int × W) (x : List Int × Addr × Value), ws[i]? = some w → xs[i]? = some x → x.1 = w.1 ∧ FTup F H O x.2.1 (w.1.map V.int)
  rel : ∀ (i : Nat) (v : V) (x : List Int × Addr × Value), vs[i]? = some v → xs[i]? = some x → RelV v x.2.2
  vals : ∀ (i : Nat) (w : List Int × W) (v : V), ws[i]? = some w → vs[i]? = some v → Rp F H O w.2 v
def TdVR (F : Fx) (H : Hp) (O : Addr → Prop) (a : Addr) (ws : List (List Int × W)) : Prop := ∃ xs vs, TdV F H O a ws xs vs
theorem TdVR.ext {F : Fx} {H H' : Hp} {O O' : Addr → Prop} {a : Addr} {ws : List (List Int × W)} (r : TdVR F H O a ws) (e : Ext O H H') (p : Own O O' H) (h : ∀ ho, H a = some ho → H' a = some ho) : TdVR F H' O' a ws := by
  obtain ⟨xs, vs, r⟩ := r
  obtain ⟨o, h1⟩ := r.at_
  exact ⟨xs, vs, ⟨o, h _ h1⟩, r.sm, r.l1, r.l2, fun i w x h1 h2 => ⟨(r.keys i w x h1 h2).1, (r.keys i w x h1 h2).2.ext e p⟩, r.rel, fun i w v h1 h2 => (r.vals i w v h1 h2).ext e p⟩
theorem TdVR.there {F : Fx} {H : Hp} {O : Addr → Prop} {a : Addr} {ws : List (List Int × W)} (r : TdVR F H O a ws) : ∃ ho, H a = some ho := by
  obtain ⟨xs, vs, r⟩ := r
  obtain ⟨o, h1⟩ := r.at_
  exact ⟨_, h1⟩
/-- a dict whose keys are tuples of numbers, but for what its values stand for -/
structure TdZ (F : Fx) (H : Hp) (O : Addr → Prop) (a : Addr) (ks : List (List Int)) (xs : List (List Int × Addr × Value)) (vs : List V) : Prop where
  at_ : TdI F.w H a xs
  sm : (a == sysModules) = false
  l1 : ks.length = xs.length
  l2 : vs.length = xs.length
  keys : ∀ (i : Nat) (k : List Int) (x : List Int × Addr × Value), ks[i]? = some k → xs[i]? = some x → x.1 = k ∧ FTup F H O x.2.1 (k.map V.int)
  rel : ∀ (i : Nat) (v : V) (x : List Int × Addr × Value), vs[i]? = some v → xs[i]? = some x → RelV v x.2.2
/-- the heap's object of such a kind at a, with these parts -/
def KH (F : Fx) (H : Hp) (O : Addr → Prop) (a : Addr) : RK → List V → Prop
  | .lst, vs => H a = some (.lst vs)
  | .tup, vs => ∃ o, H a = some (TupO o vs) ∧ o.dict = none
  | .ins c, vs => vs.length ≤ c.at_.length ∧ ∃ dx, H a = some (.ins (He.ga F.K c.name) dx (c.at_.zip vs))
  | .dk ks, vs => ∃ kvs : List (Key × V), H a = some (.dK kvs) ∧ kvs.map (·.2) = vs ∧ RpL F H O ks (kvs.map fun p => kV p.1)
  | .td ks, vs => ∃ xs, TdZ F H O a ks xs vs
theorem KH.ext {F : Fx} {H H' : Hp} {O O' : Addr → Prop} {a : Addr} (e : Ext O H H') (p : Own O O' H) (h : ∀ ho, H a = some ho → H' a = some ho) : ∀ {k : RK} {vs : List V}, KH F H O a k vs → KH F H' O' a k vs
  | .lst, _, r => h _ r
  | .tup, _, ⟨o, r, d⟩ => ⟨o, h _ r, d⟩
  | .ins _, _, ⟨l, dx, r⟩ => ⟨l, dx, h _ r⟩
  | .dk _, _, ⟨kvs, r, q, z⟩ => ⟨kvs, h _ r, q, z.ext e p⟩
  | .td _, _, ⟨xs, r⟩ => ⟨xs, let ⟨o, q⟩ := r.at_; ⟨o, h _ q⟩, r.sm, r.l1, r.l2, fun i k x h1 h2 => ⟨(r.keys i k x h1 h2).1, (r.keys i k x h1 h2).2.ext e p⟩, r.rel⟩
theorem KH.there {F : Fx} {H : Hp} {O : Addr → Prop} {a : Addr} : ∀ {k : RK} {vs : List V}, KH F H O a k vs → ∃ ho, H a = some ho
  | .lst, _, r => ⟨_, r⟩
  | .tup, _, ⟨_, r, _⟩ => ⟨_, r⟩
  | .ins _, _, ⟨_, _, r⟩ => ⟨_, r⟩
  | .dk _, _, ⟨_, r, _⟩ => ⟨_, r⟩
  | .td _, _, ⟨_, r⟩ => let ⟨_, q⟩ := r.at_; ⟨_, q⟩
def RUo (F : Fx) (ι : List Addr) (H : Hp) (O : Addr → Prop) : U → V → Prop
  | .v w, v => Rp F H O w v
  | .o n, v => ∃ a, ι[n]? = some a ∧ v = .ref a
def RUL (F : Fx) (ι : List Addr) (H : Hp) (O : Addr → Prop) (us : List U) (vs : List V) : Prop := us.length = vs.length ∧ ∀ (i : Nat) (u : U) (v : V), us[i]? = some u → vs[i]? = some v → RUo F ι H O u v
theorem RUo.ext {F : Fx} {ι ι' : List Addr} {H H' : Hp} {O O' : Addr → Prop} (e : Ext O H H') (p : Own O O' H) (q : ∃ t, ι' = ι ++ t) {u : U} {v : V} (r : RUo F ι H O u v) : RUo F ι' H' O' u v := by
  cases u with
  | v w => exact Rp.ext e p r
  | o n =>
    obtain ⟨a, h, rfl⟩ := r
    obtain ⟨t, rfl⟩ := q
    exact ⟨a, by rw [List.getElem?_append_left (List.getElem?_eq_some_iff.mp h).1]; exact h, rfl⟩
theorem RUL.ext {F : Fx} {ι ι' : List Addr} {H H' : Hp} {O O' : Addr → Prop} (e : Ext O H H') (p : Own O O' H) (q : ∃ t, ι' = ι ++ t) {us : List U} {vs : List V} (r : RUL F ι H O us vs) : RUL F ι' H' O' us vs :=
  ⟨r.1, fun i u v h1 h2 => (r.2 i u v h1 h2).ext e p q⟩
theorem pre_rfl {ι : List Addr} : ∃ t, ι = ι ++ t := ⟨[], by simp⟩
def ObR (F : Fx) (ι : List Addr) (H : Hp) (O : Addr → Prop) (a : Addr) : Ob → Prop
  | .lst ws => ∃ vs, H a = some (.lst vs) ∧ RpL F H O ws vs
  | .dct ws => ∃ kvs, H a = some (.dK kvs) ∧ RpD F H O ws kvs
  | .scr ws => ∃ vs ho, H a = some ho ∧ Rd H a (.lst vs) ∧ RpL F H O ws vs
  | .tbl x q => TblR F H O a x q
  | .td ws => TdVR F H O a ws
  | .ru k us => F.ec.rf = true ∧ ∃ vs, KH F H O a k vs ∧ RUL F ι H O us vs
  | .dead => ∃ ho, H a = some ho
structure RS (F : Fx) (ι : List Addr) (S : Store) (B : Addr → Prop) (H : Hp) : Prop where
  len : ι.length = S.length
  nd : ι.Nodup
  ob : ∀ (n : Nat) (o : Ob) (a : Addr), S[n]? = some o → ι[n]? = some a → ObR F ι H (Oq ι S B) a o
  hid : ∀ a, B a → (∃ ho, H a = some ho) ∧ a ∉ ι
def RU (F : Fx) (H : Hp) (ι : List Addr) (S : Store) (B : Addr → Prop) : U → V → Prop
  | .v w, v => Rp F H (Oq ι S B) w v
  | .o n, v => ∃ a, ι[n]? = some a ∧ v = .ref a
/-- how the heap, the store go on -/
structure Go (ι : List Addr) (S : Store) (H : Hp) (ι' : List Addr) (S' : Store) (H' : Hp) : Prop where
  ext : Ext (Ow ι S) H H'
  own : Own (Ow ι S) (Ow ι' S') H
  pre : ∃ t, ι' = ι ++ t
section
variable {F : Fx} {H H' H1 H2 : Hp} {ι ι' ι1 ι2 : List Addr} {S S' S1 S2 : Store} {B : Addr → Prop}
theorem Go.refl : Go ι S H ι S H := ⟨fun _ _ h _ => h, fun _ h => .inl h, [], by simp⟩
theorem Go.trans (a : Go ι S H ι1 S1 H1) (b : Go ι1 S1 H1 ι2 S2 H2) : Go ι S H ι2 S2 H2 := by
  have key : ∀ x ho, H x = some ho → ¬ Ow ι S x → H1 x = some ho ∧ ¬ Ow ι1 S1 x := fun x ho h n =>
    ⟨a.ext x ho h n, fun z => (a.own x z).elim n fun q => by rw [h] at q; cases q⟩
  refine ⟨fun x ho h n => b.ext x ho (key x ho h n).1 (key x ho h n).2, fun x z => ?_, ?_⟩
  · by_cases n : Ow ι S x
    · exact .inl n
    · rcases b.own x z with q | q
      · exact a.own x q
      · cases e : H x with
        | none => exact .inr rfl
        | some ho => rw [(key x ho e n).1] at q; cases q
  · obtain ⟨t, rfl⟩ := a.pre
    obtain ⟨u, rfl⟩ := b.pre
    exact ⟨t ++ u, by simp⟩
theorem Go.extq (g : Go ι S H ι' S' H') : Ext (Oq ι S B) H H' := fun a ho h n => g.ext a ho h fun z => n (.inl z)
theorem Go.ownq (g : Go ι S H ι' S' H') : Own (Oq ι S B) (Oq ι' S' B) H := fun a z => z.elim (fun z => (g.own a z).imp .inl id) fun z => .inl (.inr z)
theorem Rp.go (g : Go ι S H ι' S' H') {w : W} {v : V} (r : Rp F H (Oq ι S B) w v) : Rp F H' (Oq ι' S' B) w v := r.ext g.extq g.ownq
theorem RpL.go (g : Go ι S H ι' S' H') {w : List W} {v : List V} (r : RpL F H (Oq ι S B) w v) : RpL F H' (Oq ι' S' B) w v := r.ext g.extq g.ownq
theorem RpD.go (g : Go ι S H ι' S' H') {w : List (W × W)} {v : List (Key × V)} (r : RpD F H (Oq ι S B) w v) : RpD F H' (Oq ι' S' B) w v := r.ext g.extq g.ownq
theorem RU.go (g : Go ι S H ι' S' H') {u : U} {v : V} (r : RU F H ι S B u v) : RU F H' ι' S' B u v := by
  cases u with
  | v w => exact Rp.go g r
  | o n =>
    obtain ⟨a, h, e⟩ := r
    obtain ⟨t, rfl⟩ := g.pre
    exact ⟨a, by rw [List.getElem?_append_left (List.getElem?_eq_some_iff.mp h).1]; exact h, e⟩
end

inductive Re (α : Type) where
  | ok (a : α) (S : Store) | ex (c : Nat) (S : Store) | no
abbrev Env' := List (Option U)
inductive Fl where
  | nx (e : Env') | rt (u : U) | bk (e : Env') | ct (e : Env')
inductive Rs where
  | ok (f : Fl) (S : Store) | ex (c : Nat) (e : Env') (S : Store) | no
abbrev DE := Env' → Store → Re U
abbrev DT := Env' → Store → Re Bool
abbrev DA := Env' → Store → Re (List U)
abbrev DS := Env' → Store → Rs
def RUs (F : Fx) (H : Hp) (ι : List Addr) (S : Store) (B : Addr → Prop) (us : List U) (vs : List V) : Prop := Paired (RU F H ι S B) us vs
structure ER (F : Fx) (H : Hp) (ι : List Addr) (S : Store) (B : Addr → Prop) (env : Env') (σ : L2.St) : Prop where
  len : env.length = σ.length
  get : ∀ (i : Nat) (u : U), env[i]? = some (some u) → ∃ v, σ[i]? = some (some v) ∧ RU F H ι S B u v
/-- what a result asks of what follows -/
def PoE (F : Fx) (Wx : WX) (σ : L2.St) (ι : List Addr) (S : Store) (B : Addr → Prop) (H : Hp) (r : Re U) (Q : VK) : Prop := match r with
  | .ok u S' => ∀ v H' ι', Go ι S H ι' S' H' → RS F ι' S' B H' → RU F H' ι' S' B u v → Q v H'
  | .ex c S' => ∀ H' ι', Go ι S H ι' S' H' → RS F ι' S' B H' → Wx (F.ec c) none σ H'
  | .no => False
def PoT (F : Fx) (Wx : WX) (σ : L2.St) (ι : List Addr) (S : Store) (B : Addr → Prop) (H : Hp) (r : Re Bool) (Q : Bool → Hp → Prop) : Prop := match r with
  | .ok b S' => ∀ H' ι', Go ι S H ι' S' H' → RS F ι' S' B H' → Q b H'
  | .ex c S' => ∀ H' ι', Go ι S H ι' S' H' → RS F ι' S' B H' → Wx (F.ec c) none σ H'
  | .no => False
def PoA (F : Fx) (Wx : WX) (σ : L2.St) (ι : List Addr) (S : Store) (B : Addr → Prop) (H : Hp) (r : Re (List U)) (Q : List V → Hp → Prop) : Prop := match r with
  | .ok us S' => ∀ vs H' ι', Go ι S H ι' S' H' → RS F ι' S' B H' → RUs F H' ι' S' B us vs → Q vs H'
  | .ex c S' => ∀ H' ι', Go ι S H ι' S' H' → RS F ι' S' B H' → Wx (F.ec c) none σ H'
  | .no => False
def PoS (F : Fx) (Wx : WX) (ι : List Addr) (S : Store) (B : Addr → Prop) (H : Hp) (r : Rs) (D : Ends) : Prop := match r with
  | .ok (.nx e) S' => ∀ σ' H' ι', Go ι S H ι' S' H' → RS F ι' S' B H' → ER F H' ι' S' B e σ' → D.nx σ' H'
  | .ok (.rt u) S' => ∀ v H' ι', Go ι S H ι' S' H' → RS F ι' S' B H' → RU F H' ι' S' B u v → D.rt v H'
  | .ok (.bk e) S' => ∀ σ' H' ι', Go ι S H ι' S' H' → RS F ι' S' B H' → ER F H' ι' S' B e σ' → D.bk σ' H'
  | .ok (.ct e) S' => ∀ σ' H' ι', Go ι S H ι' S' H' → RS F ι' S' B H' → ER F H' ι' S' B e σ' → D.ct σ' H'
  | .ex c e S' => ∀ σ' H' ι', Go ι S H ι' S' H' → RS F ι' S' B H' → ER F H' ι' S' B e σ' → Wx (F.ec c) none σ' H'
  | .no => False
section
variable {F : Fx} {Wx : WX} {σ : L2.St} {H H' H1 H2 : Hp} {ι ι' ι1 ι2 : List Addr} {S S' S1 S2 : Store} {B : Addr → Prop}
theorem ER.go (g : Go ι S H ι' S' H') {e : Env'} (r : ER F H ι S B e σ) : ER F H' ι' S' B e σ := ⟨r.len, fun i u h => let ⟨v, h1, h2⟩ := r.get i u h; ⟨v, h1, RU.go g h2⟩⟩
theorem RUs.go (g : Go ι S H ι' S' H') : ∀ {us : List U} {vs : List V}, RUs F H ι S B us vs → RUs F H' ι' S' B us vs
  | _, _, .nil => .nil
  | _, _, .cons r t => .cons (RU.go g r) (RUs.go g t)
theorem PoE.go (g : Go ι S H ι1 S1 H1) {r : Re U} {Q : VK} (h : PoE F Wx σ ι S B H r Q) : PoE F Wx σ ι1 S1 B H1 r Q := by
  cases r with
  | ok u S' => exact fun v H' ι' g' => h v H' ι' (g.trans g')
  | ex c S' => exact fun H' ι' g' => h H' ι' (g.trans g')
  | no => exact h
theorem PoT.go (g : Go ι S H ι1 S1 H1) {r : Re Bool} {Q : Bool → Hp → Prop} (h : PoT F Wx σ ι S B H r Q) : PoT F Wx σ ι1 S1 B H1 r Q := by
  cases r with
  | ok u S' => exact fun H' ι' g' => h H' ι' (g.trans g')
  | ex c S' => exact fun H' ι' g' => h H' ι' (g.trans g')
  | no => exact h
theorem PoA.go (g : Go ι S H ι1 S1 H1) {r : Re (List U)} {Q : List V → Hp → Prop} (h : PoA F Wx σ ι S B H r Q) : PoA F Wx σ ι1 S1 B H1 r Q := by
  cases r with
  | ok u S' => exact fun v H' ι' g' => h v H' ι' (g.trans g')
  | ex c S' => exact fun H' ι' g' => h H' ι' (g.trans g')
  | no => exact h
theorem PoS.go (g : Go ι S H ι1 S1 H1) {r : Rs} {D : Ends} (h : PoS F Wx ι S B H r D) : PoS F Wx ι1 S1 B H1 r D := by
  cases r with
  | ok f S' => cases f <;> exact fun a b c g' => h a b c (g.trans g')
  | ex c e S' => exact fun a b c g' => h a b c (g.trans g')
  | no => exact h
theorem ER.set {e : Env'} (r : ER F H ι S B e σ) (i : Nat) {u : U} {v : V} (h : RU F H ι S B u v) : ER F H ι S B (e.set i (some u)) (σ.set i (some v)) := by
  refine ⟨by simp [r.len], fun j w hj => ?_⟩
  rw [List.getElem?_set] at hj ⊢
  split at hj
  · split at hj
    · rename_i a b
      cases hj
      exact ⟨v, by rw [if_pos a, if_pos (by rw [← r.len]; exact b)], h⟩
    · cases hj
  · rename_i a
    rw [if_neg a]
    exact r.get j w hj
theorem ER.unset {e : Env'} (r : ER F H ι S B e σ) (i : Nat) : ER F H ι S B (e.set i none) (σ.set i none) := by
  refine ⟨by simp [r.len], fun j w hj => ?_⟩
  rw [List.getElem?_set] at hj ⊢
  split at hj
  · split at hj <;> cases hj
  · rename_i a
    rw [if_neg a]
    exact r.get j w hj
theorem RS.tracked (R : RS F ι S B H) {a : Addr} (h : Ow ι S a) : ∃ ho, H a = some ho := by
  obtain ⟨n, o, h1, h2, h3⟩ := h
  have z := R.ob n o a h1 h3
  cases o with
  | lst ws => obtain ⟨vs, e, _⟩ := z; exact ⟨_, e⟩
  | dct ws => obtain ⟨vs, e, _⟩ := z; exact ⟨_, e⟩
  | scr ws => obtain ⟨vs, ho, e, _⟩ := z; exact ⟨_, e⟩
  | tbl x q => obtain ⟨_, ps, e, _⟩ := z; exact ⟨_, e⟩
  | td ws => exact TdVR.there z
  | ru k us => obtain ⟨_, vs, e, _⟩ := z; exact e.there
  | dead => exact z
theorem RS.there (R : RS F ι S B H) {a : Addr} (h : a ∈ ι) : ∃ ho, H a = some ho := by
  obtain ⟨n, hn, e⟩ := List.getElem_of_mem h
  have hn' : n < S.length := by rw [← R.len]; exact hn
  have z := R.ob n S[n] a (by simp [hn']) (by rw [← e]; simp [hn])
  cases q : S[n] with
  | lst ws => rw [q] at z; obtain ⟨vs, e, _⟩ := z; exact ⟨_, e⟩
  | dct ws => rw [q] at z; obtain ⟨vs, e, _⟩ := z; exact ⟨_, e⟩
  | scr ws => rw [q] at z; obtain ⟨vs, ho, e, _⟩ := z; exact ⟨_, e⟩
  | tbl x q2 => rw [q] at z; obtain ⟨_, ps, e, _⟩ := z; exact ⟨_, e⟩
  | td ws => rw [q] at z; exact TdVR.there z
  | ru k us => rw [q] at z; obtain ⟨_, vs, e, _⟩ := z; exact e.there
  | dead => rw [q] at z; exact z
theorem RS.free (R : RS F ι S B H) {p : Addr} (h : H p = none) : ¬ Oq ι S B p := fun z => by
  rcases z with z | z
  · obtain ⟨ho, e⟩ := R.tracked z
    rw [h] at e; cases e
  · obtain ⟨⟨ho, e⟩, _⟩ := R.hid p z
    rw [h] at e; cases e
theorem ObR.upd_new {O : Addr → Prop} {p a : Addr} {ho : HO} {o : Ob} (hp : H p = none) (h : ObR F ι H O a o) : ObR F ι (upd H p ho) O a o := by
  have E : Ext O H (upd H p ho) := fun x y hx _ => by rw [upd_ne (ne_of_none hx hp)]; exact hx
  have P : Own O O H := fun _ z => .inl z
  cases o with
  | lst ws => obtain ⟨vs, e, r⟩ := h; exact ⟨vs, by rw [upd_ne (ne_of_none e hp)]; exact e, r.ext E P⟩
  | dct ws => obtain ⟨vs, e, r⟩ := h; exact ⟨vs, by rw [upd_ne (ne_of_none e hp)]; exact e, r.ext E P⟩
  | scr ws => obtain ⟨vs, y, e, d, r⟩ := h; exact ⟨vs, y, by rw [upd_ne (ne_of_none e hp)]; exact e, d.imp (fun d => by rw [upd_ne (ne_of_none d hp)]; exact d) fun ⟨o, d⟩ => ⟨o, by rw [upd_ne (ne_of_none d hp)]; exact d⟩, r.ext E P⟩
  | tbl x q => exact TblR.ext h E P fun _ e => by rw [upd_ne (ne_of_none e hp)]; exact e
  | td ws => exact TdVR.ext h E P fun _ e => by rw [upd_ne (ne_of_none e hp)]; exact e
  | ru k us => obtain ⟨f, vs, d, r⟩ := h; exact ⟨f, vs, d.ext E P fun _ e => by rw [upd_ne (ne_of_none e hp)]; exact e, r.ext E P pre_rfl⟩
  | dead => obtain ⟨y, e⟩ := h; exact ⟨y, by rw [upd_ne (ne_of_none e hp)]; exact e⟩
theorem hid_new {p : Addr} {ho : HO} (R : RS F ι S B H) (hp : H p = none) : ∀ a, B a → (∃ y, (upd H p ho) a = some y) ∧ a ∉ ι := fun a h => by
  obtain ⟨⟨y, e⟩, n⟩ := R.hid a h
  exact ⟨⟨y, by rw [upd_ne (ne_of_none e hp)]; exact e⟩, n⟩
/-- a new object that nobody owns -/
theorem RS.fresh (R : RS F ι S B H) {p : Addr} (ho : HO) (hp : H p = none) : RS F ι S B (upd H p ho) ∧ Go ι S H ι S (upd H p ho) ∧ ¬ Oq ι S B p :=
  ⟨⟨R.len, R.nd, fun n o a h1 h2 => (R.ob n o a h1 h2).upd_new hp, hid_new R hp⟩, ⟨fun x y hx _ => by rw [upd_ne (ne_of_none hx hp)]; exact hx, fun _ z => .inl z, [], by simp⟩, R.free hp⟩
theorem ow_push {p a : Addr} {o : Ob} (hl : ι.length = S.length) (ho : o ≠ Ob.dead) : Ow (ι ++ [p]) (S ++ [o]) a ↔ Ow ι S a ∨ a = p := by
  constructor
  · rintro ⟨n, q, h1, h2, h3⟩
    by_cases hn : n < S.length
    · rw [List.getElem?_append_left hn] at h1
      rw [List.getElem?_append_left (by omega)] at h3
      exact .inl ⟨n, q, h1, h2, h3⟩
    · rw [List.getElem?_append_right (by omega)] at h3
      right
      obtain ⟨h4, h5⟩ := List.getElem?_eq_some_iff.mp h3
      simp at h5
      exact h5.symm
  · rintro (⟨n, q, h1, h2, h3⟩ | rfl)
    · exact ⟨n, q, by rw [List.getElem?_append_left (List.getElem?_eq_some_iff.mp h1).1]; exact h1, h2, by rw [List.getElem?_append_left (List.getElem?_eq_some_iff.mp h3).1]; exact h3⟩
    · exact ⟨S.length, o, by simp, ho, by rw [← hl]; simp⟩
def NewOb (F : Fx) (H : Hp) (O : Addr → Prop) (ho : HO) : Ob → Prop
  | .lst ws => ∃ vs, ho = .lst vs ∧ RpL F H O ws vs
  | .dct ws => ∃ kvs, ho = .dK kvs ∧ RpD F H O ws kvs
  | .scr _ => False
  | .tbl _ _ => False
  | .td _ => False
  | .ru _ _ => False
  | .dead => False
/-- a new object that is owned -/
theorem RS.owned (R : RS F ι S B H) {p : Addr} {ho : HO} {o : Ob} (hp : H p = none) (hob : NewOb F H (Oq ι S B) ho o) :
    RS F (ι ++ [p]) (S ++ [o]) B (upd H p ho) ∧ Go ι S H (ι ++ [p]) (S ++ [o]) (upd H p ho) := by
  have hd : o ≠ Ob.dead := by rintro rfl; exact hob
  have G : Go ι S H (ι ++ [p]) (S ++ [o]) (upd H p ho) := ⟨fun x y hx _ => by rw [upd_ne (ne_of_none hx hp)]; exact hx, fun a z => ((ow_push R.len hd).mp z).imp id fun e => by rw [e]; exact hp, [p], rfl⟩
  refine ⟨⟨by simp [R.len], ?_, fun n q a h1 h2 => ?_, fun a h => ?_⟩, G⟩
  · rw [List.nodup_append]
    refine ⟨R.nd, by simp, fun x hx y hy e => ?_⟩
    simp at hy
    subst hy
    subst e
    obtain ⟨z, q⟩ := R.there hx
    rw [hp] at q; cases q
  · -- an object, seen with one more owned
    have up : ∀ {a : Addr} {q : Ob}, ObR F ι H (Oq ι S B) a q → ObR F (ι ++ [p]) (upd H p ho) (Oq (ι ++ [p]) (S ++ [o]) B) a q := fun {a q} h => by
      cases q with
      | lst ws => obtain ⟨vs, e, r⟩ := h; exact ⟨vs, by rw [upd_ne (ne_of_none e hp)]; exact e, r.ext G.extq G.ownq⟩
      | dct ws => obtain ⟨vs, e, r⟩ := h; exact ⟨vs, by rw [upd_ne (ne_of_none e hp)]; exact e, r.ext G.extq G.ownq⟩
      | scr ws => obtain ⟨vs, y, e, d, r⟩ := h; exact ⟨vs, y, by rw [upd_ne (ne_of_none e hp)]; exact e, d.imp (fun d => by rw [upd_ne (ne_of_none d hp)]; exact d) fun ⟨o, d⟩ => ⟨o, by rw [upd_ne (ne_of_none d hp)]; exact d⟩, r.ext G.extq G.ownq⟩
      | tbl x q2 => exact TblR.ext h G.extq G.ownq fun _ e => by rw [upd_ne (ne_of_none e hp)]; exact e
      | td ws => exact TdVR.ext h G.extq G.ownq fun _ e => by rw [upd_ne (ne_of_none e hp)]; exact e
      | ru k us => obtain ⟨f, vs, d, r⟩ := h; exact ⟨f, vs, d.ext G.extq G.ownq fun _ e => by rw [upd_ne (ne_of_none e hp)]; exact e, r.ext G.extq G.ownq ⟨_, rfl⟩⟩
      | dead => obtain ⟨y, e⟩ := h; exact ⟨y, by rw [upd_ne (ne_of_none e hp)]; exact e⟩
    by_cases hn : n < S.length
    · rw [List.getElem?_append_left hn] at h1
      rw [List.getElem?_append_left (by rw [R.len]; exact hn)] at h2
      exact up (R.ob n q a h1 h2)
    · rw [List.getElem?_append_right (by omega)] at h1
      rw [List.getElem?_append_right (by rw [R.len]; omega)] at h2
      obtain ⟨h4, h5⟩ := List.getElem?_eq_some_iff.mp h1
      obtain ⟨h6, h7⟩ := List.getElem?_eq_some_iff.mp h2
      simp at h5 h7
      subst h5
      subst h7
      cases o with
      | lst ws => obtain ⟨vs, rfl, r⟩ := hob; exact ⟨vs, upd_same, r.ext G.extq G.ownq⟩
      | dct ws => obtain ⟨kvs, rfl, r⟩ := hob; exact ⟨kvs, upd_same, r.ext G.extq G.ownq⟩
      | scr ws => exact hob.elim
      | tbl x q => exact hob.elim
      | td ws => exact hob.elim
      | ru k us => exact hob.elim
      | dead => exact hob.elim
  · obtain ⟨⟨y, e⟩, n⟩ := R.hid a h
    refine ⟨⟨y, by rw [upd_ne (ne_of_none e hp)]; exact e⟩, fun z => ?_⟩
    rcases List.mem_append.mp z with z | z
    · exact n z
    · simp at z; subst z; rw [hp] at e; cases e
end
end Bel

namespace Bel
open PySem PySem.Spec PyProof.Rows L2

def Re.bind {α β : Type} (r : Re α) (f : α → Store → Re β) : Re β := match r with
  | .ok a S => f a S
  | .ex c S => .ex c S
  | .no => .no
@[simp] theorem Re.bind_ok {α β : Type} (a : α) (S : Store) (f : α → Store → Re β) : (Re.ok a S).bind f = f a S := rfl
@[simp] theorem Re.bind_ex {α β : Type} (c : Nat) (S : Store) (f : α → Store → Re β) : (Re.ex c S : Re α).bind f = .ex c S := rfl
@[simp] theorem Re.bind_no {α β : Type} (f : α → Store → Re β) : (Re.no : Re α).bind f = .no := rfl

/-- what an operation gives: a value, a new list, a new tuple, a new dict -/
inductive Out where
  | val (w : W) | nl (l : List W) | nt (l : List W) | nd (l : List (W × W))
/-- a new list or dict becomes an own object, where it is asked -/
def Out.put (own : Bool) (o : Out) (S : Store) : Re U := match o with
  | .val w => .ok (.v w) S
  | .nt l => .ok (.v (.tup l)) S
  | .nl l => if own then .ok (.o S.length) (S ++ [.lst l]) else .ok (.v (.lst l)) S
  | .nd l => if own then .ok (.o S.length) (S ++ [.dct l]) else .ok (.v (.dct l)) S
def putO (own : Bool) (o : Option Out) (S : Store) : Re U := match o with
  | some o => o.put own S
  | none => .no
/-- the value that is read -/
def dr (S : Store) (u : U) : Option W := match u with
  | .v w => some w
  | .o n => match S[n]? with
    | some (.lst l) => some (.lst l)
    | some (.dct l) => some (.dct l)
    | some (.scr l) => some (.lst l)
    | _ => none

section
variable (F : Fx) (H : Hp) (O : Addr → Prop)
/-- w is what is read at v just now (its parts stay) -/
def RT : W → V → Prop
  | .lst ws, v => ∃ a vs, v = .ref a ∧ Rd H a (.lst vs) ∧ RpL F H O ws vs
  | .dct ws, v => ∃ a kvs, v = .ref a ∧ Rd H a (.dK kvs) ∧ RpD F H O ws kvs
  | w, v => Rp F H O w v
/-- what an operation's answer asks of what follows -/
def PuQ (o : Out) (Q : VK) : Prop := match o with
  | .val w => ∀ v, Rp F H O w v → Q v H
  | .nt ws => (∀ v, Rp F H O (.tup ws) v → Q v H) ∧ ∀ vs, RpL F H O ws vs → NewT H vs Q
  | .nl ws => ∀ p vs, H p = none → RpL F H O ws vs → Q (.ref p) (upd H p (.lst vs))
  | .nd ws => ∀ p kvs, H p = none → RpD F H O ws kvs → Q (.ref p) (upd H p (.dK kvs))
end
section
variable {F : Fx} {Wx : WX} {σ : L2.St} {H H' H1 H2 : Hp} {ι ι' ι1 ι2 : List Addr} {S S' S1 S2 : Store} {B : Addr → Prop} {O : Addr → Prop}
theorem RT.of {w : W} {v : V} (r : Rp F H O w v) : RT F H O w v := by
  cases w with
  | lst ws => obtain ⟨a, vs, e, h, q⟩ := r.lst_inv; exact ⟨a, vs, e, .inl h.1, q⟩
  | dct ws => obtain ⟨a, vs, e, h, q⟩ := r.dct_inv; exact ⟨a, vs, e, h.1, q⟩
  | _ => exact r
theorem RU.rt (R : RS F ι S B H) {u : U} {v : V} (r : RU F H ι S B u v) {w : W} (h : dr S u = some w) : RT F H (Oq ι S B) w v := by
  cases u with
  | v w' => cases h; exact .of r
  | o n =>
    obtain ⟨a, ha, rfl⟩ := r
    unfold dr at h
    cases e : S[n]? with
    | none => simp [e] at h
    | some o =>
      have z := R.ob n o a e ha
      cases o with
      | lst l => simp [e] at h; subst h; obtain ⟨vs, q, r⟩ := z; exact ⟨a, vs, rfl, .inl q, r⟩
      | dct l => simp [e] at h; subst h; obtain ⟨vs, q, r⟩ := z; exact ⟨a, vs, rfl, .inl q, r⟩
      | scr l => simp [e] at h; subst h; obtain ⟨vs, _, _, q, r⟩ := z; exact ⟨a, vs, rfl, q, r⟩
      | tbl x q => simp [e] at h
      | td l => simp [e] at h
      | ru k us => simp [e] at h
      | dead => simp [e] at h
theorem put_ok (R : RS F ι S B H) {own : Bool} {o : Out} {Q : VK} (h : PoE F Wx σ ι S B H (o.put own S) Q) : PuQ F H (Oq ι S B) o Q := by
  cases o with
  | val w => exact fun v r => h v H ι .refl R r
  | nt ws =>
    refine ⟨fun v r => h v H ι .refl R r, ?_⟩
    intro vs r p o hp hd
    obtain ⟨R', G, n⟩ := R.fresh (TupO o vs) hp
    exact h _ _ ι G R' (Rp.mkTup (.inl ⟨⟨o, upd_same, hd⟩, n⟩) (r.go G))
  | nl ws =>
    intro p vs hp r
    cases own with
    | false =>
      obtain ⟨R', G, n⟩ := R.fresh (.lst vs) hp
      exact h _ _ ι G R' (Rp.mkLst ⟨upd_same, n⟩ (r.go G))
    | true =>
      obtain ⟨R', G⟩ := R.owned (o := .lst ws) (ho := .lst vs) hp ⟨vs, rfl, r⟩
      exact h _ _ _ G R' ⟨p, by rw [← R.len]; simp, rfl⟩
  | nd ws =>
    intro p vs hp r
    cases own with
    | false =>
      obtain ⟨R', G, n⟩ := R.fresh (.dK vs) hp
      exact h _ _ ι G R' (Rp.mkDct ⟨.inl upd_same, n⟩ (r.ext G.extq G.ownq))
    | true =>
      obtain ⟨R', G⟩ := R.owned (o := .dct ws) (ho := .dK vs) hp ⟨vs, rfl, r⟩
      exact h _ _ _ G R' ⟨p, by rw [← R.len]; simp, rfl⟩
theorem putO_ok (R : RS F ι S B H) {own : Bool} {o : Option Out} {Q : VK} (h : PoE F Wx σ ι S B H (putO own o S) Q) : ∃ x, o = some x ∧ PuQ F H (Oq ι S B) x Q := by
  cases o with
  | none => exact h.elim
  | some x => exact ⟨x, rfl, put_ok R h⟩
end

def LE (F : Fx) (Wx : WX) (d : DE) : TE := fun σ H Q => ∃ (env : Env') (S : Store) (ι : List Addr) (B : Addr → Prop), RS F ι S B H ∧ ER F H ι S B env σ ∧ PoE F Wx σ ι S B H (d env S) Q
def LT (F : Fx) (Wx : WX) (d : DT) : TT := fun σ H Q => ∃ (env : Env') (S : Store) (ι : List Addr) (B : Addr → Prop), RS F ι S B H ∧ ER F H ι S B env σ ∧ PoT F Wx σ ι S B H (d env S) Q
def LA (F : Fx) (Wx : WX) (d : DA) : TA := fun σ H Q => ∃ (env : Env') (S : Store) (ι : List Addr) (B : Addr → Prop), RS F ι S B H ∧ ER F H ι S B env σ ∧ PoA F Wx σ ι S B H (d env S) Q
def LS (F : Fx) (Wx : WX) (d : DS) : TS := fun D σ H => ∃ (env : Env') (S : Store) (ι : List Addr) (B : Addr → Prop), RS F ι S B H ∧ ER F H ι S B env σ ∧ PoS F Wx ι S B H (d env S) D
abbrev fx (ec : Ec) (X : Cx) : Fx := ⟨X.K, X.w, ec⟩
/-- what is fixed of a context: all but what is wanted of errors -/
structure PEv (ec : Ec) (X : Cx) (e : Expr) (d : DE) : Prop where
  run : ∀ (pn : List (Addr × Obj)) (xe : Value → Shared → Prop) (Wx : WX), Takes (X.tr pn xe) Wx → PE (X.tr pn xe) e (LE (fx ec X) Wx d)
structure PTv (ec : Ec) (X : Cx) (e : Expr) (d : DT) : Prop where
  run : ∀ (pn : List (Addr × Obj)) (xe : Value → Shared → Prop) (Wx : WX), Takes (X.tr pn xe) Wx → PT (X.tr pn xe) e (LT (fx ec X) Wx d)
/-- a test whatever its whole is (and, or) -/
structure PWv (ec : Ec) (X : Cx) (e : Expr) (d : DT) : Prop where
  run : ∀ (pn : List (Addr × Obj)) (xe : Value → Shared → Prop) (Wx : WX), Takes (X.tr pn xe) Wx → PW (X.tr pn xe) e (LT (fx ec X) Wx d)
structure PAv (ec : Ec) (X : Cx) (es : List Expr) (d : DA) : Prop where
  run : ∀ (pn : List (Addr × Obj)) (xe : Value → Shared → Prop) (Wx : WX), Takes (X.tr pn xe) Wx → PA (X.tr pn xe) es (LA (fx ec X) Wx d)
structure PSv (ec : Ec) (X : Cx) (st : Stmt) (d : DS) : Prop where
  run : ∀ (pn : List (Addr × Obj)) (xe : Value → Shared → Prop) (Wx : WX), Takes (X.tr pn xe) Wx → PassesOwn (model X.prog X.w) X.A X.env xe → PS (X.tr pn xe) st (LS (fx ec X) Wx d)
structure PSsv (ec : Ec) (X : Cx) (st : List Stmt) (d : DS) : Prop where
  run : ∀ (pn : List (Addr × Obj)) (xe : Value → Shared → Prop) (Wx : WX), Takes (X.tr pn xe) Wx → PassesOwn (model X.prog X.w) X.A X.env xe → PSs (X.tr pn xe) st (LS (fx ec X) Wx d)
section
variable {X : Cx}
theorem _root_.L2.PE.imp {e : Expr} {t t' : TE} (h : PE X e t) (hh : ∀ σ H Q, t' σ H Q → t σ H Q) : PE X e t' := ⟨fun pins s σ H Q I q => h.run pins s σ H Q I (hh σ H Q q)⟩
theorem _root_.L2.PT.imp {e : Expr} {t t' : TT} (h : PT X e t) (hh : ∀ σ H Q, t' σ H Q → t σ H Q) : PT X e t' := ⟨fun pins s σ H Q I q => h.run pins s σ H Q I (hh σ H Q q)⟩
theorem _root_.L2.PW.imp {e : Expr} {t t' : TT} (h : PW X e t) (hh : ∀ σ H Q, t' σ H Q → t σ H Q) : PW X e t' := ⟨fun wh pins s σ H Q I q => h.run wh pins s σ H Q I (hh σ H Q q)⟩
theorem _root_.L2.PA.imp {e : List Expr} {t t' : TA} (h : PA X e t) (hh : ∀ σ H Q, t' σ H Q → t σ H Q) : PA X e t' := ⟨fun pos pins s σ H Q I q => h.run pos pins s σ H Q I (hh σ H Q q)⟩
theorem _root_.L2.PS.imp {e : Stmt} {t t' : TS} (h : PS X e t) (hh : ∀ D σ H, t' D σ H → t D σ H) : PS X e t' := ⟨fun pins s σ H D I q => h.run pins s σ H D I (hh D σ H q)⟩
theorem _root_.L2.PSs.imp {e : List Stmt} {t t' : TS} (h : PSs X e t) (hh : ∀ D σ H, t' D σ H → t D σ H) : PSs X e t' := ⟨fun pins s σ H D I q => h.run pins s σ H D I (hh D σ H q)⟩
end

section
variable {F : Fx} {Wx : WX} {σ : L2.St} {H H' H1 H2 : Hp} {ι ι' ι1 ι2 : List Addr} {S S' S1 S2 : Store} {B : Addr → Prop} {env : Env'} {Q : VK}
/-- first a, then g -/
theorem LE.then_ (R : RS F ι S B H) (E : ER F H ι S B env σ) {a : DE} {g : U → Store → Re U} (h : PoE F Wx σ ι S B H ((a env S).bind g) Q)
    {Q1 : VK} (k : ∀ u S1 v H1 ι1, Go ι S H ι1 S1 H1 → RS F ι1 S1 B H1 → ER F H1 ι1 S1 B env σ → RU F H1 ι1 S1 B u v → PoE F Wx σ ι1 S1 B H1 (g u S1) Q → Q1 v H1) : LE F Wx a σ H Q1 := by
  refine ⟨env, S, ι, B, R, E, ?_⟩
  cases e : a env S with
  | ok u S1 =>
    rw [e] at h
    exact fun v H1 ι1 G R1 r => k u S1 v H1 ι1 G R1 (E.go G) r (h.go G)
  | ex c S1 => rw [e] at h; exact h
  | no => rw [e] at h; exact h
theorem LE.thenT (R : RS F ι S B H) (E : ER F H ι S B env σ) {a : DE} {g : U → Store → Re Bool} {Q : Bool → Hp → Prop} (h : PoT F Wx σ ι S B H ((a env S).bind g) Q)
    {Q1 : VK} (k : ∀ u S1 v H1 ι1, Go ι S H ι1 S1 H1 → RS F ι1 S1 B H1 → ER F H1 ι1 S1 B env σ → RU F H1 ι1 S1 B u v → PoT F Wx σ ι1 S1 B H1 (g u S1) Q → Q1 v H1) : LE F Wx a σ H Q1 := by
  refine ⟨env, S, ι, B, R, E, ?_⟩
  cases e : a env S with
  | ok u S1 =>
    rw [e] at h
    exact fun v H1 ι1 G R1 r => k u S1 v H1 ι1 G R1 (E.go G) r (h.go G)
  | ex c S1 => rw [e] at h; exact h
  | no => rw [e] at h; exact h
theorem LE.thenA (R : RS F ι S B H) (E : ER F H ι S B env σ) {a : DE} {g : U → Store → Re (List U)} {Q : List V → Hp → Prop} (h : PoA F Wx σ ι S B H ((a env S).bind g) Q)
    {Q1 : VK} (k : ∀ u S1 v H1 ι1, Go ι S H ι1 S1 H1 → RS F ι1 S1 B H1 → ER F H1 ι1 S1 B env σ → RU F H1 ι1 S1 B u v → PoA F Wx σ ι1 S1 B H1 (g u S1) Q → Q1 v H1) : LE F Wx a σ H Q1 := by
  refine ⟨env, S, ι, B, R, E, ?_⟩
  cases e : a env S with
  | ok u S1 =>
    rw [e] at h
    exact fun v H1 ι1 G R1 r => k u S1 v H1 ι1 G R1 (E.go G) r (h.go G)
  | ex c S1 => rw [e] at h; exact h
  | no => rw [e] at h; exact h
theorem LT.then_ (R : RS F ι S B H) (E : ER F H ι S B env σ) {a : DT} {g : Bool → Store → Re U} (h : PoE F Wx σ ι S B H ((a env S).bind g) Q)
    {Q1 : Bool → Hp → Prop} (k : ∀ u S1 H1 ι1, Go ι S H ι1 S1 H1 → RS F ι1 S1 B H1 → ER F H1 ι1 S1 B env σ → PoE F Wx σ ι1 S1 B H1 (g u S1) Q → Q1 u H1) : LT F Wx a σ H Q1 := by
  refine ⟨env, S, ι, B, R, E, ?_⟩
  cases e : a env S with
  | ok u S1 =>
    rw [e] at h
    exact fun H1 ι1 G R1 => k u S1 H1 ι1 G R1 (E.go G) (h.go G)
  | ex c S1 => rw [e] at h; exact h
  | no => rw [e] at h; exact h
theorem LT.thenT (R : RS F ι S B H) (E : ER F H ι S B env σ) {a : DT} {g : Bool → Store → Re Bool} {Q : Bool → Hp → Prop} (h : PoT F Wx σ ι S B H ((a env S).bind g) Q)
    {Q1 : Bool → Hp → Prop} (k : ∀ u S1 H1 ι1, Go ι S H ι1 S1 H1 → RS F ι1 S1 B H1 → ER F H1 ι1 S1 B env σ → PoT F Wx σ ι1 S1 B H1 (g u S1) Q → Q1 u H1) : LT F Wx a σ H Q1 := by
  refine ⟨env, S, ι, B, R, E, ?_⟩
  cases e : a env S with
  | ok u S1 =>
    rw [e] at h
    exact fun H1 ι1 G R1 => k u S1 H1 ι1 G R1 (E.go G) (h.go G)
  | ex c S1 => rw [e] at h; exact h
  | no => rw [e] at h; exact h
theorem LA.then_ (R : RS F ι S B H) (E : ER F H ι S B env σ) {a : DA} {g : List U → Store → Re U} (h : PoE F Wx σ ι S B H ((a env S).bind g) Q)
    {Q1 : List V → Hp → Prop} (k : ∀ u S1 v H1 ι1, Go ι S H ι1 S1 H1 → RS F ι1 S1 B H1 → ER F H1 ι1 S1 B env σ → RUs F H1 ι1 S1 B u v → PoE F Wx σ ι1 S1 B H1 (g u S1) Q → Q1 v H1) : LA F Wx a σ H Q1 := by
  refine ⟨env, S, ι, B, R, E, ?_⟩
  cases e : a env S with
  | ok u S1 =>
    rw [e] at h
    exact fun v H1 ι1 G R1 r => k u S1 v H1 ι1 G R1 (E.go G) r (h.go G)
  | ex c S1 => rw [e] at h; exact h
  | no => rw [e] at h; exact h
theorem LA.thenA (R : RS F ι S B H) (E : ER F H ι S B env σ) {a : DA} {g : List U → Store → Re (List U)} {Q : List V → Hp → Prop} (h : PoA F Wx σ ι S B H ((a env S).bind g) Q)
    {Q1 : List V → Hp → Prop} (k : ∀ u S1 v H1 ι1, Go ι S H ι1 S1 H1 → RS F ι1 S1 B H1 → ER F H1 ι1 S1 B env σ → RUs F H1 ι1 S1 B u v → PoA F Wx σ ι1 S1 B H1 (g u S1) Q → Q1 v H1) : LA F Wx a σ H Q1 := by
  refine ⟨env, S, ι, B, R, E, ?_⟩
  cases e : a env S with
  | ok u S1 =>
    rw [e] at h
    exact fun v H1 ι1 G R1 r => k u S1 v H1 ι1 G R1 (E.go G) r (h.go G)
  | ex c S1 => rw [e] at h; exact h
  | no => rw [e] at h; exact h
end

section
variable {ec : Ec} {X : Cx} {e a b : Expr} {pos : Pos} {da db : DE}
def dVar (i : Nat) : DE := fun e S => match e[i]? with
  | some (some u) => .ok u S
  | _ => .no
def dC (w : W) : DE := fun _ S => .ok (.v w) S
theorem ev_var {i : Nat} {x : Str} (hN : X.N[i]? = some x) (hv : Vis X.env.scope x) (hd : (x == ("__debug__" : Str)) = false := by decide) (hcd : (x == ("__classdict__" : Str)) = false := by decide) : PEv ec X (.Name x pos) (dVar i) := by
  refine ⟨fun pn xe Wx tk => (pe_var (X := X.tr pn xe) hN hv hd hcd).imp fun σ H Q h => ?_⟩
  obtain ⟨env, S, ι, B, R, E, h⟩ := h
  unfold dVar at h
  cases e : env[i]? with
  | none => simp [e] at h; exact h.elim
  | some o =>
    cases o with
    | none => simp [e] at h; exact h.elim
    | some u =>
      simp only [e] at h
      obtain ⟨v, h1, r⟩ := E.get i u e
      exact ⟨v, h1, h v H ι .refl R r⟩
theorem ev_const {v : V} {w : W} (h : ∀ pn xe, PE (X.tr pn xe) e (tC v)) (hr : ∀ H O, Rp (fx ec X) H O w v) : PEv ec X e (dC w) :=
  ⟨fun pn xe Wx tk => (h pn xe).imp fun σ H Q ⟨env, S, ι, B, R, E, q⟩ => q v H ι .refl R (hr _ _)⟩
theorem ev_int {i j} : PEv ec X (.Constant (.int i) j pos) (dC (.int i)) := ev_const (fun _ _ => pe_int) fun _ _ => .int i
theorem ev_bl {b j} : PEv ec X (.Constant (.bool b) j pos) (dC (.bl b)) := ev_const (fun _ _ => pe_bl) fun _ _ => .bl b
theorem ev_non {j} : PEv ec X (.Constant .none j pos) (dC .non) := ev_const (fun _ _ => pe_non) fun _ _ => .non
/-- a text, by its signs -/
structure Lit (x : Str) (l : List Nat) : Prop where
  eq : x = ⟨l.toArray⟩
  len : l.length ≤ sizeLine
  ok : l.all okCp = true
theorem ev_str {x : Str} {l : List Nat} {j} (h : Lit x l) : PEv ec X (.Constant (.str x) j pos) (dC (.str l)) := by
  obtain ⟨rfl, h1, h2⟩ := h
  exact ev_const (fun _ _ => pe_str) fun _ _ => .str l h1 h2
/-- a constant of the module -/
structure Kon (ec : Ec) (X : Cx) (x : Str) (w : W) : Prop where
  ex : ∃ (v : V) (u : Value), X.mg x = some u ∧ RelV v u ∧ ∀ H O, Rp (fx ec X) H O w v
theorem ev_glob {x : Str} {w : W} (hg : Gl X x) (h : Kon ec X x w) (hd : (x == ("__debug__" : Str)) = false := by decide) : PEv ec X (.Name x pos) (dC w) := by
  obtain ⟨v, u, hm, r, hr⟩ := h.ex
  exact ev_const (fun pn xe => pe_glob (X := X.tr pn xe) hg hm r hd) hr

def dBin (own : Bool) (f : W → W → Option Out) (a b : DE) : DE := fun e S => (a e S).bind fun u S1 => (b e S1).bind fun v S2 => match dr S2 u, dr S2 v with
  | some x, some y => putO own (f x y) S2
  | _, _ => .no
/-- r is asked no more than f tells -/
def OpW (F : Fx) (f : W → W → Option Out) (r : R2) : Prop := ∀ (H : Hp) (O : Addr → Prop) (x y : V) (w z : W) (o : Out) (Q : VK), RT F H O w x → RT F H O z y → f w z = some o → PuQ F H O o Q → r x y H Q
theorem bin_reads {own : Bool} {f : W → W → Option Out} {r : R2} {F : Fx} {Wx : WX} {σ : L2.St} {H : Hp} {Q : VK} (hf : OpW F f r) (h : LE F Wx (dBin own f da db) σ H Q) : tOp r (LE F Wx da) (LE F Wx db) σ H Q := by
  obtain ⟨env, S, ι, B, R, E, h⟩ := h
  refine LE.then_ R E h fun u S1 x H1 ι1 G1 R1 E1 ru h1 => ?_
  refine LE.then_ R1 E1 h1 fun v S2 y H2 ι2 G2 R2 E2 rv h2 => ?_
  have ru2 := RU.go G2 ru
  cases e1 : dr S2 u with
  | none => simp only [e1] at h2; exact h2.elim
  | some w =>
    cases e2 : dr S2 v with
    | none => simp only [e1, e2] at h2; exact h2.elim
    | some z =>
      simp only [e1, e2] at h2
      obtain ⟨o, he, q⟩ := putO_ok R2 h2
      exact hf H2 _ x y w z o Q (RU.rt R2 ru2 e1) (RU.rt R2 rv e2) he q
theorem ev_bin {own : Bool} {op : Operator} {f : W → W → Option Out} {r : R2} (ho : ∀ pn xe, OpR (X.tr pn xe) (binaryOp op) r) (hf : OpW (fx ec X) f r) (ha : PEv ec X a da) (hb : PEv ec X b db) : PEv ec X (.BinOp a op b pos) (dBin own f da db) :=
  ⟨fun pn xe Wx tk => (pe_op (ho pn xe) (ha.run pn xe Wx tk) (hb.run pn xe Wx tk)).imp fun σ H Q h => bin_reads hf h⟩
theorem ev_cmp {op : CmpOp} {f : W → W → Option Out} {r : R2} (ho : ∀ pn xe, OpR (X.tr pn xe) (compareOp op) r) (hf : OpW (fx ec X) f r) (ha : PEv ec X a da) (hb : PEv ec X b db) (hm : behindInMarks op b = false) : PEv ec X (.Compare a [op] [b] pos) (dBin false f da db) :=
  ⟨fun pn xe Wx tk => (pe_cmpR (ho pn xe) (ha.run pn xe Wx tk) (hb.run pn xe Wx tk) hm).imp fun σ H Q h => bin_reads hf h⟩

end
end Bel

namespace Bel
open PySem PySem.Spec PyProof.Rows L2

theorem sizeLine_is : (sizeLine : Nat) = 16777216 := sizeLine_eq
mutual
def toD : W → PyData
  | .non => .none
  | .bl b => .bool b
  | .int i => .int i
  | .str x => .str ⟨x.toArray⟩
  | .tup l => .tuple (toDs l)
  | .lst l => .list (toDs l)
  | .dct _ => .dict []
  | .exc _ => .dict []
  | .kdc _ => .dict []
  | .tdc _ => .dict []
def toDs : List W → List PyData
  | [] => []
  | x :: r => toD x :: toDs r
end
mutual
def shp : Nat → W → Bool
  | _, .non => true
  | _, .bl _ => true
  | _, .int _ => true
  | _, .str _ => true
  | 0, .tup _ => false
  | 0, .lst _ => false
  | n + 1, .tup l => shps n l
  | n + 1, .lst l => shps n l
  | _, .dct _ => false
  | _, .exc _ => false
  | _, .kdc _ => false
  | _, .tdc _ => false
def shps : Nat → List W → Bool
  | _, [] => true
  | n, x :: r => shp n x && shps n r
end
section
variable {F : Fx} {H : Hp} {O : Addr → Prop}
mutual
theorem shp_depth : ∀ (n : Nat) (w : W), shp n w = true → (toD w).depth ≤ n
  | n, .non, _ => by simp [toD, PyData.depth]
  | n, .bl _, _ => by simp [toD, PyData.depth]
  | n, .int _, _ => by simp [toD, PyData.depth]
  | n, .str _, _ => by simp [toD, PyData.depth]
  | 0, .tup _, h => by simp [shp] at h
  | 0, .lst _, h => by simp [shp] at h
  | n + 1, .tup l, h => by
    have := shps_depth n l (by simpa [shp] using h)
    simp [toD, PyData.depth]
    omega
  | n + 1, .lst l, h => by
    have := shps_depth n l (by simpa [shp] using h)
    simp [toD, PyData.depth]
    omega
  | _, .dct _, h => by simp [shp] at h
  | _, .exc _, h => by simp [shp] at h
  | _, .kdc _, h => by simp [shp] at h
  | _, .tdc _, h => by simp [shp] at h
theorem shps_depth : ∀ (n : Nat) (l : List W), shps n l = true → PyData.depthAll (toDs l) ≤ n
  | n, [], _ => by simp [toDs, PyData.depthAll]
  | n, x :: r, h => by
    simp only [shps, Bool.and_eq_true] at h
    have h1 := shp_depth n x h.1
    have h2 := shps_depth n r h.2
    simp [toDs, PyData.depthAll]
    omega
end
mutual
theorem shp_lay : ∀ (n : Nat) (w : W) (v : V), shp n w = true → Rp F H O w v → (toD w).canLay0 = true
  | n, .non, _, _, _ => by simp [toD, PyData.canLay0]
  | n, .bl _, _, _, _ => by simp [toD, PyData.canLay0]
  | n, .int _, _, _, _ => by simp [toD, PyData.canLay0]
  | n, .str x, v, _, r => by
    cases r with
    | str _ h h2 =>
      simp only [toD, PyData.canLay0]
      unfold PySem.PyData.strOk
      simp only [List.all_toArray] 
      simpa [okCp] using h2
  | 0, .tup _, _, h, _ => by simp [shp] at h
  | 0, .lst _, _, h, _ => by simp [shp] at h
  | n + 1, .tup l, v, h, r => by
    obtain ⟨a, vs, _, _, q⟩ := r.tup_inv
    simp only [toD, PyData.canLay0]
    exact shps_lay n l vs (by simpa [shp] using h) q
  | n + 1, .lst l, v, h, r => by
    obtain ⟨a, vs, _, _, q⟩ := r.lst_inv
    simp only [toD, PyData.canLay0]
    exact shps_lay n l vs (by simpa [shp] using h) q
  | _, .dct _, _, h, _ => by simp [shp] at h
  | _, .exc _, _, h, _ => by simp [shp] at h
  | _, .kdc _, _, h, _ => by simp [shp] at h
  | _, .tdc _, _, h, _ => by simp [shp] at h
theorem shps_lay : ∀ (n : Nat) (l : List W) (vs : List V), shps n l = true → RpL F H O l vs → PyData.canLayAll0 (toDs l) = true
  | n, [], _, _, _ => by simp [toDs, PyData.canLayAll0]
  | n, x :: r, vs, h, q => by
    simp only [shps, Bool.and_eq_true] at h
    obtain ⟨v, vs', rfl, q1, q2⟩ := q.cons_iff
    simp only [toDs, PyData.canLayAll0, Bool.and_eq_true]
    exact ⟨shp_lay n x v h.1 q1, shps_lay n r vs' h.2 q2⟩
end
mutual
theorem rp_dp : ∀ (n : Nat) (w : W) (v : V), shp n w = true → Rp F H O w v → Dp F.K H v (toD w)
  | n, .non, v, _, r => by cases r; simp only [toD]; exact .non
  | n, .bl _, v, _, r => by cases r; simp only [toD]; exact .bl _
  | n, .int _, v, _, r => by cases r; simp only [toD]; exact .int _
  | n, .str x, v, _, r => by cases r; simp only [toD]; exact .str _
  | 0, .tup _, _, h, _ => by simp [shp] at h
  | 0, .lst _, _, h, _ => by simp [shp] at h
  | n + 1, .tup l, v, h, r => by
    obtain ⟨a, vs, rfl, h1, q⟩ := r.tup_inv
    simp only [toD]
    exact .tup h1.sq (rps_dp n l vs (by simpa [shp] using h) q)
  | n + 1, .lst l, v, h, r => by
    obtain ⟨a, vs, rfl, h1, q⟩ := r.lst_inv
    simp only [toD]
    exact .lst h1.sq (rps_dp n l vs (by simpa [shp] using h) q)
  | _, .dct _, _, h, _ => by simp [shp] at h
  | _, .exc _, _, h, _ => by simp [shp] at h
  | _, .kdc _, _, h, _ => by simp [shp] at h
  | _, .tdc _, _, h, _ => by simp [shp] at h
theorem rps_dp : ∀ (n : Nat) (l : List W) (vs : List V), shps n l = true → RpL F H O l vs → DpAll F.K H vs (toDs l)
  | n, [], vs, _, q => by rw [q.nil_iff]; simp only [toDs]; exact .nil
  | n, x :: r, vs, h, q => by
    simp only [shps, Bool.and_eq_true] at h
    obtain ⟨v, vs', rfl, q1, q2⟩ := q.cons_iff
    simp only [toDs]
    exact .cons (rp_dp n x v h.1 q1) (rps_dp n r vs' h.2 q2)
end
/-- .. of what is read just now -/
theorem rt_dp (n : Nat) {w : W} {v : V} (h : shp n w = true) (r : RT F H O w v) : Dp F.K H v (toD w) ∧ (toD w).canLay0 = true := by
  cases w with
  | lst ws =>
    obtain ⟨a, vs, rfl, h1, q⟩ := r
    cases n with
    | zero => simp [shp] at h
    | succ n =>
      have h' : shps n ws = true := by simpa [shp] using h
      simp only [toD, PyData.canLay0]
      exact ⟨.lst (.inl h1) (rps_dp n ws vs h' q), shps_lay n ws vs h' q⟩
  | dct ws => simp [shp] at h
  | _ => exact ⟨rp_dp n _ v h r, shp_lay n _ v h r⟩
theorem rt_shaped {w : W} {v : V} (h : shp 64 w = true) (r : RT F H O w v) : Dp F.K H v (toD w) ∧ SeqAt.shaped (toD w) = true := by
  obtain ⟨h1, h2⟩ := rt_dp 64 h r
  exact ⟨h1, by unfold SeqAt.shaped; simp [h2, shp_depth 64 w h]⟩
end

def fAdd : W → W → Option Out
  | .int i, .int j => some (.val (.int (i + j)))
  | .str x, .str y => if x.length + y.length ≤ 16777216 then some (.val (.str (x ++ y))) else none
  | .lst x, .lst y => if x.length + y.length ≤ 16777216 then some (.nl (x ++ y)) else none
  | .tup x, .tup y => if x.length + y.length ≤ 16777216 then some (.nt (x ++ y)) else none
  | _, _ => none
def fSub : W → W → Option Out
  | .int i, .int j => some (.val (.int (i - j)))
  | _, _ => none
def fMul : W → W → Option Out
  | .int i, .int j => if (-(2 ^ 64) < i ∧ i < 2 ^ 64) ∨ (-(2 ^ 64) < j ∧ j < 2 ^ 64) then some (.val (.int (i * j))) else none
  | _, _ => none
def fDiv : W → W → Option Out
  | .int i, .int j => if 0 < j ∧ j < 1073741824 then some (.val (.int (i / j))) else none
  | _, _ => none
def fMod : W → W → Option Out
  | .int i, .int j => if 0 < j then some (.val (.int (i % j))) else none
  | _, _ => none
def fPow : W → W → Option Out
  | .int i, .int j => if 0 ≤ j ∧ j ≤ 1000000 ∧ i.natAbs < 2 ^ 64 then some (.val (.int (i ^ j.toNat))) else none
  | _, _ => none
def fCmp (p : Int → Int → Bool) : W → W → Option Out
  | .int i, .int j => some (.val (.bl (p i j)))
  | _, _ => none
def fEq (x y : W) : Option Out := if shp 64 x = true ∧ shp 64 y = true then some (.val (.bl (PyData.eqv (toD x) (toD y)))) else none
def fNe (x y : W) : Option Out := if shp 64 x = true ∧ shp 64 y = true then some (.val (.bl (!PyData.eqv (toD x) (toD y)))) else none
def isNon : W → Bool
  | .non => true
  | _ => false
def fIs (x : W) : W → Option Out
  | .non => some (.val (.bl (isNon x)))
  | .bl b => match x with
    | .bl a => some (.val (.bl (a == b)))
    | _ => none
  | _ => none
def fIsNot (x : W) : W → Option Out
  | .non => some (.val (.bl (!isNon x)))
  | .bl b => match x with
    | .bl a => some (.val (.bl (!(a == b))))
    | _ => none
  | _ => none
/-- which key, where it is one -/
def keyK : W → Option Key
  | .int i => some (.inl i)
  | .str x => some (.inr ⟨x.toArray⟩)
  | _ => none
def eqK : W → W → Bool
  | .int i, .int j => decide (i = j)
  | .str x, .str y => decide (x = y)
  | _, _ => false
def isKey : W → Bool
  | .int _ => true
  | .str _ => true
  | _ => false
def lookD (k : W) (l : List (W × W)) : Option W := (l.find? fun p => eqK p.1 k).map (·.2)
def isFlat : W → Bool
  | .non => true
  | .bl _ => true
  | .int _ => true
  | .str _ => true
  | _ => false
/-- == of plain data -/
def eqD (x y : W) : Bool := PyData.eqv (toD x) (toD y)
def fIn (x : W) : W → Option Bool
  | .str z => match x with
    | .str [c] => some (decide (c ∈ z))
    | _ => none
  | .lst l => if shp 64 x = true ∧ shps 63 l = true then some (l.any fun y => eqD y x) else none
  | .tup l => if isFlat x = true ∧ l.all isFlat = true then some (l.any fun y => eqD y x) else none
  | .dct l => if isKey x = true then some (lookD x l).isSome else none
  | .kdc l => match x with
    | .str k => some (l.lookup k).isSome
    | _ => none
  | _ => none
def fInO (x y : W) : Option Out := (fIn x y).map fun b => .val (.bl b)
def fNotInO (x y : W) : Option Out := (fIn x y).map fun b => .val (.bl (!b))
def atW {α : Type} (xs : List α) (i : Int) : Option α := (ixN xs.length i).bind fun j => xs[j]?
def fIx : W → W → Option Out
  | .lst l, .int i => (atW l i).map .val
  | .tup l, .int i => (atW l i).map .val
  | .str x, .int i => (atW x i).map fun c => .val (.str [c])
  | .dct l, k => if isKey k = true then (lookD k l).map .val else none
  | .kdc l, .str k => (l.lookup k).map .val
  | _, _ => none
/-- xs[lo:hi] -/
def cutL {α : Type} (xs : List α) (lo hi : Option Int) : List α := (xs.drop (HT.sIx xs.length 0 lo)).take (HT.sIx xs.length xs.length hi - HT.sIx xs.length 0 lo)
def fSl (w : W) (lo hi : Option Int) : Option Out := match w with
  | .lst l => some (.nl (cutL l lo hi))
  | .tup l => some (.nt (cutL l lo hi))
  | .str x => some (.val (.str (cutL x lo hi)))
  | _ => none
end Bel

namespace Bel
open PySem PySem.Spec PyProof.Rows L2
section
variable {F : Fx} {H : Hp} {O : Addr → Prop}
theorem some_inj {α : Type} {a b : α} (h : some a = some b) : a = b := Option.some.inj h
/-- two lists that are read -/
theorem op_catS {X : Cx} : OpR X (binaryOp .Add) (fun x y H Q => ∃ l b xs zs, x = .ref l ∧ y = .ref b ∧ Rd H l (.lst xs) ∧ Rd H b (.lst zs) ∧ xs.length + zs.length ≤ sizeLine ∧ ∀ p, H p = none → Q (.ref p) (upd H p (.lst (xs ++ zs)))) := by
  intro pins s σ H x y v u Q I rx ry h
  obtain ⟨l, b, xs, zs, rfl, rfl, hH, hB, hz, q⟩ := h
  cases rx
  cases ry
  obtain ⟨z, its, n, r, e⟩ := hH.ok I.hok
  obtain ⟨z2, its2, n2, r2, e2⟩ := hB.ok I.hok
  have hl := r.length
  have hl2 := r2.length
  refine PySem.P.add_list e e2 ?_ (by rw [List.size_toArray, List.size_toArray]; omega)
  have ea : its.toArray ++ its2.toArray = (its ++ its2).toArray := by simp
  rw [ea]
  exact ⟨.ref _, _, I.lnew (t' := s.toks) (r.append r2) (by rw [List.length_append]; omega), rfl, q _ I.fresh⟩
def rAddW (K : PySem.W.Frag) : R2 := fun x y H Q => (rI0 fun i j => .int (i + j)) x y H Q ∨ (∃ i j, x = .str i ∧ y = .str j ∧ i.length + j.length ≤ sizeLine ∧ Q (.str (i ++ j)) H) ∨
  (∃ l b xs zs, x = .ref l ∧ y = .ref b ∧ Rd H l (.lst xs) ∧ Rd H b (.lst zs) ∧ xs.length + zs.length ≤ sizeLine ∧ ∀ p, H p = none → Q (.ref p) (upd H p (.lst (xs ++ zs)))) ∨ rCatX K x y H Q
theorem op_addW {X : Cx} : OpR X (binaryOp .Add) (rAddW X.K) := op_add.or (op_add_str.or (op_catS.or op_catX))
theorem str_app (x y : List Nat) : (⟨x.toArray⟩ : Str) ++ (⟨y.toArray⟩ : Str) = ⟨(x ++ y).toArray⟩ := by
  show Str.append _ _ = _
  unfold Str.append
  simp
theorem str_len (x : List Nat) : Str.length ⟨x.toArray⟩ = x.length := by simp [Str.length]
theorem Rp.str_inv {x : List Nat} {v : V} (r : Rp F H O (.str x) v) : v = .str ⟨x.toArray⟩ ∧ x.length ≤ sizeLine ∧ x.all okCp = true := by
  cases r with
  | str _ h h2 => exact ⟨rfl, h, h2⟩
theorem Rp.int_inv {i : Int} {v : V} (r : Rp F H O (.int i) v) : v = .int i := by cases r; rfl
theorem Rp.bl_inv {i : Bool} {v : V} (r : Rp F H O (.bl i) v) : v = .bl i := by cases r; rfl
theorem Rp.non_inv {v : V} (r : Rp F H O .non v) : v = .non := by cases r; rfl
theorem all_ok_append {x y : List Nat} (h : x.all okCp = true) (h' : y.all okCp = true) : (x ++ y).all okCp = true := by simp_all
theorem ow_add : OpW F fAdd (rAddW F.K) := by
  intro H O x y w z o Q rx ry e q
  cases w with
  | int i =>
    cases z with
    | int j =>
      obtain rfl := Rp.int_inv rx
      obtain rfl := Rp.int_inv ry
      cases some_inj e
      exact .inl ⟨i, j, rfl, rfl, q _ (.int _)⟩
    | _ => cases e
  | str i =>
    cases z with
    | str j =>
      obtain ⟨rfl, h1, h2⟩ := Rp.str_inv rx
      obtain ⟨rfl, h3, h4⟩ := Rp.str_inv ry
      simp only [fAdd] at e
      split at e
      · rename_i hl
        cases some_inj e
        have hl' : i.length + j.length ≤ sizeLine := by rw [sizeLine_is]; exact hl
        refine .inr (.inl ⟨_, _, rfl, rfl, by rw [str_len, str_len]; exact hl', ?_⟩)
        rw [str_app]
        exact q _ (.str _ (by simpa using hl') (all_ok_append h2 h4))
      · cases e
    | _ => cases e
  | lst i =>
    cases z with
    | lst j =>
      obtain ⟨a, vs, rfl, h1, q1⟩ := rx
      obtain ⟨b, ws, rfl, h2, q2⟩ := ry
      simp only [fAdd] at e
      split at e
      · rename_i hl
        cases some_inj e
        exact .inr (.inr (.inl ⟨a, b, vs, ws, rfl, rfl, h1, h2, by rw [← q1.1, ← q2.1, sizeLine_is]; exact hl, fun p hp => q p _ hp (q1.append q2)⟩))
      · cases e
    | _ => cases e
  | tup i =>
    cases z with
    | tup j =>
      obtain ⟨a, vs, rfl, h1, q1⟩ := Rp.tup_inv rx
      obtain ⟨b, ws, rfl, h2, q2⟩ := Rp.tup_inv ry
      simp only [fAdd] at e
      split at e
      · rename_i hl
        cases some_inj e
        refine .inr (.inr (.inr ⟨a, b, vs, ws, rfl, rfl, h1.sq, h2.sq, by rw [← q1.1, ← q2.1, sizeLine_is]; exact hl, fun e1 => ?_, fun _ e1 => ?_, fun _ _ => q.2 _ (q1.append q2)⟩))
        · subst e1
          have : i = [] := by have := q1.1; simpa using this
          subst this
          exact q.1 _ (.mkTup h2 q2)
        · subst e1
          have : j = [] := by have := q2.1; simpa using this
          subst this
          refine q.1 _ ?_
          rw [List.append_nil]
          exact .mkTup h1 q1
      · cases e
    | _ => cases e
  | _ => cases e
/-- two ints -/
theorem ow_int {C : Int → Int → Prop} {g : Int → Int → V} {f : W → W → Option Out} (h : ∀ w z o, f w z = some o → ∃ i j u, w = .int i ∧ z = .int j ∧ C i j ∧ o = .val u ∧ ∀ H O, Rp F H O u (g i j)) : OpW F f (rI C g) := by
  intro H O x y w z o Q rx ry e q
  obtain ⟨i, j, u, rfl, rfl, c, rfl, hu⟩ := h w z o e
  obtain rfl := Rp.int_inv rx
  obtain rfl := Rp.int_inv ry
  exact ⟨i, j, rfl, rfl, c, q _ (hu H O)⟩
theorem ow_int0 {g : Int → Int → V} {f : W → W → Option Out} (h : ∀ w z o, f w z = some o → ∃ i j u, w = .int i ∧ z = .int j ∧ o = .val u ∧ ∀ H O, Rp F H O u (g i j)) : OpW F f (rI0 g) := by
  intro H O x y w z o Q rx ry e q
  obtain ⟨i, j, u, rfl, rfl, rfl, hu⟩ := h w z o e
  obtain rfl := Rp.int_inv rx
  obtain rfl := Rp.int_inv ry
  exact ⟨i, j, rfl, rfl, q _ (hu H O)⟩
theorem ow_sub : OpW F fSub (rI0 fun i j => .int (i - j)) := ow_int0 fun w z o e => by
  cases w <;> cases z <;> try cases e
  exact ⟨_, _, _, rfl, rfl, rfl, fun _ _ => .int _⟩
theorem ow_mul : OpW F fMul (rI CMul fun i j => .int (i * j)) := ow_int fun w z o e => by
  cases w <;> cases z <;> try cases e
  simp only [fMul] at e
  split at e
  · rename_i hc
    cases some_inj e
    exact ⟨_, _, _, rfl, rfl, hc, rfl, fun _ _ => .int _⟩
  · cases e
theorem ow_div : OpW F fDiv (rI CDiv fun i j => .int (i / j)) := ow_int fun w z o e => by
  cases w <;> cases z <;> try cases e
  simp only [fDiv] at e
  split at e
  · rename_i hc
    cases some_inj e
    exact ⟨_, _, _, rfl, rfl, hc, rfl, fun _ _ => .int _⟩
  · cases e
theorem ow_mod : OpW F fMod (rI (fun _ j => 0 < j) fun i j => .int (i % j)) := ow_int fun w z o e => by
  cases w <;> cases z <;> try cases e
  simp only [fMod] at e
  split at e
  · rename_i hc
    cases some_inj e
    exact ⟨_, _, _, rfl, rfl, hc, rfl, fun _ _ => .int _⟩
  · cases e
theorem ow_pow : OpW F fPow (rI CPow fun i j => .int (i ^ j.toNat)) := ow_int fun w z o e => by
  cases w <;> cases z <;> try cases e
  simp only [fPow] at e
  split at e
  · rename_i hc
    cases some_inj e
    exact ⟨_, _, _, rfl, rfl, hc, rfl, fun _ _ => .int _⟩
  · cases e
theorem ow_cmp (p : Int → Int → Bool) : OpW F (fCmp p) (rI0 fun i j => .bl (p i j)) := ow_int0 fun w z o e => by
  cases w <;> cases z <;> try cases e
  exact ⟨_, _, _, rfl, rfl, rfl, fun _ _ => .bl _⟩
theorem ow_eq : OpW F fEq (rEqD F.K) := by
  intro H O x y w z o Q rx ry e q
  unfold fEq at e
  split at e
  · rename_i hc
    cases some_inj e
    obtain ⟨h1, h2⟩ := rt_shaped hc.1 rx
    obtain ⟨h3, h4⟩ := rt_shaped hc.2 ry
    exact ⟨_, _, h1, h3, h2, h4, q _ (.bl _)⟩
  · cases e
theorem ow_ne : OpW F fNe (rNeD F.K) := by
  intro H O x y w z o Q rx ry e q
  unfold fNe at e
  split at e
  · rename_i hc
    cases some_inj e
    obtain ⟨h1, h2⟩ := rt_shaped hc.1 rx
    obtain ⟨h3, h4⟩ := rt_shaped hc.2 ry
    exact ⟨_, _, h1, h3, h2, h4, q _ (.bl _)⟩
  · cases e
theorem isNon_v {w : W} {v : V} (r : RT F H O w v) : isNon w = decide (v = .non) := by
  cases w with
  | non => rw [Rp.non_inv r]; rfl
  | bl b => rw [Rp.bl_inv r]; rfl
  | int b => rw [Rp.int_inv r]; rfl
  | str b => rw [(Rp.str_inv r).1]; rfl
  | tup b => obtain ⟨a, _, rfl, _⟩ := Rp.tup_inv r; rfl
  | lst b => obtain ⟨a, _, rfl, _⟩ := r; rfl
  | dct b => obtain ⟨a, _, rfl, _⟩ := r; rfl
  | exc b => cases r; rfl
  | kdc b => cases r; rfl
  | tdc b => cases r; rfl
def rIsW : R2 := fun x y H Q => (y = .non ∧ Q (.bl (decide (x = .non))) H) ∨ rIsB x y H Q
def rIsNotW : R2 := fun x y H Q => (y = .non ∧ Q (.bl (!decide (x = .non))) H) ∨ rNotB x y H Q
theorem op_isW {X : Cx} : OpR X (compareOp .Is) rIsW := op_isN.or op_isBl
theorem op_isNotW {X : Cx} : OpR X (compareOp .IsNot) rIsNotW := op_notN.or op_notBl
theorem ow_is : OpW F fIs rIsW := by
  intro H O x y w z o Q rx ry e q
  cases z with
  | non =>
    cases some_inj e
    obtain rfl := Rp.non_inv ry
    refine .inl ⟨rfl, ?_⟩
    rw [← isNon_v rx]
    exact q _ (.bl _)
  | bl b =>
    cases w with
    | bl a =>
      cases some_inj e
      obtain rfl := Rp.bl_inv rx
      obtain rfl := Rp.bl_inv ry
      refine .inr ⟨a, b, rfl, rfl, ?_⟩
      have : decide (a = b) = (a == b) := by cases a <;> cases b <;> rfl
      rw [this]
      exact q _ (.bl _)
    | _ => cases e
  | _ => cases e
theorem ow_isNot : OpW F fIsNot rIsNotW := by
  intro H O x y w z o Q rx ry e q
  cases z with
  | non =>
    cases some_inj e
    obtain rfl := Rp.non_inv ry
    refine .inl ⟨rfl, ?_⟩
    rw [← isNon_v rx]
    exact q _ (.bl _)
  | bl b =>
    cases w with
    | bl a =>
      cases some_inj e
      obtain rfl := Rp.bl_inv rx
      obtain rfl := Rp.bl_inv ry
      refine .inr ⟨a, b, rfl, rfl, ?_⟩
      have : decide (a = b) = (a == b) := by cases a <;> cases b <;> rfl
      rw [this]
      exact q _ (.bl _)
    | _ => cases e
  | _ => cases e
end
end Bel

namespace Bel
open PySem PySem.Spec PyProof.Rows L2
section
variable {F : Fx} {H : Hp} {O : Addr → Prop}

theorem eqv_flat {w z : W} {x y : V} (hw : isFlat w = true) (hz : isFlat z = true) (r : Rp F H O w x) (q : Rp F H O z y) : eqV x y = eqD w z := by
  unfold eqD
  cases r <;> cases q <;> first | rfl | (simp [isFlat] at hw; done) | (simp [isFlat] at hz; done)
theorem flat_v {w : W} {x : V} (hw : isFlat w = true) (r : Rp F H O w x) : flatV x = true := by
  cases r <;> first | rfl | (simp [isFlat] at hw; done)
theorem flat_all {ws : List W} {vs : List V} (r : RpL F H O ws vs) (h : ws.all isFlat = true) : vs.all flatV = true := by
  induction ws generalizing vs with
  | nil => rw [r.nil_iff]; rfl
  | cons w ws ih =>
    obtain ⟨v, vs', rfl, h1, r'⟩ := r.cons_iff
    rw [List.all_cons, Bool.and_eq_true] at h ⊢
    exact ⟨flat_v h.1 h1, ih r' h.2⟩
theorem any_flat {ws : List W} {vs : List V} {z : W} {y : V} (r : RpL F H O ws vs) (h : ws.all isFlat = true) (hz : isFlat z = true) (q : Rp F H O z y) : inV y vs = ws.any fun w => eqD w z := by
  unfold inV
  induction ws generalizing vs with
  | nil => rw [r.nil_iff]; rfl
  | cons w ws ih =>
    obtain ⟨v, vs', rfl, h1, r'⟩ := r.cons_iff
    rw [List.all_cons, Bool.and_eq_true] at h
    rw [List.any_cons, List.any_cons, ih r' h.2, eqv_flat h.1 hz h1 q]
theorem toDs_map (l : List W) : toDs l = l.map toD := by
  induction l with
  | nil => simp [toDs]
  | cons x r ih => simp [toDs, ih]
theorem any_toD (l : List W) (d : PyData) : ((toDs l).any fun z => PyData.eqv z d) = l.any fun y => PyData.eqv (toD y) d := by
  rw [toDs_map, List.any_map]
  rfl
theorem isKey_k {k : W} {v : V} (h : isKey k = true) (r : Rp F H O k v) : ∃ κ, keyK k = some κ ∧ v = kV κ := by
  cases k with
  | int i => rw [Rp.int_inv r]; exact ⟨.inl i, rfl, rfl⟩
  | str x => rw [(Rp.str_inv r).1]; exact ⟨.inr _, rfl, rfl⟩
  | _ => simp [isKey] at h
theorem key_of_rp {k : W} {κ : Key} (r : Rp F H O k (kV κ)) : keyK k = some κ := by
  cases κ with
  | inl i =>
    have r' : Rp F H O k (.int i) := r
    cases r'
    rfl
  | inr x =>
    have r' : Rp F H O k (.str x) := r
    cases r'
    rfl
theorem eqK_iff {k l : W} {κ κ' : Key} (h : keyK k = some κ) (h' : keyK l = some κ') : eqK k l = decide (κ = κ') := by
  cases k with
  | int i =>
    cases l with
    | int j =>
      have e1 : Sum.inl i = κ := some_inj h
      have e2 : Sum.inl j = κ' := some_inj h'
      subst e1 e2
      simp [eqK]
    | str j =>
      have e1 : Sum.inl i = κ := some_inj h
      have e2 : Sum.inr _ = κ' := some_inj h'
      subst e1 e2
      simp [eqK]
    | _ => simp [keyK] at h'
  | str i =>
    cases l with
    | int j =>
      have e1 : Sum.inr _ = κ := some_inj h
      have e2 : Sum.inl j = κ' := some_inj h'
      subst e1 e2
      simp [eqK]
    | str j =>
      have e1 : Sum.inr _ = κ := some_inj h
      have e2 : Sum.inr _ = κ' := some_inj h'
      subst e1 e2
      simp [eqK]
    | _ => simp [keyK] at h'
  | _ => simp [keyK] at h
theorem RpD.nil_iff {kvs : List (Key × V)} (r : RpD F H O [] kvs) : kvs = [] := by
  have := r.1
  cases kvs with
  | nil => rfl
  | cons _ _ => simp at this
theorem RpD.cons_iff {w : W × W} {ws : List (W × W)} {kvs : List (Key × V)} (r : RpD F H O (w :: ws) kvs) : ∃ κ v kvs', kvs = (κ, v) :: kvs' ∧ Rp F H O w.1 (kV κ) ∧ Rp F H O w.2 v ∧ RpD F H O ws kvs' := by
  cases kvs with
  | nil => have := r.1; simp at this
  | cons p kvs' =>
    exact ⟨p.1, p.2, kvs', rfl, r.2.1 0 w p rfl rfl, r.2.2 0 w p rfl rfl, by have := r.1; simpa using this, fun i x y hx hy => r.2.1 (i + 1) x y (by simpa using hx) (by simpa using hy), fun i x y hx hy => r.2.2 (i + 1) x y (by simpa using hx) (by simpa using hy)⟩
theorem RpD.nil : RpD F H O [] [] := ⟨rfl, fun i w v h => by simp at h, fun i w v h => by simp at h⟩
theorem RpD.cons {w : W × W} {ws : List (W × W)} {κ : Key} {v : V} {kvs : List (Key × V)} (h : Rp F H O w.1 (kV κ)) (h2 : Rp F H O w.2 v) (r : RpD F H O ws kvs) : RpD F H O (w :: ws) ((κ, v) :: kvs) := by
  refine ⟨by simp [r.1], fun i x y hx hy => ?_, fun i x y hx hy => ?_⟩
  · cases i with
    | zero => simp at hx hy; subst hx hy; exact h
    | succ i => simp at hx hy; exact r.2.1 i x y hx hy
  · cases i with
    | zero => simp at hx hy; subst hx hy; exact h2
    | succ i => simp at hx hy; exact r.2.2 i x y hx hy
/-- a look into a dict -/
theorem look_rp {ws : List (W × W)} {kvs : List (Key × V)} (r : RpD F H O ws kvs) {k : W} {κ : Key} (hk : keyK k = some κ) :
    (lookD k ws = none ∧ valV kvs κ = none) ∨ ∃ w v, lookD k ws = some w ∧ valV kvs κ = some v ∧ Rp F H O w v := by
  induction ws generalizing kvs with
  | nil => rw [r.nil_iff]; exact .inl ⟨rfl, rfl⟩
  | cons p ws ih =>
    obtain ⟨κ', v, kvs', rfl, h1, h2, r'⟩ := r.cons_iff
    have e := eqK_iff (key_of_rp h1) hk
    by_cases hc : κ' = κ
    · right
      refine ⟨p.2, v, ?_, valV_pos hc, h2⟩
      unfold lookD
      rw [List.find?_cons]
      simp [e, hc]
    · have e1 : lookD k (p :: ws) = lookD k ws := by
        unfold lookD
        rw [List.find?_cons]
        simp [e, hc]
      rw [e1, valV_neg hc]
      exact ih r'
def rInW (F : Fx) (neg : Bool) : R2 := fun x y H Q => (∃ (c : Nat) (z : Str), x = .str ⟨#[c]⟩ ∧ y = .str z ∧ Q (.bl (if neg then !decide (c ∈ z.cps.toList) else decide (c ∈ z.cps.toList))) H) ∨
  (∃ d ds, Dp F.K H x d ∧ Dp F.K H y (.list ds) ∧ SeqAt.shaped d = true ∧ SeqAt.shaped (.list ds) = true ∧ Q (.bl (if neg then !ds.any (fun z => PyData.eqv z d) else ds.any fun z => PyData.eqv z d)) H) ∨
  rIn F.K neg x y H Q ∨ (∃ a o, y = .ref a ∧ DGet H a x o ∧ Q (.bl (if neg then !o.isSome else o.isSome)) H) ∨ (∃ d es n z r, KDict F.K F.w d es n ∧ x = .str z ∧ y = .ref d ∧ PySem.W.nsIn F.K d z = some r ∧ Q (.bl (if neg then !r.isSome else r.isSome)) H)
theorem op_din {X : Cx} (hu : X.A.units + 1 < cLine) : OpR X (compareOp .In) (fun x y H Q => ∃ a o, y = .ref a ∧ DGet H a x o ∧ Q (.bl o.isSome) H) := by
  intro pins s σ H x y v u Q I rx ry h
  obtain ⟨a, o, rfl, g, q⟩ := h
  cases ry
  exact d_in hu I g rx fun s' I' => ⟨.bl _, H, I', rfl, q⟩
theorem op_dnotin {X : Cx} (hu : X.A.units + 1 < cLine) : OpR X (compareOp .NotIn) (fun x y H Q => ∃ a o, y = .ref a ∧ DGet H a x o ∧ Q (.bl (!o.isSome)) H) := by
  intro pins s σ H x y v u Q I rx ry h
  obtain ⟨a, o, rfl, g, q⟩ := h
  cases ry
  exact d_notIn hu I g rx fun s' I' => ⟨.bl _, H, I', rfl, q⟩
theorem op_kin {X : Cx} : OpR X (compareOp .In) (fun x y H Q => ∃ d es n z r, KDict X.K X.w d es n ∧ x = .str z ∧ y = .ref d ∧ PySem.W.nsIn X.K d z = some r ∧ Q (.bl r.isSome) H) := by
  intro pins s σ H x y v u Q I rx ry h
  obtain ⟨d, es, n, z, r, D, rfl, rfl, e, q⟩ := h
  exact op_in_kd D pins s σ H _ _ v u Q I rx ry ⟨z, r, rfl, rfl, e, q⟩
theorem op_knotin {X : Cx} : OpR X (compareOp .NotIn) (fun x y H Q => ∃ d es n z r, KDict X.K X.w d es n ∧ x = .str z ∧ y = .ref d ∧ PySem.W.nsIn X.K d z = some r ∧ Q (.bl (!r.isSome)) H) := by
  intro pins s σ H x y v u Q I rx ry h
  obtain ⟨d, es, n, z, r, D, rfl, rfl, e, q⟩ := h
  exact op_notIn_kd D pins s σ H _ _ v u Q I rx ry ⟨z, r, rfl, rfl, e, q⟩
theorem op_inW {ec : Ec} {X : Cx} (hu : X.A.units + 65 < cLine) : OpR X (compareOp .In) (rInW (fx ec X) false) := op_in_sign.or ((op_inD hu).or (op_in_seq.or ((op_din (by omega)).or op_kin)))
theorem op_notInW {ec : Ec} {X : Cx} (hu : X.A.units + 65 < cLine) : OpR X (compareOp .NotIn) (rInW (fx ec X) true) := op_notIn_sign.or ((op_notInD hu).or (op_notIn_seq.or ((op_dnotin (by omega)).or op_knotin)))
theorem dget_rd {a : Addr} {kvs : List (Key × V)} {κ : Key} (h : Rd H a (.dK kvs)) : DGet H a (kV κ) (valV kvs κ) := .inl ⟨kvs, κ, h, rfl, rfl⟩
/-- a look into a written dict -/
theorem kdc_look {l : List (List Nat × W)} {v : V} (h : Rp F H O (.kdc l) v) (k : List Nat) : ∃ a kvs, v = .ref a ∧ KDc F a kvs ∧ ∃ r, PySem.W.nsIn F.K a ⟨k.toArray⟩ = some r ∧ r.isSome = (l.lookup k).isSome ∧ ∀ w, l.lookup k = some w → ∃ v' u, r = some u ∧ RelV v' u ∧ Rp F H O w v' := by
  cases h with
  | @kdc a kvs _ h hl hk hs =>
    refine ⟨a, kvs, rfl, h, ?_⟩
    have key : (l.lookup k = none ∧ kvs.lookup ⟨k.toArray⟩ = none) ∨ ∃ w v', l.lookup k = some w ∧ kvs.lookup ⟨k.toArray⟩ = some v' ∧ Rp F H O w v' := by
      clear h
      induction l generalizing kvs with
      | nil =>
        cases kvs with
        | nil => exact .inl ⟨rfl, rfl⟩
        | cons _ _ => simp at hl
      | cons p l ih =>
        cases kvs with
        | nil => simp at hl
        | cons q kvs =>
          have e1 := hk 0 p q rfl rfl
          have e2 := hs 0 p q rfl rfl
          have ih' := ih (kvs := kvs) (by simpa using hl) (fun i x y hx hy => hk (i + 1) x y (by simpa using hx) (by simpa using hy)) (fun i x y hx hy => hs (i + 1) x y (by simpa using hx) (by simpa using hy))
          obtain ⟨p1, p2⟩ := p
          obtain ⟨q1, q2⟩ := q
          simp only at e1 e2
          subst e1
          by_cases hc : k = p1
          · subst hc
            exact .inr ⟨p2, q2, by simp [List.lookup], by simp [List.lookup], e2⟩
          · have b1 : (k == p1) = false := beq_eq_false_iff_ne.mpr hc
            have b2 : ((⟨k.toArray⟩ : Str) == (⟨p1.toArray⟩ : Str)) = false := beq_eq_false_iff_ne.mpr fun z => hc (by simpa using z)
            simp only [List.lookup, b1, b2]
            exact ih'
    have h4 := h.2 ⟨k.toArray⟩
    rcases key with ⟨e1, e2⟩ | ⟨w, v', e1, e2, r⟩
    · rw [e2] at h4
      exact ⟨none, h4, by rw [e1]; rfl, fun w hw => by rw [e1] at hw; cases hw⟩
    · rw [e2] at h4
      obtain ⟨u, hu, ru⟩ := h4
      exact ⟨some u, hu, by rw [e1]; rfl, fun w' hw => by rw [e1] at hw; cases hw; exact ⟨v', u, rfl, ru, r⟩⟩
theorem in_core {neg : Bool} {w z : W} {x y : V} {b : Bool} {Q : VK} (rx : RT F H O w x) (ry : RT F H O z y) (e : fIn w z = some b) (q : Q (.bl (if neg then !b else b)) H) : rInW F neg x y H Q := by
  cases z with
  | str t =>
    simp only [fIn] at e
    split at e
    · rename_i c
      cases some_inj e
      obtain ⟨rfl, _⟩ := Rp.str_inv rx
      obtain ⟨rfl, _⟩ := Rp.str_inv ry
      exact .inl ⟨c, _, rfl, rfl, q⟩
    · cases e
  | lst l =>
    simp only [fIn] at e
    split at e
    · rename_i hc
      cases some_inj e
      have hs : shp 64 (.lst l) = true := by simpa [shp] using hc.2
      obtain ⟨h1, h2⟩ := rt_shaped hc.1 rx
      obtain ⟨h3, h4⟩ := rt_shaped hs ry
      simp only [toD] at h3 h4
      refine .inr (.inl ⟨_, _, h1, h3, h2, h4, ?_⟩)
      rw [any_toD]
      exact q
    · cases e
  | tup l =>
    simp only [fIn] at e
    split at e
    · rename_i hc
      cases some_inj e
      obtain ⟨a, vs, rfl, h1, q1⟩ := Rp.tup_inv ry
      have rx' : Rp F H O w x := by
        cases w <;> first | exact rx | (simp [isFlat] at hc; done)
      refine .inr (.inr (.inl ⟨a, vs, rfl, .inr h1.sq, flat_v hc.1 rx', flat_all q1 hc.2, ?_⟩))
      rw [any_flat q1 hc.2 hc.1 rx']
      exact q
    · cases e
  | dct l =>
    simp only [fIn] at e
    split at e
    · rename_i hc
      cases some_inj e
      obtain ⟨a, kvs, rfl, h1, q1⟩ := ry
      have rx' : Rp F H O w x := by
        cases w <;> first | exact rx | (simp [isKey] at hc; done)
      obtain ⟨κ, hk, rfl⟩ := isKey_k hc rx'
      refine .inr (.inr (.inr (.inl ⟨a, _, rfl, dget_rd h1, ?_⟩)))
      rcases look_rp q1 hk with ⟨e1, e2⟩ | ⟨w', v', e1, e2, _⟩
      · rw [e2]; rw [e1] at q; exact q
      · rw [e2]; rw [e1] at q; exact q
    · cases e
  | kdc l =>
    simp only [fIn] at e
    split at e
    · rename_i k
      cases some_inj e
      obtain ⟨rfl, _⟩ := Rp.str_inv rx
      obtain ⟨a, kvs, rfl, ⟨⟨es, n, h1, h2, h3⟩, h4⟩, r, hr⟩ := kdc_look ry k
      refine .inr (.inr (.inr (.inr ⟨a, es, n, _, r, ⟨h1, h2, h3⟩, rfl, rfl, hr.1, ?_⟩)))
      rw [hr.2.1]
      exact q
    · cases e
  | _ => cases e
theorem ow_in : OpW F fInO (rInW F false) := by
  intro H O x y w z o Q rx ry e q
  unfold fInO at e
  obtain ⟨b, hb, rfl⟩ := Option.map_eq_some_iff.mp e
  exact in_core rx ry hb (q _ (.bl _))
theorem ow_notIn : OpW F fNotInO (rInW F true) := by
  intro H O x y w z o Q rx ry e q
  unfold fNotInO at e
  obtain ⟨b, hb, rfl⟩ := Option.map_eq_some_iff.mp e
  exact in_core rx ry hb (q _ (.bl _))

def rIxW (F : Fx) : R2 := fun x y H Q => rIx F.K x y H Q ∨ (∃ a v, x = .ref a ∧ DGet H a y (some v) ∧ Q v H) ∨ rIxD F.K F.w x y H Q
theorem ix_dget {X : Cx} (hu : X.A.units + 1 < cLine) : IxR X (fun x y H Q => ∃ a v, x = .ref a ∧ DGet H a y (some v) ∧ Q v H) := by
  intro value slice pins s σ H x y v u Q I rx ry h hs
  obtain ⟨a, z, rfl, g, q⟩ := h
  cases rx
  exact tail_any (dict_typeIs I g) slot_dict_getitem.lookup (d_getItem hu I g ry fun w' s' I' r' => ⟨z, H, I', r', q⟩) hs
theorem ix_W {ec : Ec} {X : Cx} (hu : X.A.units + 1 < cLine) : IxR X (rIxW (fx ec X)) := ix_seq.or ((ix_dget hu).or ix_kdict)
theorem atI_rp {ws : List W} {vs : List V} (r : RpL F H O ws vs) {i : Int} {w : W} (h : atW ws i = some w) : ∃ v, atI vs i = some v ∧ Rp F H O w v := by
  unfold atW at h
  unfold atI
  rw [← r.1]
  cases e : ixN ws.length i with
  | none => rw [e] at h; cases h
  | some j =>
    rw [e] at h
    exact r.get h
theorem one_sign {x : List Nat} {i : Int} {c : Nat} (h : x.all okCp = true) (e : atW x i = some c) : [c].all okCp = true := by
  unfold atW at e
  cases e1 : ixN x.length i with
  | none => rw [e1] at e; cases e
  | some j =>
    rw [e1] at e
    have : c ∈ x := List.mem_of_getElem? e
    have := List.all_eq_true.mp h c this
    simp [this]
theorem one_line {c : Nat} : [c].length ≤ sizeLine := by rw [sizeLine_is]; simp
theorem ow_ix : OpW F fIx (rIxW F) := by
  intro H O x y w z o Q rx ry e q
  cases w with
  | lst l =>
    cases z with
    | int i =>
      obtain ⟨a, vs, rfl, h1, q1⟩ := rx
      obtain rfl := Rp.int_inv ry
      obtain ⟨w', e', rfl⟩ := Option.map_eq_some_iff.mp e
      obtain ⟨v, hv, r⟩ := atI_rp q1 e'
      exact .inl (.inl ⟨a, vs, i, v, rfl, rfl, .inl h1, hv, q _ r⟩)
    | _ => cases e
  | tup l =>
    cases z with
    | int i =>
      obtain ⟨a, vs, rfl, h1, q1⟩ := Rp.tup_inv rx
      obtain rfl := Rp.int_inv ry
      obtain ⟨w', e', rfl⟩ := Option.map_eq_some_iff.mp e
      obtain ⟨v, hv, r⟩ := atI_rp q1 e'
      exact .inl (.inr (.inl ⟨a, vs, i, v, rfl, rfl, h1.sq, hv, q _ r⟩))
    | _ => cases e
  | str l =>
    cases z with
    | int i =>
      obtain ⟨rfl, h1, h2⟩ := Rp.str_inv rx
      obtain rfl := Rp.int_inv ry
      obtain ⟨c, e', rfl⟩ := Option.map_eq_some_iff.mp e
      refine .inl (.inr (.inr ⟨_, i, c, rfl, rfl, by rw [str_len]; exact h1, ?_, q _ (.str [c] one_line (one_sign h2 e'))⟩))
      show atI l i = some c
      exact e'
    | _ => cases e
  | dct l =>
    have e' : (if isKey z = true then (lookD z l).map Out.val else none) = some o := e
    split at e'
    · rename_i hc
      obtain ⟨a, kvs, rfl, h1, q1⟩ := rx
      have ry' : Rp F H O z y := by
        cases z <;> first | exact ry | (simp [isKey] at hc; done)
      obtain ⟨κ, hk, rfl⟩ := isKey_k hc ry'
      obtain ⟨w', e'', rfl⟩ := Option.map_eq_some_iff.mp e'
      rcases look_rp q1 hk with ⟨e1, e2⟩ | ⟨w'', v', e1, e2, r⟩
      · rw [e1] at e''; cases e''
      · rw [e1] at e''; cases e''
        exact .inr (.inl ⟨a, v', rfl, by rw [← e2]; exact dget_rd h1, q _ r⟩)
    · cases e'
  | kdc l =>
    cases z with
    | str k =>
      obtain ⟨rfl, _⟩ := Rp.str_inv ry
      obtain ⟨a, kvs, rfl, ⟨⟨es, n, h1, h2, h3⟩, h4⟩, r, hr⟩ := kdc_look rx k
      obtain ⟨w', e'', rfl⟩ := Option.map_eq_some_iff.mp e
      obtain ⟨v', u, rfl, ru, rr⟩ := hr.2.2 w' e''
      exact .inr (.inr ⟨a, _, v', rfl, rfl, ⟨es, n, u, h1, h2, hr.1, ru⟩, q _ rr⟩)
    | _ => cases e
  | _ => cases e

def rSlW (K : PySem.W.Frag) : V → Option Int → Option Int → Hp → VK → Prop := fun x lo hi H Q => rSlL K x lo hi H Q ∨ rSlX K x lo hi H Q ∨ rSlS x lo hi H Q
theorem sl_W {X : Cx} : SlR X (rSlW X.K) := sl_list.or (sl_tupX.or sl_str)
theorem cut_rp {ws : List W} {vs : List V} (r : RpL F H O ws vs) (lo hi : Option Int) : RpL F H O (cutL ws lo hi) (cutV vs lo hi) := by
  unfold cutL cutV
  rw [r.1]
  exact (r.drop _).take _
theorem cut_len {α : Type} (xs : List α) (lo hi : Option Int) : (cutL xs lo hi).length ≤ xs.length := by
  unfold cutL
  rw [List.length_take, List.length_drop]
  omega
theorem cut_all {x : List Nat} (lo hi : Option Int) (h : x.all okCp = true) : (cutL x lo hi).all okCp = true := by
  rw [List.all_eq_true] at h ⊢
  intro c hc
  unfold cutL at hc
  exact h c (List.mem_of_mem_drop (List.mem_of_mem_take hc))
theorem cutS_is (x : List Nat) (lo hi : Option Int) : cutS ⟨x.toArray⟩ lo hi = ⟨(cutL x lo hi).toArray⟩ := by
  unfold cutS cutL
  rw [str_len]
theorem cut_whole {α : Type} {xs : List α} {lo hi : Option Int} (h : HT.sIx xs.length 0 lo = 0 ∧ HT.sIx xs.length xs.length hi = xs.length) : cutL xs lo hi = xs := by
  unfold cutL
  rw [h.1, h.2]
  simp
theorem sl_core {w : W} {x : V} {lo hi : Option Int} {o : Out} {Q : VK} (rx : RT F H O w x) (e : fSl w lo hi = some o) (q : PuQ F H O o Q) : rSlW F.K x lo hi H Q := by
  cases w with
  | lst l =>
    cases some_inj e
    obtain ⟨a, vs, rfl, h1, q1⟩ := rx
    exact .inl ⟨a, vs, rfl, .inl h1, fun p hp => q p _ hp (cut_rp q1 lo hi)⟩
  | tup l =>
    cases some_inj e
    obtain ⟨a, vs, rfl, h1, q1⟩ := Rp.tup_inv rx
    refine .inr (.inl ⟨a, vs, rfl, h1.sq, fun hw => q.1 _ ?_, fun _ => q.2 _ (cut_rp q1 lo hi)⟩)
    rw [← q1.1] at hw
    rw [cut_whole hw]
    exact .mkTup h1 q1
  | str l =>
    cases some_inj e
    obtain ⟨rfl, h1, h2⟩ := Rp.str_inv rx
    refine .inr (.inr ⟨_, rfl, by rw [str_len]; exact h1, ?_⟩)
    rw [cutS_is]
    exact q _ (.str _ (Nat.le_trans (cut_len l lo hi) h1) (cut_all lo hi h2))
  | _ => cases e
end
end Bel

namespace Bel
open PySem PySem.Spec PyProof.Rows L2
section
variable {ec : Ec} {X : Cx} {e a b c o : Expr} {es rest : List Expr} {pos : Pos} {da db dc dd : DE} {ta tb tc : DT} {das : DA}

def dT (d : DE) : DT := fun e S => (d e S).bind fun u S1 => match u with
  | .v (.bl k) => .ok k S1
  | _ => .no
section
variable {F : Fx} {Wx : WX} {σ : L2.St} {H : Hp}
theorem dT_reads {Q : Bool → Hp → Prop} (h : LT F Wx (dT da) σ H Q) : LE F Wx da σ H fun x H' => ∃ k, x = .bl k ∧ Q k H' := by
  obtain ⟨env, S, ι, B, R, E, h⟩ := h
  refine LE.thenT R E h fun u S1 v H1 ι1 G1 R1 E1 ru h1 => ?_
  cases u with
  | v w =>
    cases w with
    | bl k => exact ⟨k, Rp.bl_inv ru, h1 H1 ι1 .refl R1⟩
    | _ => exact h1.elim
  | o n => exact h1.elim
end
theorem tv_val (h : PEv ec X e da) (he : ∀ whole, isTrue e X.env whole = (do let v ← whole; standAt e.pos; holding [v] (truthy v)) := by intro _; rfl) : PTv ec X e (dT da) :=
  ⟨fun pn xe Wx tk => (pt_val (h.run pn xe Wx tk) he).imp fun σ H Q h => dT_reads h⟩
theorem tv_cmp {op : CmpOp} {f : W → W → Option Out} {r : R2} (ho : ∀ pn xe, OpR (X.tr pn xe) (compareOp op) r) (hf : OpW (fx ec X) f r) (ha : PEv ec X a da) (hb : PEv ec X b db) (hm : behindInMarks op b = false) : PTv ec X (.Compare a [op] [b] pos) (dT (dBin false f da db)) :=
  ⟨fun pn xe Wx tk => (pt_cmpR (ho pn xe) (ha.run pn xe Wx tk) (hb.run pn xe Wx tk) hm).imp fun σ H Q h => by
    have := dT_reads h
    exact bin_reads hf this⟩
/-- a op b op' c -/
def dChain (f g : W → W → Option Out) (a b c : DE) : DE := fun e S => (a e S).bind fun u S1 => (b e S1).bind fun v S2 => match dr S2 u, dr S2 v with
  | some x, some y => match f x y with
    | some (.val (.bl true)) => (c e S2).bind fun w S3 => match dr S3 v, dr S3 w with
      | some y', some z => putO false (g y' z) S3
      | _, _ => .no
    | some (.val (.bl false)) => .ok (.v (.bl false)) S2
    | _ => .no
  | _, _ => .no
theorem chain_reads {F : Fx} {Wx : WX} {σ : L2.St} {H : Hp} {f g : W → W → Option Out} {r r' : R2} {Q : VK} (hf : OpW F f r) (hg : OpW F g r') (h : LE F Wx (dChain f g da db dc) σ H Q) : tChain r r' (LE F Wx da) (LE F Wx db) (LE F Wx dc) σ H Q := by
  obtain ⟨env, S, ι, B, R, E, h⟩ := h
  refine LE.then_ R E h fun u S1 x H1 ι1 G1 R1 E1 ru h1 => ?_
  refine LE.then_ R1 E1 h1 fun v S2 y H2 ι2 G2 R2 E2 rv h2 => ?_
  have ru2 := RU.go G2 ru
  cases e1 : dr S2 u with
  | none => simp only [e1] at h2; exact h2.elim
  | some w =>
    cases e2 : dr S2 v with
    | none => simp only [e1, e2] at h2; exact h2.elim
    | some z =>
      simp only [e1, e2] at h2
      cases e3 : f w z with
      | none => simp only [e3] at h2; exact h2.elim
      | some q =>
        refine hf H2 _ x y w z q _ (RU.rt R2 ru2 e1) (RU.rt R2 rv e2) e3 ?_
        cases q with
        | val t =>
          cases t with
          | bl k =>
            intro v' rv'
            obtain rfl := Rp.bl_inv rv'
            refine ⟨k, rfl, ?_⟩
            cases k with
            | true =>
              rw [if_pos rfl]
              simp only [e3] at h2
              refine LE.then_ R2 E2 h2 fun w3 S3 z3 H3 ι3 G3 R3 E3 rw3 h3 => ?_
              have rv3 := RU.go G3 rv
              cases e4 : dr S3 v with
              | none => simp only [e4] at h3; exact h3.elim
              | some y' =>
                cases e5 : dr S3 w3 with
                | none => simp only [e4, e5] at h3; exact h3.elim
                | some z' =>
                  simp only [e4, e5] at h3
                  obtain ⟨o', he', q'⟩ := putO_ok R3 h3
                  exact hg H3 _ y z3 y' z' o' Q (RU.rt R3 rv3 e4) (RU.rt R3 rw3 e5) he' q'
            | false =>
              rw [if_neg Bool.false_ne_true]
              simp only [e3] at h2
              exact h2 _ H2 ι2 .refl R2 (.bl false)
          | _ => simp only [e3] at h2; exact h2.elim
        | _ => simp only [e3] at h2; exact h2.elim
theorem ev_chain {op op' : CmpOp} {f g : W → W → Option Out} {r r' : R2} (ho : ∀ pn xe, OpR (X.tr pn xe) (compareOp op) r) (ho' : ∀ pn xe, OpR (X.tr pn xe) (compareOp op') r') (hf : OpW (fx ec X) f r) (hg : OpW (fx ec X) g r')
    (ha : PEv ec X a da) (hb : PEv ec X b db) (hc : PEv ec X c dc) (hm : lastMarks [op, op'] [b, c] = false := by with_unfolding_all rfl) : PEv ec X (.Compare a [op, op'] [b, c] pos) (dChain f g da db dc) :=
  ⟨fun pn xe Wx tk => (pe_chain (ho pn xe) (ho' pn xe) (ha.run pn xe Wx tk) (hb.run pn xe Wx tk) (hc.run pn xe Wx tk) hm).imp fun σ H Q h => chain_reads hf hg h⟩
def dAnd (a b : DT) : DT := fun e S => (a e S).bind fun k S1 => if k = true then b e S1 else .ok false S1
def dOr (a b : DT) : DT := fun e S => (a e S).bind fun k S1 => if k = true then .ok true S1 else b e S1
def dNot (a : DT) : DT := fun e S => (a e S).bind fun k S1 => .ok (!k) S1
theorem tw_and1 (ha : PTv ec X a ta) : PWv ec X (.BoolOp .And [a] pos) ta := ⟨fun pn xe Wx tk => pw_and1 (ha.run pn xe Wx tk)⟩
theorem tw_or1 (ha : PTv ec X a ta) : PWv ec X (.BoolOp .Or [a] pos) ta := ⟨fun pn xe Wx tk => pw_or1 (ha.run pn xe Wx tk)⟩
theorem tw_and (ha : PTv ec X a ta) (hb : PWv ec X (.BoolOp .And (b :: rest) pos) tb) : PWv ec X (.BoolOp .And (a :: b :: rest) pos) (dAnd ta tb) :=
  ⟨fun pn xe Wx tk => (pw_and (ha.run pn xe Wx tk) (hb.run pn xe Wx tk)).imp fun σ H Q ⟨env, S, ι, B, R, E, h⟩ => LT.thenT R E h fun k S1 H1 ι1 G1 R1 E1 h1 => by
    cases k with
    | true => rw [if_pos rfl] at h1 ⊢; exact ⟨env, S1, ι1, B, R1, E1, h1⟩
    | false => rw [if_neg Bool.false_ne_true] at h1 ⊢; exact h1 H1 ι1 .refl R1⟩
theorem tw_or (ha : PTv ec X a ta) (hb : PWv ec X (.BoolOp .Or (b :: rest) pos) tb) : PWv ec X (.BoolOp .Or (a :: b :: rest) pos) (dOr ta tb) :=
  ⟨fun pn xe Wx tk => (pw_or (ha.run pn xe Wx tk) (hb.run pn xe Wx tk)).imp fun σ H Q ⟨env, S, ι, B, R, E, h⟩ => LT.thenT R E h fun k S1 H1 ι1 G1 R1 E1 h1 => by
    cases k with
    | true => rw [if_pos rfl] at h1 ⊢; exact h1 H1 ι1 .refl R1
    | false => rw [if_neg Bool.false_ne_true] at h1 ⊢; exact ⟨env, S1, ι1, B, R1, E1, h1⟩⟩
theorem tv_w (h : PWv ec X e ta) : PTv ec X e ta := ⟨fun pn xe Wx tk => (h.run pn xe Wx tk).pt⟩
theorem tv_not (ha : PTv ec X a ta) : PTv ec X (.UnaryOp .Not a pos) (dNot ta) :=
  ⟨fun pn xe Wx tk => (pt_not (ha.run pn xe Wx tk)).imp fun σ H Q ⟨env, S, ι, B, R, E, h⟩ => LT.thenT R E h fun k S1 H1 ι1 G1 R1 E1 h1 => h1 H1 ι1 .refl R1⟩
/-- .. as values -/
def dAndV (a b : DE) : DE := fun e S => (a e S).bind fun u S1 => match u with
  | .v (.bl k) => if k = true then b e S1 else .ok (.v (.bl false)) S1
  | _ => .no
def dOrV (a b : DE) : DE := fun e S => (a e S).bind fun u S1 => match u with
  | .v (.bl k) => if k = true then .ok (.v (.bl true)) S1 else b e S1
  | _ => .no
def dNotV (a : DE) : DE := fun e S => (a e S).bind fun u S1 => match u with
  | .v (.bl k) => .ok (.v (.bl (!k))) S1
  | _ => .no
theorem ev_one {op} (h : PEv ec X a da) : PEv ec X (.BoolOp op [a] pos) da := ⟨fun pn xe Wx tk => pe_one (h.run pn xe Wx tk)⟩
theorem ev_and (ha : PEv ec X a da) (hb : PEv ec X (.BoolOp .And (b :: rest) pos) db) : PEv ec X (.BoolOp .And (a :: b :: rest) pos) (dAndV da db) :=
  ⟨fun pn xe Wx tk => (pe_and (ha.run pn xe Wx tk) (hb.run pn xe Wx tk)).imp fun σ H Q ⟨env, S, ι, B, R, E, h⟩ => LE.then_ R E h fun u S1 v H1 ι1 G1 R1 E1 ru h1 => by
    cases u with
    | v w =>
      cases w with
      | bl k =>
        refine ⟨k, Rp.bl_inv ru, ?_⟩
        cases k with
        | true => exact ⟨env, S1, ι1, B, R1, E1, h1⟩
        | false => exact h1 _ H1 ι1 .refl R1 (.bl false)
      | _ => exact h1.elim
    | o n => exact h1.elim⟩
theorem ev_or (ha : PEv ec X a da) (hb : PEv ec X (.BoolOp .Or (b :: rest) pos) db) : PEv ec X (.BoolOp .Or (a :: b :: rest) pos) (dOrV da db) :=
  ⟨fun pn xe Wx tk => (pe_or (ha.run pn xe Wx tk) (hb.run pn xe Wx tk)).imp fun σ H Q ⟨env, S, ι, B, R, E, h⟩ => LE.then_ R E h fun u S1 v H1 ι1 G1 R1 E1 ru h1 => by
    cases u with
    | v w =>
      cases w with
      | bl k =>
        refine ⟨k, Rp.bl_inv ru, ?_⟩
        cases k with
        | true => exact h1 _ H1 ι1 .refl R1 (.bl true)
        | false => exact ⟨env, S1, ι1, B, R1, E1, h1⟩
      | _ => exact h1.elim
    | o n => exact h1.elim⟩
theorem ev_not (ha : PEv ec X a da) : PEv ec X (.UnaryOp .Not a pos) (dNotV da) :=
  ⟨fun pn xe Wx tk => (pe_not (ha.run pn xe Wx tk)).imp fun σ H Q ⟨env, S, ι, B, R, E, h⟩ => LE.then_ R E h fun u S1 v H1 ι1 G1 R1 E1 ru h1 => by
    cases u with
    | v w =>
      cases w with
      | bl k => exact ⟨k, Rp.bl_inv ru, h1 _ H1 ι1 .refl R1 (.bl _)⟩
      | _ => exact h1.elim
    | o n => exact h1.elim⟩
def dIf (c : DT) (a b : DE) : DE := fun e S => (c e S).bind fun k S1 => if k = true then a e S1 else b e S1
theorem ev_if (hc : PTv ec X c tc) (ha : PEv ec X a da) (hb : PEv ec X b db) : PEv ec X (.IfExp c a b pos) (dIf tc da db) :=
  ⟨fun pn xe Wx tk => (pe_ifExp (hc.run pn xe Wx tk) (ha.run pn xe Wx tk) (hb.run pn xe Wx tk)).imp fun σ H Q ⟨env, S, ι, B, R, E, h⟩ => LT.then_ R E h fun k S1 H1 ι1 G1 R1 E1 h1 => by
    cases k with
    | true => exact ⟨env, S1, ι1, B, R1, E1, h1⟩
    | false => exact ⟨env, S1, ι1, B, R1, E1, h1⟩⟩
/-- -a -/
def dNeg (a : DE) : DE := fun e S => (a e S).bind fun u S1 => match u with
  | .v (.int i) => .ok (.v (.int (-i))) S1
  | _ => .no
theorem ev_neg (ha : PEv ec X a da) : PEv ec X (.UnaryOp .USub a pos) (dNeg da) :=
  ⟨fun pn xe Wx tk => (pe_un un_neg (ha.run pn xe Wx tk)).imp fun σ H Q ⟨env, S, ι, B, R, E, h⟩ => LE.then_ R E h fun u S1 v H1 ι1 G1 R1 E1 ru h1 => by
    cases u with
    | v w =>
      cases w with
      | int k => exact ⟨k, Rp.int_inv ru, h1 _ H1 ι1 .refl R1 (.int _)⟩
      | _ => exact h1.elim
    | o n => exact h1.elim⟩

def dNil : DA := fun _ S => .ok [] S
def dCons (a : DE) (r : DA) : DA := fun e S => (a e S).bind fun u S1 => (r e S1).bind fun us S2 => .ok (u :: us) S2
theorem av_nil : PAv ec X [] dNil := ⟨fun pn xe Wx tk => pa_nil.imp fun σ H Q ⟨env, S, ι, B, R, E, h⟩ => h [] H ι .refl R .nil⟩
theorem av_cons (ha : PEv ec X e da) (hr : PAv ec X es das) (hs : starEach (e :: es) X.env = (false, eval e X.env) :: starEach es X.env := by rfl) : PAv ec X (e :: es) (dCons da das) :=
  ⟨fun pn xe Wx tk => (pa_cons (ha.run pn xe Wx tk) (hr.run pn xe Wx tk) hs).imp fun σ H Q ⟨env, S, ι, B, R, E, h⟩ => LE.thenA R E h fun u S1 v H1 ι1 G1 R1 E1 ru h1 => LA.thenA R1 E1 h1 fun us S2 vs H2 ι2 G2 R2 E2 rus h2 =>
    h2 _ H2 ι2 .refl R2 (.cons (RU.go G2 ru) rus)⟩
/-- plain values all -/
def allV : List U → Option (List W)
  | [] => some []
  | .v w :: r => (allV r).map (w :: ·)
  | .o _ :: _ => none
theorem allV_rp {F : Fx} {H : Hp} {ι : List Addr} {S : Store} {B : Addr → Prop} : ∀ {us : List U} {vs : List V} {ws : List W}, RUs F H ι S B us vs → allV us = some ws → RpL F H (Oq ι S B) ws vs
  | _, _, _, .nil, h => by cases some_inj h; exact .nil
  | .v w :: us, _, ws, .cons r t, h => by
    obtain ⟨ws', h', rfl⟩ := Option.map_eq_some_iff.mp h
    exact .cons r (allV_rp t h')
  | .o _ :: _, _, _, .cons _ _, h => by cases h
def fDisp (mk : List W → Out) (us : List U) : Option Out := match allV us with
  | some ws => if ws.length ≤ 16777216 then some (mk ws) else none
  | none => none
def dDisp (own : Bool) (mk : List W → Out) (a : DA) : DE := fun e S => (a e S).bind fun us S1 => putO own (fDisp mk us) S1
theorem fDisp_inv {F : Fx} {H : Hp} {ι : List Addr} {S : Store} {B : Addr → Prop} {mk : List W → Out} {us : List U} {vs : List V} {o : Out} (h : fDisp mk us = some o) (r : RUs F H ι S B us vs) : ∃ ws, o = mk ws ∧ RpL F H (Oq ι S B) ws vs ∧ vs.length ≤ sizeLine := by
  unfold fDisp at h
  cases e : allV us with
  | none => rw [e] at h; cases h
  | some ws =>
    rw [e] at h
    simp only at h
    split at h
    · rename_i hl
      cases some_inj h
      have q := allV_rp r e
      exact ⟨ws, rfl, q, by rw [← q.1, sizeLine_is]; exact hl⟩
    · cases h
theorem ev_tup {k} (h : PAv ec X es das) : PEv ec X (.Tuple es k pos) (dDisp false .nt das) :=
  ⟨fun pn xe Wx tk => (pe_tupX (h.run pn xe Wx tk)).imp fun σ H Q ⟨env, S, ι, B, R, E, h⟩ => LA.then_ R E h fun us S1 vs H1 ι1 G1 R1 E1 rus h1 => by
    obtain ⟨o, e, q⟩ := putO_ok R1 h1
    obtain ⟨ws, rfl, r, hl⟩ := fDisp_inv e rus
    exact ⟨hl, q.2 vs r⟩⟩
theorem ev_lst {own : Bool} (h : PAv ec X es das) : PEv ec X (.List es pos) (dDisp own .nl das) :=
  ⟨fun pn xe Wx tk => (pe_lst (h.run pn xe Wx tk)).imp fun σ H Q ⟨env, S, ι, B, R, E, h⟩ => LA.then_ R E h fun us S1 vs H1 ι1 G1 R1 E1 rus h1 => by
    obtain ⟨o, e, q⟩ := putO_ok R1 h1
    obtain ⟨ws, rfl, r, hl⟩ := fDisp_inv e rus
    exact ⟨hl, fun p hp => q p vs hp r⟩⟩
theorem ev_ix (hu : X.A.units + 65 < cLine) (ha : PEv ec X a da) (hb : PEv ec X b db) (hs : PlainIx b := by exact fun _ _ => rfl) : PEv ec X (.Subscript a b pos) (dBin false fIx da db) :=
  ⟨fun pn xe Wx tk => (pe_ix (ix_W (ec := ec) (X := X.tr pn xe) (by show X.A.units + 1 < cLine; omega)) (ha.run pn xe Wx tk) (hb.run pn xe Wx tk) hs).imp fun σ H Q h => bin_reads ow_ix h⟩
/-- a part of a slice -/
abbrev DO := Env' → Store → Re (Option Int)
def dNoPart : DO := fun _ S => .ok none S
def dPart (d : DE) : DO := fun e S => (d e S).bind fun u S1 => match u with
  | .v (.int i) => .ok (some i) S1
  | _ => .no
def PoO (F : Fx) (Wx : WX) (σ : L2.St) (ι : List Addr) (S : Store) (B : Addr → Prop) (H : Hp) (r : Re (Option Int)) (Q : Option Int → Hp → Prop) : Prop := match r with
  | .ok b S' => ∀ H' ι', Go ι S H ι' S' H' → RS F ι' S' B H' → Q b H'
  | .ex c S' => ∀ H' ι', Go ι S H ι' S' H' → RS F ι' S' B H' → Wx (F.ec c) none σ H'
  | .no => False
def LO (F : Fx) (Wx : WX) (d : DO) : TO := fun σ H Q => ∃ (env : Env') (S : Store) (ι : List Addr) (B : Addr → Prop), RS F ι S B H ∧ ER F H ι S B env σ ∧ PoO F Wx σ ι S B H (d env S) Q
theorem _root_.L2.PO.imp {e : Option Expr} {t t' : TO} (h : PO X e t) (hh : ∀ σ H Q, t' σ H Q → t σ H Q) : PO X e t' := ⟨fun pins s σ H Q I q => h.run pins s σ H Q I (hh σ H Q q)⟩
structure POv (ec : Ec) (X : Cx) (e : Option Expr) (d : DO) : Prop where
  run : ∀ (pn : List (Addr × Obj)) (xe : Value → Shared → Prop) (Wx : WX), Takes (X.tr pn xe) Wx → PO (X.tr pn xe) e (LO (fx ec X) Wx d)
theorem ov_none : POv ec X none dNoPart := ⟨fun pn xe Wx tk => po_none.imp fun σ H Q ⟨env, S, ι, B, R, E, h⟩ => h H ι .refl R⟩
theorem ov_some (h : PEv ec X e da) : POv ec X (some e) (dPart da) :=
  ⟨fun pn xe Wx tk => (po_some (h.run pn xe Wx tk)).imp fun σ H Q ⟨env, S, ι, B, R, E, h⟩ => by
    refine ⟨env, S, ι, B, R, E, ?_⟩
    unfold dPart at h
    cases ee : da env S with
    | ok u S1 =>
      rw [ee] at h
      intro v H1 ι1 G1 R1 r1
      cases u with
      | v w =>
        cases w with
        | int i => exact ⟨i, Rp.int_inv r1, h H1 ι1 G1 R1⟩
        | _ => exact h.elim
      | o n => exact h.elim
    | ex c S1 => rw [ee] at h; exact h
    | no => rw [ee] at h; exact h⟩
def dSl (own : Bool) (a : DE) (lo hi : DO) : DE := fun e S => (a e S).bind fun u S1 => (lo e S1).bind fun l S2 => (hi e S2).bind fun h S3 => match dr S3 u with
  | some w => putO own (fSl w l h) S3
  | none => .no
theorem LO.then_ {F : Fx} {Wx : WX} {σ : L2.St} {H : Hp} {ι : List Addr} {S : Store} {B : Addr → Prop} {env : Env'} {Q : VK} (R : RS F ι S B H) (E : ER F H ι S B env σ) {a : DO} {g : Option Int → Store → Re U} (h : PoE F Wx σ ι S B H ((a env S).bind g) Q)
    {Q1 : Option Int → Hp → Prop} (k : ∀ u S1 H1 ι1, Go ι S H ι1 S1 H1 → RS F ι1 S1 B H1 → ER F H1 ι1 S1 B env σ → PoE F Wx σ ι1 S1 B H1 (g u S1) Q → Q1 u H1) : LO F Wx a σ H Q1 := by
  refine ⟨env, S, ι, B, R, E, ?_⟩
  cases e : a env S with
  | ok u S1 =>
    rw [e] at h
    exact fun H1 ι1 G R1 => k u S1 H1 ι1 G R1 (E.go G) (h.go G)
  | ex c S1 => rw [e] at h; exact h
  | no => rw [e] at h; exact h
theorem ev_sl {own : Bool} {lo hi : Option Expr} {dl dh : DO} {p2 : Pos} (ha : PEv ec X a da) (hl : POv ec X lo dl) (hh : POv ec X hi dh) : PEv ec X (.Subscript a (.Slice lo hi none p2) pos) (dSl own da dl dh) :=
  ⟨fun pn xe Wx tk => (pe_slice sl_W (ha.run pn xe Wx tk) (hl.run pn xe Wx tk) (hh.run pn xe Wx tk)).imp fun σ H Q ⟨env, S, ι, B, R, E, h⟩ => LE.then_ R E h fun u S1 x H1 ι1 G1 R1 E1 ru h1 =>
    LO.then_ R1 E1 h1 fun l S2 H2 ι2 G2 R2 E2 h2 => LO.then_ R2 E2 h2 fun u' S3 H3 ι3 G3 R3 E3 h3 => by
      have ru3 := RU.go G3 (RU.go G2 ru)
      cases ee : dr S3 u with
      | none => simp only [ee] at h3; exact h3.elim
      | some w =>
        simp only [ee] at h3
        obtain ⟨o, he, q⟩ := putO_ok R3 h3
        exact sl_core (RU.rt R3 ru3 ee) he q⟩

def drs (S : Store) : List U → Option (List W)
  | [] => some []
  | u :: r => match dr S u, drs S r with
    | some w, some ws => some (w :: ws)
    | _, _ => none
abbrev RTs (F : Fx) (H : Hp) (O : Addr → Prop) : List W → List V → Prop := Paired (RT F H O)
theorem drs_rt {F : Fx} {H : Hp} {ι : List Addr} {S : Store} {B : Addr → Prop} (R : RS F ι S B H) : ∀ {us : List U} {vs : List V} {ws : List W}, RUs F H ι S B us vs → drs S us = some ws → RTs F H (Oq ι S B) ws vs
  | _, _, _, .nil, h => by cases some_inj h; exact .nil
  | u :: us, _, ws, .cons r t, h => by
    unfold drs at h
    cases e : dr S u with
    | none => simp [e] at h
    | some w =>
      cases e2 : drs S us with
      | none => simp [e, e2] at h
      | some ws' =>
        simp [e, e2] at h
        subst h
        exact .cons (RU.rt R r e) (drs_rt R t e2)
def OpC (F : Fx) (f : List W → Option Out) (r : List V → Hp → VK → Prop) : Prop := ∀ (H : Hp) (O : Addr → Prop) (xs : List V) (ws : List W) (o : Out) (Q : VK), RTs F H O ws xs → f ws = some o → PuQ F H O o Q → r xs H Q
def dCall (own : Bool) (f : List W → Option Out) (a : DA) : DE := fun e S => (a e S).bind fun us S1 => match drs S1 us with
  | some ws => putO own (f ws) S1
  | none => .no
theorem call_reads {own : Bool} {F : Fx} {Wx : WX} {σ : L2.St} {H : Hp} {f : List W → Option Out} {r : List V → Hp → VK → Prop} {Q : VK} (hf : OpC F f r) (h : LE F Wx (dCall own f das) σ H Q) : tCB r (LA F Wx das) σ H Q := by
  obtain ⟨env, S, ι, B, R, E, h⟩ := h
  refine LA.then_ R E h fun us S1 xs H1 ι1 G1 R1 E1 ru h1 => ?_
  cases e1 : drs S1 us with
  | none => simp only [e1] at h1; exact h1.elim
  | some ws =>
    simp only [e1] at h1
    obtain ⟨o, he, q⟩ := putO_ok R1 h1
    exact hf H1 _ xs ws o Q (drs_rt R1 ru e1) he q
theorem ev_callB {own : Bool} {id : String} {x : Str} {f : List W → Option Out} {r : List V → Hp → VK → Prop} {p : Pos} (hc : ∀ pn xe, CallR (X.tr pn xe) (.builtin id) r) (hf : OpC (fx ec X) f r) (hg : Gl X x) (hm : X.mg x = none) (hv : bootBuiltins x = some (.builtin id)) (ha : PAv ec X (e :: es) das)
    (hn : x ≠ "__name__" := by decide) (hdb : (x == ("__debug__" : Str)) = false := by decide) (he : starEach (e :: es) X.env = (false, eval e X.env) :: starEach es X.env := by rfl) (hpl : (backTo pos (starEach es X.env)).any (·.1) = false := by rfl) : PEv ec X (.Call (.Name x p) (e :: es) [] pos) (dCall own f das) :=
  ⟨fun pn xe Wx tk => (pe_callB (X := X.tr pn xe) (hc pn xe) hg hm hv (ha.run pn xe Wx tk) hn hdb he hpl).imp fun σ H Q h => call_reads hf h⟩
theorem ev_callTy {own : Bool} {T : String} {x : Str} {f : List W → Option Out} {r : List V → Hp → VK → Prop} {p : Pos} (hc : ∀ pn xe, CallR (X.tr pn xe) (.type T) r) (hf : OpC (fx ec X) f r) (hg : Gl X x) (hm : X.mg x = none) (hv : bootBuiltins x = some (.type T)) (ha : PAv ec X (e :: es) das)
    (hn : x ≠ "__name__" := by decide) (hdb : (x == ("__debug__" : Str)) = false := by decide) (he : starEach (e :: es) X.env = (false, eval e X.env) :: starEach es X.env := by rfl) (hpl : (backTo pos (starEach es X.env)).any (·.1) = false := by rfl) : PEv ec X (.Call (.Name x p) (e :: es) [] pos) (dCall own f das) :=
  ⟨fun pn xe Wx tk => (pe_callTy (X := X.tr pn xe) (hc pn xe) hg hm hv (ha.run pn xe Wx tk) hn hdb he hpl).imp fun σ H Q h => call_reads hf h⟩
end
end Bel

namespace Bel
open PySem PySem.Spec PyProof.Rows L2

def tyn : W → String
  | .non => "NoneType"
  | .bl _ => "bool"
  | .int _ => "int"
  | .str _ => "str"
  | .tup _ => "tuple"
  | .lst _ => "list"
  | .dct _ => "dict"
  | .exc _ => ""
  | .tdc _ => "dict"
  | .kdc _ => "dict"
def isStr : W → Bool
  | .str _ => true
  | _ => false
def isInt : W → Bool
  | .int _ => true
  | .bl _ => true
  | _ => false
def isBl : W → Bool
  | .bl _ => true
  | _ => false
def isTup : W → Bool
  | .tup _ => true
  | _ => false
def isLst : W → Bool
  | .lst _ => true
  | _ => false
def isExc : W → Bool
  | .exc _ => true
  | .tdc _ => true
  | _ => false
/-- an error -/
def isBad : W → Bool
  | .exc _ => true
  | _ => false
theorem isBad_of {w : W} (h : isExc w = false) : isBad w = false := by cases w <;> first | rfl | cases h
/-- p is what isinstance(.., T) tells -/
def IsT (T : String) (p : W → Bool) : Prop := ∀ w, isBad w = false → kitB (tyn w) T = some (p w)
theorem ist_str : IsT "str" isStr := by
  intro w h
  cases w <;> first | (simp only [tyn, isStr]; decide +kernel) | (simp [isBad] at h; done)
theorem ist_int : IsT "int" isInt := by
  intro w h
  cases w <;> first | (simp only [tyn, isInt]; decide +kernel) | (simp [isBad] at h; done)
theorem ist_bool : IsT "bool" isBl := by
  intro w h
  cases w <;> first | (simp only [tyn, isBl]; decide +kernel) | (simp [isBad] at h; done)
theorem ist_tuple : IsT "tuple" isTup := by
  intro w h
  cases w <;> first | (simp only [tyn, isTup]; decide +kernel) | (simp [isBad] at h; done)
theorem ist_list : IsT "list" isLst := by
  intro w h
  cases w <;> first | (simp only [tyn, isLst]; decide +kernel) | (simp [isBad] at h; done)
section
variable {F : Fx} {H : Hp} {O : Addr → Prop}
theorem rt_tyx {w : W} {v : V} (h : isExc w = false) (r : RT F H O w v) : TyX F.K H v (.type (tyn w)) := by
  cases w with
  | non => rw [Rp.non_inv r]; exact .base .non
  | bl b => rw [Rp.bl_inv r]; exact .base (.bl _)
  | int b => rw [Rp.int_inv r]; exact .base (.int _)
  | str b => rw [(Rp.str_inv r).1]; exact .base (.str _)
  | tup b =>
    obtain ⟨a, vs, rfl, h1, _⟩ := Rp.tup_inv r
    rcases h1 with ⟨⟨o, h1, _⟩, _⟩ | ⟨o, its, n, h1, h2, _⟩
    · exact .fTuple h1
    · exact .kTuple h1 h2
  | lst b =>
    obtain ⟨a, vs, rfl, h1 | ⟨o, h1⟩, _⟩ := r
    · exact .base (.lst h1)
    · exact .base (.frz h1)
  | dct b =>
    obtain ⟨a, vs, rfl, h1 | ⟨o, h1⟩, _⟩ := r
    · exact .base (.dK h1)
    · exact .fDict h1
  | exc b => simp [isExc] at h
  | tdc b => simp [isExc] at h
  | kdc b =>
    have r' : Rp F H O (.kdc b) v := r
    cases r' with
    | kdc h1 _ _ _ =>
      obtain ⟨⟨es, n, h1, _⟩, _⟩ := h1
      exact .kDict h1 rfl
end
/-- isinstance(x, c): a dict of tuples too -/
theorem call_isiW {X : Cx} : CallR X (.builtin "isinstance") (fun xs H Q => ∃ (x c : V) (t u : Value) (b : Bool), xs = [x, c] ∧ ClsV c u ∧ (TyX X.K H x t ∨ ∃ a ys, x = .ref a ∧ TdI X.w H a ys ∧ t = .type "dict") ∧ PySem.W.kitOne X.K t u = some b ∧ Q (.bl b) H) := by
  intro pins s σ H xs us Q I r h
  obtain ⟨x, c, t, u, b, rfl, k, ty, e, q⟩ := h
  rcases ty with ty | ⟨a, ys, rfl, ha, rfl⟩
  · exact call_isi pins s σ H [x, c] us Q I r ⟨x, c, t, u, b, rfl, k, ty, e, q⟩
  · obtain ⟨u1, u2, rfl, r1, r2⟩ := vals2 r
    have e2 := k.eq r2
    subst e2
    cases r1
    obtain ⟨oo, ha⟩ := ha
    obtain ⟨⟨es, ep, h1, h2, _⟩, _⟩ := (show ObjOk X.prog X.w H s.heap a (TdO X.w a oo ys) from I.hok a _ ha)
    exact PySem.W.kia_one PySem.W.kitx_dict I.kIn ⟨_, h1, h2.1⟩ e (fun z => nomatch z) fun tk => ⟨.bl b, H, I.tok tk, rfl, q⟩
theorem call_isiTW {X : Cx} : CallR X (.builtin "isinstance") (fun xs H Q => ∃ (x : V) (tp : Addr) (cs : List V) (t : Value) (us : List Value) (b : Bool), xs = [x, .ref tp] ∧ H tp = some (.tup cs) ∧ Paired ClsV cs us ∧ (TyX X.K H x t ∨ ∃ a ys, x = .ref a ∧ TdI X.w H a ys ∧ t = .type "dict") ∧ PySem.W.kitAny X.K t us = some b ∧ Q (.bl b) H) := by
  intro pins s σ H xs us Q I r h
  obtain ⟨x, tp, cs, t, ws, b, rfl, hT, k, ty, e, q⟩ := h
  rcases ty with ty | ⟨a, ys, rfl, ha, rfl⟩
  · exact call_isiT pins s σ H [x, .ref tp] us Q I r ⟨x, tp, cs, t, ws, b, rfl, hT, k, ty, e, q⟩
  · obtain ⟨u1, u2, rfl, r1, r2⟩ := vals2 r
    cases r1
    cases (show u2 = Value.ref tp from r2)
    obtain ⟨oo, ha⟩ := ha
    obtain ⟨⟨es, ep, g1, g2, _⟩, _⟩ := (show ObjOk X.prog X.w H s.heap a (TdO X.w a oo ys) from I.hok a _ ha)
    obtain ⟨_, its, rv, o, h1, h2, n, h3⟩ := (show ObjOk X.prog X.w H s.heap tp (.tup cs) from I.hok tp _ hT)
    have e3 := ClsV.all k rv
    subst e3
    obtain ⟨oc, od, dt, sl⟩ := o
    simp only at h2 h3
    subst h2 h3
    exact PySem.W.kia_tup PySem.W.kitx_dict I.kIn ⟨_, g1, g2.1⟩ h1 e (fun z => nomatch z) fun tk => ⟨.bl b, H, I.tok tk, rfl, q⟩
theorem rt_tyw {F : Fx} {H : Hp} {O : Addr → Prop} {w : W} {v : V} (h : isBad w = false) (r : RT F H O w v) : TyX F.K H v (.type (tyn w)) ∨ ∃ a ys, v = .ref a ∧ TdI F.w H a ys ∧ Value.type (tyn w) = .type "dict" := by
  cases hx : isExc w with
  | false => exact .inl (rt_tyx hx r)
  | true =>
    cases w with
    | exc c => cases h
    | tdc l =>
      have r' : Rp F H O (.tdc l) v := r
      cases r' with
      | tdc h1 => exact .inr ⟨_, _, rfl, ⟨_, h1⟩, rfl⟩
    | _ => cases hx
section
variable {ec : Ec} {X : Cx} {e a b c o : Expr} {es rest : List Expr} {pos p p2 apos cpos : Pos} {da db dc dd : DE} {das : DA}
/-- isinstance(e, T) -/
def dIsT (q : W → Bool) (a : DE) : DE := fun e S => (a e S).bind fun u S1 => match dr S1 u with
  | some w => if isBad w = true then .no else .ok (.v (.bl (q w))) S1
  | none => .no
theorem ev_isT {T : String} {t : Str} {q : W → Bool} (hq : IsT T q) (ha : PEv ec X a da) (hg : Gl X "isinstance") (hm : X.mg "isinstance" = none) (hgT : Gl X t) (hmT : X.mg t = none) (hvT : bootBuiltins t = some (.type T))
    (hn : t ≠ "__name__" := by decide) (hdb : (t == ("__debug__" : Str)) = false := by decide)
    (h1 : starEach [a, .Name t p2] X.env = (false, eval a X.env) :: starEach [.Name t p2] X.env := by rfl) (h2 : starEach [.Name t p2] X.env = (false, eval (.Name t p2) X.env) :: starEach [] X.env := by rfl)
    (hpl : (backTo pos (starEach [.Name t p2] X.env)).any (·.1) = false := by rfl) : PEv ec X (.Call (.Name "isinstance" p) [a, .Name t p2] [] pos) (dIsT q da) :=
  ⟨fun pn xe Wx tk => (pe_callB (X := X.tr pn xe) call_isiW hg hm boot_isinstance (pa_cons (ha.run pn xe Wx tk) (pa_cons (pe_bltn (X := X.tr pn xe) (v := .ty T) hgT hmT hvT rfl hn hdb) pa_nil h2) h1) (by decide) (by decide) h1 hpl).imp
    fun σ H Q ⟨env, S, ι, B, R, E, h⟩ => LE.then_ R E h fun u S1 v H1 ι1 G1 R1 E1 ru h1 => by
      show ∃ (x c : V) (t u : Value) (b : Bool), [v, V.ty T] = [x, c] ∧ ClsV c u ∧ (TyX _ H1 x t ∨ ∃ a ys, x = .ref a ∧ TdI _ H1 a ys ∧ t = .type "dict") ∧ PySem.W.kitOne _ t u = some b ∧ Q (.bl b) H1
      cases e1 : dr S1 u with
      | none => simp only [e1] at h1; exact h1.elim
      | some w =>
        simp only [e1] at h1
        split at h1
        · exact h1.elim
        · rename_i hx
          have hx' : isBad w = false := by simpa using hx
          exact ⟨v, .ty T, _, _, _, rfl, .ty T, rt_tyw (F := fx ec X) hx' (RU.rt R1 ru e1), kit_ty (hq w hx'), h1 _ H1 ι1 .refl R1 (.bl _)⟩⟩

def fAbs : List W → Option Out
  | [.int i] => some (.val (.int (if i < 0 then -i else i)))
  | _ => none
def fLen : List W → Option Out
  | [.str x] => some (.val (.int x.length))
  | [.lst l] => some (.val (.int l.length))
  | [.tup l] => some (.val (.int l.length))
  | [.dct l] => some (.val (.int l.length))
  | _ => none
def fMin2 : List W → Option Out
  | [.int i, .int j] => some (.val (.int (if j < i then j else i)))
  | _ => none
def bools : List W → Option (List Bool)
  | [] => some []
  | .bl b :: r => (bools r).map (b :: ·)
  | _ :: _ => none
def fAll : List W → Option Out
  | [.lst l] => (bools l).map fun bs => .val (.bl (bs.all id))
  | _ => none
def b2n (b : Bool) : Int := if b = true then 1 else 0
def fList : List W → Option Out
  | [.lst l] => some (.nl l)
  | [.tup l] => some (.nl l)
  | [.dct l] => some (.nl (l.map (·.1)))
  | _ => none
def fTuple : List W → Option Out
  | [.lst l] => some (.nt l)
  | [.tup l] => some (.nt l)
  | _ => none
section
variable {F : Fx} {H : Hp} {O : Addr → Prop}
theorem oc1 {f : List W → Option Out} {r : List V → Hp → VK → Prop} (h1 : ∀ ws o, f ws = some o → ∃ w, ws = [w]) (h2 : ∀ (H : Hp) (O : Addr → Prop) (x : V) (w : W) (o : Out) (Q : VK), RT F H O w x → f [w] = some o → PuQ F H O o Q → r [x] H Q) : OpC F f r := by
  intro H O xs ws o Q rs e q
  obtain ⟨w, rfl⟩ := h1 ws o e
  cases rs with
  | cons r1 r2 =>
    cases r2
    exact h2 H O _ w o Q r1 e q
theorem oc_abs : OpC F fAbs (fun xs H Q => ∃ i, xs = [.int i] ∧ Q (.int (if i < 0 then -i else i)) H) := by
  refine oc1 (fun ws o e => ?_) fun H O x w o Q r e q => ?_
  · unfold fAbs at e
    split at e
    · exact ⟨_, rfl⟩
    · cases e
  · cases w with
    | int i =>
      cases some_inj e
      obtain rfl := Rp.int_inv r
      exact ⟨i, rfl, q _ (.int _)⟩
    | _ => cases e
def rLenW (K : PySem.W.Frag) : List V → Hp → VK → Prop := fun xs H Q => (∃ x n, xs = [x] ∧ LenV K x H n ∧ Q (.int n) H) ∨ ∃ a kvs, xs = [V.ref a] ∧ Rd H a (.dK kvs) ∧ Q (.int kvs.length) H
theorem call_lenR {X : Cx} : CallR X (.builtin "len") (fun xs H Q => ∃ a kvs, xs = [V.ref a] ∧ Rd H a (.dK kvs) ∧ Q (.int kvs.length) H) := by
  intro pins s σ H xs us Q I r h
  obtain ⟨a, kvs, rfl, hd, q⟩ := h
  obtain ⟨u, rfl, rx⟩ := vals1 r
  cases rx
  exact d_len I hd fun t s' I' => ⟨.int _, H, I', ⟨t, rfl⟩, q⟩
theorem call_lenW {X : Cx} : CallR X (.builtin "len") (rLenW X.K) := call_len.or call_lenR
theorem oc_len : OpC F fLen (rLenW F.K) := by
  refine oc1 (fun ws o e => ?_) fun H O x w o Q r e q => ?_
  · unfold fLen at e
    split at e <;> first | exact ⟨_, rfl⟩ | cases e
  · cases w with
    | str l =>
      cases some_inj e
      obtain ⟨rfl, h1, h2⟩ := Rp.str_inv r
      refine .inl ⟨_, l.length, rfl, ⟨by rw [str_len]; exact h1, by rw [str_len]⟩, q _ (.int _)⟩
    | lst l =>
      cases some_inj e
      obtain ⟨a, vs, rfl, h1, q1⟩ := r
      exact .inl ⟨_, l.length, rfl, .inl ⟨vs, .inl h1, q1.1⟩, q _ (.int _)⟩
    | tup l =>
      cases some_inj e
      obtain ⟨a, vs, rfl, h1, q1⟩ := Rp.tup_inv r
      exact .inl ⟨_, l.length, rfl, .inr ⟨vs, h1.sq, q1.1⟩, q _ (.int _)⟩
    | dct l =>
      cases some_inj e
      obtain ⟨a, kvs, rfl, h1, q1⟩ := r
      exact .inr ⟨a, kvs, rfl, h1, by rw [← q1.1]; exact q _ (.int _)⟩
    | _ => cases e
theorem oc_min2 : OpC F fMin2 (fun xs H Q => ∃ i j, xs = [.int i, .int j] ∧ Q (.int (if j < i then j else i)) H) := by
  intro H O xs ws o Q rs e q
  unfold fMin2 at e
  split at e
  · cases some_inj e
    cases rs with
    | cons r1 r2 =>
      cases r2 with
      | cons r2 r3 =>
        cases r3
        obtain rfl := Rp.int_inv r1
        obtain rfl := Rp.int_inv r2
        exact ⟨_, _, rfl, q _ (.int _)⟩
  · cases e
theorem bools_rp : ∀ {ws : List W} {vs : List V} {bs : List Bool}, RpL F H O ws vs → bools ws = some bs → vs = bs.map V.bl
  | [], vs, bs, r, h => by rw [r.nil_iff]; cases some_inj h; rfl
  | w :: ws, vs, bs, r, h => by
    obtain ⟨v, vs', rfl, h1, r'⟩ := r.cons_iff
    cases w with
    | bl b =>
      obtain ⟨bs', h', rfl⟩ := Option.map_eq_some_iff.mp h
      rw [Rp.bl_inv h1, bools_rp r' h']
      rfl
    | _ => cases h
theorem oc_all : OpC F fAll (rAll F.K) := by
  refine oc1 (fun ws o e => ?_) fun H O x w o Q r e q => ?_
  · unfold fAll at e
    split at e <;> first | exact ⟨_, rfl⟩ | cases e
  · cases w with
    | lst l =>
      obtain ⟨bs, h', rfl⟩ := Option.map_eq_some_iff.mp e
      obtain ⟨a, vs, rfl, h1, q1⟩ := r
      have := bools_rp q1 h'
      subst this
      exact ⟨a, bs, rfl, .inl h1, q _ (.bl _)⟩
    | _ => cases e
theorem keys_rp {ws : List (W × W)} {kvs : List (Key × V)} (r : RpD F H O ws kvs) : RpL F H O (ws.map (·.1)) (kvs.map fun kv => kV kv.1) := by
  induction ws generalizing kvs with
  | nil => rw [r.nil_iff]; exact .nil
  | cons p ws ih =>
    obtain ⟨κ', v, kvs', rfl, h1, h2, r'⟩ := r.cons_iff
    exact .cons h1 (ih r')
def rListW (K : PySem.W.Frag) : List V → Hp → VK → Prop := fun xs H Q => (∃ p ys, xs = [.ref p] ∧ (SqL K H p ys ∨ SqT K H p ys) ∧ ∀ l, H l = none → Q (.ref l) (upd H l (.lst ys))) ∨
  ∃ (a : Addr) (kvs : List (Key × V)), xs = [.ref a] ∧ Rd H a (.dK kvs) ∧ ∀ p, H p = none → Q (.ref p) (upd H p (.lst (kvs.map fun kv => kV kv.1)))
theorem call_listW {X : Cx} (hc : X.calm = true) : CallR X (.type "list") (rListW X.K) := call_list_of.or (call_listD hc)
theorem oc_list : OpC F fList (rListW F.K) := by
  refine oc1 (fun ws o e => ?_) fun H O x w o Q r e q => ?_
  · unfold fList at e
    split at e <;> first | exact ⟨_, rfl⟩ | cases e
  · cases w with
    | lst l =>
      cases some_inj e
      obtain ⟨a, vs, rfl, h1, q1⟩ := r
      exact .inl ⟨a, vs, rfl, .inl (.inl h1), fun p hp => q p vs hp q1⟩
    | tup l =>
      cases some_inj e
      obtain ⟨a, vs, rfl, h1, q1⟩ := Rp.tup_inv r
      exact .inl ⟨a, vs, rfl, .inr h1.sq, fun p hp => q p vs hp q1⟩
    | dct l =>
      cases some_inj e
      obtain ⟨a, kvs, rfl, h1, q1⟩ := r
      exact .inr ⟨a, kvs, rfl, h1, fun p hp => q p _ hp (keys_rp q1)⟩
    | _ => cases e
theorem oc_tuple : OpC F fTuple (rTupX F.K) := by
  refine oc1 (fun ws o e => ?_) fun H O x w o Q r e q => ?_
  · unfold fTuple at e
    split at e <;> first | exact ⟨_, rfl⟩ | cases e
  · cases w with
    | lst l =>
      cases some_inj e
      obtain ⟨a, vs, rfl, h1, q1⟩ := r
      exact ⟨a, vs, rfl, .inl ⟨.inl h1, q.2 vs q1⟩⟩
    | tup l =>
      cases some_inj e
      obtain ⟨a, vs, rfl, h1, q1⟩ := Rp.tup_inv r
      exact ⟨a, vs, rfl, .inr ⟨h1.sq, q.1 _ r⟩⟩
    | _ => cases e
end

section
variable {F : Fx} {H : Hp} {O : Addr → Prop}
abbrev mkS (x : List Nat) : Str := ⟨x.toArray⟩
end
end
end Bel

namespace Bel
open PySem PySem.Spec PyProof.Rows L2
def Rs.bind (r : Rs) (f : Env' → Store → Rs) : Rs := match r with
  | .ok (.nx e) S => f e S
  | r => r
/-- an expression's answer, in a statement -/
def Re.st {α : Type} (r : Re α) (e : Env') (f : α → Store → Rs) : Rs := match r with
  | .ok a S => f a S
  | .ex c S => .ex c e S
  | .no => .no
@[simp] theorem Rs.bind_nx (e : Env') (S : Store) (f : Env' → Store → Rs) : (Rs.ok (.nx e) S).bind f = f e S := rfl
@[simp] theorem Rs.bind_rt (u : U) (S : Store) (f : Env' → Store → Rs) : (Rs.ok (.rt u) S).bind f = .ok (.rt u) S := rfl
@[simp] theorem Rs.bind_bk (e : Env') (S : Store) (f : Env' → Store → Rs) : (Rs.ok (.bk e) S).bind f = .ok (.bk e) S := rfl
@[simp] theorem Rs.bind_ct (e : Env') (S : Store) (f : Env' → Store → Rs) : (Rs.ok (.ct e) S).bind f = .ok (.ct e) S := rfl
@[simp] theorem Rs.bind_ex (c : Nat) (e : Env') (S : Store) (f : Env' → Store → Rs) : (Rs.ex c e S).bind f = .ex c e S := rfl
@[simp] theorem Rs.bind_no (f : Env' → Store → Rs) : Rs.no.bind f = .no := rfl
@[simp] theorem Re.st_ok {α : Type} (a : α) (S : Store) (e : Env') (f : α → Store → Rs) : (Re.ok a S).st e f = f a S := rfl
@[simp] theorem Re.st_ex {α : Type} (c : Nat) (S : Store) (e : Env') (f : α → Store → Rs) : (Re.ex c S : Re α).st e f = .ex c e S := rfl
@[simp] theorem Re.st_no {α : Type} (e : Env') (f : α → Store → Rs) : (Re.no : Re α).st e f = .no := rfl
section
variable {F : Fx} {Wx : WX} {σ : L2.St} {H H' H1 H2 : Hp} {ι ι' ι1 ι2 : List Addr} {S S' S1 S2 : Store} {B : Addr → Prop} {env : Env'} {D : Ends}
theorem LE.thenS (R : RS F ι S B H) (E : ER F H ι S B env σ) {a : DE} {g : U → Store → Rs} (h : PoS F Wx ι S B H ((a env S).st env g) D)
    {Q1 : VK} (k : ∀ u S1 v H1 ι1, Go ι S H ι1 S1 H1 → RS F ι1 S1 B H1 → ER F H1 ι1 S1 B env σ → RU F H1 ι1 S1 B u v → PoS F Wx ι1 S1 B H1 (g u S1) D → Q1 v H1) : LE F Wx a σ H Q1 := by
  refine ⟨env, S, ι, B, R, E, ?_⟩
  cases e : a env S with
  | ok u S1 =>
    rw [e] at h
    exact fun v H1 ι1 G R1 r => k u S1 v H1 ι1 G R1 (E.go G) r (h.go G)
  | ex c S1 =>
    rw [e] at h
    exact fun H1 ι1 G R1 => h σ H1 ι1 G R1 (E.go G)
  | no => rw [e] at h; exact h
theorem LT.thenS (R : RS F ι S B H) (E : ER F H ι S B env σ) {a : DT} {g : Bool → Store → Rs} (h : PoS F Wx ι S B H ((a env S).st env g) D)
    {Q1 : Bool → Hp → Prop} (k : ∀ u S1 H1 ι1, Go ι S H ι1 S1 H1 → RS F ι1 S1 B H1 → ER F H1 ι1 S1 B env σ → PoS F Wx ι1 S1 B H1 (g u S1) D → Q1 u H1) : LT F Wx a σ H Q1 := by
  refine ⟨env, S, ι, B, R, E, ?_⟩
  cases e : a env S with
  | ok u S1 =>
    rw [e] at h
    exact fun H1 ι1 G R1 => k u S1 H1 ι1 G R1 (E.go G) (h.go G)
  | ex c S1 =>
    rw [e] at h
    exact fun H1 ι1 G R1 => h σ H1 ι1 G R1 (E.go G)
  | no => rw [e] at h; exact h
end
section
variable {ec : Ec} {X : Cx} {e a b c o : Expr} {st : Stmt} {rest body : List Stmt} {pos pos' p p2 : Pos} {da db dc : DE} {tc : DT} {ds dt : DS}
def dNext : DS := fun e S => .ok (.nx e) S
def dSeq (a b : DS) : DS := fun e S => (a e S).bind b
theorem LS.seq {F : Fx} {Wx : WX} {σ : L2.St} {H : Hp} {D : Ends} (h : LS F Wx (dSeq ds dt) D σ H) : LS F Wx ds { D with nx := LS F Wx dt D } σ H := by
  obtain ⟨env, S, ι, B, R, E, h⟩ := h
  refine ⟨env, S, ι, B, R, E, ?_⟩
  unfold dSeq at h
  cases e : ds env S with
  | ok f S1 =>
    rw [e] at h
    cases f with
    | nx e1 => exact fun σ' H' ι' G R' E' => ⟨e1, S1, ι', B, R', E', h.go G⟩
    | rt u => exact h
    | bk e1 => exact h
    | ct e1 => exact h
  | ex c e1 S1 => rw [e] at h; exact h
  | no => rw [e] at h; exact h
theorem bv_nil : PSsv ec X [] dNext := ⟨fun pn xe Wx tk po => pss_nil.imp fun D σ H ⟨env, S, ι, B, R, E, h⟩ => h σ H ι .refl R E⟩
theorem bv_cons (h1 : PSv ec X st ds) (h2 : PSsv ec X rest dt) : PSsv ec X (st :: rest) (dSeq ds dt) :=
  ⟨fun pn xe Wx tk po => (pss_cons (h1.run pn xe Wx tk po) (h2.run pn xe Wx tk po)).imp fun D σ H h => LS.seq h⟩
theorem bv_one (h1 : PSv ec X st ds) : PSsv ec X [st] ds := ⟨fun pn xe Wx tk po => pss_one (h1.run pn xe Wx tk po)⟩
def frz (S : Store) (u : U) : Re U := match u with
  | .v w => .ok (.v w) S
  | .o n => match S[n]? with
    | some (.lst l) => .ok (.v (.lst l)) (S.set n .dead)
    | some (.dct l) => .ok (.v (.dct l)) (S.set n .dead)
    | some (.td l) => .ok (.v (.tdc l)) (S.set n .dead)
    | _ => .no
theorem ow_dead {ι : List Addr} {S : Store} {n : Nat} {a : Addr} (nd : ι.Nodup) (ha : ι[n]? = some a) (b : Addr) : Ow ι (S.set n .dead) b → Ow ι S b ∧ b ≠ a := by
  rintro ⟨m, o, h1, h2, h3⟩
  rw [List.getElem?_set] at h1
  split at h1
  · split at h1
    · cases h1; exact absurd rfl h2
    · cases h1
  · rename_i hne
    refine ⟨⟨m, o, h1, h2, h3⟩, ?_⟩
    rintro rfl
    obtain ⟨h4, h5⟩ := List.getElem?_eq_some_iff.mp ha
    obtain ⟨h6, h7⟩ := List.getElem?_eq_some_iff.mp h3
    exact hne ((List.getElem_inj nd).mp (h5.trans h7.symm))
section
variable {F : Fx} {Wx : WX} {σ : L2.St} {H : Hp} {ι : List Addr} {S : Store} {B : Addr → Prop}
/-- fewer owned: what stood stands -/
theorem Rp.less {O O' : Addr → Prop} (h : ∀ a, O' a → O a) {w : W} {v : V} (r : Rp F H O w v) : Rp F H O' w v := r.ext (fun _ _ h _ => h) fun a z => .inl (h a z)
theorem RpL.less {O O' : Addr → Prop} (h : ∀ a, O' a → O a) {w : List W} {v : List V} (r : RpL F H O w v) : RpL F H O' w v := r.ext (fun _ _ h _ => h) fun a z => .inl (h a z)
theorem RpD.less {O O' : Addr → Prop} (h : ∀ a, O' a → O a) {w : List (W × W)} {v : List (Key × V)} (r : RpD F H O w v) : RpD F H O' w v := r.ext (fun _ _ h _ => h) fun a z => .inl (h a z)
theorem ObR.less {O O' : Addr → Prop} (h : ∀ a, O' a → O a) {a : Addr} {o : Ob} (r : ObR F ι H O a o) : ObR F ι H O' a o := by
  cases o with
  | lst ws => obtain ⟨vs, e, r⟩ := r; exact ⟨vs, e, r.less h⟩
  | dct ws => obtain ⟨vs, e, r⟩ := r; exact ⟨vs, e, r.less h⟩
  | scr ws => obtain ⟨vs, y, e, d, r⟩ := r; exact ⟨vs, y, e, d, r.less h⟩
  | tbl x q => exact TblR.ext r (fun _ _ h _ => h) (fun a z => .inl (h a z)) fun _ e => e
  | td ws => exact TdVR.ext r (fun _ _ h _ => h) (fun a z => .inl (h a z)) fun _ e => e
  | ru k us => obtain ⟨f, vs, d, r⟩ := r; exact ⟨f, vs, d.ext (fun _ _ h _ => h) (fun a z => .inl (h a z)) (fun _ e => e), r.ext (fun _ _ h _ => h) (fun a z => .inl (h a z)) pre_rfl⟩
  | dead => exact r
theorem ObR.grow {O : Addr → Prop} (t : List Addr) {a : Addr} {o : Ob} (r : ObR F ι H O a o) : ObR F (ι ++ t) H O a o := by
  cases o with
  | ru k us => obtain ⟨f, vs, d, r⟩ := r; exact ⟨f, vs, d, r.ext (fun _ _ h _ => h) (fun a z => .inl z) ⟨t, rfl⟩⟩
  | _ => exact r
theorem RS.die (R : RS F ι S B H) {n : Nat} {a : Addr} (hn : n < S.length) (ha : ι[n]? = some a) : RS F ι (S.set n .dead) B H ∧ Go ι S H ι (S.set n .dead) H ∧ ¬ Oq ι (S.set n .dead) B a := by
  have sub : ∀ b, Oq ι (S.set n .dead) B b → Oq ι S B b := fun b z => z.imp (fun z => (ow_dead R.nd ha b z).1) id
  refine ⟨⟨by simp [R.len], R.nd, fun m o b h1 h2 => ?_, R.hid⟩, ⟨fun _ _ h _ => h, fun b z => .inl (ow_dead R.nd ha b z).1, [], by simp⟩, fun z => ?_⟩
  · rw [List.getElem?_set] at h1
    split at h1
    · rename_i hm
      subst hm
      first | rw [if_pos hn] at h1 | skip
      cases h1
      have : b ∈ ι := List.mem_of_getElem? h2
      exact R.there this
    · exact (R.ob m o b h1 h2).less sub
  · rcases z with z | z
    · exact (ow_dead R.nd ha a z).2 rfl
    · exact (R.hid a z).2 (List.mem_of_getElem? ha)
theorem frz_ok (R : RS F ι S B H) {u : U} {v : V} (ru : RU F H ι S B u v) {w : U} {S' : Store} (h : frz S u = .ok w S') : RS F ι S' B H ∧ Go ι S H ι S' H ∧ RU F H ι S' B w v := by
  cases u with
  | v x => cases h; exact ⟨R, .refl, ru⟩
  | o n =>
    obtain ⟨a, ha, rfl⟩ := ru
    unfold frz at h
    cases e : S[n]? with
    | none => simp [e] at h
    | some ob =>
      have hn : n < S.length := (List.getElem?_eq_some_iff.mp e).1
      obtain ⟨R', G, na⟩ := R.die hn ha
      have z := R.ob n ob a e ha
      cases ob with
      | lst l =>
        simp [e] at h
        obtain ⟨rfl, rfl⟩ := h
        obtain ⟨vs, q, r⟩ := z
        exact ⟨R', G, .mkLst ⟨q, na⟩ (r.go G)⟩
      | dct l =>
        simp [e] at h
        obtain ⟨rfl, rfl⟩ := h
        obtain ⟨vs, q, r⟩ := z
        exact ⟨R', G, .mkDct ⟨.inl q, na⟩ (r.go G)⟩
      | scr l => simp [e] at h
      | tbl x q => simp [e] at h
      | td l =>
        simp [e] at h
        obtain ⟨rfl, rfl⟩ := h
        obtain ⟨xs, vs, r⟩ := z
        obtain ⟨ob, h1⟩ := r.at_
        exact ⟨R', G, .tdc h1 na r.sm r.l1 r.l2 (fun i w x q1 q2 => ⟨(r.keys i w x q1 q2).1, (r.keys i w x q1 q2).2.ext G.extq G.ownq⟩) r.rel fun i w v q1 q2 => (r.vals i w v q1 q2).go G⟩
      | ru k us => simp [e] at h
      | dead => simp [e] at h
end
/-- name i's own object, given away -/
def dFrzV (i : Nat) : DS := fun e S => match e[i]? with
  | some (some u) => (frz S u).st e fun w S' => .ok (.nx (e.set i (some w))) S'
  | _ => .no
theorem ER.relook {F : Fx} {σ : L2.St} {H : Hp} {ι : List Addr} {S : Store} {B : Addr → Prop} {env : Env'} (E : ER F H ι S B env σ) {i : Nat} {u : U} {v : V} (h1 : σ[i]? = some (some v)) (r : RU F H ι S B u v) : ER F H ι S B (env.set i (some u)) σ := by
  have := E.set i r
  have e : σ.set i (some v) = σ := by
    apply List.ext_getElem?
    intro j
    rw [List.getElem?_set]
    split
    · rename_i hj
      subst hj
      rw [h1]
      split
      · rfl
      · rename_i hl; exact absurd (List.getElem?_eq_some_iff.mp h1).1 hl
    · rfl
  rwa [e] at this
theorem bv_frz (i : Nat) {sts : List Stmt} (h : PSsv ec X sts ds) : PSsv ec X sts (dSeq (dFrzV i) ds) :=
  ⟨fun pn xe Wx tk po => (h.run pn xe Wx tk po).imp fun D σ H ⟨env, S, ι, B, R, E, h⟩ => by
    unfold dSeq dFrzV at h
    cases e : env[i]? with
    | none => simp only [e] at h; exact h.elim
    | some x =>
      cases x with
      | none => simp only [e] at h; exact h.elim
      | some u =>
        simp only [e] at h
        obtain ⟨v, h1, ru⟩ := E.get i u e
        cases e2 : frz S u with
        | ok w S1 =>
          simp only [e2] at h
          obtain ⟨R1, G, r⟩ := frz_ok R ru e2
          exact ⟨_, S1, ι, B, R1, (E.go G).relook h1 r, h.go G⟩
        | ex c S1 => unfold frz at e2; split at e2 <;> first | cases e2 | (split at e2 <;> cases e2)
        | no => simp only [e2] at h; exact h.elim⟩

def dRet (d : DE) : DS := fun e S => (d e S).st e fun u S1 => .ok (.rt u) S1
theorem sv_ret (h : PEv ec X e da) : PSv ec X (.Return (some e) pos) (dRet da) :=
  ⟨fun pn xe Wx tk po => (ps_ret (h.run pn xe Wx tk)).imp fun D σ H ⟨env, S, ι, B, R, E, h⟩ => LE.thenS R E h fun u S1 v H1 ι1 G1 R1 E1 ru h1 => h1 v H1 ι1 .refl R1 ru⟩
def dAsg (i : Nat) (d : DE) : DS := fun e S => (d e S).st e fun u S1 => .ok (.nx (e.set i (some u))) S1
theorem asg_reads {F : Fx} {Wx : WX} {σ : L2.St} {H : Hp} {D : Ends} {i : Nat} (h : LS F Wx (dAsg i da) D σ H) : tAsg (LE F Wx da) (gName i) D σ H := by
  obtain ⟨env, S, ι, B, R, E, h⟩ := h
  exact LE.thenS R E h fun u S1 v H1 ι1 G1 R1 E1 ru h1 => h1 _ H1 ι1 .refl R1 (E1.set i ru)
theorem sv_set {i : Nat} {x : Str} (hN : X.N.Nodup) (hi : X.N[i]? = some x) (hx : Loc X.env.scope x) (he : PEv ec X e da) (hs : swapsWith e (some (.Name x pos')) pos.line X.env = pure false := by rfl)
    (hf : X.fn x = true ∨ X.env.scope.names.lookup x = some .local := by first | exact .inl rfl | exact .inr rfl) : PSv ec X (.Assign [.Name x pos'] e pos) (dAsg i da) :=
  ⟨fun pn xe Wx tk po => (ps_set (X := X.tr pn xe) hN hi hx (he.run pn xe Wx tk) hs hf).imp fun D σ H h => asg_reads h⟩
def dDrop (d : DE) : DS := fun e S => (d e S).st e fun _ S1 => .ok (.nx e) S1
theorem sv_expr (he : PEv ec X e da) (hs : swapsWith e none pos.line X.env = pure false := by rfl) : PSv ec X (.Expr e pos) (dDrop da) :=
  ⟨fun pn xe Wx tk po => (ps_expr (X := X.tr pn xe) (he.run pn xe Wx tk) hs).imp fun D σ H ⟨env, S, ι, B, R, E, h⟩ => LE.thenS R E h fun u S1 v H1 ι1 G1 R1 E1 ru h1 => h1 _ H1 ι1 .refl R1 E1⟩
def dIfS (c : DT) (a b : DS) : DS := fun e S => (c e S).st e fun k S1 => if k = true then a e S1 else b e S1
theorem sv_if {sa sb : List Stmt} (hc : PTv ec X c tc) (ha : PSsv ec X sa ds) (hb : PSsv ec X sb dt) : PSv ec X (.If c sa sb pos) (dIfS tc ds dt) :=
  ⟨fun pn xe Wx tk po => (ps_if (hc.run pn xe Wx tk) (ha.run pn xe Wx tk po) (hb.run pn xe Wx tk po)).imp fun D σ H ⟨env, S, ι, B, R, E, h⟩ => LT.thenS R E h fun k S1 H1 ι1 G1 R1 E1 h1 => by
    cases k with
    | true => exact ⟨env, S1, ι1, B, R1, E1, h1⟩
    | false => exact ⟨env, S1, ι1, B, R1, E1, h1⟩⟩

section
variable {F : Fx} {Wx : WX} {σ : L2.St} {H : Hp} {ι : List Addr} {S : Store} {B : Addr → Prop}
theorem ow_set {o o' : Ob} {n : Nat} (h : S[n]? = some o) (hd : o ≠ Ob.dead) (hd' : o' ≠ Ob.dead) (b : Addr) : Ow ι (S.set n o') b ↔ Ow ι S b := by
  have hn : n < S.length := (List.getElem?_eq_some_iff.mp h).1
  constructor
  · rintro ⟨m, q, h1, h2, h3⟩
    rw [List.getElem?_set] at h1
    split at h1
    · rename_i hm; subst hm; exact ⟨_, o, h, hd, h3⟩
    · exact ⟨m, q, h1, h2, h3⟩
  · rintro ⟨m, q, h1, h2, h3⟩
    by_cases hm : n = m
    · subst hm; exact ⟨n, o', by rw [List.getElem?_set_self hn], hd', h3⟩
    · exact ⟨m, q, by rw [List.getElem?_set_ne hm]; exact h1, h2, h3⟩
/-- an own object written -/
theorem RS.write (R : RS F ι S B H) {n : Nat} {o o' : Ob} {a : Addr} {ho : HO} (h : S[n]? = some o) (hd : o ≠ Ob.dead) (ha : ι[n]? = some a) (hob : NewOb F H (Oq ι S B) ho o') :
    RS F ι (S.set n o') B (upd H a ho) ∧ Go ι S H ι (S.set n o') (upd H a ho) := by
  have hd' : o' ≠ Ob.dead := by rintro rfl; exact hob
  have hn : n < S.length := (List.getElem?_eq_some_iff.mp h).1
  have oa : Ow ι S a := ⟨n, o, h, hd, ha⟩
  have G : Go ι S H ι (S.set n o') (upd H a ho) := ⟨fun x y hx nx => by rw [upd_ne (fun z => nx (by rw [z]; exact oa))]; exact hx, fun b z => .inl ((ow_set h hd hd' b).mp z), [], by simp⟩
  refine ⟨⟨by simp [R.len], R.nd, fun m q b h1 h2 => ?_, fun b hb => ?_⟩, G⟩
  · by_cases hm : n = m
    · subst hm
      rw [ha] at h2; cases h2
      rw [List.getElem?_set_self hn] at h1
      cases h1
      cases o' with
      | lst ws => obtain ⟨vs, rfl, r⟩ := hob; exact ⟨vs, upd_same, r.go G⟩
      | dct ws => obtain ⟨vs, rfl, r⟩ := hob; exact ⟨vs, upd_same, r.go G⟩
      | scr ws => exact hob.elim
      | tbl x q => exact hob.elim
      | td ws => exact hob.elim
      | ru k us => exact hob.elim
      | dead => exact absurd rfl hd'
    · rw [List.getElem?_set_ne hm] at h1
      have hne : b ≠ a := by
        rintro rfl
        obtain ⟨h4, h5⟩ := List.getElem?_eq_some_iff.mp ha
        obtain ⟨h6, h7⟩ := List.getElem?_eq_some_iff.mp h2
        exact hm ((List.getElem_inj R.nd).mp (h5.trans h7.symm))
      have z := R.ob m q b h1 h2
      cases q with
      | lst ws => obtain ⟨vs, e, r⟩ := z; exact ⟨vs, by rw [upd_ne hne]; exact e, r.go G⟩
      | dct ws => obtain ⟨vs, e, r⟩ := z; exact ⟨vs, by rw [upd_ne hne]; exact e, r.go G⟩
      | scr ws => obtain ⟨vs, y, e, d, r⟩ := z; exact ⟨vs, y, by rw [upd_ne hne]; exact e, d.imp (fun d => by rw [upd_ne hne]; exact d) fun ⟨o, d⟩ => ⟨o, by rw [upd_ne hne]; exact d⟩, r.go G⟩
      | tbl x q => exact TblR.ext z G.extq G.ownq fun _ e => by rw [upd_ne hne]; exact e
      | td ws => exact TdVR.ext z G.extq G.ownq fun _ e => by rw [upd_ne hne]; exact e
      | ru k us => obtain ⟨f, vs, d, r⟩ := z; exact ⟨f, vs, d.ext G.extq G.ownq fun _ e => by rw [upd_ne hne]; exact e, r.ext G.extq G.ownq pre_rfl⟩
      | dead => obtain ⟨y, e⟩ := z; exact ⟨y, by rw [upd_ne hne]; exact e⟩
  · obtain ⟨⟨y, e⟩, nb⟩ := R.hid b hb
    exact ⟨⟨y, by rw [upd_ne (fun z => nb (by rw [z]; exact List.mem_of_getElem? ha))]; exact e⟩, nb⟩
theorem RS.lst (R : RS F ι S B H) {n : Nat} {l : List W} {a : Addr} (h : S[n]? = some (.lst l)) (ha : ι[n]? = some a) : ∃ vs, H a = some (.lst vs) ∧ RpL F H (Oq ι S B) l vs := R.ob n _ a h ha
theorem RS.dct (R : RS F ι S B H) {n : Nat} {l : List (W × W)} {a : Addr} (h : S[n]? = some (.dct l)) (ha : ι[n]? = some a) : ∃ vs, H a = some (.dK vs) ∧ RpD F H (Oq ι S B) l vs := R.ob n _ a h ha
end
/-- xs[i] = v -/
def dSetL (o i v : DE) : DS := fun e S => (v e S).st e fun uv S1 => (o e S1).st e fun uo S2 => (i e S2).st e fun ui S3 => match uv, uo, ui with
  | .v w, .o n, .v (.int k) => match S3[n]? with
    | some (.lst l) => match ixN l.length k with
      | some j => .ok (.nx e) (S3.set n (.lst (l.set j w)))
      | none => .no
    | _ => .no
  | _, _, _ => .no
theorem sv_setL {i : Expr} (ho : PEv ec X o da) (hi : PEv ec X i db) (hv : PEv ec X e dc) (hs : swapsWithSole [.Subscript o i p] e pos.line X.env = pure false := by rfl) (hw : swappedStores [.Subscript o i p] e X.env = pure none := by rfl)
    (h1 : (assignEach [.Subscript o i p] X.env).map (·.2) = [assign (.Subscript o i p) X.env] := by rfl)
    (h2 : ∀ v, assign (.Subscript o i p) X.env v = (do
      let ov ← holding [v] (eval o X.env)
      let iv ← holding [v, ov] (eval i X.env)
      standAt p
      holding [v, ov, iv] (setItem ov iv v)
      release [v, ov, iv] []) := by intro _; rfl) : PSv ec X (.Assign [.Subscript o i p] e pos) (dSetL da db dc) :=
  ⟨fun pn xe Wx tk po => (ps_asg (X := X.tr pn xe) (hv.run pn xe Wx tk) (pg_sub (ho.run pn xe Wx tk) (hi.run pn xe Wx tk) set_list h2) hs hw h1).imp fun D σ H ⟨env, S, ι, B, R, E, h⟩ =>
    LE.thenS R E h fun uv S1 v H1 ι1 G1 R1 E1 rv h1 => LE.thenS R1 E1 h1 fun uo S2 vo H2 ι2 G2 R2 E2 ro h2 => LE.thenS R2 E2 h2 fun ui S3 vi H3 ι3 G3 R3 E3 ri h3 => by
      have rv3 := RU.go G3 (RU.go G2 rv)
      have ro3 := RU.go G3 ro
      cases uv with
      | o n => exact h3.elim
      | v w =>
        cases uo with
        | v z => exact h3.elim
        | o n =>
          cases ui with
          | o m => exact h3.elim
          | v k =>
            cases k with
            | int k =>
              simp only at h3
              obtain ⟨aa, ha, rfl⟩ := ro3
              cases e1 : S3[n]? with
              | none => simp only [e1] at h3; exact h3.elim
              | some ob =>
                cases ob with
                | lst l =>
                  simp only [e1] at h3
                  obtain ⟨vs, hH, rl⟩ := R3.lst e1 ha
                  cases e2 : ixN l.length k with
                  | none => simp only [e2] at h3; exact h3.elim
                  | some j =>
                    simp only [e2] at h3
                    obtain ⟨R4, G4⟩ := R3.write (o' := .lst (l.set j w)) (ho := .lst (vs.set j v)) e1 (by simp) ha ⟨_, rfl, rl.set j rv3⟩
                    exact ⟨aa, vs, k, j, rfl, Rp.int_inv ri, hH, by rw [← rl.1]; exact e2, h3 _ _ ι3 G4 R4 (E3.go G4)⟩
                | _ => simp only [e1] at h3; exact h3.elim
            | _ => exact h3.elim⟩
end
end Bel

namespace Bel
open PySem PySem.Spec PyProof.Rows L2
/-- what a target's reading g does with plain values: t; sl: the slots that it stores -/
def GSem (F : Fx) (g : TG) (t : W → Env' → Option Env') (sl : List Nat) : Prop := ∀ (w : W) (e e' : Env'), t w e = some e' → ∀ (v : V) (σ : L2.St) (H : Hp) (ι : List Addr) (S : Store) (B : Addr → Prop) (Q : L2.St → Hp → Prop),
    Rp F H (Oq ι S B) w v → ER F H ι S B e σ → (∀ σ', ER F H ι S B e' σ' → (∀ vs : List Nat, (∀ i ∈ sl, i ∈ vs) → wipe σ' vs = wipe σ vs) → Q σ' H) → g v σ H Q
def GsSem (F : Fx) (g : TGs) (t : List W → Env' → Option Env') (sl : List Nat) : Prop := ∀ (w : List W) (e e' : Env'), t w e = some e' → ∀ (v : List V) (σ : L2.St) (H : Hp) (ι : List Addr) (S : Store) (B : Addr → Prop) (Q : L2.St → Hp → Prop),
    RpL F H (Oq ι S B) w v → ER F H ι S B e σ → (∀ σ', ER F H ι S B e' σ' → (∀ vs : List Nat, (∀ i ∈ sl, i ∈ vs) → wipe σ' vs = wipe σ vs) → Q σ' H) → g v σ H Q
structure PGv (ec : Ec) (X : Cx) (tg : Expr) (g : TG) (t : W → Env' → Option Env') (sl : List Nat) : Prop where
  pg : ∀ pn xe, PG (X.tr pn xe) tg g
  sem : GSem (fx ec X) g t sl
structure PGsv (ec : Ec) (X : Cx) (tgs : List Expr) (g : TGs) (t : List W → Env' → Option Env') (sl : List Nat) : Prop where
  pg : ∀ pn xe, PGs (X.tr pn xe) tgs g
  sem : GsSem (fx ec X) g t sl
theorem wipe_get (σ : L2.St) : ∀ (vs : List Nat) (j : Nat), (wipe σ vs)[j]? = if j ∈ vs then (σ[j]?).map fun _ => none else σ[j]?
  | [], j => by simp [wipe]
  | v :: vs, j => by
    have ih := wipe_get σ vs j
    unfold wipe
    rw [List.getElem?_set]
    by_cases hv : v = j
    · subst hv
      rw [if_pos rfl, if_pos List.mem_cons_self, wipe_length]
      by_cases hl : v < σ.length
      · rw [if_pos hl]; simp [hl]
      · rw [if_neg hl]; simp [hl]
    · rw [if_neg hv, ih]
      by_cases hm : j ∈ vs
      · rw [if_pos hm, if_pos (List.mem_cons_of_mem _ hm)]
      · rw [if_neg hm, if_neg (by simp only [List.mem_cons, not_or]; exact ⟨fun e => hv e.symm, hm⟩)]
theorem wipe_set (σ : L2.St) (i : Nat) (x : Option V) (vs : List Nat) (h : i ∈ vs) : wipe (σ.set i x) vs = wipe σ vs := by
  apply List.ext_getElem?
  intro j
  rw [wipe_get, wipe_get, List.getElem?_set]
  by_cases hj : j ∈ vs
  · rw [if_pos hj, if_pos hj]
    by_cases hij : i = j
    · subst hij
      rw [if_pos rfl]
      by_cases hl : i < σ.length
      · rw [if_pos hl]; simp [hl]
      · rw [if_neg hl]; simp [hl]
    · rw [if_neg hij]
  · rw [if_neg hj, if_neg hj, if_neg (fun e => hj (by rw [← e]; exact h))]
def wipeE (e : Env') : List Nat → Env'
  | [] => e
  | v :: vs => (wipeE e vs).set v none
theorem ER.wipe {F : Fx} {H : Hp} {ι : List Addr} {S : Store} {B : Addr → Prop} {e : Env'} {σ : L2.St} (E : ER F H ι S B e σ) : ∀ vs : List Nat, ER F H ι S B (wipeE e vs) (L2.wipe σ vs)
  | [] => E
  | v :: vs => (ER.wipe E vs).unset v
def tgN (i : Nat) : W → Env' → Option Env' := fun w e => some (e.set i (some (.v w)))
def tgs0 : List W → Env' → Option Env'
  | [], e => some e
  | _ :: _, _ => none
def tgs1 (t : W → Env' → Option Env') (r : List W → Env' → Option Env') : List W → Env' → Option Env'
  | [], _ => none
  | w :: ws, e => (t w e).bind (r ws)
def tgT (n : Nat) (r : List W → Env' → Option Env') : W → Env' → Option Env'
  | .tup ws, e => if ws.length = n then r ws e else none
  | _, _ => none
section
variable {ec : Ec} {X : Cx} {e a b c o tg iter : Expr} {es : List Expr} {st : Stmt} {rest body : List Stmt} {pos pos' p p2 : Pos} {da db dc : DE} {tc : DT} {ds dt : DS}
theorem gv_name {i : Nat} {x : Str} (hN : X.N.Nodup) (hi : X.N[i]? = some x) (hx : Loc X.env.scope x) (hf : X.fn x = true ∨ X.env.scope.names.lookup x = some .local := by first | exact .inl rfl | exact .inr rfl) : PGv ec X (.Name x pos) (gName i) (tgN i) [i] := by
  refine ⟨fun pn xe => pg_name (X := X.tr pn xe) hN hi hx hf, fun w e e' h v σ H ι S B Q r E k => ?_⟩
  cases some_inj h
  exact k _ (E.set i (u := .v w) r) fun vs hv => wipe_set σ i _ vs (hv i List.mem_cons_self)
theorem gsv_nil : PGsv ec X [] gNil tgs0 [] := by
  refine ⟨fun pn xe => pgs_nil, fun w e e' h v σ H ι S B Q r E k => ?_⟩
  cases w with
  | nil => cases some_inj h; exact ⟨r.nil_iff, k σ E fun _ _ => rfl⟩
  | cons _ _ => cases h
theorem gsv_cons {g : TG} {gs : TGs} {t : W → Env' → Option Env'} {ts : List W → Env' → Option Env'} {sl sls : List Nat} (h1 : PGv ec X e g t sl) (h2 : PGsv ec X es gs ts sls)
    (hs : (assignEach (e :: es) X.env).map (·.2) = assign e X.env :: (assignEach es X.env).map (·.2) := by rfl) : PGsv ec X (e :: es) (gCons g gs) (tgs1 t ts) (sl ++ sls) := by
  obtain ⟨a1, a2⟩ := h1
  obtain ⟨b1, b2⟩ := h2
  refine ⟨fun pn xe => pgs_cons (X := X.tr pn xe) (a1 pn xe) (b1 pn xe) hs, fun w e e' h v σ H ι S B Q r E k => ?_⟩
  cases w with
  | nil => cases h
  | cons w ws =>
    obtain ⟨v1, vs, rfl, r1, r2⟩ := r.cons_iff
    obtain ⟨e1, h3, h4⟩ := Option.bind_eq_some_iff.mp h
    refine ⟨v1, vs, rfl, a2 w e e1 h3 v1 σ H ι S B _ r1 E fun σ1 E1 w1 => ?_⟩
    refine b2 ws e1 e' h4 vs σ1 H ι S B _ r2 E1 fun σ2 E2 w2 => k σ2 E2 fun l hl => ?_
    rw [w2 l fun i hi => hl i (List.mem_append_right _ hi), w1 l fun i hi => hl i (List.mem_append_left _ hi)]
theorem gv_tup {gs : TGs} {ts : List W → Env' → Option Env'} {sls : List Nat} {k n : Nat} (hc : X.calm = true) (h : PGsv ec X es gs ts sls) (hn : (assignEach es X.env).length = n := by rfl) (hst : (assignEach es X.env).findIdx? (·.1) = none := by rfl) : PGv ec X (.Tuple es k pos) (gTup X.K n gs) (tgT n ts) sls := by
  obtain ⟨b1, b2⟩ := h
  refine ⟨fun pn xe => pg_tup (X := X.tr pn xe) hc (b1 pn xe) hn hst, fun w e e' h v σ H ι S B Q r E k => ?_⟩
  cases w with
  | tup ws =>
    simp only [tgT] at h
    split at h
    · rename_i hl
      obtain ⟨a, vs, rfl, h1, r1⟩ := r.tup_inv
      exact ⟨a, vs, rfl, h1.sq, by rw [← r1.1]; exact hl, b2 ws e e' h vs σ H ι S B Q r1 E k⟩
    · cases h
  | _ => cases h
/-- a, b = x, y -/
def dPar (i j : Nat) (a : DA) : DS := fun e S => (a e S).st e fun us S1 => match us with
  | [u, v] => .ok (.nx ((e.set i (some u)).set j (some v))) S1
  | _ => .no
theorem sv_par {i j : Nat} {x y : Str} {px py pt : Pos} {kt k2 pt2} {das : DA} (hc : X.calm = true) (hN : X.N.Nodup) (hi : X.N[i]? = some x) (hj : X.N[j]? = some y) (hij : i ≠ j)
    (hx : X.env.scope.names.lookup x = some .local) (hy : X.env.scope.names.lookup y = some .local) (ha : PAv ec X [a, b] das)
    (hw : swappedStores [.Tuple [.Name x px, .Name y py] kt pt] (.Tuple [a, b] k2 pt2) X.env = pure (some [x, y]) := by rfl)
    (hs : swapsWithSole [.Tuple [.Name x px, .Name y py] kt pt] (.Tuple [a, b] k2 pt2) pos.line X.env = pure false := by rfl) :
    PSv ec X (.Assign [.Tuple [.Name x px, .Name y py] kt pt] (.Tuple [a, b] k2 pt2) pos) (dPar i j das) :=
  ⟨fun pn xe Wx tk po => (ps_par (X := X.tr pn xe) hc hN hi hj hij hx hy (ha.run pn xe Wx tk) hw hs).imp fun D σ H ⟨env, S, ι, B, R, E, h⟩ => by
    refine ⟨env, S, ι, B, R, E, ?_⟩
    unfold dPar at h
    cases ee : das env S with
    | ok us S1 =>
      rw [ee] at h
      intro vs H1 ι1 G1 R1 rs
      simp only [Re.st_ok] at h
      split at h
      · rename_i u v
        cases rs with
        | cons r1 r2 =>
          cases r2 with
          | cons r2 r3 =>
            cases r3
            exact ⟨_, _, rfl, h _ H1 ι1 G1 R1 (((E.go G1).set i r1).set j r2)⟩
      · exact h.elim
    | ex c S1 => rw [ee] at h; exact fun H1 ι1 G1 R1 => h σ H1 ι1 G1 R1 (E.go G1)
    | no => rw [ee] at h; exact h⟩

abbrev DI := Env' → Store → Re (List W)
def WalkW (F : Fx) (ι : List Addr) (S : Store) (B : Addr → Prop) (H : Hp) (J : It) (ws : List W) : Prop := ∃ (G : Hp → Prop) (Y : Nat → Hp → V → Hp → Prop), Walk J ws.length G Y ∧
  ∀ (ι1 : List Addr) (S1 : Store) (B1 : Addr → Prop) (H1 : Hp), Ext (Oq ι S B) H H1 → Own (Oq ι S B) (Oq ι1 S1 B1) H → RS F ι1 S1 B1 H1 →
    G H1 ∧ ∀ (i : Nat) (x : V) (H2 : Hp) (w : W), ws[i]? = some w → Y i H1 x H2 → Rp F H2 (Oq ι1 S1 B1) w x ∧ RS F ι1 S1 B1 H2 ∧ Go ι1 S1 H1 ι1 S1 H2 ∧ ∀ y z, H1 y = some z → H2 y = some z
def PoI (F : Fx) (Wx : WX) (σ : L2.St) (ι : List Addr) (S : Store) (B : Addr → Prop) (H : Hp) (r : Re (List W)) (R : It → Hp → Prop) : Prop := match r with
  | .ok ws S' => ∀ J H' ι', Go ι S H ι' S' H' → RS F ι' S' B H' → WalkW F ι' S' B H' J ws → R J H'
  | .ex c S' => ∀ H' ι', Go ι S H ι' S' H' → RS F ι' S' B H' → Wx (F.ec c) none σ H'
  | .no => False
def LI (F : Fx) (Wx : WX) (d : DI) : TI := fun σ H R => ∃ (env : Env') (S : Store) (ι : List Addr) (B : Addr → Prop), RS F ι S B H ∧ ER F H ι S B env σ ∧ PoI F Wx σ ι S B H (d env S) R
theorem _root_.L2.PI.imp {X : Cx} {tg e : Expr} {t t' : TI} (h : PI X tg e t) (hh : ∀ σ H Q, t' σ H Q → t σ H Q) : PI X tg e t' := ⟨fun pins s σ H Q I q => h.run pins s σ H Q I (hh σ H Q q)⟩
structure PIv (ec : Ec) (X : Cx) (tg e : Expr) (d : DI) : Prop where
  run : ∀ (pn : List (Addr × Obj)) (xe : Value → Shared → Prop) (Wx : WX), Takes (X.tr pn xe) Wx → PI (X.tr pn xe) tg e (LI (fx ec X) Wx d)
section
variable {F : Fx} {Wx : WX} {σ : L2.St} {H : Hp} {ι : List Addr} {S : Store} {B : Addr → Prop} {env : Env'}
theorem LE.thenI (R : RS F ι S B H) (E : ER F H ι S B env σ) {a : DE} {g : U → Store → Re (List W)} {RR : It → Hp → Prop} (h : PoI F Wx σ ι S B H ((a env S).bind g) RR)
    {Q1 : VK} (k : ∀ u S1 v H1 ι1, Go ι S H ι1 S1 H1 → RS F ι1 S1 B H1 → ER F H1 ι1 S1 B env σ → RU F H1 ι1 S1 B u v → PoI F Wx σ ι1 S1 B H1 (g u S1) RR → Q1 v H1) : LE F Wx a σ H Q1 := by
  refine ⟨env, S, ι, B, R, E, ?_⟩
  cases e : a env S with
  | ok u S1 =>
    rw [e] at h
    refine fun v H1 ι1 G R1 r => k u S1 v H1 ι1 G R1 (E.go G) r ?_
    simp only [Re.bind_ok] at h
    cases e2 : g u S1 with
    | ok ws S2 => rw [e2] at h; exact fun J H' ι' G' => h J H' ι' (G.trans G')
    | ex c S2 => rw [e2] at h; exact fun H' ι' G' => h H' ι' (G.trans G')
    | no => rw [e2] at h; exact h
  | ex c S1 => rw [e] at h; exact h
  | no => rw [e] at h; exact h
theorem walkW_lst {a : Addr} {vs : List V} {ws : List W} (h : FLst H (Oq ι S B) a vs) (r : RpL F H (Oq ι S B) ws vs) : WalkW F ι S B H (Itl F.K a) ws := by
  refine ⟨_, _, by rw [r.1]; exact walk_list (K := F.K) (a := a) (xs := vs), fun ι1 S1 B1 H1 x o R1 => ⟨(h.ext x o).sq, fun i y H2 w hw hy => ?_⟩⟩
  obtain ⟨rfl, hy⟩ := hy
  obtain ⟨v, hv, rv⟩ := r.get hw
  rw [hv] at hy; cases hy
  exact ⟨rv.ext x o, R1, .refl, fun _ _ z => z⟩
theorem walkW_tup {a : Addr} {vs : List V} {ws : List W} (h : FTup F H (Oq ι S B) a vs) (r : RpL F H (Oq ι S B) ws vs) : WalkW F ι S B H (Itt F.K a) ws := by
  refine ⟨_, _, by rw [r.1]; exact walk_tup (K := F.K) (a := a) (xs := vs), fun ι1 S1 B1 H1 x o R1 => ⟨(h.ext x o).sq, fun i y H2 w hw hy => ?_⟩⟩
  obtain ⟨rfl, hy⟩ := hy
  obtain ⟨v, hv, rv⟩ := r.get hw
  rw [hv] at hy; cases hy
  exact ⟨rv.ext x o, R1, .refl, fun _ _ z => z⟩
end
/-- a list that stays -/
def dItL (d : DE) : DI := fun e S => (d e S).bind fun u S1 => match u with
  | .v (.lst l) => .ok l S1
  | _ => .no
def dItT (d : DE) : DI := fun e S => (d e S).bind fun u S1 => match u with
  | .v (.tup l) => .ok l S1
  | _ => .no
theorem iv_list (h : PEv ec X e da) : PIv ec X tg e (dItL da) :=
  ⟨fun pn xe Wx tk => (pi_list (h.run pn xe Wx tk)).imp fun σ H Q ⟨env, S, ι, B, R, E, h⟩ => LE.thenI R E h fun u S1 v H1 ι1 G1 R1 E1 ru h1 => by
    cases u with
    | o n => exact h1.elim
    | v w =>
      cases w with
      | lst l =>
        obtain ⟨a, vs, rfl, h2, r⟩ := Rp.lst_inv ru
        exact ⟨a, rfl, ⟨vs, h2.sq (F := fx ec X)⟩, h1 _ H1 ι1 .refl R1 (walkW_lst h2 r)⟩
      | _ => exact h1.elim⟩
theorem iv_tuple (h : PEv ec X e da) : PIv ec X tg e (dItT da) :=
  ⟨fun pn xe Wx tk => (pi_tup (h.run pn xe Wx tk)).imp fun σ H Q ⟨env, S, ι, B, R, E, h⟩ => LE.thenI R E h fun u S1 v H1 ι1 G1 R1 E1 ru h1 => by
    cases u with
    | o n => exact h1.elim
    | v w =>
      cases w with
      | tup l =>
        obtain ⟨a, vs, rfl, h2, r⟩ := Rp.tup_inv ru
        exact ⟨a, rfl, ⟨vs, h2.sq (F := fx ec X)⟩, h1 _ H1 ι1 .refl R1 (walkW_tup h2 r)⟩
      | _ => exact h1.elim⟩
/-- range(n) -/
def dRng1 (d : DE) : DI := fun e S => (d e S).bind fun u S1 => match u with
  | .v (.int n) => if n < 2 ^ 62 ∧ -(2 ^ 62) ≤ n then .ok ((List.range n.toNat).map fun i => .int (Int.ofNat i)) S1 else .no
  | _ => .no
theorem walkW_rng {F : Fx} {ι : List Addr} {S : Store} {B : Addr → Prop} {H : Hp} (lo : Int) (n : Nat) : WalkW F ι S B H (Itr lo n) ((List.range n).map fun i => .int (lo + Int.ofNat i)) := by
  refine ⟨_, _, by rw [List.length_map, List.length_range]; exact walk_range (lo := lo) (n := n), fun ι1 S1 B1 H1 x o R1 => ⟨trivial, fun i y H2 w hw hy => ?_⟩⟩
  obtain ⟨rfl, rfl⟩ := hy
  have hi : i < n := by
    obtain ⟨h1, _⟩ := List.getElem?_eq_some_iff.mp hw
    simpa using h1
  rw [List.getElem?_map, List.getElem?_range hi] at hw
  cases some_inj hw
  exact ⟨.int _, R1, .refl, fun _ _ z => z⟩
theorem rng0 (n : Nat) : ((List.range n).map fun i => W.int (Int.ofNat i)) = (List.range n).map fun i => W.int (0 + Int.ofNat i) := by
  apply List.map_congr_left
  intro i _
  rw [Int.zero_add]
theorem iv_rng1 (hg : Gl X "range") (hm : X.mg "range" = none) (h : PEv ec X e da) (h1 : starEach [e] X.env = (false, eval e X.env) :: starEach [] X.env := by rfl) (hs : starEach [e] X.env = [(false, eval e X.env)] := by rfl) : PIv ec X tg (.Call (.Name "range" p) [e] [] pos) (dRng1 da) :=
  ⟨fun pn xe Wx tk => (pi_range1 (X := X.tr pn xe) hg hm (pa_cons (h.run pn xe Wx tk) pa_nil h1) hs).imp fun σ H Q ⟨env, S, ι, B, R, E, h⟩ => LE.thenI R E h fun u S1 v H1 ι1 G1 R1 E1 ru h1 => by
    cases u with
    | o n => exact h1.elim
    | v w =>
      cases w with
      | int n =>
        simp only at h1
        split at h1
        · rename_i hc
          refine ⟨n, by rw [Rp.int_inv ru], hc.2, hc.1, h1 _ H1 ι1 .refl R1 ?_⟩
          rw [rng0]
          exact walkW_rng 0 n.toNat
        · exact h1.elim
      | _ => exact h1.elim⟩
def dLoop (t : W → Env' → Option Env') (body : DS) : List W → DS
  | [], e, S => .ok (.nx e) S
  | w :: r, e, S => match t w e with
    | none => .no
    | some e1 => match body e1 S with
      | .ok (.nx e2) S2 => dLoop t body r e2 S2
      | .ok (.ct e2) S2 => dLoop t body r e2 S2
      | .ok (.bk e2) S2 => .ok (.nx e2) S2
      | r => r
def dFor (src : DI) (t : W → Env' → Option Env') (body : DS) : DS := fun e S => (src e S).st e fun ws S1 => dLoop t body ws e S1
theorem Go.lo {ι ι' : List Addr} {S S' : Store} {H H' : Hp} {B : Addr → Prop} (g : Go ι S H ι' S' H') : Ext (Oq ι S B) H H' ∧ Own (Oq ι S B) (Oq ι' S' B) H := ⟨g.extq, g.ownq⟩
theorem sv_for {g : TG} {src : DI} {t : W → Env' → Option Env'} {sl : List Nat} (hc : X.calm = true) (hi : PIv ec X tg iter src) (hg : PGv ec X tg g t sl) (hb : PSsv ec X body ds) (hs : ∀ x, foldedSetIterable iter X.env x = pure x := by intro _; rfl) : PSv ec X (.For tg iter body [] pos) (dFor src t ds) := by
  obtain ⟨a1, a2⟩ := hg
  refine ⟨fun pn xe Wx tk po => (ps_for (X := X.tr pn xe) po hc (hi.run pn xe Wx tk) (a1 pn xe) (hb.run pn xe Wx tk po) hs).imp fun D σ H ⟨env, S, ι, B, R, E, h⟩ => ?_⟩
  show LI (fx ec X) Wx src σ H _
  refine ⟨env, S, ι, B, R, E, ?_⟩
  unfold dFor at h
  cases ee : src env S with
  | no => rw [ee] at h; exact h
  | ex c S1 => rw [ee] at h; exact fun H1 ι1 G1 R1 => h σ H1 ι1 G1 R1 (E.go G1)
  | ok ws S1 =>
    rw [ee] at h
    simp only [Re.st_ok] at h
    rintro J H1 ι1 G1 R1 ⟨G, Y, wk, st⟩
    refine for_it wk (fun i σ' H' => ∃ (env' : Env') (S' : Store) (ι' : List Addr), Go ι1 S1 H1 ι' S' H' ∧ RS (fx ec X) ι' S' B H' ∧ ER (fx ec X) H' ι' S' B env' σ' ∧ PoS (fx ec X) Wx ι' S' B H' (dLoop t ds (ws.drop i) env' S') D)
      ⟨env, S1, ι1, .refl, R1, E.go G1, by rw [List.drop_zero]; exact h.go G1⟩ (fun i σ' H' _ ⟨_, _, _, G', R', _, _⟩ => (st _ _ _ _ G'.lo.1 G'.lo.2 R').1) ?_ ?_
    · rintro i x σ' H' H2 hi ⟨env', S', ι', G', R', E', h'⟩ hy
      have hw : ws[i]? = some ws[i] := by simp [hi]
      obtain ⟨rx, R2, G2, _⟩ := (st _ _ _ _ G'.lo.1 G'.lo.2 R').2 i x H2 ws[i] hw hy
      have hd : ws.drop i = ws[i] :: ws.drop (i + 1) := List.drop_eq_getElem_cons hi
      rw [hd] at h'
      unfold dLoop at h'
      cases e1 : t ws[i] env' with
      | none => simp only [e1] at h'; exact h'.elim
      | some env1 =>
        simp only [e1] at h'
        refine a2 ws[i] env' env1 e1 x σ' H2 ι' S' B _ rx (E'.go G2) fun σ2 E2 _ => ?_
        refine ⟨env1, S', ι', B, R2, E2, ?_⟩
        have h2 := h'.go G2
        cases e2 : ds env1 S' with
        | no => simp only [e2] at h2; exact h2
        | ex c e3 S3 => simp only [e2] at h2; exact h2
        | ok f S3 =>
          cases f with
          | nx e3 =>
            simp only [e2] at h2
            exact fun σ3 H3 ι3 G3 R3 E3 => ⟨e3, S3, ι3, G'.trans (G2.trans G3), R3, E3, h2.go G3⟩
          | ct e3 =>
            simp only [e2] at h2
            exact fun σ3 H3 ι3 G3 R3 E3 => ⟨e3, S3, ι3, G'.trans (G2.trans G3), R3, E3, h2.go G3⟩
          | bk e3 => simp only [e2] at h2; exact h2
          | rt u => simp only [e2] at h2; exact h2
    · rintro σ' H' ⟨env', S', ι', G', R', E', h'⟩
      rw [List.drop_length] at h'
      exact h' σ' H' ι' .refl R' E'

open Classical in
end
end Bel

namespace Bel
open PySem PySem.Spec PyProof.Rows L2
/-- nothing may be raised -/
def Re.bindX {α β : Type} (r : Re α) (f : α → Store → Re β) : Re β := match r with
  | .ok a S => f a S
  | _ => .no
@[simp] theorem Re.bindX_ok {α β : Type} (a : α) (S : Store) (f : α → Store → Re β) : (Re.ok a S).bindX f = f a S := rfl
@[simp] theorem Re.bindX_ex {α β : Type} (c : Nat) (S : Store) (f : α → Store → Re β) : (Re.ex c S : Re α).bindX f = .no := rfl
@[simp] theorem Re.bindX_no {α β : Type} (f : α → Store → Re β) : (Re.no : Re α).bindX f = .no := rfl
structure PTsv (ec : Ec) (X : Cx) (ifs : List Expr) (d : DT) : Prop where
  run : ∀ (pn : List (Addr × Obj)) (xe : Value → Shared → Prop) (Wx : WX), Takes (X.tr pn xe) Wx → PTs (X.tr pn xe) ifs (LT (fx ec X) Wx d)
theorem _root_.L2.PTs.imp {X : Cx} {e : List Expr} {t t' : TT} (h : PTs X e t) (hh : ∀ σ H Q, t' σ H Q → t σ H Q) : PTs X e t' := ⟨fun pins s σ H Q I q => h.run pins s σ H Q I (hh σ H Q q)⟩
def dYes : DT := fun _ S => .ok true S
section
variable {ec : Ec} {X : Cx} {e c elt tg iter : Expr} {ifs : List Expr} {pos pos' spos : Pos} {tc tt : DT} {te : DE} {scope : Scope}
theorem tsv_nil : PTsv ec X [] dYes := ⟨fun pn xe Wx tk => pts_nil.imp fun σ H Q ⟨env, S, ι, B, R, E, h⟩ => h H ι .refl R⟩
theorem tsv_one (h : PTv ec X c tc) : PTsv ec X [c] tc := ⟨fun pn xe Wx tk => pts_one (h.run pn xe Wx tk)⟩
/-- the items, one by one -/
def lcL (t : W → Env' → Option Env') (tt : DT) (te : DE) (env : Env') : List W → Store → Re (List W)
  | [], S => .ok [] S
  | w :: r, S => match t w env with
    | none => .no
    | some e1 => (tt e1 S).bindX fun k S1 => if k = true then (te e1 S1).bindX fun u S2 => match u with
        | .v x => (lcL t tt te env r S2).bindX fun xs S3 => .ok (x :: xs) S3
        | .o _ => .no
      else lcL t tt te env r S1
def dLc (own : Bool) (src : DI) (t : W → Env' → Option Env') (tt : DT) (te : DE) (vs : List Nat) : DE := fun e S => (src e S).bind fun ws S1 =>
  if ws.length ≤ 16777216 then (lcL t tt te (wipeE e vs) ws S1).bindX fun xs S2 => (Out.nl xs).put own S2 else .no
/-- hidden too -/
def hidB (B : Addr → Prop) (D : Addr) : Addr → Prop := fun a => B a ∨ a = D
section
variable {F : Fx} {Wx : WX} {σ : L2.St} {H H' : Hp} {ι ι' : List Addr} {S S' : Store} {B : Addr → Prop} {D : Addr}
theorem oq_hid {a : Addr} : Oq ι S (hidB B D) a ↔ Oq ι S B a ∨ a = D := by
  unfold Oq hidB
  constructor
  · rintro (h | h | h)
    · exact .inl (.inl h)
    · exact .inl (.inr h)
    · exact .inr h
  · rintro ((h | h) | h)
    · exact .inl h
    · exact .inr (.inl h)
    · exact .inr (.inr h)
/-- a new object is hidden -/
theorem RS.hide (R : RS F ι S B H) (hD : H D = none) (ho : HO) : RS F ι S (hidB B D) (upd H D ho) ∧ Ext (Oq ι S B) H (upd H D ho) ∧ Own (Oq ι S B) (Oq ι S (hidB B D)) H := by
  have E : Ext (Oq ι S B) H (upd H D ho) := fun x y hx _ => by rw [upd_ne (ne_of_none hx hD)]; exact hx
  have P : Own (Oq ι S B) (Oq ι S (hidB B D)) H := fun a z => (oq_hid.mp z).imp id fun e => by rw [e]; exact hD
  refine ⟨⟨R.len, R.nd, fun n o a h1 h2 => ?_, fun a h => ?_⟩, E, P⟩
  · have z := R.ob n o a h1 h2
    cases o with
    | lst ws => obtain ⟨vs, e, r⟩ := z; exact ⟨vs, by rw [upd_ne (ne_of_none e hD)]; exact e, r.ext E P⟩
    | dct ws => obtain ⟨vs, e, r⟩ := z; exact ⟨vs, by rw [upd_ne (ne_of_none e hD)]; exact e, r.ext E P⟩
    | scr ws => obtain ⟨vs, y, e, d, r⟩ := z; exact ⟨vs, y, by rw [upd_ne (ne_of_none e hD)]; exact e, d.imp (fun d => by rw [upd_ne (ne_of_none d hD)]; exact d) fun ⟨o, d⟩ => ⟨o, by rw [upd_ne (ne_of_none d hD)]; exact d⟩, r.ext E P⟩
    | tbl x q => exact TblR.ext z E P fun _ e => by rw [upd_ne (ne_of_none e hD)]; exact e
    | td ws => exact TdVR.ext z E P fun _ e => by rw [upd_ne (ne_of_none e hD)]; exact e
    | ru k us => obtain ⟨f, vs, d, r⟩ := z; exact ⟨f, vs, d.ext E P fun _ e => by rw [upd_ne (ne_of_none e hD)]; exact e, r.ext E P pre_rfl⟩
    | dead => obtain ⟨y, e⟩ := z; exact ⟨y, by rw [upd_ne (ne_of_none e hD)]; exact e⟩
  · rcases h with h | rfl
    · obtain ⟨⟨y, e⟩, n⟩ := R.hid a h
      exact ⟨⟨y, by rw [upd_ne (ne_of_none e hD)]; exact e⟩, n⟩
    · refine ⟨⟨ho, upd_same⟩, fun z => ?_⟩
      obtain ⟨y, e⟩ := R.there z
      rw [hD] at e; cases e
/-- a hidden object is written -/
theorem RS.hidW (R : RS F ι S (hidB B D) H) (ho : HO) : RS F ι S (hidB B D) (upd H D ho) ∧ Ext (Oq ι S (hidB B D)) H (upd H D ho) := by
  have nD : D ∉ ι := (R.hid D (.inr rfl)).2
  have E : Ext (Oq ι S (hidB B D)) H (upd H D ho) := fun x y hx n => by rw [upd_ne (fun z => n (by rw [z]; exact .inr (.inr rfl)))]; exact hx
  have P : Own (Oq ι S (hidB B D)) (Oq ι S (hidB B D)) H := fun _ z => .inl z
  have ne : ∀ {n : Nat} {a : Addr}, ι[n]? = some a → a ≠ D := fun {n a} h z => nD (by rw [← z]; exact List.mem_of_getElem? h)
  refine ⟨⟨R.len, R.nd, fun n o a h1 h2 => ?_, fun a h => ?_⟩, E⟩
  · have z := R.ob n o a h1 h2
    have hne := ne h2
    cases o with
    | lst ws => obtain ⟨vs, e, r⟩ := z; exact ⟨vs, by rw [upd_ne hne]; exact e, r.ext E P⟩
    | dct ws => obtain ⟨vs, e, r⟩ := z; exact ⟨vs, by rw [upd_ne hne]; exact e, r.ext E P⟩
    | scr ws => obtain ⟨vs, y, e, d, r⟩ := z; exact ⟨vs, y, by rw [upd_ne hne]; exact e, d.imp (fun d => by rw [upd_ne hne]; exact d) fun ⟨o, d⟩ => ⟨o, by rw [upd_ne hne]; exact d⟩, r.ext E P⟩
    | tbl x q => exact TblR.ext z E P fun _ e => by rw [upd_ne hne]; exact e
    | td ws => exact TdVR.ext z E P fun _ e => by rw [upd_ne hne]; exact e
    | ru k us => obtain ⟨f, vs, d, r⟩ := z; exact ⟨f, vs, d.ext E P fun _ e => by rw [upd_ne hne]; exact e, r.ext E P pre_rfl⟩
    | dead => obtain ⟨y, e⟩ := z; exact ⟨y, by rw [upd_ne hne]; exact e⟩
  · obtain ⟨⟨y, e⟩, n⟩ := R.hid a h
    by_cases hz : a = D
    · subst hz; exact ⟨⟨ho, upd_same⟩, n⟩
    · exact ⟨⟨y, by rw [upd_ne hz]; exact e⟩, n⟩
theorem oq_less {a : Addr} (h : Oq ι S B a) : Oq ι S (hidB B D) a := oq_hid.mpr (.inl h)
/-- a hidden list comes out, as a plain value, or owned -/
theorem RS.show_ (R : RS F ι S (hidB B D) H) (nB : ¬ B D) {own : Bool} {l : List W} {vs : List V} (hD : H D = some (.lst vs)) (r : RpL F H (Oq ι S (hidB B D)) l vs) {u : U} {S' : Store} (h : (Out.nl l).put own S = .ok u S') :
    ∃ ι', RS F ι' S' B H ∧ (∀ a, Ow ι' S' a → Ow ι S a ∨ a = D) ∧ (∃ t, ι' = ι ++ t) ∧ RU F H ι' S' B u (.ref D) := by
  have nD : D ∉ ι := (R.hid D (.inr rfl)).2
  have nO : ¬ Oq ι S B D := fun z => by
    rcases z with ⟨n, o, h1, h2, h3⟩ | z
    · exact nD (List.mem_of_getElem? h3)
    · exact nB z
  have R0 : RS F ι S B H := ⟨R.len, R.nd, fun n o a h1 h2 => (R.ob n o a h1 h2).less fun b => oq_less, fun a hb => R.hid a (.inl hb)⟩
  cases own with
  | false =>
    cases h
    exact ⟨ι, R0, fun _ z => .inl z, ⟨[], by simp⟩, .mkLst ⟨hD, nO⟩ (r.less fun b => oq_less)⟩
  | true =>
    cases h
    have hd : Ob.lst l ≠ Ob.dead := by simp
    have sub : ∀ b, Oq (ι ++ [D]) (S ++ [.lst l]) B b → Oq ι S (hidB B D) b := fun b z => by
      rcases z with z | z
      · rcases (ow_push R.len hd).mp z with z | z
        · exact .inl z
        · exact .inr (.inr z)
      · exact .inr (.inl z)
    refine ⟨ι ++ [D], ⟨by simp [R.len], ?_, fun n q a h1 h2 => ?_, fun a hb => ?_⟩, fun a z => (ow_push R.len hd).mp z, ⟨[D], rfl⟩, D, by rw [← R.len]; simp, rfl⟩
    · rw [List.nodup_append]
      refine ⟨R.nd, by simp, fun x hx y hy e => ?_⟩
      simp at hy
      subst hy
      subst e
      exact nD hx
    · by_cases hn : n < S.length
      · rw [List.getElem?_append_left hn] at h1
        rw [List.getElem?_append_left (by rw [R.len]; exact hn)] at h2
        exact ((R.ob n q a h1 h2).less sub).grow _
      · rw [List.getElem?_append_right (by omega)] at h1
        rw [List.getElem?_append_right (by rw [R.len]; omega)] at h2
        obtain ⟨h4, h5⟩ := List.getElem?_eq_some_iff.mp h1
        obtain ⟨h6, h7⟩ := List.getElem?_eq_some_iff.mp h2
        simp at h5 h7
        subst h5
        subst h7
        exact ⟨vs, hD, r.less sub⟩
    · refine ⟨(R.hid a (.inl hb)).1, fun z => ?_⟩
      rcases List.mem_append.mp z with z | z
      · exact (R.hid a (.inl hb)).2 z
      · simp at z; subst z; exact nB hb
end
theorem lcL_cons {t : W → Env' → Option Env'} {env : Env'} {w : W} {r : List W} {S : Store} : lcL t tt te env (w :: r) S = match t w env with
    | none => .no
    | some e1 => (tt e1 S).bindX fun k S1 => if k = true then (te e1 S1).bindX fun u S2 => match u with
        | .v x => (lcL t tt te env r S2).bindX fun xs S3 => .ok (x :: xs) S3
        | .o _ => .no
      else lcL t tt te env r S1 := rfl
theorem wipe_wipe (σ : L2.St) (vs : List Nat) : L2.wipe (L2.wipe σ vs) vs = L2.wipe σ vs := by
  apply List.ext_getElem?
  intro j
  rw [wipe_get, wipe_get]
  split
  · cases σ[j]? <;> rfl
  · rfl
theorem ev_lc_reads {F : Fx} {Wx : WX} {σ : L2.St} {H : Hp} {Q : VK} {own : Bool} {src : DI} {g : TG} {t : W → Env' → Option Env'} {sl vs : List Nat} (hg : GSem F g t sl) (hsl : ∀ i ∈ sl, i ∈ vs) (h : LE F Wx (dLc own src t tt te vs) σ H Q) :
    tLc (LI F Wx src) g (LT F (fun _ _ _ _ => False) tt) (LE F (fun _ _ _ _ => False) te) vs σ H Q := by
  obtain ⟨env, S, ι, B, R, E, h⟩ := h
  refine ⟨env, S, ι, B, R, E, ?_⟩
  unfold dLc at h
  cases ee : src env S with
  | no => rw [ee] at h; exact h
  | ex c S1 => rw [ee] at h; exact h
  | ok ws S1 =>
    rw [ee] at h
    simp only [Re.bind_ok] at h
    split at h
    · rename_i hlen
      rintro J H1 ι1 G1 R1 ⟨G, Y, wk, st⟩ D hD
      have nB : ¬ B D := fun z => by
        obtain ⟨⟨y, e⟩, _⟩ := R1.hid D z
        rw [hD] at e; cases e
      obtain ⟨R2, E2, P2⟩ := R1.hide hD (.lst [])
      have h0 := h.go G1
      refine lc_it wk (fun i H' => ∃ (S' : Store) (ι' : List Addr) (acc : List W) (us : List V), Ext (Ow ι1 S1) H1 H' ∧ Own (Oq ι1 S1 B) (Oq ι' S' (hidB B D)) H1 ∧ (∀ a, Ow ι' S' a → Ow ι1 S1 a ∨ H1 a = none) ∧ (∃ t, ι' = ι1 ++ t) ∧ RS F ι' S' (hidB B D) H' ∧ ER F H' ι' S' (hidB B D) (wipeE env vs) (L2.wipe σ vs) ∧
          H' D = some (.lst us) ∧ RpL F H' (Oq ι' S' (hidB B D)) acc us ∧ acc.length ≤ i ∧
          ((lcL t tt te (wipeE env vs) ws S1).bindX fun xs S2 => (Out.nl xs).put own S2) = (lcL t tt te (wipeE env vs) (ws.drop i) S').bindX fun xs S2 => (Out.nl (acc ++ xs)).put own S2)
        ⟨S1, ι1, [], [], fun x y hx n => by rw [upd_ne (ne_of_none hx hD)]; exact hx, P2, fun _ z => .inl z, ⟨[], by simp⟩, R2, ?_, upd_same, .nil, Nat.le_refl _, by rw [List.drop_zero]; rfl⟩ ?_ ?_ ?_
      · have := (E.go G1).wipe vs
        exact ⟨this.len, fun i u hu => by
          obtain ⟨v, h1, r⟩ := this.get i u hu
          refine ⟨v, h1, ?_⟩
          cases u with
          | v w => exact Rp.ext E2 P2 r
          | o n => exact r⟩
      · rintro i H' hi ⟨S', ι', acc, us, x1, o1, _, _, R', _⟩
        exact (st ι' S' (hidB B D) H' (fun a ho hz n => x1 a ho hz fun z => n (.inl z)) o1 R').1
      · rintro i x H' H3 hi ⟨S', ι', acc, us, x1, o1, o1', p1, R', E', hDu, rA, hacc, eq⟩ hy
        have hw : ws[i]? = some ws[i] := by simp [hi]
        obtain ⟨rx, R3, G3, same⟩ := (st ι' S' (hidB B D) H' (fun a ho hz n => x1 a ho hz fun z => n (.inl z)) o1 R').2 i x H3 ws[i] hw hy
        have hd : ws.drop i = ws[i] :: ws.drop (i + 1) := List.drop_eq_getElem_cons hi
        rw [hd] at eq
        -- the whole is not nothing
        have live : ∀ {r : Re U}, ((lcL t tt te (wipeE env vs) ws S1).bindX fun xs S2 => (Out.nl xs).put own S2) = r → r ≠ .no := fun {r} e z => by
          rw [e, z] at h0; exact h0
        rw [lcL_cons] at eq
        cases e1 : t ws[i] (wipeE env vs) with
        | none => simp only [e1, Re.bindX_no] at eq; exact absurd rfl (live eq)
        | some env1 =>
          simp only [e1] at eq
          refine hg ws[i] _ env1 e1 x (L2.wipe σ vs) H3 ι' S' (hidB B D) _ rx (E'.go G3) fun σ2 Eσ w2 => ⟨?_, ?_⟩
          · exact (w2 vs hsl).trans (wipe_wipe σ vs)
          refine ⟨env1, S', ι', hidB B D, R3, Eσ, ?_⟩
          cases e2 : tt env1 S' with
          | no => simp only [e2, Re.bindX_no] at eq; exact absurd rfl (live eq)
          | ex c S3 => simp only [e2, Re.bindX_ex, Re.bindX_no] at eq; exact absurd rfl (live eq)
          | ok k S3 =>
            simp only [e2, Re.bindX_ok] at eq
            intro H4 ι4 G4 R4
            have G34 := G3.trans G4
            -- what is known behind the test
            have x4 : Ext (Ow ι1 S1) H1 H4 := fun a ho hz n => by
              have n' : ¬ Ow ι' S' a := fun z => (o1' a z).elim n fun q => by rw [hz] at q; cases q
              exact G34.ext a ho (x1 a ho hz n) n'
            have o4' : ∀ a, Ow ι4 S3 a → Ow ι1 S1 a ∨ H1 a = none := fun a z => by
              rcases G34.own a z with q | q
              · exact o1' a q
              · by_cases n : Ow ι1 S1 a
                · exact .inl n
                · cases e : H1 a with
                  | none => exact .inr rfl
                  | some ho => rw [x1 a ho e n] at q; cases q
            have o4 : Own (Oq ι1 S1 B) (Oq ι4 S3 (hidB B D)) H1 := fun a z => by
              rcases z with z | z | z
              · exact (o4' a z).imp .inl id
              · exact .inl (.inr z)
              · rw [z]; exact .inr hD
            have p4 : ∃ t, ι4 = ι1 ++ t := by
              obtain ⟨q1, rfl⟩ := p1
              obtain ⟨q2, rfl⟩ := G34.pre
              exact ⟨q1 ++ q2, by simp⟩
            have D4 : H4 D = some (.lst us) := G34.ext D _ hDu fun ⟨n, o, _, _, h3⟩ => (R'.hid D (.inr rfl)).2 (List.mem_of_getElem? h3)
            have E4 : ER F H4 ι4 S3 (hidB B D) (wipeE env vs) (L2.wipe σ vs) := E'.go G34
            cases k with
            | false =>
              simp only [Bool.false_eq_true, if_false] at eq ⊢
              exact ⟨S3, ι4, acc, us, x4, o4, o4', p4, R4, E4, D4, rA.go G34, by omega, eq⟩
            | true =>
              simp only [if_true] at eq ⊢
              refine ⟨env1, S3, ι4, hidB B D, R4, Eσ.go G4, ?_⟩
              cases e3 : te env1 S3 with
              | no => simp only [e3, Re.bindX_no] at eq; exact absurd rfl (live eq)
              | ex c S5 => simp only [e3, Re.bindX_ex, Re.bindX_no] at eq; exact absurd rfl (live eq)
              | ok u S5 =>
                simp only [e3, Re.bindX_ok] at eq
                intro y H5 ι5 G5 R5 ry
                cases u with
                | o n => simp only [Re.bindX_no] at eq; exact absurd rfl (live eq)
                | v z =>
                  simp only at eq
                  have D5 : H5 D = some (.lst us) := G5.ext D _ D4 fun ⟨n, o, _, _, h3⟩ => (R4.hid D (.inr rfl)).2 (List.mem_of_getElem? h3)
                  have rA5 := (rA.go G34).go G5
                  obtain ⟨R6, x6⟩ := R5.hidW (.lst (us ++ [y]))
                  have P6 : Own (Oq ι5 S5 (hidB B D)) (Oq ι5 S5 (hidB B D)) H5 := fun _ z => .inl z
                  refine ⟨us, D5, ?_, S5, ι5, acc ++ [z], us ++ [y], ?_, ?_, ?_, ?_, R6, ?_, upd_same, ?_, ?_, ?_⟩
                  · rw [← rA.1, sizeLine_is]; omega
                  · intro a ho hz n
                    have n4 : ¬ Ow ι4 S3 a := fun q => (o4' a q).elim n fun q => by rw [hz] at q; cases q
                    have e5 := G5.ext a ho (x4 a ho hz n) n4
                    rw [upd_ne (fun q => by rw [q, hD] at hz; cases hz)]
                    exact e5
                  · intro a q
                    rcases q with q | q | q
                    · rcases G5.own a q with q | q
                      · exact (o4' a q).imp .inl id
                      · by_cases n : Ow ι1 S1 a
                        · exact .inl (.inl n)
                        · cases e : H1 a with
                          | none => exact .inr rfl
                          | some ho => rw [x4 a ho e n] at q; cases q
                    · exact .inl (.inr q)
                    · rw [q]; exact .inr hD
                  · intro a q
                    rcases G5.own a q with q | q
                    · exact o4' a q
                    · by_cases n : Ow ι1 S1 a
                      · exact .inl n
                      · cases e : H1 a with
                        | none => exact .inr rfl
                        | some ho => rw [x4 a ho e n] at q; cases q
                  · obtain ⟨q1, rfl⟩ := p4
                    obtain ⟨q2, rfl⟩ := G5.pre
                    exact ⟨q1 ++ q2, by simp⟩
                  · have E5 := E4.go G5
                    exact ⟨E5.len, fun j u hu => by
                      obtain ⟨v, h1, r⟩ := E5.get j u hu
                      refine ⟨v, h1, ?_⟩
                      cases u with
                      | v w => exact Rp.ext x6 P6 r
                      | o n => exact r⟩
                  · exact (rA5.ext x6 P6).append (.cons (Rp.ext x6 P6 ry) .nil)
                  · simp; omega
                  · rw [eq]
                    cases e7 : lcL t tt te (wipeE env vs) (ws.drop (i + 1)) S5 with
                    | ok xs S8 => simp [List.append_assoc]
                    | ex c S8 => rfl
                    | no => rfl
      · rintro H' ⟨S', ι', acc, us, x1, o1, o1', p1, R', E', hDu, rA, hacc, eq⟩
        rw [List.drop_length] at eq
        have eq' : ((lcL t tt te (wipeE env vs) ws S1).bindX fun xs S2 => (Out.nl xs).put own S2) = (Out.nl acc).put own S' := by
          rw [eq]; show (Out.nl (acc ++ [])).put own S' = _; rw [List.append_nil]
        rw [eq'] at h0
        cases e9 : (Out.nl acc).put own S' with
        | ok u S9 =>
          rw [e9] at h0
          obtain ⟨ι9, R9, o9, p9, r9⟩ := R'.show_ nB hDu rA e9
          refine h0 (.ref D) H' ι9 ⟨x1, fun a z => ?_, ?_⟩ R9 r9
          · rcases o9 a z with q | q
            · exact o1' a q
            · rw [q]; exact .inr hD
          · obtain ⟨q1, rfl⟩ := p1
            obtain ⟨q2, rfl⟩ := p9
            exact ⟨q1 ++ q2, by simp⟩
        | ex c S9 => cases own <;> cases e9
        | no => cases own <;> cases e9
    · exact h.elim
theorem ev_lc {own : Bool} {src : DI} {g : TG} {t : W → Env' → Option Env'} {sl : List Nat} {ow : List (Str × Nat)} (hc : X.calm = true) (hN : X.N.Nodup) (hi : PIv ec X tg iter src) (ok : BlkOk X.N X.env.scope scope ow)
    (hg : ∀ (s : Shared) (H : Hp) (C : Addr) (cl : List (Str × Addr)) (fp : List Addr), PGv ec (X.blk s H scope (compEnvC scope cl C X.env) fp) tg g t sl) (ht : ∀ (s : Shared) (H : Hp) (C : Addr) (cl : List (Str × Addr)) (fp : List Addr), PTsv ec (X.blk s H scope (compEnvC scope cl C X.env) fp) ifs tt)
    (he : ∀ (s : Shared) (H : Hp) (C : Addr) (cl : List (Str × Addr)) (fp : List Addr), PEv ec (X.blk s H scope (compEnvC scope cl C X.env) fp) elt te) (hsl : ∀ i ∈ sl, i ∈ ow.map (·.2)) (hs : ∀ x, foldedSetIterable iter X.env x = pure x := by intro _; rfl) :
    PEv ec X (.ListComp elt [⟨tg, iter, ifs, 0⟩] scope pos) (dLc own src t tt te (ow.map (·.2))) :=
  ⟨fun pn xe Wx tk => ⟨fun pins s σ H Q I h => (pe_lc (X := X.tr pn xe) (own := ow) hc hN (hi.run pn xe Wx tk) ok (fun s H C cl fp => (hg s H C cl fp).pg [] _) (fun s H C cl fp => (ht s H C cl fp).run [] _ _ takes0) (fun s H C cl fp => (he s H C cl fp).run [] _ _ takes0) hs).run pins s σ H Q I
    (ev_lc_reads (hg s H 0 [] []).sem hsl h)⟩⟩
end
end Bel

namespace Bel
open PySem PySem.Spec PyProof.Rows L2
/-- what a def does with its arguments and the store -/
abbrev DF := List U → Store → Re U
/-- the def's own objects are forgotten, but what it gives back -/
def fin (n : Nat) (u : U) (S' : Store) : Re U := match u with
  | .v w => .ok (.v w) (S'.take n)
  | .o k => if k < n then .ok (.o k) (S'.take n) else match S'[k]? with
    | some ob => .ok (.o n) (S'.take n ++ [ob])
    | none => .no
def fnD (nl : Nat) (body : DS) : DF := fun us S => match body (us.map some ++ List.replicate (nl - us.length) none) S with
  | .ok (.nx _) S' => fin S.length (.v .non) S'
  | .ok (.rt u) S' => fin S.length u S'
  | .ex c _ S' => .ex c (S'.take S.length)
  | _ => .no
def spD (F : Fx) (d : DF) (n : Nat) : Sp := fun vs H Q E => ∃ (us : List U) (S : Store) (ι : List Addr) (B : Addr → Prop), RS F ι S B H ∧ RUs F H ι S B us vs ∧ us.length = n ∧ match d us S with
  | .ok u S' => ∀ v H' ι', Go ι S H ι' S' H' → RS F ι' S' B H' → RU F H' ι' S' B u v → Q v H'
  | .ex c S' => ∀ H' ι', Go ι S H ι' S' H' → RS F ι' S' B H' → E (F.ec c) none H'
  | .no => False
section
variable {F : Fx} {H H' : Hp} {ι ι' : List Addr} {S S' : Store} {B : Addr → Prop}
theorem Go.len (R : RS F ι S B H) (R' : RS F ι' S' B H') (G : Go ι S H ι' S' H') : S.length ≤ S'.length ∧ ι'.take S.length = ι := by
  obtain ⟨t, rfl⟩ := G.pre
  have h1 := R.len
  have h2 := R'.len
  rw [List.length_append] at h2
  exact ⟨by omega, by rw [← h1, List.take_left]⟩
theorem ow_take {n : Nat} {a : Addr} (h : Ow (ι'.take n) (S'.take n) a) : Ow ι' S' a := by
  obtain ⟨m, o, h1, h2, h3⟩ := h
  rw [List.getElem?_take] at h1 h3
  split at h1
  · rename_i hm
    rw [if_pos hm] at h3
    exact ⟨m, o, h1, h2, h3⟩
  · cases h1
/-- the store without what is behind -/
theorem RS.cut (hf : F.ec.rf = false) (R' : RS F ι' S' B H') (n : Nat) : RS F (ι'.take n) (S'.take n) B H' := by
  refine ⟨by simp [R'.len], R'.nd.sublist (List.take_sublist _ _), fun m o a h1 h2 => ?_, fun a h => ⟨(R'.hid a h).1, fun z => (R'.hid a h).2 (List.mem_of_mem_take z)⟩⟩
  rw [List.getElem?_take] at h1 h2
  split at h1
  · rename_i hm
    rw [if_pos hm] at h2
    have sb : ∀ b, Oq (ι'.take n) (S'.take n) B b → Oq ι' S' B b := fun b z => z.imp ow_take id
    have z := (R'.ob m o a h1 h2).less sb
    cases o with
    | ru k us => rw [z.1] at hf; cases hf
    | _ => exact z
  · cases h1
theorem cut_go (hf : F.ec.rf = false) (R : RS F ι S B H) (R' : RS F ι' S' B H') (G : Go ι S H ι' S' H') : RS F ι (S'.take S.length) B H' ∧ Go ι S H ι (S'.take S.length) H' := by
  obtain ⟨h1, h2⟩ := G.len R R'
  have R2 := R'.cut hf S.length
  rw [h2] at R2
  refine ⟨R2, G.ext, fun a z => G.own a ?_, [], by simp⟩
  rw [← h2] at z
  exact ow_take z
theorem fin_ok (hf : F.ec.rf = false) (R : RS F ι S B H) (R' : RS F ι' S' B H') (G : Go ι S H ι' S' H') {u : U} {v : V} (ru : RU F H' ι' S' B u v) {u2 : U} {S2 : Store} (h : fin S.length u S' = .ok u2 S2) :
    ∃ ι2, RS F ι2 S2 B H' ∧ Go ι S H ι2 S2 H' ∧ RU F H' ι2 S2 B u2 v := by
  obtain ⟨R2, G2⟩ := cut_go hf R R' G
  obtain ⟨hl, ht⟩ := G.len R R'
  have sub : ∀ b, Oq ι (S'.take S.length) B b → Oq ι' S' B b := fun b z => z.imp (fun z => by rw [← ht] at z; exact ow_take z) id
  cases u with
  | v w =>
    cases h
    exact ⟨ι, R2, G2, Rp.less sub ru⟩
  | o k =>
    obtain ⟨a, ha, rfl⟩ := ru
    simp only [fin] at h
    split at h
    · rename_i hk
      cases h
      exact ⟨ι, R2, G2, a, by rw [← ht, List.getElem?_take, if_pos hk]; exact ha, rfl⟩
    · rename_i hk
      cases e : S'[k]? with
      | none => simp only [e] at h; cases h
      | some ob =>
        simp only [e] at h
        cases h
        have kl : ι.length ≤ k := by rw [R.len]; omega
        have na : a ∉ ι := fun z => by
          obtain ⟨m, hm, em⟩ := List.getElem_of_mem z
          have e1 : ι'[m]? = some a := by
            obtain ⟨t, rfl⟩ := G.pre
            rw [List.getElem?_append_left hm]
            simp [hm, em]
          obtain ⟨h4, h5⟩ := List.getElem?_eq_some_iff.mp ha
          obtain ⟨h6, h7⟩ := List.getElem?_eq_some_iff.mp e1
          have := (List.getElem_inj R'.nd).mp (h5.trans h7.symm)
          omega
        have ow2 : ∀ b, Ow (ι ++ [a]) (S'.take S.length ++ [ob]) b → Ow ι' S' b := fun b z => by
          obtain ⟨m, o, h1, h2, h3⟩ := z
          have lt : (S'.take S.length).length = ι.length := by rw [List.length_take, R.len]; omega
          by_cases hm : m < ι.length
          · rw [List.getElem?_append_left (by omega)] at h1
            rw [List.getElem?_append_left hm] at h3
            exact ow_take (n := S.length) ⟨m, o, h1, h2, by rw [ht]; exact h3⟩
          · rw [List.getElem?_append_right (by omega)] at h1 h3
            obtain ⟨h4, h5⟩ := List.getElem?_eq_some_iff.mp h1
            obtain ⟨h6, h7⟩ := List.getElem?_eq_some_iff.mp h3
            simp at h5 h7
            subst h5
            subst h7
            exact ⟨k, _, e, h2, ha⟩
        have sub2 : ∀ b, Oq (ι ++ [a]) (S'.take S.length ++ [ob]) B b → Oq ι' S' B b := fun b z => z.imp (ow2 b) id
        have lt : (S'.take S.length).length = ι.length := by rw [List.length_take, R.len]; omega
        refine ⟨ι ++ [a], ⟨by simp [lt], ?_, fun m o b h1 h2 => ?_, fun b hb => ?_⟩, ⟨G.ext, fun b z => G.own b (ow2 b z), [a], rfl⟩, a, ?_, rfl⟩
        · rw [List.nodup_append]
          refine ⟨R.nd, by simp, fun x hx y hy e => ?_⟩
          simp at hy
          subst hy
          subst e
          exact na hx
        · by_cases hm : m < ι.length
          · rw [List.getElem?_append_left (by omega)] at h1
            rw [List.getElem?_append_left hm] at h2
            rw [List.getElem?_take] at h1
            split at h1
            · have z := (R'.ob m o b h1 (by
                obtain ⟨t, rfl⟩ := G.pre
                rw [List.getElem?_append_left hm]
                exact h2)).less sub2
              cases o with
              | ru k us => rw [z.1] at hf; cases hf
              | _ => exact z
            · cases h1
          · rw [List.getElem?_append_right (by omega)] at h1 h2
            obtain ⟨h4, h5⟩ := List.getElem?_eq_some_iff.mp h1
            obtain ⟨h6, h7⟩ := List.getElem?_eq_some_iff.mp h2
            simp at h5 h7
            subst h5
            subst h7
            have z := (R'.ob k _ _ e ha).less sub2
            revert z
            cases ob with
            | ru k us => intro z; rw [z.1] at hf; cases hf
            | _ => exact id
        · obtain ⟨h1, h2⟩ := R'.hid b hb
          refine ⟨h1, fun z => ?_⟩
          rcases List.mem_append.mp z with z | z
          · exact (R.hid b hb).2 z
          · simp at z; subst z; exact h2 (List.mem_of_getElem? ha)
        · rw [List.getElem?_append_right (by rw [R.len]; omega), R.len]
          simp
end
theorem spD_len {F : Fx} {d : DF} {n : Nat} : ∀ vs H Q E, spD F d n vs H Q E → vs.length = n := fun vs H Q E ⟨us, S, ι, B, _, r, h, _⟩ => by rw [← h]; exact (Paired.length r).symm
theorem RUs.begin_ {F : Fx} {H : Hp} {ι : List Addr} {S : Store} {B : Addr → Prop} {us : List U} {vs : List V} (r : RUs F H ι S B us vs) (N : List Str) : ER F H ι S B (us.map some ++ List.replicate (N.length - us.length) none) (L2.start N vs) := by
  have hl := Paired.length r
  refine ⟨by simp [L2.start, hl], fun i u h => ?_⟩
  have get : ∀ {us : List U} {vs : List V} {i : Nat} {u : U}, RUs F H ι S B us vs → us[i]? = some u → ∃ v, vs[i]? = some v ∧ RU F H ι S B u v := by
    intro us vs i u r h
    induction r generalizing i with
    | nil => simp at h
    | cons a t ih =>
      cases i with
      | zero => simp at h; subst h; exact ⟨_, rfl, a⟩
      | succ i => simpa using ih (by simpa using h)
  by_cases hi : i < us.length
  · rw [List.getElem?_append_left (by simpa using hi)] at h
    rw [List.getElem?_map] at h
    have e : us[i]? = some us[i] := by simp [hi]
    rw [e] at h
    cases h
    obtain ⟨v, h1, h2⟩ := get r e
    refine ⟨v, ?_, h2⟩
    unfold L2.start
    rw [List.getElem?_append_left (by rw [List.length_map, ← hl]; exact hi), List.getElem?_map, h1]
    rfl
  · rw [List.getElem?_append_right (by simpa using hi), List.getElem?_replicate] at h
    split at h <;> cases h
section
variable {P : Program} {w : World} {K : PySem.W.Frag} {mg : Str → Option Value} {base : Heap} {ec : Ec}
/-- THE RULE for a def -/
theorem def_ok (hrf : ec.rf = false) {x qual : Str} {params : Arguments} {body : List Stmt} {scope : Scope} {dvs : List V} {kws : List (Str × V)} {f : Addr} {fd : FuncData} {N ps : List Str} {k n nl : Nat} {d : DS} (Fn : FunD K x qual params body scope dvs kws f fd) (S : FnScope N ps scope) (hn : ps.length = n) (hnl : N.length = nl)
    (hb : ∀ (cdv : Value) (A : Around) (outer : List Env) (s : Shared) (H : Hp) (E : XK), Room k (A.deeper (envOfC qual scope s.heap.objs.size f cdv)) →
      PSsv ec (cxOf (L2.CX P w) P w K mg base N qual scope f cdv A outer s H E) body d) : FnOk P w K mg base (L2.CX P w) (k + 1) f fd ps (spD ⟨K, w, ec⟩ (fnD nl d) n) := by
  subst hn hnl
  refine Fn.ok S spD_len (fun cdv A outer s H vs Q E hr h => ⟨LS ⟨K, w, ec⟩ (fun cls d _ H => E cls d H) d, (hb cdv A outer s H E hr).run [] _ _ (takes_of rfl rfl rfl rfl) (passes_of rfl), ?_⟩)
  obtain ⟨us, St, ι, B, R, r, hl, h⟩ := h
  refine ⟨_, St, ι, B, R, r.begin_ N, ?_⟩
  unfold fnD at h
  cases e : d (us.map some ++ List.replicate (N.length - us.length) none) St with
  | no => rw [e] at h; exact h
  | ex c e1 S1 =>
    rw [e] at h
    intro σ' H' ι' G R' E'
    obtain ⟨R2, G2⟩ := cut_go hrf R R' G
    exact h H' ι G2 R2
  | ok fl S1 =>
    rw [e] at h
    cases fl with
    | bk e1 => exact h.elim
    | ct e1 => exact h.elim
    | nx e1 =>
      intro σ' H' ι' G R' E'
      simp only at h
      cases e2 : fin St.length (.v .non) S1 with
      | ok u2 S2 =>
        rw [e2] at h
        obtain ⟨ι2, R2, G2, r2⟩ := fin_ok hrf R R' G (u := .v .non) (v := .non) .non e2
        exact h _ H' ι2 G2 R2 r2
      | ex c S2 => cases e2
      | no => rw [e2] at h; exact h.elim
    | rt u =>
      intro v H' ι' G R' ru
      simp only at h
      cases e2 : fin St.length u S1 with
      | ok u2 S2 =>
        rw [e2] at h
        obtain ⟨ι2, R2, G2, r2⟩ := fin_ok hrf R R' G ru e2
        exact h _ H' ι2 G2 R2 r2
      | ex c S2 =>
        unfold fin at e2
        split at e2
        · cases e2
        · split at e2
          · cases e2
          · split at e2 <;> cases e2
      | no => rw [e2] at h; exact h.elim
end
/-- f(e, ..) of a def -/
def dFn (f : DF) (n : Nat) (a : DA) : DE := fun e S => (a e S).bind fun us S1 => if us.length = n then f us S1 else .no
section
variable {ec : Ec} {X : Cx} {e : Expr} {es : List Expr} {pos p : Pos} {das : DA} {df : DF} {n k : Nat} {f : Addr} {fd : FuncData} {ps : List Str} {x : Str}
theorem fn_reads {F : Fx} {Wx : WX} {σ : L2.St} {H : Hp} {Q : VK} (h : LE F Wx (dFn df n das) σ H Q) : tCallS (spD F df n) (WE Wx) (LA F Wx das) σ H Q := by
  obtain ⟨env, S, ι, B, R, E, h⟩ := h
  refine LA.then_ R E h fun us S1 xs H1 ι1 G1 R1 E1 ru h1 => ?_
  split at h1
  · rename_i hn
    refine ⟨us, S1, ι1, B, R1, ru, hn, ?_⟩
    cases e1 : df us S1 with
    | ok u S' => rw [e1] at h1; exact h1
    | ex c S' => rw [e1] at h1; exact h1
    | no => rw [e1] at h1; exact h1
  · exact h1.elim
end
end Bel

namespace Bel
open PySem PySem.Spec PyProof.Rows L2
section
variable {X : Cx}
end
end Bel

namespace Bel
open PySem PySem.Spec PyProof.Rows L2
section
variable {ec : Ec} {X : Cx} {e : Expr} {da : DE}
end
def repL (f : W → Value → Bool) : List W → List Value → Bool
  | [], [] => true
  | w :: ws, u :: us => f w u && repL f ws us
  | _, _ => false
def repB (K : PySem.W.Frag) : Nat → W → Value → Bool
  | n + 1, w, u => match w, u with
    | .non, .none => true
    | .bl b, .bool c => b == c
    | .int i, .int j _ => decide (i = j)
    | .str x, .str y _ => decide (y = (⟨x.toArray⟩ : Str)) && (x.all okCp && decide (x.length ≤ 16777216))
    | .tup ws, .ref a => (match K.lookup a with
      | some ⟨.type c, none, .seq its _, _⟩ => decide (c = "tuple") && (decide (its.size ≤ 16777216) && repL (repB K n) ws its.toList)
      | _ => false)
    | _, _ => false
  | 0, _, _ => false
/-- w stands for the module's value u, wherever K is the written part -/
def KonV (K : PySem.W.Frag) (w : W) (u : Value) : Prop := ∃ v, RelV v u ∧ ∀ (F : Fx), F.K = K → ∀ (H : Hp) (O : Addr → Prop), Rp F H O w v
theorem repL_ok {K : PySem.W.Frag} {f : W → Value → Bool} (hf : ∀ w u, f w u = true → KonV K w u) : ∀ (ws : List W) (us : List Value), repL f ws us = true → ∃ vs, Vals vs us ∧ ∀ (F : Fx), F.K = K → ∀ (H : Hp) (O : Addr → Prop), RpL F H O ws vs
  | [], [], _ => ⟨[], .nil, fun _ _ _ _ => .nil⟩
  | [], _ :: _, h => by cases h
  | _ :: _, [], h => by cases h
  | w :: ws, u :: us, h => by
    obtain ⟨h1, h2⟩ := He.ba (show (f w u && repL f ws us) = true from h)
    obtain ⟨v, r, q⟩ := hf w u h1
    obtain ⟨vs, rs, qs⟩ := repL_ok hf ws us h2
    exact ⟨v :: vs, .cons r rs, fun F e H O => .cons (q F e H O) (qs F e H O)⟩
theorem repB_ok {K : PySem.W.Frag} : ∀ (n : Nat) (w : W) (u : Value), repB K n w u = true → KonV K w u
  | 0, _, _, h => by cases h
  | n + 1, w, u, h => by
    cases w with
    | non => cases u with
      | none => exact ⟨.non, rfl, fun _ _ _ _ => .non⟩
      | _ => cases h
    | bl b => cases u with
      | bool c =>
        have e : b = c := eq_of_beq (show (b == c) = true from h)
        subst e
        exact ⟨.bl b, rfl, fun _ _ _ _ => .bl b⟩
      | _ => cases h
    | int i => cases u with
      | int j t =>
        have e : i = j := of_decide_eq_true h
        subst e
        exact ⟨.int i, ⟨t, rfl⟩, fun _ _ _ _ => .int i⟩
      | _ => cases h
    | str x => cases u with
      | str y t =>
        obtain ⟨h1, h2⟩ := He.ba (show (decide (y = (⟨x.toArray⟩ : Str)) && (x.all okCp && decide (x.length ≤ 16777216))) = true from h)
        obtain ⟨h3, h4⟩ := He.ba h2
        have e := of_decide_eq_true h1
        subst e
        exact ⟨.str ⟨x.toArray⟩, ⟨t, rfl⟩, fun _ _ _ _ => .str x (by rw [sizeLine_is]; exact of_decide_eq_true h4) h3⟩
      | _ => cases h
    | tup ws => cases u with
      | ref a =>
        have h1 : (match K.lookup a with
          | some ⟨.type c, none, .seq its _, _⟩ => decide (c = "tuple") && (decide (its.size ≤ 16777216) && repL (repB K n) ws its.toList)
          | _ => false) = true := h
        cases q : K.lookup a with
        | none => rw [q] at h1; cases h1
        | some o =>
          obtain ⟨oc, od, dt, osl⟩ := o
          rw [q] at h1
          cases oc with
          | type c =>
            cases od with
            | none =>
              cases dt with
              | seq its m =>
                obtain ⟨h2, h3⟩ := He.ba (show (decide (c = "tuple") && (decide (its.size ≤ 16777216) && repL (repB K n) ws its.toList)) = true from h1)
                obtain ⟨h4, h5⟩ := He.ba h3
                obtain ⟨vs, r, z⟩ := repL_ok (repB_ok n) ws its.toList h5
                refine ⟨.ref a, rfl, fun F e H O => .mkTup (.inr ?_) (z F e H O)⟩
                exact ⟨_, its, m, by rw [e]; exact q, congrArg Value.type (of_decide_eq_true h2), rfl, rfl, by rw [sizeLine_is]; exact of_decide_eq_true h4, r⟩
              | _ => cases h1
            | some _ => cases dt <;> cases h1
          | _ => cases od <;> cases dt <;> cases h1
      | _ => cases h
    | _ => cases h
abbrev Con' : Type := Str × W
def konB (K : PySem.W.Frag) (p : Con') : Bool := match PySem.W.nsIn K mainGlobals p.1 with
  | some (some u) => repB K 9 p.2 u
  | _ => false
def KonM (K : PySem.W.Frag) (mg : Str → Option Value) (x : Str) (w : W) : Prop := ∃ u, mg x = some u ∧ KonV K w u
theorem konB_ok {K : PySem.W.Frag} {h : Heap} {mg : Str → Option Value} (X : K.In h) (G : h.Ns mainGlobals mg) {x : Str} {w : W} (c : konB K (x, w) = true) : KonM K mg x w := by
  unfold konB at c
  cases q : PySem.W.nsIn K mainGlobals x with
  | none => simp only [q] at c; cases c
  | some r =>
    simp only [q] at c
    cases r with
    | none => cases c
    | some u => exact ⟨u, PySem.W.mg_of X G q, repB_ok 9 w u c⟩
theorem KonM.kon {ec : Ec} {X : Cx} {x : Str} {w : W} (h : KonM X.K X.mg x w) : Kon ec X x w := by
  obtain ⟨u, h1, v, r, q⟩ := h
  exact ⟨v, u, h1, r, fun H O => q (fx ec X) rfl H O⟩
def noLst (K : PySem.W.Frag) : Bool := K.all fun p => match p.2.cls with
  | .type c => !decide (c = "list")
  | _ => true
theorem noLst_ok {K : PySem.W.Frag} (h : noLst K = true) {a : Addr} {o : Obj} (q : K.lookup a = some o) : o.cls ≠ .type "list" := fun e => by
  have z := List.all_eq_true.mp h (a, o) (He.lookup_mem q)
  simp only [e] at z
  exact absurd z (by decide)
def Has (P : Program) (w : World) (K : PySem.W.Frag) (mg : Str → Option Value) (base : Heap) (ec : Ec) (x : Str) (k n : Nat) (d : DF) : Prop :=
  ∃ (f : Addr) (fd : FuncData) (ps : List Str), FnOk P w K mg base (L2.CX P w) k f fd ps (spD ⟨K, w, ec⟩ d n) ∧ mg x = some (.ref f) ∧ PySem.W.keepIn K (.ref f) = true ∧ Binds K fd ps []
theorem Has.mono {P : Program} {w : World} {K : PySem.W.Frag} {mg : Str → Option Value} {base : Heap} {ec : Ec} {x : Str} {j k n : Nat} {d : DF} (h : Has P w K mg base ec x j n d) (hk : j ≤ k) : Has P w K mg base ec x k n d := by
  obtain ⟨f, fd, ps, h1, h2⟩ := h
  exact ⟨f, fd, ps, h1.mono hk, h2⟩
section
variable {ec : Ec} {X : Cx} {e : Expr} {es : List Expr} {pos p : Pos} {das : DA} {df : DF} {n k : Nat} {x : Str}
end
/-- what the head tells -/
structure Hd (K : PySem.W.Frag) (mg : Str → Option Value) (fa : List He.Fa) (fn : List He.DefD) (kc : List Con') : Prop where
  says : He.SaysD fa fn K
  gl : ∀ x, (He.Fa.glo x).ok K = true → mg x = some (.ref (He.ga K x))
  fr : ∀ x, (He.Fa.free x).ok K = true → mg x = none
  kn : ∀ p ∈ kc, KonM K mg p.1 p.2
  nol : noLst K = true
section
variable {P : Program} {w : World} {K : PySem.W.Frag} {mg : Str → Option Value} {base : Heap} {ec : Ec} {fa : List He.Fa} {fn : List He.DefD} {kc : List Con'}
theorem Hd.free (Z : Hd K mg fa fn kc) (i : Nat) {x : Str} (h : fa[i]? = some (.free x) := by rfl) : mg x = none := Z.fr x (Z.says.fact i h)
theorem Hd.con (Z : Hd K mg fa fn kc) (i : Nat) {x : Str} {v : W} (h : kc[i]? = some (x, v) := by rfl) : KonM K mg x v := Z.kn (x, v) (List.mem_of_getElem? h)
theorem Hd.def_ (hrf : ec.rf = false) (Z : Hd K mg fa fn kc) (i j : Nat) {x qual : Str} {params : Arguments} {body : List Stmt} {scope : Scope} {N ps : List Str} {k n nl : Nat} {d : DS}
    (h : fn[i]? = some ⟨(x, none), x, qual, params, body, scope, [], []⟩) (hg : fa[j]? = some (.glo x)) (S : FnScope N ps scope) (hn : ps.length = n) (hnl : N.length = nl)
    (hbi : ∀ (kV doc pm : Value) (an : Option Addr) (cdv ct : Value) (us : List Value), us.length = ps.length → bindArgs (PySem.W.fnOf x qual params body scope .none kV doc pm an cdv ct) ⟨us, []⟩ = pure (ps.zip us))
    (hb : ∀ (f : Addr) (cdv : Value) (A : Around) (outer : List Env) (s : Shared) (H : Hp) (E : XK), Room k (A.deeper (envOfC qual scope s.heap.objs.size f cdv)) →
      PSsv ec (cxOf (L2.CX P w) P w K mg base N qual scope f cdv A outer s H E) body d) : Has P w K mg base ec x (k + 1) n (fnD nl d) := by
  obtain ⟨fd, F⟩ := Z.says.def_ i h
  refine ⟨He.ga K x, fd, ps, def_ok hrf (P := P) (w := w) (mg := mg) (base := base) F S hn hnl fun cdv A outer s H E hr => hb _ cdv A outer s H E hr, Z.gl x (Z.says.fact j hg), F.kp, F.bindsN hbi⟩
end
theorem cx_none {P : Program} {w : World} {H : Hp} {s s' : Shared} {e : Value} (h : L2.CX P w [] H s (fun _ _ _ => False) e s') : False := by
  obtain ⟨a, B, H', cls, d, _, _, _, _, _, _, _, z⟩ := h
  exact z
theorem law_sp {F : Fx} {df : DF} (hK : noLst F.K = true) {H : Hp} {a : Addr} {ns : List Int} (hO : Only H) (hS : SqL F.K H a (ns.map V.int)) (h : ∃ S', df [.o 0] [.scr (ns.map W.int)] = .ok (.v (.bl true)) S') : spD F df 1 [.ref a] H (fun v _ => v = .bl true) fun _ _ _ => False := by
  obtain ⟨S', h⟩ := h
  rcases hS with hS | ⟨o, its, n, h1, h2, _⟩
  · have rp : ∀ O, RpL F H O (ns.map W.int) (ns.map V.int) := fun O => by
      clear h hS
      induction ns with
      | nil => exact .nil
      | cons i r ih => exact .cons (.int i) ih
    refine ⟨[.o 0], [.scr (ns.map W.int)], [a], fun _ => False, ⟨rfl, by simp, fun m o b e1 e2 => ?_, fun _ z => z.elim⟩, .cons ⟨a, rfl, rfl⟩ .nil, rfl, ?_⟩
    · cases m with
      | zero =>
        simp at e1 e2
        subst e1 e2
        obtain ⟨ho, e⟩ : ∃ ho, H a = some ho := by
          rcases hS with z | ⟨q, z⟩
          · exact ⟨_, z⟩
          · exact ⟨_, z⟩
        exact ⟨_, ho, e, hS, rp _⟩
      | succ m => simp at e1
    · rw [h]
      intro v H' ι' G R r
      exact Rp.bl_inv r
  · exact absurd h2 (noLst_ok hK h1)
end Bel

namespace Bel
open PySem PySem.Spec PyProof.Rows L2 HT
section
variable {prog : Program} {w : World} {A : Around} {E : Value → Shared → Prop} {s : Shared}
/-- back: all the places, from the last -/
theorem places_back (n : Nat) : Builtin.Slice.slicePlaces ((n : Int) - 1) (-1) (-1) = n := by
  unfold Builtin.Slice.slicePlaces
  rw [if_neg (by decide)]
  split
  · rw [show (-(-1 : Int)) = 1 by decide, Int.ediv_one]
    omega
  · omega
theorem applied_back {sl : Addr} {vl vu vs : Value} {n : Nat} {Q : Int × Int × Nat → Shared → Prop} (hs : s.heap.IsSliceOf sl vl vu vs) (pl : IsPart vl none) (pu : IsPart vu none) (ps : IsPart vs (some (-1)))
    (h : Q ((n : Int) - 1, -1, n) s) : wpAny (model prog w) A (Builtin.Slice.sliceApplied (.ref sl) (pure (n : Int))) Q E s := by
  obtain ⟨ob, h1, h2, h3⟩ := hs
  unfold Builtin.Slice.sliceApplied Builtin.Slice.sliceFields
  refine wpAny_bind (wpAny_bind (wpAny_field h1 h3 (x := vl) rfl (wpAny_bind (wpAny_field h1 h3 (x := vu) rfl (wpAny_bind (wpAny_field h1 h3 (x := vs) rfl (wpAny_pure (wpAny_bind (slicePart_ ps ?_)))))))))
  show wpAny (model prog w) A (if ((-1 : Int) == 0) = true then _ else _) Q E s
  rw [if_neg (by decide)]
  refine wpAny_bind (slicePart_ pl (wpAny_bind (slicePart_ pu (wpAny_bind (wpAny_pure (wpAny_pure ?_))))))
  show Q ((n : Int) - 1, -1, Builtin.Slice.slicePlaces ((n : Int) - 1) (-1) (-1)) s
  rw [places_back]
  exact h
theorem pick_back (xs : Array Value) : ((List.range xs.size).filterMap fun (k : Nat) => xs[(((xs.size : Int) - 1) + (k : Int) * (-1)).toNat]?) = xs.toList.reverse := by
  have e : (List.range xs.size).filterMap (fun (k : Nat) => xs[(((xs.size : Int) - 1) + (k : Int) * (-1)).toNat]?) = ((List.range xs.size).map fun k => xs.size - 1 - k).filterMap (xs[·]?) := by
    have key : ∀ l : List Nat, (∀ k ∈ l, k < xs.size) → l.filterMap (fun (k : Nat) => xs[(((xs.size : Int) - 1) + (k : Int) * (-1)).toNat]?) = (l.map fun k => xs.size - 1 - k).filterMap (xs[·]?) := fun l => by
      induction l with
      | nil => intro _; rfl
      | cons k r ih =>
        intro hl
        have hk := hl k List.mem_cons_self
        have ek : (((xs.size : Int) - 1) + (k : Int) * (-1)).toNat = xs.size - 1 - k := by omega
        rw [List.map_cons, List.filterMap_cons, List.filterMap_cons, ih fun j hj => hl j (List.mem_cons_of_mem _ hj), ek]
    exact key _ fun k hk => List.mem_range.mp hk
  rw [e, PySem.W.krv_range, List.filterMap_reverse, PySem.W.krv_all]
theorem tup_back {t sl : Addr} {items : Array Value} {vl vu vs : Value} {Q : Value → Shared → Prop} (ht : IsTup s.heap t items) (hs : s.heap.IsSliceOf sl vl vu vs) (pl : IsPart vl none) (pu : IsPart vu none) (ps : IsPart vs (some (-1)))
    (hz : items.size ≤ sizeLine) (h : Q (.ref s.heap.objs.size) { s with heap := s.heap.push { cls := .type "tuple", data := .seq items.toList.reverse.toArray } }) : wpAny (model prog w) A (getItem (.ref t) (.ref sl)) Q E s := by
  have sz : sizeOk (.seq items.toList.reverse.toArray) := by
    show items.toList.reverse.toArray.size ≤ sizeLine
    simpa using hz
  have ty : s.TypeIs (.ref sl) "slice" := by
    obtain ⟨ob, h1, h2, _⟩ := hs
    exact ⟨ob, h1, h2⟩
  unfold getItem
  (try with_reducible refine wpAny_holding ?_)
  (first | refine wpAny_bind (wpAny_pure ?_) | skip)
  refine wpAny_bind (wpAny_sequenceKey ht.typeIs (by decide) (wpAny_bind (wpAny_callSpecial?_slot (name := Str.ofString "__getitem__") ht.typeIs PyProof.Rows.slot_tuple_getitem (wpAny_call_entry PyProof.Rows.slot_tuple_getitem ht.typeIs entry_tuple_getitem ?_ (args_tuple_getitem _ _)))))
  show wpAny _ _ (Builtin.Tuple.tupleItemsOf (.ref t) >>= _) _ _ s
  refine wpAny_bind (tupleItemsOf_ ht (wpAny_bind (wpAny_typeOf ty ?_)))
  rw [if_pos (by decide)]
  refine wpAny_bind (applied_back hs pl pu ps ?_)
  have no : ¬ ((((items.size : Int) - 1) == 0 && (-1 : Int) == 1 && items.size == items.size) = true) := by
    intro q
    rw [Bool.and_eq_true, Bool.and_eq_true] at q
    exact absurd q.1.2 (by decide)
  show wpAny _ _ (if ((((items.size : Int) - 1) == 0 && (-1 : Int) == 1 && items.size == items.size) = true) then _ else _) _ _ s
  rw [if_neg no, pick_back]
  first
    | exact wpAny_bind (m := Builtin.Tuple.tupleExact _) (wpAny_newObj_type (wpAny_pure ⟨_, rfl, wpAny_pure h⟩) sz)
    | exact wpAny_bind (m := Builtin.Tuple.tupleExact _) (wpAny_newObj_type (wpAny_bind (wpAny_pure (wpAny_pure ⟨_, rfl, wpAny_pure h⟩))) sz)
    | exact wpAny_bind (wpAny_bind (m := Builtin.Tuple.tupleExact _) (wpAny_newObj_type (wpAny_pure (wpAny_pure ⟨_, rfl, wpAny_pure h⟩)) sz))
    | exact wpAny_bind (wpAny_bind (m := Builtin.Tuple.tupleExact _) (wpAny_newObj_type (wpAny_pure ⟨_, rfl, wpAny_pure h⟩) sz))
end
section
variable {prog : Program} {w : World} {A : Around} {E : Value → Shared → Prop} {s : Shared}
theorem applied_fwd {sl : Addr} {vl vu vs : Value} {n : Nat} {Q : Int × Int × Nat → Shared → Prop} (hs : s.heap.IsSliceOf sl vl vu vs) (pl : IsPart vl none) (pu : IsPart vu none) (ps : IsPart vs (some 1))
    (h : Q (0, 1, n) s) : wpAny (model prog w) A (Builtin.Slice.sliceApplied (.ref sl) (pure (n : Int))) Q E s := by
  obtain ⟨ob, h1, h2, h3⟩ := hs
  unfold Builtin.Slice.sliceApplied Builtin.Slice.sliceFields
  refine wpAny_bind (wpAny_bind (wpAny_field h1 h3 (x := vl) rfl (wpAny_bind (wpAny_field h1 h3 (x := vu) rfl (wpAny_bind (wpAny_field h1 h3 (x := vs) rfl (wpAny_pure (wpAny_bind (slicePart_ ps ?_)))))))))
  show wpAny (model prog w) A (if ((1 : Int) == 0) = true then _ else _) Q E s
  rw [if_neg (by decide)]
  refine wpAny_bind (slicePart_ pl (wpAny_bind (slicePart_ pu (wpAny_bind (wpAny_pure (wpAny_pure ?_))))))
  have e := places_gen 0 n
  rw [Nat.sub_zero] at e
  show Q (0, 1, Builtin.Slice.slicePlaces ((0 : Nat) : Int) (n : Int) 1) s
  rw [e]
  exact h
theorem tup_fwd {t sl : Addr} {items : Array Value} {vl vu vs : Value} {Q : Value → Shared → Prop} (ht : IsTup s.heap t items) (hs : s.heap.IsSliceOf sl vl vu vs) (pl : IsPart vl none) (pu : IsPart vu none) (ps : IsPart vs (some 1))
    (h : Q (.ref t) s) : wpAny (model prog w) A (getItem (.ref t) (.ref sl)) Q E s := by
  have ty : s.TypeIs (.ref sl) "slice" := by
    obtain ⟨ob, h1, h2, _⟩ := hs
    exact ⟨ob, h1, h2⟩
  unfold getItem
  (try with_reducible refine wpAny_holding ?_)
  (first | refine wpAny_bind (wpAny_pure ?_) | skip)
  refine wpAny_bind (wpAny_sequenceKey ht.typeIs (by decide) (wpAny_bind (wpAny_callSpecial?_slot (name := Str.ofString "__getitem__") ht.typeIs PyProof.Rows.slot_tuple_getitem (wpAny_call_entry PyProof.Rows.slot_tuple_getitem ht.typeIs entry_tuple_getitem ?_ (args_tuple_getitem _ _)))))
  show wpAny _ _ (Builtin.Tuple.tupleItemsOf (.ref t) >>= _) _ _ s
  refine wpAny_bind (tupleItemsOf_ ht (wpAny_bind (wpAny_typeOf ty ?_)))
  rw [if_pos (by decide)]
  refine wpAny_bind (applied_fwd hs pl pu ps ?_)
  have yes : (((0 : Int) == 0 && (1 : Int) == 1 && items.size == items.size) = true) := by simp
  show wpAny _ _ (if (((0 : Int) == 0 && (1 : Int) == 1 && items.size == items.size) = true) then _ else _) _ _ s
  rw [if_pos yes]
  refine wpAny_bind ?_
  show wpAny _ _ (typeOf (.ref t) >>= fun T => pure (T == .type "tuple")) _ _ s
  refine wpAny_bind (wpAny_typeOf ht.typeIs (wpAny_pure ?_))
  first
    | rw [if_pos (by decide)]
    | simp only [beq_self_eq_true, if_true]
  first
    | exact wpAny_bind (wpAny_rule (wpAny_pure ⟨_, rfl, wpAny_pure h⟩))
    | exact wpAny_bind (wpAny_rule (wpAny_bind (wpAny_pure (wpAny_pure ⟨_, rfl, wpAny_pure h⟩))))
end
/-- e[::st] -/
def qStep (K : PySem.W.Frag) (x : V) (Q : VK) (o : Option Int) (J : Hp) : Prop :=
  (o = some (-1) ∧ ((∃ a xs, x = .ref a ∧ SqT K J a xs ∧ NewT J xs.reverse Q) ∨ (∃ a xs, x = .ref a ∧ SqL K J a xs ∧ ∀ p, J p = none → Q (.ref p) (upd J p (.lst xs.reverse))))) ∨
  (o = some 1 ∧ ∃ a xs, x = .ref a ∧ SqT K J a xs ∧ Q (.ref a) J)
def tStep (K : PySem.W.Frag) (te ts : TE) : TE := fun σ H Q => te σ H fun x H1 => tPart ts σ H1 (qStep K x Q)
theorem pe_step {X : Cx} {e st : Expr} {te ts : TE} {p3 pos : Pos} (he : PE X e te) (hst : PE X st ts) : PE X (.Subscript e (.Slice none none (some st) p3) pos) (tStep X.K te ts) := by
  refine ⟨fun pins s σ H Q I h => Subscript_ (thn (he.run pins s σ H _ I h) fun v s1 ⟨x, H1, I1, r1, q1⟩ => ?_)⟩
  refine wpAny_Slice (thn (po_none.run pins s1 σ H1 (fun o J => o = none ∧ J = H1) I1 ⟨rfl, rfl⟩) fun vl s2 z2 => ?_)
  obtain ⟨l, H2, I2, pl, rfl, rfl⟩ := z2
  refine thn (po_none.run pins s2 σ H2 (fun o J => o = none ∧ J = H2) I2 ⟨rfl, rfl⟩) fun vu s3 z3 => ?_
  obtain ⟨u, H3, I3, pu, rfl, rfl⟩ := z3
  refine thn ((po_some hst).run pins s3 σ H3 (qStep X.K x Q) I3 q1) fun vs s4 z4 => ?_
  obtain ⟨o, H4, I4, ps, q⟩ := z4
  have I5 : Inv X pins σ H4 { s4 with heap := s4.heap.push { cls := .type "slice", data := .fields #[vl, vu, vs] } } := I4.kept (t' := s4.toks) fun b ob q => Heap.get?_push_of_some _ q
  have sp := Heap.IsSliceOf.new s4.heap vl vu vs
  rcases q with ⟨rfl, ⟨a, xs, rfl, hx, q⟩ | ⟨a, xs, rfl, hx, q⟩⟩ | ⟨rfl, a, xs, rfl, hx, q⟩
  · cases r1
    show wpAny (model X.prog X.w) X.A (subscriptTail e (.Slice none none (some st) p3) (.ref a) (.ref s4.heap.objs.size)) (EP X pins σ Q) X.xe { s4 with heap := s4.heap.push { cls := .type "slice", data := .fields #[vl, vu, vs] } }
    obtain ⟨its, r, ht, hz⟩ := I5.tuple hx
    refine tail_any (T := "tuple") (ops := [.ref a, .ref s4.heap.objs.size]) ht.typeIs (PyProof.Rows.slot_tuple_getitem.lookup) ?_ (by with_unfolding_all rfl)
    have hlen := r.length
    refine tup_back ht sp pl pu ps (by rw [List.size_toArray]; omega) ?_
    exact tup_push I5 (by rw [List.length_reverse]; exact hz) r.reverse q
  · cases r1
    show wpAny (model X.prog X.w) X.A (subscriptTail e (.Slice none none (some st) p3) (.ref a) (.ref s4.heap.objs.size)) (EP X pins σ Q) X.xe { s4 with heap := s4.heap.push { cls := .type "slice", data := .fields #[vl, vu, vs] } }
    obtain ⟨its, r, ht, hz⟩ := I5.list hx
    refine tail_any (T := "list") (ops := [.ref a, .ref s4.heap.objs.size]) ht.isList.typeIs (PySem.slot_list_getitem.lookup) ?_ (by with_unfolding_all rfl)
    have hlen := r.length
    refine wpAny_getItem_list_slice ht.isList sp pl pu ps (by decide) ?_ (by rw [List.size_toArray]; omega)
    rw [PySem.W.krv_pick]
    refine ⟨.ref _, _, I5.laid (t' := s4.toks) (o := .lst xs.reverse) (fun b ob q => Heap.get?_push_of_some _ q) (Nat.le_refl _) ?_, rfl, q _ (I5.hok.fresh (Nat.le_refl _))⟩
    exact ⟨by rw [List.length_reverse]; exact hz, _, 0, r.reverse, Heap.get?_push_size _ rfl⟩
  · cases r1
    show wpAny (model X.prog X.w) X.A (subscriptTail e (.Slice none none (some st) p3) (.ref a) (.ref s4.heap.objs.size)) (EP X pins σ Q) X.xe { s4 with heap := s4.heap.push { cls := .type "slice", data := .fields #[vl, vu, vs] } }
    obtain ⟨its, r, ht, hz⟩ := I5.tuple hx
    exact tail_any (T := "tuple") (ops := [.ref a, .ref s4.heap.objs.size]) ht.typeIs (PyProof.Rows.slot_tuple_getitem.lookup) (tup_fwd ht sp pl pu ps ⟨.ref a, _, I5, rfl, q⟩) (by with_unfolding_all rfl)
/-- e[::st]: st is 1 (of a tuple: itself) or -1 -/
def dStep (own : Bool) (a b : DE) : DE := fun e S => (a e S).bind fun u S1 => (b e S1).bind fun v S2 => match dr S2 u, v with
  | some (.tup l), .v (.int i) => if i = -1 then (Out.nt l.reverse).put own S2 else if i = 1 then .ok (.v (.tup l)) S2 else .no
  | some (.lst l), .v (.int i) => if i = -1 then (Out.nl l.reverse).put own S2 else .no
  | _, _ => .no
theorem ev_step {ec : Ec} {X : Cx} {e st : Expr} {da db : DE} {own : Bool} {p3 pos : Pos} (ha : PEv ec X e da) (hb : PEv ec X st db) : PEv ec X (.Subscript e (.Slice none none (some st) p3) pos) (dStep own da db) :=
  ⟨fun pn xe Wx tk => (pe_step (ha.run pn xe Wx tk) (hb.run pn xe Wx tk)).imp fun σ H Q ⟨env, S, ι, B, R, E, h⟩ => by
    refine LE.then_ R E h fun u S1 v H1 ι1 G1 R1 E1 ru h1 => ?_
    refine LE.then_ R1 E1 h1 fun u2 S2 v2 H2 ι2 G2 R2 E2 ru2 h2 => ?_
    cases q : dr S2 u with
    | none => simp only [q] at h2; exact h2.elim
    | some w =>
      have r := RU.rt R2 (RU.go G2 ru) q
      simp only [q] at h2
      cases u2 with
      | o n => cases w <;> exact h2.elim
      | v w2 =>
        cases w2 with
        | int i =>
          cases w with
          | tup l =>
            have rr : Rp (fx ec X) H2 (Oq ι2 S2 B) (.tup l) v := r
            simp only at h2
            by_cases hi : i = -1
            · rw [if_pos hi] at h2
              subst hi
              obtain ⟨a, vs, rfl, h3, h4⟩ := rr.tup_inv
              exact ⟨-1, Rp.int_inv ru2, .inl ⟨rfl, .inl ⟨a, vs, rfl, h3.sq, (put_ok R2 h2).2 _ h4.reverse⟩⟩⟩
            · rw [if_neg hi] at h2
              by_cases hj : i = 1
              · rw [if_pos hj] at h2
                subst hj
                obtain ⟨a, vs, rfl, h3, h4⟩ := rr.tup_inv
                exact ⟨1, Rp.int_inv ru2, .inr ⟨rfl, a, vs, rfl, h3.sq, h2 _ H2 ι2 .refl R2 rr⟩⟩
              · rw [if_neg hj] at h2
                exact h2.elim
          | lst l =>
            simp only at h2
            by_cases hi : i = -1
            · rw [if_pos hi] at h2
              subst hi
              obtain ⟨a, vs, rfl, h3, h4⟩ := r
              exact ⟨-1, Rp.int_inv ru2, .inl ⟨rfl, .inr ⟨a, vs, rfl, .inl h3, fun p hp => (put_ok R2 h2) p _ hp h4.reverse⟩⟩⟩
            · rw [if_neg hi] at h2
              exact h2.elim
          | _ => exact h2.elim
        | _ => cases w <;> exact h2.elim⟩
end Bel

namespace Bel
open PySem PySem.Spec PyProof.Rows L2
def rNeNil (K : PySem.W.Frag) : R2 := fun x y H Q => ∃ a b xs, x = .ref a ∧ y = .ref b ∧ SqL K H a xs ∧ SqL K H b [] ∧ Q (.bl (!xs.isEmpty)) H
theorem op_neNil {X : Cx} (hu : X.A.units < cLine) : OpR X (compareOp .NotEq) (rNeNil X.K) := by
  intro pins s σ H x y v u Q I rx ry h
  obtain ⟨a, b, xs, rfl, rfl, ha, hb, q⟩ := h
  cases rx
  cases ry
  obtain ⟨its, r, h1, _⟩ := I.list ha
  obtain ⟨its2, r2, h2, _⟩ := I.list hb
  cases r2
  cases xs with
  | nil =>
    cases r
    exact SeqAt.RcNeAt.lists (e := fun _ => true) h1.isList h2.isList rfl hu (fun j z _ => absurd z (Nat.not_lt_zero j)) X.prog X.w _ _ ⟨.bl false, H, I, rfl, q⟩
  | cons z zs =>
    refine SeqAt.RcNeAt.lists_lengths h1.isList h2.isList ?_ hu X.prog X.w _ _ ⟨.bl true, H, I, rfl, q⟩
    have hl := r.length
    rw [List.size_toArray, ← hl]
    rfl
def fNeNil : W → W → Option Out
  | .lst l, .lst [] => some (.val (.bl (!l.isEmpty)))
  | _, _ => none
theorem ow_neNil {F : Fx} : OpW F fNeNil (rNeNil F.K) := by
  intro H O x y w z o Q rx ry e q
  unfold fNeNil at e
  split at e
  · rename_i l
    cases some_inj e
    obtain ⟨a, vs, rfl, h1, r1⟩ := rx
    obtain ⟨b, us, rfl, h2, r2⟩ := ry
    have e2 := r2.nil_iff
    subst e2
    have e3 : vs.isEmpty = l.isEmpty := by
      have := r1.1
      cases l <;> cases vs <;> simp_all
    exact ⟨a, b, vs, rfl, rfl, .inl h1, .inl h2, by rw [e3]; exact q _ (.bl _)⟩
  · cases e
section
variable {P : Program} {w : World} {K : PySem.W.Frag} {mg : Str → Option Value} {base : Heap} {ec : Ec} {fa : List He.Fa} {fn : List He.DefD} {kc : List Con'}
theorem Hd.zero (Z : Hd K mg fa fn kc) (i j : Nat) {x qual : Str} {params : Arguments} {body : List Stmt} {scope : Scope} {ps : List Str} {k n : Nat}
    (h : fn[i]? = some ⟨(x, none), x, qual, params, body, scope, [], []⟩) (hg : fa[j]? = some (.glo x)) (hn : ps.length = n)
    (hbi : ∀ (kV doc pm : Value) (an : Option Addr) (cdv ct : Value) (us : List Value), us.length = ps.length → bindArgs (PySem.W.fnOf x qual params body scope .none kV doc pm an cdv ct) ⟨us, []⟩ = pure (ps.zip us)) : Has P w K mg base ec x k n fun _ _ => .no := by
  subst hn
  obtain ⟨fd, F⟩ := Z.says.def_ i h
  refine ⟨He.ga K x, fd, ps, ⟨spD_len, fun A outer s H args us vs Q E hr he hb hv hs => ?_⟩, Z.gl x (Z.says.fact j hg), F.kp, F.bindsN hbi⟩
  obtain ⟨_, _, _, _, _, _, _, z⟩ := hs
  exact z.elim
end
end Bel

namespace Bel
open PySem PySem.Spec PyProof.Rows L2
/-- f tells what the list becomes, what is given back -/
def OpMu (F : Fx) (f : List W → List W → Option (List W × W)) (r : V → List V → Hp → VK → Prop) : Prop := ∀ (H : Hp) (O : Addr → Prop) (a : Addr) (vs xs : List V) (l ws l' : List W) (w : W) (Q : VK), H a = some (.lst vs) → RpL F H O l vs → RpL F H O ws xs → f l ws = some (l', w) →
  (∀ vs' v, RpL F H O l' vs' → Rp F H O w v → Q v (upd H a (.lst vs'))) → r (.ref a) xs H Q
def dMut (f : List W → List W → Option (List W × W)) (o : DE) (a : DA) : DE := fun e S => (o e S).bind fun u S1 => match u with
  | .o n => match S1[n]? with
    | some (.lst _) => (a e S1).bind fun us S2 => match S2[n]?, allV us with
      | some (.lst l), some ws => match f l ws with
        | some (l', w) => .ok (.v w) (S2.set n (.lst l'))
        | none => .no
      | _, _ => .no
    | _ => .no
  | .v _ => .no
section
variable {ec : Ec} {X : Cx} {e o : Expr} {es : List Expr} {da : DE} {das : DA} {apos cpos : Pos}
theorem mut_core {F : Fx} {Wx : WX} {σ : L2.St} {H : Hp} {ι : List Addr} {S : Store} {B : Addr → Prop} {f : List W → List W → Option (List W × W)} {r : V → List V → Hp → VK → Prop} {Q : VK} (hf : OpMu F f r) (R : RS F ι S B H) {n : Nat} {a : Addr} (ha : ι[n]? = some a) {us : List U} {xs : List V} (ru : RUs F H ι S B us xs)
    (h : PoE F Wx σ ι S B H (match S[n]?, allV us with
      | some (.lst l), some ws => match f l ws with
        | some (l', w) => .ok (.v w) (S.set n (.lst l'))
        | none => .no
      | _, _ => .no) Q) : r (.ref a) xs H Q := by
  cases e1 : S[n]? with
  | none => simp only [e1] at h; exact h.elim
  | some ob =>
    cases ob with
    | lst l =>
      cases e2 : allV us with
      | none => simp only [e1, e2] at h; exact h.elim
      | some ws =>
        simp only [e1, e2] at h
        cases e3 : f l ws with
        | none => simp only [e3] at h; exact h.elim
        | some p =>
          obtain ⟨l', w⟩ := p
          simp only [e3] at h
          obtain ⟨vs, h1, h2⟩ := R.lst e1 ha
          refine hf H _ a vs xs l ws l' w Q h1 h2 (allV_rp ru e2) e3 fun vs' v r1 r2 => ?_
          obtain ⟨R', G⟩ := R.write (ho := .lst vs') (o' := .lst l') e1 (fun z => nomatch z) ha ⟨vs', rfl, r1⟩
          exact h v _ ι G R' (Rp.go G r2)
    | _ => simp only [e1] at h; exact h.elim
theorem own_ty {F : Fx} {H : Hp} {ι : List Addr} {S : Store} {B : Addr → Prop} (R : RS F ι S B H) {n : Nat} {a : Addr} {l : List W} (ha : ι[n]? = some a) (e : S[n]? = some (.lst l)) : tyV F.K "list" (.ref a) H := by
  obtain ⟨vs, h1, _⟩ := R.lst e ha
  exact .inl ⟨rfl, vs, .inl (.inl h1)⟩
theorem ev_mut {id : String} {name : Str} {f : List W → List W → Option (List W × W)} {r : V → List V → Hp → VK → Prop} (slot : Slot "list" name id) (hty : typeOf (.builtin id) = pure (.type "method_descriptor")) (hm : ∀ pn xe, MtM (X.tr pn xe) id r)
    (hf : OpMu (fx ec X) f r) (ho : PEv ec X o da) (ha : PAv ec X (e :: es) das)
    (hbase : attributeBase o name X.env (eval o X.env) = eval o X.env := by rfl)
    (hfew : ((backTo cpos (starEach (e :: es) X.env)).all (fun x => !x.1) && (backToKw cpos (keywordEach [] X.env)).all (fun x => x.1.isSome)
      && decide ((e :: es).length + ([] : List Keyword).length + (if ([] : List Keyword).isEmpty then 0 else 1) < 30)) = true := by rfl)
    (hline : (apos.endLine == cpos.line) = true := by rfl) (hs : starEach (e :: es) X.env = (false, eval e X.env) :: starEach es X.env := by rfl) (hplain : (backTo cpos (starEach es X.env)).any (·.1) = false := by rfl) :
    PEv ec X (.Call (.Attribute o name apos) (e :: es) [] cpos) (dMut f da das) :=
  ⟨fun pn xe Wx tk => (pe_bm (X := X.tr pn xe) F.plainAttrs_list slot hty (hm pn xe) (ho.run pn xe Wx tk) (ha.run pn xe Wx tk) hbase hfew hline hs hplain).imp fun σ H Q ⟨env, S, ι, B, R, E, h⟩ => by
    refine LE.then_ R E h fun u S1 x H1 ι1 G1 R1 E1 ru h1 => ?_
    cases u with
    | v w => exact h1.elim
    | o n =>
      cases e1 : S1[n]? with
      | none => simp only [e1] at h1; exact h1.elim
      | some ob =>
        cases ob with
        | lst l =>
          simp only [e1] at h1
          obtain ⟨a, ha1, rfl⟩ := ru
          refine ⟨own_ty R1 ha1 e1, LA.then_ R1 E1 h1 fun us S2 xs H2 ι2 G2 R2 E2 rus h2 => ?_⟩
          have ha2 : ι2[n]? = some a := by
            obtain ⟨t, rfl⟩ := G2.pre
            rw [List.getElem?_append_left (List.getElem?_eq_some_iff.mp ha1).1]
            exact ha1
          exact mut_core hf R2 ha2 rus h2
        | _ => simp only [e1] at h1; exact h1.elim⟩
end
def fAppend : List W → List W → Option (List W × W)
  | l, [w] => if l.length < 16777216 then some (l ++ [w], .non) else none
  | _, _ => none
theorem om_append {F : Fx} : OpMu F fAppend rAppend := by
  intro H O a vs xs l ws l' w Q h1 r1 r2 e q
  unfold fAppend at e
  split at e
  · rename_i y
    split at e
    · rename_i hl
      obtain ⟨rfl, rfl⟩ := Prod.mk.inj (some_inj e)
      obtain ⟨v, vs', rfl, h3, r3⟩ := r2.cons_iff
      have e2 := r3.nil_iff
      subst e2
      exact ⟨a, vs, v, rfl, rfl, h1, by rw [sizeLine_is, ← r1.1]; exact hl, q _ .non (r1.append (.cons h3 .nil)) .non⟩
    · cases e
  · cases e
end Bel

namespace Bel
open PySem PySem.Spec PyProof.Rows L2
def repD (K : PySem.W.Frag) : List DictEntry → List (List Nat × W) → Bool
  | [], [] => true
  | e :: es, p :: ps => (match e.key with
    | .str x _ => decide (x = (⟨p.1.toArray⟩ : Str))
    | _ => false) && (repB K 9 p.2 e.val && repD K es ps)
  | _, _ => false
theorem repD_ok {K : PySem.W.Frag} : ∀ (es : List DictEntry) (l : List (List Nat × W)), repD K es l = true → ∃ kvs : List (Str × V), l.length = kvs.length ∧
    (∀ (i : Nat) (w : List Nat × W) (v : Str × V), l[i]? = some w → kvs[i]? = some v → v.1 = ⟨w.1.toArray⟩) ∧
    (∀ (F : Fx), F.K = K → ∀ (H : Hp) (O : Addr → Prop) (i : Nat) (w : List Nat × W) (v : Str × V), l[i]? = some w → kvs[i]? = some v → Rp F H O w.2 v.2) ∧
    (∀ x : Str, match kvs.lookup x with
      | some v => ∃ e, es.find? (·.key.isStr x) = some e ∧ RelV v e.val
      | none => es.find? (·.key.isStr x) = none) ∧ es.any (·.refKey) = false
  | [], [], _ => ⟨[], rfl, fun i w v h => by simp at h, fun F _ H O i w v h => by simp at h, fun x => rfl, rfl⟩
  | [], _ :: _, h => by cases h
  | _ :: _, [], h => by cases h
  | e :: es, p :: ps, h => by
    obtain ⟨h1, h2⟩ := He.ba h
    obtain ⟨h3, h4⟩ := He.ba h2
    obtain ⟨kvs, k1, k2, k3, k4, k5⟩ := repD_ok es ps h4
    obtain ⟨v, r, q⟩ := repB_ok 9 p.2 e.val h3
    cases ek : e.key with
    | str y t =>
      rw [ek] at h1
      have ey : y = (⟨p.1.toArray⟩ : Str) := of_decide_eq_true h1
      refine ⟨(y, v) :: kvs, by simp [k1], fun i w u a b => ?_, fun F e H O i w u a b => ?_, fun x => ?_, ?_⟩
      · cases i with
        | zero => simp at a b; subst a b; exact ey
        | succ i => simp at a b; exact k2 i w u a b
      · cases i with
        | zero => simp at a b; subst a b; exact q F e H O
        | succ i => simp at a b; exact k3 F e H O i w u a b
      · by_cases hx : x = y
        · subst hx
          have e1 : ((x, v) :: kvs).lookup x = some v := by simp [List.lookup]
          rw [e1]
          exact ⟨e, by simp [List.find?, ek, Value.isStr], r⟩
        · have e1 : ((y, v) :: kvs).lookup x = kvs.lookup x := by
            have : (x == y) = false := by simpa using hx
            simp [List.lookup, this]
          have e2 : (e :: es).find? (·.key.isStr x) = es.find? (·.key.isStr x) := by
            have : e.key.isStr x = false := by
              rw [ek]
              have : (y == x) = false := by simpa using fun z => hx z.symm
              simpa [Value.isStr] using fun z => hx z.symm
            simp [List.find?, this]
          rw [e1, e2]
          exact k4 x
      · rw [List.any_cons, k5]
        simp [DictEntry.refKey, ek]
    | _ => rw [ek] at h1; cases h1
def kdB (K : PySem.W.Frag) (p : Str × List (List Nat × W)) : Bool := match K.lookup (He.ga K p.1) with
  | some ⟨_, _, .dict es _, _⟩ => repD K es.toList p.2
  | _ => false
/-- the module's name x stands for a written dict -/
def KonD (K : PySem.W.Frag) (mg : Str → Option Value) (w : World) (x : Str) (l : List (List Nat × W)) : Prop := ∃ a, mg x = some (.ref a) ∧ ∀ (F : Fx), F.K = K → F.w = w → ∀ (H : Hp) (O : Addr → Prop), Rp F H O (.kdc l) (.ref a)
theorem kdB_ok {K : PySem.W.Frag} {mg : Str → Option Value} {w : World} {p : Str × List (List Nat × W)} (hm : mg p.1 = some (.ref (He.ga K p.1))) (hd : ∃ es n, KDict K w (He.ga K p.1) es n) (c : kdB K p = true) : KonD K mg w p.1 p.2 := by
  obtain ⟨es, n, kd⟩ := hd
  refine ⟨_, hm, fun F eK ew H O => ?_⟩
  unfold kdB at c
  simp only [kd.at_] at c
  obtain ⟨kvs, k1, k2, k3, k4, k5⟩ := repD_ok es.toList p.2 c
  refine .kdc (kvs := kvs) ⟨⟨es, n, by rw [eK]; exact kd.at_, by rw [ew]; exact kd.lit, kd.low⟩, fun x => ?_⟩ k1 k2 fun i w v a b => k3 F eK H O i w v a b
  have z := k4 x
  have en : PySem.W.nsIn F.K (He.ga K p.1) x = match es.toList.find? (·.key.isStr x) with
      | some e => some (some e.val)
      | none => if es.toList.any (·.refKey) then none else some none := by
    unfold PySem.W.nsIn
    rw [eK, kd.at_]
    rfl
  cases q : kvs.lookup x with
  | some v =>
    rw [q] at z
    obtain ⟨e, h1, r⟩ := z
    rw [h1] at en
    exact ⟨_, en, r⟩
  | none =>
    rw [q] at z
    have z : es.toList.find? (·.key.isStr x) = none := z
    rw [z, k5] at en
    exact en
theorem KonD.kon {ec : Ec} {X : Cx} {x : Str} {l : List (List Nat × W)} (h : KonD X.K X.mg X.w x l) : Kon ec X x (.kdc l) := by
  obtain ⟨a, h1, q⟩ := h
  exact ⟨.ref a, .ref a, h1, rfl, fun H O => q (fx ec X) rfl rfl H O⟩
end Bel

namespace Bel
open PySem PySem.Spec PyProof.Rows L2
abbrev Kd : Type := Str × List (List Nat × W)
/-- .. and of the module's dicts -/
structure HdW (K : PySem.W.Frag) (mg : Str → Option Value) (w : World) (fa : List He.Fa) (fn : List He.DefD) (kc : List Con') (kd : List Kd) : Prop extends Hd K mg fa fn kc where
  kdn : ∀ p ∈ kd, KonD K mg w p.1 p.2
theorem HdW.dic {K : PySem.W.Frag} {mg : Str → Option Value} {w : World} {fa : List He.Fa} {fn : List He.DefD} {kc : List Con'} {kd : List Kd} (Z : HdW K mg w fa fn kc kd) (i : Nat) {x : Str} {l : List (List Nat × W)} (h : kd[i]? = some (x, l) := by rfl) : KonD K mg w x l := Z.kdn (x, l) (List.mem_of_getElem? h)
def tabs (kd : List Kd) : List He.Tab := kd.map fun p => ((fun K => He.ga K p.1), p.2.map fun q => (⟨q.1.toArray⟩ : Str))
/-- what is looked at beside the facts -/
def exB (kc : List Con') (kd : List Kd) (K : PySem.W.Frag) : Bool := noLst K && (kc.all (konB K) && (kd.all (kdB K) && kd.all fun p => (He.Fa.glo p.1).ok K))
end Bel

namespace Bel
open PySem PySem.Spec PyProof.Rows L2
end Bel

namespace Bel
open PySem PySem.Spec PyProof.Rows L2
@[simp] theorem dVar_ap (i : Nat) (e : Env') (S : Store) : dVar i e S = match e[i]? with
  | some (some u) => .ok u S
  | _ => .no := rfl
@[simp] theorem dC_ap (w : W) (e : Env') (S : Store) : dC w e S = .ok (.v w) S := rfl
@[simp] theorem dBin_ap (own : Bool) (f : W → W → Option Out) (a b : DE) (e : Env') (S : Store) : dBin own f a b e S = (a e S).bind fun u S1 => (b e S1).bind fun v S2 => match dr S2 u, dr S2 v with
  | some x, some y => putO own (f x y) S2
  | _, _ => .no := rfl
@[simp] theorem dT_ap (d : DE) (e : Env') (S : Store) : dT d e S = (d e S).bind fun u S1 => match u with
  | .v (.bl k) => .ok k S1
  | _ => .no := rfl
@[simp] theorem dAnd_ap (a b : DT) (e : Env') (S : Store) : dAnd a b e S = (a e S).bind fun k S1 => if k = true then b e S1 else .ok false S1 := rfl
@[simp] theorem dOr_ap (a b : DT) (e : Env') (S : Store) : dOr a b e S = (a e S).bind fun k S1 => if k = true then .ok true S1 else b e S1 := rfl
@[simp] theorem dNot_ap (a : DT) (e : Env') (S : Store) : dNot a e S = (a e S).bind fun k S1 => .ok (!k) S1 := rfl
@[simp] theorem dAndV_ap (a b : DE) (e : Env') (S : Store) : dAndV a b e S = (a e S).bind fun u S1 => match u with
  | .v (.bl k) => if k = true then b e S1 else .ok (.v (.bl false)) S1
  | _ => .no := rfl
@[simp] theorem dOrV_ap (a b : DE) (e : Env') (S : Store) : dOrV a b e S = (a e S).bind fun u S1 => match u with
  | .v (.bl k) => if k = true then .ok (.v (.bl true)) S1 else b e S1
  | _ => .no := rfl
@[simp] theorem dNotV_ap (a : DE) (e : Env') (S : Store) : dNotV a e S = (a e S).bind fun u S1 => match u with
  | .v (.bl k) => .ok (.v (.bl (!k))) S1
  | _ => .no := rfl
@[simp] theorem dIf_ap (c : DT) (a b : DE) (e : Env') (S : Store) : dIf c a b e S = (c e S).bind fun k S1 => if k = true then a e S1 else b e S1 := rfl
@[simp] theorem dNeg_ap (a : DE) (e : Env') (S : Store) : dNeg a e S = (a e S).bind fun u S1 => match u with
  | .v (.int i) => .ok (.v (.int (-i))) S1
  | _ => .no := rfl
@[simp] theorem dNil_ap (e : Env') (S : Store) : dNil e S = .ok [] S := rfl
@[simp] theorem dCons_ap (a : DE) (r : DA) (e : Env') (S : Store) : dCons a r e S = (a e S).bind fun u S1 => (r e S1).bind fun us S2 => .ok (u :: us) S2 := rfl
@[simp] theorem dDisp_ap (own : Bool) (mk : List W → Out) (a : DA) (e : Env') (S : Store) : dDisp own mk a e S = (a e S).bind fun us S1 => putO own (fDisp mk us) S1 := rfl
@[simp] theorem dNoPart_ap (e : Env') (S : Store) : dNoPart e S = .ok none S := rfl
@[simp] theorem dPart_ap (d : DE) (e : Env') (S : Store) : dPart d e S = (d e S).bind fun u S1 => match u with
  | .v (.int i) => .ok (some i) S1
  | _ => .no := rfl
@[simp] theorem dSl_ap (own : Bool) (a : DE) (lo hi : DO) (e : Env') (S : Store) : dSl own a lo hi e S = (a e S).bind fun u S1 => (lo e S1).bind fun l S2 => (hi e S2).bind fun h S3 => match dr S3 u with
  | some w => putO own (fSl w l h) S3
  | none => .no := rfl
@[simp] theorem dCall_ap (own : Bool) (f : List W → Option Out) (a : DA) (e : Env') (S : Store) : dCall own f a e S = (a e S).bind fun us S1 => match drs S1 us with
  | some ws => putO own (f ws) S1
  | none => .no := rfl
@[simp] theorem dIsT_ap (q : W → Bool) (a : DE) (e : Env') (S : Store) : dIsT q a e S = (a e S).bind fun u S1 => match dr S1 u with
  | some w => if isBad w = true then .no else .ok (.v (.bl (q w))) S1
  | none => .no := rfl
@[simp] theorem dNext_ap (e : Env') (S : Store) : dNext e S = .ok (.nx e) S := rfl
@[simp] theorem dSeq_ap (a b : DS) (e : Env') (S : Store) : dSeq a b e S = (a e S).bind b := rfl
@[simp] theorem dFrzV_ap (i : Nat) (e : Env') (S : Store) : dFrzV i e S = match e[i]? with
  | some (some u) => (frz S u).st e fun w S' => .ok (.nx (e.set i (some w))) S'
  | _ => .no := rfl
@[simp] theorem dRet_ap (d : DE) (e : Env') (S : Store) : dRet d e S = (d e S).st e fun u S1 => .ok (.rt u) S1 := rfl
@[simp] theorem dAsg_ap (i : Nat) (d : DE) (e : Env') (S : Store) : dAsg i d e S = (d e S).st e fun u S1 => .ok (.nx (e.set i (some u))) S1 := rfl
@[simp] theorem dDrop_ap (d : DE) (e : Env') (S : Store) : dDrop d e S = (d e S).st e fun _ S1 => .ok (.nx e) S1 := rfl
@[simp] theorem dIfS_ap (c : DT) (a b : DS) (e : Env') (S : Store) : dIfS c a b e S = (c e S).st e fun k S1 => if k = true then a e S1 else b e S1 := rfl
@[simp] theorem dSetL_ap (o i v : DE) (e : Env') (S : Store) : dSetL o i v e S = (v e S).st e fun uv S1 => (o e S1).st e fun uo S2 => (i e S2).st e fun ui S3 => match uv, uo, ui with
  | .v w, .o n, .v (.int k) => match S3[n]? with
    | some (.lst l) => match ixN l.length k with
      | some j => .ok (.nx e) (S3.set n (.lst (l.set j w)))
      | none => .no
    | _ => .no
  | _, _, _ => .no := rfl
@[simp] theorem dPar_ap (i j : Nat) (a : DA) (e : Env') (S : Store) : dPar i j a e S = (a e S).st e fun us S1 => match us with
  | [u, v] => .ok (.nx ((e.set i (some u)).set j (some v))) S1
  | _ => .no := rfl
@[simp] theorem dItL_ap (d : DE) (e : Env') (S : Store) : dItL d e S = (d e S).bind fun u S1 => match u with
  | .v (.lst l) => .ok l S1
  | _ => .no := rfl
@[simp] theorem dItT_ap (d : DE) (e : Env') (S : Store) : dItT d e S = (d e S).bind fun u S1 => match u with
  | .v (.tup l) => .ok l S1
  | _ => .no := rfl
@[simp] theorem dRng1_ap (d : DE) (e : Env') (S : Store) : dRng1 d e S = (d e S).bind fun u S1 => match u with
  | .v (.int n) => if n < 2 ^ 62 ∧ -(2 ^ 62) ≤ n then .ok ((List.range n.toNat).map fun i => .int (Int.ofNat i)) S1 else .no
  | _ => .no := rfl
@[simp] theorem dFor_ap (src : DI) (t : W → Env' → Option Env') (body : DS) (e : Env') (S : Store) : dFor src t body e S = (src e S).st e fun ws S1 => dLoop t body ws e S1 := rfl
@[simp] theorem dYes_ap (e : Env') (S : Store) : dYes e S = .ok true S := rfl
@[simp] theorem dLc_ap (own : Bool) (src : DI) (t : W → Env' → Option Env') (tt : DT) (te : DE) (vs : List Nat) (e : Env') (S : Store) : dLc own src t tt te vs e S = (src e S).bind fun ws S1 =>
  if ws.length ≤ 16777216 then (lcL t tt te (wipeE e vs) ws S1).bindX fun xs S2 => (Out.nl xs).put own S2 else .no := rfl
@[simp] theorem dFn_ap (f : DF) (n : Nat) (a : DA) (e : Env') (S : Store) : dFn f n a e S = (a e S).bind fun us S1 => if us.length = n then f us S1 else .no := Eq.trans rfl rfl
@[simp] theorem dStep_ap (own : Bool) (a b : DE) (e : Env') (S : Store) : dStep own a b e S = (a e S).bind fun u S1 => (b e S1).bind fun v S2 => match dr S2 u, v with
  | some (.tup l), .v (.int i) => if i = -1 then (Out.nt l.reverse).put own S2 else if i = 1 then .ok (.v (.tup l)) S2 else .no
  | some (.lst l), .v (.int i) => if i = -1 then (Out.nl l.reverse).put own S2 else .no
  | _, _ => .no := rfl
@[simp] theorem dMut_ap (f : List W → List W → Option (List W × W)) (o : DE) (a : DA) (e : Env') (S : Store) : dMut f o a e S = (o e S).bind fun u S1 => match u with
  | .o n => match S1[n]? with
    | some (.lst _) => (a e S1).bind fun us S2 => match S2[n]?, allV us with
      | some (.lst l), some ws => match f l ws with
        | some (l', w) => .ok (.v w) (S2.set n (.lst l'))
        | none => .no
      | _, _ => .no
    | _ => .no
  | .v _ => .no := rfl
def chn (o : Option Out) (A B : Unit → Re U) : Re U := match o with
  | some (.val (.bl b)) => if b = true then A () else B ()
  | _ => .no
@[simp] theorem chn_ap (b : Bool) (A B : Unit → Re U) : chn (some (.val (.bl b))) A B = if b = true then A () else B () := rfl
@[simp] theorem dChain_ap (f g : W → W → Option Out) (a b c : DE) (e : Env') (S : Store) : dChain f g a b c e S = (a e S).bind fun u S1 => (b e S1).bind fun v S2 => match dr S2 u, dr S2 v with
  | some x, some y => chn (f x y) (fun _ => (c e S2).bind fun w S3 => match dr S3 v, dr S3 w with
      | some y', some z => putO false (g y' z) S3
      | _, _ => .no) (fun _ => .ok (.v (.bl false)) S2)
  | _, _ => .no := by
  unfold dChain
  congr 1; funext u S1; congr 1; funext v S2
  cases dr S2 u with
  | none => rfl
  | some x => cases dr S2 v with
    | none => rfl
    | some y =>
      simp only
      cases f x y with
      | none => rfl
      | some o => cases o with
        | val w => cases w with
          | bl b => cases b <;> rfl
          | _ => rfl
        | _ => rfl
end Bel

namespace Bel
open PySem PySem.Spec PyProof.Rows L2
abbrev stt (n : Int) : Ob := .lst [.int n]
@[simp] theorem dr_v (S : Store) (w : W) : dr S (.v w) = some w := rfl
@[simp] theorem drs_nil (S : Store) : drs S [] = some [] := rfl
@[simp] theorem drs_cons (S : Store) (u : U) (r : List U) : drs S (u :: r) = match dr S u, drs S r with
    | some w, some ws => some (w :: ws)
    | _, _ => none := rfl
@[simp] theorem dr_set {S : Store} {k : Nat} {l : List W} (hk : k < S.length) : dr (S.set k (.lst l)) (.o k) = some (.lst l) := by simp [dr, hk]
@[simp] theorem allV_nil : allV [] = some [] := rfl
@[simp] theorem allV_cons (w : W) (r : List U) : allV (.v w :: r) = (allV r).map (w :: ·) := rfl
@[simp] theorem putO_some (own : Bool) (o : Out) (S : Store) : putO own (some o) S = o.put own S := rfl
@[simp] theorem put_val (own : Bool) (w : W) (S : Store) : (Out.val w).put own S = .ok (.v w) S := rfl
@[simp] theorem put_nt (own : Bool) (l : List W) (S : Store) : (Out.nt l).put own S = .ok (.v (.tup l)) S := by cases own <;> rfl
@[simp] theorem put_nl (l : List W) (S : Store) : (Out.nl l).put false S = .ok (.v (.lst l)) S := rfl
@[simp] theorem put_nd (l : List (W × W)) (S : Store) : (Out.nd l).put false S = .ok (.v (.dct l)) S := rfl
@[simp] theorem put_nlO (l : List W) (S : Store) : (Out.nl l).put true S = .ok (.o S.length) (S ++ [.lst l]) := rfl
@[simp] theorem put_ndO (l : List (W × W)) (S : Store) : (Out.nd l).put true S = .ok (.o S.length) (S ++ [.dct l]) := rfl
@[simp] theorem fDisp_ap (mk : List W → Out) (us : List U) : fDisp mk us = match allV us with
  | some ws => if ws.length ≤ 16777216 then some (mk ws) else none
  | none => none := rfl
@[simp] theorem tgN_ap (i : Nat) (w : W) (e : Env') : tgN i w e = some (e.set i (some (.v w))) := rfl
@[simp] theorem tgs0_ap (e : Env') : tgs0 [] e = some e := rfl
@[simp] theorem tgs1_ap (t : W → Env' → Option Env') (r : List W → Env' → Option Env') (w : W) (ws : List W) (e : Env') : tgs1 t r (w :: ws) e = (t w e).bind (r ws) := rfl
@[simp] theorem tgT_ap (n : Nat) (r : List W → Env' → Option Env') (ws : List W) (e : Env') : tgT n r (.tup ws) e = if ws.length = n then r ws e else none := rfl
@[simp] theorem fnD_ap (nl : Nat) (body : DS) (us : List U) (S : Store) : fnD nl body us S = match body (us.map some ++ List.replicate (nl - us.length) none) S with
  | .ok (.nx _) S' => fin S.length (.v .non) S'
  | .ok (.rt u) S' => fin S.length u S'
  | .ex c _ S' => .ex c (S'.take S.length)
  | _ => .no := rfl
@[simp] theorem isNon_non : isNon .non = true := rfl
@[simp] theorem isExc_non : isExc .non = false := rfl
@[simp] theorem isBad_of' {w : W} (h : isExc w = false) : isBad w = false := isBad_of h
@[simp] theorem isBad_non : isBad .non = false := rfl
@[simp] theorem isBad_bl (b : Bool) : isBad (.bl b) = false := rfl
@[simp] theorem isBad_int (b : Int) : isBad (.int b) = false := rfl
@[simp] theorem isBad_str (b : List Nat) : isBad (.str b) = false := rfl
@[simp] theorem isBad_tup (b : List W) : isBad (.tup b) = false := rfl
@[simp] theorem isBad_lst (b : List W) : isBad (.lst b) = false := rfl
@[simp] theorem isBad_dct (b : List (W × W)) : isBad (.dct b) = false := rfl
@[simp] theorem isBad_kdc (l : List (List Nat × W)) : isBad (.kdc l) = false := rfl
@[simp] theorem isBad_tdc (l : List (List Int × W)) : isBad (.tdc l) = false := rfl
@[simp] theorem isBad_exc (c : Nat) : isBad (.exc c) = true := rfl
@[simp] theorem isExc_bl (b : Bool) : isExc (.bl b) = false := rfl
@[simp] theorem isExc_int (b : Int) : isExc (.int b) = false := rfl
@[simp] theorem isExc_str (b : List Nat) : isExc (.str b) = false := rfl
@[simp] theorem isExc_tup (b : List W) : isExc (.tup b) = false := rfl
@[simp] theorem isExc_lst (b : List W) : isExc (.lst b) = false := rfl
@[simp] theorem isExc_dct (b : List (W × W)) : isExc (.dct b) = false := rfl
section
variable {S : Store} {k : Nat} {n m : Int} {o o' : Ob} {w : W}
theorem lt_of_st (h : S[k]? = some o) : k < S.length := (List.getElem?_eq_some_iff.mp h).1
theorem set_same (h : S[k]? = some o) : S.set k o = S := by
  apply List.ext_getElem?
  intro i
  rw [List.getElem?_set]
  split
  · rename_i e
    subst e
    rw [if_pos (lt_of_st h), h]
  · rfl
@[simp] theorem take_all : List.take S.length S = S := List.take_of_length_le (Nat.le_refl _)
@[simp] theorem take_set_self : List.take S.length (S.set k o) = S.set k o := List.take_of_length_le (by simp)
@[simp] theorem take_app {T : Store} : List.take S.length (S ++ T) = S := by simp
@[simp] theorem take_set_app {T : Store} : List.take S.length (S.set k o ++ T) = S.set k o := by
  rw [show S.length = (S.set k o).length by simp, List.take_left]
@[simp] theorem fin_v {j : Nat} {T : Store} : fin j (.v w) T = .ok (.v w) (T.take j) := rfl
theorem atW_in {α : Type} {l : List α} {i : Int} (h0 : 0 ≤ i) (h1 : i < l.length) : atW l i = l[i.toNat]? := by
  have e : ixN l.length i = some i.toNat := by
    unfold ixN
    rw [if_pos h0, if_pos h1]
  simp [atW, e]
/-- the item at a place -/
def pk (l : List W) (i : Int) : W := l[i.toNat]?.getD .non
theorem pk_mem {l : List W} {i : Int} (h0 : 0 ≤ i) (h1 : i < l.length) : pk l i ∈ l := by
  have hl : i.toNat < l.length := by omega
  simp [pk, hl]
theorem ix_pk {l : List W} {i : Int} (h0 : 0 ≤ i) (h1 : i < l.length) : fIx (.lst l) (.int i) = some (.val (pk l i)) := by
  have hl : i.toNat < l.length := by omega
  simp [fIx, atW_in h0 h1, pk, hl]
theorem ixT_pk {l : List W} {i : Int} (h0 : 0 ≤ i) (h1 : i < l.length) : fIx (.tup l) (.int i) = some (.val (pk l i)) := by
  have hl : i.toNat < l.length := by omega
  simp [fIx, atW_in h0 h1, pk, hl]
@[simp] theorem ix0_tup {a : W} {l : List W} : fIx (.tup (a :: l)) (.int 0) = some (.val a) := by
  rw [ixT_pk (by decide) (by simp)]; rfl
@[simp] theorem ix1_tup {a b : W} {l : List W} : fIx (.tup (a :: b :: l)) (.int 1) = some (.val b) := by
  rw [ixT_pk (by decide) (by simp; omega)]; rfl
@[simp] theorem ix2_tup {a b c : W} {l : List W} : fIx (.tup (a :: b :: c :: l)) (.int 2) = some (.val c) := by
  rw [ixT_pk (by decide) (by simp; omega)]; rfl
@[simp] theorem ix0_lst {a : W} {l : List W} : fIx (.lst (a :: l)) (.int 0) = some (.val a) := by
  rw [ix_pk (by decide) (by simp)]; rfl
@[simp] theorem ix1_lst {a b : W} {l : List W} : fIx (.lst (a :: b :: l)) (.int 1) = some (.val b) := by
  rw [ix_pk (by decide) (by simp; omega)]; rfl
end
section
variable {i j : Int} {x y : List Nat} {a b : Bool} {l : List W}
@[simp] theorem fAdd_int : fAdd (.int i) (.int j) = some (.val (.int (i + j))) := rfl
@[simp] theorem fSub_int : fSub (.int i) (.int j) = some (.val (.int (i - j))) := rfl
theorem fAdd_tup {l r : List W} (h : l.length + r.length ≤ 16777216) : fAdd (.tup l) (.tup r) = some (.nt (l ++ r)) := if_pos h
theorem fAdd_lst {l r : List W} (h : l.length + r.length ≤ 16777216) : fAdd (.lst l) (.lst r) = some (.nl (l ++ r)) := if_pos h
theorem fMod_int (h : 0 < j) : fMod (.int i) (.int j) = some (.val (.int (i % j))) := if_pos h
theorem fDiv_int (h : 0 < j) (h2 : j < 1073741824) : fDiv (.int i) (.int j) = some (.val (.int (i / j))) := if_pos ⟨h, h2⟩
@[simp] theorem fCmp_int {p : Int → Int → Bool} : fCmp p (.int i) (.int j) = some (.val (.bl (p i j))) := rfl
@[simp] theorem fLen_str : fLen [.str x] = some (.val (.int x.length)) := rfl
@[simp] theorem fLen_lst : fLen [.lst l] = some (.val (.int l.length)) := rfl
@[simp] theorem fLen_tup : fLen [.tup l] = some (.val (.int l.length)) := rfl
@[simp] theorem fLen_dct {l : List (W × W)} : fLen [.dct l] = some (.val (.int l.length)) := rfl
@[simp] theorem fIs_bl : fIs (.bl a) (.bl b) = some (.val (.bl (a == b))) := rfl
@[simp] theorem fIsNot_bl : fIsNot (.bl a) (.bl b) = some (.val (.bl (!(a == b)))) := rfl
@[simp] theorem fIs_non {w : W} : fIs w .non = some (.val (.bl (isNon w))) := rfl
@[simp] theorem fIsNot_non {w : W} : fIsNot w .non = some (.val (.bl (!isNon w))) := rfl
@[simp] theorem fSl_str {lo hi : Option Int} : fSl (.str x) lo hi = some (.val (.str (cutL x lo hi))) := rfl
@[simp] theorem fSl_tup {lo hi : Option Int} : fSl (.tup l) lo hi = some (.nt (cutL l lo hi)) := rfl
@[simp] theorem fSl_lst {lo hi : Option Int} : fSl (.lst l) lo hi = some (.nl (cutL l lo hi)) := rfl
@[simp] theorem fList_tup : fList [.tup l] = some (.nl l) := rfl
@[simp] theorem fList_lst : fList [.lst l] = some (.nl l) := rfl
@[simp] theorem fTuple_tup : fTuple [.tup l] = some (.nt l) := rfl
@[simp] theorem fTuple_lst : fTuple [.lst l] = some (.nt l) := rfl
@[simp] theorem isStr_str : isStr (.str x) = true := rfl
@[simp] theorem isStr_non : isStr .non = false := rfl
@[simp] theorem isStr_int : isStr (.int i) = false := rfl
@[simp] theorem isStr_bl : isStr (.bl a) = false := rfl
@[simp] theorem isStr_tup : isStr (.tup l) = false := rfl
@[simp] theorem isStr_lst : isStr (.lst l) = false := rfl
@[simp] theorem isStr_dct {l : List (W × W)} : isStr (.dct l) = false := rfl
@[simp] theorem isTup_str : isTup (.str x) = false := rfl
@[simp] theorem isTup_non : isTup .non = false := rfl
@[simp] theorem isTup_int : isTup (.int i) = false := rfl
@[simp] theorem isTup_bl : isTup (.bl a) = false := rfl
@[simp] theorem isTup_tup : isTup (.tup l) = true := rfl
@[simp] theorem isTup_lst : isTup (.lst l) = false := rfl
@[simp] theorem isTup_dct {l : List (W × W)} : isTup (.dct l) = false := rfl
@[simp] theorem isInt_str : isInt (.str x) = false := rfl
@[simp] theorem isInt_non : isInt .non = false := rfl
@[simp] theorem isInt_int : isInt (.int i) = true := rfl
@[simp] theorem isInt_bl : isInt (.bl a) = true := rfl
@[simp] theorem isInt_tup : isInt (.tup l) = false := rfl
@[simp] theorem isInt_lst : isInt (.lst l) = false := rfl
@[simp] theorem isInt_dct {l : List (W × W)} : isInt (.dct l) = false := rfl
@[simp] theorem isBl_str : isBl (.str x) = false := rfl
@[simp] theorem isBl_non : isBl .non = false := rfl
@[simp] theorem isBl_int : isBl (.int i) = false := rfl
@[simp] theorem isBl_bl : isBl (.bl a) = true := rfl
@[simp] theorem isBl_tup : isBl (.tup l) = false := rfl
@[simp] theorem isBl_lst : isBl (.lst l) = false := rfl
@[simp] theorem isBl_dct {l : List (W × W)} : isBl (.dct l) = false := rfl
@[simp] theorem isLst_str : isLst (.str x) = false := rfl
@[simp] theorem isLst_non : isLst .non = false := rfl
@[simp] theorem isLst_int : isLst (.int i) = false := rfl
@[simp] theorem isLst_bl : isLst (.bl a) = false := rfl
@[simp] theorem isLst_tup : isLst (.tup l) = false := rfl
@[simp] theorem isLst_lst : isLst (.lst l) = true := rfl
@[simp] theorem isLst_dct {l : List (W × W)} : isLst (.dct l) = false := rfl
theorem mul_ok (h : (-(2 ^ 64) < i ∧ i < 2 ^ 64) ∨ (-(2 ^ 64) < j ∧ j < 2 ^ 64)) : fMul (.int i) (.int j) = some (.val (.int (i * j))) := if_pos h
@[simp] theorem eq_int : fEq (.int i) (.int j) = some (.val (.bl (decide (i = j)))) := by
  have h : (i == j) = decide (i = j) := by
    by_cases e : i = j
    · subst e; simp
    · simp [e]
  simp [fEq, shp, toD, PyData.eqv, h]
@[simp] theorem ne_int : fNe (.int i) (.int j) = some (.val (.bl (!decide (i = j)))) := by
  have h : (i == j) = decide (i = j) := by
    by_cases e : i = j
    · subst e; simp
    · simp [e]
  simp [fNe, shp, toD, PyData.eqv, h]
@[simp] theorem eqD_str : eqD (.str x) (.str y) = decide (x = y) := by
  have h : eqD (.str x) (.str y) = ((⟨x.toArray⟩ : Str) == (⟨y.toArray⟩ : Str)) := by
    simp [eqD, toD, PyData.eqv]
  rw [h]
  by_cases e : x = y
  · subst e; simp
  · rw [decide_eq_false e]
    apply beq_eq_false_iff_ne.mpr
    intro z
    injection z with z
    exact e (by simpa using z)
theorem fEq_is (h1 : shp 64 w = true) (h2 : shp 64 v = true) : fEq w v = some (.val (.bl (eqD w v))) := if_pos ⟨h1, h2⟩
theorem fNe_is (h1 : shp 64 w = true) (h2 : shp 64 v = true) : fNe w v = some (.val (.bl (!eqD w v))) := if_pos ⟨h1, h2⟩
@[simp] theorem eq_str : fEq (.str x) (.str y) = some (.val (.bl (decide (x = y)))) := by rw [fEq_is rfl rfl, eqD_str]
@[simp] theorem ne_str : fNe (.str x) (.str y) = some (.val (.bl (!decide (x = y)))) := by rw [fNe_is rfl rfl, eqD_str]
@[simp] theorem ne_bl : fNe (.bl a) (.bl b) = some (.val (.bl (!(a == b)))) := by
  simp [fNe, shp, toD, PyData.eqv]
@[simp] theorem eq_bl : fEq (.bl a) (.bl b) = some (.val (.bl (a == b))) := by
  simp [fEq, shp, toD, PyData.eqv]
@[simp] theorem fNeNil_ap : fNeNil (.lst l) (.lst []) = some (.val (.bl (!l.isEmpty))) := rfl
end
@[simp] theorem in_sign (c : Nat) (x : List Nat) : fInO (.str [c]) (.str x) = some (.val (.bl (decide (c ∈ x)))) := rfl
@[simp] theorem notin_sign (c : Nat) (x : List Nat) : fNotInO (.str [c]) (.str x) = some (.val (.bl (!decide (c ∈ x)))) := rfl
@[simp] theorem in_kdc (k : List Nat) (l : List (List Nat × W)) : fInO (.str k) (.kdc l) = some (.val (.bl (l.lookup k).isSome)) := rfl
@[simp] theorem notin_kdc (k : List Nat) (l : List (List Nat × W)) : fNotInO (.str k) (.kdc l) = some (.val (.bl (!(l.lookup k).isSome))) := rfl
@[simp] theorem ix_kdc (k : List Nat) (l : List (List Nat × W)) : fIx (.kdc l) (.str k) = (l.lookup k).map .val := rfl
theorem bools_map {α : Type} (f : α → Bool) (l : List α) : bools (l.map fun c => W.bl (f c)) = some (l.map f) := by
  induction l with
  | nil => rfl
  | cons a r ih => simp [bools, ih]
theorem fAll_map {α : Type} (f : α → Bool) (l : List α) : fAll [.lst (l.map fun c => W.bl (f c))] = some (.val (.bl (l.all f))) := by
  simp [fAll, bools_map, List.all_map, Function.comp_def]
/-- .. without a test, over mapped items -/
theorem lcL_map {α : Type} {t : W → Env' → Option Env'} {te : DE} {env : Env'} {S : Store} (f : α → W) (g : α → W) : ∀ (xs : List α), (∀ x ∈ xs, ∃ e1, t (f x) env = some e1 ∧ te e1 S = .ok (.v (g x)) S) → lcL t dYes te env (xs.map f) S = .ok (xs.map g) S
  | [], _ => rfl
  | w :: r, h => by
    obtain ⟨e1, h1, h2⟩ := h w List.mem_cons_self
    have ih := lcL_map (t := t) (te := te) (env := env) (S := S) f g r fun w hw => h w (List.mem_cons_of_mem _ hw)
    rw [List.map_cons, lcL_cons, h1]
    simp [h2, ih]
@[simp] theorem dLoop_nil {t : W → Env' → Option Env'} {body : DS} {e : Env'} {S : Store} : dLoop t body [] e S = .ok (.nx e) S := rfl
theorem dLoop_cons {t : W → Env' → Option Env'} {body : DS} {w : W} {r : List W} {e : Env'} {S : Store} : dLoop t body (w :: r) e S = match t w e with
    | none => .no
    | some e1 => match body e1 S with
      | .ok (.nx e2) S2 => dLoop t body r e2 S2
      | .ok (.ct e2) S2 => dLoop t body r e2 S2
      | .ok (.bk e2) S2 => .ok (.nx e2) S2
      | r => r := rfl
theorem rng_ok {d : DE} {e : Env'} {S S1 : Store} {i : Int} (h : d e S = .ok (.v (.int i)) S1) (h0 : -1000000000 ≤ i) (h1 : i ≤ 1000000000) : dRng1 d e S = .ok ((List.range i.toNat).map fun (j : Nat) => W.int (j : Int)) S1 := by
  have b1 : i < 2 ^ 62 := Int.lt_of_le_of_lt h1 (by decide +kernel)
  have b2 : -(2 ^ 62) ≤ i := Int.le_trans (by decide +kernel) h0
  unfold dRng1
  simp only [h, Re.bind_ok]
  rw [if_pos ⟨b1, b2⟩]
  rfl
/-- the first turns of a loop that a law makes -/
theorem for_rng {d : DE} {e : Env'} {S S1 : Store} {i : Int} {t : W → Env' → Option Env'} {b : DS} (h : d e S = .ok (.v (.int i)) S1) (h0 : -1000000000 ≤ i) (h1 : i ≤ 1000000000) : dFor (dRng1 d) t b e S = dLoop t b ((List.range i.toNat).map fun (j : Nat) => W.int (j : Int)) e S1 := by
  unfold dFor
  rw [rng_ok h h0 h1]
  rfl
end Bel

namespace Bel
open PySem PySem.Spec PyProof.Rows L2 LamX
structure RoomG (k : Nat) (A : Around) : Prop where
  r : Room k A
  g : A.guards = some []
theorem RoomG.mono {j k : Nat} {A : Around} (h : RoomG k A) (l : j ≤ k) : RoomG j A := ⟨h.r.mono l, h.g⟩
theorem RoomG.down {k : Nat} {A : Around} {e : Env} (h : RoomG (k + 1) A) : RoomG k (A.deeper e) := ⟨h.r.deeper e, h.g⟩
structure FnG (P : Program) (w : World) (K : PySem.W.Frag) (mg : Str → Option Value) (base : Heap) (k : Nat) (f : Addr) (fd : FuncData) (ps : List Str) (sp : Sp) : Prop where
  len : ∀ xs H Q E, sp xs H Q E → xs.length = ps.length
  go : ∀ (A : Around) (fs : List Env) (s : Shared) (H : Hp) (as : Args) (us : List Value) (xs : List V) (Q : VK) (E : XK), RoomG k A → Env0 P w K mg base A fs s H → BindsTo s fd as (ps.zip us) → Vals xs us → sp xs H Q E →
    codeAny (model P w) A (.call (.ref f) as) (CR (L2.CX P w) fs P w H s Q E) s
theorem FnG.mono {P : Program} {w : World} {K : PySem.W.Frag} {mg : Str → Option Value} {base : Heap} {j k : Nat} {f : Addr} {fd : FuncData} {ps : List Str} {sp : Sp} (F : FnG P w K mg base j f fd ps sp) (h : j ≤ k) : FnG P w K mg base k f fd ps sp :=
  ⟨F.len, fun A fs s H as us xs Q E r => F.go A fs s H as us xs Q E (r.mono h)⟩
section
variable {P : Program} {w : World} {K : PySem.W.Frag} {mg : Str → Option Value} {base : Heap} {ec : Ec}
/-- the rule for a def -/
theorem defG (hrf : ec.rf = false) {x qual : Str} {params : Arguments} {body : List Stmt} {scope : Scope} {dvs : List V} {kws : List (Str × V)} {f : Addr} {fd : FuncData} {N ps : List Str} {k n nl : Nat} {d : DS} (Fn : FunD K x qual params body scope dvs kws f fd) (Sc : FnScope N ps scope) (hn : ps.length = n) (hnl : N.length = nl)
    (hb : ∀ (cdv : Value) (A : Around) (fs : List Env) (s : Shared) (H : Hp) (E : XK), RoomG k (A.deeper (envOfC qual scope s.heap.objs.size f cdv)) →
      PSsv ec (cxOf (L2.CX P w) P w K mg base N qual scope f cdv A fs s H E) body d) : FnG P w K mg base (k + 1) f fd ps (spD ⟨K, w, ec⟩ (fnD nl d) n) := by
  subst hn hnl
  refine ⟨spD_len, fun A fs s H as us xs Q E r e0 bi rv h => ?_⟩
  obtain ⟨oc, od, dV, kV, doc, pm, an, cdv, ct, osl, rfl, lk, hcd, _, _⟩ := Fn.ex
  refine run_ofS (CX := L2.CX P w) lk hcd Sc r.r e0 bi rv (spD_len _ _ _ _ h) fun _ => ?_
  refine ⟨LS ⟨K, w, ec⟩ (fun cls d _ H => E cls d H) d, (hb cdv A fs s H E r.down).run [] _ _ (takes_of rfl rfl rfl rfl) (passes_of rfl), ?_⟩
  obtain ⟨us, St, ι, B, R, rr, hl, h⟩ := h
  refine ⟨_, St, ι, B, R, rr.begin_ N, ?_⟩
  unfold fnD at h
  cases e : d (us.map some ++ List.replicate (N.length - us.length) none) St with
  | no => rw [e] at h; exact h
  | ex c e1 S1 =>
    rw [e] at h
    intro σ' H' ι' G R' E'
    obtain ⟨R2, G2⟩ := cut_go hrf R R' G
    exact h H' ι G2 R2
  | ok fl S1 =>
    rw [e] at h
    cases fl with
    | bk e1 => exact h.elim
    | ct e1 => exact h.elim
    | nx e1 =>
      intro σ' H' ι' G R' E'
      simp only at h
      cases e2 : fin St.length (.v .non) S1 with
      | ok u2 S2 =>
        rw [e2] at h
        obtain ⟨ι2, R2, G2, r2⟩ := fin_ok hrf R R' G (u := .v .non) (v := .non) .non e2
        exact h _ H' ι2 G2 R2 r2
      | ex c S2 => cases e2
      | no => rw [e2] at h; exact h.elim
    | rt u =>
      intro v H' ι' G R' ru
      simp only at h
      cases e2 : fin St.length u S1 with
      | ok u2 S2 =>
        rw [e2] at h
        obtain ⟨ι2, R2, G2, r2⟩ := fin_ok hrf R R' G ru e2
        exact h _ H' ι2 G2 R2 r2
      | ex c S2 =>
        unfold fin at e2
        split at e2
        · cases e2
        · split at e2
          · cases e2
          · split at e2 <;> cases e2
      | no => rw [e2] at h; exact h.elim
end
theorem call_G {X : Cx} {pins : List (Addr × Obj)} {σ : L2.St} {H : Hp} {s : Shared} {Q : VK} {E : L2.St → XK} {us : List Value} {xs : List V} {k : Nat} {f : Addr} {fd : FuncData} {ps : List Str} {sp : Sp} (F : FnG X.prog X.w X.K X.mg X.base k f fd ps sp) (hr : RoomG k X.A) (hb : Binds X.K fd ps []) (hx : PassesAt (L2.CX X.prog X.w) X σ (E σ))
    (I : Inv X pins σ H s) (rv : Vals xs us) (h : sp xs H Q (E σ)) : wpAny (model X.prog X.w) X.A (PySem.call (.ref f) us) (EP X pins σ Q) X.xe s := by
  have hl : us.length = ps.length := rv.length.symm.trans (F.len _ _ _ _ h)
  have bi := hb s us I.kIn (by simpa using hl)
  simp only [List.append_nil] at bi
  apply wpAny_call
  apply codeAny_mono (F.go X.A X.stack s H ⟨us, []⟩ us xs Q (E σ) hr I.env0 bi rv h)
  intro r s' hq
  match r, hq with
  | .error e, hq => exact hx pins H s e s' I hq
  | .ok (.ret u), hq => exact I.after hq
  | .ok .next, hq => cases hq
  | .ok .brk, hq => cases hq
  | .ok .cont, hq => cases hq
def HasG (P : Program) (w : World) (K : PySem.W.Frag) (mg : Str → Option Value) (base : Heap) (ec : Ec) (x : Str) (k n : Nat) (d : DF) : Prop :=
  ∃ (f : Addr) (fd : FuncData) (ps : List Str), FnG P w K mg base k f fd ps (spD ⟨K, w, ec⟩ d n) ∧ mg x = some (.ref f) ∧ PySem.W.keepIn K (.ref f) = true ∧ Binds K fd ps []
theorem HasG.mono {P : Program} {w : World} {K : PySem.W.Frag} {mg : Str → Option Value} {base : Heap} {ec : Ec} {x : Str} {j k n : Nat} {d : DF} (h : HasG P w K mg base ec x j n d) (hk : j ≤ k) : HasG P w K mg base ec x k n d := by
  obtain ⟨f, fd, ps, h1, h2⟩ := h
  exact ⟨f, fd, ps, h1.mono hk, h2⟩
section
variable {ec : Ec} {X : Cx} {e : Expr} {es : List Expr} {pos p : Pos} {das : DA} {df : DF} {n k : Nat} {x : Str}
theorem ev_fnG (h : HasG X.prog X.w X.K X.mg X.base ec x k n df) (hr : RoomG k X.A) (hg : Gl X x) (ha : PAv ec X (e :: es) das)
    (hdb : (x == ("__debug__" : Str)) = false := by decide) (he : starEach (e :: es) X.env = (false, eval e X.env) :: starEach es X.env := by rfl) (hpl : (backTo pos (starEach es X.env)).any (·.1) = false := by rfl) : PEv ec X (.Call (.Name x p) (e :: es) [] pos) (dFn df n das) := by
  obtain ⟨f, fd, ps, F, hm, hk, hb⟩ := h
  refine ⟨fun pn xe Wx tk => PE.imp (t := tCallS (spD (fx ec X) df n) (WE Wx) (LA (fx ec X) Wx das)) ⟨fun pins s σ H Q I h => ?_⟩ fun σ H Q h => fn_reads h⟩
  apply wpAny_Call_Name_kw
  apply ld_glob (X := X.tr pn xe) I hg hm _ hdb
  apply PySem.W.callWith_K (h₀ := X.base) I.ok.mod.kin hk _ he hpl
  apply thn ((ha.run pn xe Wx tk).run pos pins s σ H _ I h)
  rintro us s1 ⟨xs, H1, I1, r, q⟩
  exact ⟨I1.kIn, call_G (X := X.tr pn xe) F hr hb (passAt tk σ) I1 r q⟩
end
section
variable {P : Program} {w : World} {K : PySem.W.Frag} {mg : Str → Option Value} {base : Heap} {ec : Ec} {fa : List He.Fa} {fn : List He.DefD} {kc : List Con'}
theorem Hd.defG_ (hrf : ec.rf = false) (Z : Hd K mg fa fn kc) (i j : Nat) {x qual : Str} {params : Arguments} {body : List Stmt} {scope : Scope} {N ps : List Str} {k n nl : Nat} {d : DS}
    (h : fn[i]? = some ⟨(x, none), x, qual, params, body, scope, [], []⟩) (hg : fa[j]? = some (.glo x)) (Sc : FnScope N ps scope) (hn : ps.length = n) (hnl : N.length = nl)
    (hbi : ∀ (kV doc pm : Value) (an : Option Addr) (cdv ct : Value) (us : List Value), us.length = ps.length → bindArgs (PySem.W.fnOf x qual params body scope .none kV doc pm an cdv ct) ⟨us, []⟩ = pure (ps.zip us))
    (hb : ∀ (f : Addr) (cdv : Value) (A : Around) (fs : List Env) (s : Shared) (H : Hp) (E : XK), RoomG k (A.deeper (envOfC qual scope s.heap.objs.size f cdv)) →
      PSsv ec (cxOf (L2.CX P w) P w K mg base N qual scope f cdv A fs s H E) body d) : HasG P w K mg base ec x (k + 1) n (fnD nl d) := by
  obtain ⟨fd, F⟩ := Z.says.def_ i h
  exact ⟨He.ga K x, fd, ps, defG hrf (P := P) (w := w) (mg := mg) (base := base) F Sc hn hnl fun cdv A fs s H E hr => hb _ cdv A fs s H E hr, Z.gl x (Z.says.fact j hg), F.kp, F.bindsN hbi⟩
theorem Hd.lawG_ (hrf : ec.rf = false) (Z : Hd K mg fa fn kc) (i : Nat) {x y qual : Str} {params : Arguments} {body : List Stmt} {scope : Scope} {N : List Str} {k nl : Nat} {d : DS}
    (h : fn[i]? = some ⟨(x, none), x, qual, params, body, scope, [], []⟩) (Sc : FnScope N [y] scope) (hnl : N.length = nl)
    (hbi : ∀ (kV doc pm : Value) (an : Option Addr) (cdv ct : Value) (us : List Value), us.length = [y].length → bindArgs (PySem.W.fnOf x qual params body scope .none kV doc pm an cdv ct) ⟨us, []⟩ = pure ([y].zip us))
    (hb : ∀ (base : Heap) (f : Addr) (cdv : Value) (A : Around) (fs : List Env) (s : Shared) (H : Hp) (E : XK), RoomG k (A.deeper (envOfC qual scope s.heap.objs.size f cdv)) →
      PSsv ec (cxOf (L2.CX P w) P w K mg base N qual scope f cdv A fs s H E) body d) :
    ∃ fd, (∀ (s : Shared) (u : Value), BindsTo s fd ⟨[u], []⟩ [(y, u)]) ∧ ∀ base : Heap, FnG P w K mg base (k + 1) (He.ga K x) fd [y] (spD ⟨K, w, ec⟩ (fnD nl d) 1) := by
  obtain ⟨fd, F⟩ := Z.says.def_ i h
  exact ⟨fd, fun s u => F.bindsA hbi s [u] rfl, fun base => defG hrf (P := P) (w := w) (mg := mg) (base := base) F Sc rfl hnl fun cdv A fs s H E hr => hb base _ cdv A fs s H E hr⟩
end
/-- the script alone is told: at b, as the list it is -/
def oneH (b : Addr) (o : Obj) (ns : List Int) : Hp := fun c => if c = b then some (.frz o (.lst (ns.map V.int))) else none
theorem oneH_at {b : Addr} {o : Obj} {ns : List Int} : oneH b o ns b = some (.frz o (.lst (ns.map V.int))) := if_pos rfl
theorem oneH_some {b c : Addr} {o : Obj} {ns : List Int} {u : HO} (h : oneH b o ns c = some u) : c = b ∧ u = .frz o (.lst (ns.map V.int)) := by
  unfold oneH at h
  by_cases e : c = b
  · rw [if_pos e] at h
    exact ⟨e, (Option.some.inj h).symm⟩
  · rw [if_neg e] at h
    cases h
/-- what the head's end asks: from the promise of the law's def at the caller -/
theorem lawG {P : Program} {w : World} {K : PySem.W.Frag} {mg mb : Str → Option Value} {k : Nat} {fa b : Addr} {fd : FuncData} {y : Str} {sp : Sp} {t : Shared} {its : List Value} {ns : List Int}
    (KX : K.In t.heap) (gm : t.heap.Ns mainGlobals mg) (gb : t.heap.Ns builtinsNs mb) (bb : ∀ x : Str, x ≠ "__name__" → mb x = bootBuiltins x) (nl : t.heap.NoLimit) (ng : t.gens = #[])
    (hb : t.heap.get? b = some { cls := .type "list", data := .seq its.toArray }) (hi : IntsAre its ns) (hl : ns.length ≤ sizeLine) (hr : RoomG k callerA) (hno : ∀ o, K.lookup b = some o → False)
    (F : ∀ base : Heap, FnG P w K mg base k fa fd [y] sp) (bi : ∀ (s : Shared) (u : Value), BindsTo s fd ⟨[u], []⟩ [(y, u)])
    (hsp : ∀ H : Hp, Only H → SqL K H b (ns.map V.int) → sp [.ref b] H (fun v _ => v = .bl true) fun _ _ _ => False) :
    codeAny (model P w) callerA (.call (.ref fa) ⟨[.ref b], []⟩) (fun r s' => r = .ok (.ret (.bool true)) ∧ OldK t.heap s'.heap ∧ s'.os = t.os ∧ AllBare s'.gens) t := by
  let ob : Obj := { cls := .type "list", data := .seq its.toArray }
  let H : Hp := oneH b ob ns
  have none_of : ∀ {c : Addr}, c ≠ b → H c = none := fun {c} hc => if_neg hc
  have low : ∀ {c : Addr} {o : Obj}, t.heap.get? c = some o → c ≠ b → (hidT t.heap H).get? c = some o := fun h hc => hidT_get h (none_of hc)
  have ne_dict : ∀ {c : Addr} {o : Obj} {es : Array DictEntry} {ep : Nat}, t.heap.get? c = some o → o.data = .dict es ep → c ≠ b := by
    rintro c o es ep h1 h2 rfl
    rw [hb] at h1
    obtain rfl := Option.some.inj h1
    cases h2
  have lowNs : ∀ {c : Addr} {m : Str → Option Value}, t.heap.Ns c m → (hidT t.heap H).Ns c m := by
    rintro c m ⟨o, es, ep, h1, h2, h3⟩
    exact ⟨o, es, ep, low h1 (ne_dict h1 h2), h2, h3⟩
  have lowK : K.In (hidT t.heap H) := fun c o h => low (KX c o h) fun z => hno o (z ▸ h)
  have tells : HOk P w H t.heap := by
    intro c u h
    obtain ⟨rfl, rfl⟩ := oneH_some h
    exact ⟨hb, by rw [List.length_map]; exact hl, its, _, vals_ints hi, hb⟩
  have only : Only H := fun c => by
    by_cases hc : c = b
    · exact .inr ⟨ob, _, by rw [hc]; exact oneH_at⟩
    · exact .inl (none_of hc)
  have md : Mod K mg (hidT t.heap H) := by
    obtain ⟨mc, c1, c2⟩ := nl
    exact ⟨lowK, lowNs gm, ⟨mb, lowNs gb, bb⟩, ⟨mc, lowNs c1, c2⟩⟩
  have env : Env0 P w K mg (hidT t.heap H) callerA [] t H :=
    { frames := rfl, mod := md, bs := fun c o h => of_hidT h, bsz := Nat.le_of_eq (hidT_size _ _), funs := trivial, frf := fun c h => absurd (show c ∈ ([] : List Addr) from h) List.not_mem_nil, hok := tells, bare := .of_eq ng }
  have call := (F (hidT t.heap H)).go callerA [] t H ⟨[.ref b], []⟩ [.ref b] [.ref b] (fun v _ => v = .bl true) (fun _ _ _ => False) hr env (bi t _) (.cons rfl .nil) (hsp H only (.inl (.inr ⟨ob, oneH_at⟩)))
  apply codeAny_mono call
  intro r s' h
  match r, h with
  | .error e, h => exact (cx_none h).elim
  | .ok .next, h => cases h
  | .ok .brk, h => cases h
  | .ok .cont, h => cases h
  | .ok (.ret u), h =>
    obtain ⟨v, H2, os, bare, un, hk2, rv, rfl⟩ := h
    obtain rfl : u = Value.bool true := rv
    refine ⟨rfl, OldK.of_keep fun c o ho => ?_, os, bare⟩
    by_cases hc : c = b
    · subst hc
      have z := un.frzs c ob _ oneH_at
      obtain ⟨e2, _⟩ := hk2 c _ z
      rw [hb] at ho
      rw [← Option.some.inj ho]
      exact e2
    · exact un.keep c o ho (none_of hc) (fun z => absurd (show c ∈ ([] : List Addr) from z) List.not_mem_nil) List.not_mem_nil
end Bel

namespace Bel
open PySem PySem.Spec PyProof.Rows L2
section
variable {ec : Ec} {X : Cx} {e a b o : Expr} {st : Stmt} {pos p : Pos} {da db do_ : DE}
theorem ow_addI {F : Fx} : OpW F (fun x y => match x, y with
    | .int i, .int j => some (.val (.int (i + j)))
    | _, _ => none) (rI0 fun i j => .int (i + j)) := by
  intro H O x y w z o Q rx ry e q
  simp only at e
  split at e
  · obtain rfl := Rp.int_inv rx
    obtain rfl := Rp.int_inv ry
    cases some_inj e
    exact ⟨_, _, rfl, rfl, q _ (.int _)⟩
  · cases e
def fAddI (x y : W) : Option Out := match x, y with
    | .int i, .int j => some (.val (.int (i + j)))
    | _, _ => none
/-- the text of data -/
def shownL (w : W) : List Nat := (toD w).shown.cps.toList
def fIntW : List W → Option Out
  | [.int i] => some (.val (.int i))
  | [.bl b] => some (.val (.int (b2n b)))
  | [.str x] => match PySem.intText? (mkS x) with
    | some n => if x.length ≤ 640 then some (.val (.int n)) else none
    | none => none
  | _ => none
theorem oc_intW {F : Fx} : OpC F fIntW (fun xs H Q => ((∃ i, xs = [.int i] ∧ Q (.int i) H) ∨ ∃ k, xs = [.bl k] ∧ Q (.int (if k then 1 else 0)) H) ∨ ∃ a n, xs = [V.str a] ∧ PySem.intText? a = some n ∧ a.length ≤ 640 ∧ Q (.int n) H) := by
  refine oc1 (fun ws o e => ?_) fun H O x w o Q r e q => ?_
  · unfold fIntW at e
    split at e <;> first | exact ⟨_, rfl⟩ | cases e
  · cases w with
    | int i =>
      cases some_inj e
      obtain rfl := Rp.int_inv r
      exact .inl (.inl ⟨i, rfl, q _ (.int _)⟩)
    | bl i =>
      cases some_inj e
      obtain rfl := Rp.bl_inv r
      exact .inl (.inr ⟨i, rfl, q _ (.int _)⟩)
    | str y =>
      simp only [fIntW] at e
      obtain ⟨rfl, _⟩ := Rp.str_inv r
      split at e
      · rename_i n hn
        split at e
        · rename_i hl
          cases some_inj e
          exact .inr ⟨_, n, rfl, hn, by simpa [Str.length] using hl, q _ (.int _)⟩
        · cases e
      · cases e
    | _ => cases e
def fDict : List W → Option Out
  | [.dct l] => some (.nd l)
  | _ => none
end
/-- the pairs, told one by one -/
inductive PPv (ec : Ec) (X : Cx) (pos : Pos) : List (Option Expr) → List Expr → List (DE × DE) → Prop where
  | nil : PPv ec X pos [] [] []
  | cons {k v : Expr} {ks : List (Option Expr)} {vs : List Expr} {dk dv : DE} {r : List (DE × DE)} (hk : PEv ec X k dk) (hv : PEv ec X v dv) (hr : PPv ec X pos ks vs r) : PPv ec X pos (some k :: ks) (v :: vs) ((dk, dv) :: r)
def trsOf (F : Fx) (Wx : WX) (ps : List (DE × DE)) : List (TE × TE) := ps.map fun p => (LE F Wx p.1, LE F Wx p.2)
theorem PPv.run {ec : Ec} {X : Cx} {pos : Pos} {ks : List (Option Expr)} {vs : List Expr} {ps : List (DE × DE)} (h : PPv ec X pos ks vs ps) {pn : List (Addr × Obj)} {xe : Value → Shared → Prop} {Wx : WX} (tk : Takes (X.tr pn xe) Wx) : PPs (X.tr pn xe) pos ks vs (trsOf (fx ec X) Wx ps) := by
  induction h with
  | nil => exact pps_nil
  | cons hk hv hr ih => exact pps_cons (hk.run pn xe Wx tk) (hv.run pn xe Wx tk) ih
end Bel

namespace Bel
open PySem PySem.Spec PyProof.Rows L2
/-- an object that nobody tells yet, new since the entry, is told from now on -/
theorem tracked {X : Cx} {ps : List (Addr × Obj)} {σ : L2.St} {H : Hp} {t : Shared} {a : Addr} {o : HO} (J : Inv X ps σ H t) (hn : H a = none) (h0 : X.s_0.heap.get? a = none) (hok : ObjOk X.prog X.w (upd H a o) t.heap a o) (nL : a ≠ X.env.locals) (nC : ∀ x c, X.env.cells.lookup x = some c → c ≠ a) (nP : ∀ p ∈ X.pn ++ ps, p.1 ≠ a) : Inv X ps σ (upd H a o) t where
  ok := J.ok
  os := J.os
  bare := J.bare
  base := ⟨J.base.keep, J.base.slot, fun b u hb h1 h2 => by
      have : b ≠ a := fun z => by rw [z, h0] at hb; cases hb
      rw [upd_ne this]; exact J.base.free b u hb h1 h2, J.base.there,
    fun b xs h => by
      have z := J.base.tups b xs h
      rw [upd_ne (ne_of_none z hn)]; exact z,
    fun b u xs h => by
      have z := J.base.frzs b u xs h
      rw [upd_ne (ne_of_none z hn)]; exact z,
    fun b q h => by
      obtain ⟨m, z⟩ := J.base.tbls b q h
      exact ⟨m, by rw [upd_ne (ne_of_none z hn)]; exact z⟩⟩
  loc := J.loc
  cell := J.cell
  free := by rw [upd_ne (Ne.symm nL)]; exact J.free
  freeC := fun x c h => by rw [upd_ne (nC x c h)]; exact J.freeC x c h
  pin := fun p hp => by
    obtain ⟨q1, q2, q3⟩ := J.pin p hp
    exact ⟨q1, by rw [upd_ne (nP p hp)]; exact q2, q3⟩
  hok := fun b u h => by
    by_cases hb : b = a
    · subst hb
      rw [upd_same] at h
      cases h
      exact hok
    · rw [upd_ne hb] at h
      exact (J.hok b u h).stay (fun _ _ _ q => q) (fun c q => by rw [upd_ne (ne_of_none q hn)]; exact q) fun c xs q => by rw [upd_ne (ne_of_none q hn)]; exact q
  len := J.len
section
variable {X : Cx} {x n m : Str} {c : Value} {i j : Nat} {body : List Stmt} {np pm pn' pa pos pos' : Pos} {tb : WX → TS} {Wo : WX}
end
def errs : List Str := ["NoTerm", "NoBook", "NoText", "NoYard", "NoTask", "NoStep", "NoRecord", "NoJob", "TooMany", "YardError"]
def ern (c : Nat) : Str := errs.getD c "YardError"
def ecH (rf : Bool) (K : PySem.W.Frag) : Ec := ⟨fun c => .ref (He.ga K (ern c)), rf⟩
abbrev ecG (K : PySem.W.Frag) : Ec := ecH false K
abbrev ecR (K : PySem.W.Frag) : Ec := ecH true K
def excCB (K : PySem.W.Frag) (D : Addr) : Bool :=
  decide (PySem.W.findIn K (.ref D) "__getattribute__" = some (some (.builtin "BaseException.__getattribute__"))) && (decide (PySem.W.findIn K (.ref D) "__getattr__" = some none) && (decide (PySem.W.subIn K (.ref D) (.type "BaseException") = some true) &&
  (PySem.W.hasDictIn K D && (decide (PySem.W.findIn K (.ref D) "__class__" = some (some (.builtin "object.__class__"))) && (decide (PySem.W.specialIn K (.builtin "object.__class__") "__get__" = some (some (.builtin "getset_descriptor.__get__"))) &&
  (decide (PySem.W.takesIn K (.builtin "object.__class__") = some true) && decide (PySem.W.mroIn K D (.type "object") = some true)))))))
def errB (K : PySem.W.Frag) : Bool := errs.all fun x => (He.Fa.glo x).ok K && ((He.Fa.exc x).ok K && (excCB K (He.ga K x) && (decide (PySem.W.exmOne K (.ref (He.ga K x)) (.ref (He.ga K "YardError")) = some true) &&
  (decide (PySem.W.kitOne K (.ref (He.ga K x)) (.type "ValueError") = some true) && errs.all fun y => decide (PySem.W.kitOne K (.ref (He.ga K x)) (.ref (He.ga K y)) = some (decide (x = y) || decide (y = "YardError")))))))
section
variable {X : Cx} {e a : Expr} {da : DE} {ds : DS} {body : List Stmt} {p pos : Pos}
/-- raise C('..') -/
def dRaise (c : Nat) : DS := fun e S => .ex c e S
end
def exE (kc : List Con') (kd : List Kd) (be : Bool) (K : PySem.W.Frag) : Bool := exB kc kd K && (!be || errB K)
end Bel

namespace Bel
open PySem PySem.Spec PyProof.Rows L2 PyProof.V
section
variable {ec : Ec} {X : Cx} {e o : Expr} {da db : DE} {apos cpos : Pos}
end
section
variable {ec : Ec} {X : Cx} {es : List Expr} {das : DA} {ds : DS} {body : List Stmt} {p1 p2 pos : Pos}
theorem RUs.at {F : Fx} {H : Hp} {ι : List Addr} {S : Store} {B : Addr → Prop} {us : List U} {vs : List V} (r : RUs F H ι S B us vs) {i : Nat} {v : V} (h : vs[i]? = some v) : ∃ u, us[i]? = some u ∧ RU F H ι S B u v := by
  induction r generalizing i with
  | nil => simp at h
  | cons a t ih =>
    cases i with
    | zero => simp at h; subst h; exact ⟨_, rfl, a⟩
    | succ i => simpa using ih (by simpa using h)
end
theorem r65 {k : Nat} {A : Around} (r : Room k A) : A.units + 65 < cLine := by have := r.un; omega
section
variable {ec : Ec} {X : Cx} {es : List Expr} {pos : Pos}
end
end Bel

namespace Bel
open PySem PySem.Spec PyProof.Rows L2
@[simp] theorem dRaise_ap (c : Nat) (e : Env') (S : Store) : dRaise c e S = .ex c e S := rfl
@[simp] theorem fAddI_int (i j : Int) : fAddI (.int i) (.int j) = some (.val (.int (i + j))) := rfl
@[simp] theorem fDict_dct (l : List (W × W)) : fDict [.dct l] = some (.nd l) := rfl
@[simp] theorem fIntW_bl (b : Bool) : fIntW [.bl b] = some (.val (.int (b2n b))) := rfl
@[simp] theorem fIntW_int (i : Int) : fIntW [.int i] = some (.val (.int i)) := rfl
@[simp] theorem isKey_str (x : List Nat) : isKey (.str x) = true := rfl
end Bel

namespace Bel
open PySem PySem.Spec PyProof.Rows L2 LamX
section
variable {F : Fx} {H : Hp} {ι : List Addr} {S : Store} {B : Addr → Prop}
end
section
variable {X : Cx} {pins : List (Addr × Obj)} {σ : L2.St} {H : Hp} {s : Shared} {ec : Ec} {ι : List Addr} {S : Store} {B : Addr → Prop}
end
end Bel

namespace Bel
open PySem PySem.Spec PyProof.Rows L2 LamX
section
variable {X : Cx} {pins : List (Addr × Obj)} {σ : L2.St} {H HZ : Hp} {s s1 : Shared} {ec : Ec} {d : DE} {k : Nat} {q : Str} {params : Arguments} {body : Expr} {scope : Scope} {pm ctv : Value} {f c' : Addr}
end
end Bel

namespace Bel
open PySem PySem.Spec PyProof.Rows L2 LamX
section
variable {X : Cx} {ret : DS} {d : DE} {k n : Nat} {mk q x qual : Str} {params lparams : Arguments} {body : Expr} {scope sg : Scope} {p lpos pos : Pos} {a fo ca er : Str} {p1 p2 p3 p4 p5 p6 p7 p8 p9 p10 p11 p12 p13 p14 lpos' pos' : Pos} {j1 j2 : Nat} {st4 : Stmt} {fa : List He.Fa} {fn : List He.DefD} {kc : List Con'}
end
end Bel

namespace Bel
open PySem PySem.Spec PyProof.Rows L2 LamX
section
variable {P : Program} {w : World} {K : PySem.W.Frag} {mg : Str → Option Value} {base : Heap} {ec : Ec}
variable {fa : List He.Fa} {fn : List He.DefD} {kc : List Con'}
end
section
variable {b c : Addr} {o : Obj} {ns : List Int} {Ps : List Addr}
end
def exT (tf : List Str) (kc : List Con') (kd : List Kd) (be : Bool) (K : PySem.W.Frag) : Bool := exE kc kd be K && decide ((tf.map fun x => (He.cT K (x, none)).2).Nodup)
end Bel

namespace Bel
open PySem PySem.Spec PyProof.Rows L2
section
variable {F : Fx} {H : Hp} {O : Addr → Prop}
end
end Bel

namespace Bel
open PySem PySem.Spec PyProof.Rows L2
section
variable {ec : Ec} {X : Cx} {e : Expr} {es : List Expr} {das : DA} {p apos cpos : Pos}
end
end Bel

namespace Bel
open PySem PySem.Spec PyProof.Rows L2
section
variable {ec : Ec} {X : Cx} {e : Expr} {da : DE} {p pos tpos : Pos} {elts : List Expr} {kk : Nat}
end
end Bel

namespace Bel
open PySem PySem.Spec PyProof.Rows L2
section
variable {ec : Ec} {X : Cx} {o k x : Expr} {da db dc : DE} {apos cpos : Pos}
end
end Bel

namespace Bel
open PySem PySem.Spec PyProof.Rows L2
end Bel

namespace Bel
open PySem PySem.Spec PyProof.Rows L2
end Bel

namespace Bel
open PySem PySem.Spec PyProof.Rows L2
/-- what differs by a lock on the dict at d alone -/
structure Sw (d : Addr) (kvs : List (Key × V)) (H H' : Hp) : Prop where
  ne : ∀ a, a ≠ d → H' a = H a
  rd : Rd H d (.dK kvs)
  rd' : Rd H' d (.dK kvs)
section
variable {F : Fx} {H H' : Hp} {O : Addr → Prop} {d : Addr} {kvs : List (Key × V)}
theorem Sw.symm (s : Sw d kvs H H') : Sw d kvs H' H := ⟨fun a h => (s.ne a h).symm, s.rd', s.rd⟩
theorem Sw.at_ (s : Sw d kvs H H') {a : Addr} {y : HO} (h : H a = some y) (h1 : ∀ k, y ≠ .dK k) (h2 : ∀ o k, y ≠ .frz o (.dK k)) : H' a = some y := by
  by_cases hd : a = d
  · subst hd
    rcases s.rd with e | ⟨o, e⟩
    · rw [e] at h; cases h; exact absurd rfl (h1 _)
    · rw [e] at h; cases h; exact absurd rfl (h2 _ _)
  · rw [s.ne a hd]; exact h
theorem Sw.exT (s : Sw d kvs H H') {a : Addr} {vs : List V} (h : ExT H a vs) : ExT H' a vs := by
  obtain ⟨o, z, q⟩ := h
  exact ⟨o, s.at_ z (fun _ z => by unfold TupO at z; cases z) (fun _ _ z => by unfold TupO at z; injection z with _ z; cases z), q⟩
theorem Sw.rdL (s : Sw d kvs H H') {a : Addr} {vs : List V} (h : Rd H a (.lst vs)) : Rd H' a (.lst vs) := by
  rcases h with h | ⟨o, h⟩
  · exact .inl (s.at_ h (fun _ z => nomatch z) fun _ _ z => nomatch z)
  · exact .inr ⟨o, s.at_ h (fun _ z => nomatch z) fun _ _ z => by injection z with _ z; cases z⟩
theorem Sw.rdK (s : Sw d kvs H H') {a : Addr} {k : List (Key × V)} (h : Rd H a (.dK k)) : Rd H' a (.dK k) := by
  by_cases hd : a = d
  · subst hd
    have : k = kvs := by
      rcases h with h | ⟨o, h⟩ <;> rcases s.rd with e | ⟨o', e⟩
      · rw [e] at h; cases h; rfl
      · rw [e] at h; cases h
      · rw [e] at h; cases h
      · rw [e] at h; cases h; rfl
    subst this
    exact s.rd'
  · rcases h with h | ⟨o, h⟩
    · exact .inl (by rw [s.ne a hd]; exact h)
    · exact .inr ⟨o, by rw [s.ne a hd]; exact h⟩
theorem Rp.sw (s : Sw d kvs H H') {w : W} {v : V} (r : Rp F H O w v) : Rp F H' O w v := by
  induction r with
  | non => exact .non
  | bl b => exact .bl b
  | int i => exact .int i
  | str x h h2 => exact .str x h h2
  | tup h hl hs ih => exact .tup (Or.imp (fun h => And.intro (s.exT h.1) h.2) id h) hl ih
  | lst h hl hs ih => exact .lst ⟨s.at_ h.1 (fun _ z => nomatch z) (fun _ _ z => nomatch z), h.2⟩ hl ih
  | dct h hl hk hs ihk ihs => exact .dct ⟨s.rdK h.1, h.2⟩ hl ihk ihs
  | kdc h hl hk hs ihs => exact .kdc h hl hk ihs
  | tdc h hn hm hl hv hk hr hs ihs => exact .tdc (s.at_ h (fun _ z => by unfold TdO at z; cases z) fun _ _ z => by unfold TdO at z; cases z) hn hm hl hv (fun i w x h1 h2 => ⟨(hk i w x h1 h2).1, Or.imp (fun h => And.intro (s.exT h.1) h.2) id (hk i w x h1 h2).2⟩) hr ihs
  | exc h hn => exact .exc (s.at_ h (fun _ z => by unfold ExV at z; cases z) fun _ _ z => by unfold ExV at z; cases z) hn
theorem RpL.sw (s : Sw d kvs H H') {w : List W} {v : List V} (r : RpL F H O w v) : RpL F H' O w v := ⟨r.1, fun i w v h1 h2 => (r.2 i w v h1 h2).sw s⟩
theorem RpD.sw (s : Sw d kvs H H') {w : List (W × W)} {v : List (Key × V)} (r : RpD F H O w v) : RpD F H' O w v := ⟨r.1, fun i w v h1 h2 => (r.2.1 i w v h1 h2).sw s, fun i w v h1 h2 => (r.2.2 i w v h1 h2).sw s⟩
theorem ObR.sw (s : Sw d kvs H H') {a : Addr} {o : Ob} (hne : a ≠ d ∨ o = .dead) (r : ObR F ι H O a o) : ObR F ι H' O a o := by
  rcases hne with hne | rfl
  · have e0 := s.ne a hne
    cases o with
    | lst ws => obtain ⟨vs, e, r⟩ := r; exact ⟨vs, by rw [e0]; exact e, r.sw s⟩
    | dct ws => obtain ⟨vs, e, r⟩ := r; exact ⟨vs, by rw [e0]; exact e, r.sw s⟩
    | scr ws => obtain ⟨vs, y, e, q, r⟩ := r; exact ⟨vs, y, by rw [e0]; exact e, s.rdL q, r.sw s⟩
    | tbl x q =>
      obtain ⟨h1, ps, h3, h4, h5⟩ := r
      refine ⟨h1, ps, by rw [e0]; exact h3, h4, fun pos cv hc => ?_⟩
      obtain ⟨c, e1, e2, e3⟩ := h5 pos cv hc
      exact ⟨c, e1, s.at_ e2 (fun _ z => by unfold LamX.CodeO at z; cases z) (fun _ _ z => by unfold LamX.CodeO at z; cases z), e3⟩
    | td ws =>
      obtain ⟨xs, vs, r⟩ := r
      obtain ⟨ob, h1⟩ := r.at_
      exact ⟨xs, vs, ⟨ob, by rw [e0]; exact h1⟩, r.sm, r.l1, r.l2, fun i w x h1 h2 => ⟨(r.keys i w x h1 h2).1, Or.imp (fun h => And.intro (s.exT h.1) h.2) id (r.keys i w x h1 h2).2⟩, r.rel, fun i w v h1 h2 => (r.vals i w v h1 h2).sw s⟩
    | ru k us =>
      obtain ⟨f, vs, q, r⟩ := r
      refine ⟨f, vs, ?_, r.1, fun i u v h1 h2 => ?_⟩
      · cases k with
        | lst => exact e0.trans q
        | tup => obtain ⟨ob, e, hd⟩ := q; exact ⟨ob, e0.trans e, hd⟩
        | ins c => obtain ⟨l, dx, e⟩ := q; exact ⟨l, dx, e0.trans e⟩
        | dk ks => obtain ⟨kvs, e, l, z⟩ := q; exact ⟨kvs, e0.trans e, l, z.1, fun i w v h1 h2 => Rp.sw s (z.2 i w v h1 h2)⟩
        | td ks =>
          obtain ⟨xs, z⟩ := q
          obtain ⟨ob, h1⟩ := z.at_
          exact ⟨xs, ⟨ob, e0.trans h1⟩, z.sm, z.l1, z.l2, fun i w x h1 h2 => ⟨(z.keys i w x h1 h2).1, Or.imp (fun h => And.intro (s.exT h.1) h.2) id (z.keys i w x h1 h2).2⟩, z.rel⟩
      · have z := r.2 i u v h1 h2
        cases u with
        | v w => exact Rp.sw s z
        | o n => exact z
    | dead => obtain ⟨y, e⟩ := r; exact ⟨y, by rw [e0]; exact e⟩
  · obtain ⟨y, e⟩ := r
    by_cases hd : a = d
    · subst hd
      rcases s.rd' with e | ⟨o, e⟩ <;> exact ⟨_, e⟩
    · exact ⟨y, by rw [s.ne a hd]; exact e⟩
end
section
variable {F : Fx} {H H' : Hp} {ι : List Addr} {S : Store} {B : Addr → Prop} {d : Addr} {kvs : List (Key × V)} {σ : L2.St}
theorem RS.sw (R : RS F ι S B H) (s : Sw d kvs H H') (nd : ¬ Oq ι S B d) : RS F ι S B H' := by
  refine ⟨R.len, R.nd, fun n o a h1 h2 => (R.ob n o a h1 h2).sw s ?_, fun a h => ?_⟩
  · by_cases hd : a = d
    · right
      subst hd
      exact Classical.byContradiction fun z => nd (.inl ⟨n, o, h1, z, h2⟩)
    · exact .inl hd
  · obtain ⟨⟨y, e⟩, n⟩ := R.hid a h
    have hne : a ≠ d := fun z => nd (.inr (by rw [← z]; exact h))
    exact ⟨⟨y, by rw [s.ne a hne]; exact e⟩, n⟩
theorem RU.sw (s : Sw d kvs H H') {u : U} {v : V} (r : RU F H ι S B u v) : RU F H' ι S B u v := by
  cases u with
  | v w => exact Rp.sw s r
  | o n => exact r
theorem ER.sw (s : Sw d kvs H H') {e : Env'} (r : ER F H ι S B e σ) : ER F H' ι S B e σ := ⟨r.len, fun i u h => let ⟨v, h1, h2⟩ := r.get i u h; ⟨v, h1, h2.sw s⟩⟩
/-- under the lock, and out of it -/
theorem Go.sw {ι' : List Addr} {S' : Store} {H1 H2 H3 : Hp} (G : Go ι S H1 ι' S' H2) (h1 : ∀ a, a ≠ d → H1 a = H a) (h3 : ∀ a, a ≠ d → H3 a = H2 a) (hd : H3 d = H d) (hs : ∃ y, H1 d = some y) : Go ι S H ι' S' H3 := by
  refine ⟨fun x y hx nx => ?_, fun x z => ?_, G.pre⟩
  · by_cases e : x = d
    · subst e; rw [hd]; exact hx
    · rw [h3 x e]; exact G.ext x y (by rw [h1 x e]; exact hx) nx
  · rcases G.own x z with q | q
    · exact .inl q
    · by_cases e : x = d
      · subst e; obtain ⟨y, hy⟩ := hs; rw [hy] at q; cases q
      · rw [h1 x e] at q; exact .inr q
end
section
variable {F : Fx} {Wx : WX} {ι : List Addr} {S : Store} {B : Addr → Prop} {H : Hp} {d : Addr} {kvs : List (Key × V)} {od : Obj} {D : Ends}
end
section
variable {ec : Ec} {X : Cx} {tg iter : Expr} {body : List Stmt} {pos : Pos} {ds : DS}
end
end Bel

namespace Bel
open PySem PySem.Spec PyProof.Rows L2
theorem drawsT {P : Program} {w : World} {A : Around} (hh : A.handled = none) (it l : Addr) (hne : l ≠ it) (items : Array Value) :
    Draws P w A it [it, l] items.size (fun i v => items[i]? = some v) fun i h => h.IsTupleIter it l i ∧ h.IsTuple l items where
  live i h st := by obtain ⟨⟨o, h1, _⟩, _⟩ := st; exact ⟨o, h1⟩
  frame i h h' st k := by
    obtain ⟨⟨o, h1, h2, h3⟩, o2, h4, h5⟩ := st
    exact ⟨⟨o, k it (by simp) o h1, h2, h3⟩, o2, k l (by simp) o2 h4, h5⟩
  item i s Q E hi st hq := by
    obtain ⟨x, hx⟩ : ∃ x, items[i]? = some x := ⟨items[i], by simp [hi]⟩
    refine RZ.nextOf_tuple_item st.1 st.2 hx fun h' h1 sb => hq x h' s.toks hx ⟨h1, ?_⟩ sb
    obtain ⟨o2, h4, h5⟩ := st.2
    exact ⟨o2, (sb.2 l hne).trans h4, h5⟩
  done s Q E st hq := RZ.nextOf_tuple_end hh st.1 st.2 (by simp) fun h' e eb ho => hq h' e eb ho
/-- what is apart -/
structure ZApart (z TI TO i1 i2 : Addr) (fp1 fp2 : List Addr) : Prop where
  TIz : TI ≠ z
  TOz : TO ≠ z
  TITO : TI ≠ TO
  z1 : z ∉ fp1
  z2 : z ∉ fp2
  TO1 : TO ∉ fp1
  TO2 : TO ∉ fp2
  TIi1 : TI ≠ i1
  TIi2 : TI ≠ i2
  m1 : i1 ∈ fp1
  m2 : i2 ∈ fp2
  i12 : i1 ∉ fp2
  i21 : i2 ∉ fp1
theorem zipD_item {P : Program} {w : World} {A : Around} {E : Value → Shared → Prop} {s : Shared} {z TI TO i1 i2 : Addr} {fp1 fp2 : List Addr} {n1 n2 k : Nat} {P1 P2 : Nat → Value → Prop} {St1 St2 : Nat → Heap → Prop} {a b : Value} {Q : Value → Shared → Prop}
    (D1 : Draws P w A i1 fp1 n1 P1 St1) (D2 : Draws P w A i2 fp2 n2 P2 St2) (Z : ZApart z TI TO i1 i2 fp1 fp2) (hz : IsZip s.heap z TI TO Value.none) (hTI : IsPair s.heap TI (Value.ref i1) (Value.ref i2)) (hTO : IsPair s.heap TO a b)
    (s1 : St1 k s.heap) (s2 : St2 k s.heap) (l1 : k < n1) (l2 : k < n2)
    (hQ : ∀ (x y : Value) (h' : Heap) (tk : Nat), P1 k x → P2 k y → IsZip h' z TI TO (rawInt s.heap.objs.size) → IsPair h' TO x y → St1 (k + 1) h' → St2 (k + 1) h' → IsPair h' s.heap.objs.size x y → h'.objs.size = s.heap.objs.size + 1 →
      (∀ (c : Addr) (o : Obj), c ≠ z → c ≠ TO → c ≠ i1 → c ≠ i2 → s.heap.get? c = some o → h'.get? c = some o) → Q (Value.ref s.heap.objs.size) { s with heap := h', toks := tk }) :
    wpAny (model P w) A (Builtin.«zip.__next__» { pos := [Value.ref z] }) (fun fin s' => ∃ v, fin = Fin.done (Flow.ret v) ∧ Q v s') E s := by
  show wpAny (model P w) A (Bind.bind (field (Value.ref z) 2) _) _ E s
  refine wpAny_bind (wpAny_field hz rfl rfl (id (wpAny_bind (wpAny_field hz rfl rfl (wpAny_bind (wpAny_seqItems hTI rfl ?_))))))
  refine id (wpAny_bind (id (wpAny_bind (wpAny_field hz rfl rfl (wpAny_pure ?_)))))
  refine wpAny_bind (wpAny_rule (wpAny_bind (wpAny_field hz rfl rfl (wpAny_bind (wpAny_setField_rec hz (show 0 < 5 by decide) fun h1 hz1 sb1 => ?_)))))
  have t1 : IsPair h1 TO a b := (sb1.2 TO Z.TOz).trans hTO
  have d1 : St1 k h1 := D1.frame k s.heap h1 s1 fun c hc o q => (sb1.2 c fun e => Z.z1 (by rw [← e]; exact hc)).trans q
  have d2 : St2 k h1 := D2.frame k s.heap h1 s2 fun c hc o q => (sb1.2 c fun e => Z.z2 (by rw [← e]; exact hc)).trans q
  refine wpAny_bind ?_
  refine id (wpAny_bind (id (wpAny_bind (wpAny_onRaise ?_))))
  refine id (wpAny_bind (D1.item k _ _ _ l1 d1 fun x h2 tk2 px d1' sb2 => ?_))
  have ne1 : TO ≠ i1 := fun e => Z.TO1 (by rw [e]; exact Z.m1)
  have ne2 : TO ≠ i2 := fun e => Z.TO2 (by rw [e]; exact Z.m2)
  have z1 : z ≠ i1 := fun e => Z.z1 (by rw [e]; exact Z.m1)
  have z2 : z ≠ i2 := fun e => Z.z2 (by rw [e]; exact Z.m2)
  have t2 : IsPair h2 TO a b := (sb2.2 TO ne1).trans t1
  have hz2 := (sb2.2 z z1).trans hz1
  have d2' : St2 k h2 := D2.frame k h1 h2 d2 fun c hc o q => (sb2.2 c fun e => Z.i12 (by rw [← e]; exact hc)).trans q
  refine wpAny_pure (id (wpAny_bind (wpAny_seqItems t2 rfl (id (wpAny_bind (wpAny_updateSeq_pair t2 fun h3 t3 sb3 => id (wpAny_bind (wpAny_letGo (wpAny_pure ?_)))))))))
  have d1_3 : St1 (k + 1) h3 := D1.frame (k + 1) h2 h3 d1' fun c hc o q => (sb3.2 c fun e => Z.TO1 (by rw [← e]; exact hc)).trans q
  have d2_3 : St2 k h3 := D2.frame k h2 h3 d2' fun c hc o q => (sb3.2 c fun e => Z.TO2 (by rw [← e]; exact hc)).trans q
  have hz3 := (sb3.2 z (Ne.symm Z.TOz)).trans hz2
  refine id (wpAny_bind (id (wpAny_bind (wpAny_onRaise ?_))))
  refine id (wpAny_bind (D2.item k _ _ _ l2 d2_3 fun y h4 tk4 py d2_4 sb4 => ?_))
  have t4 : IsPair h4 TO x b := (sb4.2 TO ne2).trans t3
  have hz4 := (sb4.2 z z2).trans hz3
  have d1_4 : St1 (k + 1) h4 := D1.frame (k + 1) h3 h4 d1_3 fun c hc o q => (sb4.2 c fun e => Z.i21 (by rw [← e]; exact hc)).trans q
  refine wpAny_pure (id (wpAny_bind (wpAny_seqItems t4 rfl (id (wpAny_bind (wpAny_updateSeq_pair t4 fun h5 t5 sb5 => id (wpAny_bind (wpAny_letGo (wpAny_pure ?_)))))))))
  have t5' : IsPair h5 TO x y := t5
  have d1_5 : St1 (k + 1) h5 := D1.frame (k + 1) h4 h5 d1_4 fun c hc o q => (sb5.2 c fun e => Z.TO1 (by rw [← e]; exact hc)).trans q
  have d2_5 : St2 (k + 1) h5 := D2.frame (k + 1) h4 h5 d2_4 fun c hc o q => (sb5.2 c fun e => Z.TO2 (by rw [← e]; exact hc)).trans q
  have hz5 := (sb5.2 z (Ne.symm Z.TOz)).trans hz4
  refine wpAny_pure (id (wpAny_bind (wpAny_seqItems t5' rfl (id (wpAny_bind (wpAny_newTuple ?_ (show 2 ≤ sizeLine from by decide)))))))
  have hsz : h5.objs.size = s.heap.objs.size := by rw [sb5.1, sb4.1, sb3.1, sb2.1, sb1.1]
  have hz6 := Heap.get?_push_of_some { cls := Value.type "tuple", data := Data.seq [x, y].toArray } hz5
  refine id (wpAny_bind (id (wpAny_bind (wpAny_setField_rec hz6 (show 0 < 5 by decide) fun h7 hz7 sb7 => ?_))))
  refine wpAny_setField_rec hz7 (show 1 < 5 by decide) fun h8 hz8 sb8 => wpAny_pure ⟨_, rfl, ?_⟩
  have hlz : z < h5.objs.size := Heap.lt_size hz5
  have old : ∀ (c : Addr) (o : Obj), c ≠ z → h5.get? c = some o → h8.get? c = some o := fun c o hc q =>
    (sb8.2 c hc).trans ((sb7.2 c hc).trans (Heap.get?_push_of_some _ q))
  have oldS : ∀ (c : Addr), c ≠ z → ∀ (o : Obj), h5.get? c = some o → h8.get? c = some o := fun c hc o q => old c o hc q
  have hnew : h8.get? h5.objs.size = some { cls := Value.type "tuple", data := Data.seq #[x, y] } :=
    (sb8.2 _ (Nat.ne_of_gt hlz)).trans ((sb7.2 _ (Nat.ne_of_gt hlz)).trans (Heap.get?_push_size h5 rfl))
  have hz8' : IsZip h8 z TI TO (rawInt s.heap.objs.size) := by rw [← hsz]; exact hz8
  have hn8 : IsPair h8 s.heap.objs.size x y := by rw [← hsz]; exact hnew
  have hs8 : h8.objs.size = s.heap.objs.size + 1 := by rw [sb8.1, sb7.1, ← hsz]; simp [Heap.push]
  have hq := hQ x y h8 tk4 px py hz8' (old TO _ Z.TOz t5') (D1.frame (k + 1) h5 h8 d1_5 fun c hc o q => old c o (fun e => Z.z1 (by rw [← e]; exact hc)) q) (D2.frame (k + 1) h5 h8 d2_5 fun c hc o q => old c o (fun e => Z.z2 (by rw [← e]; exact hc)) q) hn8 hs8
    (fun c o cz cT c1 c2 q => old c o cz ((sb5.2 c cT).trans ((sb4.2 c c2).trans ((sb3.2 c cT).trans ((sb2.2 c c1).trans ((sb1.2 c cz).trans q))))))
  rw [← hsz] at hq
  exact hq
theorem zipD_end {P : Program} {w : World} {A : Around} {E : Value → Shared → Prop} {s : Shared} {z TI TO i1 i2 : Addr} {fp1 fp2 : List Addr} {n1 n2 k : Nat} {P1 P2 : Nat → Value → Prop} {St1 St2 : Nat → Heap → Prop} {a b : Value} {Q : PySem.Fin → Shared → Prop}
    (D1 : Draws P w A i1 fp1 n1 P1 St1) (D2 : Draws P w A i2 fp2 n2 P2 St2) (Z : ZApart z TI TO i1 i2 fp1 fp2) (hz : IsZip s.heap z TI TO Value.none) (hTI : IsPair s.heap TI (Value.ref i1) (Value.ref i2)) (hTO : IsPair s.heap TO a b)
    (s1 : St1 k s.heap) (s2 : St2 k s.heap) (hk : k = n1 ∨ (k < n1 ∧ k = n2))
    (hQ : ∀ (h' : Heap) (e : Addr) (tk : Nat), (∀ (c : Addr) (o : Obj), c ≠ z → c ≠ TO → c ≠ i1 → c ≠ i2 → s.heap.get? c = some o → h'.get? c = some o) → (∃ o, h'.get? e = some o ∧ o.cls = Value.type "StopIteration") → E (Value.ref e) { s with heap := h', toks := tk }) :
    wpAny (model P w) A (Builtin.«zip.__next__» { pos := [Value.ref z] }) Q E s := by
  show wpAny (model P w) A (Bind.bind (field (Value.ref z) 2) _) _ E s
  refine wpAny_bind (wpAny_field hz rfl rfl (id (wpAny_bind (wpAny_field hz rfl rfl (wpAny_bind (wpAny_seqItems hTI rfl ?_))))))
  refine id (wpAny_bind (id (wpAny_bind (wpAny_field hz rfl rfl (wpAny_pure ?_)))))
  refine wpAny_bind (wpAny_rule (wpAny_bind (wpAny_field hz rfl rfl (wpAny_bind (wpAny_setField_rec hz (show 0 < 5 by decide) fun h1 hz1 sb1 => ?_)))))
  have t1 : IsPair h1 TO a b := (sb1.2 TO Z.TOz).trans hTO
  have d1 : St1 k h1 := D1.frame k s.heap h1 s1 fun c hc o q => (sb1.2 c fun e => Z.z1 (by rw [← e]; exact hc)).trans q
  have d2 : St2 k h1 := D2.frame k s.heap h1 s2 fun c hc o q => (sb1.2 c fun e => Z.z2 (by rw [← e]; exact hc)).trans q
  have ne1 : TO ≠ i1 := fun e => Z.TO1 (by rw [e]; exact Z.m1)
  have ne2 : TO ≠ i2 := fun e => Z.TO2 (by rw [e]; exact Z.m2)
  have z1 : z ≠ i1 := fun e => Z.z1 (by rw [e]; exact Z.m1)
  have z2 : z ≠ i2 := fun e => Z.z2 (by rw [e]; exact Z.m2)
  refine wpAny_bind ?_
  refine id (wpAny_bind (id (wpAny_bind (wpAny_onRaise ?_))))
  rcases hk with rfl | ⟨l1, rfl⟩
  · refine id (wpAny_bind (D1.done _ _ _ d1 fun h2 e eb he => ?_))
    have hz2 := eb z _ z1 hz1
    refine wpAny_setField_rec hz2 (show 0 < 5 by decide) fun h3 hz3 sb3 => ?_
    obtain ⟨o, ho, hc⟩ := he
    have hez : e ≠ z := fun q => by rw [q, hz2] at ho; cases ho; simp at hc
    exact hQ h3 e _ (fun c o cz cT c1 c2 q => (sb3.2 c cz).trans (eb c o c1 ((sb1.2 c cz).trans q))) ⟨o, (sb3.2 e hez).trans ho, hc⟩
  · refine id (wpAny_bind (D1.item k _ _ _ l1 d1 fun x h2 tk2 px d1' sb2 => ?_))
    have t2 : IsPair h2 TO a b := (sb2.2 TO ne1).trans t1
    have hz2 := (sb2.2 z z1).trans hz1
    have d2' : St2 k h2 := D2.frame k h1 h2 d2 fun c hc o q => (sb2.2 c fun e => Z.i12 (by rw [← e]; exact hc)).trans q
    refine wpAny_pure (id (wpAny_bind (wpAny_seqItems t2 rfl (id (wpAny_bind (wpAny_updateSeq_pair t2 fun h3 t3 sb3 => id (wpAny_bind (wpAny_letGo (wpAny_pure ?_)))))))))
    have d2_3 : St2 k h3 := D2.frame k h2 h3 d2' fun c hc o q => (sb3.2 c fun e => Z.TO2 (by rw [← e]; exact hc)).trans q
    have hz3 := (sb3.2 z (Ne.symm Z.TOz)).trans hz2
    refine id (wpAny_bind (id (wpAny_bind (wpAny_onRaise ?_))))
    refine id (wpAny_bind (D2.done _ _ _ d2_3 fun h4 e eb he => ?_))
    have hz4 := eb z _ z2 hz3
    refine wpAny_setField_rec hz4 (show 0 < 5 by decide) fun h5 hz5 sb5 => ?_
    obtain ⟨o, ho, hc⟩ := he
    have hez : e ≠ z := fun q => by rw [q, hz4] at ho; cases ho; simp at hc
    exact hQ h5 e _ (fun c o cz cT c1 c2 q => (sb5.2 c cz).trans (eb c o c2 ((sb3.2 c cT).trans ((sb2.2 c c1).trans ((sb1.2 c cz).trans q))))) ⟨o, (sb5.2 e hez).trans ho, hc⟩
end Bel

namespace Bel
open PySem PySem.Spec PyProof.Rows L2
def YPx (xs ys : Nat → Option V) : Nat → Hp → V → Hp → Prop := fun i H v H' => ∃ (T : Addr) (x y : V) (ob : Obj), v = .ref T ∧ H T = none ∧ (ob.dict = none ∧ H' = upd H T (TupO ob [x, y])) ∧ xs i = some x ∧ ys i = some y
theorem pyNext_zipD_item {P : Program} {w : World} {A : Around} {E : Value → Shared → Prop} {s : Shared} {z TI TO i1 i2 : Addr} {fp1 fp2 : List Addr} {n1 n2 k : Nat} {P1 P2 : Nat → Value → Prop} {St1 St2 : Nat → Heap → Prop} {a b : Value} {Q : Option Value → Shared → Prop}
    (D1 : Draws P w A.in1 i1 fp1 n1 P1 St1) (D2 : Draws P w A.in1 i2 fp2 n2 P2 St2) (Z : ZApart z TI TO i1 i2 fp1 fp2) (hz : IsZip s.heap z TI TO Value.none) (hTI : IsPair s.heap TI (Value.ref i1) (Value.ref i2)) (hTO : IsPair s.heap TO a b)
    (s1 : St1 k s.heap) (s2 : St2 k s.heap) (l1 : k < n1) (l2 : k < n2)
    (hQ : ∀ (x y : Value) (h' : Heap) (tk : Nat), P1 k x → P2 k y → IsZip h' z TI TO (rawInt s.heap.objs.size) → IsPair h' TO x y → St1 (k + 1) h' → St2 (k + 1) h' → IsPair h' s.heap.objs.size x y → h'.objs.size = s.heap.objs.size + 1 →
      (∀ (c : Addr) (o : Obj), c ≠ z → c ≠ TO → c ≠ i1 → c ≠ i2 → s.heap.get? c = some o → h'.get? c = some o) → Q (some (Value.ref s.heap.objs.size)) { s with heap := h', toks := tk }) :
    wpAny (model P w) A (pyNext (Value.ref z)) Q E s := by
  have hT : s.TypeIs (Value.ref z) "zip" := ⟨_, hz, rfl⟩
  exact id (wpAny_bind (wpAny_attempt (wpAny_callSpecial?_slot hT F.slot_zip_next (wpAny_call_entry F.slot_zip_next hT F.entry_zip_next (zipD_item D1 D2 Z hz hTI hTO s1 s2 l1 l2 fun x y h' tk a1 a2 a3 a4 a5 a6 a7 a8 a9 => wpAny_pure (hQ x y h' tk a1 a2 a3 a4 a5 a6 a7 a8 a9)) (F.args_zip_next_1 (Value.ref z))))))
theorem pyNext_zipD_end {P : Program} {w : World} {A : Around} {E : Value → Shared → Prop} {s : Shared} {z TI TO i1 i2 : Addr} {fp1 fp2 : List Addr} {n1 n2 k : Nat} {P1 P2 : Nat → Value → Prop} {St1 St2 : Nat → Heap → Prop} {a b : Value} {Q : Option Value → Shared → Prop}
    (D1 : Draws P w A.in1 i1 fp1 n1 P1 St1) (D2 : Draws P w A.in1 i2 fp2 n2 P2 St2) (Z : ZApart z TI TO i1 i2 fp1 fp2) (hz : IsZip s.heap z TI TO Value.none) (hTI : IsPair s.heap TI (Value.ref i1) (Value.ref i2)) (hTO : IsPair s.heap TO a b)
    (s1 : St1 k s.heap) (s2 : St2 k s.heap) (hk : k = n1 ∨ (k < n1 ∧ k = n2))
    (hQ : ∀ (h' : Heap) (tk : Nat), (∀ (c : Addr) (o : Obj), c ≠ z → c ≠ TO → c ≠ i1 → c ≠ i2 → s.heap.get? c = some o → h'.get? c = some o) → Q none { s with heap := h', toks := tk }) :
    wpAny (model P w) A (pyNext (Value.ref z)) Q E s := by
  have hT : s.TypeIs (Value.ref z) "zip" := ⟨_, hz, rfl⟩
  refine id (wpAny_bind (wpAny_attempt (wpAny_callSpecial?_slot hT F.slot_zip_next (wpAny_call_entry F.slot_zip_next hT F.entry_zip_next (zipD_end D1 D2 Z hz hTI hTO s1 s2 hk fun h' e tk k1 he => ?_) (F.args_zip_next_1 (Value.ref z))))))
  obtain ⟨o, ho, hc⟩ := he
  exact wpAny_bind (wpAny_isInstance ⟨o, ho, hc⟩ isSubtype_stop (wpAny_pure (hQ h' tk k1)))
/-- what a zip of a list and a tuple needs apart -/
structure ZM (z TI TO i1 i2 a b : Addr) : Prop where
  za : ZApart z TI TO i1 i2 [i1, a] [i2, b]
  a1 : a ≠ i1
  b2 : b ≠ i2
def ItzU (K : PySem.W.Frag) (a b : Addr) : It := ⟨fun i H => ∃ xs ys x y, SqT K H a xs ∧ SqT K H b ys ∧ xs[i]? = some x ∧ ys[i]? = some y,
  fun i H v H' => ∃ (T : Addr) (x y : V) (ob : Obj), v = V.ref T ∧ H T = none ∧ (ob.dict = none ∧ H' = upd H T (TupO ob [x, y])) ∧ (∀ xs, SqT K H a xs → xs[i]? = some x) ∧ ∀ ys, SqT K H b ys → ys[i]? = some y,
  fun i H => ∃ xs ys, SqT K H a xs ∧ SqT K H b ys ∧ (xs.length = i ∨ (i < xs.length ∧ ys.length = i))⟩
theorem turn_zipU {P : Program} {w : World} {K : PySem.W.Frag} {elts : List Expr} {kk : Nat} {tpos : Pos} {a b z TI TO i1 i2 : Addr} (Z : ZM z TI TO i1 i2 a b) :
    Turn P w K (.Tuple elts kk tpos) (ItzU K a b) [z, TI, TO, i1, i2] z fun i h => IsZip h z TI TO Value.none ∧ IsPair h TI (Value.ref i1) (Value.ref i2) ∧ (∃ x y, IsPair h TO x y) ∧ h.IsTupleIter i1 a i ∧ h.IsTupleIter i2 b i where
  mem := List.mem_cons_self
  obj i h st c hc := by
    obtain ⟨hz, hTI, ⟨x, y, hTO⟩, ⟨o1, e1, _, d1⟩, ⟨o2, e2, _, d2⟩⟩ := st
    simp only [List.mem_cons, List.not_mem_nil, or_false] at hc
    rcases hc with rfl | rfl | rfl | rfl | rfl
    · exact ⟨_, hz, fun v q => nomatch q⟩
    · exact ⟨_, hTI, fun v q => nomatch q⟩
    · exact ⟨_, hTO, fun v q => nomatch q⟩
    · exact ⟨o1, e1, fun v q => by rw [d1] at q; cases q⟩
    · exact ⟨o2, e2, fun v q => by rw [d2] at q; cases q⟩
  keep i h h' st k := by
    obtain ⟨hz, hTI, ⟨x, y, hTO⟩, ⟨o1, e1, c1, d1⟩, ⟨o2, e2, c2, d2⟩⟩ := st
    exact ⟨k z (by simp) _ hz, k TI (by simp) _ hTI, ⟨x, y, k TO (by simp) _ hTO⟩, ⟨o1, k i1 (by simp) _ e1, c1, d1⟩, ⟨o2, k i2 (by simp) _ e2, c2, d2⟩⟩
  item X hP hw hK hc i pins s σ H E I hf st hg := by
    subst hP hw hK
    obtain ⟨hz, hTI, ⟨x0, y0, hTO⟩, it1, it2⟩ := st
    obtain ⟨xs, ys, x, y, hq1, hq2, hx, hy⟩ := hg
    obtain ⟨its1, rv1, p1⟩ := Inv.tuple I hq1
    obtain ⟨its2, rv2, p2⟩ := Inv.tuple I hq2
    obtain ⟨u1, hu1, ru1⟩ := Vals.get rv1 hx
    obtain ⟨u2, hu2, ru2⟩ := Vals.get rv2 hy
    have hh := I.ok.hd hc
    have L1 : s.heap.IsTuple a its1.toArray := p1.1
    have T2 : s.heap.IsTuple b its2.toArray := p2.1
    have hhz := Heap.lt_size hz
    have l1 : i < its1.toArray.size := by simpa using (List.getElem?_eq_some_iff.mp hu1).1
    have l2 : i < its2.toArray.size := by simpa using (List.getElem?_eq_some_iff.mp hu2).1
    refine pyNext_zipD_item (drawsT (A := X.A.in1) hh i1 a Z.a1 its1.toArray) (drawsT (A := X.A.in1) hh i2 b Z.b2 its2.toArray) Z.za hz hTI hTO ⟨it1, L1⟩ ⟨it2, T2⟩ l1 l2 fun x' y' h' tk px py hz' hTO' s1' s2' hn hsz hkeep => ?_
    have ex : x' = u1 := by
      have : its1[i]? = some x' := by simpa using px
      rw [hu1] at this; exact (Option.some.inj this).symm
    have ey : y' = u2 := by
      have : its2[i]? = some y' := by simpa using py
      rw [hu2] at this; exact (Option.some.inj this).symm
    subst ex ey
    refine ⟨_, rfl, wpAny_letOwnedTupleGo_zip hz' fun h'' hz'' sb => ?_⟩
    have hT2 := (sb.2 s.heap.objs.size (Nat.ne_of_gt hhz)).trans hn
    have I1 := Inv.turnedNew (t' := tk) I (ch := [z, TI, TO, i1, i2]) (T := s.heap.objs.size) (ob := TupO { cls := .type "tuple", data := .seq #[x', y'] } [x, y]) (h' := h'') (fun c ob hb q => by
        simp only [List.mem_cons, List.not_mem_nil, or_false, not_or] at hb
        obtain ⟨n1, n2, n3, n4, n5⟩ := hb
        exact (sb.2 c n1).trans (hkeep c ob n1 n3 n4 n5 q)) hf (Nat.le_refl _)
      ⟨hT2, (show 2 ≤ sizeLine from by decide), [x', y'], .cons ru1 (.cons ru2 .nil), ⟨_, hT2, rfl, 0, rfl⟩⟩
    refine ⟨.ref s.heap.objs.size, _, I1, rfl, ⟨_, x, y, _, rfl, HOk.fresh I.hok (Nat.le_refl _), ⟨rfl, rfl⟩, fun xs' h => by rw [Inv.tuple_inj I h hq1]; exact hx, fun ys' h => by rw [Inv.tuple_inj I h hq2]; exact hy⟩, ⟨hz'', ?_, ⟨x', y', (sb.2 TO Z.za.TOz).trans hTO'⟩, ?_, ?_⟩, fun c hb => ?_⟩
    · have e1 : TI ≠ z := Z.za.TIz
      exact (sb.2 TI e1).trans (hkeep TI _ e1 Z.za.TITO Z.za.TIi1 Z.za.TIi2 hTI)
    · obtain ⟨⟨o, q, r⟩, _⟩ := s1'
      exact ⟨o, (sb.2 i1 fun e => Z.za.z1 (by rw [← e]; exact Z.za.m1)).trans q, r⟩
    · obtain ⟨⟨o, q, r⟩, _⟩ := s2'
      exact ⟨o, (sb.2 i2 fun e => Z.za.z2 (by rw [← e]; exact Z.za.m2)).trans q, r⟩
    · have hb' : c < s.heap.objs.size := by
        simp only [List.mem_cons, List.not_mem_nil, or_false] at hb
        obtain ⟨o1, e1, _⟩ := it1
        obtain ⟨o2, e2, _⟩ := it2
        rcases hb with rfl | rfl | rfl | rfl | rfl
        · exact hhz
        · exact Heap.lt_size hTI
        · exact Heap.lt_size hTO
        · exact Heap.lt_size e1
        · exact Heap.lt_size e2
      rw [upd_ne (Nat.ne_of_lt hb')]
      exact (hf c hb).1
  done X hP hw hK hc i pins s σ H E I hf st hg := by
    subst hP hw hK
    obtain ⟨hz, hTI, ⟨x0, y0, hTO⟩, it1, it2⟩ := st
    obtain ⟨xs, ys, hq1, hq2, hend⟩ := hg
    obtain ⟨its1, rv1, p1⟩ := Inv.tuple I hq1
    obtain ⟨its2, rv2, p2⟩ := Inv.tuple I hq2
    have hh := I.ok.hd hc
    have L1 : s.heap.IsTuple a its1.toArray := p1.1
    have T2 : s.heap.IsTuple b its2.toArray := p2.1
    have v1 := Vals.length rv1
    have v2 := Vals.length rv2
    refine pyNext_zipD_end (drawsT (A := X.A.in1) hh i1 a Z.a1 its1.toArray) (drawsT (A := X.A.in1) hh i2 b Z.b2 its2.toArray) Z.za hz hTI hTO ⟨it1, L1⟩ ⟨it2, T2⟩ (by simp; omega) fun h' tk hk => ⟨rfl, ?_⟩
    exact Inv.turnedL (ch := [z, TI, TO, i1, i2]) I (fun c o hb q => by
      simp only [List.mem_cons, List.not_mem_nil, or_false, not_or] at hb
      obtain ⟨n1, n2, n3, n4, n5⟩ := hb
      exact hk c o n1 n3 n4 n5 q) hf
  self A i s Q E st h := wpAny_pyIter_zip st.1 h
def iZipU (K : PySem.W.Frag) (ta : TA) : TI := fun σ H R => ta σ H fun vs H1 => ∃ a b xs ys, vs = [V.ref a, V.ref b] ∧ SqT K H1 a xs ∧ SqT K H1 b ys ∧ R (ItzU K a b) H1
theorem pi_zipU {X : Cx} {e e2 : Expr} {ta : TA} {p pos tpos : Pos} {elts : List Expr} {kk : Nat} (hg : Gl X "zip") (hm : X.mg "zip" = none) (ha : PA X [e, e2] ta) (hs : starEach [e, e2] X.env = (false, eval e X.env) :: starEach [e2] X.env := by rfl)
    (hpl : (backTo pos (starEach [e2] X.env)).any (fun x => x.1) = false := by rfl) : PI X (.Tuple elts kk tpos) (.Call (.Name "zip" p) [e, e2] [] pos) (iZipU X.K ta) where
  run pins s σ H R I h := by
    refine Call_ (ld_blt I hg hm boot_zip (PyProof.Rows.callWith_type1 (thn (ha.run pos pins s σ H (fun vs H1 => ∃ a b xs ys, vs = [V.ref a, V.ref b] ∧ SqT X.K H1 a xs ∧ SqT X.K H1 b ys ∧ R (ItzU X.K a b) H1) I h) fun us s1 x => ?_) hs hpl))
    obtain ⟨vs, H1, I1, r1, a, b, xs, ys, rfl, hq1, hq2, q⟩ := x
    cases r1 with
    | cons r rr =>
      cases rr with
      | cons r2 rr =>
        cases rr
        cases r
        cases r2
        obtain ⟨its1, rv1, p1⟩ := Inv.tuple I1 hq1
        obtain ⟨its2, rv2, p2⟩ := Inv.tuple I1 hq2
        have L1 : s1.heap.IsTuple a its1.toArray := p1.1
        have T2 : s1.heap.IsTuple b its2.toArray := p2.1
        have la : a < s1.heap.objs.size := by obtain ⟨o, e, _⟩ := L1; exact Heap.lt_size e
        have lb : b < s1.heap.objs.size := by obtain ⟨o, e, _⟩ := T2; exact Heap.lt_size e
        refine RZ.call_zipT L1 T2 fun h' hz hTI hTO it1 it2 hsz hk => wpAny_pyIter_zip hz ?_
        have Z : ZM (s1.heap.objs.size + 4) (s1.heap.objs.size + 2) (s1.heap.objs.size + 3) s1.heap.objs.size (s1.heap.objs.size + 1) a b := by
          generalize s1.heap.objs.size = n at *
          have la : @LT.lt Nat _ a n := la
          have lb : @LT.lt Nat _ b n := lb
          refine ⟨⟨?_, ?_, ?_, ?_, ?_, ?_, ?_, ?_, ?_, ?_, ?_, ?_, ?_⟩, Nat.ne_of_lt la, Nat.ne_of_lt (Nat.lt_succ_of_lt lb)⟩ <;> (try simp only [List.mem_cons, List.not_mem_nil, or_false, not_or]) <;>
            first
            | exact (by omega : @Ne Nat _ _)
            | exact ⟨(by omega : @Ne Nat _ _), (by omega : @Ne Nat _ _)⟩
            | exact .inl rfl
            | simp
        refine ⟨_, [s1.heap.objs.size + 4, s1.heap.objs.size + 2, s1.heap.objs.size + 3, s1.heap.objs.size, s1.heap.objs.size + 1], _, ItzU X.K a b, H1, rfl, Inv.kept I1 hk, turn_zipU Z, ⟨hz, hTI, ⟨_, _, hTO⟩, it1, it2⟩, fun c hb => ?_, q⟩
        have hle : s1.heap.objs.size ≤ c := by
          simp only [List.mem_cons, List.not_mem_nil, or_false] at hb
          rcases hb with rfl | rfl | rfl | rfl | rfl <;> omega
        exact Inv.fpOk I1 hle (HOk.fresh I1.hok hle)
theorem walk_zipU {K : PySem.W.Frag} {a b : Addr} {xs ys : List V} : Walk (ItzU K a b) (min xs.length ys.length) (fun H => SqT K H a xs ∧ SqT K H b ys) (YPx (fun i => xs[i]?) fun i => ys[i]?) where
  goes i H hi h := ⟨xs, ys, xs[i], ys[i], h.1, h.2, by simp, by simp⟩
  stops H h := ⟨xs, ys, h.1, h.2, by omega⟩
  yields i H x H' hi h y := by
    obtain ⟨T, u, v, ob, rfl, hT, hH, h1, h2⟩ := y
    exact ⟨T, u, v, ob, rfl, hT, hH, h1 xs h.1, h2 ys h.2⟩
def zipW (l m : List W) : List W := (l.zip m).map fun p => .tup [p.1, p.2]
theorem zipW_len (l m : List W) : (zipW l m).length = min l.length m.length := by simp [zipW]
theorem zipW_get {l m : List W} {i : Nat} {w : W} (h : (zipW l m)[i]? = some w) : ∃ a b, l[i]? = some a ∧ m[i]? = some b ∧ w = .tup [a, b] := by
  unfold zipW at h
  rw [List.getElem?_map] at h
  cases e : (l.zip m)[i]? with
  | none => rw [e] at h; cases h
  | some p =>
    rw [e] at h
    cases some_inj h
    obtain ⟨h1, h2⟩ := List.getElem?_zip_eq_some.mp e
    exact ⟨p.1, p.2, h1, h2, rfl⟩
/-- zip(tuple, tuple) -/
def dZipT (a b : DE) : DI := fun e S => (a e S).bind fun u S1 => (b e S1).bind fun v S2 => match u, v with
  | .v (.tup l), .v (.tup m) => .ok (zipW l m) S2
  | _, _ => .no
section
variable {ec : Ec} {X : Cx} {e e2 : Expr} {da db : DE} {p pos tpos : Pos} {elts : List Expr} {kk : Nat}
theorem pair_walk {F : Fx} {ι : List Addr} {S : Store} {B : Addr → Prop} {H : Hp} {J : It} {l m : List W} {xs ys : List V} {G : Hp → Prop} (wk : Walk J (min xs.length ys.length) G (YPx (fun i => xs[i]?) fun i => ys[i]?))
    (r1 : RpL F H (Oq ι S B) l xs) (r2 : RpL F H (Oq ι S B) m ys) (hG : ∀ (ι1 : List Addr) (S1 : Store) (B1 : Addr → Prop) (H1 : Hp), Ext (Oq ι S B) H H1 → Own (Oq ι S B) (Oq ι1 S1 B1) H → G H1) : WalkW F ι S B H J (zipW l m) := by
  refine ⟨_, _, by rw [zipW_len, r1.1, r2.1]; exact wk, fun ι1 S1 B1 H1 x o R1 => ⟨hG ι1 S1 B1 H1 x o, fun i y H2 w hw hy => ?_⟩⟩
  obtain ⟨T, a, b, ob, rfl, hT, ⟨ho, rfl⟩, ha, hb⟩ := hy
  obtain ⟨w1, w2, h1, h2, rfl⟩ := zipW_get hw
  obtain ⟨f1, f2, f3⟩ := R1.fresh (TupO ob [a, b]) hT
  refine ⟨Rp.mkTup (.inl ⟨⟨ob, upd_same, ho⟩, f3⟩) (.cons (((r1.2 i w1 a h1 ha).ext x o).go f2) (.cons (((r2.2 i w2 b h2 hb).ext x o).go f2) .nil)), f1, f2, fun y z hz => ?_⟩
  rw [upd_ne (ne_of_none hz hT)]; exact hz
theorem iv_zipT (hg : Gl X "zip") (hm : X.mg "zip" = none) (h : PEv ec X e da) (h2 : PEv ec X e2 db) (hs : starEach [e, e2] X.env = (false, eval e X.env) :: starEach [e2] X.env := by rfl) (hs2 : starEach [e2] X.env = (false, eval e2 X.env) :: starEach [] X.env := by rfl)
    (hpl : (backTo pos (starEach [e2] X.env)).any (fun x => x.1) = false := by rfl) : PIv ec X (.Tuple elts kk tpos) (.Call (.Name "zip" p) [e, e2] [] pos) (dZipT da db) :=
  ⟨fun pn xe Wx tk => (pi_zipU (X := X.tr pn xe) hg hm (pa_cons (h.run pn xe Wx tk) (pa_cons (h2.run pn xe Wx tk) pa_nil hs2) hs) hs hpl).imp fun σ H Q ⟨env, S, ι, B, R, E, h⟩ => LE.thenI R E h fun u S1 v H1 ι1 G1 R1 E1 ru h1 =>
    LE.thenI R1 E1 h1 fun u2 S2 v2 H2 ι2 G2 R2 E2 ru2 h2 => by
      have ru' := RU.go G2 ru
      split at h2
      · rename_i l m
        obtain ⟨a, xs, rfl, k1, r1⟩ := Rp.tup_inv ru'
        obtain ⟨b, ys, rfl, k2, r2⟩ := Rp.tup_inv ru2
        exact ⟨a, b, xs, ys, rfl, k1.sq (F := fx ec X), k2.sq (F := fx ec X), h2 _ H2 ι2 .refl R2 (pair_walk walk_zipU r1 r2 fun ι1 S1 B1 H1 x o => ⟨(k1.ext x o).sq (F := fx ec X), (k2.ext x o).sq (F := fx ec X)⟩)⟩
      · exact h2.elim⟩
end
end Bel

namespace Bel
open PySem PySem.Spec PyProof.Rows L2
section
variable {F : Fx} {H H' : Hp} {ι : List Addr} {S : Store} {B : Addr → Prop}
theorem ext_all {O : Addr → Prop} (h : ∀ a y, H a = some y → H' a = some y) : Ext O H H' := fun a y e _ => h a y e
theorem ObR.all {O : Addr → Prop} {a : Addr} {o : Ob} (h : ∀ a y, H a = some y → H' a = some y) (r : ObR F ι H O a o) : ObR F ι H' O a o := by
  have E : Ext O H H' := ext_all h
  have P : Own O O H := fun _ z => .inl z
  cases o with
  | lst ws => obtain ⟨vs, e, r⟩ := r; exact ⟨vs, h _ _ e, r.ext E P⟩
  | dct ws => obtain ⟨vs, e, r⟩ := r; exact ⟨vs, h _ _ e, r.ext E P⟩
  | scr ws => obtain ⟨vs, y, e, d, r⟩ := r; exact ⟨vs, y, h _ _ e, d.imp (h _ _) fun ⟨o, d⟩ => ⟨o, h _ _ d⟩, r.ext E P⟩
  | tbl x q => exact TblR.ext r E P fun _ e => h _ _ e
  | td ws => exact TdVR.ext r E P fun _ e => h _ _ e
  | ru k us => obtain ⟨f, vs, d, r⟩ := r; exact ⟨f, vs, d.ext E P (fun _ e => h _ _ e), r.ext E P pre_rfl⟩
  | dead => obtain ⟨y, e⟩ := r; exact ⟨y, h _ _ e⟩
theorem RS.all (R : RS F ι S B H) (h : ∀ a y, H a = some y → H' a = some y) : RS F ι S B H' ∧ Go ι S H ι S H' :=
  ⟨⟨R.len, R.nd, fun n o a h1 h2 => (R.ob n o a h1 h2).all h, fun a b => let ⟨⟨y, e⟩, n⟩ := R.hid a b; ⟨⟨y, h _ _ e⟩, n⟩⟩, ⟨ext_all h, fun _ z => .inl z, [], by simp⟩⟩
end
section
variable {ec : Ec} {X : Cx} {e : Expr} {es : List Expr} {da : DE} {das : DA} {p apos cpos pos : Pos}
end
end Bel

namespace Bel
open PySem PySem.Spec PyProof.Rows L2
section
variable {F : Fx} {H H' : Hp} {ι : List Addr} {S : Store} {B : Addr → Prop}
/-- what is hidden from the borrower -/
def lent (ι : List Addr) (S : Store) (B : Addr → Prop) (us : List U) : Addr → Prop := fun a => Oq ι S B a ∧ ∀ n, U.o n ∈ us → ι[n]? ≠ some a
theorem oq_nil {B : Addr → Prop} {a : Addr} (h : Oq [] [] B a) : B a := by
  rcases h with ⟨n, o, h, _⟩ | h
  · simp at h
  · exact h
end
section
variable {ec : Ec} {X : Cx} {e : Expr} {es : List Expr} {pos p : Pos} {das : DA} {df : DF} {n k : Nat} {x : Str}
end
end Bel

namespace Bel
open PySem PySem.Spec PyProof.Rows L2
section
variable {ec : Ec} {X : Cx} {e o : Expr} {da : DE} {apos cpos : Pos}
end
end Bel

namespace Bel
open PySem PySem.Spec PyProof.Rows L2
theorem gv_tupK {ec : Ec} {X : Cx} {es : List Expr} {pos : Pos} {K : PySem.W.Frag} {gs : TGs} {ts : List W → Env' → Option Env'} {sls : List Nat} {k n : Nat} (hK : X.K = K) (hc : X.calm = true) (h : PGsv ec X es gs ts sls) (hn : (assignEach es X.env).length = n := by rfl) (hst : (assignEach es X.env).findIdx? (·.1) = none := by rfl) : PGv ec X (.Tuple es k pos) (gTup K n gs) (tgT n ts) sls := by
  subst hK
  exact gv_tup hc h hn hst
@[simp] theorem dZipT_ap (a b : DE) (e : Env') (S : Store) : dZipT a b e S = (a e S).bind fun u S1 => (b e S1).bind fun v S2 => match u, v with
  | .v (.tup l), .v (.tup m) => .ok (zipW l m) S2
  | _, _ => .no := rfl
end Bel

namespace Bel
open PySem PySem.Spec PyProof.Rows L2
end Bel

namespace Bel
open PySem PySem.Spec PyProof.Rows L2
end Bel

namespace Bel
open PySem PySem.Spec PyProof.Rows L2
def errBS (es : List Str) (K : PySem.W.Frag) : Bool := es.all fun x => (He.Fa.glo x).ok K && (He.Fa.exc x).ok K
structure ErrsS (es : List Str) (K : PySem.W.Frag) (mg : Str → Option Value) : Prop where
  at_ : ∀ x ∈ es, mg x = some (.ref (He.ga K x)) ∧ (He.Fa.exc x).ok K = true
theorem errBS_ok {es : List Str} {K : PySem.W.Frag} {mg : Str → Option Value} (gl : ∀ x, (He.Fa.glo x).ok K = true → mg x = some (.ref (He.ga K x))) (h : errBS es K = true) : ErrsS es K mg := ⟨fun x hx => by
  obtain ⟨z1, z2⟩ := He.ba (List.all_eq_true.mp h x hx)
  exact ⟨gl x z1, z2⟩⟩
theorem sv_raiseS {X : Cx} {pos : Pos} {ec : Ec} {c : Nat} {x m : Str} {j : Nat} {p p2 p3 : Pos} {es : List Str} {rf : Bool} (hec : ec = ecH rf X.K) (G : ErrsS es X.K X.mg) (hm : ern c ∈ es) (hc : X.calm = true) (hx : ern c = x) (hg : Gl X x) (hdb : (x == ("__debug__" : Str)) = false := by decide) : PSv ec X (.Raise (some (.Call (.Name x p) [.Constant (.str m) j p2] [] p3)) none pos) (dRaise c) := by
  subst hec
  subst hx
  obtain ⟨g1, g2⟩ := G.at_ (ern c) hm
  obtain ⟨q1, q2, q3, q4⟩ := He.exc_ok g2
  exact ⟨fun pn xe Wx tk po => (ps_raise (X := X.tr pn xe) (W := Wx) hc tk (pmk_own (X := X.tr pn xe) PySem.F.excBase_ValueError q1 g1 q2 (raises_own q3 q4) hg hdb)).imp fun D σ H ⟨env, S, ι, B, R, E, h⟩ => h σ H ι .refl R E⟩
structure HdS (K : PySem.W.Frag) (mg : Str → Option Value) (w : World) (fa : List He.Fa) (fn : List He.DefD) (kc : List Con') (kd : List Kd) (es : List Str) : Prop extends HdW K mg w fa fn kc kd where
  er : ErrsS es K mg
def exS (kc : List Con') (kd : List Kd) (es : List Str) (K : PySem.W.Frag) : Bool := exB kc kd K && errBS es K
theorem law_endS {l : PySem.W.OpenLaw} {n k : Nat} {q : Program} {loose : List Str} {XP : (Str → Option Value) → Heap → Prop} {d : DefRec} {x y : Str} {fa : List He.Fa} {fn : List He.DefD} {kc : List Con'} {kd : List Kd} {es : List Str} {m : Nat}
    (hn : l.most = some n) (hn2 : n ≤ sizeLine) (hdf : d.params.defaults = []) (hr : Room k callerA) (hx : d.name = x) (j : Nat) (hj : fa[j]? = some (.glo x)) (df : DF)
    (F : ∀ (w : World) (mg : Str → Option Value) (K : PySem.W.Frag), HdS K mg w fa fn kc kd es → ∃ (ec : Ec) (fd : FuncData), (∀ (s : Shared) (u : Value), BindsTo s fd ⟨[u], []⟩ [(y, u)]) ∧
      ∀ base : Heap, FnG l.prog w K mg base k (He.ga K x) fd [y] (spD ⟨K, w, ec⟩ df 1))
    (L : ∀ ns : List Int, ns.length ≤ n → ∃ S', df [.o 0] [.scr (ns.map W.int)] = .ok (.v (.bl true)) S') :
    PySem.W.WalkO q loose XP (He.hookX m fa fn (tabs kd) [] (exS kc kd es)).says l.row.toRowW d [] (fun f vs => PySem.call f vs) := by
  refine Att.attach_call hn hdf fun w s₀ s₁ mg mb ad o pm cd doc a vs ns G Y ho hd hcd hmg hobj hints hlen hg => ?_
  obtain ⟨K, KX, c⟩ := Y
  obtain ⟨z0, ze⟩ := He.ba c.more
  obtain ⟨z1, z⟩ := He.ba z0
  obtain ⟨z2, z⟩ := He.ba z
  obtain ⟨z3, z4⟩ := He.ba z
  have Z0 : Hd K mg fa fn kc := ⟨c.t.d, fun x e => He.glo_ok KX G.T.g e, fun x e => He.free_ok KX G.T.g e, fun p hp => konB_ok KX G.T.g (List.all_eq_true.mp z2 p hp), z1⟩
  have Z1 : HdW K mg w fa fn kc kd := ⟨Z0, fun p hp => by
    obtain ⟨i, hi, e⟩ := List.mem_iff_getElem.mp hp
    have ht : (tabs kd)[i]? = some ((fun K => He.ga K p.1), p.2.map fun q => (⟨q.1.toArray⟩ : Str)) := by
      unfold tabs
      rw [List.getElem?_map, List.getElem?_eq_getElem hi, e]
      rfl
    exact kdB_ok (Z0.gl _ (List.all_eq_true.mp z4 p hp)) (c.t.tab i ht) (List.all_eq_true.mp z3 p hp)⟩
  have Z : HdS K mg w fa fn kc kd es := ⟨Z1, errBS_ok Z0.gl ze⟩
  obtain ⟨ec, fd, hb, hF⟩ := F w mg K Z
  have e := hmg.symm.trans (hx ▸ Z0.gl x (c.t.d.fact j hj))
  have ea : ad = He.ga K x := by
    injection e with e
    injection e with e
    rw [e, hx]
  subst ea
  have hno : ∀ o, K.lookup a = some o → False := fun o h => noLst_ok z1 h (by
    have := KX a o h
    rw [hobj] at this
    rw [← Option.some.inj this])
  exact lawG (sp := spD ⟨K, w, ec⟩ df 1) KX G.T.g G.T.b G.T.builtins G.T.nolimit hg hobj hints (Nat.le_trans hlen hn2) ⟨hr, rfl⟩ hno hF hb (fun H hO hS => law_sp (F := ⟨K, w, ec⟩) z1 hO hS (L ns hlen))
end Bel

namespace BelLaw
open PySem PySem.Spec PyProof.Rows L2 Bel
def top (i : Nat) : Stmt := PySem.Challenge.pw_bellyard_k35_judged_by_rules.main.body.getD i (.Pass ⟨0, 0, 0, 0⟩)
abbrev dd (x : Str) (i : Nat) : He.DefD := ⟨(x, none), x, x, defArgs (top i), defBody (top i), defScope (top i), [], []⟩
def ctop (i j : Nat) : Stmt := match top i with
  | .ClassDef _ _ _ body _ _ _ _ _ _ _ => body.getD j (.Pass ⟨0, 0, 0, 0⟩)
  | _ => .Pass ⟨0, 0, 0, 0⟩
abbrev ddm (c m : Str) (i j : Nat) : He.DefD := ⟨(c, some m), m, c ++ "." ++ m, defArgs (ctop i j), defBody (ctop i j), defScope (ctop i j), [], []⟩
def fn : List He.DefD := [dd "_law_state" 29, dd "_law_there" 33, dd "_law_way" 32, dd "_law_lives" 35, dd "_law_wanted" 37, dd "_law_may_end" 40, dd "_law_runs" 34, dd "_law_halting" 38, dd "_law_untold" 39, dd "_law_group" 36, dd "_law_may" 41, dd "_law_next" 30, dd "_law_pick" 31, dd "_law_any_row" 42, dd "_law_made" 43, dd "_law_due" 45, ddm "Standing" "__init__" 25 0, ddm "Court" "__init__" 26 0, dd "is_number" 4, dd "is_between" 9, dd "are_between" 10, dd "is_task_name" 11, dd "is_status" 12, dd "fits" 17, dd "is_row" 18, dd "need_record" 19, ddm "Court" "runs" 26 1, ddm "Court" "told" 26 10, ddm "Court" "starts" 26 5, ddm "Court" "lives" 26 2, ddm "Court" "rung" 26 6, ddm "Court" "pause" 26 7, ddm "Court" "stops" 26 8, ddm "Court" "ends" 26 9, ddm "Court" "goes" 26 4, ddm "Court" "lets_by" 26 3, dd "judged" 27, dd "_law_spoilt" 44, dd "law" 46]
def fa : List He.Fa := [.glo "_law_state", .glo "_law_there", .glo "_law_way", .glo "_law_lives", .glo "_law_wanted", .glo "_law_may_end", .glo "_law_runs", .glo "_law_halting", .glo "_law_untold", .glo "_law_group", .glo "_law_may", .glo "_law_next", .glo "_law_pick", .glo "_law_any_row", .glo "_law_made", .glo "_law_due", .mkr "Standing", .mkr "Court", .glo "is_number", .glo "is_between", .glo "are_between", .glo "is_task_name", .glo "is_status", .glo "fits", .glo "is_row", .glo "need_record", .meth "Court" "runs", .meth "Court" "told", .meth "Court" "starts", .meth "Court" "lives", .meth "Court" "rung", .meth "Court" "pause", .meth "Court" "stops", .meth "Court" "ends", .meth "Court" "goes", .meth "Court" "lets_by", .glo "judged", .glo "_law_spoilt", .glo "law", .free "len", .free "abs", .free "range", .free "int", .free "min", .free "isinstance", .free "bool", .free "tuple", .free "all", .free "max", .free "str", .free "zip", .free "list", .free "enumerate", .free "sum", .cls "Standing", .noat "Standing" "group", .noat "Standing" "way", .noat "Standing" "status", .noat "Standing" "untold", .noat "Standing" "many", .noat "Standing" "ever", .noat "Standing" "halting", .glo "Standing", .cls "Court", .noat "Court" "known", .noat "Court" "due", .glo "Court"]
def tc_MOST_NAMED : W := .int 29
def tc_MOST_DEEP : W := .int 4
def tc_BY_BELLS : W := .tup [.int 100, .int 103, .int 104, .int 105]
def tc_OF_STOPS : W := .tup [.int 201, .int 202]
def tc_HALTING : W := .tup [.int 1, .int 2]
def tc_GO : W := .int 6
def tc_DONE : W := .int 7
def tc_KILL : W := .int 0
def td_MOST : List (List Nat × W) := [([110, 117, 109, 98, 101, 114], .int 999), ([98, 101, 108, 108], .int 7), ([99, 104, 105, 108, 100], .int 29)]
def td_FORMS_w : List (List Nat × W) := [([115, 116, 97, 114, 116, 115], .tup [.str [110, 97, 109, 101], .str [110, 97, 109, 101]]), ([115, 97, 121, 115], .tup [.str [110, 97, 109, 101], .str [110, 117, 109, 98, 101, 114]]), ([114, 117, 110, 103], .tup [.str [110, 97, 109, 101], .str [98, 101, 108, 108]]), ([115, 116, 111, 112, 115], .tup [.str [110, 97, 109, 101], .str [98, 101, 108, 108]]), ([103, 111, 101, 115], .tup [.str [110, 97, 109, 101]]), ([101, 110, 100, 115], .tup [.str [110, 97, 109, 101], .str [115, 116, 97, 116, 117, 115]]), ([116, 111, 108, 100], .tup [.str [110, 97, 109, 101], .str [99, 104, 105, 108, 100], .str [116, 111, 108, 100]])]
def kc : List Con' := ([("MOST_NAMED", tc_MOST_NAMED), ("MOST_DEEP", tc_MOST_DEEP), ("BY_BELLS", tc_BY_BELLS), ("OF_STOPS", tc_OF_STOPS), ("HALTING", tc_HALTING), ("GO", tc_GO), ("DONE", tc_DONE), ("KILL", tc_KILL)] : List Con')
def kd : List Kd := [("MOST", td_MOST), ("FORMS", td_FORMS_w)]
abbrev be : List Str := ["YardError", "NoRecord"]

end BelLaw

namespace BelLaw
open PySem PySem.Spec PyProof.Rows L2 Bel
abbrev R : PySem.W.OpenRow := PySem.W.OpenLaw.row PySem.Challenge.rw_bellyard_k35_judged_by_rules
abbrev hk : PySem.W.Hook := He.hookX 6 fa fn (tabs kd) [] (exS kc kd be)
def ob (s : PySem.W.SharedT) : He.AlX := He.obsX 6 fa fn (tabs kd) [] (exS kc kd be) (HandSHeadRun.getT s)
theorem ob_eq (s : PySem.W.SharedT) : ob s = hk.obs s.abs := He.obsX_eq (HandSHeadRun.getT_eq s)
theorem run_f (w : World) : HandSHeadRun.RunEq R (PySem.W.view R.prog [46]) hk ob 8000 ((["YardError", "NoRecord", "is_number", "MOST_NAMED", "MOST_DEEP", "BY_BELLS", "is_between", "are_between", "is_task_name", "is_status", "FORMS", "MOST", "OF_STOPS", "fits", "is_row", "need_record", "HALTING", "KILL", "GO", "DONE"] : List Str) ++ (["Standing", "Court", "judged", "_law_state", "_law_next", "_law_pick", "_law_way", "_law_there", "_law_runs", "_law_lives", "_law_group", "_law_wanted", "_law_halting", "_law_untold", "_law_may_end", "_law_may", "_law_any_row", "_law_made", "_law_spoilt", "_law_due"] : List Str)) (w.withFollow "special-get-raises" false) := by
  intro os
  kernel_rfl
theorem run_t (w : World) : HandSHeadRun.RunEq R (PySem.W.view R.prog [46]) hk ob 8000 ((["YardError", "NoRecord", "is_number", "MOST_NAMED", "MOST_DEEP", "BY_BELLS", "is_between", "are_between", "is_task_name", "is_status", "FORMS", "MOST", "OF_STOPS", "fits", "is_row", "need_record", "HALTING", "KILL", "GO", "DONE"] : List Str) ++ (["Standing", "Court", "judged", "_law_state", "_law_next", "_law_pick", "_law_way", "_law_there", "_law_runs", "_law_lives", "_law_group", "_law_wanted", "_law_halting", "_law_untold", "_law_may_end", "_law_may", "_law_any_row", "_law_made", "_law_spoilt", "_law_due"] : List Str)) (w.withFollow "special-get-raises" true) := by
  intro os
  kernel_rfl
theorem run (w : World) : HandSHeadRun.RunEq R (PySem.W.view R.prog [46]) hk ob 8000 ((["YardError", "NoRecord", "is_number", "MOST_NAMED", "MOST_DEEP", "BY_BELLS", "is_between", "are_between", "is_task_name", "is_status", "FORMS", "MOST", "OF_STOPS", "fits", "is_row", "need_record", "HALTING", "KILL", "GO", "DONE"] : List Str) ++ (["Standing", "Court", "judged", "_law_state", "_law_next", "_law_pick", "_law_way", "_law_there", "_law_runs", "_law_lives", "_law_group", "_law_wanted", "_law_halting", "_law_untold", "_law_may_end", "_law_may", "_law_any_row", "_law_made", "_law_spoilt", "_law_due"] : List Str)) w :=
  PySem.W.byRow2 "special-get-raises" (P := fun w => HandSHeadRun.RunEq R (PySem.W.view R.prog [46]) hk ob 8000 ((["YardError", "NoRecord", "is_number", "MOST_NAMED", "MOST_DEEP", "BY_BELLS", "is_between", "are_between", "is_task_name", "is_status", "FORMS", "MOST", "OF_STOPS", "fits", "is_row", "need_record", "HALTING", "KILL", "GO", "DONE"] : List Str) ++ (["Standing", "Court", "judged", "_law_state", "_law_next", "_law_pick", "_law_way", "_law_there", "_law_runs", "_law_lives", "_law_group", "_law_wanted", "_law_halting", "_law_untold", "_law_may_end", "_law_may", "_law_any_row", "_law_made", "_law_spoilt", "_law_due"] : List Str)) w) run_f run_t w
end BelLaw

namespace Bel
open PySem PySem.Spec PyProof.Rows L2
def g__law_state_b1 : DS := (dSeq (dAsg 5 (dBin false fMod (dBin false fMul (dBin false fAdd (dVar 2) (dBin false fMul (dC (.int 7919)) (dBin false fAdd (dBin false fAdd (dBin false fMul (dC (.int 40)) (dVar 1)) (dVar 4)) (dC (.int 1))))) (dC (.int 48271))) (dC (.int 2147483647))))
    (dAsg 3 (dBin false fAdd (dBin false fMul (dVar 3) (dC (.int 2147483629))) (dBin false fMod (dBin false fMul (dVar 5) (dBin false fAdd (dBin false fAdd (dVar 5) (dBin false fMul (dC (.int 2)) (dVar 4))) (dC (.int 1)))) (dC (.int 2147483629))))))
def g__law_state : DF := fnD 6
    (dSeq (dAsg 2 (dIf (dT (dBin false (fCmp fun i j => decide (i < j)) (dVar 1) (dCall false fLen (dCons (dVar 0) dNil)))) (dCall false fAbs (dCons (dBin false fIx (dVar 0) (dVar 1)) dNil)) (dC (.int 0))))
    (dSeq (dIfS (dT (dBin false (fCmp fun i j => decide (j ≤ i)) (dVar 2) (dBin false fPow (dC (.int 10)) (dC (.int 18))))) (dRet (dDisp true .nl (dCons (dBin false fSub (dVar 2) (dBin false fPow (dC (.int 10)) (dC (.int 18)))) dNil))) dNext)
    (dSeq (dAsg 3 (dC (.int 0)))
    (dSeq (dFor (dRng1 (dC (.int 14))) (tgN 4) g__law_state_b1)
    (dRet (dDisp true .nl (dCons (dVar 3) dNil)))))))
def g__law_next : DF := fnD 3
    (dSeq (dAsg 2 (dBin false fMod (dBin false fIx (dVar 0) (dC (.int 0))) (dVar 1)))
    (dSeq (dSetL (dVar 0) (dC (.int 0)) (dBin false fDiv (dBin false fIx (dVar 0) (dC (.int 0))) (dVar 1)))
    (dRet (dVar 2))))
def g__law_pick : DF := fnD 2
    (dRet (dBin false fIx (dVar 1) (dFn g__law_next 2 (dCons (dVar 0) (dCons (dCall false fLen (dCons (dVar 1) dNil)) dNil)))))
def g_is_number : DF := fnD 2
    (dRet ((dAndV (dIsT isInt (dVar 0)) (dAndV (dNotV (dIsT isBl (dVar 0))) (dChain (fCmp fun i j => decide (i ≤ j)) (fCmp fun i j => decide (i ≤ j)) (dC (.int 0)) (dVar 0) (dVar 1))))))
end Bel

namespace Bel
open PySem PySem.Spec PyProof.Rows L2
section
variable {S : Store} {k : Nat} {n m : Int}
theorem next_w (hk : k < S.length) (h0 : 0 < m) (h1 : m < 1073741824) : g__law_next [.o k, .v (.int m)] (S.set k (stt n)) = .ok (.v (.int (n % m))) (S.set k (stt (n / m))) := by
  simp [g__law_next, hk, fMod_int h0, fDiv_int h0 h1, ixN]
theorem pickL_w (hk : k < S.length) {l : List W} (h0 : l ≠ []) (h1 : l.length < 1073741824) : g__law_pick [.o k, .v (.lst l)] (S.set k (stt n)) = .ok (.v (pk l (n % l.length))) (S.set k (stt (n / l.length))) := by
  have hp : 0 < l.length := List.length_pos_iff.mpr h0
  have e := next_w (n := n) (m := l.length) hk (by omega) (by omega)
  simp [g__law_pick, e, ix_pk (l := l) (Int.emod_nonneg n (by omega : (l.length : Int) ≠ 0)) (Int.emod_lt_of_pos n (by omega))]
theorem pick_mem {l : List W} (h0 : l ≠ []) : pk l (n % l.length) ∈ l := by
  have hp : 0 < l.length := List.length_pos_iff.mpr h0
  exact pk_mem (Int.emod_nonneg n (by omega)) (Int.emod_lt_of_pos n (by omega))
theorem pickL (hk : k < S.length) {l : List W} (h0 : l ≠ []) (h1 : l.length < 1073741824) : ∃ w n', w ∈ l ∧ g__law_pick [.o k, .v (.lst l)] (S.set k (stt n)) = .ok (.v w) (S.set k (stt n')) := ⟨_, _, pick_mem h0, pickL_w hk h0 h1⟩
end
def keptw : List (List Nat) := [[115, 101, 116], [106, 117, 109, 112], [115, 97, 121], [115, 116, 97, 114, 116], [119, 97, 105, 116], [119, 97, 116, 99, 104], [114, 105, 110, 103], [116, 114, 97, 112], [104, 111, 108, 100], [102, 114, 101, 101], [114, 101, 115, 116], [98, 97, 99, 107], [114, 101, 97, 100], [102, 114, 111, 110, 116], [111, 119, 110], [110, 101, 119], [117, 112], [99, 104, 105, 108, 100], [106, 111, 98], [102, 97, 108, 108], [112, 108, 97, 105, 110], [115, 99, 114, 105, 112, 116], [110, 111, 110, 101]]
def bellw : List (List Nat) := [[107, 105, 108, 108], [104, 97, 108, 116], [115, 116, 111, 112], [104, 97, 110, 103], [101, 110, 100], [119, 97, 107, 101], [103, 111], [100, 111, 110, 101]]
def abc : List Nat := [97, 98, 99, 100, 101, 102, 103, 104, 105, 106, 107, 108, 109, 110, 111, 112, 113, 114, 115, 116, 117, 118, 119, 120, 121, 122]
def words : List (List Nat) := keptw ++ bellw
def nm (x : List Nat) : Bool := decide (1 ≤ x.length ∧ x.length ≤ 6 ∧ x ∉ words) && x.all fun c => decide (c ∈ abc)
@[simp] theorem isEmpty_strs (l : List (List Nat)) : (l.map W.str).isEmpty = l.isEmpty := by cases l <;> rfl
section
variable {S : Store} {k : Nat} {n m : Int}
theorem st_loop {i : Nat} {j c : Int} : ∀ (ws : List W), (∀ w ∈ ws, ∃ z : Int, w = .int z) → ∀ (f : Int) (a b : Option U), ∃ (f' : Int) (a' b' : Option U),
    dLoop (tgN 4) g__law_state_b1 ws [some (.o i), some (.v (.int j)), some (.v (.int c)), some (.v (.int f)), a, b] S = .ok (.nx [some (.o i), some (.v (.int j)), some (.v (.int c)), some (.v (.int f')), a', b']) S
  | [], _, f, a, b => ⟨f, a, b, rfl⟩
  | w :: r, h, f, a, b => by
    obtain ⟨z, rfl⟩ := h w List.mem_cons_self
    have m1 : fMul (.int 40) (.int j) = _ := mul_ok (.inl (by decide))
    have m2 : fMul (.int 7919) (.int (40 * j + z + 1)) = _ := mul_ok (.inl (by decide))
    have m3 : fMul (.int (c + 7919 * (40 * j + z + 1))) (.int 48271) = _ := mul_ok (.inr (by decide))
    have m4 : fMul (.int f) (.int 2147483629) = _ := mul_ok (.inr (by decide))
    have m5 : fMul (.int 2) (.int z) = _ := mul_ok (.inl (by decide))
    generalize hq : (c + 7919 * (40 * j + z + 1)) * 48271 % 2147483647 = q at *
    have q0 : 0 ≤ q := by rw [← hq]; exact Int.emod_nonneg _ (by decide)
    have q1 : q < 2147483647 := by rw [← hq]; exact Int.emod_lt_of_pos _ (by decide)
    have m6 : fMul (.int q) (.int (q + 2 * z + 1)) = _ := mul_ok (.inl ⟨by omega, by omega⟩)
    obtain ⟨f', a', b', e⟩ := st_loop r (fun w hw => h w (List.mem_cons_of_mem _ hw)) (f * 2147483629 + q * (q + 2 * z + 1) % 2147483629) (some (.v (.int z))) (some (.v (.int q)))
    refine ⟨f', a', b', ?_⟩
    rw [← e]
    simp [dLoop_cons, g__law_state_b1, m1, m2, m3, m4, m5, m6, fMod_int, hq]
theorem fin_own {o : Ob} : fin S.length (.o S.length) (S ++ [o]) = .ok (.o S.length) (S ++ [o]) := by
  simp [fin]
theorem state_is {i : Nat} {j : Int} {ns : List Int} (hS : S[i]? = some (.scr (ns.map W.int))) (h0 : 0 ≤ j) : ∃ n, g__law_state [.o i, .v (.int j)] S = .ok (.o S.length) (S ++ [stt n]) := by
  have hd : dr S (.o i) = some (.lst (ns.map W.int)) := by simp [dr, hS]
  have hp : fPow (.int 10) (.int 18) = some (.val (.int 1000000000000000000)) := rfl
  have lp := fun c => st_loop (S := S) (i := i) (j := j) (c := c) ((List.range 14).map fun (i : Nat) => W.int (i : Int)) (fun w hw => by
      obtain ⟨z, _, rfl⟩ := List.mem_map.mp hw
      exact ⟨_, rfl⟩) 0 none none
  by_cases hj : j < ns.length
  · have hl : j.toNat < ns.length := by omega
    have e := ix_pk (l := ns.map W.int) h0 (by simpa using hj)
    have e2 : pk (ns.map W.int) j = .int ns[j.toNat] := by simp [pk, hl]
    rw [e2] at e
    have ea : fAbs [.int ns[j.toNat]] = some (.val (.int (if ns[j.toNat] < 0 then -ns[j.toNat] else ns[j.toNat]))) := rfl
    generalize (if ns[j.toNat] < 0 then -ns[j.toNat] else ns[j.toNat]) = c at ea
    by_cases hb : (1000000000000000000 : Int) ≤ c
    · exact ⟨c - 1000000000000000000, by simp [g__law_state, hd, hj, e, ea, hp, hb, fin_own]⟩
    · obtain ⟨f, a, b, el⟩ := lp c
      exact ⟨f, by simp [g__law_state, hd, hj, e, ea, hp, hb, el, fin_own]⟩
  · obtain ⟨f, a, b, el⟩ := lp 0
    exact ⟨f, by simp [g__law_state, hd, hj, hp, el, fin_own]⟩
end
end Bel

namespace Bel
open PySem PySem.Spec PyProof.Rows L2
abbrev tNum : List Nat := [110, 117, 109, 98, 101, 114]
abbrev tBox : List Nat := [98, 111, 120]
abbrev tPlus : List Nat := [112, 108, 117, 115]
abbrev tLess : List Nat := [108, 101, 115, 115]
abbrev tSame : List Nat := [115, 97, 109, 101]
def signw : List (List Nat) := [tPlus, tLess, tSame]
def isnum (w : W) (m : Int) : Bool := match w with
  | .int i => decide (0 ≤ i ∧ i ≤ m)
  | _ => false
def isnm (w : W) : Bool := match w with
  | .str x => nm x
  | _ => false
def l1 (p : W → Bool) : List W → Bool
  | [a] => p a
  | _ => false
def l2 (p : W → Bool) : List W → Bool
  | [a, b] => p a && p b
  | _ => false
@[simp] theorem l1_0 (p : W → Bool) : l1 p [] = false := rfl
@[simp] theorem l1_1 (p : W → Bool) (a : W) : l1 p [a] = p a := rfl
@[simp] theorem l1_2 (p : W → Bool) (a b : W) (l : List W) : l1 p (a :: b :: l) = false := rfl
@[simp] theorem l2_0 (p : W → Bool) : l2 p [] = false := rfl
@[simp] theorem l2_1 (p : W → Bool) (a : W) : l2 p [a] = false := rfl
@[simp] theorem l2_2 (p : W → Bool) (a b : W) : l2 p [a, b] = (p a && p b) := rfl
@[simp] theorem l2_3 (p : W → Bool) (a b c : W) (l : List W) : l2 p (a :: b :: c :: l) = false := rfl
/-- a reckoning, so deep at most -/
def tm : Nat → W → Bool
  | 0, _ => false
  | d + 1, .tup (.str s :: l) => if s = tNum then l1 (fun a => isnum a 999) l else if s = tBox then l1 isnm l else if s ∈ signw then l2 (tm d) l else false
  | _ + 1, _ => false
@[simp] theorem tm_0 (w : W) : tm 0 w = false := rfl
@[simp] theorem tm_s (d : Nat) (s : List Nat) (l : List W) : tm (d + 1) (.tup (.str s :: l)) = if s = tNum then l1 (fun a => isnum a 999) l else if s = tBox then l1 isnm l else if s ∈ signw then l2 (tm d) l else false := rfl
section
variable {S : Store}
theorem is_number_w {w : W} {m : Int} (h : isExc w = false) : g_is_number [.v w, .v (.int m)] S = .ok (.v (.bl (isnum w m))) S := by
  cases w with
  | int i =>
    by_cases h0 : 0 ≤ i <;> simp [g_is_number, isnum, h0]
  | bl b => simp [g_is_number, isnum]
  | exc c => cases h
  | tdc l => cases h
  | kdc l => simp [g_is_number, isnum, isInt, isExc]
  | _ => simp [g_is_number, isnum]
end
end Bel

namespace Bel
open PySem PySem.Spec PyProof.Rows L2
section
variable {S : Store} {k : Nat} {n m : Int}
end
end Bel

namespace Bel
open PySem PySem.Spec PyProof.Rows L2
end Bel

namespace Bel
open PySem PySem.Spec PyProof.Rows L2
end Bel

namespace Bel
open PySem PySem.Spec PyProof.Rows L2
/-- a row of numbers -/
def intsW : List W → Option (List Int)
  | [] => some []
  | .int i :: r => (intsW r).map (i :: ·)
  | _ => none
def lookT (ks : List Int) (l : List (List Int × W)) : Option W := (l.find? fun p => decide (p.1 = ks)).map (·.2)
section
variable {F : Fx} {H : Hp} {O : Addr → Prop}
theorem ints_rp : ∀ {l : List W} {vs : List V} {ks : List Int}, RpL F H O l vs → intsW l = some ks → vs = ks.map V.int
  | [], vs, ks, r, h => by
    cases h
    exact r.nil_iff
  | w :: l, vs, ks, r, h => by
    obtain ⟨v, vs', rfl, r1, r2⟩ := r.cons_iff
    cases w with
    | int i =>
      have h' : (intsW l).map (i :: ·) = some ks := h
      obtain ⟨k', e1, rfl⟩ := Option.map_eq_some_iff.mp h'
      rw [Rp.int_inv r1, ints_rp r2 e1]
      rfl
    | _ => cases h
theorem tup_ints {l : List W} {v : V} {ks : List Int} (r : Rp F H O (.tup l) v) (h : intsW l = some ks) : ∃ b, v = .ref b ∧ SqT F.K H b (ks.map V.int) ∧ FTup F H O b (ks.map V.int) := by
  obtain ⟨b, vs, rfl, f, q⟩ := r.tup_inv
  rw [ints_rp q h] at f
  exact ⟨b, rfl, f.sq, f⟩
/-- what stands behind a plain dict of this kind -/
structure TdR (F : Fx) (H : Hp) (O : Addr → Prop) (a : Addr) (xs : List (List Int × Addr × Value)) (vs : List V) (ws : List (List Int × W)) : Prop where
  at_ : TdI F.w H a xs
  own : ¬ O a
  sm : (a == sysModules) = false
  l1 : ws.length = xs.length
  l2 : vs.length = xs.length
  keys : ∀ (i : Nat) (w : List Int × W) (x : List Int × Addr × Value), ws[i]? = some w → xs[i]? = some x → x.1 = w.1 ∧ FTup F H O x.2.1 (w.1.map V.int)
  rel : ∀ (i : Nat) (v : V) (x : List Int × Addr × Value), vs[i]? = some v → xs[i]? = some x → RelV v x.2.2
  vals : ∀ (i : Nat) (w : List Int × W) (v : V), ws[i]? = some w → vs[i]? = some v → Rp F H O w.2 v
variable {a : Addr} {xs : List (List Int × Addr × Value)} {vs : List V} {ws : List (List Int × W)}
theorem TdR.rp (T : TdR F H O a xs vs ws) : Rp F H O (.tdc ws) (.ref a) := let ⟨_, h⟩ := T.at_; .tdc h T.own T.sm T.l1 T.l2 T.keys T.rel T.vals
theorem TdR.sq (T : TdR F H O a xs vs ws) : ∀ x ∈ xs, SqT F.K H x.2.1 (x.1.map V.int) := fun x hx => by
  obtain ⟨i, hi⟩ := List.mem_iff_getElem?.mp hx
  obtain ⟨hlt, _⟩ := List.getElem?_eq_some_iff.mp hi
  have hlw : i < ws.length := by rw [T.l1]; exact hlt
  obtain ⟨e, f⟩ := T.keys i _ x (List.getElem?_eq_getElem hlw) hi
  rw [e]
  exact f.sq
/-- looked up -/
theorem find_par (k : List Int) : ∀ {ws : List (List Int × W)} {xs : List (List Int × Addr × Value)} {vs : List V}, ws.length = xs.length → vs.length = xs.length →
    (∀ (i : Nat) (w : List Int × W) (x : List Int × Addr × Value), ws[i]? = some w → xs[i]? = some x → x.1 = w.1) →
    (∀ (i : Nat) (v : V) (x : List Int × Addr × Value), vs[i]? = some v → xs[i]? = some x → RelV v x.2.2) →
    (∀ (i : Nat) (w : List Int × W) (v : V), ws[i]? = some w → vs[i]? = some v → Rp F H O w.2 v) →
    (atKey xs k = none ∧ lookT k ws = none) ∨ ∃ p w v, atKey xs k = some p ∧ lookT k ws = some w ∧ RelV v p.2 ∧ Rp F H O w v
  | [], [], _, _, _, _, _, _ => .inl ⟨rfl, rfl⟩
  | w :: ws, x :: xs, [], _, h2, _, _, _ => by simp at h2
  | w :: ws, x :: xs, v :: vs, h1, h2, hk, hr, hs => by
    have e0 := hk 0 w x rfl rfl
    unfold atKey lookT
    rw [List.find?_cons, List.find?_cons, e0]
    by_cases q : w.1 = k
    · rw [decide_eq_true q]
      exact .inr ⟨_, _, v, rfl, rfl, hr 0 v x rfl rfl, hs 0 w v rfl rfl⟩
    · rw [decide_eq_false q]
      exact find_par k (by simpa using h1) (by simpa using h2) (fun i a b p q => hk (i + 1) a b (by simpa using p) (by simpa using q)) (fun i a b p q => hr (i + 1) a b (by simpa using p) (by simpa using q)) (fun i a b p q => hs (i + 1) a b (by simpa using p) (by simpa using q))
theorem TdR.look (T : TdR F H O a xs vs ws) (k : List Int) : (atKey xs k = none ∧ lookT k ws = none) ∨ ∃ p w v, atKey xs k = some p ∧ lookT k ws = some w ∧ RelV v p.2 ∧ Rp F H O w v :=
  find_par k T.l1 T.l2 (fun i w x p q => (T.keys i w x p q).1) T.rel T.vals
end
section
variable {X : Cx} {pins : List (Addr × Obj)} {σ : L2.St} {H : Hp} {s : Shared} {a b : Addr} {xs : List (List Int × Addr × Value)} {ks : List Int}
theorem td_at (I : Inv X pins σ H s) (h : TdI X.w H a xs) (hk : ∀ x ∈ xs, SqT X.K H x.2.1 (x.1.map V.int)) : s.heap.DictOfH (tupleKind (intKind X.prog X.w)) a xs := by
  obtain ⟨o, h⟩ := h
  obtain ⟨⟨es, ep, h1, h2, h3, h4, h5⟩, _⟩ := (show ObjOk X.prog X.w H s.heap a (TdO X.w a o xs) from I.hok a _ h)
  exact ⟨o, es, ep, h1, h2, h3, h4 X.prog, fun x hx => I.isT (hk x hx), h5⟩
/-- a dict of this kind, a key, side by side -/
def TdK (K : PySem.W.Frag) (w : World) (H : Hp) (a b : Addr) (ks : List Int) (xs : List (List Int × Addr × Value)) : Prop :=
  SqT K H b (ks.map V.int) ∧ TdI w H a xs ∧ (a == sysModules) = false ∧ ∀ x ∈ xs, SqT K H x.2.1 (x.1.map V.int)
def rInT (K : PySem.W.Frag) (w : World) (neg : Bool) : R2 := fun x y H Q => ∃ (b a : Addr) (ks : List Int) (xs : List (List Int × Addr × Value)), x = .ref b ∧ y = .ref a ∧ TdK K w H a b ks xs ∧ Q (.bl (if neg then !(atKey xs ks).isSome else (atKey xs ks).isSome)) H
theorem op_inT (hu : X.A.units + 65 < cLine) : OpR X (compareOp .In) (rInT X.K X.w false) := by
  intro pins s σ H x y v u Q I rx ry h
  obtain ⟨b, a, ks, xs, rfl, rfl, ⟨hb, ha, hm, hk⟩, q⟩ := h
  cases rx
  cases ry
  exact wpAny_in_heap (tupleKind_room_in1 (by omega)) (I.isT hb) hm (td_at I ha hk) ⟨.bl _, H, I.tok _, rfl, q⟩
def rIxT (K : PySem.W.Frag) (w : World) : R2 := fun x y H Q => ∃ (b a : Addr) (ks : List Int) (xs : List (List Int × Addr × Value)) (p : Addr × Value) (v : V), x = .ref a ∧ y = .ref b ∧ TdK K w H a b ks xs ∧ atKey xs ks = some p ∧ RelV v p.2 ∧ Q v H
theorem ix_T (hu : X.A.units + 1 < cLine) : IxR X (rIxT X.K X.w) := by
  intro value slice pins s σ H x y v u Q I rx ry h hs
  obtain ⟨b, a, ks, xs, p, v', rfl, rfl, ⟨hb, ha, hm, hk⟩, hp, hv, q⟩ := h
  cases rx
  cases ry
  have dd := td_at I ha hk
  exact tail_any dd.typeIs slot_dict_getitem.lookup (wpAny_getItem_heap (tupleKind_room_in1 hu) (I.isT hb) dd hp ⟨v', H, I.tok _, hv, q⟩) hs
end
section
variable {ec : Ec} {X : Cx} {a b o k x : Expr} {da db dd dk dx : DE} {pos apos cpos : Pos}
end
end Bel

namespace Bel
open PySem PySem.Spec PyProof.Rows L2
section
variable {X : Cx} {pins : List (Addr × Obj)} {σ : L2.St} {H : Hp} {s : Shared} {a b : Addr} {xs : List (List Int × Addr × Value)} {ks : List Int}
theorem td_obj (I : Inv X pins σ H s) (h : TdI X.w H a xs) : ∃ o, TdAt X.w a o xs s.heap := let ⟨o, h⟩ := h; ⟨o, (show ObjOk X.prog X.w H s.heap a (TdO X.w a o xs) from I.hok a _ h).1⟩
end
def tGetT1 (K : PySem.W.Frag) (w : World) (td ty : TE) : TE := fun σ H Q => td σ H fun x H1 => ∃ a xs0, x = .ref a ∧ TdI w H1 a xs0 ∧ (a == sysModules) = false ∧ ty σ H1 fun y H2 =>
  ∃ b ks xs, y = .ref b ∧ TdK K w H2 a b ks xs ∧ ((atKey xs ks = none ∧ Q .non H2) ∨ ∃ p v, atKey xs ks = some p ∧ RelV v p.2 ∧ Q v H2)
section
variable {X : Cx} {o e f : Expr} {apos cpos : Pos} {td ty tx : TE}
theorem td_type {pins : List (Addr × Obj)} {σ : L2.St} {H : Hp} {s : Shared} {a : Addr} {xs : List (List Int × Addr × Value)} (I : Inv X pins σ H s) (h : TdI X.w H a xs) :
    s.TypeIs (.ref a) "dict" ∧ ∀ b, Value.ref a = .ref b → ∃ ob, s.heap.get? b = some ob ∧ ob.dict = none := by
  obtain ⟨ob, _, _, h1, h2, _⟩ := td_obj I h
  refine ⟨⟨ob, h1, h2.1⟩, fun b q => ?_⟩
  cases q
  exact ⟨ob, h1, h2.2.1⟩
theorem pe_getT1 (hu : X.A.units + 1 < cLine) (ho : PE X o td) (he : PE X e ty) (m : M1 X o "get" apos e cpos) : PE X (.Call (.Attribute o "get" apos) [e] [] cpos) (tGetT1 X.K X.w td ty) := by
  constructor
  intro pins s σ H Q I h
  apply wpAny_Call_method m.base m.few m.line F.plainAttrs_dict F.slot_dict_get F.type_dict_get
  apply thn (ho.run pins s σ H _ I h)
  rintro u s1 ⟨x, H1, I1, rx, a, xs0, rfl, h0, hm, q1⟩
  cases rx
  obtain ⟨t1, t2⟩ := td_type I1 h0
  refine ⟨t1, t2, ?_⟩
  rw [m.trees]
  apply Calls.callWith_builtin rfl
  apply Calls.evalArgs_plain
  apply Calls.spliced_cons
  apply thn (he.run pins s1 σ H1 _ I1 q1)
  rintro iv s2 ⟨y, H2, I2, ry, b, ks, xs, rfl, ⟨k1, k2, k3, k4⟩, q3⟩
  apply Calls.spliced_nil
  cases ry
  have D := td_at I2 k2 k4
  refine call_meetsIn F.slot_dict_get D.typeIs F.entry_dict_get (F.args_dict_get_2 _ _) (meetsH_dict_get (tupleKind (intKind X.prog X.w)) a b k3) ⟨tupleKind_room_in1 hu, ks, xs, I2.isT k1, D, ?_⟩
  rcases q3 with ⟨e1, q⟩ | ⟨p, v, e1, e2, q⟩
  · rw [e1]
    exact ⟨.non, H2, I2.tok _, rfl, q⟩
  · rw [e1]
    exact ⟨v, H2, I2.tok _, e2, q⟩
end
section
variable {ec : Ec} {X : Cx} {o k x : Expr} {do_ dk dx : DE} {apos cpos : Pos}
end
end Bel

namespace Bel
open PySem PySem.Spec PyProof.Rows L2
structure Zt where
  k : List Int
  b : Addr
  u : Value
  v : V
  w : W
def Zt.x (z : Zt) : List Int × Addr × Value := (z.k, z.b, z.u)
def Zt.p (z : Zt) : List Int × W := (z.k, z.w)
def putT (k : List Int) (w : W) (l : List (List Int × W)) : List (List Int × W) := if (lookT k l).isSome = true then l.map (fun p => if p.1 = k then (p.1, w) else p) else l ++ [(k, w)]
section
variable {F : Fx} {H : Hp} {O : Addr → Prop}
end
end Bel

namespace Bel
open PySem PySem.Spec PyProof.Rows L2
section
variable {X : Cx} {pins : List (Addr × Obj)} {σ : L2.St} {H : Hp} {s : Shared}
end
section
variable {F : Fx} {H : Hp} {O : Addr → Prop}
end
section
variable {ec : Ec} {X : Cx} {e : Expr} {da : DE} {p pos : Pos}
end
end Bel

namespace Bel
open PySem PySem.Spec PyProof.Rows L2
def fSum : List W → Option Out
  | [.lst l] => (intsW l).map fun ns => .val (.int ns.sum)
  | _ => none
theorem oc_sum {F : Fx} : OpC F fSum (rSum F.K) := by
  refine oc1 (fun ws o e => ?_) fun H O x w o Q r e q => ?_
  · unfold fSum at e
    split at e <;> first | exact ⟨_, rfl⟩ | cases e
  · cases w with
    | lst l =>
      obtain ⟨ns, hn, rfl⟩ := Option.map_eq_some_iff.mp (show (intsW l).map _ = some o from e)
      obtain ⟨a, vs, rfl, h1, rl⟩ := r
      have := ints_rp rl hn
      subst this
      exact ⟨a, ns, rfl, .inl h1, q _ (.int _)⟩
    | _ => cases e
section
variable {ec : Ec} {X : Cx} {a b e : Expr} {da db : DE} {p pos : Pos}
end
section
variable {P : Program} {w : World} {A : Around} {E : Value → Shared → Prop} {s : Shared}
end
def srtI (l : List Int) : List Int := l.mergeSort fun a b => decide (a ≤ b)
theorem srtI_unique {l m : List Int} (p : m.Perm l) (h : m.Pairwise (· ≤ ·)) : m = srtI l := by
  have q := List.mergeSort_perm l fun a b => decide (a ≤ b)
  have hs : (srtI l).Pairwise (· ≤ ·) := by
    have := List.pairwise_mergeSort (le := fun (a b : Int) => decide (a ≤ b)) (fun a b c h1 h2 => by simp at *; omega) (fun a b => by simp; omega) l
    exact this.imp fun h => by simpa using h
  exact List.Perm.eq_of_pairwise (fun a b _ _ h1 h2 => Int.le_antisymm h1 h2) h hs (p.trans q.symm)
end Bel

namespace Bel
open PySem PySem.Spec PyProof.Rows L2
end Bel

namespace Bel
open PySem PySem.Spec PyProof.Rows L2
section
variable {ec : Ec} {X : Cx} {e o i : Expr} {da db dc : DE} {p px pt pos : Pos} {kt : Nat}
end
end Bel

namespace Bel
open PySem PySem.Spec PyProof.Rows L2
def c_MOST_NAMED : W := .int 29
def c_MOST_DEEP : W := .int 4
def c_BY_BELLS : W := .tup [.int 100, .int 103, .int 104, .int 105]
def g_is_between : DF := fnD 3
    (dRet ((dAndV (dIsT isInt (dVar 0)) (dAndV (dNotV (dIsT isBl (dVar 0))) (dChain (fCmp fun i j => decide (i ≤ j)) (fCmp fun i j => decide (i ≤ j)) (dVar 1) (dVar 0) (dVar 2))))))
def g_are_between_e1 : DE := (dFn g_is_between 3 (dCons (dVar 3) (dCons (dVar 1) (dCons (dVar 2) dNil))))
def g_are_between : DF := fnD 4
    (dRet ((dAndV (dIsT isTup (dVar 0)) (dCall false fAll (dCons (dLc false (dItT (dVar 0)) (tgN 3) dYes g_are_between_e1 [3]) dNil)))))
def g_is_task_name : DF := fnD 1
    (dRet ((dAndV (dFn g_are_between 3 (dCons (dVar 0) (dCons (dC (.int 0)) (dCons (dC c_MOST_NAMED) dNil)))) (dBin false (fCmp fun i j => decide (i ≤ j)) (dCall false fLen (dCons (dVar 0) dNil)) (dC c_MOST_DEEP)))))
def g_is_status : DF := fnD 1
    (dRet ((dOrV (dFn g_is_between 3 (dCons (dVar 0) (dCons (dC (.int 0)) (dCons (dC (.int 99)) dNil)))) ((dAndV (dFn g_is_between 3 (dCons (dVar 0) (dCons (dC (.int 100)) (dCons (dC (.int 105)) dNil)))) (dBin false fInO (dVar 0) (dC c_BY_BELLS)))))))
end Bel

namespace Bel
open PySem PySem.Spec PyProof.Rows L2
end Bel

namespace Bel
open PySem PySem.Spec PyProof.Rows L2 TL
inductive Trm where
  | num (n : Nat)
  | box (x : List Nat)
  | bin (s : List Nat) (a b : Trm)
def Trm.w : Trm → W
  | .num n => .tup [.str tNum, .int n]
  | .box x => .tup [.str tBox, .str x]
  | .bin s a b => .tup [.str s, a.w, b.w]
@[simp] theorem w_num (n : Nat) : (Trm.num n).w = .tup [.str tNum, .int n] := rfl
@[simp] theorem w_box (x : List Nat) : (Trm.box x).w = .tup [.str tBox, .str x] := rfl
@[simp] theorem w_bin (s : List Nat) (a b : Trm) : (Trm.bin s a b).w = .tup [.str s, a.w, b.w] := rfl
def Trm.ok : Nat → Trm → Prop
  | 0, _ => False
  | _ + 1, .num n => n ≤ 999
  | _ + 1, .box x => nm x = true
  | d + 1, .bin s a b => s ∈ signw ∧ a.ok d ∧ b.ok d
def Trm.sz : Trm → Nat
  | .bin _ a b => 1 + a.sz + b.sz
  | _ => 1
def sg (s : List Nat) : List Nat := if s = tPlus then [32, 43, 32] else if s = tLess then [32, 60, 32] else [32, 61, 32]
section
variable {S : Store}
end
end Bel

namespace Bel
open PySem PySem.Spec PyProof.Rows L2 TL
section
variable {S : Store} {u : U} {l : List (W × W)}
variable {k : Nat} {n : Int}
end
end Bel

namespace Bel
open PySem PySem.Spec PyProof.Rows L2 TL
def figs : List Nat := [48, 49, 50, 51, 52, 53, 54, 55, 56, 57]
section
variable {S : Store}
end
end Bel

namespace Bel
open PySem PySem.Spec PyProof.Rows L2 TL
def an : List Nat := abc ++ figs
end Bel

namespace Bel
open PySem PySem.Spec PyProof.Rows L2
end Bel

namespace Bel
open PySem PySem.Spec PyProof.Rows L2
/-- a row of numbers -/
def nrs (l : List Int) : List W := l.map W.int
@[simp] theorem intsW_ints : ∀ l : List Int, intsW (nrs l) = some l
  | [] => rfl
  | i :: l => by
    have := intsW_ints l
    unfold nrs at this ⊢
    rw [List.map_cons, intsW, this]
    rfl
@[simp] theorem sum_ints (l : List Int) : fSum [.lst (nrs l)] = some (.val (.int l.sum)) := by
  simp [fSum]
end Bel

namespace Bel
open PySem PySem.Spec PyProof.Rows L2
section
variable {P : Program} {w : World} {A : Around} {s : Shared}
end
end Bel

namespace Bel
open PySem PySem.Spec PyProof.Rows L2
/-- a row: its numbers, itself, its value -/
abbrev Tz := List Int × W × V
def kw (t : Tz) : List Int × W := (t.1, t.2.1)
def kv (t : Tz) : List Int × V := (t.1, t.2.2)
end Bel

namespace Bel
open PySem PySem.Spec PyProof.Rows L2
section
variable {ec : Ec} {X : Cx} {ie a : Expr} {di : DE} {das : DA} {p0 p1 p2 lp sp pos : Pos}
end
end Bel

namespace Bel
open PySem PySem.Spec PyProof.Rows L2
section
variable {ec : Ec} {X : Cx} {a : Expr} {es : List Expr} {pos p tp : Pos} {da : DE} {ks : List Nat} {kx : Nat}
theorem ev_isT2 {T1 T2 : String} {t1 t2 : Str} {q1 q2 : W → Bool} {p1 p2 : Pos} (hq1 : IsT T1 q1) (hq2 : IsT T2 q2) (ha : PEv ec X a da) (hg : Gl X "isinstance") (hm : X.mg "isinstance" = none)
    (hg1 : Gl X t1) (hm1 : X.mg t1 = none) (hv1 : bootBuiltins t1 = some (.type T1)) (hg2 : Gl X t2) (hm2 : X.mg t2 = none) (hv2 : bootBuiltins t2 = some (.type T2))
    (hn1 : t1 ≠ "__name__" := by decide) (hd1 : (t1 == ("__debug__" : Str)) = false := by decide) (hn2 : t2 ≠ "__name__" := by decide) (hd2 : (t2 == ("__debug__" : Str)) = false := by decide)
    (h1 : starEach [a, .Tuple [.Name t1 p1, .Name t2 p2] kx tp] X.env = (false, eval a X.env) :: starEach [.Tuple [.Name t1 p1, .Name t2 p2] kx tp] X.env := by rfl) (h2 : starEach [.Tuple [.Name t1 p1, .Name t2 p2] kx tp] X.env = (false, eval (.Tuple [.Name t1 p1, .Name t2 p2] kx tp) X.env) :: starEach [] X.env := by rfl)
    (hpl : (backTo pos (starEach [.Tuple [.Name t1 p1, .Name t2 p2] kx tp] X.env)).any (·.1) = false := by rfl)
    (s1 : starEach [.Name t1 p1, .Name t2 p2] X.env = (false, eval (.Name t1 p1) X.env) :: starEach [.Name t2 p2] X.env := by rfl) (s2 : starEach [.Name t2 p2] X.env = (false, eval (.Name t2 p2) X.env) :: starEach [] X.env := by rfl) :
    PEv ec X (.Call (.Name "isinstance" p) [a, .Tuple [.Name t1 p1, .Name t2 p2] kx tp] [] pos) (dIsT (fun w => q1 w || q2 w) da) :=
  ⟨fun pn xe Wx tk => (pe_callB (X := X.tr pn xe) call_isiTW hg hm boot_isinstance (pa_cons (ha.run pn xe Wx tk) (pa_cons (pe_tup (pa_cons (pe_bltn (X := X.tr pn xe) (v := .ty T1) hg1 hm1 hv1 rfl hn1 hd1) (pa_cons (pe_bltn (X := X.tr pn xe) (v := .ty T2) hg2 hm2 hv2 rfl hn2 hd2) pa_nil s2) s1)) pa_nil h2) h1) (by decide) (by decide) h1 hpl).imp
    fun σ H Q ⟨env, S, ι, B, R, E, h⟩ => LE.then_ R E h fun u S1 v H1 ι1 G1 R1 E1 ru h1 => by
      cases e1 : dr S1 u with
      | none => simp only [e1] at h1; exact h1.elim
      | some w =>
        simp only [e1] at h1
        split at h1
        · exact h1.elim
        · rename_i hx
          have hx' : isBad w = false := by simpa using hx
          refine ⟨by rw [sizeLine_is]; simp, fun r hr => ?_⟩
          obtain ⟨R2, G2, n2⟩ := R1.fresh (.tup [V.ty T1, V.ty T2]) hr
          have ka : PySem.W.kitAny X.K (.type (tyn w)) [.type T1, .type T2] = some (q1 w || q2 w) := by
            refine kitAny_cons (kit_ty (hq1 w hx')) (fun e => ?_) fun e => by rw [e, Bool.true_or]
            rw [e, Bool.false_or]
            refine kitAny_cons (kit_ty (hq2 w hx')) (fun e => ?_) fun e => e
            rw [kitAny_nil, e]
          exact ⟨v, r, _, _, _, _, rfl, upd_same, .cons (.ty T1) (.cons (.ty T2) .nil), rt_tyw (F := fx ec X) hx' (RU.rt R2 (RU.go G2 ru) e1), ka, h1 _ _ ι1 G2 R2 (.bl _)⟩⟩
end
section
variable {F : Fx}
end
end Bel

namespace Bel
open PySem PySem.Spec PyProof.Rows L2
section
variable {prog : Program} {w : World} {A : Around} {s : Shared} {E : Value → Shared → Prop}
end
section
variable {ec : Ec} {X : Cx} {e : Expr} {es : List Expr} {da : DE} {das : DA} {p apos cpos pos : Pos}
end
end Bel

namespace Bel
open PySem PySem.Spec PyProof.Rows L2
section
variable {ec : Ec} {X : Cx} {a b c : Expr} {pos : Pos}
end
end Bel

namespace Bel
open PySem PySem.Spec PyProof.Rows L2
section
variable {X : Cx} {pins : List (Addr × Obj)} {σ : L2.St} {H : Hp} {s : Shared} {d : Addr} {o : Obj} {xs : List (List Int × Addr × Value)}
end
section
variable {ec : Ec} {X : Cx} {tg e : Expr} {da : DE}
end
end Bel

namespace Bel
open PySem PySem.Spec PyProof.Rows L2
section
variable {P : Program} {w : World} {A : Around} {s : Shared} {E : Value → Shared → Prop}
/-- a tuple of these numbers -/
def TpA (h : Heap) (v : Value) (ks : List Int) : Prop := ∃ (a : Addr) (o : Obj) (us : List Value) (n : Nat), v = .ref a ∧ h.get? a = some o ∧ o.cls = .type "tuple" ∧ o.data = .seq us.toArray n ∧ IntsAre us ks
end
end Bel

namespace Bel
open PySem PySem.Spec PyProof.Rows L2
theorem ints_inj : ∀ {us : List Value} {ks ms : List Int}, IntsAre us ks → IntsAre us ms → ks = ms
  | _, _, _, .nil, h => by cases h; rfl
  | _, _, _, .cons _ _ r, h => by
    cases h with
    | cons _ _ q => rw [ints_inj r q]
theorem TpA.inj {h : Heap} {v : Value} {ks ms : List Int} (x : TpA h v ks) (y : TpA h v ms) : ks = ms := by
  obtain ⟨a, o, us, n, e, h1, h2, h3, h4⟩ := x
  obtain ⟨a', o', us', n', e', k1, k2, k3, k4⟩ := y
  rw [e] at e'
  cases e'
  rw [h1] at k1
  cases k1
  rw [h3] at k3
  injection k3 with k3 _
  have : us = us' := by simpa using k3
  subst this
  exact ints_inj h4 k4
theorem TpA.of {X : Cx} {pins : List (Addr × Obj)} {σ : L2.St} {H : Hp} {s : Shared} {b : Addr} {ks : List Int} (I : Inv X pins σ H s) (h : SqT X.K H b (ks.map V.int)) : TpA s.heap (.ref b) ks := by
  obtain ⟨us, r, ⟨o, g1, g2, n, g3⟩, _⟩ := I.tuple h
  exact ⟨b, o, us, n, rfl, g1, g2, g3, intsAre_of r⟩
section
variable {F : Fx} {H : Hp} {O : Addr → Prop}
end
end Bel

namespace Bel
open PySem PySem.Spec PyProof.Rows L2
def keyV (v : Value) : Key := match v with | .int k _ => .inl k | .str x _ => .inr x | _ => .inl 0
def keyE (e : Int × Value) : Key := keyV e.2
def GoodM (P : Program) (w : World) (e : Int × Value) : Prop := ∃ k : Key, RelV (kV k) e.2 ∧ e.1 = (mixKind P w).hash k
/-- the set at a: S its members, n their number; its table rises and can be walked -/
def SetM (P : Program) (w : World) (h : Heap) (a : Addr) (S : Key → Bool) (n : Nat) : Prop :=
  ∃ o es ep t, h.get? a = some o ∧ o.ExactSet ∧ o.data = .set es ep t ∧ (∀ e ∈ es.toList, GoodM P w e) ∧ (es.toList.map keyE).Nodup ∧ (∀ k, S k = true ↔ k ∈ es.toList.map keyE) ∧
    es.size < scanBound ∧ t.fits es.size = true ∧ es.size = n ∧ Ris t.place.toList ∧ (w.params.followText "set-order" = true ∨ t.led = true)
section
variable {P : Program} {w : World} {h h' : Heap} {a : Addr} {S : Key → Bool} {n : Nat}
theorem SetM.at (R : SetM P w h a S n) (k : ∀ o, h.get? a = some o → h'.get? a = some o) : SetM P w h' a S n := by
  obtain ⟨o, es, ep, t, ho, r⟩ := R
  exact ⟨o, es, ep, t, k o ho, r⟩
theorem SetM.congr {S' : Key → Bool} (R : SetM P w h a S n) (e : ∀ k, S' k = S k) : SetM P w h a S' n := by
  have q : S' = S := funext e
  rw [q]; exact R
end
section
variable {P : Program} {w : World} {A : Around} {E : Value → Shared → Prop} {s : Shared} {a : Addr} {S : Key → Bool} {n : Nat}
end
end Bel

namespace Bel
open PySem PySem.Spec PyProof.Rows L2
section
variable {P : Program} {w : World} {A : Around} {E : Value → Shared → Prop} {s : Shared}
end
end Bel

namespace Bel
open PySem PySem.Spec PyProof.Rows L2
section
variable {P : Program} {w : World} {A : Around} {E : Value → Shared → Prop} {s : Shared} {a : Addr} {S : Key → Bool} {n : Nat}
end
end Bel

namespace Bel
open PySem PySem.Spec PyProof.Rows L2
section
variable {ec : Ec} {X : Cx} {e : Expr} {da : DE} {p p2 q pos : Pos}
end
end Bel

namespace Bel
open PySem PySem.Spec PyProof.Rows L2
end Bel

namespace Bel
open PySem PySem.Spec PyProof.Rows L2 PyProof.V
end Bel

namespace Bel
open PySem PySem.Spec PyProof.Rows L2
def IteL (K : PySem.W.Frag) (a : Addr) : It :=
  ⟨fun i H => ∃ (xs : List V) (x : V), SqL K H a xs ∧ xs[i]? = some x,
    fun i H v H' => ∃ T x, v = .ref T ∧ H T = none ∧ (∃ o : Obj, o.dict = none ∧ H' = upd H T (TupO o [.int (i : Nat), x])) ∧ ∀ xs, SqL K H a xs → xs[i]? = some x,
    fun i H => ∃ xs : List V, SqL K H a xs ∧ xs.length ≤ i⟩
theorem turn_enumL {P : Program} {w : World} {K : PySem.W.Frag} {elts : List Expr} {kk : Nat} {tpos : Pos} (a e it : Addr) :
    Turn P w K (.Tuple elts kk tpos) (IteL K a) [e, it] e (fun i h => (∃ old, IsEnum h e it ((i : Nat) : Int) old) ∧ h.IsListIter it a i ∧ e ≠ it) where
  mem := by simp
  obj := fun i h st b hb => by
    obtain ⟨⟨old, he⟩, ⟨o, ho, hc, hd⟩, _⟩ := st
    have e' : b = e ∨ b = it := by simpa using hb
    rcases e' with z | z
    · rw [z]; exact ⟨_, he, fun v q => nomatch q⟩
    · rw [z]; exact ⟨o, ho, fun v q => by rw [hd] at q; cases q⟩
  keep := fun i h h' st k => let ⟨⟨old, he⟩, hi, hne⟩ := st; ⟨⟨old, k e (by simp) _ he⟩, hi.at fun o q => k it (by simp) o q, hne⟩
  item := by
    intro X hP hw hK hc i pins s σ H E I hf st hg
    subst hP hw hK
    obtain ⟨⟨old, he⟩, hit, hne⟩ := st
    obtain ⟨xs, x, hq, hx⟩ := hg
    obtain ⟨its, rv, p, hz⟩ := I.list hq
    obtain ⟨u, hu, ru⟩ := rv.get hx
    have hel : e < s.heap.objs.size := Heap.lt_size he
    have hil : it < s.heap.objs.size := by obtain ⟨_, q, _⟩ := hit; exact Heap.lt_size q
    refine wpAny_pyNext_enum_item he hit p.isList (x := u) (by simpa using hu) hne fun h' ho hit' hT hsz hk => ?_
    refine ⟨_, rfl, wpAny_letOwnedTupleGo_enum (s := { s with heap := h', toks := s.toks + 1 }) ho fun h'' he' sb => ?_⟩
    have hT2 : h''.get? s.heap.objs.size = some { cls := .type "tuple", data := .seq #[.int i s.toks, u] } := (sb.2 _ (Nat.ne_of_gt hel)).trans hT
    have I1 := Inv.turnedNew (t' := s.toks + 1) I (ch := [e, it]) (T := s.heap.objs.size) (ob := TupO { cls := .type "tuple", data := .seq #[.int (i : Nat) s.toks, u] } [.int (i : Nat), x])
      (h' := h'') (fun b ob hb q => (sb.2 b (fun z => hb (by simp [z]))).trans (hk b ob (fun z => hb (by simp [z])) (fun z => hb (by simp [z])) q)) hf (Nat.le_refl _)
      ⟨hT2, (show 2 ≤ sizeLine from by decide), [.int (i : Nat) s.toks, u], .cons ⟨s.toks, rfl⟩ (.cons ru .nil), ⟨_, hT2, rfl, 0, rfl⟩⟩
    refine ⟨.ref s.heap.objs.size, _, I1, rfl, ⟨_, x, rfl, I.hok.fresh (Nat.le_refl _), ⟨_, rfl, rfl⟩, fun ys hy => by rw [I.list_inj hy hq]; exact hx⟩, ⟨⟨u, ?_⟩, hit'.at fun o q => (sb.2 it (Ne.symm hne)).trans q, hne⟩, fun b hb => ?_⟩
    · have e1 : ((i + 1 : Nat) : Int) = (i : Int) + 1 := by omega
      rw [e1]; exact he'
    · have hb' : b < s.heap.objs.size := by
        have e' : b = e ∨ b = it := by simpa using hb
        rcases e' with z | z
        · rw [z]; exact hel
        · rw [z]; exact hil
      rw [upd_ne (Nat.ne_of_lt hb')]
      exact (hf b hb).1
  done := by
    intro X hP hw hK hc i pins s σ H E I hf st hg
    subst hP hw hK
    obtain ⟨⟨old, he⟩, hit, hne⟩ := st
    obtain ⟨xs, hq, hx⟩ := hg
    obtain ⟨its, rv, p, hz⟩ := I.list hq
    obtain ⟨f0, f1, f2, f3, f4, f5⟩ := hf it (by simp)
    have hl := rv.length
    exact wpAny_pyNext_enum_end (I.ok.hd hc) he hit p.isList (by simp; omega) fun h' eb => ⟨rfl, I.turned (t' := s.toks) (fun b o hb q => eb b o hb q) f0 f1 f3 f4 f5⟩
  self := fun A i s Q E st h => let ⟨⟨_, he⟩, _⟩ := st; wpAny_pyIter_enum he h
def iEnumL (K : PySem.W.Frag) (ta : TA) : TI := fun σ H R => ta σ H fun vs H1 => ∃ a xs, vs = [.ref a] ∧ SqL K H1 a xs ∧ R (IteL K a) H1
theorem pi_enumL {X : Cx} {e : Expr} {ta : TA} {p pos tpos : Pos} {elts : List Expr} {kk : Nat} (hg : Gl X "enumerate") (hm : X.mg "enumerate" = none) (ha : PA X [e] ta) (hs : starEach [e] X.env = [(false, eval e X.env)] := by rfl) :
    PI X (.Tuple elts kk tpos) (.Call (.Name "enumerate" p) [e] [] pos) (iEnumL X.K ta) := by
  refine ⟨fun pins s σ H R I h => ?_⟩
  refine Call_ (ld_blt I hg hm boot_enumerate (PyProof.Rows.callWith_type1 (thn (ha.run pos pins s σ H _ I h) fun us s1 ⟨vs, H1, I1, r1, q1⟩ => ?_) hs rfl))
  obtain ⟨a, xs, ex, hq, q⟩ := q1
  subst ex
  cases r1 with
  | cons r rr =>
    cases rr
    cases r
    obtain ⟨its, rv, p', hz⟩ := I1.list hq
    refine call_enumerate_list p'.isList fun h' he hit hsz hk => wpAny_pyIter_enum he ?_
    have I2 : Inv X pins σ H1 { s1 with heap := h' } := I1.kept (t' := s1.toks) hk
    refine ⟨s1.heap.objs.size + 1, [s1.heap.objs.size + 1, s1.heap.objs.size], _, _, H1, rfl, I2, turn_enumL a (s1.heap.objs.size + 1) s1.heap.objs.size, ⟨⟨.none, he⟩, hit, Nat.succ_ne_self _⟩, fun b hb => ?_, q⟩
    have e' : b = s1.heap.objs.size + 1 ∨ b = s1.heap.objs.size := by simpa using hb
    have hle : s1.heap.objs.size ≤ b := by
      rcases e' with z | z
      · rw [z]; exact Nat.le_add_right _ _
      · rw [z]; exact Nat.le_refl _
    exact I1.fpOk hle (I1.hok.fresh hle)
theorem walk_enumL {K : PySem.W.Frag} {a : Addr} {xs : List V} : Walk (IteL K a) xs.length (fun H => SqL K H a xs) fun i H v H' => ∃ T x, v = .ref T ∧ H T = none ∧ (∃ o : Obj, o.dict = none ∧ H' = upd H T (TupO o [.int (i : Nat), x])) ∧ xs[i]? = some x :=
  ⟨fun i _ hi q => ⟨xs, xs[i], q, by simp [hi]⟩, fun _ q => ⟨xs, q, Nat.le_refl _⟩, fun i H v H' _ q ⟨T, x, h1, h2, h3, h4⟩ => ⟨T, x, h1, h2, h3, h4 xs q⟩⟩
def enuW (i : Nat) : List W → List W
  | [] => []
  | c :: r => .tup [.int (i : Nat), c] :: enuW (i + 1) r
theorem enuW_len : ∀ (x : List W) (i : Nat), (enuW i x).length = x.length
  | [], _ => rfl
  | c :: r, i => by simp [enuW, enuW_len r]
theorem enuW_get : ∀ (x : List W) (i j : Nat), (enuW i x)[j]? = x[j]?.map fun c => W.tup [.int ((i + j : Nat) : Int), c]
  | [], _, _ => rfl
  | c :: r, i, 0 => rfl
  | c :: r, i, j + 1 => by
    rw [show i + (j + 1) = (i + 1) + j by omega]
    simpa [enuW] using enuW_get r (i + 1) j
/-- enumerate(a list that stays) -/
def dEnL (d : DE) : DI := fun e S => (d e S).bind fun u S1 => match u with
  | .v (.lst l) => .ok (enuW 0 l) S1
  | _ => .no
@[simp] theorem dEnL_ap (d : DE) (e : Env') (S : Store) : dEnL d e S = (d e S).bind fun u S1 => match u with
  | .v (.lst l) => .ok (enuW 0 l) S1
  | _ => .no := rfl
section
variable {ec : Ec} {X : Cx} {e : Expr} {da : DE} {p pos tpos : Pos} {elts : List Expr} {kk : Nat}
theorem iv_enL (hg : Gl X "enumerate") (hm : X.mg "enumerate" = none) (h : PEv ec X e da) (h1 : starEach [e] X.env = (false, eval e X.env) :: starEach [] X.env := by rfl) (hs : starEach [e] X.env = [(false, eval e X.env)] := by rfl) : PIv ec X (.Tuple elts kk tpos) (.Call (.Name "enumerate" p) [e] [] pos) (dEnL da) :=
  ⟨fun pn xe Wx tk => (pi_enumL (X := X.tr pn xe) hg hm (pa_cons (h.run pn xe Wx tk) pa_nil h1) hs).imp fun σ H Q ⟨env, S, ι, B, R, E, h⟩ => LE.thenI R E h fun u S1 v H1 ι1 G1 R1 E1 ru h1 => by
    cases u with
    | o n => exact h1.elim
    | v w =>
      cases w with
      | lst l =>
        obtain ⟨a, vs, rfl, h2, r⟩ := Rp.lst_inv ru
        refine ⟨a, vs, rfl, h2.sq (F := fx ec X), h1 _ H1 ι1 .refl R1 ⟨_, _, (by have := walk_enumL (K := X.K) (a := a) (xs := vs); rw [enuW_len, r.1]; exact this), fun ι2 S2 B2 H2 x o R2 => ⟨(h2.ext x o).sq (F := fx ec X), fun i y H3 w hw hy => ?_⟩⟩⟩
        obtain ⟨T, c, rfl, hT, ⟨ob, hd, rfl⟩, hc⟩ := hy
        rw [enuW_get] at hw
        cases e2 : l[i]? with
        | none => rw [e2] at hw; cases hw
        | some cw =>
          rw [e2] at hw
          cases some_inj hw
          obtain ⟨v, hv, rv⟩ := r.get e2
          rw [hv] at hc; cases hc
          obtain ⟨f1, f2, f3⟩ := R2.fresh (TupO ob [.int (i : Nat), c]) hT
          refine ⟨?_, f1, f2, fun y z hz => ?_⟩
          · rw [Nat.zero_add]
            exact Rp.mkTup (.inl ⟨⟨ob, upd_same, hd⟩, f3⟩) (.cons (.int _) (.cons ((rv.ext x o).go f2) .nil))
          · rw [upd_ne (ne_of_none hz hT)]; exact hz
      | _ => exact h1.elim⟩
end
end Bel

namespace Bel
open PySem PySem.Spec PyProof.Rows L2
mutual
/-- plain, or rows of such -/
def ndW : W → Bool
  | .non => true
  | .bl _ => true
  | .int _ => true
  | .str _ => true
  | .tup l => ndWs l
  | _ => false
def ndWs : List W → Bool
  | [] => true
  | w :: r => ndW w && ndWs r
end
theorem ndWs_get : ∀ {l : List W} {i : Nat} {w : W}, ndWs l = true → l[i]? = some w → ndW w = true
  | [], i, w, _, h => by simp at h
  | x :: r, 0, w, h, e => by
    rw [ndWs, Bool.and_eq_true] at h
    simp at e; subst e; exact h.1
  | x :: r, i + 1, w, h, e => by
    rw [ndWs, Bool.and_eq_true] at h
    exact ndWs_get h.2 (by simpa using e)
section
variable {F : Fx} {H H' : Hp} {ι : List Addr} {S : Store} {B : Addr → Prop}
end
section
variable {ec : Ec} {X : Cx} {e : Expr} {es : List Expr} {pos p : Pos} {das : DA} {df : DF} {n k : Nat} {x : Str}
end
end Bel

namespace Bel
open PySem PySem.Spec PyProof.Rows L2
open AutoSeq1 (wpAny_loadPart')
theorem meets_enumerate_newT (l : Addr) (items : Array Value) (n : Nat) (dct : Option Addr) (sl : Array (Option Value)) :
    Meets (Builtin.«enumerate.__new__» ⟨[.type "enumerate", .ref l], []⟩) (fun _ R s => s.heap.get? l = some { cls := .type "tuple", dict := dct, data := .seq items n, slots := sl } ∧
      R (.ok (.ret (.ref (s.heap.push { cls := .type "tuple_iterator", data := .fields #[.ref l, .int 0 0] }).objs.size)))
        { s with heap := (s.heap.push { cls := .type "tuple_iterator", data := .fields #[.ref l, .int 0 0] }).push { cls := .type "enumerate", data := .fields #[.none, .bool false, .ref s.heap.objs.size, rawInt 0, .none, .none] } }) :=
  .of_wp fun prog w A R s h => by
    obtain ⟨hp, g, d, tk, os⟩ := s; obtain ⟨hl, h⟩ := h
    have hsub := sub_enumerate
    have hL : Heap.IsTuple (Shared.heap ⟨hp, g, d, tk, os⟩) l items := ⟨_, hl, rfl, n, rfl⟩
    wp_walk using wpAny_loadPart' hl
    refine wpAny_stack_any fun st => wpAny_pure ?_
    split
    · rename_i c _ _ _ _ _
      cases (c == Value.type "enumerate")
      · wp_walk using wpAny_loadPart' hl, wpAny_pyIter_tuple hL
        exact ⟨_, rfl, h⟩
      · wp_walk using wpAny_loadPart' hl, wpAny_pyIter_tuple hL
        exact ⟨_, rfl, h⟩
    · wp_walk using wpAny_loadPart' hl, wpAny_pyIter_tuple hL
      exact ⟨_, rfl, h⟩
theorem call_enumerate_tup {prog : Program} {w : World} {A : Around} {E : Value → Shared → Prop} {s : Shared} {l : Addr} {items : Array Value} {Q : Value → Shared → Prop} (hL : s.heap.IsTuple l items)
    (h : ∀ h', IsEnum h' (s.heap.objs.size + 1) s.heap.objs.size 0 .none → h'.IsTupleIter s.heap.objs.size l 0 → h'.objs.size = s.heap.objs.size + 2 →
      (∀ b o, s.heap.get? b = some o → h'.get? b = some o) → Q (.ref (s.heap.objs.size + 1)) { s with heap := h' }) :
    wpAny (model prog w) A (call (.type "enumerate") [.ref l]) Q E s := by
  obtain ⟨⟨c, dct, dt, sl⟩, hl, hc, n, hd⟩ := hL
  replace hc : c = .type "tuple" := hc
  replace hd : dt = .seq items n := hd
  subst hc hd
  refine callType_new F.called_enumerate (by decide) (F.typeCall_enumerate_1 _) (F.newCall_enumerate_1 _) (fun obj => F.args_object_init_2 obj _) F.entry_enumerate_new
    (meets_enumerate_newT l items n dct sl) ⟨hl, ?_⟩
  have hz : (s.heap.push { cls := .type "tuple_iterator", data := .fields #[.ref l, .int 0 0] }).objs.size = s.heap.objs.size + 1 := Heap.size_push ..
  show _ ∧ _
  rw [hz]
  have he : IsEnum ((s.heap.push { cls := .type "tuple_iterator", data := .fields #[.ref l, .int 0 0] }).push
      { cls := .type "enumerate", data := .fields #[.none, .bool false, .ref s.heap.objs.size, rawInt 0, .none, .none] }) (s.heap.objs.size + 1) s.heap.objs.size 0 .none := by
    have := Heap.get?_push_size (s.heap.push { cls := .type "tuple_iterator", data := .fields #[.ref l, .int 0 0] })
      (o := { cls := .type "enumerate", data := .fields #[.none, .bool false, .ref s.heap.objs.size, rawInt 0, .none, .none] }) rfl
    rw [hz] at this; exact this
  refine ⟨⟨_, he, rfl⟩, h _ he ⟨_, Heap.get?_push_of_some _ (Heap.get?_push_size _ rfl), rfl, rfl⟩ (by rw [Heap.size_push, hz]) fun b o x => Heap.get?_push_of_some _ (Heap.get?_push_of_some _ x)⟩
/-- a tuple's drawing that is at its end -/
theorem drawsEnd {P : Program} {w : World} {A : Around} (hh : A.handled = none) (it l : Addr) (hne : l ≠ it) (items : Array Value) (n : Nat) (hn : items.size ≤ n) :
    Draws P w A it [it, l] n (fun i v => items[i]? = some v) fun i h => i = n ∧ h.IsTupleIter it l i ∧ h.IsTuple l items where
  live i h st := by obtain ⟨_, ⟨o, h1, _⟩, _⟩ := st; exact ⟨o, h1⟩
  frame i h h' st k := by
    obtain ⟨e, ⟨o, h1, h2, h3⟩, o2, h4, h5⟩ := st
    exact ⟨e, ⟨o, k it (by simp) o h1, h2, h3⟩, o2, k l (by simp) o2 h4, h5⟩
  item i s Q E hi st hq := by
    obtain ⟨e, _⟩ := st
    omega
  done s Q E st hq := RZ.nextOf_tuple_end hh st.2.1 st.2.2 (by simpa using hn) fun h' e eb ho => hq h' e eb ho
def IteT (K : PySem.W.Frag) (a : Addr) : It :=
  ⟨fun i H => ∃ (xs : List V) (x : V), SqT K H a xs ∧ xs[i]? = some x,
    fun i H v H' => ∃ T x, v = .ref T ∧ H T = none ∧ (∃ o : Obj, o.dict = none ∧ H' = upd H T (TupO o [.int (i : Nat), x])) ∧ ∀ xs, SqT K H a xs → xs[i]? = some x,
    fun i H => ∃ xs : List V, SqT K H a xs ∧ xs.length ≤ i⟩
theorem turn_enumT {P : Program} {w : World} {K : PySem.W.Frag} {elts : List Expr} {kk : Nat} {tpos : Pos} (a e it : Addr) :
    Turn P w K (.Tuple elts kk tpos) (IteT K a) [e, it] e (fun i h => (∃ old, IsEnum h e it ((i : Nat) : Int) old) ∧ h.IsTupleIter it a i ∧ e ≠ it ∧ a ≠ it ∧ e ≠ a) where
  mem := by simp
  obj := fun i h st b hb => by
    obtain ⟨⟨old, he⟩, ⟨o, ho, hc, hd⟩, _⟩ := st
    have e' : b = e ∨ b = it := by simpa using hb
    rcases e' with z | z
    · rw [z]; exact ⟨_, he, fun v q => nomatch q⟩
    · rw [z]; exact ⟨o, ho, fun v q => by rw [hd] at q; cases q⟩
  keep := fun i h h' st k => let ⟨⟨old, he⟩, hi, hne⟩ := st; ⟨⟨old, k e (by simp) _ he⟩, hi.at fun o q => k it (by simp) o q, hne⟩
  item := by
    intro X hP hw hK hc i pins s σ H E I hf st hg
    subst hP hw hK
    obtain ⟨⟨old, he⟩, hit, hne, hai, hea⟩ := st
    obtain ⟨xs, x, hq, hx⟩ := hg
    obtain ⟨its, rv, p, hz⟩ := I.tuple hq
    obtain ⟨u, hu, ru⟩ := rv.get hx
    have hel : e < s.heap.objs.size := Heap.lt_size he
    have hil : it < s.heap.objs.size := by obtain ⟨_, q, _⟩ := hit; exact Heap.lt_size q
    have hlt : i < its.toArray.size := by
      have := (List.getElem?_eq_some_iff.mp hu).1
      simpa using this
    have hpt : s.heap.IsTuple a its.toArray := p
    refine wpAny_pyNext_enum_itemD (drawsT (P := X.prog) (w := X.w) (A := X.A.in1) (I.ok.hd hc) it a hai its.toArray) he ⟨hit, hpt⟩ hlt hne (by simp [hne, hea]) fun y h' tk hy ho hst hT hsz hk => ?_
    have hy' : y = u := by
      have : its.toArray[i]? = some u := by simpa using hu
      rw [this] at hy; exact (Option.some.inj hy).symm
    subst hy'
    refine ⟨_, rfl, wpAny_letOwnedTupleGo_enum (s := { s with heap := h', toks := tk + 1 }) ho fun h'' he' sb => ?_⟩
    have hT2 : h''.get? s.heap.objs.size = some { cls := .type "tuple", data := .seq #[.int i tk, y] } := (sb.2 _ (Nat.ne_of_gt hel)).trans hT
    have I1 := Inv.turnedNew (t' := tk + 1) I (ch := [e, it]) (T := s.heap.objs.size) (ob := TupO { cls := .type "tuple", data := .seq #[.int (i : Nat) tk, y] } [.int (i : Nat), x])
      (h' := h'') (fun b ob hb q => (sb.2 b (fun z => hb (by simp [z]))).trans (hk b ob (fun z => hb (by simp [z])) (fun z => hb (by simp [z])) q)) hf (Nat.le_refl _)
      ⟨hT2, (show 2 ≤ sizeLine from by decide), [.int (i : Nat) tk, y], .cons ⟨tk, rfl⟩ (.cons ru .nil), ⟨_, hT2, rfl, 0, rfl⟩⟩
    refine ⟨.ref s.heap.objs.size, _, I1, rfl, ⟨_, x, rfl, I.hok.fresh (Nat.le_refl _), ⟨_, rfl, rfl⟩, fun ys hy => by rw [I.tuple_inj hy hq]; exact hx⟩, ⟨⟨y, ?_⟩, hst.1.at fun o q => (sb.2 it (Ne.symm hne)).trans q, hne, hai, hea⟩, fun b hb => ?_⟩
    · have e1 : ((i + 1 : Nat) : Int) = (i : Int) + 1 := by omega
      rw [e1]; exact he'
    · have hb' : b < s.heap.objs.size := by
        have e' : b = e ∨ b = it := by simpa using hb
        rcases e' with z | z
        · rw [z]; exact hel
        · rw [z]; exact hil
      rw [upd_ne (Nat.ne_of_lt hb')]
      exact (hf b hb).1
  done := by
    intro X hP hw hK hc i pins s σ H E I hf st hg
    subst hP hw hK
    obtain ⟨⟨old, he⟩, hit, hne, hai, hea⟩ := st
    obtain ⟨xs, hq, hx⟩ := hg
    obtain ⟨its, rv, p, hz⟩ := I.tuple hq
    obtain ⟨f0, f1, f2, f3, f4, f5⟩ := hf it (by simp)
    have hl := rv.length
    have hpt : s.heap.IsTuple a its.toArray := p
    have hin : its.toArray.size ≤ i := by simp; omega
    exact wpAny_pyNext_enum_endD (drawsEnd (P := X.prog) (w := X.w) (A := X.A.in1) (I.ok.hd hc) it a hai its.toArray i hin) he ⟨rfl, hit, hpt⟩ fun h' eb => ⟨rfl, I.turned (t' := s.toks) (fun b o hb q => eb b o hb q) f0 f1 f3 f4 f5⟩
  self := fun A i s Q E st h => let ⟨⟨_, he⟩, _⟩ := st; wpAny_pyIter_enum he h
def iEnumT (K : PySem.W.Frag) (ta : TA) : TI := fun σ H R => ta σ H fun vs H1 => ∃ a xs, vs = [.ref a] ∧ SqT K H1 a xs ∧ R (IteT K a) H1
theorem pi_enumT {X : Cx} {e : Expr} {ta : TA} {p pos tpos : Pos} {elts : List Expr} {kk : Nat} (hg : Gl X "enumerate") (hm : X.mg "enumerate" = none) (ha : PA X [e] ta) (hs : starEach [e] X.env = [(false, eval e X.env)] := by rfl) :
    PI X (.Tuple elts kk tpos) (.Call (.Name "enumerate" p) [e] [] pos) (iEnumT X.K ta) := by
  refine ⟨fun pins s σ H R I h => ?_⟩
  refine Call_ (ld_blt I hg hm boot_enumerate (PyProof.Rows.callWith_type1 (thn (ha.run pos pins s σ H _ I h) fun us s1 ⟨vs, H1, I1, r1, q1⟩ => ?_) hs rfl))
  obtain ⟨a, xs, ex, hq, q⟩ := q1
  subst ex
  cases r1 with
  | cons r rr =>
    cases rr
    cases r
    obtain ⟨its, rv, p', hz⟩ := I1.tuple hq
    have hpt : s1.heap.IsTuple a its.toArray := p'
    have hal : a < s1.heap.objs.size := by obtain ⟨o, q, _⟩ := hpt; exact Heap.lt_size q
    refine call_enumerate_tup hpt fun h' he hit hsz hk => wpAny_pyIter_enum he ?_
    have I2 : Inv X pins σ H1 { s1 with heap := h' } := I1.kept (t' := s1.toks) hk
    refine ⟨s1.heap.objs.size + 1, [s1.heap.objs.size + 1, s1.heap.objs.size], _, _, H1, rfl, I2, turn_enumT a (s1.heap.objs.size + 1) s1.heap.objs.size, ⟨⟨.none, he⟩, hit, Nat.succ_ne_self _, Nat.ne_of_lt hal, Nat.ne_of_gt (Nat.lt_succ_of_lt hal)⟩, fun b hb => ?_, q⟩
    have e' : b = s1.heap.objs.size + 1 ∨ b = s1.heap.objs.size := by simpa using hb
    have hle : s1.heap.objs.size ≤ b := by
      rcases e' with z | z
      · rw [z]; exact Nat.le_add_right _ _
      · rw [z]; exact Nat.le_refl _
    exact I1.fpOk hle (I1.hok.fresh hle)
theorem walk_enumT {K : PySem.W.Frag} {a : Addr} {xs : List V} : Walk (IteT K a) xs.length (fun H => SqT K H a xs) fun i H v H' => ∃ T x, v = .ref T ∧ H T = none ∧ (∃ o : Obj, o.dict = none ∧ H' = upd H T (TupO o [.int (i : Nat), x])) ∧ xs[i]? = some x :=
  ⟨fun i _ hi q => ⟨xs, xs[i], q, by simp [hi]⟩, fun _ q => ⟨xs, q, Nat.le_refl _⟩, fun i H v H' _ q ⟨T, x, h1, h2, h3, h4⟩ => ⟨T, x, h1, h2, h3, h4 xs q⟩⟩
/-- enumerate(a tuple) -/
def dEnT (d : DE) : DI := fun e S => (d e S).bind fun u S1 => match u with
  | .v (.tup l) => .ok (enuW 0 l) S1
  | _ => .no
@[simp] theorem dEnT_ap (d : DE) (e : Env') (S : Store) : dEnT d e S = (d e S).bind fun u S1 => match u with
  | .v (.tup l) => .ok (enuW 0 l) S1
  | _ => .no := rfl
section
variable {ec : Ec} {X : Cx} {e : Expr} {da : DE} {p pos tpos : Pos} {elts : List Expr} {kk : Nat}
theorem iv_enT (hg : Gl X "enumerate") (hm : X.mg "enumerate" = none) (h : PEv ec X e da) (h1 : starEach [e] X.env = (false, eval e X.env) :: starEach [] X.env := by rfl) (hs : starEach [e] X.env = [(false, eval e X.env)] := by rfl) : PIv ec X (.Tuple elts kk tpos) (.Call (.Name "enumerate" p) [e] [] pos) (dEnT da) :=
  ⟨fun pn xe Wx tk => (pi_enumT (X := X.tr pn xe) hg hm (pa_cons (h.run pn xe Wx tk) pa_nil h1) hs).imp fun σ H Q ⟨env, S, ι, B, R, E, h⟩ => LE.thenI R E h fun u S1 v H1 ι1 G1 R1 E1 ru h1 => by
    cases u with
    | o n => exact h1.elim
    | v w =>
      cases w with
      | tup l =>
        obtain ⟨a, vs, rfl, h2, r⟩ := Rp.tup_inv ru
        refine ⟨a, vs, rfl, h2.sq (F := fx ec X), h1 _ H1 ι1 .refl R1 ⟨_, _, (by have := walk_enumT (K := X.K) (a := a) (xs := vs); rw [enuW_len, r.1]; exact this), fun ι2 S2 B2 H2 x o R2 => ⟨(h2.ext x o).sq (F := fx ec X), fun i y H3 w hw hy => ?_⟩⟩⟩
        obtain ⟨T, c, rfl, hT, ⟨ob, hd, rfl⟩, hc⟩ := hy
        rw [enuW_get] at hw
        cases e2 : l[i]? with
        | none => rw [e2] at hw; cases hw
        | some cw =>
          rw [e2] at hw
          cases some_inj hw
          obtain ⟨v, hv, rv⟩ := r.get e2
          rw [hv] at hc; cases hc
          obtain ⟨f1, f2, f3⟩ := R2.fresh (TupO ob [.int (i : Nat), c]) hT
          refine ⟨?_, f1, f2, fun y z hz => ?_⟩
          · rw [Nat.zero_add]
            exact Rp.mkTup (.inl ⟨⟨ob, upd_same, hd⟩, f3⟩) (.cons (.int _) (.cons ((rv.ext x o).go f2) .nil))
          · rw [upd_ne (ne_of_none hz hT)]; exact hz
      | _ => exact h1.elim⟩
end
end Bel

namespace Bel
open PySem PySem.Spec PyProof.Rows L2
section
variable {F : Fx} {H H' : Hp} {ι : List Addr} {S : Store} {B : Addr → Prop} {O : Addr → Prop}
variable {a b : Addr} {ws : List (List Int × W)} {xs : List (List Int × Addr × Value)} {vs : List V} {k : List Int} {w : W} {v : V} {r : Value}
theorem TdV.sq (T : TdV F H O a ws xs vs) : ∀ x ∈ xs, SqT F.K H x.2.1 (x.1.map V.int) := fun x hx => by
  obtain ⟨i, hi⟩ := List.mem_iff_getElem?.mp hx
  obtain ⟨hlt, _⟩ := List.getElem?_eq_some_iff.mp hi
  have hlw : i < ws.length := by rw [T.l1]; exact hlt
  obtain ⟨e, f⟩ := T.keys i _ x (List.getElem?_eq_getElem hlw) hi
  rw [e]
  exact f.sq
theorem TdV.look (T : TdV F H O a ws xs vs) (k : List Int) : (atKey xs k = none ∧ lookT k ws = none) ∨ ∃ p w v, atKey xs k = some p ∧ lookT k ws = some w ∧ RelV v p.2 ∧ Rp F H O w v :=
  find_par k T.l1 T.l2 (fun i w x p q => (T.keys i w x p q).1) T.rel T.vals
theorem lookT_eq (T : TdV F H O a ws xs vs) (k : List Int) : (lookT k ws).isSome = (atKey xs k).isSome := by
  rcases T.look k with ⟨e1, e2⟩ | ⟨p, w, v, e1, e2, _⟩ <;> rw [e1, e2] <;> rfl
/-- what stands behind the written one; the parts -/
theorem TdV.put (T : TdV F H O a ws xs vs) (fb : FTup F H O b (k.map V.int)) (hw : Rp F H O w v) (hr : RelV v r) : ∃ vs' : List V,
    (putT k w ws).length = (storedH xs k b r).length ∧ vs'.length = (storedH xs k b r).length ∧
    (∀ (i : Nat) (w' : List Int × W) (x : List Int × Addr × Value), (putT k w ws)[i]? = some w' → (storedH xs k b r)[i]? = some x → x.1 = w'.1 ∧ FTup F H O x.2.1 (w'.1.map V.int)) ∧
    (∀ (i : Nat) (v' : V) (x : List Int × Addr × Value), vs'[i]? = some v' → (storedH xs k b r)[i]? = some x → RelV v' x.2.2) ∧
    (∀ (i : Nat) (w' : List Int × W) (v' : V), (putT k w ws)[i]? = some w' → vs'[i]? = some v' → Rp F H O w'.2 v') := by
  have l1 := T.l1
  have l2 := T.l2
  unfold putT storedH
  rw [lookT_eq T k]
  by_cases q : (atKey xs k).isSome = true
  · rw [if_pos q, if_pos q]
    refine ⟨List.zipWith (fun (p : List Int × W) u => if p.1 = k then v else u) ws vs, by simp [l1], by simp [l1, l2], fun i w' x h1 h2 => ?_, fun i v' x h1 h2 => ?_, fun i w' v' h1 h2 => ?_⟩
    · rw [List.getElem?_map] at h1 h2
      obtain ⟨p, hp, rfl⟩ := Option.map_eq_some_iff.mp h1
      obtain ⟨y, hy, rfl⟩ := Option.map_eq_some_iff.mp h2
      obtain ⟨e, f⟩ := T.keys i p y hp hy
      unfold putAt
      by_cases c : p.1 = k
      · rw [if_pos c, if_pos (by rw [e]; exact c)]; exact ⟨e, f⟩
      · rw [if_neg c, if_neg (by rw [e]; exact c)]; exact ⟨e, f⟩
    · rw [List.getElem?_map] at h2
      obtain ⟨y, hy, rfl⟩ := Option.map_eq_some_iff.mp h2
      rw [List.getElem?_zipWith] at h1
      cases hp : ws[i]? with
      | none => rw [hp] at h1; simp at h1
      | some p =>
        cases hv : vs[i]? with
        | none => rw [hp, hv] at h1; simp at h1
        | some u =>
          rw [hp, hv] at h1
          simp at h1
          obtain ⟨e, f⟩ := T.keys i p y hp hy
          have rl := T.rel i u y hv hy
          unfold putAt
          by_cases c : p.1 = k
          · rw [if_pos c] at h1
            rw [if_pos (by rw [e]; exact c), ← h1]; exact hr
          · rw [if_neg c] at h1
            rw [if_neg (by rw [e]; exact c), ← h1]; exact rl
    · rw [List.getElem?_map] at h1
      obtain ⟨p, hp, rfl⟩ := Option.map_eq_some_iff.mp h1
      rw [List.getElem?_zipWith, hp] at h2
      cases hv : vs[i]? with
      | none => rw [hv] at h2; simp at h2
      | some u =>
        rw [hv] at h2
        simp at h2
        have rl := T.vals i p u hp hv
        by_cases c : p.1 = k
        · rw [if_pos c] at h2 ⊢
          rw [← h2]; exact hw
        · rw [if_neg c] at h2 ⊢
          rw [← h2]; exact rl
  · rw [if_neg q, if_neg q]
    have snoc : ∀ {α β : Type} {R : α → β → Prop} {l : List α} {m : List β} {x : α} {y : β}, l.length = m.length → (∀ (i : Nat) p q, l[i]? = some p → m[i]? = some q → R p q) → R x y → ∀ (i : Nat) p q, (l ++ [x])[i]? = some p → (m ++ [y])[i]? = some q → R p q := by
      intro α β R l m x y hl hR hxy i p q h1 h2
      by_cases hi : i < l.length
      · rw [List.getElem?_append_left hi] at h1
        rw [List.getElem?_append_left (by omega)] at h2
        exact hR i p q h1 h2
      · rw [List.getElem?_append_right (by omega)] at h1 h2
        rw [hl] at h1
        cases e : i - m.length with
        | zero => rw [e] at h1 h2; simp at h1 h2; subst h1 h2; exact hxy
        | succ n => rw [e] at h1; simp at h1
    exact ⟨vs ++ [v], by simp [l1], by simp [l2], snoc (R := fun (w' : List Int × W) (x : List Int × Addr × Value) => x.1 = w'.1 ∧ FTup F H O x.2.1 (w'.1.map V.int)) l1 T.keys ⟨rfl, fb⟩, snoc (R := fun (v' : V) (x : List Int × Addr × Value) => RelV v' x.2.2) l2 T.rel hr, snoc (R := fun (w' : List Int × W) (v' : V) => Rp F H O w'.2 v') (l1.trans l2.symm) T.vals hw⟩
/-- an own object written, whatever it is -/
theorem RS.writeG (R : RS F ι S B H) {n : Nat} {o o' : Ob} {a : Addr} {ho : HO} (h : S[n]? = some o) (hd : o ≠ Ob.dead) (hd' : o' ≠ Ob.dead) (ha : ι[n]? = some a)
    (hob : Go ι S H ι (S.set n o') (upd H a ho) → ObR F ι (upd H a ho) (Oq ι (S.set n o') B) a o') : RS F ι (S.set n o') B (upd H a ho) ∧ Go ι S H ι (S.set n o') (upd H a ho) := by
  have hn : n < S.length := (List.getElem?_eq_some_iff.mp h).1
  have oa : Ow ι S a := ⟨n, o, h, hd, ha⟩
  have G : Go ι S H ι (S.set n o') (upd H a ho) := ⟨fun x y hx nx => by rw [upd_ne (fun z => nx (by rw [z]; exact oa))]; exact hx, fun b z => .inl ((ow_set h hd hd' b).mp z), [], by simp⟩
  refine ⟨⟨by simp [R.len], R.nd, fun m q b h1 h2 => ?_, fun b hb => ?_⟩, G⟩
  · by_cases hm : n = m
    · subst hm
      rw [ha] at h2; cases h2
      rw [List.getElem?_set_self hn] at h1
      cases h1
      exact hob G
    · rw [List.getElem?_set_ne hm] at h1
      have hne : b ≠ a := by
        rintro rfl
        obtain ⟨h4, h5⟩ := List.getElem?_eq_some_iff.mp ha
        obtain ⟨h6, h7⟩ := List.getElem?_eq_some_iff.mp h2
        exact hm ((List.getElem_inj R.nd).mp (h5.trans h7.symm))
      have z := R.ob m q b h1 h2
      cases q with
      | lst ws => obtain ⟨vs, e, r⟩ := z; exact ⟨vs, by rw [upd_ne hne]; exact e, r.go G⟩
      | dct ws => obtain ⟨vs, e, r⟩ := z; exact ⟨vs, by rw [upd_ne hne]; exact e, r.go G⟩
      | scr ws => obtain ⟨vs, y, e, d, r⟩ := z; exact ⟨vs, y, by rw [upd_ne hne]; exact e, d.imp (fun d => by rw [upd_ne hne]; exact d) fun ⟨o, d⟩ => ⟨o, by rw [upd_ne hne]; exact d⟩, r.go G⟩
      | tbl x q => exact TblR.ext z G.extq G.ownq fun _ e => by rw [upd_ne hne]; exact e
      | td ws => exact TdVR.ext z G.extq G.ownq fun _ e => by rw [upd_ne hne]; exact e
      | ru k us => obtain ⟨f, vs, d, r⟩ := z; exact ⟨f, vs, d.ext G.extq G.ownq fun _ e => by rw [upd_ne hne]; exact e, r.ext G.extq G.ownq pre_rfl⟩
      | dead => obtain ⟨y, e⟩ := z; exact ⟨y, by rw [upd_ne hne]; exact e⟩
  · obtain ⟨⟨y, e⟩, nb⟩ := R.hid b hb
    exact ⟨⟨y, by rw [upd_ne (fun z => nb (by rw [z]; exact List.mem_of_getElem? ha))]; exact e⟩, nb⟩
/-- a new own object, whatever it is -/
theorem RS.ownedG (R : RS F ι S B H) {p : Addr} {ho : HO} {o : Ob} (hd : o ≠ Ob.dead) (hp : H p = none) (hob : ObR F (ι ++ [p]) (upd H p ho) (Oq (ι ++ [p]) (S ++ [o]) B) p o) :
    RS F (ι ++ [p]) (S ++ [o]) B (upd H p ho) ∧ Go ι S H (ι ++ [p]) (S ++ [o]) (upd H p ho) := by
  obtain ⟨R1, G1⟩ := R.owned (p := p) (ho := .lst []) (o := .lst []) hp ⟨[], rfl, .nil⟩
  have hn : (S ++ [Ob.lst []])[S.length]? = some (.lst []) := by simp
  have ha : (ι ++ [p])[S.length]? = some p := by rw [← R.len]; simp
  have es : (S ++ [Ob.lst []]).set S.length o = S ++ [o] := by
    rw [List.set_append_right _ _ (Nat.le_refl _)]; simp
  have eu : upd (upd H p (.lst [])) p ho = upd H p ho := upd_upd
  obtain ⟨R2, G2⟩ := R1.writeG (o' := o) (ho := ho) hn (by simp) hd ha (fun _ => by rw [eu, es]; exact hob)
  rw [eu, es] at R2 G2
  exact ⟨R2, G1.trans G2⟩
end
section
variable {X : Cx} {o e f : Expr} {apos cpos pos : Pos} {td ty tv tx : TE}
theorem tdo_ok {P : Program} {w : World} {H' : Hp} {h' : Heap} {a : Addr} {xs : List (List Int × Addr × Value)} (h : ∃ ob, TdAt w a ob xs h') : ∃ ob, ∀ H', ObjOk P w H' h' a (TdO w a ob xs) := by
  obtain ⟨ob, es, ep, k1, k2, k3, k4, k5⟩ := h
  refine ⟨ob, fun H' => ?_⟩
  show TdAt w a ob _ h' ∧ _ ∧ _
  refine ⟨⟨es, ep, k1, k2, k3, k4, k5⟩, ⟨ob, k1⟩, fun g1 g2 z1 z2 => ?_⟩
  obtain ⟨es', ep', y1, y2⟩ := z1
  exact ⟨es', ep', z2 _ y1, y2⟩
def sTdPut (K : PySem.W.Frag) (w : World) (td ty tv : TE) : TS := fun D σ H => tv σ H fun v H1 => td σ H1 fun x H2 => ty σ H2 fun y H3 => ∃ (a b : Addr) (ks : List Int) (xs : List (List Int × Addr × Value)), x = .ref a ∧ y = .ref b ∧ TdK K w H3 a b ks xs ∧ xs.length ≤ sizeLine ∧
  ∀ ob r, RelV v r → D.nx σ (upd H3 a (TdO w a ob (storedH xs ks b r)))
theorem ps_tdput {value i : Expr} {pos' : Pos} (hu : X.A.units + 1 < cLine) (ho : PE X o td) (hi : PE X i ty) (hv : PE X value tv) (hs : swapsWith value (some (.Subscript o i pos')) pos.line X.env = pure false) :
    PS X (.Assign [.Subscript o i pos'] value pos) (sTdPut X.K X.w td ty tv) := by
  refine ⟨fun pins s σ H D I h => ?_⟩
  refine wpAny_Assign_Subscript (thn (hv.run pins s σ H _ I h) fun r s1 ⟨v, H1, I1, rv, q1⟩ => thn (ho.run pins s1 σ H1 _ I1 q1) fun u s2 ⟨x, H2, I2, rx, q2⟩ => thn (hi.run pins s2 σ H2 _ I2 q2) fun iv s3 ⟨y, H3, I3, ry, a, b, ks, xs, ex, ey, ⟨hb, ha, hm, hk⟩, hl, q3⟩ => ?_) hs
  subst ex ey
  obtain rfl : u = Value.ref a := rx
  obtain rfl : iv = Value.ref b := ry
  have dd := td_at I3 ha hk
  refine wpAny_setItem_heap (hsz := hl) (tupleKind_room_in1 hu) (I3.isT hb) dd fun h' dd' hs' => ?_
  obtain ⟨q, es, ep, hq, h2, h3, h4, _, h5⟩ := dd'
  obtain ⟨ob, hob⟩ := tdo_ok (P := X.prog) (w := X.w) (H' := H3) (h' := h') (a := a) (xs := storedH xs ks b r) ⟨q, es, ep, hq, h2, h3, fun P => h4, h5⟩
  obtain ⟨o0, ha'⟩ := ha
  exact ⟨σ, _, d_write I3 (by rw [ha']; exact True.intro) hs' ⟨q, hq⟩ (hob _), q3 ob r rv⟩
end
section
variable {ec : Ec} {X : Cx} {o i k x e : Expr} {do_ dk dx da db dc : DE} {apos cpos pos p : Pos}
end
end Bel

namespace Bel
open PySem PySem.Spec PyProof.Rows L2
def maxI (i : Int) (r : List Int) : Int := r.foldl max i
theorem maxI_ge : ∀ (r : List Int) (i : Int), i ≤ maxI i r ∧ ∀ y ∈ r, y ≤ maxI i r
  | [], i => ⟨Int.le_refl _, fun _ z => nomatch z⟩
  | x :: r, i => by
    obtain ⟨h1, h2⟩ := maxI_ge r (max i x)
    have e : maxI i (x :: r) = maxI (max i x) r := rfl
    rw [e]
    refine ⟨Int.le_trans (Int.le_max_left ..) h1, fun y hy => ?_⟩
    rcases List.mem_cons.mp hy with rfl | hy
    · exact Int.le_trans (Int.le_max_right ..) h1
    · exact h2 y hy
theorem maxI_mem : ∀ (r : List Int) (i : Int), maxI i r ∈ i :: r
  | [], i => List.mem_singleton.mpr rfl
  | x :: r, i => by
    have e : maxI i (x :: r) = maxI (max i x) r := rfl
    rw [e]
    rcases List.mem_cons.mp (maxI_mem r (max i x)) with h | h
    · rw [h]
      rcases Int.le_total i x with q | q
      · rw [Int.max_eq_right q]; simp
      · rw [Int.max_eq_left q]; simp
    · exact .tail _ (.tail _ h)
end Bel

namespace Bel
open PySem PySem.Spec PyProof.Rows L2
open AutoSeq1 (wpAny_loadPart')
section
variable {X : Cx}
end
end Bel

namespace Bel
open PySem PySem.Spec PyProof.Rows L2
section
variable {F : Fx} {H H' : Hp} {ι : List Addr} {S : Store} {B : Addr → Prop}
theorem RUL.of : ∀ {us : List U} {vs : List V}, RUs F H ι S B us vs → RUL F ι H (Oq ι S B) us vs
  | _, _, .nil => ⟨rfl, fun i u v h => by simp at h⟩
  | u :: us, v :: vs, .cons r t => by
    have ih := RUL.of t
    refine ⟨by simp [ih.1], fun i x y h1 h2 => ?_⟩
    cases i with
    | zero =>
      simp at h1 h2; subst h1 h2
      cases u with
      | v w => exact r
      | o n => exact r
    | succ i => simp at h1 h2; exact ih.2 i x y h1 h2
theorem RUL.snoc {O : Addr → Prop} {us : List U} {vs : List V} (r : RUL F ι H O us vs) {u : U} {v : V} (h : RUo F ι H O u v) : RUL F ι H O (us ++ [u]) (vs ++ [v]) := by
  refine ⟨by simp [r.1], fun i x y h1 h2 => ?_⟩
  by_cases hi : i < us.length
  · rw [List.getElem?_append_left hi] at h1
    rw [List.getElem?_append_left (by rw [← r.1]; exact hi)] at h2
    exact r.2 i x y h1 h2
  · rw [List.getElem?_append_right (by omega)] at h1
    rw [List.getElem?_append_right (by rw [← r.1]; omega), ← r.1] at h2
    obtain ⟨h4, h5⟩ := List.getElem?_eq_some_iff.mp h1
    obtain ⟨h6, h7⟩ := List.getElem?_eq_some_iff.mp h2
    simp at h5 h7
    subst h5
    subst h7
    exact h
theorem RU.uo {u : U} {v : V} (r : RU F H ι S B u v) : RUo F ι H (Oq ι S B) u v := by
  cases u with
  | v w => exact r
  | o n => exact r
theorem RUo.u {u : U} {v : V} (r : RUo F ι H (Oq ι S B) u v) : RU F H ι S B u v := by
  cases u with
  | v w => exact r
  | o n => exact r
theorem RS.ru (R : RS F ι S B H) {n : Nat} {k : RK} {us : List U} {a : Addr} (h : S[n]? = some (.ru k us)) (ha : ι[n]? = some a) : ∃ vs, KH F H (Oq ι S B) a k vs ∧ RUL F ι H (Oq ι S B) us vs := (R.ob n _ a h ha).2
/-- a new one -/
theorem RS.newRu (R : RS F ι S B H) (hf : F.ec.rf = true) {k : RK} {us : List U} {vs : List V} {ho : HO} {p : Addr} (hp : H p = none) (hk : KH F (upd H p ho) (Oq (ι ++ [p]) (S ++ [.ru k us]) B) p k vs) (r : RUL F ι H (Oq ι S B) us vs) :
    RS F (ι ++ [p]) (S ++ [.ru k us]) B (upd H p ho) ∧ Go ι S H (ι ++ [p]) (S ++ [.ru k us]) (upd H p ho) := by
  refine R.ownedG (o := .ru k us) (by simp) hp ⟨hf, vs, hk, r.ext ?_ ?_ ⟨_, rfl⟩⟩
  · exact fun x y hx _ => by rw [upd_ne (ne_of_none hx hp)]; exact hx
  · exact fun a z => z.elim (fun z => ((ow_push (o := .ru k us) R.len (by simp)).mp z).imp .inl fun e => by rw [e]; exact hp) fun z => .inl (.inr z)
/-- one written -/
theorem RS.setRu (R : RS F ι S B H) {k k' : RK} {us us' : List U} {vs' : List V} {ho : HO} {n : Nat} {a : Addr} (hn : S[n]? = some (.ru k us)) (ha : ι[n]? = some a) (hk : Go ι S H ι (S.set n (.ru k' us')) (upd H a ho) → KH F (upd H a ho) (Oq ι (S.set n (.ru k' us')) B) a k' vs') (r : RUL F ι H (Oq ι S B) us' vs') :
    RS F ι (S.set n (.ru k' us')) B (upd H a ho) ∧ Go ι S H ι (S.set n (.ru k' us')) (upd H a ho) :=
  R.writeG (o' := .ru k' us') hn (by simp) (by simp) ha fun G => ⟨(R.ob n _ a hn ha).1, vs', hk G, r.ext G.extq G.ownq pre_rfl⟩
end
section
variable {ec : Ec} {X : Cx} {e a b o : Expr} {es : List Expr} {pos apos cpos : Pos} {das : DA} {da db : DE}
end
end Bel

namespace Bel
open PySem PySem.Spec PyProof.Rows L2 LamX
section
variable {F : Fx} {H : Hp} {ι : List Addr} {B : Addr → Prop}
/-- the heap stays, fewer are owned -/
structure Thin (F : Fx) (ι : List Addr) (B : Addr → Prop) (H : Hp) (S S' : Store) : Prop where
  rs : RS F ι S' B H
  go : Go ι S H ι S' H
  sub : ∀ a, Oq ι S' B a → Oq ι S B a
theorem Thin.trans {S S1 S2 : Store} (a : Thin F ι B H S S1) (b : Thin F ι B H S1 S2) : Thin F ι B H S S2 := ⟨b.rs, a.go.trans b.go, fun x h => a.sub x (b.sub x h)⟩
end
section
variable {ec : Ec} {X : Cx} {e : Expr} {es : List Expr} {pos p : Pos} {das : DA} {df : DF} {n k : Nat} {x : Str} {ds : DS}
def fnX (nl : Nat) (body : DS) : DF := fun us S => match body (us.map some ++ List.replicate (nl - us.length) none) S with
  | .ok (.nx _) S' => .ok (.v .non) S'
  | .ok (.rt u) S' => .ok u S'
  | .ex c _ S' => .ex c S'
  | _ => .no
end
section
variable {P : Program} {w : World} {K : PySem.W.Frag} {mg : Str → Option Value} {base : Heap} {ec : Ec}
theorem defX {x qual : Str} {params : Arguments} {body : List Stmt} {scope : Scope} {dvs : List V} {kws : List (Str × V)} {f : Addr} {fd : FuncData} {N ps : List Str} {k n nl : Nat} {d : DS} (Fn : FunD K x qual params body scope dvs kws f fd) (Sc : FnScope N ps scope) (hn : ps.length = n) (hnl : N.length = nl)
    (hb : ∀ (cdv : Value) (A : Around) (fs : List Env) (s : Shared) (H : Hp) (E : XK), RoomG k (A.deeper (envOfC qual scope s.heap.objs.size f cdv)) →
      PSsv ec (cxOf (L2.CX P w) P w K mg base N qual scope f cdv A fs s H E) body d) : FnG P w K mg base (k + 1) f fd ps (spD ⟨K, w, ec⟩ (fnX nl d) n) := by
  subst hn hnl
  refine ⟨spD_len, fun A fs s H as us xs Q E r e0 bi rv h => ?_⟩
  obtain ⟨oc, od, dV, kV, doc, pm, an, cdv, ct, osl, rfl, lk, hcd, _, _⟩ := Fn.ex
  refine run_ofS (CX := L2.CX P w) lk hcd Sc r.r e0 bi rv (spD_len _ _ _ _ h) fun _ => ?_
  refine ⟨LS ⟨K, w, ec⟩ (fun cls d _ H => E cls d H) d, (hb cdv A fs s H E r.down).run [] _ _ (takes_of rfl rfl rfl rfl) (passes_of rfl), ?_⟩
  obtain ⟨us, St, ι, B, R, rr, hl, h⟩ := h
  refine ⟨_, St, ι, B, R, rr.begin_ N, ?_⟩
  unfold fnX at h
  cases e : d (us.map some ++ List.replicate (N.length - us.length) none) St with
  | no => rw [e] at h; exact h
  | ex c e1 S1 =>
    rw [e] at h
    exact fun σ' H' ι' G R' E' => h H' ι' G R'
  | ok fl S1 =>
    rw [e] at h
    cases fl with
    | bk e1 => exact h.elim
    | ct e1 => exact h.elim
    | nx e1 => exact fun σ' H' ι' G R' E' => h _ H' ι' G R' .non
    | rt u => exact fun v H' ι' G R' ru => h v H' ι' G R' ru
theorem Hd.defX_ {fa : List He.Fa} {fn : List He.DefD} {kc : List Con'} (Z : Hd K mg fa fn kc) (i j : Nat) {x qual : Str} {params : Arguments} {body : List Stmt} {scope : Scope} {N ps : List Str} {k n nl : Nat} {d : DS}
    (h : fn[i]? = some ⟨(x, none), x, qual, params, body, scope, [], []⟩) (hg : fa[j]? = some (.glo x)) (Sc : FnScope N ps scope) (hn : ps.length = n) (hnl : N.length = nl)
    (hbi : ∀ (kV doc pm : Value) (an : Option Addr) (cdv ct : Value) (us : List Value), us.length = ps.length → bindArgs (PySem.W.fnOf x qual params body scope .none kV doc pm an cdv ct) ⟨us, []⟩ = pure (ps.zip us))
    (hb : ∀ (f : Addr) (cdv : Value) (A : Around) (fs : List Env) (s : Shared) (H : Hp) (E : XK), RoomG k (A.deeper (envOfC qual scope s.heap.objs.size f cdv)) →
      PSsv ec (cxOf (L2.CX P w) P w K mg base N qual scope f cdv A fs s H E) body d) : HasG P w K mg base ec x (k + 1) n (fnX nl d) := by
  obtain ⟨fd, F⟩ := Z.says.def_ i h
  exact ⟨He.ga K x, fd, ps, defX (P := P) (w := w) (mg := mg) (base := base) F Sc hn hnl fun cdv A fs s H E hr => hb _ cdv A fs s H E hr, Z.gl x (Z.says.fact j hg), F.kp, F.bindsN hbi⟩
end
theorem Rp.kind {K : PySem.W.Frag} {w : World} {e1 e2 : Ec} (he : e1.f = e2.f) {H : Hp} {O : Addr → Prop} {x : W} {v : V} (r : Rp ⟨K, w, e1⟩ H O x v) : Rp ⟨K, w, e2⟩ H O x v := by
  induction r with
  | non => exact .non
  | bl b => exact .bl b
  | int i => exact .int i
  | str x h h2 => exact .str x h h2
  | tup h hl hs ih => exact .tup h hl ih
  | lst h hl hs ih => exact .lst h hl ih
  | dct h hl hk hs ihk ihs => exact .dct h hl ihk ihs
  | kdc h hl hk hs ihs => exact .kdc h hl hk ihs
  | tdc h hn hm hl hv hk hr hs ihs => exact .tdc h hn hm hl hv hk hr ihs
  | exc h hn =>
    refine .exc ?_ hn
    rename_i c
    have : (⟨K, w, e1⟩ : Fx).ec c = (⟨K, w, e2⟩ : Fx).ec c := congrFun he c
    rw [← this]
    exact h
def isV : U → Bool
  | .v _ => true
  | .o _ => false
def dFnP (f : DF) (n : Nat) (a : DA) : DE := fun e S => (a e S).bind fun us S1 => if us.length = n ∧ us.all isV = true then (match f us [] with
    | .ok (.v w) _ => .ok (.v w) S1
    | .ok (.o m) T => match T[m]? with
      | some (.lst l) => .ok (.v (.lst l)) S1
      | some (.dct l) => .ok (.v (.dct l)) S1
      | _ => .no
    | .ex c _ => .ex c S1
    | .no => .no) else .no
theorem rs_empty {K : PySem.W.Frag} {w : World} {e1 : Ec} (e2 : Ec) {H : Hp} {ι : List Addr} {S : Store} {B : Addr → Prop} (R : RS ⟨K, w, e1⟩ ι S B H) : RS ⟨K, w, e2⟩ [] [] (Oq ι S B) H := by
  refine ⟨rfl, .nil, fun n o a h => by simp at h, fun a h => ⟨?_, by simp⟩⟩
  rcases h with z | z
  · exact R.tracked z
  · exact (R.hid a z).1
theorem rus_empty {K : PySem.W.Frag} {w : World} {e1 e2 : Ec} (he : e1.f = e2.f) {H : Hp} {ι : List Addr} {S : Store} {B : Addr → Prop} : ∀ {us : List U} {vs : List V}, us.all isV = true → RUs ⟨K, w, e1⟩ H ι S B us vs → RUs ⟨K, w, e2⟩ H [] [] (Oq ι S B) us vs
  | _, _, _, .nil => .nil
  | u :: us, _, h, .cons r t => by
    rw [List.all_cons, Bool.and_eq_true] at h
    refine .cons ?_ (rus_empty he h.2 t)
    cases u with
    | o n => cases h.1
    | v x => exact Rp.less (fun a z => oq_nil z) (Rp.kind he r)
section
variable {ec ec2 : Ec} {X : Cx} {e : Expr} {es : List Expr} {pos p : Pos} {das : DA} {df : DF} {n k : Nat} {x : Str}
theorem fnP_reads {K : PySem.W.Frag} {w : World} (he : ec2.f = ec.f) {Wx : WX} {σ : L2.St} {H : Hp} {Q : VK} (h : LE ⟨K, w, ec⟩ Wx (dFnP df n das) σ H Q) : tCallS (spD ⟨K, w, ec2⟩ df n) (WE Wx) (LA ⟨K, w, ec⟩ Wx das) σ H Q := by
  obtain ⟨env, S, ι, B, R, E, h⟩ := h
  refine LA.then_ R E h fun us S1 xs H1 ι1 G1 R1 E1 ru h1 => ?_
  split at h1
  · rename_i hn
    refine ⟨us, [], [], Oq ι1 S1 B, rs_empty ec2 R1, rus_empty he.symm hn.2 ru, hn.1, ?_⟩
    have key : ∀ (H' : Hp) (ι' : List Addr) (S' : Store), Go [] [] H1 ι' S' H' → ∀ a y, H1 a = some y → H' a = some y := fun H' ι' S' G a y e => G.ext a y e fun ⟨m, o, z, _⟩ => by simp at z
    have sub : ∀ (ι' : List Addr) (S' : Store) a, Oq ι1 S1 B a → Oq ι' S' (Oq ι1 S1 B) a := fun ι' S' a z => .inr z
    have free : ∀ {H' : Hp} {ι' : List Addr} {S' : Store} {m : Nat} {o : Ob} {a : Addr}, Go [] [] H1 ι' S' H' → S'[m]? = some o → o ≠ Ob.dead → ι'[m]? = some a → ¬ Oq ι1 S1 B a := fun G em hd ha => by
      refine R1.free ?_
      rcases G.own _ ⟨_, _, em, hd, ha⟩ with ⟨m', o, z, _⟩ | z
      · simp at z
      · exact z
    cases e1 : df us [] with
    | ok u S' =>
      rw [e1] at h1
      cases u with
      | v w =>
        intro v H' ι' G R' r
        obtain ⟨R2, G2⟩ := R1.all (key H' ι' S' G)
        exact h1 v H' ι1 G2 R2 (Rp.kind he (Rp.less (sub ι' S') r))
      | o m =>
        simp only at h1
        intro v H' ι' G R' r
        obtain ⟨R2, G2⟩ := R1.all (key H' ι' S' G)
        obtain ⟨a, ha, rfl⟩ := r
        split at h1
        · rename_i l em
          obtain ⟨vs, q3, q4⟩ := R'.lst em ha
          refine h1 (.ref a) H' ι1 G2 R2 (Rp.mkLst ⟨q3, free G em (fun z => nomatch z) ha⟩ ⟨q4.1, fun i w v w1 w2 => Rp.kind he (Rp.less (sub ι' S') (q4.2 i w v w1 w2))⟩)
        · rename_i l em
          obtain ⟨vs, q3, q4⟩ := R'.dct em ha
          refine h1 (.ref a) H' ι1 G2 R2 (Rp.mkDct ⟨.inl q3, free G em (fun z => nomatch z) ha⟩ ⟨q4.1, fun i w v w1 w2 => Rp.kind he (Rp.less (sub ι' S') (q4.2.1 i w v w1 w2)), fun i w v w1 w2 => Rp.kind he (Rp.less (sub ι' S') (q4.2.2 i w v w1 w2))⟩)
        · exact h1.elim
    | ex c S' =>
      rw [e1] at h1
      intro H' ι' G R'
      obtain ⟨R2, G2⟩ := R1.all (key H' ι' S' G)
      have z := h1 H' ι1 G2 R2
      have ee : (⟨K, w, ec2⟩ : Fx).ec c = (⟨K, w, ec⟩ : Fx).ec c := congrFun he c
      rw [ee]
      exact z
    | no => rw [e1] at h1; exact h1
  · exact h1.elim
theorem ev_fnP (h : HasG X.prog X.w X.K X.mg X.base ec2 x k n df) (hr : RoomG k X.A) (hg : Gl X x) (ha : PAv ec X (e :: es) das)
    (hdb : (x == ("__debug__" : Str)) = false := by decide) (he : starEach (e :: es) X.env = (false, eval e X.env) :: starEach es X.env := by rfl) (hpl : (backTo pos (starEach es X.env)).any (·.1) = false := by rfl) (he2 : ec2.f = ec.f := by rfl) : PEv ec X (.Call (.Name x p) (e :: es) [] pos) (dFnP df n das) := by
  obtain ⟨f, fd, ps, F, hm, hk, hb⟩ := h
  refine ⟨fun pn xe Wx tk => PE.imp (t := tCallS (spD (fx ec2 X) df n) (WE Wx) (LA (fx ec X) Wx das)) ⟨fun pins s σ H Q I h => ?_⟩ fun σ H Q h => fnP_reads he2 h⟩
  apply wpAny_Call_Name_kw
  apply ld_glob (X := X.tr pn xe) I hg hm _ hdb
  apply PySem.W.callWith_K (h₀ := X.base) I.ok.mod.kin hk _ he hpl
  apply thn ((ha.run pn xe Wx tk).run pos pins s σ H _ I h)
  rintro us s1 ⟨xs, H1, I1, r, q⟩
  exact ⟨I1.kIn, call_G (X := X.tr pn xe) F hr hb (passAt tk σ) I1 r q⟩
end
end Bel

namespace Bel
open PySem PySem.Spec PyProof.Rows L2 LamX
section
variable {ec : Ec} {X : Cx} {e a b o i o2 i2 : Expr} {rest : List Expr} {pos p p2 pt : Pos} {da db dc dd df dg : DE}
end
end Bel

namespace Bel
open PySem PySem.Spec PyProof.Rows L2
def rInDT (K : PySem.W.Frag) : R2 := fun x y H Q => ∃ d ds, Dp K H x d ∧ Dp K H y (.tuple ds) ∧ SeqAt.shaped d = true ∧ SeqAt.shaped (.tuple ds) = true ∧ Q (.bl (ds.any fun z => PyData.eqv z d)) H
theorem op_inDT {X : Cx} (hu : X.A.units + 65 < cLine) : OpR X (compareOp .In) (rInDT X.K) := by
  intro pins s σ H x y v u Q I rx ry h
  obtain ⟨d, ds, hd, he, sd, se, q⟩ := h
  obtain ⟨as, r1⟩ := Dp.reads I d x v hd rx
  obtain ⟨bs, r2⟩ := Dp.reads I (.tuple ds) y u he ry
  exact SeqAt.in_tuple_reads r2 r1 (SeqAt.canLay_of_shaped se) (SeqAt.canLay_of_shaped sd) (room_in_shaped sd hu) ⟨.bl _, H, I, rfl, q⟩
def fInD : W → W → Option Out
  | x, .tup l => if shp 64 x = true ∧ shps 63 l = true then some (.val (.bl (l.any fun y => eqD y x))) else none
  | _, _ => none
theorem ow_inD {F : Fx} : OpW F fInD (rInDT F.K) := by
  intro H O x y w z o Q rx ry e q
  cases z with
  | tup l =>
    simp only [fInD] at e
    split at e
    · rename_i hc
      cases some_inj e
      have hs : shp 64 (.tup l) = true := by simpa [shp] using hc.2
      obtain ⟨h1, h2⟩ := rt_shaped hc.1 rx
      obtain ⟨h3, h4⟩ := rt_shaped hs ry
      simp only [toD] at h3 h4
      refine ⟨_, _, h1, h3, h2, h4, ?_⟩
      rw [any_toD]
      exact q _ (.bl _)
    · cases e
  | _ => simp [fInD] at e
end Bel

namespace Bel
open PySem PySem.Spec PyProof.Rows L2 LamX
/-- kinds of object that are handed over so -/
def okOb : Ob → Bool
  | .lst _ => true
  | .dct _ => true
  | .scr _ => true
  | _ => false
section
variable {K : PySem.W.Frag} {w : World} {e1 e2 : Ec} {H H' : Hp} {ι ι' : List Addr} {S S' : Store} {B : Addr → Prop}
theorem RpL.kind (he : e1.f = e2.f) {O : Addr → Prop} {ws : List W} {vs : List V} (r : RpL ⟨K, w, e1⟩ H O ws vs) : RpL ⟨K, w, e2⟩ H O ws vs := ⟨r.1, fun i w v h1 h2 => Rp.kind he (r.2 i w v h1 h2)⟩
theorem RpD.kind (he : e1.f = e2.f) {O : Addr → Prop} {ws : List (W × W)} {vs : List (Key × V)} (r : RpD ⟨K, w, e1⟩ H O ws vs) : RpD ⟨K, w, e2⟩ H O ws vs :=
  ⟨r.1, fun i w v h1 h2 => Rp.kind he (r.2.1 i w v h1 h2), fun i w v h1 h2 => Rp.kind he (r.2.2 i w v h1 h2)⟩
theorem RpD.less2 {F : Fx} {O O' : Addr → Prop} (h : ∀ a, O' a → O a) {ws : List (W × W)} {vs : List (Key × V)} (r : RpD F H O ws vs) : RpD F H O' ws vs :=
  r.ext (fun _ _ h _ => h) fun a z => .inl (h a z)
/-- such an object, seen by the other kind with fewer owned -/
theorem ob_kind (he : e1.f = e2.f) {ι2 : List Addr} {O O' : Addr → Prop} (h : ∀ a, O' a → O a) {a : Addr} {o : Ob} (hk : okOb o = true) (r : ObR ⟨K, w, e1⟩ ι H O a o) : ObR ⟨K, w, e2⟩ ι2 H O' a o := by
  cases o with
  | lst ws => obtain ⟨vs, e, r⟩ := r; exact ⟨vs, e, RpL.kind he (r.less h)⟩
  | dct ws => obtain ⟨vs, e, r⟩ := r; exact ⟨vs, e, RpD.kind he (r.less2 h)⟩
  | scr ws => obtain ⟨vs, ho, e, d, r⟩ := r; exact ⟨vs, ho, e, d, RpL.kind he (r.less h)⟩
  | _ => cases hk
end
section
variable {ec ec2 : Ec} {X : Cx} {e : Expr} {es : List Expr} {pos p : Pos} {das : DA} {df : DF} {n k : Nat} {x : Str}
end
def borQ (S : Store) : U → Option U
  | .v w => some (.v w)
  | .o n => match S[n]? with
    | some (.dct l) => some (.v (.dct l))
    | some (.lst l) => some (.v (.lst l))
    | _ => none
def borsQ (S : Store) : List U → Option (List U)
  | [] => some []
  | u :: r => match borQ S u, borsQ S r with
    | some x, some xs => some (x :: xs)
    | _, _ => none
def dFnQ (f : DF) (n : Nat) (a : DA) : DE := fun e S => (a e S).bind fun us S1 => if us.length = n then (match borsQ S1 us with
    | some ws => match f ws [] with
      | .ok (.v w) _ => if ndW w = true then .ok (.v w) S1 else .no
      | .ex c _ => .ex c S1
      | _ => .no
    | none => .no) else .no
theorem dFnQ_ap (f : DF) (n : Nat) (a : DA) (e : Env') (S : Store) : dFnQ f n a e S = (a e S).bind fun us S1 => if us.length = n then (match borsQ S1 us with
    | some ws => match f ws [] with
      | .ok (.v w) _ => if ndW w = true then .ok (.v w) S1 else .no
      | .ex c _ => .ex c S1
      | _ => .no
    | none => .no) else .no := Eq.trans rfl rfl
section
variable {K : PySem.W.Frag} {w : World} {e1 e2 : Ec} {H H' : Hp} {ι : List Addr} {S : Store} {B : Addr → Prop}
theorem rs_lentQ (R : RS ⟨K, w, e1⟩ ι S B H) (us : List U) : RS ⟨K, w, e2⟩ [] [] (lent ι S B us) H := by
  refine ⟨rfl, .nil, fun n o a h => by simp at h, fun a h => ⟨?_, by simp⟩⟩
  rcases h.1 with z | z
  · exact R.tracked z
  · exact (R.hid a z).1
theorem borQ_rp (he : e1.f = e2.f) (R : RS ⟨K, w, e1⟩ ι S B H) {us0 : List U} {u x : U} {v : V} (hu : u ∈ us0) (r : RU ⟨K, w, e1⟩ H ι S B u v) (h : borQ S u = some x) : RU ⟨K, w, e2⟩ H [] [] (lent ι S B us0) x v := by
  have less : ∀ a, Oq [] [] (lent ι S B us0) a → Oq ι S B a := fun a z => (oq_nil z).1
  cases u with
  | v w => cases h; exact Rp.kind he (Rp.less less r)
  | o n =>
    obtain ⟨a, ha, rfl⟩ := r
    simp only [borQ] at h
    split at h
    · rename_i l e1
      cases h
      obtain ⟨kvs, hH, rl⟩ := R.dct e1 ha
      exact Rp.mkDct ⟨.inl hH, fun z => (oq_nil z).2 n hu ha⟩ (RpD.kind he (rl.less2 less))
    · rename_i l e1
      cases h
      obtain ⟨vs, hH, rl⟩ := R.lst e1 ha
      exact Rp.mkLst ⟨hH, fun z => (oq_nil z).2 n hu ha⟩ (RpL.kind he (rl.less less))
    · cases h
theorem borsQ_rp (he : e1.f = e2.f) (R : RS ⟨K, w, e1⟩ ι S B H) {us0 : List U} : ∀ {us : List U} {vs : List V} {xs : List U}, (∀ u ∈ us, u ∈ us0) → RUs ⟨K, w, e1⟩ H ι S B us vs → borsQ S us = some xs → RUs ⟨K, w, e2⟩ H [] [] (lent ι S B us0) xs vs ∧ xs.length = us.length
  | _, _, _, _, .nil, h => by cases h; exact ⟨.nil, rfl⟩
  | u :: us, _, xs, hu, .cons r t, h => by
    unfold borsQ at h
    cases e1 : borQ S u with
    | none => simp [e1] at h
    | some x =>
      cases e2 : borsQ S us with
      | none => simp [e1, e2] at h
      | some ys =>
        simp [e1, e2] at h
        subst h
        obtain ⟨q1, q2⟩ := borsQ_rp he R (fun u hu' => hu u (List.mem_cons_of_mem _ hu')) t e2
        exact ⟨.cons (borQ_rp he R (hu u List.mem_cons_self) r e1) q1, by simp [q2]⟩
theorem borsQ_ob (S : Store) : ∀ {us ws : List U} {n : Nat}, borsQ S us = some ws → U.o n ∈ us → (∃ l, S[n]? = some (.dct l)) ∨ ∃ l, S[n]? = some (.lst l)
  | u :: us, ws, n, h, hm => by
    unfold borsQ at h
    cases e1 : borQ S u with
    | none => simp [e1] at h
    | some x =>
      cases e2 : borsQ S us with
      | none => simp [e1, e2] at h
      | some ys =>
        rcases List.mem_cons.mp hm with rfl | hm
        · simp only [borQ] at e1
          split at e1
          · exact .inl ⟨_, by assumption⟩
          · exact .inr ⟨_, by assumption⟩
          · cases e1
        · exact borsQ_ob S e2 hm
theorem nd_rpQ {F : Fx} {O O' : Addr → Prop} (hx : ∀ a, O' a → ¬ O a → (∃ kvs, H a = some (.dK kvs)) ∨ ∃ vs, H a = some (.lst vs)) {w : W} {v : V} (r : Rp F H O w v) : ndW w = true → Rp F H O' w v := by
  induction r with
  | non => exact fun _ => .non
  | bl b => exact fun _ => .bl b
  | int i => exact fun _ => .int i
  | str x h1 h2 => exact fun _ => .str x h1 h2
  | tup h hl hs ih =>
    intro hn
    rw [ndW] at hn
    refine .tup ?_ hl fun i w v e1 e2 => ih i w v e1 e2 (ndWs_get hn e1)
    rcases h with ⟨⟨o, h, hd⟩, n⟩ | h
    · refine .inl ⟨⟨o, h, hd⟩, fun z => ?_⟩
      rcases hx _ z n with ⟨kvs, q⟩ | ⟨vs, q⟩ <;> · rw [h] at q; cases q
    · exact .inr h
  | _ => intro hn; simp [ndW] at hn
end
section
variable {ec ec2 : Ec} {X : Cx} {e : Expr} {es : List Expr} {pos p : Pos} {das : DA} {df : DF} {n k : Nat} {x : Str}
theorem fnQ_reads {K : PySem.W.Frag} {w : World} (he : ec2.f = ec.f) {Wx : WX} {σ : L2.St} {H : Hp} {Q : VK} (h : LE ⟨K, w, ec⟩ Wx (dFnQ df n das) σ H Q) : tCallS (spD ⟨K, w, ec2⟩ df n) (WE Wx) (LA ⟨K, w, ec⟩ Wx das) σ H Q := by
  obtain ⟨env, S, ι, B, R, E, h⟩ := h
  refine LA.then_ R E h fun us S1 xs H1 ι1 G1 R1 E1 ru h1 => ?_
  split at h1
  · rename_i hn
    split at h1
    · rename_i ws eb
      obtain ⟨q1, q2⟩ := borsQ_rp he.symm R1 (fun u hu => hu) ru eb
      refine ⟨ws, [], [], lent ι1 S1 B us, rs_lentQ R1 us, q1, q2.trans hn, ?_⟩
      have key : ∀ (H' : Hp) (ι' : List Addr) (S' : Store), Go [] [] H1 ι' S' H' → ∀ a y, H1 a = some y → H' a = some y := fun H' ι' S' G a y e => G.ext a y e fun ⟨m, o, z, _⟩ => by simp at z
      have lens : ∀ (H' : Hp) (ι' : List Addr) (S' : Store), Go [] [] H1 ι' S' H' → ∀ a, Oq ι1 S1 B a → ¬ Oq ι' S' (lent ι1 S1 B us) a → (∃ kvs, H' a = some (.dK kvs)) ∨ ∃ vs, H' a = some (.lst vs) := fun H' ι' S' G a z nz => by
        have nl : ¬ lent ι1 S1 B us a := fun q => nz (.inr q)
        obtain ⟨m, hm, em⟩ : ∃ m, U.o m ∈ us ∧ ι1[m]? = some a := by
          apply Classical.byContradiction
          intro q
          exact nl ⟨z, fun m hm em => q ⟨m, hm, em⟩⟩
        rcases borsQ_ob S1 eb hm with ⟨l, hl⟩ | ⟨l, hl⟩
        · obtain ⟨kvs, e1, _⟩ := R1.ob m _ a hl em
          exact .inl ⟨kvs, key H' ι' S' G a _ e1⟩
        · obtain ⟨kvs, e1, _⟩ := R1.ob m _ a hl em
          exact .inr ⟨kvs, key H' ι' S' G a _ e1⟩
      cases e1 : df ws [] with
      | ok u S' =>
        rw [e1] at h1
        cases u with
        | o m => exact h1.elim
        | v w =>
          simp only at h1
          split at h1
          · rename_i hp
            intro v H' ι' G R' r
            obtain ⟨R2, G2⟩ := R1.all (key H' ι' S' G)
            exact h1 v H' ι1 G2 R2 (nd_rpQ (lens H' ι' S' G) (Rp.kind he r) hp)
          · exact h1.elim
      | ex c S' =>
        rw [e1] at h1
        intro H' ι' G R'
        obtain ⟨R2, G2⟩ := R1.all (key H' ι' S' G)
        have z := h1 H' ι1 G2 R2
        have ee : (⟨K, w, ec2⟩ : Fx).ec c = (⟨K, w, ec⟩ : Fx).ec c := congrFun he c
        rw [ee]
        exact z
      | no => rw [e1] at h1; exact h1
    · exact h1.elim
  · exact h1.elim
theorem ev_fnQ (h : HasG X.prog X.w X.K X.mg X.base ec2 x k n df) (hr : RoomG k X.A) (hg : Gl X x) (ha : PAv ec X (e :: es) das)
    (hdb : (x == ("__debug__" : Str)) = false := by decide) (he : starEach (e :: es) X.env = (false, eval e X.env) :: starEach es X.env := by rfl) (hpl : (backTo pos (starEach es X.env)).any (·.1) = false := by rfl) (he2 : ec2.f = ec.f := by rfl) : PEv ec X (.Call (.Name x p) (e :: es) [] pos) (dFnQ df n das) := by
  obtain ⟨f, fd, ps, F, hm, hk, hb⟩ := h
  refine ⟨fun pn xe Wx tk => PE.imp (t := tCallS (spD (fx ec2 X) df n) (WE Wx) (LA (fx ec X) Wx das)) ⟨fun pins s σ H Q I h => ?_⟩ fun σ H Q h => fnQ_reads he2 h⟩
  apply wpAny_Call_Name_kw
  apply ld_glob (X := X.tr pn xe) I hg hm _ hdb
  apply PySem.W.callWith_K (h₀ := X.base) I.ok.mod.kin hk _ he hpl
  apply thn ((ha.run pn xe Wx tk).run pos pins s σ H _ I h)
  rintro us s1 ⟨xs, H1, I1, r, q⟩
  exact ⟨I1.kIn, call_G (X := X.tr pn xe) F hr hb (passAt tk σ) I1 r q⟩
end
section
variable {ec : Ec} {X : Cx} {e : Expr} {pos p : Pos} {da : DE}
end
section
variable {ec ec2 : Ec} {X : Cx} {pos p : Pos} {df : DF} {k : Nat} {x : Str}
end
end Bel

namespace Bel
open PySem PySem.Spec PyProof.Rows L2
section
variable {M : Model} {A : Around} {E : Value → Shared → Prop} {s : Shared} {Z : Obj → Prop} {base : Heap} {env : Env} {outer : List Env} {L C e : Addr}
end
section
variable {X : Cx} {scope : Scope} {ce : Env} {fp : List Addr} {s3 : Shared} {H3 : Hp} {pins : List (Addr × Obj)} {σ : L2.St} {Wx : WX}
end
section
variable {X : Cx}
end
section
variable {ec : Ec} {X : Cx} {elt tg iter : Expr} {ifs : List Expr} {pos : Pos} {tt : DT} {te : DE} {scope : Scope}
end
end Bel

namespace Bel
open PySem PySem.Spec PyProof.Rows L2 LamX
section
variable {X : Cx} {ret : DS} {d : DE} {k n : Nat} {mk q x qual : Str} {params lparams : Arguments} {body : Expr} {scope sg : Scope} {p lpos pos : Pos} {a ca er : Str} {ns : List Str} {p4 p5 p6 p7 p8 p9 p10 p11 p12 p13 p14 lpos' pos' : Pos} {j2 : Nat} {rest : List Stmt} {fa : List He.Fa} {fn : List He.DefD} {kc : List Con'}
end
end Bel

namespace Bel
open PySem PySem.Spec PyProof.Rows L2
section
variable {ec : Ec} {X : Cx} {e e2 : Expr} {da db : DE} {p pos tpos : Pos} {elts : List Expr} {kk : Nat}
end
end Bel

namespace Bel
open PySem PySem.Spec PyProof.Rows L2
section
variable {ec : Ec} {X : Cx} {e a b o i o2 i2 : Expr} {rest : List Expr} {pos p p2 pt : Pos} {da db dc dd df dg : DE}
end
theorem max_tup {prog : Program} {w : World} {A : Around} {E : Value → Shared → Prop} {s : Shared} {l : Addr} {its : List Value} {ns : List Int} {Q : Value → Shared → Prop} (hh : A.handled = none) (hl : s.heap.IsTuple l its.toArray) (hi : IntsAre its ns) (hne : 0 < ns.length)
    (h : ∀ h' tk M t', (∀ b o, s.heap.get? b = some o → h'.get? b = some o) → M ∈ ns → (∀ a, a ∈ ns → a ≤ M) → Q (.int M t') { s with heap := h', toks := tk }) : wpAny (model prog w) A (call (.builtin "max") [.ref l]) Q E s := by
  obtain ⟨xs, e⟩ := hi.allInts.items
  have hn : numsOf (intItems xs).toList = ns := by rw [← e]; exact hi.numsOf
  rw [nums_intItems] at hn
  subst hn
  rw [e] at hl
  have hsz : 0 < xs.size := by simpa using hne
  have hlt : l < s.heap.objs.size := by obtain ⟨_, e, _⟩ := hl; exact Heap.lt_size e
  refine call_max_walk (wpAny_pyIter_tuple hl ?_)
  refine ⟨_, _, _, _, _, _, _, rfl, Walks.tuple (A := A.in1) hh s.heap.objs.size l (Nat.ne_of_lt hlt) (intItems xs), ⟨⟨_, Heap.get?_push_size _ rfl, rfl, rfl⟩, Heap.IsTuple.push hl _⟩, fun b hb => ?_, by simpa [intItems] using hsz, CmpOf.ints_gt (numAt xs) (fun _ _ => intItems_at), fun v h' tk hv hk => ?_⟩
  · show b < (s.heap.push _).objs.size
    rw [Heap.size_push]
    simp only [List.mem_cons, List.not_mem_nil, or_false] at hb
    rcases hb with rfl | rfl
    · exact Nat.lt_succ_self _
    · exact Nat.lt_succ_of_lt hlt
  · have hv : (intItems xs)[argBest (fun i j => decide (numAt xs i > numAt xs j)) (xs.size - 1)]? = some v := by simpa [intItems] using hv
    obtain ⟨t, rfl⟩ := intItems_at hv
    obtain ⟨h1, h2⟩ := argBest_gt (numAt xs) (xs.size - 1)
    refine h h' tk _ t (fun b o e => hk b o (fun hm => ?_) (Heap.get?_push_of_some _ e)) ?_ fun a ha => ?_
    · have : b = s.heap.objs.size := by simpa using hm
      exact absurd (this ▸ Heap.lt_size e) (Nat.lt_irrefl _)
    · rw [numAt_eq]; exact PySem.getD_mem (by rw [List.length_map, Array.length_toList]; omega)
    · obtain ⟨j, hj, rfl⟩ := mem_getD ha
      rw [List.length_map, Array.length_toList] at hj
      rw [← numAt_eq]; exact h2 j (by omega)
def rMaxT (K : PySem.W.Frag) : List V → Hp → VK → Prop := fun vs H Q => ∃ (a : Addr) (ns : List Int), vs = [V.ref a] ∧ SqT K H a (ns.map V.int) ∧ 0 < ns.length ∧ ∀ m, m ∈ ns → (∀ y, y ∈ ns → y ≤ m) → Q (.int m) H
theorem cr_maxT {X : Cx} (hc : X.calm = true) : CallR X (.builtin "max") (rMaxT X.K) := by
  intro pins s σ H vs us Q I r h
  obtain ⟨a, ns, rfl, hs, hne, q⟩ := h
  obtain ⟨its, rv, hl, _⟩ := I.tuple hs
  rw [Vals.ref1 r]
  exact max_tup (I.ok.hd hc) (show s.heap.IsTuple a its.toArray from hl) rv.ints hne fun h' tk m t' hk h1 h2 => ⟨.int _, H, I.kept hk, ⟨_, rfl⟩, q m h1 h2⟩
def fMaxT : List W → Option Out
  | [.tup l] => match intsW l with
    | some (i :: r) => some (.val (.int (maxI i r)))
    | _ => none
  | _ => none
theorem oc_maxT {F : Fx} : OpC F fMaxT (rMaxT F.K) := by
  refine oc1 (fun ws o e => ?_) fun H O x w o Q r e q => ?_
  · unfold fMaxT at e
    split at e <;> first | exact ⟨_, rfl⟩ | cases e
  · cases w with
    | tup l =>
      have e' : (match intsW l with | some (i :: r) => some (Out.val (.int (maxI i r))) | _ => none) = some o := e
      split at e'
      · rename_i i r' hn
        cases e'
        obtain ⟨a, vs, rfl, h1, rl⟩ := Rp.tup_inv r
        have := ints_rp rl hn
        subst this
        refine ⟨a, i :: r', rfl, h1.sq, by simp, fun m hm hall => ?_⟩
        have h2 := maxI_ge r' i
        have e2 : m = maxI i r' := by
          refine Int.le_antisymm ?_ (hall _ (maxI_mem r' i))
          rcases List.mem_cons.mp hm with rfl | hm
          · exact h2.1
          · exact h2.2 _ hm
        rw [e2]
        exact q _ (.int _)
      · cases e'
    | _ => cases e
end Bel

namespace Bel
open PySem PySem.Spec PyProof.Rows L2
open Builtin Builtin.Str in
section
open Builtin Builtin.Str
end
structure PSvT (ec : Ec) (X : Cx) (st : Stmt) (d : DS) : Prop where
  run : ∀ (pn : List (Addr × Obj)) (xe : Value → Shared → Prop) (Wx : WX), Takes (X.tr pn xe) Wx → PassesOwn (model X.prog X.w) X.A X.env xe → PST (X.tr pn xe) st (LS (fx ec X) Wx d)
structure PSsvT (ec : Ec) (X : Cx) (st : List Stmt) (d : DS) : Prop where
  run : ∀ (pn : List (Addr × Obj)) (xe : Value → Shared → Prop) (Wx : WX), Takes (X.tr pn xe) Wx → PassesOwn (model X.prog X.w) X.A X.env xe → PSsT (X.tr pn xe) st (LS (fx ec X) Wx d)
section
variable {ec : Ec} {X : Cx} {e o : Expr} {es : List Expr} {st : Stmt} {rest : List Stmt} {pos pos' apos cpos p0 p1 p2 : Pos} {da db : DE} {das : DA} {ds dt : DS}
theorem PSvT.of (h : PSv ec X st ds) : PSvT ec X st ds := ⟨fun pn xe Wx tk po => PST.of (h.run pn xe Wx tk po)⟩
theorem PSsvT.of (h : PSsv ec X rest ds) : PSsvT ec X rest ds := ⟨fun pn xe Wx tk po => PSsT.of (h.run pn xe Wx tk po)⟩
end
end Bel

namespace Bel
open PySem PySem.Spec PyProof.Rows L2
section
variable {ec : Ec} {X : Cx} {o e : Expr} {td ty : TE} {apos cpos : Pos} {da db : DE}
end
end Bel

namespace Bel
open PySem PySem.Spec PyProof.Rows L2
theorem zip_look {f : Str} : ∀ {at_ : List Str} {vs : List V} {i : Nat} {v : V}, at_.Nodup → at_[i]? = some f → vs[i]? = some v → (at_.zip vs).lookup f = some v
  | [], _, _, _, _, h, _ => by simp at h
  | _ :: _, [], _, _, _, _, h => by simp at h
  | g :: at_, x :: vs, 0, v, nd, h1, h2 => by
    simp at h1 h2
    subst h1 h2
    simp [List.lookup]
  | g :: at_, x :: vs, i + 1, v, nd, h1, h2 => by
    have ih := zip_look (i := i) (v := v) (List.nodup_cons.mp nd).2 (by simpa using h1) (by simpa using h2)
    have hm : f ∈ at_ := List.mem_of_getElem? (by simpa using h1)
    have ne : f ≠ g := fun e => (List.nodup_cons.mp nd).1 (e ▸ hm)
    have : (f == g) = false := by simpa using ne
    rw [List.zip_cons_cons, List.lookup_cons, this]
    exact ih
theorem zip_set {f : Str} {y : V} : ∀ {at_ : List Str} {vs : List V} {i : Nat}, at_.Nodup → at_[i]? = some f → i < vs.length → putF f y (at_.zip vs) = at_.zip (vs.set i y)
  | [], _, _, _, h, _ => by simp at h
  | _ :: _, [], _, _, _, h => by simp at h
  | g :: at_, x :: vs, 0, nd, h1, _ => by
    simp at h1
    subst h1
    simp [putF]
  | g :: at_, x :: vs, i + 1, nd, h1, h2 => by
    have ih := zip_set (y := y) (vs := vs) (i := i) (List.nodup_cons.mp nd).2 (by simpa using h1) (by simpa using h2)
    have hm : f ∈ at_ := List.mem_of_getElem? (by simpa using h1)
    have ne : g ≠ f := fun e => (List.nodup_cons.mp nd).1 (e ▸ hm)
    rw [List.zip_cons_cons, List.set_cons_succ, List.zip_cons_cons, ← ih]
    show (if g = f then _ else _) = _
    rw [if_neg ne]
theorem zip_put {f : Str} {y : V} : ∀ {at_ : List Str} {vs : List V}, at_.Nodup → at_[vs.length]? = some f → putF f y (at_.zip vs) = at_.zip (vs ++ [y])
  | [], _, _, h => by simp at h
  | g :: at_, [], nd, h => by
    simp at h
    subst h
    simp [putF]
  | g :: at_, x :: vs, nd, h1 => by
    have h1' : at_[vs.length]? = some f := by simpa using h1
    have ih := zip_put (y := y) (vs := vs) (List.nodup_cons.mp nd).2 h1'
    have hm : f ∈ at_ := List.mem_of_getElem? h1'
    have ne : g ≠ f := fun e => (List.nodup_cons.mp nd).1 (e ▸ hm)
    rw [List.zip_cons_cons, List.cons_append, List.zip_cons_cons, ← ih]
    show (if g = f then _ else _) = _
    rw [if_neg ne]
theorem zip_no {f : Str} : ∀ {at_ : List Str} {vs : List V}, f ∉ at_ → (at_.zip vs).lookup f = none
  | [], _, _ => by simp
  | _ :: _, [], _ => by simp
  | g :: at_, x :: vs, h => by
    have ih := zip_no (vs := vs) (fun z => h (List.mem_cons_of_mem _ z))
    have ne : f ≠ g := fun e => h (e ▸ List.mem_cons_self)
    have : (f == g) = false := by simpa using ne
    rw [List.zip_cons_cons, List.lookup_cons, this]
    exact ih
section
variable {F : Fx} {ι : List Addr} {H : Hp} {O : Addr → Prop} {us : List U} {vs : List V}
theorem RUL.get (r : RUL F ι H O us vs) {i : Nat} {u : U} (h : us[i]? = some u) : ∃ v, vs[i]? = some v ∧ RUo F ι H O u v := by
  have hi : i < vs.length := by rw [← r.1]; exact (List.getElem?_eq_some_iff.mp h).1
  exact ⟨vs[i], by simp [hi], r.2 i u vs[i] h (by simp [hi])⟩
theorem RUL.set (r : RUL F ι H O us vs) (i : Nat) {u : U} {v : V} (h : RUo F ι H O u v) : RUL F ι H O (us.set i u) (vs.set i v) := by
  refine ⟨by simp [r.1], fun j x y hx hy => ?_⟩
  rw [List.getElem?_set] at hx hy
  split at hx
  · split at hx
    · split at hy
      · split at hy
        · cases hx; cases hy; exact h
        · cases hy
      · rename_i a b c; exact absurd a c
    · cases hx
  · rename_i a
    rw [if_neg a] at hy
    exact r.2 j x y hx hy
theorem RUL.nil : RUL F ι H O [] [] := ⟨rfl, fun i u v h => by simp at h⟩
end
def dFld (c : Cl) (i : Nat) (a : DE) : DE := fun e S => (a e S).bind fun u S1 => match u with
  | .o n => match S1[n]? with
    | some (.ru (.ins c') us) => if c' = c then (match us[i]? with
      | some y => .ok y S1
      | none => .no) else .no
    | _ => .no
  | .v _ => .no
/-- what of the text a class's attribute must have -/
structure AtG (K : PySem.W.Frag) (c : Cl) (i : Nat) (f : Str) : Prop where
  cls : L2.Cls K (He.ga K c.name)
  no : L2.NoAttr K (He.ga K c.name) f
  at_ : c.at_[i]? = some f
  nd : c.at_.Nodup
  few : c.at_.length < 1000
theorem at_zl {c : Cl} {vs : List V} : (c.at_.zip vs).length ≤ c.at_.length := by rw [List.length_zip]; omega
section
variable {ec : Ec} {X : Cx} {o e : Expr} {es : List Expr} {f m : Str} {pos pos' apos : Pos} {da db dv : DE} {das : DA} {c : Cl} {i n k : Nat} {df : DF}
theorem ev_fld (A : AtG X.K c i f) (h : PEv ec X e da) (hb : attributeBase e f X.env (eval e X.env) = eval e X.env := by rfl) : PEv ec X (.Attribute e f pos) (dFld c i da) :=
  ⟨fun pn xe Wx tk => (pe_fld (X := X.tr pn xe) (h.run pn xe Wx tk) hb).imp fun σ H Q ⟨env, S, ι, B, R, E, h⟩ => LE.then_ R E h fun u S1 v H1 ι1 G1 R1 E1 ru h1 => by
    cases u with
    | v w => exact h1.elim
    | o n =>
      obtain ⟨a, ha, rfl⟩ := ru
      simp only at h1
      split at h1
      · rename_i c' us e1
        split at h1
        · rename_i hc
          subst hc
          split at h1
          · rename_i y e2
            obtain ⟨vs, ⟨hl, dx, q1⟩, r⟩ := R1.ru e1 ha
            obtain ⟨v, hv, rv⟩ := r.get e2
            exact ⟨a, _, dx, _, v, rfl, q1, A.cls, A.no, zip_look A.nd A.at_ hv, h1 v H1 ι1 .refl R1 rv.u⟩
          · exact h1.elim
        · exact h1.elim
      · exact h1.elim⟩
def putU (i : Nat) (us : List U) (y : U) : Option (List U) := if i < us.length then some (us.set i y) else if i = us.length then some (us ++ [y]) else none
def dSetF (c : Cl) (i : Nat) (a b : DE) : DS := fun e S => (b e S).st e fun y S1 => (a e S1).st e fun u S2 => match u with
  | .o n => match S2[n]? with
    | some (.ru (.ins c') us) => if c' = c then (match putU i us y with
      | some us' => .ok (.nx e) (S2.set n (.ru (.ins c) us'))
      | none => .no) else .no
    | _ => .no
  | .v _ => .no
theorem putU_ok {F : Fx} {ι : List Addr} {H : Hp} {O : Addr → Prop} {us us' : List U} {vs : List V} {y : U} {v : V} (r : RUL F ι H O us vs) (ry : RUo F ι H O y v) (h : putU i us y = some us') (hl : vs.length ≤ c.at_.length) (hi : c.at_[i]? = some f) (nd : c.at_.Nodup) :
    ∃ vs', RUL F ι H O us' vs' ∧ putF f v (c.at_.zip vs) = c.at_.zip vs' ∧ vs'.length ≤ c.at_.length := by
  have hi2 : i < c.at_.length := (List.getElem?_eq_some_iff.mp hi).1
  unfold putU at h
  split at h
  · rename_i hlt
    cases h
    exact ⟨vs.set i v, r.set i ry, zip_set nd hi (by rw [← r.1]; exact hlt), by simpa using hl⟩
  · split at h
    · rename_i h1 h2
      cases h
      have e : vs.length = i := by rw [← r.1]; exact h2.symm
      subst e
      exact ⟨vs ++ [v], r.snoc ry, zip_put nd hi, by simp; omega⟩
    · cases h
theorem sv_fld (A : AtG X.K c i f) (ho : PEv ec X o da) (hv : PEv ec X e db) (hs : swapsWith e (some (.Attribute o f pos')) pos.line X.env = pure false := by rfl) : PSv ec X (.Assign [.Attribute o f pos'] e pos) (dSetF c i da db) :=
  ⟨fun pn xe Wx tk po => (ps_fld (X := X.tr pn xe) (ho.run pn xe Wx tk) (hv.run pn xe Wx tk) hs).imp fun D σ H ⟨env, S, ι, B, R, E, h⟩ => LE.thenS R E h fun y S1 v H1 ι1 G1 R1 E1 ry h1 =>
    LE.thenS R1 E1 h1 fun u S2 x H2 ι2 G2 R2 E2 ru h2 => by
      cases u with
      | v w => exact h2.elim
      | o n =>
        obtain ⟨a, ha, rfl⟩ := ru
        simp only at h2
        split at h2
        · rename_i c' us e1
          split at h2
          · rename_i hc
            subst hc
            split at h2
            · rename_i us' e2
              obtain ⟨vs, ⟨hl, dx, q1⟩, r⟩ := R2.ru e1 ha
              obtain ⟨vs', r', ep, hl'⟩ := putU_ok r (RU.go G2 ry).uo e2 hl A.at_ A.nd
              refine ⟨a, _, dx, _, rfl, q1, A.cls, A.no, Nat.lt_of_le_of_lt at_zl A.few, ?_⟩
              rw [ep]
              obtain ⟨R3, G3⟩ := R2.setRu (k' := .ins c') (us' := us') (vs' := vs') (ho := .ins (He.ga X.K c'.name) dx (c'.at_.zip vs')) e1 ha (fun _ => ⟨hl', dx, upd_same⟩) r'
              exact h2 _ _ ι2 G3 R3 (E2.go G3)
            · exact h2.elim
          · exact h2.elim
        · exact h2.elim⟩
def dAugF (c : Cl) (i : Nat) (f : W → W → Option Out) (a b : DE) : DS := fun e S => (a e S).st e fun u S1 => match u with
  | .o n => match S1[n]? with
    | some (.ru (.ins c') us) => if c' = c then (match us[i]? with
      | some (.v x) => (b e S1).st e fun y S2 => match dr S2 y with
        | some y => match f x y with
          | some (.val z) => match S2[n]? with
            | some (.ru (.ins c2) us2) => if c2 = c then (match putU i us2 (.v z) with
              | some us' => .ok (.nx e) (S2.set n (.ru (.ins c) us'))
              | none => .no) else .no
            | _ => .no
          | _ => .no
        | none => .no
      | _ => .no) else .no
    | _ => .no
  | .v _ => .no
theorem sv_augF {op : Operator} {g : W → W → Option Out} {r : R2} {tpos : Pos} (A : AtG X.K c i f) (ho : PEv ec X o da) (hv : PEv ec X e db) (hop : ∀ pn xe, OpR (X.tr pn xe) (inplaceOp op) r) (hg : OpW (fx ec X) g r) : PSv ec X (.AugAssign (.Attribute o f tpos) op e pos) (dAugF c i g da db) :=
  ⟨fun pn xe Wx tk po => (ps_fldaug (X := X.tr pn xe) (rd := r) (ho.run pn xe Wx tk) (hv.run pn xe Wx tk) (fun pins s σ H x y v u Q I rx ry h => hop pn xe pins s σ H x y v u Q I rx ry h)).imp fun D σ H ⟨env, S, ι, B, R, E, h⟩ => LE.thenS R E h fun u S1 x H1 ι1 G1 R1 E1 ru h1 => by
    cases u with
    | v w => exact h1.elim
    | o n =>
      obtain ⟨a, ha, rfl⟩ := ru
      simp only at h1
      split at h1
      · rename_i c' us e1
        split at h1
        · rename_i hc
          subst hc
          split at h1
          · rename_i w e2
            obtain ⟨vs, ⟨hl, dx, q1⟩, r1⟩ := R1.ru e1 ha
            obtain ⟨v, hv, rv⟩ := r1.get e2
            refine ⟨a, _, dx, _, v, rfl, q1, A.cls, A.no, zip_look A.nd A.at_ hv, LE.thenS R1 E1 h1 fun y S2 yv H2 ι2 G2 R2 E2 ry h2 => ?_⟩
            split at h2
            · rename_i y' e3
              split at h2
              · rename_i z e4
                split at h2
                · rename_i c2 us2 e5
                  split at h2
                  · rename_i hc2
                    subst hc2
                    split at h2
                    · rename_i us' e6
                      have ha2 : ι2[n]? = some a := by
                        obtain ⟨t, rfl⟩ := G2.pre
                        rw [List.getElem?_append_left (List.getElem?_eq_some_iff.mp ha).1]
                        exact ha
                      obtain ⟨vs2, ⟨hl2, dx2, q2⟩, r2⟩ := R2.ru e5 ha2
                      refine hg H2 _ v yv w y' (.val z) _ (RU.rt R2 (RU.go G2 (u := .v w) rv) rfl) (RU.rt R2 ry e3) e4 fun v2 rz => ?_
                      obtain ⟨vs', r', ep, hl'⟩ := putU_ok r2 (y := .v z) rz e6 hl2 A.at_ A.nd
                      refine ⟨dx2, _, q2, Nat.lt_of_le_of_lt at_zl A.few, ?_⟩
                      rw [ep]
                      obtain ⟨R3, G3⟩ := R2.setRu (k' := .ins c2) (us' := us') (vs' := vs') (ho := .ins (He.ga X.K c2.name) dx2 (c2.at_.zip vs')) e5 ha2 (fun _ => ⟨hl', dx2, upd_same⟩) r'
                      exact h2 _ _ ι2 G3 R3 (E2.go G3)
                    · exact h2.elim
                  · exact h2.elim
                · exact h2.elim
              · exact h2.elim
            · exact h2.elim
          · exact h1.elim
        · exact h1.elim
      · exact h1.elim⟩
def HasM (P : Program) (w : World) (K : PySem.W.Frag) (mg : Str → Option Value) (base : Heap) (ec : Ec) (c : Cl) (m : Str) (k n : Nat) (d : DF) : Prop :=
  ∃ (fd : FuncData) (ps : List Str), FnG P w K mg base k (He.ma K (He.ga K c.name) m) fd ps (spD ⟨K, w, ec⟩ d n) ∧ L2.Cls K (He.ga K c.name) ∧ L2.Meth K (He.ga K c.name) m (He.ma K (He.ga K c.name) m) ∧ Binds K fd ps [] ∧ m ∉ c.at_
theorem HasM.mono {P : Program} {w : World} {K : PySem.W.Frag} {mg : Str → Option Value} {base : Heap} {ec : Ec} {c : Cl} {m : Str} {j k n : Nat} {d : DF} (h : HasM P w K mg base ec c m j n d) (hk : j ≤ k) : HasM P w K mg base ec c m k n d := by
  obtain ⟨fd, ps, h1, h2⟩ := h
  exact ⟨fd, ps, h1.mono hk, h2⟩
def dMc (c : Cl) (f : DF) (n : Nat) (a : DE) (as : DA) : DE := fun e S => (a e S).bind fun u S1 => match u with
  | .o q => match S1[q]? with
    | some (.ru (.ins c') _) => if c' = c then (as e S1).bind fun us S2 => if us.length + 1 = n then f (.o q :: us) S2 else .no else .no
    | _ => .no
  | .v _ => .no
theorem mc_reads {K : PySem.W.Frag} {w : World} {Wx : WX} {σ : L2.St} {H : Hp} {Q : VK} (nm : m ∉ c.at_) (h : LE ⟨K, w, ec⟩ Wx (dMc c df n da das) σ H Q) :
    LE ⟨K, w, ec⟩ Wx da σ H fun x H1 => ∃ a dx fs, x = .ref a ∧ H1 a = some (.ins (He.ga K c.name) dx fs) ∧ fs.lookup m = none ∧ LA ⟨K, w, ec⟩ Wx das σ H1 fun vs H2 => spD ⟨K, w, ec⟩ df n (x :: vs) H2 Q (WE Wx σ) := by
  obtain ⟨env, S, ι, B, R, E, h⟩ := h
  refine LE.then_ R E h fun u S1 v H1 ι1 G1 R1 E1 ru h1 => ?_
  cases u with
  | v w => exact h1.elim
  | o q =>
    obtain ⟨a, ha, rfl⟩ := ru
    simp only at h1
    split at h1
    · rename_i c' us e1
      split at h1
      · rename_i hc
        subst hc
        obtain ⟨vs, ⟨hl, dx, q1⟩, r⟩ := R1.ru e1 ha
        refine ⟨a, dx, _, rfl, q1, zip_no nm, LA.then_ R1 E1 h1 fun us S2 xs H2 ι2 G2 R2 E2 rus h2 => ?_⟩
        split at h2
        · rename_i hn
          have ha2 : ι2[q]? = some a := by
            obtain ⟨t, rfl⟩ := G2.pre
            rw [List.getElem?_append_left (List.getElem?_eq_some_iff.mp ha).1]
            exact ha
          refine ⟨.o q :: us, S2, ι2, B, R2, .cons ⟨a, ha2, rfl⟩ rus, by simpa using hn, ?_⟩
          cases e3 : df (.o q :: us) S2 with
          | ok u S' => rw [e3] at h2; exact h2
          | ex c S' => rw [e3] at h2; exact h2
          | no => rw [e3] at h2; exact h2
        · exact h2.elim
      · exact h1.elim
    · exact h1.elim
theorem ev_mc {pl : Sem Bool} (h : HasM X.prog X.w X.K X.mg X.base ec c m k n df) (hr : RoomG k X.A) (ho : PEv ec X o da) (ha : PAv ec X (e :: es) das)
    (hst : starEach (e :: es) X.env = (false, eval e X.env) :: starEach es X.env := by rfl) (hpl : (backTo pos (starEach es X.env)).any (·.1) = false := by rfl)
    (ht : eval (.Call (.Attribute o m apos) (e :: es) [] pos) X.env = (do
      let ov ← eval o X.env
      standAt apos.atName
      let (f, first) ← holding [ov] (getMethod ov m pl)
      callWith pos f first (backTo pos (starEach (e :: es) X.env)) (backToKw pos (keywordEach [] X.env))) := by rfl) : PEv ec X (.Call (.Attribute o m apos) (e :: es) [] pos) (dMc c df n da das) := by
  obtain ⟨fd, ps, F, cc, hm, hb, nm⟩ := h
  refine ⟨fun pn xe Wx tk => PE.imp (t := fun σ H Q => LE (fx ec X) Wx da σ H fun x H1 => ∃ a dx fs, x = .ref a ∧ H1 a = some (.ins (He.ga X.K c.name) dx fs) ∧ fs.lookup m = none ∧ LA (fx ec X) Wx das σ H1 fun vs H2 => spD (fx ec X) df n (x :: vs) H2 Q (WE Wx σ))
    ⟨fun pins s σ H Q I h => ?_⟩ fun σ H Q h => mc_reads nm h⟩
  refine PySem.W.methodCall_KW (pl := pl) (thn ((ho.run pn xe Wx tk).run pins s σ H _ I h) fun u s1 ⟨x, H1, I1, rx, a, dx, fs, ex, ea, l, q⟩ => ?_) ht
  subst ex
  obtain rfl : u = Value.ref a := rx
  refine getmeth_ok I1 ea cc hm l ?_
  refine PySem.W.callWith_K (first := [.ref a]) (h₀ := X.base) I.ok.mod.kin hm.kp (thn ((ha.run pn xe Wx tk).run pos pins s1 σ H1 _ I1 q) fun us s2 ⟨vs, H2, I2, r, q2⟩ => ⟨I2.kIn, ?_⟩) hst hpl
  exact call_G (X := X.tr pn xe) (us := .ref a :: us) (xs := .ref a :: vs) F hr hb (passAt tk σ) I2 (.cons rfl r) q2
end
end Bel

namespace Bel
open PySem PySem.Spec PyProof.Rows L2 LamX
theorem RoomG.make {k : Nat} {A : Around} (h : RoomG (k + 1) A) (C : Addr) (us : List Value) (kw : List (Str × Value)) : RoomG k (A.under (.builtin "type.__call__" ⟨.ref C :: us, kw⟩)) := ⟨h.r.make C us kw, h.g⟩
def HasK (P : Program) (w : World) (K : PySem.W.Frag) (mg : Str → Option Value) (base : Heap) (ec : Ec) (c : Cl) (k n : Nat) (d : DF) : Prop :=
  ∃ (fd : FuncData) (ps : List Str), FnG P w K mg base k (He.ma K (He.ga K c.name) "__init__") fd ps (spD ⟨K, w, ec⟩ d (n + 1)) ∧ Mk K (He.ga K c.name) (He.ma K (He.ga K c.name) "__init__") ∧ mg c.name = some (.ref (He.ga K c.name)) ∧ Binds K fd ps []
theorem HasK.mono {P : Program} {w : World} {K : PySem.W.Frag} {mg : Str → Option Value} {base : Heap} {ec : Ec} {c : Cl} {j k n : Nat} {d : DF} (h : HasK P w K mg base ec c j n d) (hk : j ≤ k) : HasK P w K mg base ec c k n d := by
  obtain ⟨fd, ps, h1, h2⟩ := h
  exact ⟨fd, ps, h1.mono hk, h2⟩
def dMk (c : Cl) (f : DF) (n : Nat) (as : DA) : DE := fun e S => (as e S).bind fun us S1 => if us.length = n then (match f (.o S1.length :: us) (S1 ++ [.ru (.ins c) []]) with
    | .ok (.v .non) S2 => .ok (.o S1.length) S2
    | .ex x S2 => .ex x S2
    | _ => .no) else .no
section
variable {X : Cx} {pins : List (Addr × Obj)} {σ : L2.St} {H : Hp} {s : Shared} {Q : VK} {E : L2.St → XK} {us : List Value} {vs : List V} {k : Nat} {C f : Addr} {fd : FuncData} {ps : List Str} {sp : Sp}
theorem make_G (M : Mk X.K C f) (F : FnG X.prog X.w X.K X.mg X.base k f fd ps sp) (hr : RoomG (k + 1) X.A) (hb : Binds X.K fd ps []) (hx : PassesAt (L2.CX X.prog X.w) X σ (E σ)) (I : Inv X pins σ H s) (r : Vals vs us)
    (h : ∀ x dx, H x = none → H dx = none → dx ≠ x → sp (.ref x :: vs) (upd (upd H dx (.own x)) x (.ins C dx [])) (fun v H2 => v = .non ∧ Q (.ref x) H2) (E σ)) :
    wpAny (model X.prog X.w) X.A (PySem.call (.ref C) us) (EP X pins σ Q) X.xe s := by
  have hq := h (s.heap.objs.size + 1) s.heap.objs.size (I.hok.fresh (Nat.le_succ _)) (I.hok.fresh (Nat.le_refl _)) (Nat.ne_of_lt (Nat.lt_succ_self _))
  have I2 := Inv.made (C := C) I
  have r2 : Vals (V.ref (s.heap.objs.size + 1) :: vs) (Value.ref (s.heap.objs.size + 1) :: us) := .cons rfl r
  have hl : (Value.ref (s.heap.objs.size + 1) :: us).length = ps.length := by
    have e := r2.length
    rw [F.len _ _ _ _ hq] at e
    exact e.symm
  have bi := hb { s with heap := (s.heap.push PySem.W.emptyDict).push (PySem.W.instObj C s.heap.objs.size) } (Value.ref (s.heap.objs.size + 1) :: us) I2.kIn (by simpa using hl)
  simp only [List.append_nil] at bi
  refine wpAny_call (make_map (f := f) I.kIn M.makes M.init (beq_iff_eq.mp M.fn) (codeAny_mono (F.go _ X.stack _ _ ⟨Value.ref (s.heap.objs.size + 1) :: us, []⟩ _ _ _ (E σ) (hr.make C us []) (I2.env0.make C us []) bi r2 hq) fun r s' hq' => ?_))
  match r, hq' with
  | .error e, hq' => exact hx pins _ _ e s' I2 hq'
  | .ok (.ret u), hq' =>
    obtain ⟨v, H', I3, rv, ev, q3⟩ := I2.after hq'
    subst ev
    exact ⟨rv, ⟨V.ref (s.heap.objs.size + 1), H', I3, rfl, q3⟩⟩
  | .ok .next, hq' => cases hq'
  | .ok .brk, hq' => cases hq'
  | .ok .cont, hq' => cases hq'
end
section
variable {ec : Ec} {X : Cx} {o e i k v : Expr} {es : List Expr} {f m x : Str} {pos p apos cpos : Pos} {da db dc dk dv : DE} {das : DA} {c : Cl} {n j : Nat} {df : DF}
theorem mk_reads {K : PySem.W.Frag} {w : World} (hf : ec.rf = true) {Wx : WX} {σ : L2.St} {H : Hp} {Q : VK} (h : LE ⟨K, w, ec⟩ Wx (dMk c df n das) σ H Q) :
    LA ⟨K, w, ec⟩ Wx das σ H fun vs H1 => ∀ x dx, H1 x = none → H1 dx = none → dx ≠ x → spD ⟨K, w, ec⟩ df (n + 1) (.ref x :: vs) (upd (upd H1 dx (.own x)) x (.ins (He.ga K c.name) dx [])) (fun v H2 => v = .non ∧ Q (.ref x) H2) (WE Wx σ) := by
  obtain ⟨env, S, ι, B, R, E, h⟩ := h
  refine LA.then_ R E h fun us S1 vs H1 ι1 G1 R1 E1 rus h1 => ?_
  intro x dx hx hdx hne
  split at h1
  · rename_i hn
    obtain ⟨R2, G2, _⟩ := R1.fresh (.own x) hdx
    have hx2 : upd H1 dx (.own x) x = none := by rw [upd_ne (Ne.symm hne)]; exact hx
    obtain ⟨R3, G3⟩ := R2.newRu hf (k := .ins c) (us := []) (vs := []) (ho := .ins (He.ga K c.name) dx []) hx2 ⟨Nat.zero_le _, dx, by rw [upd_same]; simp⟩ .nil
    have G4 := G2.trans G3
    have hs : (ι1 ++ [x])[S1.length]? = some x := by rw [← R1.len]; simp
    have rus2 : RUs ⟨K, w, ec⟩ (upd (upd H1 dx (.own x)) x (.ins (He.ga K c.name) dx [])) (ι1 ++ [x]) (S1 ++ [.ru (.ins c) []]) B (.o S1.length :: us) (.ref x :: vs) := .cons ⟨x, hs, rfl⟩ (RUs.go G4 rus)
    refine ⟨.o S1.length :: us, S1 ++ [.ru (.ins c) []], ι1 ++ [x], B, R3, rus2, by simp [hn], ?_⟩
    cases e1 : df (.o S1.length :: us) (S1 ++ [.ru (.ins c) []]) with
    | ok u S' =>
      rw [e1] at h1
      intro v H' ι' G R' ru
      have G5 := G4.trans G
      have hs' : ι'[S1.length]? = some x := by
        obtain ⟨t, rfl⟩ := G.pre
        rw [List.getElem?_append_left (List.getElem?_eq_some_iff.mp hs).1]; exact hs
      cases u with
      | o q => exact h1.elim
      | v w =>
        cases w with
        | non =>
          have : v = V.non := by
            have r : Rp _ _ _ W.non v := ru
            cases r; rfl
          exact ⟨this, h1 _ H' ι' G5 R' ⟨x, hs', rfl⟩⟩
        | _ => exact h1.elim
    | ex c S' =>
      rw [e1] at h1
      intro H' ι' G R'
      exact h1 H' ι' (G4.trans G) R'
    | no => rw [e1] at h1; exact h1.elim
  · exact h1.elim
theorem ev_mk (hf : ec.rf = true) (h : HasK X.prog X.w X.K X.mg X.base ec c j n df) (hr : RoomG (j + 1) X.A) (hg : Gl X c.name) (ha : PAv ec X (e :: es) das)
    (hdb : (c.name == ("__debug__" : Str)) = false := by decide) (he : starEach (e :: es) X.env = (false, eval e X.env) :: starEach es X.env := by rfl) (hpl : (backTo pos (starEach es X.env)).any (·.1) = false := by rfl) :
    PEv ec X (.Call (.Name c.name p) (e :: es) [] pos) (dMk c df n das) := by
  obtain ⟨fd, ps, F, M, hm, hb⟩ := h
  refine ⟨fun pn xe Wx tk => PE.imp (t := fun σ H Q => LA (fx ec X) Wx das σ H fun vs H1 => ∀ x dx, H1 x = none → H1 dx = none → dx ≠ x → spD (fx ec X) df (n + 1) (.ref x :: vs) (upd (upd H1 dx (.own x)) x (.ins (He.ga X.K c.name) dx [])) (fun v H2 => v = .non ∧ Q (.ref x) H2) (WE Wx σ))
    ⟨fun pins s σ H Q I h => ?_⟩ fun σ H Q h => mk_reads hf h⟩
  apply wpAny_Call_Name_kw
  apply ld_glob (X := X.tr pn xe) I hg hm _ hdb
  refine PySem.W.callWith_K (h₀ := X.base) I.ok.mod.kin M.kp (thn ((ha.run pn xe Wx tk).run pos pins s σ H _ I h) fun us s1 ⟨vs, H1, I1, r, q⟩ => ⟨I1.kIn, ?_⟩) he hpl
  exact make_G (X := X.tr pn xe) M F hr hb (passAt tk σ) I1 r q
theorem ev_mk0 (hf : ec.rf = true) (h : HasK X.prog X.w X.K X.mg X.base ec c j 0 df) (hr : RoomG (j + 1) X.A) (hg : Gl X c.name) (hdb : (c.name == ("__debug__" : Str)) = false := by decide) :
    PEv ec X (.Call (.Name c.name p) [] [] pos) (dMk c df 0 dNil) := by
  obtain ⟨fd, ps, F, M, hm, hb⟩ := h
  refine ⟨fun pn xe Wx tk => PE.imp (t := fun σ H Q => LA (fx ec X) Wx dNil σ H fun vs H1 => ∀ x dx, H1 x = none → H1 dx = none → dx ≠ x → spD (fx ec X) df 1 (.ref x :: vs) (upd (upd H1 dx (.own x)) x (.ins (He.ga X.K c.name) dx [])) (fun v H2 => v = .non ∧ Q (.ref x) H2) (WE Wx σ))
    ⟨fun pins s σ H Q I h => ?_⟩ fun σ H Q h => mk_reads hf h⟩
  apply wpAny_Call_Name_kw
  apply ld_glob (X := X.tr pn xe) I hg hm _ hdb
  obtain ⟨env, S, ι, B, R, E, q⟩ := h
  exact PySem.W.callWith_K0 I.kIn M.kp (make_G (X := X.tr pn xe) (us := []) (vs := []) M F hr hb (passAt tk σ) I .nil (q [] H ι .refl R .nil))
end
section
variable {P : Program} {w : World} {K : PySem.W.Frag} {mg : Str → Option Value} {base : Heap} {ec : Ec} {fa : List He.Fa} {fn : List He.DefD} {kc : List Con'}
theorem Hd.methX_ (Z : Hd K mg fa fn kc) (i j1 j2 : Nat) {c : Cl} {m qual : Str} {params : Arguments} {body : List Stmt} {scope : Scope} {N ps : List Str} {k n nl : Nat} {d : DS}
    (h : fn[i]? = some ⟨(c.name, some m), m, qual, params, body, scope, [], []⟩) (h1 : fa[j1]? = some (.cls c.name)) (h2 : fa[j2]? = some (.meth c.name m)) (Sc : FnScope N ps scope) (hn : ps.length = n) (hnl : N.length = nl)
    (hbi : ∀ (kV doc pm : Value) (an : Option Addr) (cdv ct : Value) (us : List Value), us.length = ps.length → bindArgs (PySem.W.fnOf m qual params body scope .none kV doc pm an cdv ct) ⟨us, []⟩ = pure (ps.zip us))
    (hb : ∀ (f : Addr) (cdv : Value) (A : Around) (fs : List Env) (s : Shared) (H : Hp) (E : XK), RoomG k (A.deeper (envOfC qual scope s.heap.objs.size f cdv)) →
      PSsv ec (cxOf (L2.CX P w) P w K mg base N qual scope f cdv A fs s H E) body d) (nm : m ∉ c.at_ := by decide +kernel) : HasM P w K mg base ec c m (k + 1) n (fnX nl d) := by
  obtain ⟨fd, F⟩ := Z.says.def_ i h
  exact ⟨fd, ps, defX (P := P) (w := w) (mg := mg) (base := base) F Sc hn hnl fun cdv A fs s H E hr => hb _ cdv A fs s H E hr, He.cls_ok (Z.says.fact j1 h1), He.meth_ok (Z.says.fact j2 h2), F.bindsN hbi, nm⟩
theorem Hd.initX_ (Z : Hd K mg fa fn kc) (i j1 j2 : Nat) {c : Cl} {qual : Str} {params : Arguments} {body : List Stmt} {scope : Scope} {N ps : List Str} {k n nl : Nat} {d : DS}
    (h : fn[i]? = some ⟨(c.name, some "__init__"), "__init__", qual, params, body, scope, [], []⟩) (h1 : fa[j1]? = some (.glo c.name)) (h2 : fa[j2]? = some (.mkr c.name)) (Sc : FnScope N ps scope) (hn : ps.length = n + 1) (hnl : N.length = nl)
    (hbi : ∀ (kV doc pm : Value) (an : Option Addr) (cdv ct : Value) (us : List Value), us.length = ps.length → bindArgs (PySem.W.fnOf "__init__" qual params body scope .none kV doc pm an cdv ct) ⟨us, []⟩ = pure (ps.zip us))
    (hb : ∀ (f : Addr) (cdv : Value) (A : Around) (fs : List Env) (s : Shared) (H : Hp) (E : XK), RoomG k (A.deeper (envOfC qual scope s.heap.objs.size f cdv)) →
      PSsv ec (cxOf (L2.CX P w) P w K mg base N qual scope f cdv A fs s H E) body d) : HasK P w K mg base ec c (k + 1) n (fnX nl d) := by
  obtain ⟨fd, F⟩ := Z.says.def_ i h
  exact ⟨fd, ps, defX (P := P) (w := w) (mg := mg) (base := base) F Sc hn hnl fun cdv A fs s H E hr => hb _ cdv A fs s H E hr, He.mkr_ok (Z.says.fact j2 h2), Z.gl _ (Z.says.fact j1 h1), F.bindsN hbi⟩
theorem Hd.atG (Z : Hd K mg fa fn kc) (j1 j2 : Nat) {c : Cl} {i : Nat} {f : Str} (h1 : fa[j1]? = some (.cls c.name)) (h2 : fa[j2]? = some (.noat c.name f)) (h3 : c.at_[i]? = some f := by rfl) (nd : c.at_.Nodup := by decide +kernel) (few : c.at_.length < 1000 := by decide) : AtG K c i f :=
  ⟨He.cls_ok (Z.says.fact j1 h1), He.noat_ok (Z.says.fact j2 h2), h3, nd, few⟩
end
end Bel

namespace Bel
open PySem PySem.Spec PyProof.Rows L2 LamX
def lookKU (k : List Int) : List (List Int) → List U → Option U
  | k' :: ks, u :: us => if k' = k then some u else lookKU k ks us
  | _, _ => none
def putKU (k : List Int) (u : U) (ks : List (List Int)) (us : List U) : List (List Int) × List U :=
  if (lookKU k ks us).isSome = true then (ks, List.zipWith (fun k' x => if k' = k then u else x) ks us) else (ks ++ [k], us ++ [u])
section
variable {F : Fx} {ι : List Addr} {H : Hp} {O : Addr → Prop} {a b : Addr} {vs : List V} {r : Value}
theorem find_parU (k : List Int) : ∀ {ks : List (List Int)} {xs : List (List Int × Addr × Value)} {us : List U} {vs : List V}, ks.length = xs.length → us.length = xs.length → vs.length = xs.length →
    (∀ (i : Nat) (k' : List Int) (x : List Int × Addr × Value), ks[i]? = some k' → xs[i]? = some x → x.1 = k') →
    (∀ (i : Nat) (v : V) (x : List Int × Addr × Value), vs[i]? = some v → xs[i]? = some x → RelV v x.2.2) →
    (∀ (i : Nat) (u : U) (v : V), us[i]? = some u → vs[i]? = some v → RUo F ι H O u v) →
    (atKey xs k = none ∧ lookKU k ks us = none) ∨ ∃ p u v, atKey xs k = some p ∧ lookKU k ks us = some u ∧ RelV v p.2 ∧ RUo F ι H O u v
  | [], [], _, _, _, _, _, _, _, _ => .inl ⟨rfl, rfl⟩
  | _ :: _, [], _, _, h1, _, _, _, _, _ => by simp at h1
  | [], _ :: _, _, _, h1, _, _, _, _, _ => by simp at h1
  | _ :: _, _ :: _, [], _, _, h2, _, _, _, _ => by simp at h2
  | _ :: _, _ :: _, _ :: _, [], _, _, h3, _, _, _ => by simp at h3
  | k' :: ks, x :: xs, u :: us, v :: vs, h1, h2, h3, hk, hr, hs => by
    have e0 := hk 0 k' x rfl rfl
    unfold atKey lookKU
    rw [List.find?_cons, e0]
    by_cases q : k' = k
    · rw [decide_eq_true q, if_pos q]
      exact .inr ⟨_, _, v, rfl, rfl, hr 0 v x rfl rfl, hs 0 u v rfl rfl⟩
    · rw [decide_eq_false q, if_neg q]
      exact find_parU k (by simpa using h1) (by simpa using h2) (by simpa using h3) (fun i a b p q => hk (i + 1) a b (by simpa using p) (by simpa using q)) (fun i a b p q => hr (i + 1) a b (by simpa using p) (by simpa using q)) (fun i a b p q => hs (i + 1) a b (by simpa using p) (by simpa using q))
variable {ks : List (List Int)} {xs : List (List Int × Addr × Value)} {us : List U} {k : List Int} {u : U} {v : V}
theorem TdZ.sq (T : TdZ F H O a ks xs vs) : ∀ x ∈ xs, SqT F.K H x.2.1 (x.1.map V.int) := fun x hx => by
  obtain ⟨i, hi⟩ := List.mem_iff_getElem?.mp hx
  obtain ⟨hlt, _⟩ := List.getElem?_eq_some_iff.mp hi
  have hlw : i < ks.length := by rw [T.l1]; exact hlt
  obtain ⟨e, f⟩ := T.keys i _ x (List.getElem?_eq_getElem hlw) hi
  rw [e]
  exact f.sq
theorem TdZ.look (T : TdZ F H O a ks xs vs) (q : RUL F ι H O us vs) (k : List Int) : (atKey xs k = none ∧ lookKU k ks us = none) ∨ ∃ p u v, atKey xs k = some p ∧ lookKU k ks us = some u ∧ RelV v p.2 ∧ RUo F ι H O u v :=
  find_parU k T.l1 (by rw [q.1, T.l2]) T.l2 (fun i k' x h1 h2 => (T.keys i k' x h1 h2).1) T.rel q.2
theorem TdZ.isS (T : TdZ F H O a ks xs vs) (q : RUL F ι H O us vs) (k : List Int) : (lookKU k ks us).isSome = (atKey xs k).isSome := by
  rcases T.look q k with ⟨e1, e2⟩ | ⟨p, w, v, e1, e2, _⟩ <;> rw [e1, e2] <;> rfl
theorem TdZ.put (T : TdZ F H O a ks xs vs) (q : RUL F ι H O us vs) (fb : FTup F H O b (k.map V.int)) (hw : RUo F ι H O u v) (hr : RelV v r) : ∃ vs' : List V,
    (putKU k u ks us).1.length = (storedH xs k b r).length ∧ vs'.length = (storedH xs k b r).length ∧
    (∀ (i : Nat) (k' : List Int) (x : List Int × Addr × Value), (putKU k u ks us).1[i]? = some k' → (storedH xs k b r)[i]? = some x → x.1 = k' ∧ FTup F H O x.2.1 (k'.map V.int)) ∧
    (∀ (i : Nat) (v' : V) (x : List Int × Addr × Value), vs'[i]? = some v' → (storedH xs k b r)[i]? = some x → RelV v' x.2.2) ∧ RUL F ι H O (putKU k u ks us).2 vs' := by
  have l1 := T.l1
  have l2 := T.l2
  have l3 := q.1
  unfold putKU storedH
  rw [T.isS q k]
  by_cases c : (atKey xs k).isSome = true
  · rw [if_pos c, if_pos c]
    refine ⟨List.zipWith (fun k' x => if k' = k then v else x) ks vs, by simp [l1], by simp [l1, l2], fun i k' x h1 h2 => ?_, fun i v' x h1 h2 => ?_, ?_, fun i u' v' h1 h2 => ?_⟩
    · rw [List.getElem?_map] at h2
      obtain ⟨y, hy, rfl⟩ := Option.map_eq_some_iff.mp h2
      obtain ⟨e, f⟩ := T.keys i k' y h1 hy
      unfold putAt
      by_cases c : y.1 = k
      · rw [if_pos c]; exact ⟨e, f⟩
      · rw [if_neg c]; exact ⟨e, f⟩
    · rw [List.getElem?_map] at h2
      obtain ⟨y, hy, rfl⟩ := Option.map_eq_some_iff.mp h2
      rw [List.getElem?_zipWith] at h1
      cases hp : ks[i]? with
      | none => rw [hp] at h1; simp at h1
      | some p =>
        cases hv : vs[i]? with
        | none => rw [hp, hv] at h1; simp at h1
        | some z =>
          rw [hp, hv] at h1
          simp at h1
          obtain ⟨e, f⟩ := T.keys i p y hp hy
          have rl := T.rel i z y hv hy
          unfold putAt
          by_cases c : p = k
          · rw [if_pos c] at h1
            rw [if_pos (by rw [e]; exact c), ← h1]; exact hr
          · rw [if_neg c] at h1
            rw [if_neg (by rw [e]; exact c), ← h1]; exact rl
    · simp [l3]
    · rw [List.getElem?_zipWith] at h1 h2
      cases hp : ks[i]? with
      | none => rw [hp] at h1; simp at h1
      | some p =>
        cases hu : us[i]? with
        | none => rw [hp, hu] at h1; simp at h1
        | some y =>
          cases hv : vs[i]? with
          | none => rw [hp, hv] at h2; simp at h2
          | some z =>
            rw [hp, hu] at h1
            rw [hp, hv] at h2
            simp at h1 h2
            have rl := q.2 i y z hu hv
            by_cases c : p = k
            · rw [if_pos c] at h1 h2
              rw [← h1, ← h2]; exact hw
            · rw [if_neg c] at h1 h2
              rw [← h1, ← h2]; exact rl
  · rw [if_neg c, if_neg c]
    have snoc : ∀ {α β : Type} {R : α → β → Prop} {l : List α} {m : List β} {x : α} {y : β}, l.length = m.length → (∀ (i : Nat) p q, l[i]? = some p → m[i]? = some q → R p q) → R x y → ∀ (i : Nat) p q, (l ++ [x])[i]? = some p → (m ++ [y])[i]? = some q → R p q := by
      intro α β R l m x y hl hR hxy i p q h1 h2
      by_cases hi : i < l.length
      · rw [List.getElem?_append_left hi] at h1
        rw [List.getElem?_append_left (by omega)] at h2
        exact hR i p q h1 h2
      · rw [List.getElem?_append_right (by omega)] at h1 h2
        rw [hl] at h1
        cases e : i - m.length with
        | zero => rw [e] at h1 h2; simp at h1 h2; subst h1 h2; exact hxy
        | succ n => rw [e] at h1; simp at h1
    exact ⟨vs ++ [v], by simp [l1], by simp [l2], snoc (R := fun (k' : List Int) (x : List Int × Addr × Value) => x.1 = k' ∧ FTup F H O x.2.1 (k'.map V.int)) l1 T.keys ⟨rfl, fb⟩, snoc (R := fun (v' : V) (x : List Int × Addr × Value) => RelV v' x.2.2) l2 T.rel hr, q.snoc hw⟩
end
/-- k in d -/
def dInR (neg : Bool) (a b : DE) : DE := fun e S => (a e S).bind fun x S1 => (b e S1).bind fun u S2 => match x, u with
  | .v (.tup l), .o n => match S2[n]?, intsW l with
    | some (.ru (.td ks) us), some k => .ok (.v (.bl (if neg then !(lookKU k ks us).isSome else (lookKU k ks us).isSome))) S2
    | _, _ => .no
  | _, _ => .no
/-- d[k] -/
def dIxK (a b : DE) : DE := fun e S => (a e S).bind fun u S1 => (b e S1).bind fun x S2 => match u, x with
  | .o n, .v (.tup l) => match S2[n]?, intsW l with
    | some (.ru (.td ks) us), some k => match lookKU k ks us with
      | some y => .ok y S2
      | none => .no
    | _, _ => .no
  | _, _ => .no
/-- d.get(k) -/
def dGetR (a b : DE) : DE := fun e S => (a e S).bind fun u S1 => match u with
  | .o n => match S1[n]? with
    | some (.ru (.td _) _) => (b e S1).bind fun x S2 => match x with
      | .v (.tup l) => match S2[n]?, intsW l with
        | some (.ru (.td ks) us), some k => .ok ((lookKU k ks us).getD (.v .non)) S2
        | _, _ => .no
      | _ => .no
    | _ => .no
  | _ => .no
/-- d[k] = v -/
def dSetK (o i v : DE) : DS := fun e S => (v e S).st e fun y S1 => (o e S1).st e fun u S2 => (i e S2).st e fun x S3 => match u, x with
  | .o n, .v (.tup l) => match S3[n]?, intsW l with
    | some (.ru (.td ks) us), some k => if ks.length < 16777216 then .ok (.nx e) (S3.set n (.ru (.td (putKU k y ks us).1) (putKU k y ks us).2)) else .no
    | _, _ => .no
  | _, _ => .no
/-- x is None -/
def nonU : U → Bool
  | .v w => isNon w
  | .o _ => false
theorem nonU_v {F : Fx} {H : Hp} {ι : List Addr} {S : Store} {B : Addr → Prop} {u : U} {v : V} (R : RS F ι S B H) (r : RU F H ι S B u v) : nonU u = decide (v = .non) := by
  cases u with
  | v w => exact isNon_v (RU.rt R r rfl)
  | o n => obtain ⟨aa, _, rfl⟩ := r; rfl
def dIsU (neg : Bool) (a b : DE) : DE := fun e S => (a e S).bind fun u S1 => (b e S1).bind fun v S2 => match v with
  | .v .non => .ok (.v (.bl (if neg then !nonU u else nonU u))) S2
  | _ => .no
section
variable {ec : Ec} {X : Cx} {o i k x e a b : Expr} {do_ dk dx da db dc : DE} {apos cpos pos p : Pos}
theorem inR_reads {F : Fx} {Wx : WX} {σ : L2.St} {H : Hp} {Q : VK} {neg : Bool} (h : LE F Wx (dInR neg da db) σ H Q) : tOp (rInT F.K F.w neg) (LE F Wx da) (LE F Wx db) σ H Q := by
  obtain ⟨env, S, ι, B, R, E, h⟩ := h
  refine LE.then_ R E h fun x S1 y H1 ι1 G1 R1 E1 rx h1 => ?_
  refine LE.then_ R1 E1 h1 fun u S2 z H2 ι2 G2 R2 E2 ru h2 => ?_
  have rx2 := RU.go G2 rx
  split at h2
  · rename_i l n
    obtain ⟨aa, ha, rfl⟩ := ru
    split at h2
    · rename_i ks us kk e1 e2
      obtain ⟨b, rfl, hb, _⟩ := tup_ints (show Rp F H2 _ (.tup l) y from rx2) e2
      obtain ⟨vs, ⟨xs, T⟩, q⟩ := R2.ru e1 ha
      refine ⟨b, aa, kk, xs, rfl, rfl, ⟨hb, T.at_, T.sm, T.sq⟩, ?_⟩
      rw [← T.isS q kk]
      exact h2 _ H2 ι2 .refl R2 (.bl _)
    · exact h2.elim
  · exact h2.elim
theorem ev_inR (hu : X.A.units + 65 < cLine) (ha : PEv ec X a da) (hb : PEv ec X b db) (hm : behindInMarks .In b = false := by rfl) : PEv ec X (.Compare a [.In] [b] pos) (dInR false da db) :=
  ⟨fun pn xe Wx tk => (pe_cmpR (op_inT (X := X.tr pn xe) hu) (ha.run pn xe Wx tk) (hb.run pn xe Wx tk) hm).imp fun σ H Q h => inR_reads h⟩
theorem isU_reads {F : Fx} {Wx : WX} {σ : L2.St} {H : Hp} {Q : VK} (h : LE F Wx (dIsU false da db) σ H Q) : tOp (fun x y H Q => y = .non ∧ Q (.bl (decide (x = .non))) H) (LE F Wx da) (LE F Wx db) σ H Q := by
  obtain ⟨env, S, ι, B, R, E, h⟩ := h
  refine LE.then_ R E h fun u S1 y H1 ι1 G1 R1 E1 ru h1 => ?_
  refine LE.then_ R1 E1 h1 fun x S2 z H2 ι2 G2 R2 E2 rx h2 => ?_
  have ru2 := RU.go G2 ru
  split at h2
  · refine ⟨Rp.non_inv rx, ?_⟩
    rw [← nonU_v R2 ru2]
    exact h2 _ H2 ι2 .refl R2 (.bl _)
  · exact h2.elim
theorem isNU_reads {F : Fx} {Wx : WX} {σ : L2.St} {H : Hp} {Q : VK} (h : LE F Wx (dIsU true da db) σ H Q) : tOp (fun x y H Q => y = .non ∧ Q (.bl (!decide (x = .non))) H) (LE F Wx da) (LE F Wx db) σ H Q := by
  obtain ⟨env, S, ι, B, R, E, h⟩ := h
  refine LE.then_ R E h fun u S1 y H1 ι1 G1 R1 E1 ru h1 => ?_
  refine LE.then_ R1 E1 h1 fun x S2 z H2 ι2 G2 R2 E2 rx h2 => ?_
  have ru2 := RU.go G2 ru
  split at h2
  · refine ⟨Rp.non_inv rx, ?_⟩
    rw [← nonU_v R2 ru2]
    exact h2 _ H2 ι2 .refl R2 (.bl _)
  · exact h2.elim
theorem ev_isNU (ha : PEv ec X a da) (hb : PEv ec X b db) (hm : behindInMarks .IsNot b = false := by rfl) : PEv ec X (.Compare a [.IsNot] [b] pos) (dIsU true da db) :=
  ⟨fun pn xe Wx tk => (pe_cmpR (op_notN (X := X.tr pn xe)) (ha.run pn xe Wx tk) (hb.run pn xe Wx tk) hm).imp fun σ H Q h => isNU_reads h⟩
theorem tv_isU (ha : PEv ec X a da) (hb : PEv ec X b db) (hm : behindInMarks .Is b = false := by rfl) : PTv ec X (.Compare a [.Is] [b] pos) (dT (dIsU false da db)) :=
  ⟨fun pn xe Wx tk => (pt_cmpR (op_isN (X := X.tr pn xe)) (ha.run pn xe Wx tk) (hb.run pn xe Wx tk) hm).imp fun σ H Q h => isU_reads (dT_reads h)⟩
theorem tv_isNU (ha : PEv ec X a da) (hb : PEv ec X b db) (hm : behindInMarks .IsNot b = false := by rfl) : PTv ec X (.Compare a [.IsNot] [b] pos) (dT (dIsU true da db)) :=
  ⟨fun pn xe Wx tk => (pt_cmpR (op_notN (X := X.tr pn xe)) (ha.run pn xe Wx tk) (hb.run pn xe Wx tk) hm).imp fun σ H Q h => isNU_reads (dT_reads h)⟩
theorem ixK_reads {F : Fx} {Wx : WX} {σ : L2.St} {H : Hp} {Q : VK} (h : LE F Wx (dIxK da db) σ H Q) : tOp (rIxT F.K F.w) (LE F Wx da) (LE F Wx db) σ H Q := by
  obtain ⟨env, S, ι, B, R, E, h⟩ := h
  refine LE.then_ R E h fun u S1 y H1 ι1 G1 R1 E1 ru h1 => ?_
  refine LE.then_ R1 E1 h1 fun x S2 z H2 ι2 G2 R2 E2 rx h2 => ?_
  have ru2 := RU.go G2 ru
  split at h2
  · rename_i n l
    obtain ⟨aa, ha, rfl⟩ := ru2
    split at h2
    · rename_i ks us kk e1 e2
      split at h2
      · rename_i w e3
        obtain ⟨b, rfl, hb, _⟩ := tup_ints (show Rp F H2 _ (.tup l) z from rx) e2
        obtain ⟨vs, ⟨xs, T⟩, q⟩ := R2.ru e1 ha
        rcases T.look q kk with ⟨q1, q2⟩ | ⟨p, u, v, q1, q2, q3, q4⟩
        · rw [e3] at q2; cases q2
        · rw [e3] at q2
          cases q2
          exact ⟨b, aa, kk, xs, p, v, rfl, rfl, ⟨hb, T.at_, T.sm, T.sq⟩, q1, q3, h2 _ H2 ι2 .refl R2 q4.u⟩
      · exact h2.elim
    · exact h2.elim
  · exact h2.elim
theorem ev_ixK (hu : X.A.units + 65 < cLine) (ha : PEv ec X a da) (hb : PEv ec X b db) (hs : PlainIx b := by exact fun _ _ => rfl) : PEv ec X (.Subscript a b pos) (dIxK da db) :=
  ⟨fun pn xe Wx tk => (pe_ix (ix_T (X := X.tr pn xe) (by show X.A.units + 1 < cLine; omega)) (ha.run pn xe Wx tk) (hb.run pn xe Wx tk) hs).imp fun σ H Q h => ixK_reads h⟩
theorem ev_getR (hu : X.A.units + 65 < cLine) (ho : PEv ec X o do_) (hk : PEv ec X k dk) (m : ∀ pn xe, M1 (X.tr pn xe) o "get" apos k cpos) : PEv ec X (.Call (.Attribute o "get" apos) [k] [] cpos) (dGetR do_ dk) :=
  ⟨fun pn xe Wx tk => (pe_getT1 (X := X.tr pn xe) (by show X.A.units + 1 < cLine; omega) (ho.run pn xe Wx tk) (hk.run pn xe Wx tk) (m pn xe)).imp fun σ H Q ⟨env, S, ι, B, R, E, h⟩ => by
    refine LE.then_ R E h fun u S1 v H1 ι1 G1 R1 E1 ru h1 => ?_
    split at h1
    · rename_i n
      obtain ⟨aa, ha, rfl⟩ := ru
      split at h1
      · rename_i ks0 us0 e0
        obtain ⟨vs0, ⟨xs0, T0⟩, q0⟩ := R1.ru e0 ha
        refine ⟨aa, xs0, rfl, T0.at_, T0.sm, LE.then_ R1 E1 h1 fun u2 S2 v2 H2 ι2 G2 R2 E2 ru2 h2 => ?_⟩
        split at h2
        · rename_i l
          split at h2
          · rename_i ks us kk e1 e2
            have ha2 : ι2[n]? = some aa := by
              obtain ⟨t, rfl⟩ := G2.pre
              rw [List.getElem?_append_left (List.getElem?_eq_some_iff.mp ha).1]; exact ha
            obtain ⟨vs, ⟨xs, T⟩, q⟩ := R2.ru e1 ha2
            obtain ⟨b, rfl, hb, _⟩ := tup_ints (show Rp (fx ec X) H2 _ (.tup l) v2 from ru2) e2
            refine ⟨b, kk, xs, rfl, ⟨hb, T.at_, T.sm, T.sq⟩, ?_⟩
            rcases T.look q kk with ⟨q1, q2⟩ | ⟨p, w, v, q1, q2, q3, q4⟩
            · rw [q2] at h2
              exact .inl ⟨q1, h2 _ H2 ι2 .refl R2 .non⟩
            · rw [q2] at h2
              exact .inr ⟨p, v, q1, q3, h2 _ H2 ι2 .refl R2 q4.u⟩
          · exact h2.elim
        · exact h2.elim
      · exact h1.elim
    · exact h1.elim⟩
theorem sv_setK {i : Expr} (hu : X.A.units + 65 < cLine) (ho : PEv ec X o da) (hi : PEv ec X i db) (hv : PEv ec X e dc) (hs : swapsWith e (some (.Subscript o i p)) pos.line X.env = pure false := by rfl) : PSv ec X (.Assign [.Subscript o i p] e pos) (dSetK da db dc) :=
  ⟨fun pn xe Wx tk po => (ps_tdput (X := X.tr pn xe) (by show X.A.units + 1 < cLine; omega) (ho.run pn xe Wx tk) (hi.run pn xe Wx tk) (hv.run pn xe Wx tk) hs).imp fun D σ H ⟨env, S, ι, B, R, E, h⟩ =>
    LE.thenS R E h fun uv S1 v H1 ι1 G1 R1 E1 rv h1 => LE.thenS R1 E1 h1 fun uo S2 vo H2 ι2 G2 R2 E2 ro h2 => LE.thenS R2 E2 h2 fun ui S3 vi H3 ι3 G3 R3 E3 ri h3 => by
      have rv3 := RU.go G3 (RU.go G2 rv)
      have ro3 := RU.go G3 ro
      split at h3
      · rename_i n l
        obtain ⟨aa, ha, rfl⟩ := ro3
        split at h3
        · rename_i ks us kk e1 e2
          split at h3
          · rename_i hc
            obtain ⟨vs, ⟨xs, T⟩, q⟩ := R3.ru e1 ha
            obtain ⟨b, rfl, hb, fb⟩ := tup_ints (show Rp (fx ec X) H3 (Oq ι3 S3 B) (.tup l) vi from ri) e2
            refine ⟨aa, b, kk, xs, rfl, rfl, ⟨hb, T.at_, T.sm, T.sq⟩, by rw [← T.l1, sizeLine_is]; omega, fun ob r hr => ?_⟩
            obtain ⟨vs', p1, p2, p3, p4, p5⟩ := T.put q fb rv3.uo hr
            obtain ⟨R4, G4⟩ := R3.setRu (k' := .td (putKU kk uv ks us).1) (us' := (putKU kk uv ks us).2) (vs' := vs') (ho := TdO X.w aa ob (storedH xs kk b r)) e1 ha (fun G => ⟨_, ⟨ob, upd_same⟩, T.sm, p1, p2, fun i w x q1 q2 => ⟨(p3 i w x q1 q2).1, (p3 i w x q1 q2).2.ext G.extq G.ownq⟩, p4⟩) p5
            exact h3 _ _ ι3 G4 R4 (E3.go G4)
          · exact h3.elim
        · exact h3.elim
      · exact h3.elim⟩
end
end Bel

namespace Bel
open PySem PySem.Spec PyProof.Rows L2 LamX
def tDisp1 (K : PySem.W.Frag) (w : World) (tk tv : TE) : TE := fun σ H Q => ∀ p ob, H p = none → (p == sysModules) = false → tPairs [(tk, tv)] σ (upd H p (TdO w p ob [])) fun ps H2 =>
  ∃ (x y : V) (b : Addr) (ks : List Int), ps = [(x, y)] ∧ x = .ref b ∧ SqT K H2 b (ks.map V.int) ∧ TdI w H2 p [] ∧ ∀ ob r, RelV y r → Q (.ref p) (upd H2 p (TdO w p ob [(ks, b, r)]))
section
variable {X : Cx} {k v : Expr} {pos : Pos} {tk tv : TE}
theorem pe_disp1 (hu : X.A.units + 1 < cLine) (hk : PE X k tk) (hv : PE X v tv) : PE X (.Dict [some k] [v] pos) (tDisp1 X.K X.w tk tv) := by
  refine ⟨fun pins s σ H Q I q => ?_⟩
  have hn := I.hok.fresh (Nat.le_refl s.heap.objs.size)
  have hm : (s.heap.objs.size == sysModules) = false := beq_eq_false_iff_ne.mpr (Nat.ne_of_gt I.big)
  obtain ⟨ob, hob⟩ := tdo_ok (P := X.prog) (w := X.w) (H' := H) (h' := s.heap.push { cls := .type "dict", data := .dict #[] }) (a := s.heap.objs.size) (xs := []) ⟨_, #[], 0, Heap.get?_push_size _ rfl, ⟨rfl, rfl, rfl⟩, rfl, fun _ => rfl, List.nodup_nil⟩
  have I1 := I.laid (a := s.heap.objs.size) (o := TdO X.w s.heap.objs.size ob []) (h' := s.heap.push { cls := .type "dict", data := .dict #[] }) (t' := s.toks) (fun _ _ q => Heap.get?_push_of_some _ q) (Nat.le_refl _) (hob _)
  have P : PPs X pos [some k] [v] [(tk, tv)] := pps_cons hk hv pps_nil
  refine wpAny_Dict_any rfl rfl (by simp) (by simp) (thn (P.run pins _ σ _ _ I1 (q s.heap.objs.size ob hn hm)) fun ws s2 ⟨ps, H2, I2, rel, x, y, b, ks, ep, ex, hb, hp, q2⟩ => ?_)
  subst ep ex
  cases rel with
  | @cons _ uv _ _ rr t =>
    cases t
    obtain ⟨u, r⟩ := uv
    obtain ⟨r1, r2⟩ := rr
    obtain rfl : u = Value.ref b := r1
    have D := td_at I2 hp (by simp)
    refine wpAny_storeAllH (A := X.A) (knd := tupleKind (intKind X.prog X.w)) (show X.A.units < cLine by omega) [(.ref b, r)] [(ks, b, r)] [] s2 _ ⟨rfl, rfl, I2.isT hb, trivial⟩ D (by rw [sizeLine_is]; simp) fun h' tk dd hs => ?_
    obtain ⟨q, es, ep, hq, h2, h3, h4, _, h5⟩ := dd
    obtain ⟨ob2, hob2⟩ := tdo_ok (P := X.prog) (w := X.w) (H' := H2) (h' := h') (a := s.heap.objs.size) (xs := [(ks, b, r)]) ⟨q, es, ep, hq, h2, h3, fun P => h4, h5⟩
    obtain ⟨o0, ha'⟩ := hp
    exact ⟨.ref s.heap.objs.size, _, d_write I2 (by rw [ha']; exact True.intro) hs ⟨q, hq⟩ (hob2 _), rfl, q2 ob2 r r2⟩
end
/-- {k: v}, the dict made ahead of its one pair -/
def dDisp1 (k v : DE) : DE := fun e S => (k e (S ++ [.ru (.td []) []])).bind fun x S1 => (v e S1).bind fun y S2 => match x with
  | .v (.tup l) => match intsW l, S2[S.length]? with
    | some kk, some (.ru (.td []) []) => .ok (.o S.length) (S2.set S.length (.ru (.td [kk]) [y]))
    | _, _ => .no
  | _ => .no
section
variable {ec : Ec} {X : Cx} {k v : Expr} {pos : Pos} {dk dv : DE}
theorem ev_disp1 (hf : ec.rf = true) (hu : X.A.units + 65 < cLine) (hk : PEv ec X k dk) (hv : PEv ec X v dv) : PEv ec X (.Dict [some k] [v] pos) (dDisp1 dk dv) :=
  ⟨fun pn xe Wx tk => (pe_disp1 (X := X.tr pn xe) (by show X.A.units + 1 < cLine; omega) (hk.run pn xe Wx tk) (hv.run pn xe Wx tk)).imp fun σ H Q ⟨env, S, ι, B, R, E, h⟩ p ob hp hm => by
    obtain ⟨R1, G1⟩ := R.newRu hf (k := .td []) (us := []) (vs := []) (ho := TdO X.w p ob []) hp ⟨[], ⟨ob, upd_same⟩, hm, rfl, rfl, (fun i w x h _ => by simp at h), fun i v x h _ => by simp at h⟩ .nil
    have hs : (ι ++ [p])[S.length]? = some p := by rw [← R.len]; simp
    refine LE.then_ R1 (E.go G1) (h.go G1) fun x S2 xv H2 ι2 G2 R2 E2 rx h2 => LE.then_ R2 E2 h2 fun y S3 yv H3 ι3 G3 R3 E3 ry h3 => ?_
    have rx3 := RU.go G3 rx
    split at h3
    · rename_i l
      split at h3
      · rename_i kk e1 e2
        have hs3 : ι3[S.length]? = some p := by
          obtain ⟨t, ht⟩ := (G2.trans G3).pre
          rw [ht, List.getElem?_append_left (List.getElem?_eq_some_iff.mp hs).1]; exact hs
        obtain ⟨b, rfl, hb, fb⟩ := tup_ints (show Rp (fx ec X) H3 _ (.tup l) xv from rx3) e1
        obtain ⟨vs, ⟨xs, T⟩, q⟩ := R3.ru e2 hs3
        have exs : xs = [] := by have := T.l1; cases xs <;> simp_all
        subst exs
        refine ⟨_, yv, b, kk, rfl, rfl, hb, T.at_, fun ob2 r hr => ?_⟩
        have hk0 : Go ι3 S3 H3 ι3 (S3.set S.length (.ru (.td [kk]) [y])) (upd H3 p (TdO X.w p ob2 [(kk, b, r)])) → KH (fx ec X) (upd H3 p (TdO X.w p ob2 [(kk, b, r)])) (Oq ι3 (S3.set S.length (.ru (.td [kk]) [y])) B) p (.td [kk]) [yv] := fun G => by
          refine ⟨[(kk, b, r)], ⟨ob2, upd_same⟩, T.sm, rfl, rfl, fun i w x q1 q2 => ?_, fun i w x q1 q2 => ?_⟩
          · cases i with
            | zero => simp at q1 q2; subst q1 q2; exact ⟨rfl, fb.ext G.extq G.ownq⟩
            | succ i => simp at q1
          · cases i with
            | zero => simp at q1 q2; subst q1 q2; exact hr
            | succ i => simp at q1
        obtain ⟨R4, G4⟩ := R3.setRu (k' := .td [kk]) (us' := [y]) (vs' := [yv]) (ho := TdO X.w p ob2 [(kk, b, r)]) e2 hs3 hk0 (RUL.snoc RUL.nil ry.uo)
        exact h3 _ _ ι3 G4 R4 ⟨p, hs3, rfl⟩
      · exact h3.elim
    · exact h3.elim⟩
end
end Bel

namespace Bel
open PySem PySem.Spec PyProof.Rows L2 LamX
def gFld (K : PySem.W.Frag) (to : TE) (f : Str) : TG := fun v σ H Q => to σ H fun x H1 => ∃ a C dx fs, x = .ref a ∧ H1 a = some (.ins C dx fs) ∧ L2.Cls K C ∧ L2.NoAttr K C f ∧ fs.length < 1000 ∧ Q σ (upd H1 a (.ins C dx (putF f v fs)))
theorem pg_fld {X : Cx} {o : Expr} {f : Str} {pos : Pos} {to : TE} (ho : PE X o to) (ha : ∀ v, assign (.Attribute o f pos) X.env v = (do
      let ov ← holding [v] (eval o X.env)
      standAt pos.atName
      holding [v, ov] (setAttr ov f v)
      release [v, ov] []) := by intro _; rfl) : PG X (.Attribute o f pos) (gFld X.K to f) := by
  refine ⟨fun pins s σ H v u Q I r h => ?_⟩
  rw [ha]
  refine wpAny_bind (wpAny_holding (thn (ho.run pins s σ H _ I h) fun ov s1 ⟨x, H1, I1, r1, a, C, dx, fs, ex, ea, c, n, l, q⟩ => ?_))
  subst ex
  obtain rfl : ov = Value.ref a := r1
  exact wpAny_bind (wpAny_standAt (wpAny_bind (wpAny_holding (setattr_ok I1 ea c n l r fun s2 I2 => wpAny_release ⟨σ, _, I2, q⟩))))
/-- an attribute written -/
def stF (c : Cl) (i : Nat) (S : Store) (u y : U) : Option Store := match u with
  | .o n => match S[n]? with
    | some (.ru (.ins c') us) => if c' = c then (match putU i us y with
      | some us' => some (S.set n (.ru (.ins c) us'))
      | none => none) else none
    | _ => none
  | .v _ => none
theorem stF_ok {F : Fx} {H : Hp} {ι : List Addr} {S S' : Store} {B : Addr → Prop} {c : Cl} {i : Nat} {f : Str} {u y : U} {x v : V} (A : AtG F.K c i f) (R : RS F ι S B H) (ru : RU F H ι S B u x) (ry : RU F H ι S B y v) (h : stF c i S u y = some S') :
    ∃ a dx fs, x = .ref a ∧ H a = some (.ins (He.ga F.K c.name) dx fs) ∧ fs.length < 1000 ∧ RS F ι S' B (upd H a (.ins (He.ga F.K c.name) dx (putF f v fs))) ∧ Go ι S H ι S' (upd H a (.ins (He.ga F.K c.name) dx (putF f v fs))) := by
  unfold stF at h
  split at h
  · rename_i n
    obtain ⟨a, ha, rfl⟩ := ru
    split at h
    · rename_i c' us e1
      split at h
      · rename_i hc
        subst hc
        split at h
        · rename_i us' e2
          cases h
          obtain ⟨vs, ⟨hl, dx, q1⟩, r⟩ := R.ru e1 ha
          obtain ⟨vs', r', ep, hl'⟩ := putU_ok r ry.uo e2 hl A.at_ A.nd
          obtain ⟨R3, G3⟩ := R.setRu (k' := .ins c') (us' := us') (vs' := vs') (ho := .ins (He.ga F.K c'.name) dx (c'.at_.zip vs')) e1 ha (fun _ => ⟨hl', dx, upd_same⟩) r'
          exact ⟨a, dx, _, rfl, q1, Nat.lt_of_le_of_lt at_zl A.few, by rw [ep]; exact R3, by rw [ep]; exact G3⟩
        · cases h
      · cases h
    · cases h
  · cases h
def dSetF2 (c : Cl) (i : Nat) (o : DE) (c2 : Cl) (i2 : Nat) (o2 d : DE) : DS := fun e S => (d e S).st e fun uv S1 => match uv with
  | .v (.tup [w, z]) => (o e S1).st e fun u S2 => match stF c i S2 u (.v w) with
    | some S3 => (o2 e S3).st e fun u2 S4 => match stF c2 i2 S4 u2 (.v z) with
      | some S5 => .ok (.nx e) S5
      | none => .no
    | none => .no
  | _ => .no
section
variable {ec : Ec} {X : Cx} {o o2 e : Expr} {f f2 : Str} {pos p p2 pt : Pos} {da db dc : DE} {c c2 : Cl} {i i2 kt : Nat}
theorem sv_fld2 (A : AtG X.K c i f) (A2 : AtG X.K c2 i2 f2) (hc : X.calm = true) (ho : PEv ec X o da) (ho2 : PEv ec X o2 db) (hv : PEv ec X e dc)
    (hs : swapsWithSole [.Tuple [.Attribute o f p, .Attribute o2 f2 p2] kt pt] e pos.line X.env = pure false := by rfl) (hw : swappedStores [.Tuple [.Attribute o f p, .Attribute o2 f2 p2] kt pt] e X.env = pure none := by rfl)
    (h1 : (assignEach [.Tuple [.Attribute o f p, .Attribute o2 f2 p2] kt pt] X.env).map (·.2) = [assign (.Tuple [.Attribute o f p, .Attribute o2 f2 p2] kt pt) X.env] := by rfl)
    (hs1 : (assignEach [.Attribute o f p, .Attribute o2 f2 p2] X.env).map (·.2) = assign (.Attribute o f p) X.env :: (assignEach [.Attribute o2 f2 p2] X.env).map (·.2) := by rfl)
    (hs2 : (assignEach [.Attribute o2 f2 p2] X.env).map (·.2) = assign (.Attribute o2 f2 p2) X.env :: (assignEach [] X.env).map (·.2) := by rfl)
    (hn : (assignEach [.Attribute o f p, .Attribute o2 f2 p2] X.env).length = 2 := by rfl) (hst : (assignEach [.Attribute o f p, .Attribute o2 f2 p2] X.env).findIdx? (·.1) = none := by rfl)
    (h2 : ∀ v, assign (.Attribute o f p) X.env v = (do
      let ov ← holding [v] (eval o X.env)
      standAt p.atName
      holding [v, ov] (setAttr ov f v)
      release [v, ov] []) := by intro _; rfl)
    (h3 : ∀ v, assign (.Attribute o2 f2 p2) X.env v = (do
      let ov ← holding [v] (eval o2 X.env)
      standAt p2.atName
      holding [v, ov] (setAttr ov f2 v)
      release [v, ov] []) := by intro _; rfl) : PSv ec X (.Assign [.Tuple [.Attribute o f p, .Attribute o2 f2 p2] kt pt] e pos) (dSetF2 c i da c2 i2 db dc) :=
  ⟨fun pn xe Wx tk po => (ps_asg (X := X.tr pn xe) (hv.run pn xe Wx tk) (pg_tup (X := X.tr pn xe) hc (pgs_cons (X := X.tr pn xe) (pg_fld (ho.run pn xe Wx tk) h2) (pgs_cons (X := X.tr pn xe) (pg_fld (ho2.run pn xe Wx tk) h3) pgs_nil hs2) hs1) hn hst) hs hw h1).imp fun D σ H ⟨env, S, ι, B, R, E, h⟩ =>
    LE.thenS R E h fun uv S1 v H1 ι1 G1 R1 E1 rv h1 => by
      split at h1
      · rename_i w z
        obtain ⟨aa, vs, rfl, fT, rl⟩ := Rp.tup_inv (show Rp _ _ _ (.tup [w, z]) v from rv)
        obtain ⟨x1, vs, rfl, r1, rl⟩ := rl.cons_iff
        obtain ⟨x2, vs, rfl, r2, rl⟩ := rl.cons_iff
        obtain rfl := rl.nil_iff
        refine ⟨aa, [x1, x2], rfl, fT.sq, rfl, x1, [x2], rfl, LE.thenS R1 E1 h1 fun u S2 y H2 ι2 G2 R2 E2 ru h2 => ?_⟩
        split at h2
        · rename_i S3 e3
          obtain ⟨a, dx, fs, rfl, q1, q2, R3, G3⟩ := stF_ok A R2 ru (RU.go G2 (u := .v w) r1) e3
          refine ⟨a, _, dx, fs, rfl, q1, A.cls, A.no, q2, x2, [], rfl, LE.thenS R3 (E2.go G3) (PoS.go G3 h2) fun u2 S4 y2 H4 ι4 G4 R4 E4 ru2 h4 => ?_⟩
          split at h4
          · rename_i S5 e5
            obtain ⟨a2, dx2, fs2, rfl, q3, q4, R5, G5⟩ := stF_ok A2 R4 ru2 (RU.go G4 (RU.go G3 (RU.go G2 (u := .v z) r2))) e5
            exact ⟨a2, _, dx2, fs2, rfl, q3, A2.cls, A2.no, q4, rfl, h4 _ _ ι4 G5 R5 (E4.go G5)⟩
          · exact h4.elim
        · exact h2.elim
      · exact h1.elim⟩
end
end Bel

namespace Bel
open PySem PySem.Spec PyProof.Rows L2
def rNotInDT (K : PySem.W.Frag) : R2 := fun x y H Q => ∃ d ds, Dp K H x d ∧ Dp K H y (.tuple ds) ∧ SeqAt.shaped d = true ∧ SeqAt.shaped (.tuple ds) = true ∧ Q (.bl (!ds.any fun z => PyData.eqv z d)) H
theorem op_notInDT {X : Cx} (hu : X.A.units + 65 < cLine) : OpR X (compareOp .NotIn) (rNotInDT X.K) := by
  intro pins s σ H x y v u Q I rx ry h
  obtain ⟨d, ds, hd, he, sd, se, q⟩ := h
  obtain ⟨as, r1⟩ := Dp.reads I d x v hd rx
  obtain ⟨bs, r2⟩ := Dp.reads I (.tuple ds) y u he ry
  exact SeqAt.notIn_tuple_reads r2 r1 (SeqAt.canLay_of_shaped se) (SeqAt.canLay_of_shaped sd) (room_in_shaped sd hu) ⟨.bl _, H, I, rfl, q⟩
def fNotInD : W → W → Option Out
  | x, .tup l => if shp 64 x = true ∧ shps 63 l = true then some (.val (.bl (!l.any fun y => eqD y x))) else none
  | _, _ => none
theorem ow_notInD {F : Fx} : OpW F fNotInD (rNotInDT F.K) := by
  intro H O x y w z o Q rx ry e q
  cases z with
  | tup l =>
    simp only [fNotInD] at e
    split at e
    · rename_i hc
      cases some_inj e
      have hs : shp 64 (.tup l) = true := by simpa [shp] using hc.2
      obtain ⟨h1, h2⟩ := rt_shaped hc.1 rx
      obtain ⟨h3, h4⟩ := rt_shaped hs ry
      simp only [toD] at h3 h4
      refine ⟨_, _, h1, h3, h2, h4, ?_⟩
      rw [any_toD]
      exact q _ (.bl _)
    · cases e
  | _ => simp [fNotInD] at e
def iBoth (K : PySem.W.Frag) (tl : TE) : TI := fun σ H R => tl σ H fun x H1 => ∃ a, x = .ref a ∧ (((∃ xs, SqL K H1 a xs) ∧ R (Itl K a) H1) ∨ ((∃ xs, SqT K H1 a xs) ∧ R (Itt K a) H1))
theorem pi_both {X : Cx} {tg l : Expr} {tl : TE} (hl : PE X l tl) : PI X tg l (iBoth X.K tl) := by
  refine ⟨fun pins s σ H R I h => ?_⟩
  refine thn (hl.run pins s σ H _ I h) fun v s1 ⟨x, H1, I1, r1, q1⟩ => ?_
  obtain ⟨a, e, ⟨⟨xs, hq⟩, q⟩ | ⟨⟨xs, hq⟩, q⟩⟩ := q1
  · subst e
    cases r1
    obtain ⟨its, rv, p, hz⟩ := I1.list hq
    refine wpAny_pyIter_list p.isList ?_
    refine ⟨s1.heap.objs.size, [s1.heap.objs.size], _, _, H1, rfl, I1.kept (t' := s1.toks) fun b o e => Heap.get?_push_of_some _ e, turn_list a _, ⟨_, Heap.get?_push_size _ rfl, rfl, rfl⟩, fun b hb => ?_, q⟩
    have e : b = s1.heap.objs.size := by simpa using hb
    subst e
    exact I1.fpOk (Nat.le_refl _) (I1.hok.fresh (Nat.le_refl _))
  · subst e
    cases r1
    obtain ⟨its, rv, p, hz⟩ := I1.tuple hq
    refine wpAny_pyIter_tuple (show s1.heap.IsTuple a its.toArray from p) ?_
    refine ⟨s1.heap.objs.size, [s1.heap.objs.size], _, _, H1, rfl, I1.kept (t' := s1.toks) fun b o e => Heap.get?_push_of_some _ e, turn_tuple a _, ⟨_, Heap.get?_push_size _ rfl, rfl, rfl⟩, fun b hb => ?_, q⟩
    have e : b = s1.heap.objs.size := by simpa using hb
    subst e
    exact I1.fpOk (Nat.le_refl _) (I1.hok.fresh (Nat.le_refl _))
def dItB (d : DE) : DI := fun e S => (d e S).bind fun u S1 => match u with
  | .v (.lst l) => .ok l S1
  | .v (.tup l) => .ok l S1
  | _ => .no
@[simp] theorem dItB_ap (d : DE) (e : Env') (S : Store) : dItB d e S = (d e S).bind fun u S1 => match u with
  | .v (.lst l) => .ok l S1
  | .v (.tup l) => .ok l S1
  | _ => .no := rfl
section
variable {ec : Ec} {X : Cx} {tg e : Expr} {da : DE}
theorem iv_both (h : PEv ec X e da) : PIv ec X tg e (dItB da) :=
  ⟨fun pn xe Wx tk => (pi_both (h.run pn xe Wx tk)).imp fun σ H Q ⟨env, S, ι, B, R, E, h⟩ => LE.thenI R E h fun u S1 v H1 ι1 G1 R1 E1 ru h1 => by
    cases u with
    | o n => exact h1.elim
    | v w =>
      cases w with
      | lst l =>
        obtain ⟨a, vs, rfl, h2, r⟩ := Rp.lst_inv ru
        exact ⟨a, rfl, .inl ⟨⟨vs, h2.sq (F := fx ec X)⟩, h1 _ H1 ι1 .refl R1 (walkW_lst h2 r)⟩⟩
      | tup l =>
        obtain ⟨a, vs, rfl, h2, r⟩ := Rp.tup_inv ru
        exact ⟨a, rfl, .inr ⟨⟨vs, h2.sq (F := fx ec X)⟩, h1 _ H1 ι1 .refl R1 (walkW_tup h2 r)⟩⟩
      | _ => exact h1.elim⟩
end
section
variable {ec : Ec} {X : Cx} {tg e : Expr} {st : Stmt}
theorem iv_or {d1 d2 d : DI} (h1 : PIv ec X tg e d1) (h2 : PIv ec X tg e d2) (hd : ∀ env S, d env S = d1 env S ∨ d env S = d2 env S) : PIv ec X tg e d :=
  ⟨fun pn xe Wx tk => ⟨fun pins s σ H R I ⟨env, S, ι, B, RR, E, h⟩ => by
    rcases hd env S with q | q <;> rw [q] at h
    · exact (h1.run pn xe Wx tk).run pins s σ H R I ⟨env, S, ι, B, RR, E, h⟩
    · exact (h2.run pn xe Wx tk).run pins s σ H R I ⟨env, S, ι, B, RR, E, h⟩⟩⟩
end
/-- enumerate(a list or a tuple) -/
def dEnB (d : DE) : DI := fun e S => (d e S).bind fun u S1 => match u with
  | .v (.lst l) => .ok (enuW 0 l) S1
  | .v (.tup l) => .ok (enuW 0 l) S1
  | _ => .no
@[simp] theorem dEnB_ap (d : DE) (e : Env') (S : Store) : dEnB d e S = (d e S).bind fun u S1 => match u with
  | .v (.lst l) => .ok (enuW 0 l) S1
  | .v (.tup l) => .ok (enuW 0 l) S1
  | _ => .no := rfl
section
variable {ec : Ec} {X : Cx} {e : Expr} {da : DE} {p pos tpos : Pos} {elts : List Expr} {kk : Nat}
theorem iv_enB (hg : Gl X "enumerate") (hm : X.mg "enumerate" = none) (h : PEv ec X e da) (h1 : starEach [e] X.env = (false, eval e X.env) :: starEach [] X.env := by rfl) (hs : starEach [e] X.env = [(false, eval e X.env)] := by rfl) : PIv ec X (.Tuple elts kk tpos) (.Call (.Name "enumerate" p) [e] [] pos) (dEnB da) :=
  iv_or (iv_enL hg hm h h1 hs) (iv_enT hg hm h h1 hs) fun env S => by
    unfold dEnB dEnL dEnT
    cases da env S with
    | ok u S1 =>
      cases u with
      | v w => cases w <;> first | exact .inl rfl | exact .inr rfl
      | o n => exact .inl rfl
    | ex c S1 => exact .inl rfl
    | no => exact .inl rfl
end
end Bel

namespace Bel
open PySem PySem.Spec PyProof.Rows L2
def cl_Court : Cl := ⟨"Court", ["known", "due"]⟩
def cl_Standing : Cl := ⟨"Standing", ["group", "way", "status", "untold", "many", "ever", "halting"]⟩
def c_OF_STOPS : W := .tup [.int 201, .int 202]
def c_HALTING : W := .tup [.int 1, .int 2]
def c_GO : W := .int 6
def c_DONE : W := .int 7
def c_KILL : W := .int 0
def d_MOST : List (List Nat × W) := [([110, 117, 109, 98, 101, 114], .int 999), ([98, 101, 108, 108], .int 7), ([99, 104, 105, 108, 100], .int 29)]
def c_MOST : W := .kdc d_MOST
def d_FORMS_w : List (List Nat × W) := [([115, 116, 97, 114, 116, 115], .tup [.str [110, 97, 109, 101], .str [110, 97, 109, 101]]), ([115, 97, 121, 115], .tup [.str [110, 97, 109, 101], .str [110, 117, 109, 98, 101, 114]]), ([114, 117, 110, 103], .tup [.str [110, 97, 109, 101], .str [98, 101, 108, 108]]), ([115, 116, 111, 112, 115], .tup [.str [110, 97, 109, 101], .str [98, 101, 108, 108]]), ([103, 111, 101, 115], .tup [.str [110, 97, 109, 101]]), ([101, 110, 100, 115], .tup [.str [110, 97, 109, 101], .str [115, 116, 97, 116, 117, 115]]), ([116, 111, 108, 100], .tup [.str [110, 97, 109, 101], .str [99, 104, 105, 108, 100], .str [116, 111, 108, 100]])]
def c_FORMS_w : W := .kdc d_FORMS_w
def g_Standing___init__ : DF := fnX 2
    (dSeq (dSetF cl_Standing 0 (dVar 0) (dVar 1))
    (dSeq (dSetF cl_Standing 1 (dVar 0) (dC (.str [114, 117, 110, 115])))
    (dSeq (dSetF cl_Standing 2 (dVar 0) (dC .non))
    (dSeq (dSetF cl_Standing 3 (dVar 0) (dC (.bl false)))
    (dSeq (dSetF cl_Standing 4 (dVar 0) (dC (.int 0)))
    (dSeq (dSetF cl_Standing 5 (dVar 0) (dDisp true .nl dNil))
    (dSetF cl_Standing 6 (dVar 0) (dDisp true .nl dNil))))))))
def g_Court___init__ : DF := fnX 1
    (dSeq (dSetF cl_Court 0 (dVar 0) (dDisp1 (dDisp false .nt dNil) (dMk cl_Standing g_Standing___init__ 1 (dCons (dDisp false .nt dNil) dNil))))
    (dSetF cl_Court 1 (dVar 0) (dC .non)))
def g_fits : DF := fnD 2
    (dSeq (dIfS (dT (dBin false fEq (dVar 0) (dC (.str [110, 97, 109, 101])))) (dRet (dFn g_is_task_name 1 (dCons (dVar 1) dNil))) dNext)
    (dSeq (dIfS (dT (dBin false fEq (dVar 0) (dC (.str [115, 116, 97, 116, 117, 115])))) (dRet (dFn g_is_status 1 (dCons (dVar 1) dNil))) dNext)
    (dSeq (dIfS (dT (dBin false fEq (dVar 0) (dC (.str [116, 111, 108, 100])))) (dRet ((dOrV (dFn g_is_status 1 (dCons (dVar 1) dNil)) ((dAndV (dFn g_is_number 2 (dCons (dVar 1) (dCons (dCall false fMaxT (dCons (dC c_OF_STOPS) dNil)) dNil))) (dBin false fInO (dVar 1) (dC c_OF_STOPS))))))) dNext)
    (dRet (dFn g_is_number 2 (dCons (dVar 1) (dCons (dBin false fIx (dC c_MOST) (dVar 0)) dNil)))))))
def g_is_row_e1 : DE := (dFn g_fits 2 (dCons (dVar 2) (dCons (dVar 3) dNil)))
def g_is_row : DF := fnD 4
    (dSeq (dIfS (dOr (dNot (dT (dIsT isTup (dVar 0)))) (dOr (dT (dBin false fEq (dVar 0) (dDisp false .nt dNil))) (dOr (dNot (dT (dIsT isStr (dBin false fIx (dVar 0) (dC (.int 0)))))) (dT (dBin false fNotInO (dBin false fIx (dVar 0) (dC (.int 0))) (dC c_FORMS_w)))))) (dRet (dC (.bl false))) dNext)
    (dSeq (dAsg 1 (dBin false fIx (dC c_FORMS_w) (dBin false fIx (dVar 0) (dC (.int 0)))))
    (dRet ((dAndV (dBin false fEq (dCall false fLen (dCons (dVar 0) dNil)) (dBin false fAdd (dCall false fLen (dCons (dVar 1) dNil)) (dC (.int 1)))) (dCall false fAll (dCons (dLc false (dZipT (dVar 1) (dSl false (dVar 0) (dPart (dC (.int 1))) dNoPart)) (tgT 2 (tgs1 (tgN 2) (tgs1 (tgN 3) tgs0))) dYes g_is_row_e1 [2, 3]) dNil)))))))
def g_need_record_e1 : DE := (dFn g_is_row 1 (dCons (dVar 1) dNil))
def g_need_record : DF := fnD 2
    (dIfS (dOr (dNot (dT (dIsT (fun w => isLst w || isTup w) (dVar 0)))) (dNot (dT (dCall false fAll (dCons (dLc false (dItB (dVar 0)) (tgN 1) dYes g_need_record_e1 [1]) dNil))))) (dRaise 6) dNext)
def g_Court_runs : DF := fnX 2
    (dRet ((dAndV (dInR false (dVar 1) (dFld cl_Court 0 (dVar 0))) (dBin false fEq (dFld cl_Standing 1 (dIxK (dFld cl_Court 0 (dVar 0)) (dVar 1))) (dC (.str [114, 117, 110, 115]))))))
def g_Court_told : DF := fnX 5
    (dSeq (dAsg 4 (dGetR (dFld cl_Court 0 (dVar 0)) (dBin false fAdd (dVar 1) (dDisp false .nt (dCons (dVar 2) dNil)))))
    (dSeq (dIfS (dOr (dNot (dT (dMc cl_Court g_Court_runs 2 (dVar 0) (dCons (dVar 1) dNil)))) (dOr (dT (dIsU false (dVar 4) (dC .non))) (dOr (dNot (dT (dFld cl_Standing 3 (dVar 4)))) (dT (dBin false fNe (dFld cl_Standing 2 (dVar 4)) (dVar 3)))))) (dRet (dC (.bl false))) dNext)
    (dSeq (dSetF cl_Standing 3 (dVar 4) (dC (.bl false)))
    (dRet (dC (.bl true))))))
def g_Court_starts : DF := fnX 4
    (dSeq (dIfS (dOr (dT (dBin false fEq (dVar 1) (dDisp false .nt dNil))) (dNot (dT (dMc cl_Court g_Court_runs 2 (dVar 0) (dCons (dSl false (dVar 1) dNoPart (dPart (dNeg (dC (.int 1))))) dNil))))) (dRet (dC (.bl false))) dNext)
    (dSeq (dAsg 3 (dIxK (dFld cl_Court 0 (dVar 0)) (dSl false (dVar 1) dNoPart (dPart (dNeg (dC (.int 1)))))))
    (dSeq (dIfS (dOr (dT (dBin false fNe (dBin false fIx (dVar 1) (dNeg (dC (.int 1)))) (dFld cl_Standing 4 (dVar 3)))) (dT (dBin false fNotInD (dVar 2) (dDisp false .nt (dCons (dVar 1) (dCons (dFld cl_Standing 0 (dVar 3)) dNil)))))) (dRet (dC (.bl false))) dNext)
    (dSeq (dAugF cl_Standing 4 fAddI (dVar 3) (dC (.int 1)))
    (dSeq (dSetK (dFld cl_Court 0 (dVar 0)) (dVar 1) (dMk cl_Standing g_Standing___init__ 1 (dCons (dVar 2) dNil)))
    (dRet (dC (.bl true))))))))
def g_Court_lives : DF := fnX 2
    (dRet ((dAndV (dInR false (dVar 1) (dFld cl_Court 0 (dVar 0))) (dBin false fNe (dFld cl_Standing 1 (dIxK (dFld cl_Court 0 (dVar 0)) (dVar 1))) (dC (.str [101, 110, 100, 101, 100]))))))
def g_Court_rung : DF := fnX 4
    (dSeq (dIfS (dNot (dT (dMc cl_Court g_Court_lives 2 (dVar 0) (dCons (dVar 1) dNil)))) (dRet (dC (.bl false))) dNext)
    (dSeq (dAsg 3 (dIxK (dFld cl_Court 0 (dVar 0)) (dVar 1)))
    (dSeq (dDrop (dMut fAppend (dFld cl_Standing 5 (dVar 3)) (dCons (dVar 2) dNil)))
    (dSeq (dIfS (dT (dBin false fInO (dVar 2) (dC c_HALTING))) (dDrop (dMut fAppend (dFld cl_Standing 6 (dVar 3)) (dCons (dVar 2) dNil))) dNext)
    (dSeq (dIfS (dT (dBin false fEq (dVar 2) (dC c_GO))) (dSeq (dSetF cl_Standing 6 (dVar 3) (dDisp true .nl dNil))
    (dIfS (dT (dBin false fEq (dFld cl_Standing 1 (dVar 3)) (dC (.str [115, 116, 111, 112, 115])))) (dSetF cl_Court 1 (dVar 0) (dDisp false .nt (dCons (dC (.str [103, 111, 101, 115])) (dCons (dVar 1) dNil)))) dNext)) dNext)
    (dRet (dC (.bl true))))))))
def g_Court_pause : DF := fnX 5
    (dSeq (dAsg 4 (dIxK (dFld cl_Court 0 (dVar 0)) (dVar 1)))
    (dSeq (dSetF2 cl_Standing 1 (dVar 4) cl_Standing 2 (dVar 4) (dDisp false .nt (dCons (dVar 2) (dCons (dVar 3) dNil))))
    (dSeq (dSetF cl_Standing 3 (dVar 4) (dC (.bl true)))
    (dSeq (dIfS (dAnd (dT (dBin false fNe (dVar 1) (dDisp false .nt dNil))) (dT (dMc cl_Court g_Court_lives 2 (dVar 0) (dCons (dSl false (dVar 1) dNoPart (dPart (dNeg (dC (.int 1))))) dNil)))) (dSetF cl_Court 1 (dVar 0) (dDisp false .nt (dCons (dC (.str [114, 117, 110, 103])) (dCons (dSl false (dVar 1) dNoPart (dPart (dNeg (dC (.int 1))))) (dCons (dC c_DONE) dNil))))) dNext)
    (dRet (dC (.bl true)))))))
def g_Court_stops : DF := fnX 3
    (dSeq (dIfS (dOr (dNot (dT (dMc cl_Court g_Court_runs 2 (dVar 0) (dCons (dVar 1) dNil)))) (dT (dBin false fNotInO (dVar 2) (dFld cl_Standing 6 (dIxK (dFld cl_Court 0 (dVar 0)) (dVar 1)))))) (dRet (dC (.bl false))) dNext)
    (dRet (dMc cl_Court g_Court_pause 4 (dVar 0) (dCons (dVar 1) (dCons (dC (.str [115, 116, 111, 112, 115])) (dCons (dBin false fAdd (dC (.int 200)) (dVar 2)) dNil))))))
def g_Court_ends : DF := fnX 4
    (dSeq (dIfS (dNot (dT (dMc cl_Court g_Court_lives 2 (dVar 0) (dCons (dVar 1) dNil)))) (dRet (dC (.bl false))) dNext)
    (dSeq (dAsg 3 (dIxK (dFld cl_Court 0 (dVar 0)) (dVar 1)))
    (dSeq (dIfS (dAnd (dT (dBin false (fCmp fun i j => decide (i < j)) (dVar 2) (dC (.int 100)))) (dT (dBin false fNe (dFld cl_Standing 1 (dVar 3)) (dC (.str [114, 117, 110, 115]))))) (dRet (dC (.bl false))) dNext)
    (dSeq (dIfS (dAnd (dT (dBin false (fCmp fun i j => decide (j ≤ i)) (dVar 2) (dC (.int 100)))) (dT (dBin false fNotInO (dBin false fSub (dVar 2) (dC (.int 100))) (dFld cl_Standing 5 (dVar 3))))) (dRet (dC (.bl false))) dNext)
    (dSeq (dIfS (dAnd (dT (dBin false fEq (dFld cl_Standing 1 (dVar 3)) (dC (.str [115, 116, 111, 112, 115])))) (dT (dBin false fNe (dVar 2) (dBin false fAdd (dC (.int 100)) (dC c_KILL))))) (dRet (dC (.bl false))) dNext)
    (dRet (dMc cl_Court g_Court_pause 4 (dVar 0) (dCons (dVar 1) (dCons (dC (.str [101, 110, 100, 101, 100])) (dCons (dVar 2) dNil))))))))))
def g_Court_goes : DF := fnX 2
    (dSeq (dSetF cl_Standing 1 (dIxK (dFld cl_Court 0 (dVar 0)) (dVar 1)) (dC (.str [114, 117, 110, 115])))
    (dSeq (dSetF cl_Standing 3 (dIxK (dFld cl_Court 0 (dVar 0)) (dVar 1)) (dC (.bl false)))
    (dRet (dC (.bl true)))))
def g_Court_lets_by : DF := fnX 3
    (dSeq (dIfS (dAnd (dT (dIsU true (dFld cl_Court 1 (dVar 0)) (dC .non))) (dT (dBin false fNe (dVar 1) (dFld cl_Court 1 (dVar 0))))) (dRet (dC (.bl false))) dNext)
    (dSeq (dAsg 2 (dIsU true (dFld cl_Court 1 (dVar 0)) (dC .non)))
    (dSeq (dSetF cl_Court 1 (dVar 0) (dC .non))
    (dSeq (dIfS (dT (dBin false fEq (dBin false fIx (dVar 1) (dC (.int 0))) (dC (.str [103, 111, 101, 115])))) (dRet ((dAndV (dVar 2) (dMc cl_Court g_Court_goes 2 (dVar 0) (dCons (dBin false fIx (dVar 1) (dC (.int 1))) dNil))))) dNext)
    (dSeq (dIfS (dT (dBin false fEq (dBin false fIx (dVar 1) (dC (.int 0))) (dC (.str [115, 116, 97, 114, 116, 115])))) (dRet (dMc cl_Court g_Court_starts 3 (dVar 0) (dCons (dBin false fIx (dVar 1) (dC (.int 1))) (dCons (dBin false fIx (dVar 1) (dC (.int 2))) dNil)))) dNext)
    (dSeq (dIfS (dT (dBin false fEq (dBin false fIx (dVar 1) (dC (.int 0))) (dC (.str [115, 97, 121, 115])))) (dRet (dMc cl_Court g_Court_runs 2 (dVar 0) (dCons (dBin false fIx (dVar 1) (dC (.int 1))) dNil))) dNext)
    (dSeq (dIfS (dT (dBin false fEq (dBin false fIx (dVar 1) (dC (.int 0))) (dC (.str [114, 117, 110, 103])))) (dRet (dMc cl_Court g_Court_rung 3 (dVar 0) (dCons (dBin false fIx (dVar 1) (dC (.int 1))) (dCons (dBin false fIx (dVar 1) (dC (.int 2))) dNil)))) dNext)
    (dSeq (dIfS (dT (dBin false fEq (dBin false fIx (dVar 1) (dC (.int 0))) (dC (.str [115, 116, 111, 112, 115])))) (dRet (dMc cl_Court g_Court_stops 3 (dVar 0) (dCons (dBin false fIx (dVar 1) (dC (.int 1))) (dCons (dBin false fIx (dVar 1) (dC (.int 2))) dNil)))) dNext)
    (dSeq (dIfS (dT (dBin false fEq (dBin false fIx (dVar 1) (dC (.int 0))) (dC (.str [101, 110, 100, 115])))) (dRet (dMc cl_Court g_Court_ends 3 (dVar 0) (dCons (dBin false fIx (dVar 1) (dC (.int 1))) (dCons (dBin false fIx (dVar 1) (dC (.int 2))) dNil)))) dNext)
    (dRet (dMc cl_Court g_Court_told 4 (dVar 0) (dCons (dBin false fIx (dVar 1) (dC (.int 1))) (dCons (dBin false fIx (dVar 1) (dC (.int 2))) (dCons (dBin false fIx (dVar 1) (dC (.int 3))) dNil))))))))))))))
def g_judged_b1 : DS := (dIfS (dNot (dT (dMc cl_Court g_Court_lets_by 2 (dVar 1) (dCons (dVar 3) dNil)))) (dRet (dVar 2)) dNext)
def g_judged : DF := fnX 4
    (dSeq (dDrop (dFnP g_need_record 1 (dCons (dVar 0) dNil)))
    (dSeq (dAsg 1 (dMk cl_Court g_Court___init__ 0 dNil))
    (dSeq (dFor (dEnB (dVar 0)) (tgT 2 (tgs1 (tgN 2) (tgs1 (tgN 3) tgs0))) g_judged_b1)
    (dRet (dIf (dT (dIsU false (dFld cl_Court 1 (dVar 1)) (dC .non))) (dC .non) (dCall false fLen (dCons (dVar 0) dNil)))))))
end Bel

namespace Bel
open PySem PySem.Spec PyProof.Rows L2
def g__law_there_t1 : DT := (dAnd (dT (dBin false fEq (dBin false fIx (dVar 2) (dC (.int 0))) (dC (.str [115, 116, 97, 114, 116, 115])))) (dT (dBin false fEq (dBin false fIx (dVar 2) (dC (.int 1))) (dVar 1))))
def g__law_there : DF := fnD 3
    (dRet ((dOrV (dBin false fEq (dVar 1) (dDisp false .nt dNil)) (dBin false fNeNil (dLc false (dItL (dVar 0)) (tgN 2) g__law_there_t1 (dC (.int 1)) [2]) (dDisp false .nl dNil)))))
def g__law_way_b1 : DS := (dSeq (dIfS (dAnd (dT (dBin false fInO (dBin false fIx (dVar 3) (dC (.int 0))) (dDisp false .nt (dCons (dC (.str [115, 116, 111, 112, 115])) (dCons (dC (.str [101, 110, 100, 115])) dNil))))) (dT (dBin false fEq (dBin false fIx (dVar 3) (dC (.int 1))) (dVar 1)))) (dAsg 2 (dDisp false .nt (dCons (dBin false fIx (dVar 3) (dC (.int 0))) (dCons (dBin false fIx (dVar 3) (dC (.int 2))) dNil)))) dNext)
    (dIfS (dAnd (dT (dBin false fEq (dBin false fIx (dVar 3) (dC (.int 0))) (dC (.str [103, 111, 101, 115])))) (dT (dBin false fEq (dBin false fIx (dVar 3) (dC (.int 1))) (dVar 1)))) (dAsg 2 (dDisp false .nt (dCons (dC (.str [114, 117, 110, 115])) (dCons (dC (.int 0)) dNil)))) dNext))
def g__law_way : DF := fnD 4
    (dSeq (dAsg 2 (dDisp false .nt (dCons (dC (.str [114, 117, 110, 115])) (dCons (dC (.int 0)) dNil))))
    (dSeq (dFor (dItL (dVar 0)) (tgN 3) g__law_way_b1)
    (dRet (dVar 2))))
def g__law_lives : DF := fnD 2
    (dRet ((dAndV (dFn g__law_there 2 (dCons (dVar 0) (dCons (dVar 1) dNil))) (dBin false fNe (dBin false fIx (dFn g__law_way 2 (dCons (dVar 0) (dCons (dVar 1) dNil))) (dC (.int 0))) (dC (.str [101, 110, 100, 115]))))))
def g__law_wanted : DF := fnD 3
    (dSeq (dIfS (dT (dBin false fEq (dVar 0) (dDisp false .nl dNil))) (dRet (dC .non)) dNext)
    (dSeq (dPar 1 2 (dCons (dBin false fIx (dVar 0) (dNeg (dC (.int 1)))) (dCons (dSl false (dVar 0) dNoPart (dPart (dNeg (dC (.int 1))))) dNil)))
    (dSeq (dIfS (dAnd (dT (dBin false fEq (dBin false fIx (dVar 1) (dC (.int 0))) (dC (.str [114, 117, 110, 103])))) (dAnd (dT (dBin false fEq (dBin false fIx (dVar 1) (dC (.int 2))) (dC (.int 6)))) (dT (dBin false fEq (dBin false fIx (dFn g__law_way 2 (dCons (dVar 2) (dCons (dBin false fIx (dVar 1) (dC (.int 1))) dNil))) (dC (.int 0))) (dC (.str [115, 116, 111, 112, 115])))))) (dRet (dDisp false .nt (dCons (dC (.str [103, 111, 101, 115])) (dCons (dBin false fIx (dVar 1) (dC (.int 1))) dNil)))) dNext)
    (dSeq (dIfS (dAnd (dT (dBin false fInO (dBin false fIx (dVar 1) (dC (.int 0))) (dDisp false .nt (dCons (dC (.str [115, 116, 111, 112, 115])) (dCons (dC (.str [101, 110, 100, 115])) dNil))))) (dAnd (dT (dBin false fNe (dBin false fIx (dVar 1) (dC (.int 1))) (dDisp false .nt dNil))) (dT (dFn g__law_lives 2 (dCons (dVar 0) (dCons (dSl false (dBin false fIx (dVar 1) (dC (.int 1))) dNoPart (dPart (dNeg (dC (.int 1))))) dNil)))))) (dRet (dDisp false .nt (dCons (dC (.str [114, 117, 110, 103])) (dCons (dSl false (dBin false fIx (dVar 1) (dC (.int 1))) dNoPart (dPart (dNeg (dC (.int 1))))) (dCons (dC (.int 7)) dNil))))) dNext)
    (dRet (dC .non))))))
def g__law_may_end_t1 : DT := (dT (dBin false fEq (dVar 5) (dDisp false .nt (dCons (dC (.str [114, 117, 110, 103])) (dCons (dVar 1) (dCons (dBin false fSub (dVar 2) (dC (.int 100))) dNil))))))
def g__law_may_end : DF := fnD 6
    (dSeq (dAsg 3 (dBin false fIx (dFn g__law_way 2 (dCons (dVar 0) (dCons (dVar 1) dNil))) (dC (.int 0))))
    (dSeq (dIfS (dT (dBin false (fCmp fun i j => decide (i < j)) (dVar 2) (dC (.int 100)))) (dRet (dBin false fEq (dVar 3) (dC (.str [114, 117, 110, 115])))) dNext)
    (dSeq (dAsg 4 (dBin false fNeNil (dLc false (dItL (dVar 0)) (tgN 5) g__law_may_end_t1 (dC (.int 1)) [5]) (dDisp false .nl dNil)))
    (dRet ((dAndV (dVar 4) ((dOrV (dBin false fEq (dVar 3) (dC (.str [114, 117, 110, 115]))) ((dAndV (dBin false fEq (dVar 3) (dC (.str [115, 116, 111, 112, 115]))) (dBin false fEq (dVar 2) (dC (.int 100)))))))))))))
def g__law_runs : DF := fnD 2
    (dRet ((dAndV (dFn g__law_there 2 (dCons (dVar 0) (dCons (dVar 1) dNil))) (dBin false fEq (dBin false fIx (dFn g__law_way 2 (dCons (dVar 0) (dCons (dVar 1) dNil))) (dC (.int 0))) (dC (.str [114, 117, 110, 115]))))))
def g__law_halting_b1 : DS := (dIfS (dAnd (dT (dBin false fEq (dBin false fIx (dVar 4) (dC (.int 0))) (dC (.str [114, 117, 110, 103])))) (dAnd (dT (dBin false fEq (dBin false fIx (dVar 4) (dC (.int 1))) (dVar 1))) (dT (dBin false fInO (dBin false fIx (dVar 4) (dC (.int 2))) (dDisp false .nt (dCons (dVar 2) (dCons (dC (.int 6)) dNil))))))) (dAsg 3 (dBin false fEq (dBin false fIx (dVar 4) (dC (.int 2))) (dVar 2))) dNext)
def g__law_halting : DF := fnD 5
    (dSeq (dAsg 3 (dC (.bl false)))
    (dSeq (dFor (dItL (dVar 0)) (tgN 4) g__law_halting_b1)
    (dRet ((dAndV (dVar 3) (dBin false fInO (dVar 2) (dDisp false .nt (dCons (dC (.int 1)) (dCons (dC (.int 2)) dNil)))))))))
def g__law_untold_b1 : DS := (dSeq (dIfS (dAnd (dT (dBin false fInO (dBin false fIx (dVar 3) (dC (.int 0))) (dDisp false .nt (dCons (dC (.str [115, 116, 111, 112, 115])) (dCons (dC (.str [101, 110, 100, 115])) dNil))))) (dT (dBin false fEq (dBin false fIx (dVar 3) (dC (.int 1))) (dVar 1)))) (dAsg 2 (dBin false fAdd (dBin false fIx (dVar 3) (dC (.int 2))) (dBin false fMul (dC (.int 200)) (dCall false fIntW (dCons (dBin false fEq (dBin false fIx (dVar 3) (dC (.int 0))) (dC (.str [115, 116, 111, 112, 115]))) dNil))))) dNext)
    (dIfS (dOr (dT (dBin false fEq (dSl false (dVar 3) dNoPart (dPart (dC (.int 2)))) (dDisp false .nt (dCons (dC (.str [103, 111, 101, 115])) (dCons (dVar 1) dNil))))) (dAnd (dT (dBin false fEq (dBin false fIx (dVar 3) (dC (.int 0))) (dC (.str [116, 111, 108, 100])))) (dT (dBin false fEq (dBin false fAdd (dBin false fIx (dVar 3) (dC (.int 1))) (dDisp false .nt (dCons (dBin false fIx (dVar 3) (dC (.int 2))) dNil))) (dVar 1))))) (dAsg 2 (dC .non)) dNext))
def g__law_untold : DF := fnD 4
    (dSeq (dAsg 2 (dC .non))
    (dSeq (dFor (dItL (dVar 0)) (tgN 3) g__law_untold_b1)
    (dRet (dVar 2))))
def g__law_group_e1 : DE := (dBin false fIx (dVar 2) (dC (.int 2)))
def g__law_group_t2 : DT := (dAnd (dT (dBin false fEq (dBin false fIx (dVar 2) (dC (.int 0))) (dC (.str [115, 116, 97, 114, 116, 115])))) (dT (dBin false fEq (dBin false fIx (dVar 2) (dC (.int 1))) (dVar 1))))
def g__law_group : DF := fnD 3
    (dRet (dBin false fIx (dBin false fAdd (dLc false (dItL (dVar 0)) (tgN 2) g__law_group_t2 g__law_group_e1 [2]) (dDisp false .nl (dCons (dDisp false .nt dNil) dNil))) (dC (.int 0))))
def g__law_may_t1 : DT := (dAnd (dT (dBin false fEq (dBin false fIx (dVar 5) (dC (.int 0))) (dC (.str [115, 116, 97, 114, 116, 115])))) (dT (dBin false fEq (dSl false (dBin false fIx (dVar 5) (dC (.int 1))) dNoPart (dPart (dNeg (dC (.int 1))))) (dSl false (dVar 3) dNoPart (dPart (dNeg (dC (.int 1))))))))
def g__law_may : DF := fnD 6
    (dSeq (dAsg 2 (dFn g__law_wanted 1 (dCons (dVar 0) dNil)))
    (dSeq (dIfS (dT (dBin false fIsNot (dVar 2) (dC .non))) (dRet (dBin false fEq (dVar 1) (dVar 2))) dNext)
    (dSeq (dAsg 3 (dBin false fIx (dVar 1) (dC (.int 1))))
    (dSeq (dIfS (dT (dBin false fEq (dBin false fIx (dVar 1) (dC (.int 0))) (dC (.str [115, 116, 97, 114, 116, 115])))) (dSeq (dIfS (dOr (dT (dBin false fEq (dVar 3) (dDisp false .nt dNil))) (dNot (dT (dFn g__law_runs 2 (dCons (dVar 0) (dCons (dSl false (dVar 3) dNoPart (dPart (dNeg (dC (.int 1))))) dNil)))))) (dRet (dC (.bl false))) dNext)
    (dSeq (dAsg 4 (dCall false fLen (dCons (dLc false (dItL (dVar 0)) (tgN 5) g__law_may_t1 (dC (.int 1)) [5]) dNil)))
    (dRet ((dAndV (dBin false fEq (dBin false fIx (dVar 3) (dNeg (dC (.int 1)))) (dVar 4)) (dBin false fInD (dBin false fIx (dVar 1) (dC (.int 2))) (dDisp false .nt (dCons (dVar 3) (dCons (dFn g__law_group 2 (dCons (dVar 0) (dCons (dSl false (dVar 3) dNoPart (dPart (dNeg (dC (.int 1))))) dNil))) dNil))))))))) dNext)
    (dSeq (dIfS (dOr (dNot (dT (dFn g__law_there 2 (dCons (dVar 0) (dCons (dVar 3) dNil))))) (dT (dBin false fEq (dBin false fIx (dVar 1) (dC (.int 0))) (dC (.str [103, 111, 101, 115]))))) (dRet (dC (.bl false))) dNext)
    (dSeq (dIfS (dT (dBin false fEq (dBin false fIx (dVar 1) (dC (.int 0))) (dC (.str [114, 117, 110, 103])))) (dRet (dFn g__law_lives 2 (dCons (dVar 0) (dCons (dVar 3) dNil)))) dNext)
    (dSeq (dIfS (dT (dBin false fEq (dBin false fIx (dVar 1) (dC (.int 0))) (dC (.str [101, 110, 100, 115])))) (dRet (dFn g__law_may_end 3 (dCons (dVar 0) (dCons (dVar 3) (dCons (dBin false fIx (dVar 1) (dC (.int 2))) dNil))))) dNext)
    (dSeq (dIfS (dNot (dT (dFn g__law_runs 2 (dCons (dVar 0) (dCons (dVar 3) dNil))))) (dRet (dC (.bl false))) dNext)
    (dSeq (dIfS (dT (dBin false fEq (dBin false fIx (dVar 1) (dC (.int 0))) (dC (.str [115, 116, 111, 112, 115])))) (dRet (dFn g__law_halting 3 (dCons (dVar 0) (dCons (dVar 3) (dCons (dBin false fIx (dVar 1) (dC (.int 2))) dNil))))) dNext)
    (dSeq (dIfS (dT (dBin false fEq (dBin false fIx (dVar 1) (dC (.int 0))) (dC (.str [116, 111, 108, 100])))) (dRet ((dAndV (dFn g__law_there 2 (dCons (dVar 0) (dCons (dBin false fAdd (dVar 3) (dDisp false .nt (dCons (dBin false fIx (dVar 1) (dC (.int 2))) dNil))) dNil))) (dBin false fEq (dFn g__law_untold 2 (dCons (dVar 0) (dCons (dBin false fAdd (dVar 3) (dDisp false .nt (dCons (dBin false fIx (dVar 1) (dC (.int 2))) dNil))) dNil))) (dBin false fIx (dVar 1) (dC (.int 3))))))) dNext)
    (dRet (dC (.bl true)))))))))))))
end Bel

namespace Bel
open PySem PySem.Spec PyProof.Rows L2
/-- what a def's body comes to -/
def fnR (n : Nat) (r : Rs) : Re U := match r with
  | .ok (.nx _) S' => fin n (.v .non) S'
  | .ok (.rt u) S' => fin n u S'
  | .ex c _ S' => .ex c (S'.take n)
  | _ => .no
@[simp] theorem fnR_rt (n : Nat) (u : U) (S : Store) : fnR n (.ok (.rt u) S) = fin n u S := rfl
@[simp] theorem fnR_nx (n : Nat) (e : Env') (S : Store) : fnR n (.ok (.nx e) S) = fin n (.v .non) S := rfl
@[simp] theorem fnR_ex (n : Nat) (c : Nat) (e : Env') (S : Store) : fnR n (.ex c e S) = .ex c (S.take n) := rfl
end Bel

namespace Bel
open PySem PySem.Spec PyProof.Rows L2
@[simp] theorem dFnP_ap (f : DF) (n : Nat) (a : DA) (e : Env') (S : Store) : dFnP f n a e S = (a e S).bind fun us S1 => if us.length = n ∧ us.all isV = true then (match f us [] with
    | .ok (.v w) _ => .ok (.v w) S1
    | .ok (.o m) T => match T[m]? with
      | some (.lst l) => .ok (.v (.lst l)) S1
      | some (.dct l) => .ok (.v (.dct l)) S1
      | _ => .no
    | .ex c _ => .ex c S1
    | .no => .no) else .no := Eq.trans rfl rfl
@[simp] theorem isV_v (w : W) : isV (.v w) = true := rfl
theorem fnX_ap (nl : Nat) (body : DS) (us : List U) (S : Store) : fnX nl body us S = match body (us.map some ++ List.replicate (nl - us.length) none) S with
  | .ok (.nx _) S' => .ok (.v .non) S'
  | .ok (.rt u) S' => .ok u S'
  | .ex c _ S' => .ex c S'
  | _ => .no := rfl
/-- a kept def's answer from its body's -/
def fnRX (r : Rs) : Re U := match r with
  | .ok (.nx _) S' => .ok (.v .non) S'
  | .ok (.rt u) S' => .ok u S'
  | .ex c _ S' => .ex c S'
  | _ => .no
@[simp] theorem fnRX_rt (u : U) (S : Store) : fnRX (.ok (.rt u) S) = .ok u S := rfl
@[simp] theorem fnRX_nx (e : Env') (S : Store) : fnRX (.ok (.nx e) S) = .ok (.v .non) S := rfl
@[simp] theorem fnRX_ex (c : Nat) (e : Env') (S : Store) : fnRX (.ex c e S) = .ex c S := rfl
end Bel

namespace Bel
open PySem PySem.Spec PyProof.Rows L2
@[simp] theorem dFld_ap (c : Cl) (i : Nat) (a : DE) (e : Env') (S : Store) : dFld c i a e S = (a e S).bind fun u S1 => match u with
  | .o n => match S1[n]? with
    | some (.ru (.ins c') us) => if c' = c then (match us[i]? with
      | some y => .ok y S1
      | none => .no) else .no
    | _ => .no
  | .v _ => .no := rfl
@[simp] theorem dSetF_ap (c : Cl) (i : Nat) (a b : DE) (e : Env') (S : Store) : dSetF c i a b e S = (b e S).st e fun y S1 => (a e S1).st e fun u S2 => match u with
  | .o n => match S2[n]? with
    | some (.ru (.ins c') us) => if c' = c then (match putU i us y with
      | some us' => .ok (.nx e) (S2.set n (.ru (.ins c) us'))
      | none => .no) else .no
    | _ => .no
  | .v _ => .no := rfl
@[simp] theorem dAugF_ap (c : Cl) (i : Nat) (f : W → W → Option Out) (a b : DE) (e : Env') (S : Store) : dAugF c i f a b e S = (a e S).st e fun u S1 => match u with
  | .o n => match S1[n]? with
    | some (.ru (.ins c') us) => if c' = c then (match us[i]? with
      | some (.v x) => (b e S1).st e fun y S2 => match dr S2 y with
        | some y => match f x y with
          | some (.val z) => match S2[n]? with
            | some (.ru (.ins c2) us2) => if c2 = c then (match putU i us2 (.v z) with
              | some us' => .ok (.nx e) (S2.set n (.ru (.ins c) us'))
              | none => .no) else .no
            | _ => .no
          | _ => .no
        | none => .no
      | _ => .no) else .no
    | _ => .no
  | .v _ => .no := rfl
@[simp] theorem dMc_ap (c : Cl) (f : DF) (n : Nat) (a : DE) (as : DA) (e : Env') (S : Store) : dMc c f n a as e S = (a e S).bind fun u S1 => match u with
  | .o q => match S1[q]? with
    | some (.ru (.ins c') _) => if c' = c then (as e S1).bind fun us S2 => if us.length + 1 = n then f (.o q :: us) S2 else .no else .no
    | _ => .no
  | .v _ => .no := Eq.trans rfl rfl
@[simp] theorem dMk_ap (c : Cl) (f : DF) (n : Nat) (as : DA) (e : Env') (S : Store) : dMk c f n as e S = (as e S).bind fun us S1 => if us.length = n then (match f (.o S1.length :: us) (S1 ++ [.ru (.ins c) []]) with
    | .ok (.v .non) S2 => .ok (.o S1.length) S2
    | .ex x S2 => .ex x S2
    | _ => .no) else .no := Eq.trans rfl rfl
@[simp] theorem dInR_ap (neg : Bool) (a b : DE) (e : Env') (S : Store) : dInR neg a b e S = (a e S).bind fun x S1 => (b e S1).bind fun u S2 => match x, u with
  | .v (.tup l), .o n => match S2[n]?, intsW l with
    | some (.ru (.td ks) us), some k => .ok (.v (.bl (if neg then !(lookKU k ks us).isSome else (lookKU k ks us).isSome))) S2
    | _, _ => .no
  | _, _ => .no := rfl
@[simp] theorem dIxK_ap (a b : DE) (e : Env') (S : Store) : dIxK a b e S = (a e S).bind fun u S1 => (b e S1).bind fun x S2 => match u, x with
  | .o n, .v (.tup l) => match S2[n]?, intsW l with
    | some (.ru (.td ks) us), some k => match lookKU k ks us with
      | some y => .ok y S2
      | none => .no
    | _, _ => .no
  | _, _ => .no := rfl
@[simp] theorem dGetR_ap (a b : DE) (e : Env') (S : Store) : dGetR a b e S = (a e S).bind fun u S1 => match u with
  | .o n => match S1[n]? with
    | some (.ru (.td _) _) => (b e S1).bind fun x S2 => match x with
      | .v (.tup l) => match S2[n]?, intsW l with
        | some (.ru (.td ks) us), some k => .ok ((lookKU k ks us).getD (.v .non)) S2
        | _, _ => .no
      | _ => .no
    | _ => .no
  | _ => .no := rfl
@[simp] theorem dSetK_ap (o i v : DE) (e : Env') (S : Store) : dSetK o i v e S = (v e S).st e fun y S1 => (o e S1).st e fun u S2 => (i e S2).st e fun x S3 => match u, x with
  | .o n, .v (.tup l) => match S3[n]?, intsW l with
    | some (.ru (.td ks) us), some k => if ks.length < 16777216 then .ok (.nx e) (S3.set n (.ru (.td (putKU k y ks us).1) (putKU k y ks us).2)) else .no
    | _, _ => .no
  | _, _ => .no := rfl
@[simp] theorem dIsU_ap (neg : Bool) (a b : DE) (e : Env') (S : Store) : dIsU neg a b e S = (a e S).bind fun u S1 => (b e S1).bind fun v S2 => match v with
  | .v .non => .ok (.v (.bl (if neg then !nonU u else nonU u))) S2
  | _ => .no := rfl
@[simp] theorem dDisp1_ap (k v : DE) (e : Env') (S : Store) : dDisp1 k v e S = (k e (S ++ [.ru (.td []) []])).bind fun x S1 => (v e S1).bind fun y S2 => match x with
  | .v (.tup l) => match intsW l, S2[S.length]? with
    | some kk, some (.ru (.td []) []) => .ok (.o S.length) (S2.set S.length (.ru (.td [kk]) [y]))
    | _, _ => .no
  | _ => .no := rfl
@[simp] theorem dSetF2_ap (c : Cl) (i : Nat) (o : DE) (c2 : Cl) (i2 : Nat) (o2 d : DE) (e : Env') (S : Store) : dSetF2 c i o c2 i2 o2 d e S = (d e S).st e fun uv S1 => match uv with
  | .v (.tup [w, z]) => (o e S1).st e fun u S2 => match stF c i S2 u (.v w) with
    | some S3 => (o2 e S3).st e fun u2 S4 => match stF c2 i2 S4 u2 (.v z) with
      | some S5 => .ok (.nx e) S5
      | none => .no
    | none => .no
  | _ => .no := rfl
end Bel

namespace Bel
open PySem PySem.Spec PyProof.Rows L2
def g__law_wanted_k4 : DS := (dRet (dC .non))
def g__law_wanted_k3 : DS := dSeq (dIfS (dAnd (dT (dBin false fInO (dBin false fIx (dVar 1) (dC (.int 0))) (dDisp false .nt (dCons (dC (.str [115, 116, 111, 112, 115])) (dCons (dC (.str [101, 110, 100, 115])) dNil))))) (dAnd (dT (dBin false fNe (dBin false fIx (dVar 1) (dC (.int 1))) (dDisp false .nt dNil))) (dT (dFn g__law_lives 2 (dCons (dVar 0) (dCons (dSl false (dBin false fIx (dVar 1) (dC (.int 1))) dNoPart (dPart (dNeg (dC (.int 1))))) dNil)))))) (dRet (dDisp false .nt (dCons (dC (.str [114, 117, 110, 103])) (dCons (dSl false (dBin false fIx (dVar 1) (dC (.int 1))) dNoPart (dPart (dNeg (dC (.int 1))))) (dCons (dC (.int 7)) dNil))))) dNext) g__law_wanted_k4
def g__law_wanted_k2 : DS := dSeq (dIfS (dAnd (dT (dBin false fEq (dBin false fIx (dVar 1) (dC (.int 0))) (dC (.str [114, 117, 110, 103])))) (dAnd (dT (dBin false fEq (dBin false fIx (dVar 1) (dC (.int 2))) (dC (.int 6)))) (dT (dBin false fEq (dBin false fIx (dFn g__law_way 2 (dCons (dVar 2) (dCons (dBin false fIx (dVar 1) (dC (.int 1))) dNil))) (dC (.int 0))) (dC (.str [115, 116, 111, 112, 115])))))) (dRet (dDisp false .nt (dCons (dC (.str [103, 111, 101, 115])) (dCons (dBin false fIx (dVar 1) (dC (.int 1))) dNil)))) dNext) g__law_wanted_k3
def g__law_wanted_k1 : DS := dSeq (dPar 1 2 (dCons (dBin false fIx (dVar 0) (dNeg (dC (.int 1)))) (dCons (dSl false (dVar 0) dNoPart (dPart (dNeg (dC (.int 1))))) dNil))) g__law_wanted_k2
def g__law_wanted_k0 : DS := dSeq (dIfS (dT (dBin false fEq (dVar 0) (dDisp false .nl dNil))) (dRet (dC .non)) dNext) g__law_wanted_k1
theorem g__law_wanted_st : ∃ (K0 K1 K2 K3 K4 : DS), (∀ (us : List U) (S : Store), g__law_wanted us S = fnR S.length (K0 (us.map some ++ List.replicate (3 - us.length) none) S)) ∧ (∀ (e : Env') (S : Store), K0 e S = ((dIfS (dT (dBin false fEq (dVar 0) (dDisp false .nl dNil))) (dRet (dC .non)) dNext) e S).bind K1) ∧ (∀ (e : Env') (S : Store), K1 e S = ((dPar 1 2 (dCons (dBin false fIx (dVar 0) (dNeg (dC (.int 1)))) (dCons (dSl false (dVar 0) dNoPart (dPart (dNeg (dC (.int 1))))) dNil))) e S).bind K2) ∧ (∀ (e : Env') (S : Store), K2 e S = ((dIfS (dAnd (dT (dBin false fEq (dBin false fIx (dVar 1) (dC (.int 0))) (dC (.str [114, 117, 110, 103])))) (dAnd (dT (dBin false fEq (dBin false fIx (dVar 1) (dC (.int 2))) (dC (.int 6)))) (dT (dBin false fEq (dBin false fIx (dFn g__law_way 2 (dCons (dVar 2) (dCons (dBin false fIx (dVar 1) (dC (.int 1))) dNil))) (dC (.int 0))) (dC (.str [115, 116, 111, 112, 115])))))) (dRet (dDisp false .nt (dCons (dC (.str [103, 111, 101, 115])) (dCons (dBin false fIx (dVar 1) (dC (.int 1))) dNil)))) dNext) e S).bind K3) ∧ (∀ (e : Env') (S : Store), K3 e S = ((dIfS (dAnd (dT (dBin false fInO (dBin false fIx (dVar 1) (dC (.int 0))) (dDisp false .nt (dCons (dC (.str [115, 116, 111, 112, 115])) (dCons (dC (.str [101, 110, 100, 115])) dNil))))) (dAnd (dT (dBin false fNe (dBin false fIx (dVar 1) (dC (.int 1))) (dDisp false .nt dNil))) (dT (dFn g__law_lives 2 (dCons (dVar 0) (dCons (dSl false (dBin false fIx (dVar 1) (dC (.int 1))) dNoPart (dPart (dNeg (dC (.int 1))))) dNil)))))) (dRet (dDisp false .nt (dCons (dC (.str [114, 117, 110, 103])) (dCons (dSl false (dBin false fIx (dVar 1) (dC (.int 1))) dNoPart (dPart (dNeg (dC (.int 1))))) (dCons (dC (.int 7)) dNil))))) dNext) e S).bind K4) ∧ (∀ (e : Env') (S : Store), K4 e S = (dRet (dC .non)) e S) := by
  refine ⟨g__law_wanted_k0, g__law_wanted_k1, g__law_wanted_k2, g__law_wanted_k3, g__law_wanted_k4, ?_⟩
  exact ⟨fun _ _ => rfl, fun _ _ => rfl, fun _ _ => rfl, fun _ _ => rfl, fun _ _ => rfl, fun _ _ => rfl⟩
def g__law_may_end_k3 : DS := (dRet ((dAndV (dVar 4) ((dOrV (dBin false fEq (dVar 3) (dC (.str [114, 117, 110, 115]))) ((dAndV (dBin false fEq (dVar 3) (dC (.str [115, 116, 111, 112, 115]))) (dBin false fEq (dVar 2) (dC (.int 100))))))))))
def g__law_may_end_k2 : DS := dSeq (dAsg 4 (dBin false fNeNil (dLc false (dItL (dVar 0)) (tgN 5) g__law_may_end_t1 (dC (.int 1)) [5]) (dDisp false .nl dNil))) g__law_may_end_k3
def g__law_may_end_k1 : DS := dSeq (dIfS (dT (dBin false (fCmp fun i j => decide (i < j)) (dVar 2) (dC (.int 100)))) (dRet (dBin false fEq (dVar 3) (dC (.str [114, 117, 110, 115])))) dNext) g__law_may_end_k2
def g__law_may_end_k0 : DS := dSeq (dAsg 3 (dBin false fIx (dFn g__law_way 2 (dCons (dVar 0) (dCons (dVar 1) dNil))) (dC (.int 0)))) g__law_may_end_k1
theorem g__law_may_end_st : ∃ (K0 K1 K2 K3 : DS), (∀ (us : List U) (S : Store), g__law_may_end us S = fnR S.length (K0 (us.map some ++ List.replicate (6 - us.length) none) S)) ∧ (∀ (e : Env') (S : Store), K0 e S = ((dAsg 3 (dBin false fIx (dFn g__law_way 2 (dCons (dVar 0) (dCons (dVar 1) dNil))) (dC (.int 0)))) e S).bind K1) ∧ (∀ (e : Env') (S : Store), K1 e S = ((dIfS (dT (dBin false (fCmp fun i j => decide (i < j)) (dVar 2) (dC (.int 100)))) (dRet (dBin false fEq (dVar 3) (dC (.str [114, 117, 110, 115])))) dNext) e S).bind K2) ∧ (∀ (e : Env') (S : Store), K2 e S = ((dAsg 4 (dBin false fNeNil (dLc false (dItL (dVar 0)) (tgN 5) g__law_may_end_t1 (dC (.int 1)) [5]) (dDisp false .nl dNil))) e S).bind K3) ∧ (∀ (e : Env') (S : Store), K3 e S = (dRet ((dAndV (dVar 4) ((dOrV (dBin false fEq (dVar 3) (dC (.str [114, 117, 110, 115]))) ((dAndV (dBin false fEq (dVar 3) (dC (.str [115, 116, 111, 112, 115]))) (dBin false fEq (dVar 2) (dC (.int 100)))))))))) e S) := by
  refine ⟨g__law_may_end_k0, g__law_may_end_k1, g__law_may_end_k2, g__law_may_end_k3, ?_⟩
  exact ⟨fun _ _ => rfl, fun _ _ => rfl, fun _ _ => rfl, fun _ _ => rfl, fun _ _ => rfl⟩
def g__law_may_k10 : DS := (dRet (dC (.bl true)))
def g__law_may_k9 : DS := dSeq (dIfS (dT (dBin false fEq (dBin false fIx (dVar 1) (dC (.int 0))) (dC (.str [116, 111, 108, 100])))) (dRet ((dAndV (dFn g__law_there 2 (dCons (dVar 0) (dCons (dBin false fAdd (dVar 3) (dDisp false .nt (dCons (dBin false fIx (dVar 1) (dC (.int 2))) dNil))) dNil))) (dBin false fEq (dFn g__law_untold 2 (dCons (dVar 0) (dCons (dBin false fAdd (dVar 3) (dDisp false .nt (dCons (dBin false fIx (dVar 1) (dC (.int 2))) dNil))) dNil))) (dBin false fIx (dVar 1) (dC (.int 3))))))) dNext) g__law_may_k10
def g__law_may_k8 : DS := dSeq (dIfS (dT (dBin false fEq (dBin false fIx (dVar 1) (dC (.int 0))) (dC (.str [115, 116, 111, 112, 115])))) (dRet (dFn g__law_halting 3 (dCons (dVar 0) (dCons (dVar 3) (dCons (dBin false fIx (dVar 1) (dC (.int 2))) dNil))))) dNext) g__law_may_k9
def g__law_may_k7 : DS := dSeq (dIfS (dNot (dT (dFn g__law_runs 2 (dCons (dVar 0) (dCons (dVar 3) dNil))))) (dRet (dC (.bl false))) dNext) g__law_may_k8
def g__law_may_k6 : DS := dSeq (dIfS (dT (dBin false fEq (dBin false fIx (dVar 1) (dC (.int 0))) (dC (.str [101, 110, 100, 115])))) (dRet (dFn g__law_may_end 3 (dCons (dVar 0) (dCons (dVar 3) (dCons (dBin false fIx (dVar 1) (dC (.int 2))) dNil))))) dNext) g__law_may_k7
def g__law_may_k5 : DS := dSeq (dIfS (dT (dBin false fEq (dBin false fIx (dVar 1) (dC (.int 0))) (dC (.str [114, 117, 110, 103])))) (dRet (dFn g__law_lives 2 (dCons (dVar 0) (dCons (dVar 3) dNil)))) dNext) g__law_may_k6
def g__law_may_k4 : DS := dSeq (dIfS (dOr (dNot (dT (dFn g__law_there 2 (dCons (dVar 0) (dCons (dVar 3) dNil))))) (dT (dBin false fEq (dBin false fIx (dVar 1) (dC (.int 0))) (dC (.str [103, 111, 101, 115]))))) (dRet (dC (.bl false))) dNext) g__law_may_k5
def g__law_may_k3 : DS := dSeq (dIfS (dT (dBin false fEq (dBin false fIx (dVar 1) (dC (.int 0))) (dC (.str [115, 116, 97, 114, 116, 115])))) (dSeq (dIfS (dOr (dT (dBin false fEq (dVar 3) (dDisp false .nt dNil))) (dNot (dT (dFn g__law_runs 2 (dCons (dVar 0) (dCons (dSl false (dVar 3) dNoPart (dPart (dNeg (dC (.int 1))))) dNil)))))) (dRet (dC (.bl false))) dNext)
    (dSeq (dAsg 4 (dCall false fLen (dCons (dLc false (dItL (dVar 0)) (tgN 5) g__law_may_t1 (dC (.int 1)) [5]) dNil)))
    (dRet ((dAndV (dBin false fEq (dBin false fIx (dVar 3) (dNeg (dC (.int 1)))) (dVar 4)) (dBin false fInD (dBin false fIx (dVar 1) (dC (.int 2))) (dDisp false .nt (dCons (dVar 3) (dCons (dFn g__law_group 2 (dCons (dVar 0) (dCons (dSl false (dVar 3) dNoPart (dPart (dNeg (dC (.int 1))))) dNil))) dNil))))))))) dNext) g__law_may_k4
def g__law_may_k2 : DS := dSeq (dAsg 3 (dBin false fIx (dVar 1) (dC (.int 1)))) g__law_may_k3
def g__law_may_k1 : DS := dSeq (dIfS (dT (dBin false fIsNot (dVar 2) (dC .non))) (dRet (dBin false fEq (dVar 1) (dVar 2))) dNext) g__law_may_k2
def g__law_may_k0 : DS := dSeq (dAsg 2 (dFn g__law_wanted 1 (dCons (dVar 0) dNil))) g__law_may_k1
theorem g__law_may_st : ∃ (K0 K1 K2 K3 K4 K5 K6 K7 K8 K9 K10 : DS), (∀ (us : List U) (S : Store), g__law_may us S = fnR S.length (K0 (us.map some ++ List.replicate (6 - us.length) none) S)) ∧ (∀ (e : Env') (S : Store), K0 e S = ((dAsg 2 (dFn g__law_wanted 1 (dCons (dVar 0) dNil))) e S).bind K1) ∧ (∀ (e : Env') (S : Store), K1 e S = ((dIfS (dT (dBin false fIsNot (dVar 2) (dC .non))) (dRet (dBin false fEq (dVar 1) (dVar 2))) dNext) e S).bind K2) ∧ (∀ (e : Env') (S : Store), K2 e S = ((dAsg 3 (dBin false fIx (dVar 1) (dC (.int 1)))) e S).bind K3) ∧ (∀ (e : Env') (S : Store), K3 e S = ((dIfS (dT (dBin false fEq (dBin false fIx (dVar 1) (dC (.int 0))) (dC (.str [115, 116, 97, 114, 116, 115])))) (dSeq (dIfS (dOr (dT (dBin false fEq (dVar 3) (dDisp false .nt dNil))) (dNot (dT (dFn g__law_runs 2 (dCons (dVar 0) (dCons (dSl false (dVar 3) dNoPart (dPart (dNeg (dC (.int 1))))) dNil)))))) (dRet (dC (.bl false))) dNext)
    (dSeq (dAsg 4 (dCall false fLen (dCons (dLc false (dItL (dVar 0)) (tgN 5) g__law_may_t1 (dC (.int 1)) [5]) dNil)))
    (dRet ((dAndV (dBin false fEq (dBin false fIx (dVar 3) (dNeg (dC (.int 1)))) (dVar 4)) (dBin false fInD (dBin false fIx (dVar 1) (dC (.int 2))) (dDisp false .nt (dCons (dVar 3) (dCons (dFn g__law_group 2 (dCons (dVar 0) (dCons (dSl false (dVar 3) dNoPart (dPart (dNeg (dC (.int 1))))) dNil))) dNil))))))))) dNext) e S).bind K4) ∧ (∀ (e : Env') (S : Store), K4 e S = ((dIfS (dOr (dNot (dT (dFn g__law_there 2 (dCons (dVar 0) (dCons (dVar 3) dNil))))) (dT (dBin false fEq (dBin false fIx (dVar 1) (dC (.int 0))) (dC (.str [103, 111, 101, 115]))))) (dRet (dC (.bl false))) dNext) e S).bind K5) ∧ (∀ (e : Env') (S : Store), K5 e S = ((dIfS (dT (dBin false fEq (dBin false fIx (dVar 1) (dC (.int 0))) (dC (.str [114, 117, 110, 103])))) (dRet (dFn g__law_lives 2 (dCons (dVar 0) (dCons (dVar 3) dNil)))) dNext) e S).bind K6) ∧ (∀ (e : Env') (S : Store), K6 e S = ((dIfS (dT (dBin false fEq (dBin false fIx (dVar 1) (dC (.int 0))) (dC (.str [101, 110, 100, 115])))) (dRet (dFn g__law_may_end 3 (dCons (dVar 0) (dCons (dVar 3) (dCons (dBin false fIx (dVar 1) (dC (.int 2))) dNil))))) dNext) e S).bind K7) ∧ (∀ (e : Env') (S : Store), K7 e S = ((dIfS (dNot (dT (dFn g__law_runs 2 (dCons (dVar 0) (dCons (dVar 3) dNil))))) (dRet (dC (.bl false))) dNext) e S).bind K8) ∧ (∀ (e : Env') (S : Store), K8 e S = ((dIfS (dT (dBin false fEq (dBin false fIx (dVar 1) (dC (.int 0))) (dC (.str [115, 116, 111, 112, 115])))) (dRet (dFn g__law_halting 3 (dCons (dVar 0) (dCons (dVar 3) (dCons (dBin false fIx (dVar 1) (dC (.int 2))) dNil))))) dNext) e S).bind K9) ∧ (∀ (e : Env') (S : Store), K9 e S = ((dIfS (dT (dBin false fEq (dBin false fIx (dVar 1) (dC (.int 0))) (dC (.str [116, 111, 108, 100])))) (dRet ((dAndV (dFn g__law_there 2 (dCons (dVar 0) (dCons (dBin false fAdd (dVar 3) (dDisp false .nt (dCons (dBin false fIx (dVar 1) (dC (.int 2))) dNil))) dNil))) (dBin false fEq (dFn g__law_untold 2 (dCons (dVar 0) (dCons (dBin false fAdd (dVar 3) (dDisp false .nt (dCons (dBin false fIx (dVar 1) (dC (.int 2))) dNil))) dNil))) (dBin false fIx (dVar 1) (dC (.int 3))))))) dNext) e S).bind K10) ∧ (∀ (e : Env') (S : Store), K10 e S = (dRet (dC (.bl true))) e S) := by
  refine ⟨g__law_may_k0, g__law_may_k1, g__law_may_k2, g__law_may_k3, g__law_may_k4, g__law_may_k5, g__law_may_k6, g__law_may_k7, g__law_may_k8, g__law_may_k9, g__law_may_k10, ?_⟩
  exact ⟨fun _ _ => rfl, fun _ _ => rfl, fun _ _ => rfl, fun _ _ => rfl, fun _ _ => rfl, fun _ _ => rfl, fun _ _ => rfl, fun _ _ => rfl, fun _ _ => rfl, fun _ _ => rfl, fun _ _ => rfl, fun _ _ => rfl⟩
end Bel

namespace Bel
open PySem PySem.Spec PyProof.Rows L2
mutual
/-- no error, no dict of tuples in it; no tuple longer than N -/
def okG (N : Nat) : W → Bool
  | .exc _ => false
  | .tdc _ => false
  | .tup l => decide (l.length ≤ N) && okGs N l
  | _ => true
def okGs (N : Nat) : List W → Bool
  | [] => true
  | w :: r => okG N w && okGs N r
end
section
variable {N : Nat}
@[simp] theorem okW_tup (l : List W) : okG N (.tup l) = (decide (l.length ≤ N) && okGs N l) := by rw [okG]
@[simp] theorem okW_int (i : Int) : okG N (.int i) = true := by simp [okG]
@[simp] theorem okW_str (i : List Nat) : okG N (.str i) = true := by simp [okG]
@[simp] theorem okW_bl (i : Bool) : okG N (.bl i) = true := by simp [okG]
@[simp] theorem okW_non : okG N .non = true := by simp [okG]
@[simp] theorem okW_lst (l : List W) : okG N (.lst l) = true := by simp [okG]
@[simp] theorem okW_dct (l : List (W × W)) : okG N (.dct l) = true := by simp [okG]
@[simp] theorem okW_kdc (l : List (List Nat × W)) : okG N (.kdc l) = true := by simp [okG]
@[simp] theorem okW_exc (c : Nat) : okG N (.exc c) = false := by simp [okG]
@[simp] theorem okW_tdc (l : List (List Int × W)) : okG N (.tdc l) = false := by simp [okG]
@[simp] theorem okWs_nil : okGs N [] = true := by rw [okGs]
@[simp] theorem okWs_cons (w : W) (r : List W) : okGs N (w :: r) = (okG N w && okGs N r) := by rw [okGs]
theorem okWs_iff {l : List W} : okGs N l = true ↔ ∀ w ∈ l, okG N w = true := by
  induction l with
  | nil => simp
  | cons a r ih => simp [ih]
theorem ok_exc {w : W} (h : okG N w = true) : isExc w = false := by
  cases w with
  | exc c => simp at h
  | tdc l => simp at h
  | _ => rfl
theorem ok_tup {l : List W} (h : okG N (.tup l) = true) : l.length ≤ N ∧ ∀ w ∈ l, okG N w = true := by
  rw [okW_tup, Bool.and_eq_true, decide_eq_true_eq, okWs_iff] at h
  exact h
end
mutual
theorem okG_up {N M : Nat} (hl : N ≤ M) : ∀ {w : W}, okG N w = true → okG M w = true
  | .tup l, h => by
    rw [okW_tup, Bool.and_eq_true, decide_eq_true_eq] at h ⊢
    exact ⟨by omega, okGs_up hl h.2⟩
  | .exc c, h => by simp at h
  | .tdc c, h => by simp at h
  | .non, _ => by simp
  | .bl _, _ => by simp
  | .int _, _ => by simp
  | .str _, _ => by simp
  | .lst _, _ => by simp
  | .dct _, _ => by simp
  | .kdc _, _ => by simp
theorem okGs_up {N M : Nat} (hl : N ≤ M) : ∀ {l : List W}, okGs N l = true → okGs M l = true
  | [], _ => by simp
  | w :: r, h => by
    rw [okWs_cons, Bool.and_eq_true] at h ⊢
    exact ⟨okG_up hl h.1, okGs_up hl h.2⟩
end
/-- a number between -/
def btw (a b : Int) : W → Bool
  | .int i => decide (a ≤ i ∧ i ≤ b)
  | _ => false
def btws (a b : Int) : W → Bool
  | .tup l => l.all (btw a b)
  | _ => false
section
variable {S : Store}
theorem between_w {w : W} {a b : Int} (h : isExc w = false) : g_is_between [.v w, .v (.int a), .v (.int b)] S = .ok (.v (.bl (btw a b w))) S := by
  cases w with
  | int i => by_cases h0 : a ≤ i <;> simp [g_is_between, btw, h0]
  | bl b => simp [g_is_between, btw]
  | exc c => cases h
  | tdc l => cases h
  | kdc l => simp [g_is_between, btw, isInt, isExc]
  | _ => simp [g_is_between, btw]
/-- all of a comprehension over a tuple -/
theorem lcL_all {t : W → Env' → Option Env'} {te : DE} {env : Env'} {p : W → Bool} {l : List W} (h : ∀ w ∈ l, ∃ e1, t w env = some e1 ∧ te e1 S = .ok (.v (.bl (p w))) S) : lcL t dYes te env l S = .ok (l.map fun w => W.bl (p w)) S := by
  have := lcL_map (t := t) (te := te) (env := env) (S := S) (fun w : W => w) (fun w => W.bl (p w)) l h
  simpa using this
theorem betweens_w {w : W} {a b : Int} (h : okG 63 w = true) : g_are_between [.v w, .v (.int a), .v (.int b)] S = .ok (.v (.bl (btws a b w))) S := by
  cases w with
  | tup l =>
    obtain ⟨hl, hw⟩ := ok_tup h
    have h2 : l.length ≤ 16777216 := by omega
    have hc : lcL (tgN 3) dYes g_are_between_e1 [some (.v (.tup l)), some (.v (.int a)), some (.v (.int b)), none] l S = .ok (l.map fun w => W.bl (btw a b w)) S :=
      lcL_all fun w z => ⟨_, rfl, by simp [g_are_between_e1, between_w (ok_exc (hw w z))]⟩
    simp [g_are_between, btws, h2, hc, wipeE, fAll_map]
  | exc c => simp [okG] at h
  | tdc c => simp [okG] at h
  | kdc l => simp [g_are_between, btws, isTup, isExc]
  | _ => simp [g_are_between, btws]
end
def rise {α : Type} (lt : α → α → Bool) : List α → Bool
  | a :: b :: r => lt a b && rise lt (b :: r)
  | _ => true
@[simp] theorem rise_nil {α : Type} (lt : α → α → Bool) : rise lt [] = true := rfl
@[simp] theorem rise_one {α : Type} (lt : α → α → Bool) (a : α) : rise lt [a] = true := rfl
@[simp] theorem rise_two {α : Type} (lt : α → α → Bool) (a b : α) (r : List α) : rise lt (a :: b :: r) = (lt a b && rise lt (b :: r)) := rfl
end Bel

namespace Bel
open PySem PySem.Spec PyProof.Rows L2
def ltI (a b : Int) : Bool := decide (a < b)
def ltX (a b : List Nat) : Bool := decide (a < b)
def strOf : W → List Nat
  | .str x => x
  | _ => []
def numOf : W → Int
  | .int i => i
  | _ => 0
theorem btw_num {a b : Int} {w : W} (h : btw a b w = true) : w = .int (numOf w) ∧ a ≤ numOf w ∧ numOf w ≤ b := by
  cases w with
  | int i => simp [btw] at h; exact ⟨rfl, h⟩
  | _ => cases h
theorem btws_num {a b : Int} : ∀ {l : List W}, l.all (btw a b) = true → l = nrs (l.map numOf)
  | [], _ => rfl
  | w :: r, h => by
    rw [List.all_cons, Bool.and_eq_true] at h
    have := btws_num h.2
    unfold nrs at this ⊢
    rw [List.map_cons, List.map_cons, ← this, ← (btw_num h.1).1]
def prs : List W → Option (List (W × W))
  | [] => some []
  | .tup [a, b] :: r => (prs r).map ((a, b) :: ·)
  | _ => none
def prsW : W → Option (List (W × W))
  | .tup l => prs l
  | _ => none
section
variable {S : Store}
def tnW : W → Bool
  | .tup l => l.all (btw 0 29) && decide (l.length ≤ 4)
  | _ => false
theorem task_name_w {w : W} (h : okG 63 w = true) : g_is_task_name [.v w] S = .ok (.v (.bl (tnW w))) S := by
  have e := betweens_w (S := S) (a := 0) (b := 29) h
  cases w with
  | tup l =>
    have e2 : ((l.length : Int) ≤ 4) ↔ l.length ≤ 4 := by omega
    cases hb : l.all (btw 0 29) <;> simp [g_is_task_name, c_MOST_NAMED, c_MOST_DEEP, e, btws, hb, tnW, e2]
  | exc c => simp [okG] at h
  | tdc c => simp [okG] at h
  | _ => simp [g_is_task_name, c_MOST_NAMED, c_MOST_DEEP, e, btws, tnW]
def boxOk (p : W × W) : Bool := isnm p.1 && btw 1 999 p.2
def boxesW (w : W) : Bool := match prsW w with
  | some ps => ps.all boxOk && rise ltX (ps.map fun p => strOf p.1)
  | none => false
def bellsW (a : Int) : W → Bool
  | .tup l => l.all (btw a 7) && rise ltI (l.map numOf)
  | _ => false
end
end Bel

namespace Bel
open PySem PySem.Spec PyProof.Rows L2
def trapsW (last : Int) (w : W) : Bool := match prsW w with
  | some ps => ps.all (fun p => btw (-1) last p.2) && ((ps.map (·.1)).all (btw 2 7) && rise ltI (ps.map fun p => numOf p.1))
  | none => false
def waysW (last : Int) (w : W) : Bool := match prsW w with
  | some ps => ps.all (fun p => btw 0 last p.1) && ((ps.map (·.2)).all (btw 2 7) && rise ltI (srtI (ps.map fun p => numOf p.2)))
  | none => false
section
variable {S : Store} {last : Int}
def stat : W → Bool
  | .int i => decide (0 ≤ i ∧ i ≤ 99) || decide (i = 100 ∨ i = 103 ∨ i = 104 ∨ i = 105)
  | _ => false
theorem status_w {w : W} (h : isExc w = false) : g_is_status [.v w] S = .ok (.v (.bl (stat w))) S := by
  have e1 := between_w (S := S) (a := 0) (b := 99) h
  have e2 := between_w (S := S) (a := 100) (b := 105) h
  cases w with
  | int i =>
    have e3 : fInO (.int i) c_BY_BELLS = some (.val (.bl (decide (i = 100 ∨ i = 103 ∨ i = 104 ∨ i = 105)))) := by
      have q : ∀ j : Int, eqD (.int j) (.int i) = decide (j = i) := fun j => by
        have := @eq_int j i
        rw [fEq_is rfl rfl] at this
        simpa using this
      show ((if isFlat (.int i) = true ∧ [W.int 100, .int 103, .int 104, .int 105].all isFlat = true then some ([W.int 100, .int 103, .int 104, .int 105].any fun y => eqD y (.int i)) else none).map _) = _
      rw [if_pos ⟨rfl, rfl⟩]
      simp only [List.any_cons, List.any_nil, q, Bool.or_false, Option.map_some]
      congr 3
      rw [Bool.eq_iff_iff]
      simp only [Bool.or_eq_true, decide_eq_true_eq]
      omega
    simp only [btw] at e1 e2
    by_cases h1 : 0 ≤ i ∧ i ≤ 99
    · simp [g_is_status, e1, stat, h1]
    · by_cases h2 : 100 ≤ i ∧ i ≤ 105
      · simp [g_is_status, e1, e2, e3, stat, h1, h2]
      · have h3 : ¬ (i = 100 ∨ i = 103 ∨ i = 104 ∨ i = 105) := by omega
        simp [g_is_status, e1, e2, stat, h1, h2, h3]
  | exc c => cases h
  | tdc c => cases h
  | _ => simp only [btw] at e1 e2; simp [g_is_status, e1, e2, stat]
end
end Bel

namespace Bel
open PySem PySem.Spec PyProof.Rows L2
abbrev tRuns : List Nat := [114, 117, 110, 115]
abbrev tStops : List Nat := [115, 116, 111, 112, 115]
abbrev tEnded : List Nat := [101, 110, 100, 101, 100]
def howW : W → Bool
  | .tup [.str x] => decide (x = tRuns)
  | .tup [.str x, v] => if x = tStops then btw 1 2 v else decide (x = tEnded) && stat v
  | _ => false
theorem eqI (i j : Int) : eqD (.int i) (.int j) = decide (i = j) := by
  have h := @eq_int i j
  rw [fEq_is rfl rfl] at h
  simpa using h
section
variable {S : Store}
end
def lookI (b : Int) (ts : List (Int × Int)) : Option Int := (ts.find? fun p => decide (p.1 = b)).map (·.2)
def heardB (bs : List Int) (ts : List (Int × Int)) : Bool := bs.all fun b => !decide ((lookI b ts).getD (if 6 ≤ b then -1 else 0) = -1)
abbrev it (p : Int × Int) : W := .tup [.int p.1, .int p.2]
end Bel

namespace Bel
open PySem PySem.Spec PyProof.Rows L2
section
variable {n g s p b h u q d t y k a : W}
theorem x13_0 : fIx (.tup [n, g, s, p, b, h, u, q, d, t, y, k, a]) (.int 0) = some (.val n) := by rw [ixT_pk (by decide) (by simp)]; rfl
theorem x13_1 : fIx (.tup [n, g, s, p, b, h, u, q, d, t, y, k, a]) (.int 1) = some (.val g) := by rw [ixT_pk (by decide) (by simp)]; rfl
theorem x13_2 : fIx (.tup [n, g, s, p, b, h, u, q, d, t, y, k, a]) (.int 2) = some (.val s) := by rw [ixT_pk (by decide) (by simp)]; rfl
theorem x13_5 : fIx (.tup [n, g, s, p, b, h, u, q, d, t, y, k, a]) (.int 5) = some (.val h) := by rw [ixT_pk (by decide) (by simp)]; rfl
theorem x13_6 : fIx (.tup [n, g, s, p, b, h, u, q, d, t, y, k, a]) (.int 6) = some (.val u) := by rw [ixT_pk (by decide) (by simp)]; rfl
theorem x13_11 : fIx (.tup [n, g, s, p, b, h, u, q, d, t, y, k, a]) (.int 11) = some (.val k) := by rw [ixT_pk (by decide) (by simp)]; rfl
end
def emp : W → Bool
  | .tup [] => true
  | _ => false
def runsB : W → Bool
  | .tup [.str x] => decide (x = tRuns)
  | _ => false
def endedB : W → Bool
  | .tup (.str x :: _) => decide (x = tEnded)
  | _ => false
theorem how_cases {w : W} (h : howW w = true) : w = .tup [.str tRuns] ∨ (∃ i, w = .tup [.str tStops, .int i]) ∨ ∃ i, w = .tup [.str tEnded, .int i] := by
  unfold howW at h
  split at h
  · exact .inl (by rw [of_decide_eq_true h])
  · rename_i x v
    split at h
    · rename_i hx
      subst hx
      exact .inr (.inl ⟨numOf v, by rw [← (btw_num h).1]⟩)
    · rw [Bool.and_eq_true] at h
      have h1 := of_decide_eq_true h.1
      subst h1
      cases v with
      | int i => exact .inr (.inr ⟨i, rfl⟩)
      | _ => cases h.2
  · cases h
theorem eqD_lc (x : W) (l : List W) (z : W) (m : List W) : eqD (.lst (x :: l)) (.lst (z :: m)) = (eqD x z && eqD (.lst l) (.lst m)) := rfl
theorem eqD_tc (x : W) (l : List W) (z : W) (m : List W) : eqD (.tup (x :: l)) (.tup (z :: m)) = (eqD x z && eqD (.tup l) (.tup m)) := rfl
theorem shps_of {m : Nat} {l : List W} (h : ∀ w ∈ l, shp m w = true) : shps m l = true := by
  induction l with
  | nil => simp [shps]
  | cons x r ih => simp only [shps, Bool.and_eq_true]; exact ⟨h x (by simp), ih fun w hw => h w (by simp [hw])⟩
def idleB (p : Int) (h : W) (u : Bool) (six : List W) : Bool := decide (p = 0) && (runsB h && (!u && six.all emp))
section
variable {S : Store} {n g s b h q d t y k a : W} {p : Int} {u : Bool}
end
end Bel

namespace Bel
open PySem PySem.Spec PyProof.Rows L2
def wlen : W → Nat
  | .tup l => l.length
  | _ => 0
def bellsOf : W → List Int
  | .tup l => l.map numOf
  | _ => []
def trapsOf (w : W) : List (Int × Int) := match prsW w with
  | some ps => ps.map fun p => (numOf p.1, numOf p.2)
  | none => []
abbrev Yb := List (List Nat × List W)
abbrev bw (p : List Nat × List W) : W × W := (.str p.1, .tup p.2)
def lastB (B : Yb) (s : List Nat) : Int := (((B.lookup s).getD []).length : Nat)
/-- a task, part by part -/
def taskB (B : Yb) (n g : W) (s : List Nat) (p b h : W) (u : Bool) (q d t y k a : W) : Bool :=
  tnW n && (tnW g && ((decide (s = []) || (B.lookup s).isSome) && (btw 0 (lastB B s) p && (boxesW b && (howW h && (bellsW 0 q && (bellsW 2 d && (trapsW (lastB B s) t && (waysW (lastB B s) y && (btws 0 999 a &&
    (btw 0 (if wlen n < 4 then (if s = [] then 30 else 9) else 0) k && (!(endedB h && !(emp q && (emp d && emp y))) && (heardB (bellsOf q) (trapsOf t) && (!decide (s = []) || idleB (numOf p) h u [b, q, d, t, y, a]))))))))))))))
def taskW (B : Yb) : W → Bool
  | .tup [n, g, .str s, p, b, h, .bl u, q, d, t, y, k, a] => taskB B n g s p b h u q d t y k a
  | _ => false
section
variable {S : Store} {B : Yb} {n g p b h q d t y k a : W} {s : List Nat} {u : Bool}
end
end Bel

namespace Bel
open PySem PySem.Spec PyProof.Rows L2
section
variable {S : Store} {B : Yb}
end
def numsOf : W → List Int
  | .tup l => l.map numOf
  | _ => []
/-- a task's parts -/
structure Tp where
  name : List Int
  group : List Int
  script : List Nat
  how : W
  untold : Bool
  started : Int
  w : W
/-- w is a task with these parts -/
structure IsTp (w : W) (T : Tp) : Prop where
  ww : T.w = w
  nm : fIx w (.int 0) = some (.val (.tup (nrs T.name)))
  gr : fIx w (.int 1) = some (.val (.tup (nrs T.group)))
  sc : fIx w (.int 2) = some (.val (.str T.script))
  hw : fIx w (.int 5) = some (.val T.how)
  un : fIx w (.int 6) = some (.val (.bl T.untold))
  st : fIx w (.int 11) = some (.val (.int T.started))
  h0 : ∃ x, fIx T.how (.int 0) = some (.val (.str x)) ∧ (endedB T.how = decide (x = tEnded)) ∧ runsB T.how = decide (x = tRuns)
  nl : T.name.length ≤ 4 ∧ ∀ i ∈ T.name, 0 ≤ i ∧ i ≤ 29
  gl : T.group.length ≤ 4 ∧ ∀ i ∈ T.group, 0 ≤ i ∧ i ≤ 29
  sb : 0 ≤ T.started ∧ T.started ≤ 30
  ex : isExc w = false
theorem tn_form {w : W} (h : tnW w = true) : w = .tup (nrs (numsOf w)) ∧ (numsOf w).length ≤ 4 ∧ ∀ i ∈ numsOf w, 0 ≤ i ∧ i ≤ 29 := by
  cases w with
  | tup l =>
    rw [tnW, Bool.and_eq_true, decide_eq_true_eq] at h
    refine ⟨congrArg W.tup (btws_num h.1), by simpa [numsOf] using h.2, fun i hi => ?_⟩
    obtain ⟨w, hw, rfl⟩ := List.mem_map.mp hi
    exact (btw_num (List.all_eq_true.mp h.1 w hw)).2
  | _ => cases h
theorem how0' {h : W} (hh : howW h = true) : ∃ x, fIx h (.int 0) = some (.val (.str x)) ∧ (endedB h = decide (x = tEnded)) ∧ runsB h = decide (x = tRuns) := by
  rcases how_cases hh with rfl | ⟨i, rfl⟩ | ⟨i, rfl⟩
  · exact ⟨_, ix0_tup, rfl, rfl⟩
  · exact ⟨_, ix0_tup, rfl, rfl⟩
  · exact ⟨_, ix0_tup, rfl, rfl⟩
/-- the parts of what is a task -/
def tpOf : W → Tp
  | .tup [n, g, .str s, p, b, h, .bl u, q, d, t, y, k, a] => ⟨numsOf n, numsOf g, s, h, u, numOf k, .tup [n, g, .str s, p, b, h, .bl u, q, d, t, y, k, a]⟩
  | w => ⟨[], [], [], .non, false, 0, w⟩
theorem tp_of {B : Yb} {w : W} (h : taskW B w = true) : IsTp w (tpOf w) := by
  unfold taskW at h
  split at h
  · rename_i n g s p b hh u q d t y k a
    unfold taskB at h
    simp only [Bool.and_eq_true] at h
    obtain ⟨h1, h2, h3, h4, h5, h6, h7, h8, h9, h10, h11, h12, h13, h14, h15⟩ := h
    obtain ⟨n1, n2, n3⟩ := tn_form h1
    obtain ⟨g1, g2, g3⟩ := tn_form h2
    obtain ⟨k1, k2, k3⟩ := btw_num h12
    refine ⟨rfl, ?_, ?_, x13_2, x13_5, x13_6, ?_, how0' h6, ⟨n2, n3⟩, ⟨g2, g3⟩, ⟨k2, ?_⟩, rfl⟩
    · rw [x13_0]
      show some (Out.val n) = some (Out.val (.tup (nrs (numsOf n))))
      rw [← n1]
    · rw [x13_1]
      show some (Out.val g) = some (Out.val (.tup (nrs (numsOf g))))
      rw [← g1]
    · rw [x13_11]
      show some (Out.val k) = some (Out.val (.int (numOf k)))
      rw [← k1]
    · show numOf k ≤ 30
      refine Int.le_trans k3 ?_
      split
      · split <;> decide
      · decide
  · cases h
end Bel

namespace Bel
open PySem PySem.Spec PyProof.Rows L2
abbrev tn (l : List Int) : W := .tup (nrs l)
theorem nrs_len (l : List Int) : (nrs l).length = l.length := List.length_map ..
theorem eqD_nrs : ∀ l m : List Int, eqD (tn l) (tn m) = decide (l = m)
  | [], [] => rfl
  | [], _ :: _ => rfl
  | _ :: _, [] => rfl
  | a :: l, b :: m => by
    have ih := eqD_nrs l m
    show eqD (.tup (.int a :: nrs l)) (.tup (.int b :: nrs m)) = _
    rw [eqD_tc, eqI, ih, Bool.eq_iff_iff]
    simp
theorem shp_nrs (l : List Int) (m : Nat) (h : 1 ≤ m) : shp m (tn l) = true := by
  obtain ⟨m, rfl⟩ : ∃ j, m = j + 1 := ⟨m - 1, by omega⟩
  show shps m (nrs l) = true
  refine shps_of fun w hw => ?_
  obtain ⟨i, _, rfl⟩ := List.mem_map.mp hw
  cases m <;> rfl
theorem fEq_nrs (l m : List Int) : fEq (tn l) (tn m) = some (.val (.bl (decide (l = m)))) := by
  rw [fEq_is (shp_nrs l 64 (by decide)) (shp_nrs m 64 (by decide)), eqD_nrs]
theorem fEq_nil (l : List Int) : fEq (tn l) (.tup []) = some (.val (.bl (decide (l = [])))) := fEq_nrs l []
def lastI (l : List Int) : Int := l.getLastD 0
theorem ix_last {l : List Int} (h : l ≠ []) : fIx (tn l) (.int (-1)) = some (.val (.int (lastI l))) := by
  have e : atW (nrs l) (-1) = some (.int (lastI l)) := by
    obtain ⟨r, a, rfl⟩ : ∃ r a, l = r ++ [a] := ⟨l.dropLast, l.getLast h, (List.dropLast_concat_getLast h).symm⟩
    unfold atW ixN nrs lastI
    have h1 : (1 : Int) ≤ r.length + 1 := by omega
    have h2 : (-1 + ((r.length : Int) + 1)).toNat = r.length := by omega
    simp [h1, h2]
  show (atW (nrs l) (-1)).map Out.val = _
  rw [e]; rfl
theorem cut_last (l : List Int) : cutL (nrs l) none (some (-1)) = nrs l.dropLast := by
  unfold nrs
  rw [List.map_dropLast, List.dropLast_eq_take]
  simp [cutL, HT.sIx]
  omega
/-- a comprehension with a test, over mapped items -/
theorem lcL_mapf {α : Type} {t : W → Env' → Option Env'} {tt : DT} {te : DE} {env : Env'} {S : Store} (f : α → W) (p : α → Bool) (g : α → W) : ∀ xs : List α, (∀ x ∈ xs, ∃ e1, t (f x) env = some e1 ∧ tt e1 S = .ok (p x) S ∧ (p x = true → te e1 S = .ok (.v (g x)) S)) → lcL t tt te env (xs.map f) S = .ok ((xs.filter p).map g) S
  | [], _ => rfl
  | x :: r, h => by
    obtain ⟨e1, h1, h2, h3⟩ := h x List.mem_cons_self
    have ih := lcL_mapf (t := t) (tt := tt) (te := te) (env := env) (S := S) f p g r fun w hw => h w (List.mem_cons_of_mem _ hw)
    rw [List.map_cons, lcL_cons, h1]
    simp only [h2, Re.bindX_ok]
    cases q : p x with
    | true => simp [h3 q, ih, List.filter_cons, q]
    | false => simp [ih, List.filter_cons, q]
def findT (Ts : List Tp) (k : List Int) : Option Tp := Ts.find? fun T => decide (T.name = k)
def sisP (Ts : List Tp) (nm : List Int) : Bool := match findT Ts nm with
  | some U => decide (U.group = nm)
  | none => false
def sisB (Ts : List Tp) (T st : Tp) : List (List Int) := if st.script = [] then ((List.range (lastI T.name).toNat).map fun i : Nat => st.name ++ [(i : Int)]).filter (sisP Ts) else []
section
variable {S : Store} {Ts : List Tp} {T st : Tp}
end
end Bel

namespace Bel
open PySem PySem.Spec PyProof.Rows L2
abbrev xStarts : List Nat := [115, 116, 97, 114, 116, 115]
abbrev xSays : List Nat := [115, 97, 121, 115]
abbrev xRung : List Nat := [114, 117, 110, 103]
abbrev xStops : List Nat := [115, 116, 111, 112, 115]
abbrev xGoes : List Nat := [103, 111, 101, 115]
abbrev xEnds : List Nat := [101, 110, 100, 115]
abbrev xTold : List Nat := [116, 111, 108, 100]
abbrev xRuns : List Nat := [114, 117, 110, 115]
abbrev xEnded : List Nat := [101, 110, 100, 101, 100]
/-- a row of a record -/
inductive Rw where
  | starts (n g : List Int) | says (n : List Int) (k : Int) | rung (n : List Int) (b : Int) | stops (n : List Int) (b : Int) | goes (n : List Int) | ends (n : List Int) (s : Int) | told (n : List Int) (k s : Int)
deriving DecidableEq
def Rw.w : Rw → W
  | .starts n g => .tup [.str xStarts, tn n, tn g]
  | .says n k => .tup [.str xSays, tn n, .int k]
  | .rung n b => .tup [.str xRung, tn n, .int b]
  | .stops n b => .tup [.str xStops, tn n, .int b]
  | .goes n => .tup [.str xGoes, tn n]
  | .ends n s => .tup [.str xEnds, tn n, .int s]
  | .told n k s => .tup [.str xTold, tn n, .int k, .int s]
/-- what a record has told of a task -/
structure St where
  group : List Int
  way : Nat
  status : Option Int
  untold : Bool
  many : Int
  ever : List Int
  halting : List Int
deriving DecidableEq
def St.new (g : List Int) : St := ⟨g, 0, none, false, 0, [], []⟩
/-- the tasks (the last told first), the row that is due -/
structure Ct where
  kn : List (List Int × St)
  due : Option Rw
def Ct.new : Ct := ⟨[([], .new [])], none⟩
namespace Ct
def runs (C : Ct) (n : List Int) : Bool := match C.kn.lookup n with
  | some s => s.way == 0
  | none => false
def lives (C : Ct) (n : List Int) : Bool := match C.kn.lookup n with
  | some s => s.way != 2
  | none => false
def put (C : Ct) (n : List Int) (s : St) : Ct := ⟨(n, s) :: C.kn, C.due⟩
def pause (C : Ct) (n : List Int) (s : St) (way : Nat) (status : Int) : Ct :=
  let C1 := C.put n { s with way := way, status := some status, untold := true }
  if n ≠ [] ∧ C1.lives n.dropLast = true then { C1 with due := some (.rung n.dropLast 7) } else C1
def by_ (C : Ct) (aw : Bool) : Rw → Option Ct
  | .goes n => if aw = true then (C.kn.lookup n).map fun s => C.put n { s with way := 0, untold := false } else none
  | .starts n g => if n = [] ∨ C.runs n.dropLast = false then none else
      (C.kn.lookup n.dropLast).bind fun s => if lastI n ≠ s.many ∨ ¬ (g = n ∨ g = s.group) then none else
        some ((C.put n.dropLast { s with many := s.many + 1 }).put n (.new g))
  | .says n _ => if C.runs n = true then some C else none
  | .rung n b => if C.lives n = true then (C.kn.lookup n).map fun s =>
      let h := if b = 1 ∨ b = 2 then s.halting ++ [b] else s.halting
      let C1 := C.put n { s with ever := s.ever ++ [b], halting := if b = 6 then [] else h }
      if b = 6 ∧ s.way = 1 then { C1 with due := some (.goes n) } else C1 else none
  | .stops n b => if C.runs n = true then (C.kn.lookup n).bind fun s => if b ∈ s.halting then some (C.pause n s 1 (200 + b)) else none else none
  | .ends n st => if C.lives n = true then (C.kn.lookup n).bind fun s =>
      if (st < 100 ∧ s.way ≠ 0) ∨ (100 ≤ st ∧ st - 100 ∉ s.ever) ∨ (s.way = 1 ∧ st ≠ 100) then none else some (C.pause n s 2 st) else none
  | .told n k st => if C.runs n = true then (C.kn.lookup (n ++ [k])).bind fun s => if s.untold = true ∧ s.status = some st then some (C.put (n ++ [k]) { s with untold := false }) else none else none
/-- a row that comes: what is known then, where it may come -/
def letsBy (C : Ct) (r : Rw) : Option Ct := if C.due.isSome = true ∧ C.due ≠ some r then none else by_ { C with due := none } C.due.isSome r
/-- the judge: the number of the first row that may not come -/
def judge (C : Ct) : List Rw → Nat → Option Nat
  | [], j => if C.due.isSome = true then some j else none
  | r :: rs, j => match C.letsBy r with
    | some C' => judge C' rs (j + 1)
    | none => some j
end Ct
def judgeP (rs : List Rw) : Option Nat := Ct.new.judge rs 0
def wayW (n : Nat) : W := .str (if n = 0 then xRuns else if n = 1 then xStops else xEnded)
def stW (o : Option Int) : W := (o.map W.int).getD .non
def dueW (o : Option Rw) : W := (o.map Rw.w).getD .non
abbrev stdOb (s : St) (e h : Nat) : Ob := .ru (.ins cl_Standing) [.v (tn s.group), .v (wayW s.way), .v (stW s.status), .v (.bl s.untold), .v (.int s.many), .o e, .o h]
structure CtR (S : Store) (c k : Nat) (C : Ct) (ad : List Int → Option (Nat × Nat × Nat)) (N : Nat) : Prop where
  hc : S[c]? = some (.ru (.ins cl_Court) [.o k, .v (dueW C.due)])
  hk : ∃ ks us, S[k]? = some (.ru (.td ks) us) ∧ ks.length = us.length ∧ ks.length ≤ N ∧ ∀ n, lookKU n ks us = (ad n).map fun p => .o p.1
  hs : ∀ n p, ad n = some p → ∃ s, C.kn.lookup n = some s ∧ S[p.1]? = some (stdOb s p.2.1 p.2.2) ∧ S[p.2.1]? = some (.lst (nrs s.ever)) ∧ S[p.2.2]? = some (.lst (nrs s.halting)) ∧ s.way < 3 ∧ s.ever.length ≤ N ∧ s.halting.length ≤ N
  hn : ∀ n, ad n = none → C.kn.lookup n = none
  inj : ∀ n m p q, ad n = some p → ad m = some q → n ≠ m → p.1 ≠ q.1 ∧ p.2.1 ≠ q.2.1 ∧ p.2.1 ≠ q.2.2 ∧ p.2.2 ≠ q.2.1 ∧ p.2.2 ≠ q.2.2
  ne : ∀ n p, ad n = some p → p.2.1 ≠ p.2.2
  due : ∀ n, C.due = some (.goes n) → (ad n).isSome = true
section
variable {S : Store} {c k N : Nat} {C : Ct} {ad : List Int → Option (Nat × Nat × Nat)}
theorem CtR.none_or (R : CtR S c k C ad N) (n : List Int) : (ad n = none ∧ C.kn.lookup n = none) ∨ ∃ p s, ad n = some p ∧ C.kn.lookup n = some s ∧ S[p.1]? = some (stdOb s p.2.1 p.2.2) ∧ S[p.2.1]? = some (.lst (nrs s.ever)) ∧ S[p.2.2]? = some (.lst (nrs s.halting)) ∧ s.way < 3 ∧ s.ever.length ≤ N ∧ s.halting.length ≤ N := by
  cases e : ad n with
  | none => exact .inl ⟨rfl, R.hn n e⟩
  | some p => obtain ⟨s, h⟩ := R.hs n p e; exact .inr ⟨p, s, rfl, h⟩
theorem way_eq {n : Nat} (h : n < 3) : eqD (wayW n) (.str xRuns) = (n == 0) ∧ eqD (wayW n) (.str xStops) = (n == 1) ∧ eqD (wayW n) (.str xEnded) = (n == 2) := by
  have : n = 0 ∨ n = 1 ∨ n = 2 := by omega
  rcases this with rfl | rfl | rfl <;> simp [wayW]
theorem shp_way (n m : Nat) : shp m (wayW n) = true := by cases m <;> simp [wayW, shp]
theorem fEq_way {n : Nat} (h : n < 3) : fEq (wayW n) (.str xRuns) = some (.val (.bl (n == 0))) ∧ fEq (wayW n) (.str xStops) = some (.val (.bl (n == 1))) ∧ fNe (wayW n) (.str xEnded) = some (.val (.bl (n != 2))) ∧ fNe (wayW n) (.str xRuns) = some (.val (.bl (n != 0))) := by
  obtain ⟨h1, h2, h3⟩ := way_eq h
  have s1 := shp_way n 64
  exact ⟨by rw [fEq_is s1 rfl, h1], by rw [fEq_is s1 rfl, h2], by rw [fNe_is s1 rfl, h3]; rfl, by rw [fNe_is s1 rfl, h1]; rfl⟩
theorem runs_ok (R : CtR S c k C ad N) (n : List Int) : g_Court_runs [.o c, .v (tn n)] S = .ok (.v (.bl (C.runs n))) S := by
  have hc := R.hc
  obtain ⟨ks, us, hk, -, -, hl⟩ := R.hk
  have ln := hl n
  rcases R.none_or n with ⟨e, e2⟩ | ⟨p, s, e, e2, h1, h2, h3, hw, -⟩
  · simp [g_Court_runs, fnX_ap, hc, hk, ln, e, Ct.runs, e2, intsW_ints]
  · obtain ⟨w1, w2, w3, w4⟩ := fEq_way hw
    simp [g_Court_runs, fnX_ap, hc, hk, ln, e, Ct.runs, e2, intsW_ints, h1, w1]
theorem lives_ok (R : CtR S c k C ad N) (n : List Int) : g_Court_lives [.o c, .v (tn n)] S = .ok (.v (.bl (C.lives n))) S := by
  have hc := R.hc
  obtain ⟨ks, us, hk, -, -, hl⟩ := R.hk
  have ln := hl n
  rcases R.none_or n with ⟨e, e2⟩ | ⟨p, s, e, e2, h1, h2, h3, hw, -⟩
  · simp [g_Court_lives, fnX_ap, hc, hk, ln, e, Ct.lives, e2, intsW_ints]
  · obtain ⟨w1, w2, w3, w4⟩ := fEq_way hw
    simp [g_Court_lives, fnX_ap, hc, hk, ln, e, Ct.lives, e2, intsW_ints, h1, w3]
end
end Bel

namespace Bel
open PySem PySem.Spec PyProof.Rows L2
def g_fits_k3 : DS := (dRet (dFn g_is_number 2 (dCons (dVar 1) (dCons (dBin false fIx (dC c_MOST) (dVar 0)) dNil))))
def g_fits_k2 : DS := dSeq (dIfS (dT (dBin false fEq (dVar 0) (dC (.str [116, 111, 108, 100])))) (dRet ((dOrV (dFn g_is_status 1 (dCons (dVar 1) dNil)) ((dAndV (dFn g_is_number 2 (dCons (dVar 1) (dCons (dCall false fMaxT (dCons (dC c_OF_STOPS) dNil)) dNil))) (dBin false fInO (dVar 1) (dC c_OF_STOPS))))))) dNext) g_fits_k3
def g_fits_k1 : DS := dSeq (dIfS (dT (dBin false fEq (dVar 0) (dC (.str [115, 116, 97, 116, 117, 115])))) (dRet (dFn g_is_status 1 (dCons (dVar 1) dNil))) dNext) g_fits_k2
def g_fits_k0 : DS := dSeq (dIfS (dT (dBin false fEq (dVar 0) (dC (.str [110, 97, 109, 101])))) (dRet (dFn g_is_task_name 1 (dCons (dVar 1) dNil))) dNext) g_fits_k1
theorem g_fits_st : ∃ (K0 K1 K2 K3 : DS), (∀ (us : List U) (S : Store), g_fits us S = fnR S.length (K0 (us.map some ++ List.replicate (2 - us.length) none) S)) ∧ (∀ (e : Env') (S : Store), K0 e S = ((dIfS (dT (dBin false fEq (dVar 0) (dC (.str [110, 97, 109, 101])))) (dRet (dFn g_is_task_name 1 (dCons (dVar 1) dNil))) dNext) e S).bind K1) ∧ (∀ (e : Env') (S : Store), K1 e S = ((dIfS (dT (dBin false fEq (dVar 0) (dC (.str [115, 116, 97, 116, 117, 115])))) (dRet (dFn g_is_status 1 (dCons (dVar 1) dNil))) dNext) e S).bind K2) ∧ (∀ (e : Env') (S : Store), K2 e S = ((dIfS (dT (dBin false fEq (dVar 0) (dC (.str [116, 111, 108, 100])))) (dRet ((dOrV (dFn g_is_status 1 (dCons (dVar 1) dNil)) ((dAndV (dFn g_is_number 2 (dCons (dVar 1) (dCons (dCall false fMaxT (dCons (dC c_OF_STOPS) dNil)) dNil))) (dBin false fInO (dVar 1) (dC c_OF_STOPS))))))) dNext) e S).bind K3) ∧ (∀ (e : Env') (S : Store), K3 e S = (dRet (dFn g_is_number 2 (dCons (dVar 1) (dCons (dBin false fIx (dC c_MOST) (dVar 0)) dNil)))) e S) := by
  refine ⟨g_fits_k0, g_fits_k1, g_fits_k2, g_fits_k3, ?_⟩
  exact ⟨fun _ _ => rfl, fun _ _ => rfl, fun _ _ => rfl, fun _ _ => rfl, fun _ _ => rfl⟩
def g_is_row_k2 : DS := (dRet ((dAndV (dBin false fEq (dCall false fLen (dCons (dVar 0) dNil)) (dBin false fAdd (dCall false fLen (dCons (dVar 1) dNil)) (dC (.int 1)))) (dCall false fAll (dCons (dLc false (dZipT (dVar 1) (dSl false (dVar 0) (dPart (dC (.int 1))) dNoPart)) (tgT 2 (tgs1 (tgN 2) (tgs1 (tgN 3) tgs0))) dYes g_is_row_e1 [2, 3]) dNil)))))
def g_is_row_k1 : DS := dSeq (dAsg 1 (dBin false fIx (dC c_FORMS_w) (dBin false fIx (dVar 0) (dC (.int 0))))) g_is_row_k2
def g_is_row_k0 : DS := dSeq (dIfS (dOr (dNot (dT (dIsT isTup (dVar 0)))) (dOr (dT (dBin false fEq (dVar 0) (dDisp false .nt dNil))) (dOr (dNot (dT (dIsT isStr (dBin false fIx (dVar 0) (dC (.int 0)))))) (dT (dBin false fNotInO (dBin false fIx (dVar 0) (dC (.int 0))) (dC c_FORMS_w)))))) (dRet (dC (.bl false))) dNext) g_is_row_k1
theorem g_is_row_st : ∃ (K0 K1 K2 : DS), (∀ (us : List U) (S : Store), g_is_row us S = fnR S.length (K0 (us.map some ++ List.replicate (4 - us.length) none) S)) ∧ (∀ (e : Env') (S : Store), K0 e S = ((dIfS (dOr (dNot (dT (dIsT isTup (dVar 0)))) (dOr (dT (dBin false fEq (dVar 0) (dDisp false .nt dNil))) (dOr (dNot (dT (dIsT isStr (dBin false fIx (dVar 0) (dC (.int 0)))))) (dT (dBin false fNotInO (dBin false fIx (dVar 0) (dC (.int 0))) (dC c_FORMS_w)))))) (dRet (dC (.bl false))) dNext) e S).bind K1) ∧ (∀ (e : Env') (S : Store), K1 e S = ((dAsg 1 (dBin false fIx (dC c_FORMS_w) (dBin false fIx (dVar 0) (dC (.int 0))))) e S).bind K2) ∧ (∀ (e : Env') (S : Store), K2 e S = (dRet ((dAndV (dBin false fEq (dCall false fLen (dCons (dVar 0) dNil)) (dBin false fAdd (dCall false fLen (dCons (dVar 1) dNil)) (dC (.int 1)))) (dCall false fAll (dCons (dLc false (dZipT (dVar 1) (dSl false (dVar 0) (dPart (dC (.int 1))) dNoPart)) (tgT 2 (tgs1 (tgN 2) (tgs1 (tgN 3) tgs0))) dYes g_is_row_e1 [2, 3]) dNil))))) e S) := by
  refine ⟨g_is_row_k0, g_is_row_k1, g_is_row_k2, ?_⟩
  exact ⟨fun _ _ => rfl, fun _ _ => rfl, fun _ _ => rfl, fun _ _ => rfl⟩
def g_Court_told_k3 : DS := (dRet (dC (.bl true)))
def g_Court_told_k2 : DS := dSeq (dSetF cl_Standing 3 (dVar 4) (dC (.bl false))) g_Court_told_k3
def g_Court_told_k1 : DS := dSeq (dIfS (dOr (dNot (dT (dMc cl_Court g_Court_runs 2 (dVar 0) (dCons (dVar 1) dNil)))) (dOr (dT (dIsU false (dVar 4) (dC .non))) (dOr (dNot (dT (dFld cl_Standing 3 (dVar 4)))) (dT (dBin false fNe (dFld cl_Standing 2 (dVar 4)) (dVar 3)))))) (dRet (dC (.bl false))) dNext) g_Court_told_k2
def g_Court_told_k0 : DS := dSeq (dAsg 4 (dGetR (dFld cl_Court 0 (dVar 0)) (dBin false fAdd (dVar 1) (dDisp false .nt (dCons (dVar 2) dNil))))) g_Court_told_k1
theorem g_Court_told_st : ∃ (K0 K1 K2 K3 : DS), (∀ (us : List U) (S : Store), g_Court_told us S = fnRX (K0 (us.map some ++ List.replicate (5 - us.length) none) S)) ∧ (∀ (e : Env') (S : Store), K0 e S = ((dAsg 4 (dGetR (dFld cl_Court 0 (dVar 0)) (dBin false fAdd (dVar 1) (dDisp false .nt (dCons (dVar 2) dNil))))) e S).bind K1) ∧ (∀ (e : Env') (S : Store), K1 e S = ((dIfS (dOr (dNot (dT (dMc cl_Court g_Court_runs 2 (dVar 0) (dCons (dVar 1) dNil)))) (dOr (dT (dIsU false (dVar 4) (dC .non))) (dOr (dNot (dT (dFld cl_Standing 3 (dVar 4)))) (dT (dBin false fNe (dFld cl_Standing 2 (dVar 4)) (dVar 3)))))) (dRet (dC (.bl false))) dNext) e S).bind K2) ∧ (∀ (e : Env') (S : Store), K2 e S = ((dSetF cl_Standing 3 (dVar 4) (dC (.bl false))) e S).bind K3) ∧ (∀ (e : Env') (S : Store), K3 e S = (dRet (dC (.bl true))) e S) := by
  refine ⟨g_Court_told_k0, g_Court_told_k1, g_Court_told_k2, g_Court_told_k3, ?_⟩
  exact ⟨fun _ _ => rfl, fun _ _ => rfl, fun _ _ => rfl, fun _ _ => rfl, fun _ _ => rfl⟩
def g_Court_starts_k5 : DS := (dRet (dC (.bl true)))
def g_Court_starts_k4 : DS := dSeq (dSetK (dFld cl_Court 0 (dVar 0)) (dVar 1) (dMk cl_Standing g_Standing___init__ 1 (dCons (dVar 2) dNil))) g_Court_starts_k5
def g_Court_starts_k3 : DS := dSeq (dAugF cl_Standing 4 fAddI (dVar 3) (dC (.int 1))) g_Court_starts_k4
def g_Court_starts_k2 : DS := dSeq (dIfS (dOr (dT (dBin false fNe (dBin false fIx (dVar 1) (dNeg (dC (.int 1)))) (dFld cl_Standing 4 (dVar 3)))) (dT (dBin false fNotInD (dVar 2) (dDisp false .nt (dCons (dVar 1) (dCons (dFld cl_Standing 0 (dVar 3)) dNil)))))) (dRet (dC (.bl false))) dNext) g_Court_starts_k3
def g_Court_starts_k1 : DS := dSeq (dAsg 3 (dIxK (dFld cl_Court 0 (dVar 0)) (dSl false (dVar 1) dNoPart (dPart (dNeg (dC (.int 1))))))) g_Court_starts_k2
def g_Court_starts_k0 : DS := dSeq (dIfS (dOr (dT (dBin false fEq (dVar 1) (dDisp false .nt dNil))) (dNot (dT (dMc cl_Court g_Court_runs 2 (dVar 0) (dCons (dSl false (dVar 1) dNoPart (dPart (dNeg (dC (.int 1))))) dNil))))) (dRet (dC (.bl false))) dNext) g_Court_starts_k1
theorem g_Court_starts_st : ∃ (K0 K1 K2 K3 K4 K5 : DS), (∀ (us : List U) (S : Store), g_Court_starts us S = fnRX (K0 (us.map some ++ List.replicate (4 - us.length) none) S)) ∧ (∀ (e : Env') (S : Store), K0 e S = ((dIfS (dOr (dT (dBin false fEq (dVar 1) (dDisp false .nt dNil))) (dNot (dT (dMc cl_Court g_Court_runs 2 (dVar 0) (dCons (dSl false (dVar 1) dNoPart (dPart (dNeg (dC (.int 1))))) dNil))))) (dRet (dC (.bl false))) dNext) e S).bind K1) ∧ (∀ (e : Env') (S : Store), K1 e S = ((dAsg 3 (dIxK (dFld cl_Court 0 (dVar 0)) (dSl false (dVar 1) dNoPart (dPart (dNeg (dC (.int 1))))))) e S).bind K2) ∧ (∀ (e : Env') (S : Store), K2 e S = ((dIfS (dOr (dT (dBin false fNe (dBin false fIx (dVar 1) (dNeg (dC (.int 1)))) (dFld cl_Standing 4 (dVar 3)))) (dT (dBin false fNotInD (dVar 2) (dDisp false .nt (dCons (dVar 1) (dCons (dFld cl_Standing 0 (dVar 3)) dNil)))))) (dRet (dC (.bl false))) dNext) e S).bind K3) ∧ (∀ (e : Env') (S : Store), K3 e S = ((dAugF cl_Standing 4 fAddI (dVar 3) (dC (.int 1))) e S).bind K4) ∧ (∀ (e : Env') (S : Store), K4 e S = ((dSetK (dFld cl_Court 0 (dVar 0)) (dVar 1) (dMk cl_Standing g_Standing___init__ 1 (dCons (dVar 2) dNil))) e S).bind K5) ∧ (∀ (e : Env') (S : Store), K5 e S = (dRet (dC (.bl true))) e S) := by
  refine ⟨g_Court_starts_k0, g_Court_starts_k1, g_Court_starts_k2, g_Court_starts_k3, g_Court_starts_k4, g_Court_starts_k5, ?_⟩
  exact ⟨fun _ _ => rfl, fun _ _ => rfl, fun _ _ => rfl, fun _ _ => rfl, fun _ _ => rfl, fun _ _ => rfl, fun _ _ => rfl⟩
def g_Court_rung_k5 : DS := (dRet (dC (.bl true)))
def g_Court_rung_k4 : DS := dSeq (dIfS (dT (dBin false fEq (dVar 2) (dC c_GO))) (dSeq (dSetF cl_Standing 6 (dVar 3) (dDisp true .nl dNil))
    (dIfS (dT (dBin false fEq (dFld cl_Standing 1 (dVar 3)) (dC (.str [115, 116, 111, 112, 115])))) (dSetF cl_Court 1 (dVar 0) (dDisp false .nt (dCons (dC (.str [103, 111, 101, 115])) (dCons (dVar 1) dNil)))) dNext)) dNext) g_Court_rung_k5
def g_Court_rung_k3 : DS := dSeq (dIfS (dT (dBin false fInO (dVar 2) (dC c_HALTING))) (dDrop (dMut fAppend (dFld cl_Standing 6 (dVar 3)) (dCons (dVar 2) dNil))) dNext) g_Court_rung_k4
def g_Court_rung_k2 : DS := dSeq (dDrop (dMut fAppend (dFld cl_Standing 5 (dVar 3)) (dCons (dVar 2) dNil))) g_Court_rung_k3
def g_Court_rung_k1 : DS := dSeq (dAsg 3 (dIxK (dFld cl_Court 0 (dVar 0)) (dVar 1))) g_Court_rung_k2
def g_Court_rung_k0 : DS := dSeq (dIfS (dNot (dT (dMc cl_Court g_Court_lives 2 (dVar 0) (dCons (dVar 1) dNil)))) (dRet (dC (.bl false))) dNext) g_Court_rung_k1
theorem g_Court_rung_st : ∃ (K0 K1 K2 K3 K4 K5 : DS), (∀ (us : List U) (S : Store), g_Court_rung us S = fnRX (K0 (us.map some ++ List.replicate (4 - us.length) none) S)) ∧ (∀ (e : Env') (S : Store), K0 e S = ((dIfS (dNot (dT (dMc cl_Court g_Court_lives 2 (dVar 0) (dCons (dVar 1) dNil)))) (dRet (dC (.bl false))) dNext) e S).bind K1) ∧ (∀ (e : Env') (S : Store), K1 e S = ((dAsg 3 (dIxK (dFld cl_Court 0 (dVar 0)) (dVar 1))) e S).bind K2) ∧ (∀ (e : Env') (S : Store), K2 e S = ((dDrop (dMut fAppend (dFld cl_Standing 5 (dVar 3)) (dCons (dVar 2) dNil))) e S).bind K3) ∧ (∀ (e : Env') (S : Store), K3 e S = ((dIfS (dT (dBin false fInO (dVar 2) (dC c_HALTING))) (dDrop (dMut fAppend (dFld cl_Standing 6 (dVar 3)) (dCons (dVar 2) dNil))) dNext) e S).bind K4) ∧ (∀ (e : Env') (S : Store), K4 e S = ((dIfS (dT (dBin false fEq (dVar 2) (dC c_GO))) (dSeq (dSetF cl_Standing 6 (dVar 3) (dDisp true .nl dNil))
    (dIfS (dT (dBin false fEq (dFld cl_Standing 1 (dVar 3)) (dC (.str [115, 116, 111, 112, 115])))) (dSetF cl_Court 1 (dVar 0) (dDisp false .nt (dCons (dC (.str [103, 111, 101, 115])) (dCons (dVar 1) dNil)))) dNext)) dNext) e S).bind K5) ∧ (∀ (e : Env') (S : Store), K5 e S = (dRet (dC (.bl true))) e S) := by
  refine ⟨g_Court_rung_k0, g_Court_rung_k1, g_Court_rung_k2, g_Court_rung_k3, g_Court_rung_k4, g_Court_rung_k5, ?_⟩
  exact ⟨fun _ _ => rfl, fun _ _ => rfl, fun _ _ => rfl, fun _ _ => rfl, fun _ _ => rfl, fun _ _ => rfl, fun _ _ => rfl⟩
def g_Court_ends_k5 : DS := (dRet (dMc cl_Court g_Court_pause 4 (dVar 0) (dCons (dVar 1) (dCons (dC (.str [101, 110, 100, 101, 100])) (dCons (dVar 2) dNil)))))
def g_Court_ends_k4 : DS := dSeq (dIfS (dAnd (dT (dBin false fEq (dFld cl_Standing 1 (dVar 3)) (dC (.str [115, 116, 111, 112, 115])))) (dT (dBin false fNe (dVar 2) (dBin false fAdd (dC (.int 100)) (dC c_KILL))))) (dRet (dC (.bl false))) dNext) g_Court_ends_k5
def g_Court_ends_k3 : DS := dSeq (dIfS (dAnd (dT (dBin false (fCmp fun i j => decide (j ≤ i)) (dVar 2) (dC (.int 100)))) (dT (dBin false fNotInO (dBin false fSub (dVar 2) (dC (.int 100))) (dFld cl_Standing 5 (dVar 3))))) (dRet (dC (.bl false))) dNext) g_Court_ends_k4
def g_Court_ends_k2 : DS := dSeq (dIfS (dAnd (dT (dBin false (fCmp fun i j => decide (i < j)) (dVar 2) (dC (.int 100)))) (dT (dBin false fNe (dFld cl_Standing 1 (dVar 3)) (dC (.str [114, 117, 110, 115]))))) (dRet (dC (.bl false))) dNext) g_Court_ends_k3
def g_Court_ends_k1 : DS := dSeq (dAsg 3 (dIxK (dFld cl_Court 0 (dVar 0)) (dVar 1))) g_Court_ends_k2
def g_Court_ends_k0 : DS := dSeq (dIfS (dNot (dT (dMc cl_Court g_Court_lives 2 (dVar 0) (dCons (dVar 1) dNil)))) (dRet (dC (.bl false))) dNext) g_Court_ends_k1
theorem g_Court_ends_st : ∃ (K0 K1 K2 K3 K4 K5 : DS), (∀ (us : List U) (S : Store), g_Court_ends us S = fnRX (K0 (us.map some ++ List.replicate (4 - us.length) none) S)) ∧ (∀ (e : Env') (S : Store), K0 e S = ((dIfS (dNot (dT (dMc cl_Court g_Court_lives 2 (dVar 0) (dCons (dVar 1) dNil)))) (dRet (dC (.bl false))) dNext) e S).bind K1) ∧ (∀ (e : Env') (S : Store), K1 e S = ((dAsg 3 (dIxK (dFld cl_Court 0 (dVar 0)) (dVar 1))) e S).bind K2) ∧ (∀ (e : Env') (S : Store), K2 e S = ((dIfS (dAnd (dT (dBin false (fCmp fun i j => decide (i < j)) (dVar 2) (dC (.int 100)))) (dT (dBin false fNe (dFld cl_Standing 1 (dVar 3)) (dC (.str [114, 117, 110, 115]))))) (dRet (dC (.bl false))) dNext) e S).bind K3) ∧ (∀ (e : Env') (S : Store), K3 e S = ((dIfS (dAnd (dT (dBin false (fCmp fun i j => decide (j ≤ i)) (dVar 2) (dC (.int 100)))) (dT (dBin false fNotInO (dBin false fSub (dVar 2) (dC (.int 100))) (dFld cl_Standing 5 (dVar 3))))) (dRet (dC (.bl false))) dNext) e S).bind K4) ∧ (∀ (e : Env') (S : Store), K4 e S = ((dIfS (dAnd (dT (dBin false fEq (dFld cl_Standing 1 (dVar 3)) (dC (.str [115, 116, 111, 112, 115])))) (dT (dBin false fNe (dVar 2) (dBin false fAdd (dC (.int 100)) (dC c_KILL))))) (dRet (dC (.bl false))) dNext) e S).bind K5) ∧ (∀ (e : Env') (S : Store), K5 e S = (dRet (dMc cl_Court g_Court_pause 4 (dVar 0) (dCons (dVar 1) (dCons (dC (.str [101, 110, 100, 101, 100])) (dCons (dVar 2) dNil))))) e S) := by
  refine ⟨g_Court_ends_k0, g_Court_ends_k1, g_Court_ends_k2, g_Court_ends_k3, g_Court_ends_k4, g_Court_ends_k5, ?_⟩
  exact ⟨fun _ _ => rfl, fun _ _ => rfl, fun _ _ => rfl, fun _ _ => rfl, fun _ _ => rfl, fun _ _ => rfl, fun _ _ => rfl⟩
def g_Court_lets_by_k9 : DS := (dRet (dMc cl_Court g_Court_told 4 (dVar 0) (dCons (dBin false fIx (dVar 1) (dC (.int 1))) (dCons (dBin false fIx (dVar 1) (dC (.int 2))) (dCons (dBin false fIx (dVar 1) (dC (.int 3))) dNil)))))
def g_Court_lets_by_k8 : DS := dSeq (dIfS (dT (dBin false fEq (dBin false fIx (dVar 1) (dC (.int 0))) (dC (.str [101, 110, 100, 115])))) (dRet (dMc cl_Court g_Court_ends 3 (dVar 0) (dCons (dBin false fIx (dVar 1) (dC (.int 1))) (dCons (dBin false fIx (dVar 1) (dC (.int 2))) dNil)))) dNext) g_Court_lets_by_k9
def g_Court_lets_by_k7 : DS := dSeq (dIfS (dT (dBin false fEq (dBin false fIx (dVar 1) (dC (.int 0))) (dC (.str [115, 116, 111, 112, 115])))) (dRet (dMc cl_Court g_Court_stops 3 (dVar 0) (dCons (dBin false fIx (dVar 1) (dC (.int 1))) (dCons (dBin false fIx (dVar 1) (dC (.int 2))) dNil)))) dNext) g_Court_lets_by_k8
def g_Court_lets_by_k6 : DS := dSeq (dIfS (dT (dBin false fEq (dBin false fIx (dVar 1) (dC (.int 0))) (dC (.str [114, 117, 110, 103])))) (dRet (dMc cl_Court g_Court_rung 3 (dVar 0) (dCons (dBin false fIx (dVar 1) (dC (.int 1))) (dCons (dBin false fIx (dVar 1) (dC (.int 2))) dNil)))) dNext) g_Court_lets_by_k7
def g_Court_lets_by_k5 : DS := dSeq (dIfS (dT (dBin false fEq (dBin false fIx (dVar 1) (dC (.int 0))) (dC (.str [115, 97, 121, 115])))) (dRet (dMc cl_Court g_Court_runs 2 (dVar 0) (dCons (dBin false fIx (dVar 1) (dC (.int 1))) dNil))) dNext) g_Court_lets_by_k6
def g_Court_lets_by_k4 : DS := dSeq (dIfS (dT (dBin false fEq (dBin false fIx (dVar 1) (dC (.int 0))) (dC (.str [115, 116, 97, 114, 116, 115])))) (dRet (dMc cl_Court g_Court_starts 3 (dVar 0) (dCons (dBin false fIx (dVar 1) (dC (.int 1))) (dCons (dBin false fIx (dVar 1) (dC (.int 2))) dNil)))) dNext) g_Court_lets_by_k5
def g_Court_lets_by_k3 : DS := dSeq (dIfS (dT (dBin false fEq (dBin false fIx (dVar 1) (dC (.int 0))) (dC (.str [103, 111, 101, 115])))) (dRet ((dAndV (dVar 2) (dMc cl_Court g_Court_goes 2 (dVar 0) (dCons (dBin false fIx (dVar 1) (dC (.int 1))) dNil))))) dNext) g_Court_lets_by_k4
def g_Court_lets_by_k2 : DS := dSeq (dSetF cl_Court 1 (dVar 0) (dC .non)) g_Court_lets_by_k3
def g_Court_lets_by_k1 : DS := dSeq (dAsg 2 (dIsU true (dFld cl_Court 1 (dVar 0)) (dC .non))) g_Court_lets_by_k2
def g_Court_lets_by_k0 : DS := dSeq (dIfS (dAnd (dT (dIsU true (dFld cl_Court 1 (dVar 0)) (dC .non))) (dT (dBin false fNe (dVar 1) (dFld cl_Court 1 (dVar 0))))) (dRet (dC (.bl false))) dNext) g_Court_lets_by_k1
theorem g_Court_lets_by_st : ∃ (K0 K1 K2 K3 K4 K5 K6 K7 K8 K9 : DS), (∀ (us : List U) (S : Store), g_Court_lets_by us S = fnRX (K0 (us.map some ++ List.replicate (3 - us.length) none) S)) ∧ (∀ (e : Env') (S : Store), K0 e S = ((dIfS (dAnd (dT (dIsU true (dFld cl_Court 1 (dVar 0)) (dC .non))) (dT (dBin false fNe (dVar 1) (dFld cl_Court 1 (dVar 0))))) (dRet (dC (.bl false))) dNext) e S).bind K1) ∧ (∀ (e : Env') (S : Store), K1 e S = ((dAsg 2 (dIsU true (dFld cl_Court 1 (dVar 0)) (dC .non))) e S).bind K2) ∧ (∀ (e : Env') (S : Store), K2 e S = ((dSetF cl_Court 1 (dVar 0) (dC .non)) e S).bind K3) ∧ (∀ (e : Env') (S : Store), K3 e S = ((dIfS (dT (dBin false fEq (dBin false fIx (dVar 1) (dC (.int 0))) (dC (.str [103, 111, 101, 115])))) (dRet ((dAndV (dVar 2) (dMc cl_Court g_Court_goes 2 (dVar 0) (dCons (dBin false fIx (dVar 1) (dC (.int 1))) dNil))))) dNext) e S).bind K4) ∧ (∀ (e : Env') (S : Store), K4 e S = ((dIfS (dT (dBin false fEq (dBin false fIx (dVar 1) (dC (.int 0))) (dC (.str [115, 116, 97, 114, 116, 115])))) (dRet (dMc cl_Court g_Court_starts 3 (dVar 0) (dCons (dBin false fIx (dVar 1) (dC (.int 1))) (dCons (dBin false fIx (dVar 1) (dC (.int 2))) dNil)))) dNext) e S).bind K5) ∧ (∀ (e : Env') (S : Store), K5 e S = ((dIfS (dT (dBin false fEq (dBin false fIx (dVar 1) (dC (.int 0))) (dC (.str [115, 97, 121, 115])))) (dRet (dMc cl_Court g_Court_runs 2 (dVar 0) (dCons (dBin false fIx (dVar 1) (dC (.int 1))) dNil))) dNext) e S).bind K6) ∧ (∀ (e : Env') (S : Store), K6 e S = ((dIfS (dT (dBin false fEq (dBin false fIx (dVar 1) (dC (.int 0))) (dC (.str [114, 117, 110, 103])))) (dRet (dMc cl_Court g_Court_rung 3 (dVar 0) (dCons (dBin false fIx (dVar 1) (dC (.int 1))) (dCons (dBin false fIx (dVar 1) (dC (.int 2))) dNil)))) dNext) e S).bind K7) ∧ (∀ (e : Env') (S : Store), K7 e S = ((dIfS (dT (dBin false fEq (dBin false fIx (dVar 1) (dC (.int 0))) (dC (.str [115, 116, 111, 112, 115])))) (dRet (dMc cl_Court g_Court_stops 3 (dVar 0) (dCons (dBin false fIx (dVar 1) (dC (.int 1))) (dCons (dBin false fIx (dVar 1) (dC (.int 2))) dNil)))) dNext) e S).bind K8) ∧ (∀ (e : Env') (S : Store), K8 e S = ((dIfS (dT (dBin false fEq (dBin false fIx (dVar 1) (dC (.int 0))) (dC (.str [101, 110, 100, 115])))) (dRet (dMc cl_Court g_Court_ends 3 (dVar 0) (dCons (dBin false fIx (dVar 1) (dC (.int 1))) (dCons (dBin false fIx (dVar 1) (dC (.int 2))) dNil)))) dNext) e S).bind K9) ∧ (∀ (e : Env') (S : Store), K9 e S = (dRet (dMc cl_Court g_Court_told 4 (dVar 0) (dCons (dBin false fIx (dVar 1) (dC (.int 1))) (dCons (dBin false fIx (dVar 1) (dC (.int 2))) (dCons (dBin false fIx (dVar 1) (dC (.int 3))) dNil))))) e S) := by
  refine ⟨g_Court_lets_by_k0, g_Court_lets_by_k1, g_Court_lets_by_k2, g_Court_lets_by_k3, g_Court_lets_by_k4, g_Court_lets_by_k5, g_Court_lets_by_k6, g_Court_lets_by_k7, g_Court_lets_by_k8, g_Court_lets_by_k9, ?_⟩
  exact ⟨fun _ _ => rfl, fun _ _ => rfl, fun _ _ => rfl, fun _ _ => rfl, fun _ _ => rfl, fun _ _ => rfl, fun _ _ => rfl, fun _ _ => rfl, fun _ _ => rfl, fun _ _ => rfl, fun _ _ => rfl⟩
def g_judged_k3 : DS := (dRet (dIf (dT (dIsU false (dFld cl_Court 1 (dVar 1)) (dC .non))) (dC .non) (dCall false fLen (dCons (dVar 0) dNil))))
def g_judged_k2 : DS := dSeq (dFor (dEnB (dVar 0)) (tgT 2 (tgs1 (tgN 2) (tgs1 (tgN 3) tgs0))) g_judged_b1) g_judged_k3
def g_judged_k1 : DS := dSeq (dAsg 1 (dMk cl_Court g_Court___init__ 0 dNil)) g_judged_k2
def g_judged_k0 : DS := dSeq (dDrop (dFnP g_need_record 1 (dCons (dVar 0) dNil))) g_judged_k1
theorem g_judged_st : ∃ (K0 K1 K2 K3 : DS), (∀ (us : List U) (S : Store), g_judged us S = fnRX (K0 (us.map some ++ List.replicate (4 - us.length) none) S)) ∧ (∀ (e : Env') (S : Store), K0 e S = ((dDrop (dFnP g_need_record 1 (dCons (dVar 0) dNil))) e S).bind K1) ∧ (∀ (e : Env') (S : Store), K1 e S = ((dAsg 1 (dMk cl_Court g_Court___init__ 0 dNil)) e S).bind K2) ∧ (∀ (e : Env') (S : Store), K2 e S = ((dFor (dEnB (dVar 0)) (tgT 2 (tgs1 (tgN 2) (tgs1 (tgN 3) tgs0))) g_judged_b1) e S).bind K3) ∧ (∀ (e : Env') (S : Store), K3 e S = (dRet (dIf (dT (dIsU false (dFld cl_Court 1 (dVar 1)) (dC .non))) (dC .non) (dCall false fLen (dCons (dVar 0) dNil)))) e S) := by
  refine ⟨g_judged_k0, g_judged_k1, g_judged_k2, g_judged_k3, ?_⟩
  exact ⟨fun _ _ => rfl, fun _ _ => rfl, fun _ _ => rfl, fun _ _ => rfl, fun _ _ => rfl⟩
end Bel

namespace Bel
open PySem PySem.Spec PyProof.Rows L2
theorem setAt {S : Store} {i : Nat} {o x : Ob} (h : S[i]? = some o) : (S.set i x)[i]? = some x := by
  rw [List.getElem?_set_self']; rw [h]; rfl
theorem setNe {S : Store} {i j : Nat} {x : Ob} (h : i ≠ j) : (S.set i x)[j]? = S[j]? := List.getElem?_set_ne h
theorem appAt {S T : Store} {i : Nat} {o : Ob} (h : S[i]? = some o) : (S ++ T)[i]? = some o := by
  rw [List.getElem?_append_left (List.getElem?_eq_some_iff.mp h).1]; exact h
theorem len_of {S : Store} {i : Nat} {o : Ob} (h : S[i]? = some o) : i < S.length := (List.getElem?_eq_some_iff.mp h).1
theorem ne_ob {S : Store} {i j : Nat} {o o' : Ob} (h : S[i]? = some o) (h' : S[j]? = some o') (n : o ≠ o') : i ≠ j := fun e => by subst e; rw [h] at h'; cases h'; exact n rfl
section
variable {S S' : Store} {c k N N' : Nat} {C : Ct} {ad : List Int → Option (Nat × Nat × Nat)} {n : List Int} {p p' : Nat × Nat × Nat} {s s' : St} {du : Option Rw}
theorem CtR.up (R : CtR S c k C ad N) (hn : ad n = some p) (fr : ∀ i o, S[i]? = some o → i ≠ c → i ≠ p.1 → i ≠ p.2.1 → i ≠ p.2.2 → S'[i]? = some o) (hc' : S'[c]? = some (.ru (.ins cl_Court) [.o k, .v (dueW du)]))
    (e1 : p'.1 = p.1) (h1 : S'[p'.1]? = some (stdOb s' p'.2.1 p'.2.2)) (h2 : S'[p'.2.1]? = some (.lst (nrs s'.ever))) (h3 : S'[p'.2.2]? = some (.lst (nrs s'.halting)))
    (f2 : p'.2.1 = p.2.1 ∨ S.length ≤ p'.2.1) (f3 : p'.2.2 = p.2.2 ∨ S.length ≤ p'.2.2) (ne : p'.2.1 ≠ p'.2.2) (hw : s'.way < 3) (hN : N ≤ N') (b2 : s'.ever.length ≤ N') (b3 : s'.halting.length ≤ N')
    (hd : ∀ m, du = some (.goes m) → (ad m).isSome = true) : CtR S' c k ⟨(n, s') :: C.kn, du⟩ (fun m => if m = n then some p' else ad m) N' := by
  obtain ⟨ks, us, hk, lk, lN, hl⟩ := R.hk
  obtain ⟨s0, l0, a1, a2, a3, -⟩ := R.hs n p hn
  have hk' : S'[k]? = some (.ru (.td ks) us) := fr k _ hk (ne_ob hk R.hc (by simp)) (ne_ob hk a1 (by simp)) (ne_ob hk a2 (by simp)) (ne_ob hk a3 (by simp))
  have old : ∀ m q, m ≠ n → ad m = some q → S[q.1]? ≠ none ∧ S[q.2.1]? ≠ none ∧ S[q.2.2]? ≠ none ∧ S'[q.1]? = S[q.1]? ∧ S'[q.2.1]? = S[q.2.1]? ∧ S'[q.2.2]? = S[q.2.2]? := fun m q hm hq => by
    obtain ⟨s1, l1, b1, b2, b3, -⟩ := R.hs m q hq
    obtain ⟨i1, i2, i3, i4, i5⟩ := R.inj m n q p hq hn hm
    refine ⟨by simp [b1], by simp [b2], by simp [b3], ?_, ?_, ?_⟩
    · rw [b1]; exact fr _ _ b1 (ne_ob b1 R.hc (by simp [cl_Court, cl_Standing])) i1 (ne_ob b1 a2 (by simp)) (ne_ob b1 a3 (by simp))
    · rw [b2]; exact fr _ _ b2 (ne_ob b2 R.hc (by simp)) (ne_ob b2 a1 (by simp)) i2 i3
    · rw [b3]; exact fr _ _ b3 (ne_ob b3 R.hc (by simp)) (ne_ob b3 a1 (by simp)) i4 i5
  have lt : ∀ m q, ad m = some q → q.1 < S.length ∧ q.2.1 < S.length ∧ q.2.2 < S.length := fun m q hq => by
    obtain ⟨s1, l1, b1, b2, b3, -⟩ := R.hs m q hq
    exact ⟨len_of b1, len_of b2, len_of b3⟩
  refine ⟨hc', ⟨ks, us, hk', lk, by omega, fun m => ?_⟩, fun m q hq => ?_, fun m hm => ?_, fun m m' q q' hq hq' hne => ?_, fun m q hq => ?_, fun m hm => ?_⟩
  · rw [hl m]
    by_cases e : m = n
    · subst e; simp [hn, e1]
    · simp [e]
  · by_cases e : m = n
    · subst e
      simp only [if_true] at hq
      cases hq
      exact ⟨s', by simp, h1, h2, h3, hw, b2, b3⟩
    · simp only [e, if_false] at hq
      obtain ⟨s1, l1, b1, b2, b3, w1, w2, w3⟩ := R.hs m q hq
      obtain ⟨-, -, -, o1, o2, o3⟩ := old m q e hq
      exact ⟨s1, by simp [List.lookup_cons, beq_false_of_ne e, l1], by rw [o1, b1], by rw [o2, b2], by rw [o3, b3], w1, by omega, by omega⟩
  · by_cases e : m = n
    · subst e; simp at hm
    · simp only [e, if_false] at hm
      simp [List.lookup_cons, beq_false_of_ne e, R.hn m hm]
  · by_cases e : m = n
    · subst e
      simp only [if_true] at hq
      cases hq
      simp only [Ne.symm hne, if_false] at hq'
      obtain ⟨i1, i2, i3, i4, i5⟩ := R.inj m m' p q' hn hq' hne
      obtain ⟨j1, j2, j3⟩ := lt m' q' hq'
      refine ⟨by rw [e1]; exact i1, ?_, ?_, ?_, ?_⟩
      · rcases f2 with f2 | f2 <;> omega
      · rcases f2 with f2 | f2 <;> omega
      · rcases f3 with f3 | f3 <;> omega
      · rcases f3 with f3 | f3 <;> omega
    · simp only [e, if_false] at hq
      by_cases e' : m' = n
      · subst e'
        simp only [if_true] at hq'
        cases hq'
        obtain ⟨i1, i2, i3, i4, i5⟩ := R.inj m m' q p hq hn hne
        obtain ⟨j1, j2, j3⟩ := lt m q hq
        refine ⟨by rw [e1]; exact i1, ?_, ?_, ?_, ?_⟩
        · rcases f2 with f2 | f2 <;> omega
        · rcases f3 with f3 | f3 <;> omega
        · rcases f2 with f2 | f2 <;> omega
        · rcases f3 with f3 | f3 <;> omega
      · simp only [e', if_false] at hq'
        exact R.inj m m' q q' hq hq' hne
  · by_cases e : m = n
    · subst e; simp only [if_true] at hq; cases hq; exact ne
    · simp only [e, if_false] at hq; exact R.ne m q hq
  · have := hd m hm
    by_cases e : m = n
    · simp [e]
    · simp [e, this]
/-- the row that is due alone -/
theorem CtR.upDue (R : CtR S c k C ad N) (hd : ∀ m, du = some (.goes m) → (ad m).isSome = true) (hN : N ≤ N') : CtR (S.set c (.ru (.ins cl_Court) [.o k, .v (dueW du)])) c k { C with due := du } ad N' := by
  obtain ⟨ks, us, hk, lk, lN, hl⟩ := R.hk
  refine ⟨setAt R.hc, ⟨ks, us, by rw [setNe (ne_ob R.hc hk (by simp))]; exact hk, lk, by omega, hl⟩, fun m q hq => ?_, R.hn, R.inj, R.ne, hd⟩
  obtain ⟨s1, l1, b1, b2, b3, w1, w2, w3⟩ := R.hs m q hq
  exact ⟨s1, l1, by rw [setNe (ne_ob R.hc b1 (by simp [cl_Court, cl_Standing]))]; exact b1, by rw [setNe (ne_ob R.hc b2 (by simp))]; exact b2, by rw [setNe (ne_ob R.hc b3 (by simp))]; exact b3, w1, by omega, by omega⟩
theorem CtR.nes (R : CtR S c k C ad N) (hn : ad n = some p) : c ≠ k ∧ c ≠ p.1 ∧ c ≠ p.2.1 ∧ c ≠ p.2.2 ∧ k ≠ p.1 ∧ k ≠ p.2.1 ∧ k ≠ p.2.2 ∧ p.1 ≠ p.2.1 ∧ p.1 ≠ p.2.2 ∧ p.2.1 ≠ p.2.2 := by
  obtain ⟨ks, us, hk, -⟩ := R.hk
  obtain ⟨s0, l0, a1, a2, a3, -⟩ := R.hs n p hn
  exact ⟨ne_ob R.hc hk (by simp), ne_ob R.hc a1 (by simp [cl_Court, cl_Standing]), ne_ob R.hc a2 (by simp), ne_ob R.hc a3 (by simp), ne_ob hk a1 (by simp), ne_ob hk a2 (by simp), ne_ob hk a3 (by simp), ne_ob a1 a2 (by simp), ne_ob a1 a3 (by simp), R.ne n p hn⟩
theorem goes_ok (R : CtR S c k C ad N) (hn : ad n = some p) (hl : C.kn.lookup n = some s) : g_Court_goes [.o c, .v (tn n)] S = .ok (.v (.bl true)) (S.set p.1 (stdOb { s with way := 0, untold := false } p.2.1 p.2.2)) := by
  have hc := R.hc
  obtain ⟨ks, us, hk, -, -, hlk⟩ := R.hk
  have ln := hlk n
  obtain ⟨s0, l0, a1, a2, a3, -⟩ := R.hs n p hn
  rw [hl] at l0; cases l0
  obtain ⟨n1, n2, n3, n4, n5, n6, n7, n8, n9, n10⟩ := R.nes hn
  simp [g_Court_goes, fnX_ap, hc, hk, ln, hn, a1, putU, setAt a1, setNe n2.symm, setNe n5.symm, wayW]
  rfl
def Goes (c k : Nat) (N : Nat) (o : Option Ct) (r : Re U) : Prop := match o with
  | none => ∃ S', r = .ok (.v (.bl false)) S'
  | some C' => ∃ S' ad', r = .ok (.v (.bl true)) S' ∧ CtR S' c k C' ad' N
theorem CtR.mono (R : CtR S c k C ad N) (h : N ≤ N') : CtR S c k C ad N' := by
  obtain ⟨ks, us, hk, lk, lN, hl⟩ := R.hk
  refine ⟨R.hc, ⟨ks, us, hk, lk, by omega, hl⟩, fun m q hq => ?_, R.hn, R.inj, R.ne, R.due⟩
  obtain ⟨s1, l1, b1, b2, b3, w1, w2, w3⟩ := R.hs m q hq
  exact ⟨s1, l1, b1, b2, b3, w1, by omega, by omega⟩
theorem CtR.cong {C' : Ct} (R : CtR S c k C ad N) (hk : ∀ m, C.kn.lookup m = C'.kn.lookup m) (hd : C.due = C'.due) : CtR S c k C' ad N :=
  ⟨by rw [← hd]; exact R.hc, R.hk, fun m q hq => by obtain ⟨s1, l1, r⟩ := R.hs m q hq; exact ⟨s1, by rw [← hk]; exact l1, r⟩, fun m hm => by rw [← hk]; exact R.hn m hm, R.inj, R.ne, fun m hm => R.due m (by rw [hd]; exact hm)⟩
/-- fields alone, the lists as they are -/
theorem CtR.upS (R : CtR S c k C ad N) (hn : ad n = some p) (hl : C.kn.lookup n = some s) (e1 : s'.ever = s.ever) (e2 : s'.halting = s.halting) (hw : s'.way < 3) :
    CtR (S.set p.1 (stdOb s' p.2.1 p.2.2)) c k (C.put n s') (fun m => if m = n then some p else ad m) N := by
  obtain ⟨s0, l0, a1, a2, a3, w1, w2, w3⟩ := R.hs n p hn
  rw [hl] at l0; cases l0
  obtain ⟨n1, n2, n3, n4, n5, n6, n7, n8, n9, n10⟩ := R.nes hn
  exact R.up hn (fun i o h _ h1 _ _ => by rw [setNe (Ne.symm h1)]; exact h) (by rw [setNe (Ne.symm n2)]; exact R.hc) rfl (setAt a1) (by rw [setNe n8, e1]; exact a2) (by rw [setNe n9, e2]; exact a3)
    (.inl rfl) (.inl rfl) n10 hw (Nat.le_refl _) (by rw [e1]; exact w2) (by rw [e2]; exact w3) R.due
theorem CtR.cast {ad' : List Int → Option (Nat × Nat × Nat)} (R : CtR S c k C ad N) (h : ad = ad') : CtR S c k C ad' N := h ▸ R
theorem fNe_nrs (l m : List Int) : fNe (tn l) (tn m) = some (.val (.bl (!decide (l = m)))) := by
  rw [fNe_is (shp_nrs l 64 (by decide)) (shp_nrs m 64 (by decide)), eqD_nrs]
theorem fNe_nil (l : List Int) : fNe (tn l) (.tup []) = some (.val (.bl (!decide (l = [])))) := fNe_nrs l []
theorem pause_ok (R : CtR S c k C ad N) (hn : ad n = some p) (hl : C.kn.lookup n = some s) {way : Nat} (hw : way = 1 ∨ way = 2) (st : Int) :
    ∃ S' ad', g_Court_pause [.o c, .v (tn n), .v (wayW way), .v (.int st)] S = .ok (.v (.bl true)) S' ∧ CtR S' c k (C.pause n s way st) ad' N := by
  have hc := R.hc
  obtain ⟨ks, us, hk, -, -, hlk⟩ := R.hk
  have ln := hlk n
  obtain ⟨s0, l0, a1, a2, a3, -⟩ := R.hs n p hn
  rw [hl] at l0; cases l0
  obtain ⟨n1, n2, n3, n4, n5, n6, n7, n8, n9, n10⟩ := R.nes hn
  have R2 := R.upS (s' := { s with way := way, status := some st, untold := true }) hn hl rfl rfl (by show way < 3; omega)
  have L := lives_ok R2 n.dropLast
  have hc2 := R2.hc
  have m1 : (S.set p.1 (stdOb { s with way := way, status := some st, untold := true } p.2.1 p.2.2))[p.1]? = some (stdOb { s with way := way, status := some st, untold := true } p.2.1 p.2.2) := setAt a1
  generalize hS2 : S.set p.1 (stdOb { s with way := way, status := some st, untold := true } p.2.1 p.2.2) = S2 at *
  have key : ∀ K : DS, (dSeq (dSetF2 cl_Standing 1 (dVar 4) cl_Standing 2 (dVar 4) (dDisp false .nt (dCons (dVar 2) (dCons (dVar 3) dNil)))) (dSeq (dSetF cl_Standing 3 (dVar 4) (dC (.bl true))) K)) [some (.o c), some (.v (tn n)), some (.v (wayW way)), some (.v (.int st)), some (.o p.1)] S = K [some (.o c), some (.v (tn n)), some (.v (wayW way)), some (.v (.int st)), some (.o p.1)] S2 := fun K => by
    rw [← hS2]
    simp [a1, putU, stF, setAt a1]
    rfl
  have e1 : g_Court_pause [.o c, .v (tn n), .v (wayW way), .v (.int st)] S = fnX 5 (dSeq (dIfS (dAnd (dT (dBin false fNe (dVar 1) (dDisp false .nt dNil))) (dT (dMc cl_Court g_Court_lives 2 (dVar 0) (dCons (dSl false (dVar 1) dNoPart (dPart (dNeg (dC (.int 1))))) dNil)))) (dSetF cl_Court 1 (dVar 0) (dDisp false .nt (dCons (dC (.str [114, 117, 110, 103])) (dCons (dSl false (dVar 1) dNoPart (dPart (dNeg (dC (.int 1))))) (dCons (dC c_DONE) dNil))))) dNext) (dRet (dC (.bl true)))) [.o c, .v (tn n), .v (wayW way), .v (.int st), .o p.1] S2 := by
    unfold g_Court_pause
    rw [fnX_ap, fnX_ap]
    simp only [List.map, List.length_cons, List.length_nil, List.replicate, List.append_nil, List.cons_append, List.nil_append]
    have : ∀ K : DS, (dSeq (dAsg 4 (dIxK (dFld cl_Court 0 (dVar 0)) (dVar 1))) K) [some (.o c), some (.v (tn n)), some (.v (wayW way)), some (.v (.int st)), none] S = K [some (.o c), some (.v (tn n)), some (.v (wayW way)), some (.v (.int st)), some (.o p.1)] S := fun K => by
      simp [hc, hk, ln, hn]
    rw [this, key]
    rfl
  rw [e1]
  by_cases c1 : n = []
  · subst c1
    refine ⟨S2, _, ?_, by unfold Ct.pause; simpa using R2⟩
    simp [fnX_ap, fNe_nil]
  · by_cases c2 : (C.put n { s with way := way, status := some st, untold := true }).lives n.dropLast = true
    · refine ⟨_, _, ?_, by unfold Ct.pause; rw [if_pos ⟨c1, c2⟩]; exact R2.upDue (du := some (.rung n.dropLast 7)) (fun m h => by cases h) (Nat.le_refl _)⟩
      simp [fnX_ap, fNe_nil, c1, hc2, cut_last, L, c2, putU, c_DONE]
      rfl
    · refine ⟨S2, _, ?_, by unfold Ct.pause; rw [if_neg (fun h => c2 h.2)]; exact R2⟩
      simp [fnX_ap, fNe_nil, c1, hc2, cut_last, L, c2]
theorem HALT_in (b : Int) : fInO (.int b) c_HALTING = some (.val (.bl (decide (b = 1 ∨ b = 2)))) := by
  have h1 : eqD (.int 1) (.int b) = decide (b = 1) := by rw [eqI, Bool.eq_iff_iff]; simp; omega
  have h2 : eqD (.int 2) (.int b) = decide (b = 2) := by rw [eqI, Bool.eq_iff_iff]; simp; omega
  simp [fInO, fIn, c_HALTING, isFlat, h1, h2]
theorem Goes.no {r : Re U} {o : Option Ct} (h : o = none) (S' : Store) (e : r = .ok (.v (.bl false)) S') : Goes c k N o r := by subst h; exact ⟨S', e⟩
theorem Goes.yes {r : Re U} {o : Option Ct} {C' : Ct} (h : o = some C') (S' : Store) {ad' : List Int → Option (Nat × Nat × Nat)} (e : r = .ok (.v (.bl true)) S') (R : CtR S' c k C' ad' N) : Goes c k N o r := by subst h; exact ⟨S', ad', e, R⟩
theorem look_cons (m n : List Int) (s : St) (l : List (List Int × St)) : ((n, s) :: l).lookup m = if m = n then some s else l.lookup m := by
  rw [List.lookup_cons]
  by_cases q : m = n
  · subst q; simp
  · rw [show (m == n) = false from beq_eq_false_iff_ne.mpr q, if_neg q]
theorem look_put (m : List Int) : (C.put n s).kn.lookup m = if m = n then some s else C.kn.lookup m := look_cons ..
theorem nrs_app (l : List Int) (b : Int) : nrs l ++ [W.int b] = nrs (l ++ [b]) := by simp [nrs]
/-- one more that was rung at it -/
theorem CtR.upE (R : CtR S c k C ad N) (hn : ad n = some p) (hl : C.kn.lookup n = some s) (b : Int) :
    CtR (S.set p.2.1 (.lst (nrs (s.ever ++ [b])))) c k (C.put n { s with ever := s.ever ++ [b] }) (fun m => if m = n then some p else ad m) (N + 1) := by
  obtain ⟨s0, l0, a1, a2, a3, w1, w2, w3⟩ := R.hs n p hn
  rw [hl] at l0; cases l0
  obtain ⟨n1, n2, n3, n4, n5, n6, n7, n8, n9, n10⟩ := R.nes hn
  exact R.up hn (fun i o h _ _ h1 _ => by rw [setNe (Ne.symm h1)]; exact h) (by rw [setNe (Ne.symm n3)]; exact R.hc) rfl (by rw [setNe (Ne.symm n8)]; exact a1) (setAt a2) (by rw [setNe n10]; exact a3)
    (.inl rfl) (.inl rfl) n10 w1 (Nat.le_succ _) (by simp; omega) (by show s.halting.length ≤ _; omega) R.due
theorem CtR.upH (R : CtR S c k C ad N) (hn : ad n = some p) (hl : C.kn.lookup n = some s) (b : Int) (hN : s.halting.length + 1 ≤ N) :
    CtR (S.set p.2.2 (.lst (nrs (s.halting ++ [b])))) c k (C.put n { s with halting := s.halting ++ [b] }) (fun m => if m = n then some p else ad m) N := by
  obtain ⟨s0, l0, a1, a2, a3, w1, w2, w3⟩ := R.hs n p hn
  rw [hl] at l0; cases l0
  obtain ⟨n1, n2, n3, n4, n5, n6, n7, n8, n9, n10⟩ := R.nes hn
  exact R.up hn (fun i o h _ _ _ h1 => by rw [setNe (Ne.symm h1)]; exact h) (by rw [setNe (Ne.symm n4)]; exact R.hc) rfl (by rw [setNe (Ne.symm n9)]; exact a1) (by rw [setNe (Ne.symm n10)]; exact a2) (setAt a3)
    (.inl rfl) (.inl rfl) n10 w1 (Nat.le_refl _) w2 (by simp; omega) R.due
theorem CtR.upN (R : CtR S c k C ad N) (hn : ad n = some p) (hl : C.kn.lookup n = some s) (hd : C.due = none) (du : Option Rw) (hdu : ∀ m, du = some (.goes m) → (ad m).isSome = true) :
    CtR ((S ++ [Ob.lst []]).set p.1 (stdOb { s with halting := [] } p.2.1 S.length)) c k (C.put n { s with halting := [] }) (fun m => if m = n then some (p.1, p.2.1, S.length) else ad m) N := by
  obtain ⟨s0, l0, a1, a2, a3, w1, w2, w3⟩ := R.hs n p hn
  rw [hl] at l0; cases l0
  obtain ⟨n1, n2, n3, n4, n5, n6, n7, n8, n9, n10⟩ := R.nes hn
  have ll := len_of a2
  have l1 := len_of a1
  exact R.up hn (fun i o h _ h1 _ _ => by rw [setNe (Ne.symm h1)]; exact appAt h) (by rw [setNe (Ne.symm n2)]; exact appAt R.hc) rfl (setAt (appAt a1)) (by rw [setNe n8]; exact appAt a2) (by rw [setNe (by show p.1 ≠ S.length; omega)]; simp [nrs])
    (.inl rfl) (.inr (Nat.le_refl _)) (by show p.2.1 ≠ S.length; omega) w1 (Nat.le_refl _) w2 (by simp) R.due
theorem rung_ok (R : CtR S c k C ad N) (hd : C.due = none) (n : List Int) (b : Int) (hN : N < 16777215) (aw : Bool) : Goes c k (N + 1) (C.by_ aw (.rung n b)) (g_Court_rung [.o c, .v (tn n), .v (.int b)] S) := by
  have hc := R.hc
  obtain ⟨ks, us, hk, -, -, hlk⟩ := R.hk
  have ln := hlk n
  have L := lives_ok R n
  obtain ⟨K0, K1, K2, K3, K4, K5, hf, h0, h1, h2, h3, h4, h5⟩ := g_Court_rung_st
  rw [hf, h0]
  by_cases c0 : C.lives n = true
  · have hs : ∃ s, C.kn.lookup n = some s := by
      unfold Ct.lives at c0
      cases e : C.kn.lookup n with
      | none => rw [e] at c0; cases c0
      | some s => exact ⟨s, rfl⟩
    obtain ⟨s, hl⟩ := hs
    rcases R.none_or n with ⟨e, e2⟩ | ⟨p, s', e, e2, a1, a2, a3, hw, b2, b3⟩
    · rw [hl] at e2; cases e2
    rw [hl] at e2; cases e2
    obtain ⟨n1, n2, n3, n4, n5, n6, n7, n8, n9, n10⟩ := R.nes e
    have b2' : (nrs s.ever).length < 16777216 := by rw [nrs_len]; omega
    have b3' : (nrs s.halting).length < 16777216 := by rw [nrs_len]; omega
    have RA := R.upE e hl b
    -- what halts
    have stB : ∃ SB, (∀ K : DS, ((dIfS (dT (dBin false fInO (dVar 2) (dC c_HALTING))) (dDrop (dMut fAppend (dFld cl_Standing 6 (dVar 3)) (dCons (dVar 2) dNil))) dNext) [some (.o c), some (.v (tn n)), some (.v (.int b)), some (.o p.1)] (S.set p.2.1 (.lst (nrs (s.ever ++ [b]))))).bind K = K [some (.o c), some (.v (tn n)), some (.v (.int b)), some (.o p.1)] SB) ∧
        CtR SB c k (C.put n { s with ever := s.ever ++ [b], halting := if b = 1 ∨ b = 2 then s.halting ++ [b] else s.halting }) (fun m => if m = n then some p else ad m) (N + 1) := by
      by_cases cb : b = 1 ∨ b = 2
      · have RB := RA.upH (n := n) (p := p) (s := { s with ever := s.ever ++ [b] }) (by simp) (by simp [Ct.put]) b (by show s.halting.length + 1 ≤ _; omega)
        refine ⟨_, fun K => ?_, (RB.cong (C' := C.put n { s with ever := s.ever ++ [b], halting := if b = 1 ∨ b = 2 then s.halting ++ [b] else s.halting }) (fun m => by simp only [look_put]; by_cases q : m = n <;> simp [q, cb]) rfl).cast ?_⟩
        · simp [HALT_in, cb, a1, setNe n8.symm, setNe n10, a3, fAppend, b3', nrs_app]
        · funext m; by_cases q : m = n <;> simp [q]
      · refine ⟨S.set p.2.1 (.lst (nrs (s.ever ++ [b]))), fun K => ?_, ?_⟩
        · simp [HALT_in, cb]
        · rw [if_neg cb]; exact RA
    obtain ⟨SB, hB, RB⟩ := stB
    simp [hc, L, c0]
    rw [h1]
    simp [hc, hk, ln, e]
    rw [h2]
    simp [a1, a2, fAppend, b2', nrs_app]
    rw [h3, hB, h4]
    generalize hsB : ({ s with ever := s.ever ++ [b], halting := if b = 1 ∨ b = 2 then s.halting ++ [b] else s.halting } : St) = sB at RB
    have adB : (fun m => if m = n then some p else ad m) n = some p := by simp
    obtain ⟨s0, l0, x1, x2, x3, x4, x5, x6⟩ := RB.hs n p adB
    have l0' : s0 = sB := by simpa [Ct.put] using l0.symm
    subst l0'
    have wB : s0.way = s.way := by rw [← hsB]
    obtain ⟨w1, w2, w3, w4⟩ := fEq_way hw
    by_cases c6 : b = 6
    · subst c6
      have RC := RB.upN adB (s := s0) (by simp [Ct.put]) hd none (fun m h => by cases h)
      have hcC := RC.hc
      have y1 : ((SB ++ [Ob.lst []]).set p.1 (stdOb { s0 with halting := [] } p.2.1 SB.length))[p.1]? = some (stdOb { s0 with halting := [] } p.2.1 SB.length) := setAt (appAt x1)
      have bw : C.by_ aw (.rung n 6) = some (if s.way = 1 then ⟨(n, { s0 with halting := [] }) :: C.kn, some (.goes n)⟩ else C.put n { s0 with halting := [] }) := by
        have : ({ s with ever := s.ever ++ [6], halting := [] } : St) = { s0 with halting := [] } := by rw [← hsB]
        simp only [Ct.by_, if_pos c0, hl, Option.map_some, true_and, if_true, this]
        by_cases cw : s.way = 1 <;> simp [cw, Ct.put]
      by_cases cw : s.way = 1
      · have RD := RC.upDue (du := some (.goes n)) (fun m h => by cases h; simp) (Nat.le_refl _)
        refine Goes.yes bw _ ?_ (RD.cong (fun m => ?_) ?_)
        · have w2' : fEq (wayW s0.way) (.str xStops) = some (.val (.bl true)) := by rw [wB, w2]; simp [cw]
          simp [c_GO, x1, putU, appAt x1, setAt (appAt x1), w2', hcC, y1]
          rw [h5]
          simp
          rfl
        · simp only [look_put, if_pos cw, look_cons]
          by_cases q : m = n <;> simp [q]
        · rw [if_pos cw]
      · refine Goes.yes bw _ ?_ (RC.cong (fun m => ?_) ?_)
        · have w2' : fEq (wayW s0.way) (.str xStops) = some (.val (.bl false)) := by rw [wB, w2]; simp [cw]
          simp [c_GO, x1, putU, appAt x1, setAt (appAt x1), w2', hcC, y1]
          rw [h5]
          simp
        · simp only [look_put, if_neg cw]
          by_cases q : m = n <;> simp [q]
        · rw [if_neg cw]; rfl
    · have bw : C.by_ aw (.rung n b) = some (C.put n s0) := by
        simp only [Ct.by_, if_pos c0, hl, Option.map_some, c6, false_and, if_false, hsB]
      refine Goes.yes bw _ ?_ RB
      simp [c_GO, c6]
      rw [h5]
      simp
  · refine Goes.no ?_ S ?_
    · simp only [Ct.by_, if_neg c0]
    · simp [hc, L, c0]
end
end Bel

namespace Bel
open PySem PySem.Spec PyProof.Rows L2
section
variable {S S' : Store} {c k N N' : Nat} {C : Ct} {ad : List Int → Option (Nat × Nat × Nat)} {n : List Int} {p p' : Nat × Nat × Nat} {s s' : St} {du : Option Rw}
theorem in_nrs1 (b : Int) (l : List Int) : fIn (.int b) (.lst (nrs l)) = some (decide (b ∈ l)) := by
  have h1 : shp 64 (.int b) = true := rfl
  have h2 : shps 63 (nrs l) = true := shps_of fun w hw => by obtain ⟨i, _, rfl⟩ := List.mem_map.mp hw; rfl
  simp only [fIn, h1, h2, and_self, if_true]
  congr 1
  rw [Bool.eq_iff_iff]
  simp only [nrs, List.any_map, List.any_eq_true, Function.comp, eqI, decide_eq_true_eq]
  constructor
  · rintro ⟨x, hx, rfl⟩; exact hx
  · exact fun h => ⟨b, h, rfl⟩
theorem notIn_nrs1 (b : Int) (l : List Int) : fNotInO (.int b) (.lst (nrs l)) = some (.val (.bl (!decide (b ∈ l)))) := by
  unfold fNotInO; rw [in_nrs1]; rfl
theorem runs_some (h : C.runs n = true) : ∃ s, C.kn.lookup n = some s := by
  unfold Ct.runs at h
  cases e : C.kn.lookup n with
  | none => rw [e] at h; cases h
  | some s => exact ⟨s, rfl⟩
theorem lives_some (h : C.lives n = true) : ∃ s, C.kn.lookup n = some s := by
  unfold Ct.lives at h
  cases e : C.kn.lookup n with
  | none => rw [e] at h; cases h
  | some s => exact ⟨s, rfl⟩
theorem CtR.get (R : CtR S c k C ad N) (hl : C.kn.lookup n = some s) : ∃ p, ad n = some p ∧ S[p.1]? = some (stdOb s p.2.1 p.2.2) ∧ S[p.2.1]? = some (.lst (nrs s.ever)) ∧ S[p.2.2]? = some (.lst (nrs s.halting)) ∧ s.way < 3 ∧ s.ever.length ≤ N ∧ s.halting.length ≤ N := by
  rcases R.none_or n with ⟨e, e2⟩ | ⟨p, s', e, e2, h⟩
  · rw [hl] at e2; cases e2
  · rw [hl] at e2; cases e2; exact ⟨p, e, h⟩
theorem stops_ok (R : CtR S c k C ad N) (n : List Int) (b : Int) (aw : Bool) : Goes c k N (C.by_ aw (.stops n b)) (g_Court_stops [.o c, .v (tn n), .v (.int b)] S) := by
  have hc := R.hc
  obtain ⟨ks, us, hk, -, -, hlk⟩ := R.hk
  have ln := hlk n
  have L := runs_ok R n
  by_cases c0 : C.runs n = true
  · obtain ⟨s, hl⟩ := runs_some c0
    obtain ⟨p, hn, a1, a2, a3, hw, -⟩ := R.get hl
    by_cases cb : b ∈ s.halting
    · obtain ⟨S', ad', e, R'⟩ := pause_ok R hn hl (.inl rfl : (1 : Nat) = 1 ∨ _) (200 + b)
      refine Goes.yes (C' := C.pause n s 1 (200 + b)) (by simp [Ct.by_, c0, hl, cb]) S' ?_ R'
      have e' : g_Court_pause [.o c, .v (tn n), .v (.str [115, 116, 111, 112, 115]), .v (.int (200 + b))] S = .ok (.v (.bl true)) S' := e
      simp [g_Court_stops, fnX_ap, hc, L, c0, hk, ln, hn, a1, a3, notIn_nrs1, cb, e', dr, in_nrs1, fNotInO]
    · refine Goes.no (by simp [Ct.by_, c0, hl, cb]) S ?_
      simp [g_Court_stops, fnX_ap, hc, L, c0, hk, ln, hn, a1, a3, notIn_nrs1, cb, dr, in_nrs1, fNotInO]
  · refine Goes.no (by simp [Ct.by_, c0]) S ?_
    simp [g_Court_stops, fnX_ap, hc, L, c0]
theorem ends_ok (R : CtR S c k C ad N) (n : List Int) (st : Int) (aw : Bool) : Goes c k N (C.by_ aw (.ends n st)) (g_Court_ends [.o c, .v (tn n), .v (.int st)] S) := by
  have hc := R.hc
  obtain ⟨ks, us, hk, -, -, hlk⟩ := R.hk
  have ln := hlk n
  have L := lives_ok R n
  by_cases c0 : C.lives n = true
  · obtain ⟨s, hl⟩ := lives_some c0
    obtain ⟨p, hn, a1, a2, a3, hw, -⟩ := R.get hl
    obtain ⟨w1, w2, w3, w4⟩ := fEq_way hw
    obtain ⟨K0, K1, K2, K3, K4, K5, hf, h0, h1, h2, h3, h4, h5⟩ := g_Court_ends_st
    have e0 : g_Court_ends [.o c, .v (tn n), .v (.int st)] S = fnRX (K2 [some (.o c), some (.v (tn n)), some (.v (.int st)), some (.o p.1)] S) := by
      rw [hf, h0]
      simp [hc, L, c0]
      rw [h1]
      simp [hc, hk, ln, hn]
    rw [e0, h2]
    by_cases c1 : st < 100 ∧ s.way ≠ 0
    · refine Goes.no (by simp [Ct.by_, c0, hl, c1]) S ?_
      simp [c1.1, a1, w4, c1.2]
    · by_cases c2 : 100 ≤ st ∧ st - 100 ∉ s.ever
      · refine Goes.no (by simp [Ct.by_, c0, hl, c2]) S ?_
        have q1 : ¬ st < 100 := by omega
        simp [q1]
        rw [h3]
        simp [c2.1, a1, a2, dr, fNotInO, in_nrs1, c2.2]
      · have st2 : K2 [some (.o c), some (.v (tn n)), some (.v (.int st)), some (.o p.1)] S = K4 [some (.o c), some (.v (tn n)), some (.v (.int st)), some (.o p.1)] S := by
          rw [h2]
          by_cases q1 : st < 100
          · have q3 : ¬ 100 ≤ st := by omega
            have q2 : s.way = 0 := by by_cases q : s.way = 0; exact q; exact absurd ⟨q1, q⟩ c1
            have w4' : fNe (wayW s.way) (.str xRuns) = some (.val (.bl false)) := by rw [w4]; simp [q2]
            simp [q1, a1, w4']
            rw [h3]
            simp [q3]
          · have q3 : 100 ≤ st := by omega
            have q4 : st - 100 ∈ s.ever := by by_cases q : st - 100 ∈ s.ever; exact q; exact absurd ⟨q3, q⟩ c2
            simp [q1]
            rw [h3]
            simp [q3, a1, a2, dr, fNotInO, in_nrs1, q4]
        rw [← h2, st2, h4]
        by_cases c3 : s.way = 1 ∧ st ≠ 100
        · refine Goes.no (by simp [Ct.by_, c0, hl, c3]) S ?_
          have w2' : fEq (wayW s.way) (.str xStops) = some (.val (.bl true)) := by rw [w2]; simp [c3.1]
          simp [a1, w2', c_KILL, c3.2]
        · obtain ⟨S', ad', e, R'⟩ := pause_ok R hn hl (.inr rfl : (2 : Nat) = 1 ∨ _) st
          have e' : g_Court_pause [.o c, .v (tn n), .v (.str [101, 110, 100, 101, 100]), .v (.int st)] S = .ok (.v (.bl true)) S' := e
          have nn : ¬ ((st < 100 ∧ s.way ≠ 0) ∨ (100 ≤ st ∧ st - 100 ∉ s.ever) ∨ (s.way = 1 ∧ st ≠ 100)) := by rintro (h | h | h); exact c1 h; exact c2 h; exact c3 h
          refine Goes.yes (C' := C.pause n s 2 st) (by simp only [Ct.by_, c0, hl, if_true, Option.bind_some, if_neg nn]) S' ?_ R'
          by_cases q : s.way = 1
          · have q2 : st = 100 := by by_cases q' : st = 100; exact q'; exact absurd ⟨q, q'⟩ c3
            subst q2
            have w2' : fEq (wayW s.way) (.str xStops) = some (.val (.bl true)) := by rw [w2]; simp [q]
            simp [a1, w2', c_KILL]
            rw [h5]
            simp [hc, e']
          · simp [a1, w2, q]
            rw [h5]
            simp [hc, e']
  · refine Goes.no (by simp [Ct.by_, c0]) S ?_
    simp [g_Court_ends, fnX_ap, hc, L, c0]
theorem stW_ne (o : Option Int) (st : Int) : fNe (stW o) (.int st) = some (.val (.bl (!decide (o = some st)))) := by
  cases o with
  | none => rfl
  | some i => simp [stW]
theorem told_ok (R : CtR S c k C ad N) (n : List Int) (j st : Int) (hlen : n.length < 1000) (aw : Bool) : Goes c k N (C.by_ aw (.told n j st)) (g_Court_told [.o c, .v (tn n), .v (.int j), .v (.int st)] S) := by
  have hc := R.hc
  obtain ⟨ks, us, hk, -, -, hlk⟩ := R.hk
  have ln := hlk (n ++ [j])
  have L := runs_ok R n
  have ha : fAdd (tn n) (.tup [.int j]) = some (.nt (nrs (n ++ [j]))) := by rw [fAdd_tup (by rw [nrs_len]; simp; omega), nrs_app]
  obtain ⟨K0, K1, K2, K3, hf, h0, h1, h2, h3⟩ := g_Court_told_st
  rw [hf, h0]
  rcases R.none_or (n ++ [j]) with ⟨e, e2⟩ | ⟨p, s, e, hl, a1, a2, a3, hw, -⟩
  · simp [hc, hk, ha, ln, e]
    rw [h1]
    refine Goes.no ?_ S ?_
    · by_cases c0 : C.runs n = true <;> simp [Ct.by_, e2, c0]
    · by_cases c0 : C.runs n = true <;> simp [hc, L, c0, nonU]
  · simp [hc, hk, ha, ln, e]
    rw [h1]
    by_cases c0 : C.runs n = true
    · by_cases c1 : s.untold = true ∧ s.status = some st
      · refine Goes.yes (C' := C.put (n ++ [j]) { s with untold := false }) (by simp [Ct.by_, c0, hl, c1.1, c1.2]) _ ?_ (R.upS e hl rfl rfl hw)
        have s1 : fNe (stW s.status) (.int st) = some (.val (.bl false)) := by rw [stW_ne]; simp [c1.2]
        simp [hc, L, c0, nonU, a1, c1.1, s1]
        rw [h2]
        simp [a1, putU]
        rw [h3]
        simp
      · refine Goes.no ?_ S ?_
        · simp only [Ct.by_, c0, if_true, hl, Option.bind_some, if_neg c1]
        · by_cases q : s.untold = true
          · have q2 : ¬ s.status = some st := fun z => c1 ⟨q, z⟩
            simp [hc, L, c0, nonU, a1, q, stW_ne, q2]
          · simp [hc, L, c0, nonU, a1, q]
    · refine Goes.no (by simp [Ct.by_, c0]) S ?_
      simp [hc, L, c0]
theorem lookKU_zip (m n : List Int) (u : U) : ∀ (ks : List (List Int)) (us : List U), ks.length = us.length → lookKU m ks (List.zipWith (fun k' x => if k' = n then u else x) ks us) = if m = n then (lookKU m ks us).map fun _ => u else lookKU m ks us
  | [], [], _ => by simp [lookKU]
  | [], _ :: _, h => by simp at h
  | _ :: _, [], h => by simp at h
  | k :: ks, x :: us, h => by
    have ih := lookKU_zip m n u ks us (by simpa using h)
    simp only [List.zipWith_cons_cons, lookKU, ih]
    by_cases e : k = m
    · subst e
      by_cases q : k = n <;> simp [q]
    · simp [e]
theorem lookKU_app (m n : List Int) (u : U) : ∀ (ks : List (List Int)) (us : List U), ks.length = us.length → lookKU m (ks ++ [n]) (us ++ [u]) = match lookKU m ks us with
    | some x => some x
    | none => if n = m then some u else none
  | [], [], _ => by simp [lookKU]
  | [], _ :: _, h => by simp at h
  | _ :: _, [], h => by simp at h
  | k :: ks, x :: us, h => by
    have ih := lookKU_app m n u ks us (by simpa using h)
    simp only [List.cons_append, lookKU, ih]
    by_cases e : k = m <;> simp [e]
theorem lookKU_put (m n : List Int) (u : U) (ks : List (List Int)) (us : List U) (h : ks.length = us.length) :
    lookKU m (putKU n u ks us).1 (putKU n u ks us).2 = (if m = n then some u else lookKU m ks us) ∧ (putKU n u ks us).1.length = (putKU n u ks us).2.length ∧ (putKU n u ks us).1.length ≤ ks.length + 1 := by
  unfold putKU
  by_cases c : (lookKU n ks us).isSome = true
  · rw [if_pos c]
    refine ⟨?_, by simp [h], by simp⟩
    simp only
    rw [lookKU_zip m n u ks us h]
    by_cases q : m = n
    · subst q
      obtain ⟨x, hx⟩ := Option.isSome_iff_exists.mp c
      simp [hx]
    · simp [q]
  · rw [if_neg c]
    refine ⟨?_, by simp [h], by simp⟩
    simp only
    rw [lookKU_app m n u ks us h]
    have hn : lookKU n ks us = none := by simpa using c
    by_cases q : m = n
    · subst q
      simp [hn]
    · simp only [q, if_false, Ne.symm q]
      cases lookKU m ks us <;> rfl
theorem new_ok (S : Store) (g : List Int) : g_Standing___init__ [.o S.length, .v (tn g)] (S ++ [.ru (.ins cl_Standing) []]) = .ok (.v .non) (S ++ [stdOb (.new g) (S.length + 1) (S.length + 2), .lst [], .lst []]) := by
  simp [g_Standing___init__, fnX_ap, putU, List.set_append, List.getElem?_append]
  exact ⟨rfl, rfl, rfl, rfl, rfl⟩
theorem mk_ok {e : Env'} {da : DE} {g : List Int} (h : da e S = .ok (.v (tn g)) S) : dMk cl_Standing g_Standing___init__ 1 (dCons da dNil) e S = .ok (.o S.length) (S ++ [stdOb (.new g) (S.length + 1) (S.length + 2), .lst [], .lst []]) := by
  simp [h, new_ok]
theorem CtR.upNew (R : CtR S c k C ad N) (g : List Int) {ks : List (List Int)} {us : List U} (hk : S[k]? = some (.ru (.td ks) us)) (hd : C.due = none) :
    CtR ((S ++ [stdOb (.new g) (S.length + 1) (S.length + 2), .lst [], .lst []]).set k (.ru (.td (putKU n (.o S.length) ks us).1) (putKU n (.o S.length) ks us).2)) c k (C.put n (.new g)) (fun m => if m = n then some (S.length, S.length + 1, S.length + 2) else ad m) (N + 1) := by
  obtain ⟨ks', us', hk', lk, lN, hl⟩ := R.hk
  rw [hk] at hk'; cases hk'
  have kl := len_of hk
  have lt : ∀ m q, ad m = some q → q.1 < S.length ∧ q.2.1 < S.length ∧ q.2.2 < S.length := fun m q hq => by
    obtain ⟨s1, l1, b1, b2, b3, -⟩ := R.hs m q hq
    exact ⟨len_of b1, len_of b2, len_of b3⟩
  have P := fun m => lookKU_put m n (.o S.length) ks us lk
  refine ⟨by rw [setNe (ne_ob hk R.hc (by simp))]; exact appAt R.hc, ⟨_, _, setAt (appAt hk), (P n).2.1, by have := (P n).2.2; omega, fun m => ?_⟩, fun m q hq => ?_, fun m hm => ?_, fun m m' q q' hq hq' hne => ?_, fun m q hq => ?_, fun m hm => ?_⟩
  · rw [(P m).1, hl m]
    by_cases e : m = n <;> simp [e]
  · by_cases e : m = n
    · subst e
      simp only [if_true] at hq
      cases hq
      refine ⟨.new g, by rw [look_put]; simp, ?_, ?_, ?_, by simp [St.new], by simp [St.new], by simp [St.new]⟩
      · rw [setNe (by simp; omega)]; simp
      · rw [setNe (by simp; omega)]; simp [St.new, nrs]
      · rw [setNe (by simp; omega)]; simp [St.new, nrs]
    · simp only [e, if_false] at hq
      obtain ⟨s1, l1, b1, b2, b3, w1, w2, w3⟩ := R.hs m q hq
      exact ⟨s1, by rw [look_put, if_neg e]; exact l1, by rw [setNe (ne_ob hk b1 (by simp))]; exact appAt b1, by rw [setNe (ne_ob hk b2 (by simp))]; exact appAt b2, by rw [setNe (ne_ob hk b3 (by simp))]; exact appAt b3, w1, by omega, by omega⟩
  · by_cases e : m = n
    · subst e; simp at hm
    · simp only [e, if_false] at hm
      rw [look_put, if_neg e]; exact R.hn m hm
  · by_cases e : m = n
    · subst e
      simp only [if_true] at hq
      cases hq
      simp only [Ne.symm hne, if_false] at hq'
      obtain ⟨j1, j2, j3⟩ := lt m' q' hq'
      refine ⟨?_, ?_, ?_, ?_, ?_⟩ <;> simp <;> omega
    · simp only [e, if_false] at hq
      by_cases e' : m' = n
      · subst e'
        simp only [if_true] at hq'
        cases hq'
        obtain ⟨j1, j2, j3⟩ := lt m q hq
        refine ⟨?_, ?_, ?_, ?_, ?_⟩ <;> simp <;> omega
      · simp only [e', if_false] at hq'
        exact R.inj m m' q q' hq hq' hne
  · by_cases e : m = n
    · subst e; simp only [if_true] at hq; cases hq; simp
    · simp only [e, if_false] at hq; exact R.ne m q hq
  · rw [show (C.put n (.new g)).due = C.due from rfl, hd] at hm; cases hm
theorem notInD_two (g a b : List Int) : fNotInD (tn g) (.tup [tn a, tn b]) = some (.val (.bl (!decide (g = a ∨ g = b)))) := by
  have h1 := shp_nrs g 64 (by decide)
  have h2 := shp_nrs a 63 (by decide)
  have h3 := shp_nrs b 63 (by decide)
  have e : (eqD (tn a) (tn g) || eqD (tn b) (tn g)) = decide (g = a ∨ g = b) := by
    rw [eqD_nrs, eqD_nrs, Bool.eq_iff_iff]; simp; constructor <;> (rintro (h | h) <;> simp [h])
  simp only [fNotInD, h1, shps, h2, h3, Bool.and_self, and_self, if_true, List.any_cons, List.any_nil, Bool.or_false, e]
theorem starts_ok (R : CtR S c k C ad N) (hd : C.due = none) (hN : N < 16777215) (n g : List Int) (aw : Bool) : Goes c k (N + 1) (C.by_ aw (.starts n g)) (g_Court_starts [.o c, .v (tn n), .v (tn g)] S) := by
  have hc := R.hc
  obtain ⟨ks, us, hk, lk, lN, hlk⟩ := R.hk
  have ln := hlk n.dropLast
  have L := runs_ok R n.dropLast
  obtain ⟨K0, K1, K2, K3, K4, K5, hf, h0, h1, h2, h3, h4, h5⟩ := g_Court_starts_st
  rw [hf, h0]
  by_cases c0 : n = []
  · subst c0
    refine Goes.no (by simp [Ct.by_]) S ?_
    simp [fEq_nil]
  by_cases c1 : C.runs n.dropLast = true
  · obtain ⟨s, hl⟩ := runs_some c1
    obtain ⟨p, hn, a1, a2, a3, hw, -⟩ := R.get hl
    simp [fEq_nil, c0, hc, cut_last, L, c1]
    rw [h1]
    simp [hc, hk, cut_last, ln, hn]
    rw [h2]
    have nin := notInD_two g n s.group
    by_cases c2 : lastI n = s.many
    · by_cases c3 : g = n ∨ g = s.group
      · have R1 := R.upS (s' := { s with many := s.many + 1 }) hn hl rfl rfl hw
        have hk1 : (S.set p.1 (stdOb { s with many := s.many + 1 } p.2.1 p.2.2))[k]? = some (.ru (.td ks) us) := by rw [setNe (ne_ob a1 hk (by simp))]; exact hk
        have R2 := R1.upNew (n := n) g hk1 hd
        have hc1 := R1.hc
        refine Goes.yes (C' := (C.put n.dropLast { s with many := s.many + 1 }).put n (.new g)) ?_ _ ?_ R2
        · simp only [Ct.by_, c0, c1, false_or, if_false, hl, Option.bind_some, c2, c3, not_true_eq_false, ne_eq, or_false, Bool.true_eq_false]
        · simp [ix_last c0, a1, c2, nin, c3]
          rw [h3]
          simp [a1, putU]
          rw [h4]
          have M := mk_ok (S := S.set p.1 (stdOb { s with many := s.many + 1 } p.2.1 p.2.2)) (e := [some (.o c), some (.v (tn n)), some (.v (tn g)), some (.o p.1)]) (da := dVar 2) (g := g) rfl
          generalize hS1 : S.set p.1 (stdOb { s with many := s.many + 1 } p.2.1 p.2.2) = S1 at *
          have l1 : S1.length = S.length := by rw [← hS1]; simp
          have M : dMk cl_Standing g_Standing___init__ 1 (dCons (dVar 2) dNil) [some (.o c), some (.v (tn n)), some (.v (tn g)), some (.o p.1)] S1 = _ := mk_ok (g := g) rfl
          have st4 : (dSetK (dFld cl_Court 0 (dVar 0)) (dVar 1) (dMk cl_Standing g_Standing___init__ 1 (dCons (dVar 2) dNil))) [some (.o c), some (.v (tn n)), some (.v (tn g)), some (.o p.1)] S1 = .ok (.nx [some (.o c), some (.v (tn n)), some (.v (tn g)), some (.o p.1)]) ((S1 ++ [stdOb (.new g) (S1.length + 1) (S1.length + 2), .lst [], .lst []]).set k (.ru (.td (putKU n (.o S1.length) ks us).1) (putKU n (.o S1.length) ks us).2)) := by
            have b1 : ks.length < 16777216 := by omega
            rw [dSetK_ap, M]
            simp [appAt hc1, appAt hk1, b1]
          rw [st4]
          rw [Rs.bind_nx]
          rw [h5]
          simp [l1]
      · refine Goes.no ?_ S ?_
        · simp only [Ct.by_, c0, c1, false_or, if_false, hl, Option.bind_some, c3, not_false_eq_true, or_true, if_true, Bool.true_eq_false]
        · simp [ix_last c0, a1, c2, nin, c3]
    · refine Goes.no ?_ S ?_
      · simp only [Ct.by_, c0, c1, false_or, if_false, hl, Option.bind_some, c2, ne_eq, not_false_eq_true, true_or, if_true, Bool.true_eq_false]
      · simp [ix_last c0, a1, c2]
  · have c1' : C.runs n.dropLast = false := by simpa using c1
    refine Goes.no (by simp [Ct.by_, c1']) S ?_
    simp [fEq_nil, c0, hc, cut_last, L, c1']
end
end Bel

namespace Bel
open PySem PySem.Spec PyProof.Rows L2
end Bel

namespace Bel
open PySem PySem.Spec PyProof.Rows L2
def standsB (Ts : List Tp) (T : Tp) : Bool := if T.name = [] then decide (T.group = []) && !T.untold else match findT Ts T.name.dropLast with
  | none => false
  | some st => !decide (st.started ≤ lastI T.name) && (decide (T.group ∈ [T.name, st.group] ++ sisB Ts T st) && (!T.untold || (!runsB T.how && !endedB st.how)))
section
variable {S : Store} {Ts : List Tp} {T : Tp}
end
end Bel

namespace Bel
open PySem PySem.Spec PyProof.Rows L2
/-- a yard, with its tasks' parts -/
def yardB (Ts : List Tp) (f : List Int) : Bool := rise HT.lexLt (Ts.map (·.name)) && (((findT Ts []).isSome && decide ((Ts.length : Int) = 1 + (Ts.map (·.started)).sum)) && (Ts.all (standsB Ts) && decide (f ∈ Ts.map (·.group))))
def yardW (B : Yb) : W → Bool
  | .tup [f, y, .tup ts] => tnW f && (btws 0 999 y && (ts.all (taskW B) && yardB (ts.map tpOf) (numsOf f)))
  | _ => false
section
variable {S : Store} {B : Yb} {f y : W} {ts : List W}
end
end Bel

namespace Bel
open PySem PySem.Spec PyProof.Rows L2
section
variable {S : Store} {B : Yb}
end
end Bel

namespace Bel
open PySem PySem.Spec PyProof.Rows L2
def insI (x : Int) : List Int → List Int
  | [] => [x]
  | y :: r => if x ≤ y then x :: y :: r else y :: insI x r
def isrt : List Int → List Int
  | [] => []
  | x :: r => insI x (isrt r)
theorem insI_perm (x : Int) : ∀ l, (insI x l).Perm (x :: l)
  | [] => .refl _
  | y :: r => by
    unfold insI
    split
    · exact .refl _
    · exact ((insI_perm x r).cons y).trans (.swap ..)
theorem isrt_perm : ∀ l, (isrt l).Perm l
  | [] => .refl _
  | x :: r => (insI_perm x (isrt r)).trans ((isrt_perm r).cons x)
theorem insI_sorted (x : Int) : ∀ l : List Int, l.Pairwise (· ≤ ·) → (insI x l).Pairwise (· ≤ ·)
  | [], _ => by simp [insI]
  | y :: r, h => by
    unfold insI
    obtain ⟨h1, h2⟩ := List.pairwise_cons.mp h
    split
    · rename_i hx
      refine List.pairwise_cons.mpr ⟨fun z hz => ?_, h⟩
      rcases List.mem_cons.mp hz with rfl | hz
      · exact hx
      · exact Int.le_trans hx (h1 z hz)
    · rename_i hx
      refine List.pairwise_cons.mpr ⟨fun z hz => ?_, insI_sorted x r h2⟩
      rcases List.mem_cons.mp ((insI_perm x r).mem_iff.mp hz) with rfl | hz
      · omega
      · exact h1 z hz
theorem isrt_sorted : ∀ l : List Int, (isrt l).Pairwise (· ≤ ·)
  | [] => .nil
  | x :: r => insI_sorted x _ (isrt_sorted r)
theorem srtI_is (l : List Int) : srtI l = isrt l := (srtI_unique (isrt_perm l) (isrt_sorted l)).symm
def waysC (last : Int) (w : W) : Bool := match prsW w with
  | some ps => ps.all (fun p => btw 0 last p.1) && ((ps.map (·.2)).all (btw 2 7) && rise ltI (isrt (ps.map fun p => numOf p.2)))
  | none => false
theorem waysW_is (last : Int) (w : W) : waysW last w = waysC last w := by
  unfold waysW waysC
  cases prsW w with
  | none => rfl
  | some ps => simp [srtI_is]
structure Pt where
  name : List Int
  group : List Int
  script : List Nat
  st : Int
def Pt.w (p : Pt) : W := .tup [tn p.name, tn p.group, .str p.script, .int 0, .tup [], .tup [.str tRuns], .bl false, .tup [], .tup [], .tup [], .tup [], .int p.st, .tup []]
def Pt.tp (p : Pt) : Tp := ⟨p.name, p.group, p.script, .tup [.str tRuns], false, p.st, p.w⟩
def Pt.ok (p : Pt) : Bool := tnW (tn p.name) && (tnW (tn p.group) && btw 0 (if p.name.length < 4 then (if p.script = [] then 30 else 9) else 0) (.int p.st))
theorem numsOf_tn (l : List Int) : numsOf (tn l) = l := by
  unfold numsOf
  simp [nrs, List.map_map, Function.comp_def, numOf]
theorem Pt.tpOf (p : Pt) : tpOf p.w = p.tp := by
  show Tp.mk (numsOf (tn p.name)) (numsOf (tn p.group)) _ _ _ (numOf (.int p.st)) _ = _
  rw [numsOf_tn, numsOf_tn]
  rfl
theorem Pt.task {B : Yb} {p : Pt} (h : p.script = [] ∨ (B.lookup p.script).isSome = true) : taskW B p.w = p.ok := by
  have h1 : (decide (p.script = []) || (B.lookup p.script).isSome) = true := by
    rcases h with h | h <;> simp [h]
  have h2 : btw 0 (lastB B p.script) (.int 0) = true := by
    unfold lastB btw
    rw [decide_eq_true_eq]
    omega
  have h3 : waysW (lastB B p.script) (.tup []) = true := by rw [waysW_is]; rfl
  have h4 : trapsW (lastB B p.script) (.tup []) = true := rfl
  have h5 : wlen (tn p.name) = p.name.length := by simp [wlen, nrs]
  show taskB B (tn p.name) (tn p.group) p.script (.int 0) (.tup []) (.tup [.str tRuns]) false (.tup []) (.tup []) (.tup []) (.tup []) (.int p.st) (.tup []) = _
  unfold taskB Pt.ok
  rw [h1, h2, h3, h4, h5]
  have c1 : boxesW (.tup []) = true := rfl
  have c2 : howW (.tup [.str tRuns]) = true := rfl
  have c3 : bellsW 0 (.tup []) = true := rfl
  have c4 : bellsW 2 (.tup []) = true := rfl
  have c5 : btws 0 999 (.tup []) = true := rfl
  have c6 : endedB (.tup [.str tRuns]) = false := rfl
  have c7 : heardB (bellsOf (.tup [])) (trapsOf (.tup [])) = true := rfl
  have c8 : idleB (numOf (.int 0)) (.tup [.str tRuns]) false [.tup [], .tup [], .tup [], .tup [], .tup [], .tup []] = true := rfl
  rw [c1, c2, c3, c4, c5, c6, c7, c8]
  simp
theorem okW_tn {N : Nat} {l : List Int} (h : l.length ≤ N) : okG N (tn l) = true := by
  rw [okW_tup, Bool.and_eq_true, decide_eq_true_eq, nrs_len, okWs_iff]
  refine ⟨h, fun w hw => ?_⟩
  obtain ⟨i, _, rfl⟩ := List.mem_map.mp hw
  simp
theorem Pt.okW {p : Pt} (h1 : p.name.length ≤ 60) (h2 : p.group.length ≤ 60) : okG 60 p.w = true := by
  have k1 := okW_tn h1
  have k2 := okW_tn h2
  unfold Pt.w
  simp [k1, k2]
end Bel

namespace Bel
open PySem PySem.Spec PyProof.Rows L2
end Bel

namespace Bel
open PySem PySem.Spec PyProof.Rows L2
section
variable {S : Store} {k : Nat}
end
end Bel

namespace Bel
open PySem PySem.Spec PyProof.Rows L2
section
variable {S : Store} {k : Nat}
end
theorem okW_map {N : Nat} {α : Type} {f : α → W} {l : List α} (h1 : l.length ≤ N) (h2 : ∀ a ∈ l, okG N (f a) = true) : okG N (.tup (l.map f)) = true := by
  rw [okW_tup, Bool.and_eq_true, decide_eq_true_eq, List.length_map, okWs_iff]
  refine ⟨h1, fun w hw => ?_⟩
  obtain ⟨a, ha, rfl⟩ := List.mem_map.mp hw
  exact h2 a ha
end Bel

namespace Bel
open PySem PySem.Spec PyProof.Rows L2
section
variable {S : Store} {k : Nat}
end
end Bel

namespace Bel
open PySem PySem.Spec PyProof.Rows L2
section
variable {S : Store} {k : Nat}
end
end Bel

namespace Bel
open PySem PySem.Spec PyProof.Rows L2
/-- what is still to be made -/
structure Te where
  name : List Int
  group : List Int
  script : List Nat
  orph : Bool
def Te.w (e : Te) : W := .tup [tn e.name, tn e.group, .str e.script, .bl e.orph]
end Bel

namespace Bel
open PySem PySem.Spec PyProof.Rows L2
end Bel

namespace Bel
open PySem PySem.Spec PyProof.Rows L2
theorem tnW_nrs {l : List Int} : tnW (tn l) = true ↔ (∀ i ∈ l, 0 ≤ i ∧ i ≤ 29) ∧ l.length ≤ 4 := by
  show ((nrs l).all (btw 0 29) && decide ((nrs l).length ≤ 4)) = true ↔ _
  rw [Bool.and_eq_true, decide_eq_true_eq, nrs_len, List.all_eq_true]
  unfold nrs
  constructor
  · rintro ⟨h, h2⟩
    exact ⟨fun i hi => by simpa [btw] using h (.int i) (List.mem_map_of_mem hi), h2⟩
  · rintro ⟨h, h2⟩
    refine ⟨fun w hw => ?_, h2⟩
    obtain ⟨i, hi, rfl⟩ := List.mem_map.mp hw
    simpa [btw] using h i hi
end Bel

namespace Bel
open PySem PySem.Spec PyProof.Rows L2
section
variable {B : Yb} {names : List (List Nat)} {i qt qf : Nat} {ns : List Int} {first : Int}
end
end Bel

namespace Bel
open PySem PySem.Spec PyProof.Rows L2
end Bel

namespace Bel
open PySem PySem.Spec PyProof.Rows L2
section
variable {S : Store} {B : Yb} {i : Nat} {ns : List Int} {first : Int}
end
end Bel

namespace Bel
open PySem PySem.Spec PyProof.Rows L2
end Bel

namespace Bel
open PySem PySem.Spec PyProof.Rows L2 TL
def numT (x : List Nat) : Option Nat := (List.range 1000).find? fun n => decide (numL n = x)
def dg (c : Nat) : Nat := c - 48
/-- a word: a box, a number -/
def leafT (x : List Nat) : Option Trm := if nm x = true then some (.box x) else (numT x).map .num
def sgT (x : List Nat) : Option (List Nat) := if x = [32, 43, 32] then some tPlus else if x = [32, 60, 32] then some tLess else if x = [32, 61, 32] then some tSame else none
def runW (y : List Nat) : List Nat := y.takeWhile fun c => decide (c ∈ an)
/-- the program's reader -/
def rd : Nat → List Nat → Option (Trm × List Nat)
  | 0, _ => none
  | k + 1, y => if y.take 1 = [40] then
      match rd k (y.drop 1) with
      | none => none
      | some (a, z) => match sgT (z.take 3) with
        | none => none
        | some s => match rd k (z.drop 3) with
          | none => none
          | some (b, u) => if u.take 1 = [41] then some (.bin s a b, u.drop 1) else none
    else (leafT (runW y)).map fun t => (t, y.drop (runW y).length)
end Bel

namespace Bel
open PySem PySem.Spec PyProof.Rows L2 TL
theorem st1 : (∀ b ∈ figs, Txt.startswith (mkS [48, b]) (mkS [48]) = true) ∧ ∀ b ∈ figs, ∀ c ∈ figs, Txt.startswith (mkS [48, b, c]) (mkS [48]) = true := by decide +kernel
section
variable {S : Store}
end
end Bel

namespace Bel
open PySem PySem.Spec PyProof.Rows L2 TL
end Bel

namespace Bel
open PySem PySem.Spec PyProof.Rows L2 TL
section
variable {S : Store}
/-- a text told many times -/
def rp (x : List Nat) (k : Nat) : List Nat := (List.replicate k x).flatten
end
end Bel

namespace Bel
open PySem PySem.Spec PyProof.Rows L2 TL
inductive Knd where | term | box | to | whose | bell | soft | place | what | script | where_
  deriving DecidableEq
def Knd.t : Knd → List Nat
  | .term => [116, 101, 114, 109]
  | .box => [98, 111, 120]
  | .to => [116, 111]
  | .whose => [119, 104, 111, 115, 101]
  | .bell => [98, 101, 108, 108]
  | .soft => [115, 111, 102, 116]
  | .place => [112, 108, 97, 99, 101]
  | .what => [119, 104, 97, 116]
  | .script => [115, 99, 114, 105, 112, 116]
  | .where_ => [119, 104, 101, 114, 101]
abbrev Knd.w (k : Knd) : W := .str k.t
def frm : List (List Nat × List Knd) := [([115, 101, 116], [.box, .term]), ([106, 117, 109, 112], [.term, .place]), ([115, 97, 121], [.term]), ([115, 116, 97, 114, 116], [.script, .where_]), ([119, 97, 105, 116], [.term, .box]), ([119, 97, 116, 99, 104], [.term, .box]),
  ([114, 105, 110, 103], [.bell, .to]), ([116, 114, 97, 112], [.soft, .what]), ([104, 111, 108, 100], [.soft]), ([102, 114, 101, 101], [.soft]), ([114, 101, 115, 116], []), ([98, 97, 99, 107], []), ([114, 101, 97, 100], [.box]), ([102, 114, 111, 110, 116], [.whose]), ([101, 110, 100], [.term])]
inductive Prt where
  | term (t : Trm)
  | word (x : List Nat)
  | num (n : Nat)
  | to1 (x : List Nat)
  | to2 (x : List Nat) (t : Trm)
def Prt.w : Prt → W
  | .term t => t.w
  | .word x => .str x
  | .num n => .int n
  | .to1 x => .tup [.str x]
  | .to2 x t => .tup [.str x, t.w]
def fits : Knd → Prt → Bool
  | .term, .term _ => true
  | .to, .to1 _ => true
  | .to, .to2 _ _ => true
  | .whose, .to1 _ => true
  | .whose, .to2 _ _ => true
  | .place, .num _ => true
  | .what, .num _ => true
  | .what, .word _ => true
  | .box, .word _ => true
  | .bell, .word _ => true
  | .soft, .word _ => true
  | .script, .word _ => true
  | .where_, .word _ => true
  | _, _ => false
abbrev tUp : List Nat := [117, 112]
abbrev tOwn : List Nat := [111, 119, 110]
abbrev tChild : List Nat := [99, 104, 105, 108, 100]
abbrev tJob : List Nat := [106, 111, 98]
abbrev tFall : List Nat := [102, 97, 108, 108]
abbrev tPlain : List Nat := [112, 108, 97, 105, 110]
abbrev tNew : List Nat := [110, 101, 119]
abbrev tKill : List Nat := [107, 105, 108, 108]
abbrev tHalt : List Nat := [104, 97, 108, 116]
def isP (last : Nat) (names : List (List Nat)) : Knd → Prt → Bool
  | .term, .term t => tm 6 t.w
  | .box, .word x => nm x
  | .to, .to1 x => decide (x ∈ [tUp, tOwn])
  | .to, .to2 x t => decide (x ∈ [tChild, tJob]) && tm 6 t.w
  | .whose, .to1 x => decide (x ∈ [tOwn])
  | .whose, .to2 x t => decide (x ∈ [tJob]) && tm 6 t.w
  | .bell, .word x => decide (x ∈ bellw)
  | .soft, .word x => decide (x ∈ bellw) && !decide (x ∈ [tKill, tHalt])
  | .place, .num n => decide (n ≤ last)
  | .what, .num n => decide (n ≤ last)
  | .what, .word x => decide (x ∈ [tFall, tPlain])
  | .script, .word x => decide (x ∈ names)
  | .where_, .word x => decide (x ∈ [tOwn, tNew])
  | _, _ => false
section
variable {S : Store}
end
end Bel

namespace Bel
open PySem PySem.Spec PyProof.Rows L2 TL
section
variable {S : Store}
end
end Bel

namespace Bel
open PySem PySem.Spec PyProof.Rows L2 TL
structure Dd where
  word : List Nat
  ps : List Prt
def Dd.w (d : Dd) : W := .tup (.str d.word :: d.ps.map Prt.w)
def Dd.ks (d : Dd) : List Knd := (frm.lookup d.word).getD []
structure Dd.Fit (d : Dd) : Prop where
  known : frm.lookup d.word = some d.ks
  len : d.ks.length = d.ps.length
  each : ∀ q ∈ d.ks.zip d.ps, fits q.1 q.2 = true
def isD (last : Nat) (names : List (List Nat)) (d : Dd) : Bool := (d.ks.zip d.ps).all fun q => isP last names q.1 q.2
def isS (names : List (List Nat)) (ds : List Dd) : Bool := decide (ds.length ≤ 30) && ds.all (isD ds.length names)
abbrev Bk := List (List Nat × List Dd)
def Bk.w (b : Bk) : List (W × W) := b.map fun p => (.str p.1, .tup (p.2.map Dd.w))
def Bk.names (b : Bk) : List (List Nat) := b.map (·.1)
def isB (b : Bk) : Bool := decide (1 ≤ b.length ∧ b.length ≤ 8) && (b.all (fun p => nm p.1) && b.all (fun p => isS b.names p.2))
section
variable {S : Store}
end
end Bel

namespace Bel
open PySem PySem.Spec PyProof.Rows L2
def dB (many k : Nat) : Dd := match (k + many) % 3 with
  | 0 => ⟨[114, 101, 115, 116], []⟩
  | 1 => ⟨[115, 97, 121], [.term (.num 7)]⟩
  | _ => ⟨[106, 117, 109, 112], [.term (.box [120]), .num many]⟩
def sB (many : Nat) : List Dd := (List.range many).map (dB many)
/-- a script of such a book -/
def ScB (ds : List Dd) : Prop := ∃ many, many ≤ 30 ∧ ds = sB many
theorem dB_fit (many k : Nat) : (dB many k).Fit := by
  unfold dB
  split
  · exact ⟨by decide, by decide, by decide⟩
  · exact ⟨by decide, by decide, by decide⟩
  · refine ⟨rfl, rfl, fun q hq => ?_⟩
    have hq : q ∈ [(Knd.term, Prt.term (.box [120])), (Knd.place, Prt.num many)] := hq
    rcases List.mem_cons.mp hq with rfl | hq
    · rfl
    · rcases List.mem_cons.mp hq with rfl | hq
      · rfl
      · cases hq
theorem dB_is (many k : Nat) (names : List (List Nat)) : isD many names (dB many k) = true := by
  unfold dB
  split
  · rfl
  · show (([Knd.term].zip [Prt.term (.num 7)]).all fun q => isP many names q.1 q.2) = true
    rfl
  · show (([Knd.term, Knd.place].zip [Prt.term (.box [120]), Prt.num many]).all fun q => isP many names q.1 q.2) = true
    simp [isP]
    decide
theorem sc_len {ds : List Dd} (h : ScB ds) : ds.length ≤ 30 := by
  obtain ⟨m, h1, rfl⟩ := h
  simp [sB]; exact h1
theorem sc_is {ds : List Dd} (h : ScB ds) (names : List (List Nat)) : isS names ds = true := by
  have hl := sc_len h
  obtain ⟨m, h1, rfl⟩ := h
  unfold isS
  have : (sB m).length = m := by simp [sB]
  rw [this, decide_eq_true (by omega : m ≤ 30), Bool.true_and, List.all_eq_true]
  intro d hd
  obtain ⟨k, _, rfl⟩ := List.mem_map.mp hd
  exact dB_is m k names
/-- such a book -/
structure BkB (b : Bk) : Prop where
  ne : b ≠ []
  len : b.length ≤ 3
  nd : b.names.Nodup
  nms : ∀ p ∈ b, nm p.1 = true
  scs : ∀ p ∈ b, ScB p.2
  sht : ∀ p ∈ b, p.1.length ≤ 4
theorem BkB.is {b : Bk} (h : BkB b) : isB b = true := by
  unfold isB
  have : 1 ≤ b.length := by
    have := h.ne
    cases b with
    | nil => exact absurd rfl this
    | cons a r => simp
  have l := h.len
  rw [decide_eq_true (by omega : 1 ≤ b.length ∧ b.length ≤ 8), Bool.true_and, Bool.and_eq_true, List.all_eq_true, List.all_eq_true]
  exact ⟨h.nms, fun p hp => sc_is (h.scs p hp) _⟩
theorem BkB.fit {b : Bk} (h : BkB b) : ∀ p ∈ b, ∀ d ∈ p.2, d.Fit := fun p hp d hd => by
  obtain ⟨m, _, e⟩ := h.scs p hp
  rw [e] at hd
  obtain ⟨k, _, rfl⟩ := List.mem_map.mp hd
  exact dB_fit m k
def Bk.yb (b : Bk) : Yb := b.map fun p => (p.1, p.2.map Dd.w)
theorem look_yb (b : Bk) (s : List Nat) : b.yb.lookup s = (b.lookup s).map fun ds => ds.map Dd.w := by
  unfold Bk.yb
  induction b with
  | nil => rfl
  | cons p r ih =>
    rw [List.map_cons, List.lookup_cons, List.lookup_cons, ih]
    cases s == p.1 <;> rfl
theorem look_memB {b : Bk} {s : List Nat} {ds : List Dd} (h : b.lookup s = some ds) : ∃ p ∈ b, p.2 = ds := by
  induction b with
  | nil => cases h
  | cons p r ih =>
    rw [List.lookup_cons] at h
    cases e : s == p.1 with
    | true => rw [e] at h; cases h; exact ⟨p, List.mem_cons_self, rfl⟩
    | false =>
      rw [e] at h
      obtain ⟨q, h1, h2⟩ := ih h
      exact ⟨q, List.mem_cons_of_mem _ h1, h2⟩
theorem BkB.yb {b : Bk} (h : BkB b) (s : List Nat) : ((b.yb.lookup s).getD []).length ≤ 1000 := by
  rw [look_yb]
  cases e : b.lookup s with
  | none => exact Nat.zero_le _
  | some ds =>
    obtain ⟨p, hp, rfl⟩ := look_memB e
    have := sc_len (h.scs p hp)
    show (p.2.map Dd.w).length ≤ 1000
    rw [List.length_map]; omega
section
variable {k qb : Nat}
end
end Bel

namespace Bel
open PySem PySem.Spec PyProof.Rows L2
section
variable {k : Nat} {T : Store} {n : Int}
end
section
variable {S : Store} {B : Yb} {i : Nat} {ns : List Int} {first : Int}
/-- a drawn yard -/
structure Yd (B : Yb) (Ts : List Tp) (f y : List Int) : Prop where
  len : Ts.length ≤ 40
  ne : Ts ≠ []
  ts : ∀ T ∈ Ts, taskW B T.w = true ∧ okG 60 T.w = true ∧ tpOf T.w = T
  yd : ∀ f ∈ Ts.map (·.group), yardB Ts f = true
  ff : f ∈ Ts.map (·.group)
  yl : y.length ≤ 3
  yb : ∀ b ∈ y, 0 ≤ b ∧ b ≤ 999
def ydW (Ts : List Tp) (f y : List Int) : W := .tup [tn f, tn y, .tup (Ts.map Tp.w)]
end
/-- a drawn yard is a yard -/
theorem Yd.is {B : Yb} {Ts : List Tp} {f y : List Int} (h : Yd B Ts f y) : yardW B (ydW Ts f y) = true := by
  show (tnW (tn f) && (btws 0 999 (tn y) && ((Ts.map Tp.w).all (taskW B) && yardB ((Ts.map Tp.w).map tpOf) (numsOf (tn f))))) = true
  have h1 : tnW (tn f) = true := by
    obtain ⟨T, hT, rfl⟩ := List.mem_map.mp h.ff
    have := (tp_of (h.ts T hT).1).gl
    rw [(h.ts T hT).2.2] at this
    exact tnW_nrs.mpr ⟨this.2, this.1⟩
  have h2 : btws 0 999 (tn y) = true := by
    show (nrs y).all (btw 0 999) = true
    rw [List.all_eq_true]
    intro w hw
    obtain ⟨i, hi, rfl⟩ := List.mem_map.mp hw
    simp [btw, h.yb i hi]
  have h3 : (Ts.map Tp.w).all (taskW B) = true := by
    rw [List.all_eq_true]
    intro w hw
    obtain ⟨T, hT, rfl⟩ := List.mem_map.mp hw
    exact (h.ts T hT).1
  have h4 : (Ts.map Tp.w).map tpOf = Ts := by
    rw [List.map_map]
    conv => rhs; rw [← List.map_id Ts]
    exact List.map_congr_left fun T hT => (h.ts T hT).2.2
  rw [h1, h2, h3, h4, numsOf_tn, h.yd f h.ff]; rfl
theorem Yd.ok60 {B : Yb} {Ts : List Tp} {f y : List Int} (h : Yd B Ts f y) : okG 60 (.tup (Ts.map Tp.w)) = true ∧ okG 60 (tn f) = true ∧ okG 60 (tn y) = true := by
  refine ⟨okW_map (by have := h.len; omega) fun T hT => (h.ts T hT).2.1, okW_tn ?_, okW_tn (by have := h.yl; omega)⟩
  obtain ⟨T, hT, rfl⟩ := List.mem_map.mp h.ff
  have := (tp_of (h.ts T hT).1).gl
  rw [(h.ts T hT).2.2] at this
  omega
theorem Yd.ok {B : Yb} {Ts : List Tp} {f y : List Int} (h : Yd B Ts f y) : okG 63 (.tup (Ts.map Tp.w)) = true ∧ okG 63 (tn f) = true ∧ okG 63 (tn y) = true := by
  obtain ⟨h1, h2, h3⟩ := h.ok60
  exact ⟨okG_up (by decide) h1, okG_up (by decide) h2, okG_up (by decide) h3⟩
theorem Yd.okW {B : Yb} {Ts : List Tp} {f y : List Int} (h : Yd B Ts f y) : Bel.okG 63 (ydW Ts f y) = true := by
  obtain ⟨h1, h2, h3⟩ := h.ok
  unfold ydW
  generalize W.tup (Ts.map Tp.w) = A at *
  generalize tn f = A1 at *
  generalize tn y = A2 at *
  simp [h1, h2, h3]
end Bel

namespace Bel
open PySem PySem.Spec PyProof.Rows L2
mutual
theorem eqD_refl : ∀ (n : Nat) (w : W), shp n w = true → eqD w w = true
  | _, .non, _ => rfl
  | _, .bl b, _ => by cases b <;> rfl
  | _, .int i, _ => by rw [eqI, decide_eq_true rfl]
  | _, .str x, _ => by rw [Bel.eqD_str, decide_eq_true rfl]
  | 0, .tup _, h => by simp [shp] at h
  | 0, .lst _, h => by simp [shp] at h
  | n + 1, .tup l, h => (eqD_refls n l h).1
  | n + 1, .lst l, h => (eqD_refls n l h).2
  | 0, .dct _, h => by simp [shp] at h
  | _ + 1, .dct _, h => by simp [shp] at h
  | 0, .exc _, h => by simp [shp] at h
  | _ + 1, .exc _, h => by simp [shp] at h
  | 0, .kdc _, h => by simp [shp] at h
  | _ + 1, .kdc _, h => by simp [shp] at h
  | 0, .tdc _, h => by simp [shp] at h
  | _ + 1, .tdc _, h => by simp [shp] at h
theorem eqD_refls : ∀ (n : Nat) (l : List W), shps n l = true → eqD (.tup l) (.tup l) = true ∧ eqD (.lst l) (.lst l) = true
  | _, [], _ => ⟨rfl, rfl⟩
  | n, x :: r, h => by
    rw [shps, Bool.and_eq_true] at h
    obtain ⟨h1, h2⟩ := eqD_refls n r h.2
    rw [eqD_tc, eqD_lc, eqD_refl n x h.1, h1, h2]
    exact ⟨rfl, rfl⟩
end
section
variable {S : Store} {B : Yb}
end
end Bel

namespace Bel
open PySem PySem.Spec PyProof.Rows L2
theorem eqD_tag {x y : List Nat} {l m : List W} : eqD (.tup (.str x :: l)) (.tup (.str y :: m)) = (decide (x = y) && eqD (.tup l) (.tup m)) := by rw [eqD_tc, eqD_str]
theorem eqD_tni {n m : List Int} {l r : List W} : eqD (.tup (tn n :: l)) (.tup (tn m :: r)) = (decide (n = m) && eqD (.tup l) (.tup r)) := by rw [eqD_tc, eqD_nrs]
theorem eqD_ini {n m : Int} {l r : List W} : eqD (.tup (.int n :: l)) (.tup (.int m :: r)) = (decide (n = m) && eqD (.tup l) (.tup r)) := by rw [eqD_tc, eqI]
theorem eqD_row (r r' : Rw) : eqD r.w r'.w = decide (r = r') := by
  have e0 : eqD (.tup []) (.tup []) = true := rfl
  cases r <;> cases r' <;> simp only [Rw.w, eqD_tag, eqD_tni, eqD_ini, e0] <;> simp [Rw.starts.injEq]
  all_goals (rw [Bool.eq_iff_iff]; simp)
theorem shp_row (r : Rw) (m : Nat) (h : 2 ≤ m) : shp m r.w = true := by
  obtain ⟨m, rfl⟩ : ∃ j, m = j + 2 := ⟨m - 2, by omega⟩
  have q : ∀ n : List Int, shps m (nrs n) = true := fun n => shp_nrs n (m + 1) (by omega)
  cases r <;> simp [Rw.w, shp, shps, q]
theorem fNe_row (r r' : Rw) : fNe r.w r'.w = some (.val (.bl (!decide (r = r')))) := by
  rw [fNe_is (shp_row r 64 (by decide)) (shp_row r' 64 (by decide)), eqD_row]
def Rw.name : Rw → List Int
  | .starts n _ => n | .says n _ => n | .rung n _ => n | .stops n _ => n | .goes n => n | .ends n _ => n | .told n _ _ => n
section
variable {S S' : Store} {c k N N' : Nat} {C : Ct} {ad : List Int → Option (Nat × Nat × Nat)} {n : List Int} {p p' : Nat × Nat × Nat} {s s' : St} {du : Option Rw}
theorem Goes.mono {o : Option Ct} {r : Re U} (h : Goes c k N o r) (hN : N ≤ N') : Goes c k N' o r := by
  cases o with
  | none => exact h
  | some C' => obtain ⟨S', ad', e, R⟩ := h; exact ⟨S', ad', e, R.mono hN⟩
theorem dueW_none : isNon (dueW none) = true := rfl
theorem dueW_some (r : Rw) : isNon (dueW (some r)) = false := by cases r <;> rfl
theorem dueW_is (o : Option Rw) : isNon (dueW o) = !o.isSome := by cases o with
  | none => rfl
  | some r => rw [dueW_some]; rfl
theorem ix3_tup {a b c d : W} {l : List W} : fIx (.tup (a :: b :: c :: d :: l)) (.int 3) = some (.val d) := by
  rw [ixT_pk (by decide) (by simp; omega)]; rfl
theorem st_rt (x : Re U) (e : Env') : fnRX (x.st e fun u S1 => .ok (.rt u) S1) = x := by cases x <;> rfl
theorem st_rtb (x : Re U) (e : Env') (K : DS) : ((x.st e fun u S1 => .ok (.rt u) S1).bind K) = x.st e fun u S1 => .ok (.rt u) S1 := by cases x <;> rfl
theorem lets_ok (R : CtR S c k C ad N) (hN : N < 16777215) (r : Rw) (hl : r.name.length < 1000) : Goes c k (N + 1) (C.letsBy r) (g_Court_lets_by [.o c, .v r.w] S) := by
  have hc := R.hc
  obtain ⟨K0, K1, K2, K3, K4, K5, K6, K7, K8, K9, hf, h0, h1, h2, h3, h4, h5, h6, h7, h8, h9⟩ := g_Court_lets_by_st
  rw [hf, h0]
  by_cases c0 : C.due.isSome = true ∧ C.due ≠ some r
  · obtain ⟨d, hd⟩ := Option.isSome_iff_exists.mp c0.1
    have q : ¬ r = d := fun z => c0.2 (by rw [hd, z])
    refine Goes.no (by unfold Ct.letsBy; rw [if_pos c0]) S ?_
    have e : fNe r.w (dueW (some d)) = some (.val (.bl true)) := by
      show fNe r.w d.w = _
      rw [fNe_row]; simp [q]
    simp [hc, hd, nonU, dueW_some, e]
  · have st1 : (dIfS (dAnd (dT (dIsU true (dFld cl_Court 1 (dVar 0)) (dC .non))) (dT (dBin false fNe (dVar 1) (dFld cl_Court 1 (dVar 0))))) (dRet (dC (.bl false))) dNext) [some (.o c), some (.v r.w), none] S = .ok (.nx [some (.o c), some (.v r.w), none]) S := by
      cases hd : C.due with
      | none =>
        rw [hd] at hc
        simp [hc, nonU, dueW_none]
      | some d =>
        have q : r = d := by
          by_cases z : r = d
          · exact z
          · exact absurd ⟨by rw [hd]; rfl, by rw [hd]; intro h; cases h; exact z rfl⟩ c0
        have e : fNe r.w (dueW (some d)) = some (.val (.bl false)) := by
          show fNe r.w d.w = _
          rw [fNe_row]; simp [q]
        rw [hd] at hc
        simp [hc, nonU, dueW_some, e]
    have R1 := R.upDue (du := none) (fun m h => by cases h) (Nat.le_refl N)
    have e0 : fnRX (((dIfS (dAnd (dT (dIsU true (dFld cl_Court 1 (dVar 0)) (dC .non))) (dT (dBin false fNe (dVar 1) (dFld cl_Court 1 (dVar 0))))) (dRet (dC (.bl false))) dNext) [some (.o c), some (.v r.w), none] S).bind K1) =
        fnRX (K3 [some (.o c), some (.v r.w), some (.v (.bl C.due.isSome))] (S.set c (.ru (.ins cl_Court) [.o k, .v (dueW none)]))) := by
      rw [st1]
      simp only [Rs.bind_nx]
      rw [h1]
      simp [hc, nonU, dueW_is]
      rw [h2]
      simp [hc, putU]
      rfl
    have e1 : (List.map some [U.o c, U.v r.w] ++ List.replicate (3 - [U.o c, U.v r.w].length) none) = [some (.o c), some (.v r.w), none] := rfl
    rw [e1, e0]
    have lb : C.letsBy r = Ct.by_ { C with due := none } C.due.isSome r := by unfold Ct.letsBy; rw [if_neg c0]
    rw [lb]
    have hc1 := R1.hc
    generalize S.set c (.ru (.ins cl_Court) [.o k, .v (dueW none)]) = S1 at *
    have hg : C.due.isSome = true → ∀ n, r = .goes n → (ad n).isSome = true := fun h n e => by
      have : C.due = some r := by
        by_cases z : C.due = some r
        · exact z
        · exact absurd ⟨h, z⟩ c0
      exact R.due n (by rw [this, e])
    generalize hC1 : ({ C with due := none } : Ct) = C1 at *
    have d1 : C1.due = none := by rw [← hC1]
    generalize C.due.isSome = aw at *
    have nx : ∀ n g : List Int, ∀ b j st : Int, True := fun _ _ _ _ _ => trivial
    cases r with
    | goes n =>
      rw [h3]
      cases aw with
      | false =>
        refine Goes.no (by simp [Ct.by_]) S1 ?_
        simp [Rw.w]
      | true =>
        obtain ⟨p, hp⟩ := Option.isSome_iff_exists.mp (hg rfl n rfl)
        obtain ⟨s, hl, a1, a2, a3, hw, -⟩ := R1.hs n p hp
        refine Goes.yes (C' := C1.put n { s with way := 0, untold := false }) (by simp [Ct.by_, hl]) _ ?_ ((R1.upS (s' := { s with way := 0, untold := false }) hp hl rfl rfl (by show 0 < 3; decide)).mono (Nat.le_succ _))
        have G := goes_ok R1 hp hl
        simp [Rw.w, hc1, G]
    | starts n g =>
      rw [h3]
      simp [Rw.w]
      rw [h4]
      have G := starts_ok R1 d1 hN n g aw
      simpa [Rw.w, hc1, st_rt, st_rtb, ix3_tup] using G
    | says n j =>
      rw [h3]
      simp [Rw.w]
      rw [h4]
      simp [Rw.w]
      rw [h5]
      have L := runs_ok R1 n
      by_cases q : C1.runs n = true
      · refine Goes.yes (C' := C1) (by simp [Ct.by_, q]) S1 ?_ (R1.mono (Nat.le_succ _))
        simp [Rw.w, hc1, L, q]
      · refine Goes.no (by simp [Ct.by_, q]) S1 ?_
        simp [Rw.w, hc1, L, q]
    | rung n b =>
      rw [h3]
      simp [Rw.w]
      rw [h4]
      simp [Rw.w]
      rw [h5]
      simp [Rw.w]
      rw [h6]
      have G := rung_ok R1 d1 n b hN aw
      simpa [Rw.w, hc1, st_rt, st_rtb, ix3_tup] using G
    | stops n b =>
      rw [h3]
      simp [Rw.w]
      rw [h4]
      simp [Rw.w]
      rw [h5]
      simp [Rw.w]
      rw [h6]
      simp [Rw.w]
      rw [h7]
      have G := (stops_ok R1 n b aw).mono (Nat.le_succ _)
      simpa [Rw.w, hc1, st_rt, st_rtb, ix3_tup] using G
    | ends n st =>
      rw [h3]
      simp [Rw.w]
      rw [h4]
      simp [Rw.w]
      rw [h5]
      simp [Rw.w]
      rw [h6]
      simp [Rw.w]
      rw [h7]
      simp [Rw.w]
      rw [h8]
      have G := (ends_ok R1 n st aw).mono (Nat.le_succ _)
      simpa [Rw.w, hc1, st_rt, st_rtb, ix3_tup] using G
    | told n j st =>
      rw [h3]
      simp [Rw.w]
      rw [h4]
      simp [Rw.w]
      rw [h5]
      simp [Rw.w]
      rw [h6]
      simp [Rw.w]
      rw [h7]
      simp [Rw.w]
      rw [h8]
      simp [Rw.w]
      rw [h9]
      have G := (told_ok R1 n j st hl aw).mono (Nat.le_succ _)
      simpa [Rw.w, hc1, st_rt, st_rtb, ix3_tup] using G
end
end Bel

namespace Bel
open PySem PySem.Spec PyProof.Rows L2
def formsR : List (List Nat × List (List Nat)) := [(xStarts, [[110, 97, 109, 101], [110, 97, 109, 101]]), (xSays, [[110, 97, 109, 101], [110, 117, 109, 98, 101, 114]]), (xRung, [[110, 97, 109, 101], [98, 101, 108, 108]]), (xStops, [[110, 97, 109, 101], [98, 101, 108, 108]]), (xGoes, [[110, 97, 109, 101]]), (xEnds, [[110, 97, 109, 101], [115, 116, 97, 116, 117, 115]]), (xTold, [[110, 97, 109, 101], [99, 104, 105, 108, 100], [116, 111, 108, 100]])]
theorem formsR_is : d_FORMS_w = formsR.map fun p => (p.1, W.tup (p.2.map W.str)) := rfl
theorem lookup_mapR {α β : Type} (f : α → β) (x : List Nat) : ∀ l : List (List Nat × α), (l.map fun p => (p.1, f p.2)).lookup x = (l.lookup x).map f
  | [] => rfl
  | (y, a) :: l => by
    simp only [List.map_cons, List.lookup_cons, lookup_mapR f x l]
    cases x == y <;> rfl
theorem formsR_look (x : List Nat) : d_FORMS_w.lookup x = (formsR.lookup x).map fun ks => W.tup (ks.map W.str) := by
  rw [formsR_is]; exact lookup_mapR (fun ks => W.tup (ks.map W.str)) x formsR
def kindsR : List (List Nat) := [[110, 97, 109, 101], [110, 117, 109, 98, 101, 114], [98, 101, 108, 108], [115, 116, 97, 116, 117, 115], [99, 104, 105, 108, 100], [116, 111, 108, 100]]
theorem formsR_kinds : ∀ p ∈ formsR, p.2.length ≤ 3 ∧ ∀ k ∈ p.2, k ∈ kindsR := by decide +kernel
theorem lookup_memR {α : Type} {x : List Nat} {a : α} : ∀ {l : List (List Nat × α)}, l.lookup x = some a → (x, a) ∈ l
  | [], h => by cases h
  | (y, b) :: l, h => by
    rw [List.lookup_cons] at h
    cases e : x == y with
    | true => rw [e] at h; cases h; have : x = y := by simpa using e
              subst this; exact List.mem_cons_self ..
    | false => rw [e] at h; exact List.mem_cons_of_mem _ (lookup_memR h)
/-- a thing in a row, of a kind -/
def fitK (kd : List Nat) (w : W) : Bool := if kd = [110, 97, 109, 101] then tnW w else if kd = [115, 116, 97, 116, 117, 115] then stat w else if kd = [116, 111, 108, 100] then stat w || btw 201 202 w
  else if kd = [110, 117, 109, 98, 101, 114] then isnum w 999 else if kd = [98, 101, 108, 108] then isnum w 7 else isnum w 29
section
variable {S : Store}
theorem in_stopsR {i : Int} : fInO (.int i) c_OF_STOPS = some (.val (.bl (decide (i = 201 ∨ i = 202)))) := by
  have h1 : eqD (.int 201) (.int i) = decide (i = 201) := by rw [eqI, Bool.eq_iff_iff]; simp; omega
  have h2 : eqD (.int 202) (.int i) = decide (i = 202) := by rw [eqI, Bool.eq_iff_iff]; simp; omega
  simp [fInO, fIn, c_OF_STOPS, isFlat, h1, h2]
theorem fits_t {kd : List Nat} (hk : kd ∈ kindsR) {w : W} (hw : okG 63 w = true) : g_fits [.v (.str kd), .v w] S = .ok (.v (.bl (fitK kd w))) S := by
  obtain ⟨K0, K1, K2, K3, hf, h0, h1, h2, h3⟩ := g_fits_st
  have mx : fMaxT [c_OF_STOPS] = some (.val (.int 202)) := rfl
  have ne := ok_exc hw
  have tn := task_name_w (S := S) hw
  have st := status_w (S := S) ne
  have nu := fun m : Int => is_number_w (S := S) (m := m) ne
  simp only [kindsR, List.mem_cons, List.not_mem_nil, or_false] at hk
  rcases hk with rfl | rfl | rfl | rfl | rfl | rfl
  · rw [hf, h0]; simp [tn, fitK]
  · have ix : fIx c_MOST (.str [110, 117, 109, 98, 101, 114]) = some (.val (.int 999)) := rfl
    rw [hf, h0]; simp; rw [h1]; simp; rw [h2]; simp; rw [h3]; simp [ix, nu, fitK]
  · have ix : fIx c_MOST (.str [98, 101, 108, 108]) = some (.val (.int 7)) := rfl
    rw [hf, h0]; simp; rw [h1]; simp; rw [h2]; simp; rw [h3]; simp [ix, nu, fitK]
  · rw [hf, h0]; simp; rw [h1]; simp [st, fitK]
  · have ix : fIx c_MOST (.str [99, 104, 105, 108, 100]) = some (.val (.int 29)) := rfl
    rw [hf, h0]; simp; rw [h1]; simp; rw [h2]; simp; rw [h3]; simp [ix, nu, fitK]
  · rw [hf, h0]; simp; rw [h1]; simp; rw [h2]
    cases s : stat w with
    | true => simp [st, s, fitK]
    | false =>
      have nn := nu 202
      cases q : isnum w 202 with
      | true =>
        rw [q] at nn
        cases w with
        | int i =>
          have e : btw 201 202 (.int i) = decide (i = 201 ∨ i = 202) := by
            simp only [btw]; rw [Bool.eq_iff_iff]; simp; omega
          simp [st, s, mx, nn, in_stopsR, fitK, e]
        | _ => cases q
      | false =>
        rw [q] at nn
        have : btw 201 202 w = false := by
          cases w with
          | int i =>
            have q' : decide (0 ≤ i ∧ i ≤ 202) = false := q
            rw [decide_eq_false_iff_not] at q'
            simp only [btw, decide_eq_false_iff_not]; omega
          | _ => rfl
        simp [st, s, mx, nn, fitK, this]
/-- whether a thing is a row -/
def rowB : W → Bool
  | .tup (.str tag :: ws) => match formsR.lookup tag with
    | some ks => decide (ws.length = ks.length) && (ks.zip ws).all fun p => fitK p.1 p.2
    | none => false
  | _ => false
def zipS (p : List Nat × W) : W := .tup [.str p.1, p.2]
theorem zipS_is : ∀ (ks : List (List Nat)) (ws : List W), zipW (ks.map W.str) ws = (ks.zip ws).map zipS
  | [], _ => rfl
  | _ :: _, [] => rfl
  | k :: ks, w :: ws => by
    have := zipS_is ks ws
    simp only [List.map_cons, zipW, List.zip_cons_cons] at *
    simp_all [zipS]
theorem is_row_t {w : W} (hw : okG 63 w = true) (hs : shp 64 w = true) : g_is_row [.v w] S = .ok (.v (.bl (rowB w))) S := by
  obtain ⟨K0, K1, K2, hfn, h0, h1, h2⟩ := g_is_row_st
  have ne := ok_exc hw
  rw [hfn, h0]
  cases w with
  | tup l =>
    obtain ⟨hl, hm⟩ := ok_tup hw
    cases l with
    | nil =>
      have en : fEq (.tup []) (.tup []) = some (.val (.bl true)) := rfl
      simp [en, rowB]
    | cons a ws =>
      have en : fEq (.tup (a :: ws)) (.tup []) = some (.val (.bl false)) := by rw [fEq_is hs rfl]; rfl
      have hl' : ws.length + 1 ≤ 63 := by simpa using hl
      have ea : isExc a = false := ok_exc (hm a (List.mem_cons_self ..))
      have oa := hm a (List.mem_cons_self ..)
      cases a with
      | str tag =>
        cases lk : formsR.lookup tag with
        | none =>
          have ni : fNotInO (.str tag) c_FORMS_w = some (.val (.bl true)) := by
            show some (Out.val (.bl (!(d_FORMS_w.lookup tag).isSome))) = _
            rw [formsR_look, lk]; rfl
          simp [en, ni, rowB, lk]
        | some ks =>
          have hmem := lookup_memR lk
          obtain ⟨k3, kk⟩ := formsR_kinds _ hmem
          simp only at k3 kk
          have ni : fNotInO (.str tag) c_FORMS_w = some (.val (.bl false)) := by
            show some (Out.val (.bl (!(d_FORMS_w.lookup tag).isSome))) = _
            rw [formsR_look, lk]; rfl
          have ix : fIx c_FORMS_w (.str tag) = some (.val (.tup (ks.map W.str))) := by
            show (d_FORMS_w.lookup tag).map Out.val = _
            rw [formsR_look, lk]; rfl
          have lc : ∀ x0 x1, lcL (tgT 2 (tgs1 (tgN 2) (tgs1 (tgN 3) tgs0))) dYes g_is_row_e1 [x0, x1, none, none] ((ks.zip ws).map zipS) S = .ok ((ks.zip ws).map fun p => W.bl (fitK p.1 p.2)) S := fun x0 x1 =>
            lcL_map zipS _ _ fun p hq => ⟨[x0, x1, some (.v (.str p.1)), some (.v p.2)], rfl, by
              have := fits_t (S := S) (kk p.1 (List.of_mem_zip hq).1) (hm p.2 (List.mem_cons_of_mem _ (List.of_mem_zip hq).2))
              simp [g_is_row_e1, this]⟩
          have ap := fAll_map (fun p : List Nat × W => fitK p.1 p.2) (ks.zip ws)
          have cu : cutL (W.str tag :: ws) (some 1) none = ws := by simp [cutL, HT.sIx]
          have zl : ((ks.zip ws).map zipS).length ≤ 16777216 := by rw [List.length_map, List.length_zip]; omega
          have l1 : ws.length + 1 ≤ 16777216 := by omega
          have l2 : ks.length ≤ 16777216 := by omega
          have l3 : ws.length ≤ 16777216 := by omega
          have zp := zipS_is ks ws
          simp [en, ni]
          rw [h1]
          simp [ix]
          rw [h2]
          by_cases cl : ws.length = ks.length
          · have cl2 : (ws.length : Int) = (ks.length : Int) := by omega
            simp [l1, l2, cu, zp, zl, lc, wipeE, ap, rowB, lk, cl, cl2]
          · have cl2 : ¬ (ws.length : Int) = (ks.length : Int) := by omega
            simp [l1, l2, cu, zp, zl, lc, wipeE, ap, rowB, lk, cl, cl2]
      | exc c => cases ea
      | tdc c => cases ea
      | _ => simp [en, rowB, isStr]
  | exc c => cases ne
  | tdc c => cases ne
  | _ => simp [rowB, isTup]
end
end Bel

namespace Bel
open PySem PySem.Spec PyProof.Rows L2
/-- rows that come one behind the other: what is known then, or the first that may not come -/
def Ct.run (C : Ct) : List Rw → Nat → Ct ⊕ Nat
  | [], _ => .inl C
  | r :: rs, j => match C.letsBy r with
    | some C' => C'.run rs (j + 1)
    | none => .inr j
theorem Ct.judge_run : ∀ (rs : List Rw) (C : Ct) (j : Nat), C.judge rs j = match C.run rs j with
    | .inl C' => if C'.due.isSome = true then some (j + rs.length) else none
    | .inr i => some i
  | [], C, j => rfl
  | r :: rs, C, j => by
    unfold Ct.judge Ct.run
    cases e : C.letsBy r with
    | none => rfl
    | some C' =>
      simp only
      rw [Ct.judge_run rs C' (j + 1)]
      cases C'.run rs (j + 1) with
      | inl C2 => simp only [List.length_cons]; congr 2; omega
      | inr i => rfl
section
variable {S : Store}
theorem need_record_l {l : List W} (hl : l.length ≤ 16777216) (h : ∀ w ∈ l, okG 63 w = true ∧ shp 64 w = true) : g_need_record [.v (.lst l)] S = if l.all rowB = true then .ok (.v .non) S else .ex 6 S := by
  have lc : ∀ x, lcL (tgN 1) dYes g_need_record_e1 [x, none] l S = .ok (l.map fun w => W.bl (rowB w)) S := fun x =>
    lcL_all fun w hw => ⟨_, rfl, by simp [g_need_record_e1, is_row_t (h w hw).1 (h w hw).2]⟩
  have ap := fAll_map rowB l
  by_cases q : l.all rowB = true
  · rw [q] at ap
    simp [g_need_record, isLst, lc, wipeE, hl, ap, q]
  · have q' : l.all rowB = false := by simpa using q
    rw [q'] at ap
    simp [g_need_record, isLst, lc, wipeE, hl, ap, q']
end
theorem need_record_t {S : Store} {l : List W} (hl : l.length ≤ 16777216) (h : ∀ w ∈ l, okG 63 w = true ∧ shp 64 w = true) : g_need_record [.v (.tup l)] S = if l.all rowB = true then .ok (.v .non) S else .ex 6 S := by
  have lc : ∀ x, lcL (tgN 1) dYes g_need_record_e1 [x, none] l S = .ok (l.map fun w => W.bl (rowB w)) S := fun x =>
    lcL_all fun w hw => ⟨_, rfl, by simp [g_need_record_e1, is_row_t (h w hw).1 (h w hw).2]⟩
  have ap := fAll_map rowB l
  by_cases q : l.all rowB = true
  · rw [q] at ap
    simp [g_need_record, isLst, lc, wipeE, hl, ap, q]
  · have q' : l.all rowB = false := by simpa using q
    rw [q'] at ap
    simp [g_need_record, isLst, lc, wipeE, hl, ap, q']
/-- a right row -/
def Rw.ok (r : Rw) : Prop := rowB r.w = true
theorem okG_row (r : Rw) (h : r.name.length ≤ 63) (h2 : ∀ n g, r = .starts n g → g.length ≤ 63) : okG 63 r.w = true := by
  have q : ∀ l : List Int, l.length ≤ 63 → okG 63 (tn l) = true := fun l hl => by
    rw [okW_tup, nrs_len]
    simp only [hl, decide_true, Bool.true_and]
    exact okWs_iff.mpr fun w hw => by obtain ⟨i, _, rfl⟩ := List.mem_map.mp hw; exact okW_int i
  cases r with
  | starts n g => simp only [Rw.w, okW_tup, okWs_cons, okWs_nil, okW_str, q n h, q g (h2 n g rfl)]; rfl
  | says n k => have := q n h; simp only [Rw.w, okW_tup, okWs_cons, okWs_nil, okW_str, okW_int] at this ⊢; simp only [this]; rfl
  | rung n b => have := q n h; simp only [Rw.w, okW_tup, okWs_cons, okWs_nil, okW_str, okW_int] at this ⊢; simp only [this]; rfl
  | stops n b => have := q n h; simp only [Rw.w, okW_tup, okWs_cons, okWs_nil, okW_str, okW_int] at this ⊢; simp only [this]; rfl
  | goes n => have := q n h; simp only [Rw.w, okW_tup, okWs_cons, okWs_nil, okW_str, okW_int] at this ⊢; simp only [this]; rfl
  | ends n s => have := q n h; simp only [Rw.w, okW_tup, okWs_cons, okWs_nil, okW_str, okW_int] at this ⊢; simp only [this]; rfl
  | told n k s => have := q n h; simp only [Rw.w, okW_tup, okWs_cons, okWs_nil, okW_str, okW_int] at this ⊢; simp only [this]; rfl
theorem tnW_len {n : List Int} (h : tnW (tn n) = true) : n.length ≤ 4 := by
  have := h
  simp only [tnW, Bool.and_eq_true, decide_eq_true_eq, nrs_len] at this
  omega
theorem Rw.ok_len {r : Rw} (h : r.ok) : r.name.length ≤ 4 ∧ ∀ n g, r = .starts n g → g.length ≤ 4 := by
  unfold Rw.ok at h
  have l1 : ∀ x, formsR.lookup x = formsR.lookup x := fun _ => rfl
  cases r with
  | starts n g =>
    have h' : (tnW (tn n) && (tnW (tn g) && true)) = true := by simpa [rowB, Rw.w, formsR, List.lookup, fitK] using h
    simp only [Bool.and_eq_true, and_true] at h'
    exact ⟨tnW_len h'.1, fun _ _ e => by cases e; exact tnW_len h'.2⟩
  | _ =>
    refine ⟨?_, fun _ _ e => by cases e⟩
    simp [rowB, Rw.w, formsR, List.lookup, fitK] at h
    first | exact tnW_len h.1 | exact tnW_len h
theorem judge_loop {c k : Nat} : ∀ (rs : List Rw) (j N : Nat) (C : Ct) (S : Store) (ad : List Int → Option (Nat × Nat × Nat)) (x0 x2 x3 : Option U), CtR S c k C ad N → N + rs.length < 16777215 → (∀ r ∈ rs, r.name.length < 1000) →
    match C.run rs j with
    | .inr i => ∃ S', dLoop (tgT 2 (tgs1 (tgN 2) (tgs1 (tgN 3) tgs0))) g_judged_b1 (enuW j (rs.map Rw.w)) [x0, some (.o c), x2, x3] S = .ok (.rt (.v (.int (i : Nat)))) S'
    | .inl C' => ∃ S' ad' y2 y3, dLoop (tgT 2 (tgs1 (tgN 2) (tgs1 (tgN 3) tgs0))) g_judged_b1 (enuW j (rs.map Rw.w)) [x0, some (.o c), x2, x3] S = .ok (.nx [x0, some (.o c), y2, y3]) S' ∧ CtR S' c k C' ad' (N + rs.length)
  | [], j, N, C, S, ad, x0, x2, x3, R, _, _ => ⟨S, ad, x2, x3, rfl, R⟩
  | r :: rs, j, N, C, S, ad, x0, x2, x3, R, hN, hr => by
    have hN' : N + (rs.length + 1) < 16777215 := by simpa using hN
    have G := lets_ok R (by omega) r (hr r (List.mem_cons_self ..))
    have hc := R.hc
    unfold Ct.run
    cases e : C.letsBy r with
    | none =>
      rw [e] at G
      obtain ⟨S', G⟩ := G
      refine ⟨S', ?_⟩
      rw [List.map_cons, enuW, dLoop_cons]
      simp [g_judged_b1, hc, G]
    | some C' =>
      rw [e] at G
      obtain ⟨S', ad', G, R'⟩ := G
      have ih := judge_loop rs (j + 1) (N + 1) C' S' ad' x0 (some (.v (.int (j : Nat)))) (some (.v r.w)) R' (by omega) (fun r h => hr r (List.mem_cons_of_mem _ h))
      have st : dLoop (tgT 2 (tgs1 (tgN 2) (tgs1 (tgN 3) tgs0))) g_judged_b1 (enuW j ((r :: rs).map Rw.w)) [x0, some (.o c), x2, x3] S = dLoop (tgT 2 (tgs1 (tgN 2) (tgs1 (tgN 3) tgs0))) g_judged_b1 (enuW (j + 1) (rs.map Rw.w)) [x0, some (.o c), some (.v (.int (j : Nat))), some (.v r.w)] S' := by
        rw [List.map_cons, enuW, dLoop_cons]
        simp [g_judged_b1, hc, G]
      rw [st]
      simp only
      cases e2 : C'.run rs (j + 1) with
      | inr i => rw [e2] at ih; exact ih
      | inl C2 =>
        rw [e2] at ih
        obtain ⟨S2, ad2, y2, y3, h1, h2⟩ := ih
        exact ⟨S2, ad2, y2, y3, h1, h2.mono (by rw [List.length_cons]; omega)⟩
theorem CtR.init : ∃ S k ad, dMk cl_Court g_Court___init__ 0 dNil [] [] = .ok (.o 0) S ∧ CtR S 0 k .new ad 1 := by
  refine ⟨[.ru (.ins cl_Court) [.o 1, .v (dueW none)], .ru (.td [[]]) [.o 2], stdOb (.new []) 3 4, .lst [], .lst []], 1, fun n => if n = [] then some (2, 3, 4) else none, rfl, rfl, ⟨[[]], [.o 2], rfl, rfl, Nat.le_refl _, fun n => ?_⟩, fun n p h => ?_, fun n h => ?_, fun n m p q h h' hne => ?_, fun n p h => ?_, fun n h => by cases h⟩
  · by_cases e : n = []
    · subst e; rfl
    · simp [lookKU, e, Ne.symm e]
  · by_cases e : n = []
    · subst e
      simp only [if_true] at h
      cases h
      exact ⟨.new [], rfl, rfl, rfl, rfl, by decide, by decide, by decide⟩
    · simp [e] at h
  · by_cases e : n = []
    · subst e; simp at h
    · simp [Ct.new, look_cons, e]
  · by_cases e : n = []
    · by_cases e' : m = []
      · rw [e, e'] at hne; exact absurd rfl hne
      · simp [e'] at h'
    · simp [e] at h
  · by_cases e : n = []
    · subst e
      simp only [if_true] at h
      cases h; decide
    · simp [e] at h
def judW (o : Option Nat) : W := match o with
  | none => .non
  | some n => .int (n : Nat)
theorem judged_ok (rs : List Rw) (hl : rs.length < 1000000) (h : ∀ r ∈ rs, r.ok) : ∃ S', g_judged [.v (.lst (rs.map Rw.w))] [] = .ok (.v (judW (judgeP rs))) S' := by
  obtain ⟨K0, K1, K2, K3, hf, h0, h1, h2, h3⟩ := g_judged_st
  have nr : g_need_record [.v (.lst (rs.map Rw.w))] [] = .ok (.v .non) [] := by
    rw [need_record_l (by rw [List.length_map]; omega) fun w hw => ?_]
    · rw [if_pos]
      rw [List.all_map, List.all_eq_true]
      exact fun r hr => h r hr
    · obtain ⟨r, hr, rfl⟩ := List.mem_map.mp hw
      have := Rw.ok_len (h r hr)
      exact ⟨okG_row r (by omega) fun n g e => by have := this.2 n g e; omega, shp_row r 64 (by decide)⟩
  obtain ⟨S1, k, ad, e1, R⟩ := CtR.init
  have e1' : ∀ e : Env', dMk cl_Court g_Court___init__ 0 dNil e [] = .ok (.o 0) S1 := fun e => e1
  rw [hf, h0]
  simp [nr, -dMk_ap]
  rw [h1]
  simp [e1', -dMk_ap]
  rw [h2]
  have L := judge_loop rs 0 1 .new S1 ad (some (.v (.lst (rs.map Rw.w)))) none none R (by omega) (fun r hr => by have := Rw.ok_len (h r hr); omega)
  unfold judgeP
  rw [Ct.judge_run]
  cases e : Ct.new.run rs 0 with
  | inr i =>
    rw [e] at L
    obtain ⟨S', L⟩ := L
    exact ⟨S', by simp [L, judW]⟩
  | inl C' =>
    rw [e] at L
    obtain ⟨S', ad', y2, y3, L, R'⟩ := L
    have hc := R'.hc
    refine ⟨S', ?_⟩
    simp [L]
    rw [h3]
    cases hd : C'.due with
    | none => rw [hd] at hc; simp [hc, nonU, dueW_none, judW]
    | some d => rw [hd] at hc; simp [hc, nonU, dueW_some, judW]
theorem judged_tup (rs : List Rw) (hl : rs.length < 1000000) (h : ∀ r ∈ rs, r.ok) : ∃ S', g_judged [.v (.tup (rs.map Rw.w))] [] = .ok (.v (judW (judgeP rs))) S' := by
  obtain ⟨K0, K1, K2, K3, hf, h0, h1, h2, h3⟩ := g_judged_st
  have nr : g_need_record [.v (.tup (rs.map Rw.w))] [] = .ok (.v .non) [] := by
    rw [need_record_t (by rw [List.length_map]; omega) fun w hw => ?_]
    · rw [if_pos]
      rw [List.all_map, List.all_eq_true]
      exact fun r hr => h r hr
    · obtain ⟨r, hr, rfl⟩ := List.mem_map.mp hw
      have := Rw.ok_len (h r hr)
      exact ⟨okG_row r (by omega) fun n g e => by have := this.2 n g e; omega, shp_row r 64 (by decide)⟩
  obtain ⟨S1, k, ad, e1, R⟩ := CtR.init
  have e1' : ∀ e : Env', dMk cl_Court g_Court___init__ 0 dNil e [] = .ok (.o 0) S1 := fun e => e1
  rw [hf, h0]
  simp [nr, -dMk_ap]
  rw [h1]
  simp [e1', -dMk_ap]
  rw [h2]
  have L := judge_loop rs 0 1 .new S1 ad (some (.v (.tup (rs.map Rw.w)))) none none R (by omega) (fun r hr => by have := Rw.ok_len (h r hr); omega)
  unfold judgeP
  rw [Ct.judge_run]
  cases e : Ct.new.run rs 0 with
  | inr i =>
    rw [e] at L
    obtain ⟨S', L⟩ := L
    exact ⟨S', by simp [L, judW]⟩
  | inl C' =>
    rw [e] at L
    obtain ⟨S', ad', y2, y3, L, R'⟩ := L
    have hc := R'.hc
    refine ⟨S', ?_⟩
    simp [L]
    rw [h3]
    cases hd : C'.due with
    | none => rw [hd] at hc; simp [hc, nonU, dueW_none, judW]
    | some d => rw [hd] at hc; simp [hc, nonU, dueW_some, judW]
end Bel

namespace Bel
open PySem PySem.Spec PyProof.Rows L2
def wayStep (n : List Int) (a : Nat × Int) : Rw → Nat × Int
  | .stops m b => if m = n then (1, b) else a
  | .ends m s => if m = n then (2, s) else a
  | .goes m => if m = n then (0, 0) else a
  | _ => a
def lbWay (rs : List Rw) (n : List Int) : Nat × Int := rs.foldl (wayStep n) (0, 0)
def tagW (k : Nat) : List Nat := if k = 0 then xRuns else if k = 1 then xStops else xEnds
def wayP (a : Nat × Int) : W := .tup [.str (tagW a.1), .int a.2]
def isStart (n : List Int) : Rw → Bool
  | .starts m _ => decide (m = n)
  | _ => false
def lbThere (rs : List Rw) (n : List Int) : Bool := decide (n = []) || rs.any (isStart n)
def lbRuns (rs : List Rw) (n : List Int) : Bool := lbThere rs n && (lbWay rs n).1 == 0
def lbLives (rs : List Rw) (n : List Int) : Bool := lbThere rs n && (lbWay rs n).1 != 2
def grpOf : Rw → List Int
  | .starts _ g => g
  | _ => []
def lbGroup (rs : List Rw) (n : List Int) : List Int := ((rs.filter (isStart n)).map grpOf ++ [[]]).headD []
def haltStep (n : List Int) (b : Int) (a : Bool) : Rw → Bool
  | .rung m c => if m = n ∧ (c = b ∨ c = 6) then decide (c = b) else a
  | _ => a
def lbHalting (rs : List Rw) (n : List Int) (b : Int) : Bool := rs.foldl (haltStep n b) false && decide (b = 1 ∨ b = 2)
def untStep (n : List Int) (a : Option Int) : Rw → Option Int
  | .stops m b => if m = n then some (b + 200) else a
  | .ends m s => if m = n then some s else a
  | .goes m => if m = n then none else a
  | .told m k _ => if m ++ [k] = n then none else a
  | _ => a
def lbUntold (rs : List Rw) (n : List Int) : Option Int := rs.foldl (untStep n) none
def lbMayEnd (rs : List Rw) (n : List Int) (s : Int) : Bool :=
  if s < 100 then (lbWay rs n).1 == 0 else rs.any (fun r => decide (r = .rung n (s - 100))) && ((lbWay rs n).1 == 0 || ((lbWay rs n).1 == 1 && decide (s = 100)))
def lbWanted (rs : List Rw) : Option Rw := match rs.getLast? with
  | none => none
  | some (.rung m c) => if c = 6 ∧ (lbWay rs.dropLast m).1 = 1 then some (.goes m) else none
  | some (.stops m _) => if m ≠ [] ∧ lbLives rs m.dropLast = true then some (.rung m.dropLast 7) else none
  | some (.ends m _) => if m ≠ [] ∧ lbLives rs m.dropLast = true then some (.rung m.dropLast 7) else none
  | some _ => none
def kidOf (n : List Int) : Rw → Bool
  | .starts m _ => decide (m.dropLast = n)
  | _ => false
def lbMany (rs : List Rw) (n : List Int) : Nat := (rs.filter (kidOf n)).length
def lbMay (rs : List Rw) (r : Rw) : Bool := match lbWanted rs with
  | some d => decide (r = d)
  | none => match r with
    | .starts n g => if n = [] ∨ lbRuns rs n.dropLast = false then false else decide (lastI n = (lbMany rs n.dropLast : Nat)) && decide (g = n ∨ g = lbGroup rs n.dropLast)
    | .goes _ => false
    | .rung n _ => lbThere rs n && lbLives rs n
    | .ends n s => lbThere rs n && lbMayEnd rs n s
    | .says n _ => lbThere rs n && lbRuns rs n
    | .stops n b => lbThere rs n && (lbRuns rs n && lbHalting rs n b)
    | .told n k s => lbThere rs n && (lbRuns rs n && (lbThere rs (n ++ [k]) && decide (lbUntold rs (n ++ [k]) = some s)))
section
variable {S : Store}
theorem shp_rows (rs : List Rw) (m : Nat) (h : 3 ≤ m) : shp m (.lst (rs.map Rw.w)) = true := by
  obtain ⟨m, rfl⟩ : ∃ j, m = j + 1 := ⟨m - 1, by omega⟩
  show shps m _ = true
  exact shps_of fun w hw => by obtain ⟨r, _, rfl⟩ := List.mem_map.mp hw; exact shp_row r m (by omega)
theorem in_tags {x : List Nat} : fInO (.str x) (.tup [.str [115, 116, 111, 112, 115], .str [101, 110, 100, 115]]) = some (.val (.bl (decide (x = xStops) || decide (x = xEnds)))) := by
  have h : ∀ y, eqD (.str y) (.str x) = decide (x = y) := fun y => by rw [eqD_str, Bool.eq_iff_iff]; simp [eq_comm]
  simp [fInO, fIn, isFlat, h]
theorem there_w (rs : List Rw) (hl : rs.length ≤ 16777216) (n : List Int) : g__law_there [.v (.lst (rs.map Rw.w)), .v (tn n)] S = .ok (.v (.bl (lbThere rs n))) S := by
  have lc : lcL (tgN 2) g__law_there_t1 (dC (.int 1)) [some (.v (.lst (rs.map Rw.w))), some (.v (tn n)), none] (rs.map Rw.w) S = .ok ((rs.filter (isStart n)).map fun _ => W.int 1) S :=
    lcL_mapf Rw.w (isStart n) (fun _ => W.int 1) rs fun r _ => ⟨_, rfl, by cases r <;> simp [g__law_there_t1, Rw.w, isStart, fEq_nrs], fun _ => rfl⟩
  have hl' : (rs.map Rw.w).length ≤ 16777216 := by rw [List.length_map]; exact hl
  by_cases c : n = []
  · subst c
    simp [g__law_there, fEq_nil, lbThere]
  · have ne : fNeNil (.lst ((rs.filter (isStart n)).map fun _ => W.int 1)) (.lst []) = some (.val (.bl (!((rs.filter (isStart n)).map fun _ => W.int 1).isEmpty))) := rfl
    have e : (!((rs.filter (isStart n)).map fun _ => W.int 1).isEmpty) = rs.any (isStart n) := by
      rw [Bool.eq_iff_iff]
      simp [List.isEmpty_iff, List.filter_eq_nil_iff]
    rw [e] at ne
    have fl : ((rs.filter (isStart n)).map fun _ => W.int 1).length ≤ 16777216 := by rw [List.length_map]; exact Nat.le_trans (List.length_filter_le _ _) hl
    generalize (rs.filter (isStart n)).map (fun _ => W.int 1) = X at *
    generalize rs.map Rw.w = L at *
    simp [g__law_there, fEq_nil, lbThere, c, hl', lc, wipeE, ne]
theorem way_loop (n : List Int) : ∀ (rs : List Rw) (a : Nat × Int) (x0 x3 : Option U), ∃ y3, dLoop (tgN 3) g__law_way_b1 (rs.map Rw.w) [x0, some (.v (tn n)), some (.v (wayP a)), x3] S = .ok (.nx [x0, some (.v (tn n)), some (.v (wayP (rs.foldl (wayStep n) a))), y3]) S
  | [], a, x0, x3 => ⟨x3, rfl⟩
  | r :: rs, a, x0, x3 => by
    obtain ⟨y3, ih⟩ := way_loop n rs (wayStep n a r) x0 (some (.v r.w))
    refine ⟨y3, ?_⟩
    rw [List.map_cons, dLoop_cons, List.foldl_cons, ← ih]
    have : g__law_way_b1 [x0, some (.v (tn n)), some (.v (wayP a)), some (.v r.w)] S = .ok (.nx [x0, some (.v (tn n)), some (.v (wayP (wayStep n a r))), some (.v r.w)]) S := by
      cases r with
      | stops m b => by_cases q : m = n <;> simp [g__law_way_b1, Rw.w, in_tags, fEq_nrs, wayStep, q, wayP, tagW]
      | ends m b => by_cases q : m = n <;> simp [g__law_way_b1, Rw.w, in_tags, fEq_nrs, wayStep, q, wayP, tagW]
      | goes m => by_cases q : m = n <;> simp [g__law_way_b1, Rw.w, in_tags, fEq_nrs, wayStep, q, wayP, tagW]
      | _ => simp [g__law_way_b1, Rw.w, in_tags, fEq_nrs, wayStep]
    simp [this]
theorem way_w (rs : List Rw) (n : List Int) : g__law_way [.v (.lst (rs.map Rw.w)), .v (tn n)] S = .ok (.v (wayP (lbWay rs n))) S := by
  obtain ⟨y3, e⟩ := way_loop (S := S) n rs (0, 0) (some (.v (.lst (rs.map Rw.w)))) none
  have e' : dLoop (tgN 3) g__law_way_b1 (rs.map Rw.w) [some (.v (.lst (rs.map Rw.w))), some (.v (tn n)), some (.v (.tup [.str [114, 117, 110, 115], .int 0])), none] S = _ := e
  generalize rs.map Rw.w = L at *
  simp [g__law_way, e', lbWay]
theorem wayStep_lt (n : List Int) (a : Nat × Int) (h : a.1 < 3) (r : Rw) : (wayStep n a r).1 < 3 := by
  cases r <;> simp only [wayStep] <;> first | exact h | (split <;> first | exact h | (show _ < 3; decide) | (show (1 : Nat) < 3; decide) | (show (2 : Nat) < 3; decide) | (show (0 : Nat) < 3; decide))
theorem way_lt (n : List Int) : ∀ (rs : List Rw) (a : Nat × Int), a.1 < 3 → (rs.foldl (wayStep n) a).1 < 3
  | [], a, h => h
  | r :: rs, a, h => way_lt n rs _ (wayStep_lt n a h r)
theorem fEq_tag {k : Nat} (h : k < 3) : fEq (.str (tagW k)) (.str xRuns) = some (.val (.bl (k == 0))) ∧ fEq (.str (tagW k)) (.str xStops) = some (.val (.bl (k == 1))) ∧ fNe (.str (tagW k)) (.str xEnds) = some (.val (.bl (k != 2))) := by
  have : k = 0 ∨ k = 1 ∨ k = 2 := by omega
  rcases this with rfl | rfl | rfl <;> exact ⟨rfl, rfl, rfl⟩
theorem wayP_ix (a : Nat × Int) : fIx (wayP a) (.int 0) = some (.val (.str (tagW a.1))) := by unfold wayP; exact ix0_tup
theorem lruns_w (rs : List Rw) (hl : rs.length ≤ 16777216) (n : List Int) : g__law_runs [.v (.lst (rs.map Rw.w)), .v (tn n)] S = .ok (.v (.bl (lbRuns rs n))) S := by
  have h1 := there_w (S := S) rs hl n
  have h2 := way_w (S := S) rs n
  have l3 : (lbWay rs n).1 < 3 := way_lt n rs (0, 0) (by decide)
  obtain ⟨t1, t2, t3⟩ := fEq_tag l3
  have h3 := wayP_ix (lbWay rs n)
  generalize rs.map Rw.w = L at *
  cases q : lbThere rs n <;> rw [q] at h1 <;> simp [g__law_runs, h1, h2, h3, t1, lbRuns, q]
theorem llives_w (rs : List Rw) (hl : rs.length ≤ 16777216) (n : List Int) : g__law_lives [.v (.lst (rs.map Rw.w)), .v (tn n)] S = .ok (.v (.bl (lbLives rs n))) S := by
  have h1 := there_w (S := S) rs hl n
  have h2 := way_w (S := S) rs n
  have l3 : (lbWay rs n).1 < 3 := way_lt n rs (0, 0) (by decide)
  obtain ⟨t1, t2, t3⟩ := fEq_tag l3
  have h3 := wayP_ix (lbWay rs n)
  generalize rs.map Rw.w = L at *
  cases q : lbThere rs n <;> rw [q] at h1 <;> simp [g__law_lives, h1, h2, h3, t3, lbLives, q]
theorem group_w (rs : List Rw) (hl : rs.length ≤ 1000000) (n : List Int) : g__law_group [.v (.lst (rs.map Rw.w)), .v (tn n)] S = .ok (.v (tn (lbGroup rs n))) S := by
  have lc : lcL (tgN 2) g__law_group_t2 g__law_group_e1 [some (.v (.lst (rs.map Rw.w))), some (.v (tn n)), none] (rs.map Rw.w) S = .ok ((rs.filter (isStart n)).map fun r => tn (grpOf r)) S :=
    lcL_mapf Rw.w (isStart n) (fun r => tn (grpOf r)) rs fun r _ => ⟨_, rfl, by cases r <;> simp [g__law_group_t2, Rw.w, isStart, fEq_nrs], fun h => by cases r <;> simp [isStart] at h <;> simp [g__law_group_e1, Rw.w, grpOf]⟩
  have hl' : (rs.map Rw.w).length ≤ 16777216 := by rw [List.length_map]; omega
  have fl : ((rs.filter (isStart n)).map fun r => tn (grpOf r)).length ≤ 1000000 := by rw [List.length_map]; exact Nat.le_trans (List.length_filter_le _ _) hl
  have a1 : fAdd (.lst ((rs.filter (isStart n)).map fun r => tn (grpOf r))) (.lst [.tup []]) = some (.nl ((rs.filter (isStart n)).map (fun r => tn (grpOf r)) ++ [tn []])) := fAdd_lst (by simp at fl ⊢; omega)
  have i0 : fIx (.lst ((rs.filter (isStart n)).map (fun r => tn (grpOf r)) ++ [tn []])) (.int 0) = some (.val (tn (lbGroup rs n))) := by
    rw [ix_pk (by decide) (by simp)]
    unfold lbGroup pk
    cases rs.filter (isStart n) <;> rfl
  generalize (rs.filter (isStart n)).map (fun r => tn (grpOf r)) = X at *
  generalize rs.map Rw.w = L at *
  simp [g__law_group, hl', lc, wipeE, a1, i0]
theorem halt_loop (n : List Int) (b : Int) : ∀ (rs : List Rw) (a : Bool) (x0 x4 : Option U), ∃ y4, dLoop (tgN 4) g__law_halting_b1 (rs.map Rw.w) [x0, some (.v (tn n)), some (.v (.int b)), some (.v (.bl a)), x4] S = .ok (.nx [x0, some (.v (tn n)), some (.v (.int b)), some (.v (.bl (rs.foldl (haltStep n b) a))), y4]) S
  | [], a, x0, x4 => ⟨x4, rfl⟩
  | r :: rs, a, x0, x4 => by
    obtain ⟨y4, ih⟩ := halt_loop n b rs (haltStep n b a r) x0 (some (.v r.w))
    refine ⟨y4, ?_⟩
    rw [List.map_cons, dLoop_cons, List.foldl_cons, ← ih]
    have : g__law_halting_b1 [x0, some (.v (tn n)), some (.v (.int b)), some (.v (.bl a)), some (.v r.w)] S = .ok (.nx [x0, some (.v (tn n)), some (.v (.int b)), some (.v (.bl (haltStep n b a r))), some (.v r.w)]) S := by
      cases r with
      | rung m c =>
        have h : ∀ y z : Int, eqD (.int y) (.int z) = decide (z = y) := fun y z => by rw [eqI, Bool.eq_iff_iff]; simp [eq_comm]
        have i2 : fInO (.int c) (.tup [.int b, .int 6]) = some (.val (.bl (decide (c = b) || decide (c = 6)))) := by simp [fInO, fIn, isFlat, h]
        by_cases q : m = n
        · by_cases q2 : c = b ∨ c = 6
          · have q3 : (decide (c = b) || decide (c = 6)) = true := by simpa using q2
            rw [q3] at i2
            simp [g__law_halting_b1, Rw.w, fEq_nrs, haltStep, q, i2, q2]
          · have q3 : (decide (c = b) || decide (c = 6)) = false := by
              rw [Bool.eq_false_iff]; simpa using q2
            rw [q3] at i2
            simp [g__law_halting_b1, Rw.w, fEq_nrs, haltStep, q, i2, q2]
        · simp [g__law_halting_b1, Rw.w, fEq_nrs, haltStep, q]
      | _ => simp [g__law_halting_b1, Rw.w, haltStep]
    simp [this]
theorem halting_w (rs : List Rw) (n : List Int) (b : Int) : g__law_halting [.v (.lst (rs.map Rw.w)), .v (tn n), .v (.int b)] S = .ok (.v (.bl (lbHalting rs n b))) S := by
  obtain ⟨y4, e⟩ := halt_loop (S := S) n b rs false (some (.v (.lst (rs.map Rw.w)))) none
  have h : ∀ y z : Int, eqD (.int y) (.int z) = decide (z = y) := fun y z => by rw [eqI, Bool.eq_iff_iff]; simp [eq_comm]
  have i2 : fInO (.int b) (.tup [.int 1, .int 2]) = some (.val (.bl (decide (b = 1 ∨ b = 2)))) := by simp [fInO, fIn, isFlat, h]
  unfold lbHalting
  generalize rs.foldl (haltStep n b) false = X at *
  generalize rs.map Rw.w = L at *
  cases X <;> simp [g__law_halting, e, i2]
theorem cut2 {a b : W} {l : List W} : cutL (a :: b :: l) none (some 2) = [a, b] := by
  have : HT.sIx (a :: b :: l).length (a :: b :: l).length (some 2) = 2 := by simp [HT.sIx]
  simp [cutL, this, HT.sIx]
theorem eq_goes (x : List Nat) (m n : List Int) : fEq (.tup [.str x, tn m]) (.tup [.str [103, 111, 101, 115], tn n]) = some (.val (.bl (decide (x = xGoes) && decide (m = n)))) := by
  rw [fEq_is (by simp [shp, shps]; exact shp_nrs m 63 (by decide)) (by simp [shp, shps]; exact shp_nrs n 63 (by decide)), eqD_tag, eqD_tni]
  have : eqD (.tup []) (.tup []) = true := rfl
  rw [this, Bool.and_true]
theorem unt_loop (n : List Int) : ∀ (rs : List Rw) (a : Option Int) (x0 x3 : Option U), (∀ r ∈ rs, r.name.length < 1000) → ∃ y3, dLoop (tgN 3) g__law_untold_b1 (rs.map Rw.w) [x0, some (.v (tn n)), some (.v (stW a)), x3] S = .ok (.nx [x0, some (.v (tn n)), some (.v (stW (rs.foldl (untStep n) a))), y3]) S
  | [], a, x0, x3, _ => ⟨x3, rfl⟩
  | r :: rs, a, x0, x3, hr => by
    obtain ⟨y3, ih⟩ := unt_loop n rs (untStep n a r) x0 (some (.v r.w)) (fun r h => hr r (List.mem_cons_of_mem _ h))
    have hr0 := hr r List.mem_cons_self
    refine ⟨y3, ?_⟩
    rw [List.map_cons, dLoop_cons, List.foldl_cons, ← ih]
    have m1 : fMul (.int 200) (.int (b2n true)) = some (.val (.int 200)) := by rw [mul_ok (.inl (by decide))]; rfl
    have m0 : fMul (.int 200) (.int (b2n false)) = some (.val (.int 0)) := by rw [mul_ok (.inl (by decide))]; rfl
    have : g__law_untold_b1 [x0, some (.v (tn n)), some (.v (stW a)), some (.v r.w)] S = .ok (.nx [x0, some (.v (tn n)), some (.v (stW (untStep n a r))), some (.v r.w)]) S := by
      cases r with
      | stops m b =>
        have e1 : fEq (.tup [.str [115, 116, 111, 112, 115], tn m]) (.tup [.str [103, 111, 101, 115], tn n]) = some (.val (.bl false)) := by rw [eq_goes]; rfl
        by_cases q : m = n
        · subst q; simp [g__law_untold_b1, Rw.w, in_tags, fEq_nrs, untStep, cut2, e1, m1, stW]
        · simp [g__law_untold_b1, Rw.w, in_tags, fEq_nrs, untStep, cut2, e1, q]
      | ends m b =>
        have e1 : fEq (.tup [.str [101, 110, 100, 115], tn m]) (.tup [.str [103, 111, 101, 115], tn n]) = some (.val (.bl false)) := by rw [eq_goes]; rfl
        by_cases q : m = n
        · subst q; simp [g__law_untold_b1, Rw.w, in_tags, fEq_nrs, untStep, cut2, e1, m0, stW]
        · simp [g__law_untold_b1, Rw.w, in_tags, fEq_nrs, untStep, cut2, e1, q]
      | goes m =>
        by_cases q : m = n
        · subst q
          have e1 : fEq (.tup [.str [103, 111, 101, 115], tn m]) (.tup [.str [103, 111, 101, 115], tn m]) = some (.val (.bl true)) := by rw [eq_goes]; simp
          simp [g__law_untold_b1, Rw.w, in_tags, untStep, cut2, e1, stW]
        · have e1 : fEq (.tup [.str [103, 111, 101, 115], tn m]) (.tup [.str [103, 111, 101, 115], tn n]) = some (.val (.bl false)) := by rw [eq_goes]; simp [q]
          simp [g__law_untold_b1, Rw.w, in_tags, untStep, cut2, e1, q]
      | told m k s =>
        have e1 : fEq (.tup [.str [116, 111, 108, 100], tn m]) (.tup [.str [103, 111, 101, 115], tn n]) = some (.val (.bl false)) := by rw [eq_goes]; rfl
        have a1 : fAdd (tn m) (.tup [.int k]) = some (.nt (nrs (m ++ [k]))) := by rw [fAdd_tup (by rw [nrs_len]; simp; have : m.length < 1000 := hr0; omega), nrs_app]
        by_cases q : m ++ [k] = n
        · simp [g__law_untold_b1, Rw.w, in_tags, fEq_nrs, untStep, cut2, e1, a1, q, stW]
        · simp [g__law_untold_b1, Rw.w, in_tags, fEq_nrs, untStep, cut2, e1, a1, q]
      | starts m g =>
        have e1 : fEq (.tup [.str [115, 116, 97, 114, 116, 115], tn m]) (.tup [.str [103, 111, 101, 115], tn n]) = some (.val (.bl false)) := by rw [eq_goes]; rfl
        simp [g__law_untold_b1, Rw.w, in_tags, fEq_nrs, untStep, cut2, e1]
      | says m g =>
        have e1 : fEq (.tup [.str [115, 97, 121, 115], tn m]) (.tup [.str [103, 111, 101, 115], tn n]) = some (.val (.bl false)) := by rw [eq_goes]; rfl
        simp [g__law_untold_b1, Rw.w, in_tags, fEq_nrs, untStep, cut2, e1]
      | rung m g =>
        have e1 : fEq (.tup [.str [114, 117, 110, 103], tn m]) (.tup [.str [103, 111, 101, 115], tn n]) = some (.val (.bl false)) := by rw [eq_goes]; rfl
        simp [g__law_untold_b1, Rw.w, in_tags, fEq_nrs, untStep, cut2, e1]
    simp [this]
theorem untold_w (rs : List Rw) (hr : ∀ r ∈ rs, r.name.length < 1000) (n : List Int) : g__law_untold [.v (.lst (rs.map Rw.w)), .v (tn n)] S = .ok (.v (stW (lbUntold rs n))) S := by
  obtain ⟨y3, e⟩ := unt_loop (S := S) n rs none (some (.v (.lst (rs.map Rw.w)))) none hr
  have e' : dLoop (tgN 3) g__law_untold_b1 (rs.map Rw.w) [some (.v (.lst (rs.map Rw.w))), some (.v (tn n)), some (.v .non), none] S = _ := e
  generalize rs.map Rw.w = L at *
  simp [g__law_untold, e', lbUntold]
theorem may_end_w (rs : List Rw) (hl : rs.length ≤ 16777216) (n : List Int) (s : Int) : g__law_may_end [.v (.lst (rs.map Rw.w)), .v (tn n), .v (.int s)] S = .ok (.v (.bl (lbMayEnd rs n s))) S := by
  have hl' : (rs.map Rw.w).length ≤ 16777216 := by rw [List.length_map]; exact hl
  have h2 := way_w (S := S) rs n
  have l3 : (lbWay rs n).1 < 3 := way_lt n rs (0, 0) (by decide)
  obtain ⟨t1, t2, t3⟩ := fEq_tag l3
  have h3 := wayP_ix (lbWay rs n)
  have lc : ∀ x0 x3 x4, lcL (tgN 5) g__law_may_end_t1 (dC (.int 1)) [x0, some (.v (tn n)), some (.v (.int s)), x3, x4, none] (rs.map Rw.w) S = .ok ((rs.filter fun r => decide (r = .rung n (s - 100))).map fun _ => W.int 1) S := fun x0 x3 x4 =>
    lcL_mapf Rw.w (fun r => decide (r = .rung n (s - 100))) (fun _ => W.int 1) rs fun r _ => ⟨_, rfl, by
      have : fEq r.w (.tup [.str [114, 117, 110, 103], tn n, .int (s - 100)]) = some (.val (.bl (decide (r = .rung n (s - 100))))) := by
        have h := eqD_row r (.rung n (s - 100))
        rw [← h]
        exact fEq_is (shp_row r 64 (by decide)) (shp_row (.rung n (s - 100)) 64 (by decide))
      simp [g__law_may_end_t1, this], fun _ => rfl⟩
  have ne : fNeNil (.lst ((rs.filter fun r => decide (r = .rung n (s - 100))).map fun _ => W.int 1)) (.lst []) = some (.val (.bl (!((rs.filter fun r => decide (r = .rung n (s - 100))).map fun _ => W.int 1).isEmpty))) := rfl
  have e : (!((rs.filter fun r => decide (r = .rung n (s - 100))).map fun _ => W.int 1).isEmpty) = rs.any (fun r => decide (r = .rung n (s - 100))) := by
    rw [Bool.eq_iff_iff]
    simp [List.isEmpty_iff, List.filter_eq_nil_iff]
  rw [e] at ne
  obtain ⟨K0, K1, K2, K3, hf, h0, h1, h22, h33⟩ := g__law_may_end_st
  unfold lbMayEnd
  generalize (rs.filter fun r => decide (r = .rung n (s - 100))).map (fun _ => W.int 1) = X at *
  generalize rs.any (fun r => decide (r = .rung n (s - 100))) = Y at *
  generalize rs.map Rw.w = L at *
  rw [hf, h0]
  simp [h2, h3]
  rw [h1]
  by_cases q : s < 100
  · simp [q, t1]
  · simp [q]
    rw [h22]
    simp [hl', lc, wipeE, ne]
    rw [h33]
    cases Y
    · simp
    · have : (lbWay rs n).1 = 0 ∨ (lbWay rs n).1 = 1 ∨ (lbWay rs n).1 = 2 := by omega
      rcases this with w | w | w <;> rw [w] at t1 t2 <;> simp [t1, t2, w]
theorem cut_lastG' {α : Type} (x : List α) (c : α) : cutL (x ++ [c]) none (some (-1)) = x := by
  have e : (-1 + ((x.length : Int) + 1)).toNat = x.length := by omega
  simp [cutL, HT.sIx, e]
theorem ixl_last {α : Type} (f : α → W) (l : List α) (x : α) : fIx (.lst ((l ++ [x]).map f)) (.int (-1)) = some (.val (f x)) := by
  have hl : ((l ++ [x]).map f).length = l.length + 1 := by simp
  have q : ixN ((l ++ [x]).map f).length (-1) = some l.length := by
    rw [hl]; unfold ixN
    rw [if_neg (by decide), if_pos (by omega)]
    congr 1; omega
  show (atW ((l ++ [x]).map f) (-1)).map Out.val = _
  unfold atW
  rw [q]
  simp
theorem cutl_last {α : Type} (f : α → W) (l : List α) (x : α) : cutL ((l ++ [x]).map f) none (some (-1)) = l.map f := by
  rw [List.map_append]
  exact cut_lastG' (l.map f) (f x)
theorem wanted_w (rs : List Rw) (hl : rs.length ≤ 16777216) : g__law_wanted [.v (.lst (rs.map Rw.w))] S = .ok (.v (dueW (lbWanted rs))) S := by
  obtain ⟨K0, K1, K2, K3, K4, hf, h0, h1, h2, h3, h4⟩ := g__law_wanted_st
  rw [hf, h0]
  rcases List.eq_nil_or_concat rs with rfl | ⟨l, r, rfl⟩
  · have e : fEq (.lst []) (.lst []) = some (.val (.bl true)) := rfl
    simp [e, lbWanted, dueW]
  · rw [List.concat_eq_append] at hl ⊢
    have e : fEq (.lst ((l ++ [r]).map Rw.w)) (.lst []) = some (.val (.bl false)) := by
      rw [fEq_is (shp_rows _ 64 (by decide)) rfl]
      cases l <;> rfl
    have i1 := ixl_last Rw.w l r
    have c1 := cutl_last Rw.w l r
    have W := fun m => way_w (S := S) l m
    have LV := fun m => llives_w (S := S) (l ++ [r]) hl m
    have l3 : ∀ m, (lbWay l m).1 < 3 := fun m => way_lt m l (0, 0) (by decide)
    have wi := fun m => wayP_ix (lbWay l m)
    have gl : (l ++ [r]).getLast? = some r := by simp
    have dl : (l ++ [r]).dropLast = l := by simp
    unfold lbWanted
    rw [gl, dl]
    generalize (l ++ [r]).map Rw.w = L1 at *
    generalize l.map Rw.w = L0 at *
    simp [e]
    rw [h1]
    simp [i1, c1]
    rw [h2]
    cases r with
    | rung m b =>
      by_cases c6 : b = 6
      · subst c6
        obtain ⟨t1, t2, t3⟩ := fEq_tag (l3 m)
        by_cases q : (lbWay l m).1 = 1
        · have q' : ((lbWay l m).1 == 1) = true := by simp [q]
          rw [q'] at t2
          simp [Rw.w, W, wi, t2, q, dueW, tagW]
        · have q' : ((lbWay l m).1 == 1) = false := by simp [q]
          rw [q'] at t2
          simp [Rw.w, W, wi, t2, q, dueW]
          rw [h3]
          simp [Rw.w, in_tags]
          rw [h4]
          simp
      · simp [Rw.w, c6, dueW]
        rw [h3]
        simp [Rw.w, in_tags]
        rw [h4]
        simp
    | stops m b =>
      simp [Rw.w]
      rw [h3]
      by_cases c1 : m = []
      · subst c1
        simp [Rw.w, in_tags, fNe_nil, dueW]
        rw [h4]; simp
      · have LV' := LV m.dropLast
        cases q : lbLives (l ++ [Rw.stops m b]) m.dropLast
        · rw [q] at LV'
          simp [Rw.w, in_tags, fNe_nil, c1, cut_last, LV', dueW]
          rw [h4]; simp
        · rw [q] at LV'
          simp [Rw.w, in_tags, fNe_nil, c1, cut_last, LV', dueW]
    | ends m b =>
      simp [Rw.w]
      rw [h3]
      by_cases c1 : m = []
      · subst c1
        simp [Rw.w, in_tags, fNe_nil, dueW]
        rw [h4]; simp
      · have LV' := LV m.dropLast
        cases q : lbLives (l ++ [Rw.ends m b]) m.dropLast
        · rw [q] at LV'
          simp [Rw.w, in_tags, fNe_nil, c1, cut_last, LV', dueW]
          rw [h4]; simp
        · rw [q] at LV'
          simp [Rw.w, in_tags, fNe_nil, c1, cut_last, LV', dueW]
    | _ =>
      simp [Rw.w, dueW]
      rw [h3]
      simp [Rw.w, in_tags]
      rw [h4]
      simp
theorem many_len (rs : List Rw) (n : List Int) : ((rs.filter (kidOf n)).map fun _ => W.int 1).length = lbMany rs n := by rw [List.length_map]; rfl
theorem may_w (rs : List Rw) (hl : rs.length ≤ 1000000) (hr : ∀ r ∈ rs, r.name.length < 1000) (r : Rw) (hn : r.name.length < 1000) : g__law_may [.v (.lst (rs.map Rw.w)), .v r.w] S = .ok (.v (.bl (lbMay rs r))) S := by
  obtain ⟨K0, K1, K2, K3, K4, K5, K6, K7, K8, K9, K10, hf, h0, h1, h2, h3, h4, h5, h6, h7, h8, h9, h10⟩ := g__law_may_st
  have hl1 : rs.length ≤ 16777216 := by omega
  have WN := wanted_w (S := S) rs hl1
  have RU := fun n => lruns_w (S := S) rs hl1 n
  have LV := fun n => llives_w (S := S) rs hl1 n
  have TH := fun n => there_w (S := S) rs hl1 n
  have GR := fun n => group_w (S := S) rs hl n
  have HA := fun n b => halting_w (S := S) rs n b
  have UN := fun n => untold_w (S := S) rs hr n
  have ME := fun n s => may_end_w (S := S) rs hl1 n s
  have hl' : (rs.map Rw.w).length ≤ 16777216 := by rw [List.length_map]; exact hl1
  have lc : ∀ n x2 x4, n ≠ [] → lcL (tgN 5) g__law_may_t1 (dC (.int 1)) [some (.v (.lst (rs.map Rw.w))), some (.v r.w), x2, some (.v (tn n)), x4, none] (rs.map Rw.w) S = .ok ((rs.filter (kidOf n.dropLast)).map fun _ => W.int 1) S := fun n x2 x4 hn =>
    lcL_mapf Rw.w (kidOf n.dropLast) (fun _ => W.int 1) rs fun r _ => ⟨_, rfl, by cases r <;> simp [g__law_may_t1, Rw.w, kidOf, fEq_nrs, cut_last], fun _ => rfl⟩
  have ml := fun n => many_len rs n
  have e0 : fIsNot (dueW (lbWanted rs)) .non = some (.val (.bl (lbWanted rs).isSome)) := by
    rw [fIsNot_non, dueW_is]; simp
  rw [hf, h0]
  unfold lbMay
  cases hw : lbWanted rs with
  | some d =>
    rw [hw] at WN e0
    have eq : fEq r.w (dueW (some d)) = some (.val (.bl (decide (r = d)))) := by
      show fEq r.w d.w = _
      rw [fEq_is (shp_row r 64 (by decide)) (shp_row d 64 (by decide)), eqD_row]
    generalize rs.map Rw.w = L at *
    simp [WN]
    rw [h1]
    have e0' : fIsNot (dueW (some d)) .non = some (.val (.bl true)) := e0
    simp [e0', eq]
  | none =>
    rw [hw] at WN e0
    have e0' : fIsNot (dueW none) .non = some (.val (.bl false)) := e0
    have e0'' : fIsNot .non .non = some (.val (.bl false)) := e0
    generalize hL : rs.map Rw.w = L at *
    simp [WN]
    rw [h1]
    simp [e0', dueW]
    rw [h2]
    cases r with
    | starts n g =>
      simp [Rw.w] at lc ⊢
      rw [h3]
      by_cases c0 : n = []
      · subst c0; simp [fEq_nil]
      · have RU' := RU n.dropLast
        cases q : lbRuns rs n.dropLast
        · rw [q] at RU'
          simp [fEq_nil, c0, cut_last, RU']
        · rw [q] at RU'
          have in2 := notInD_two g n (lbGroup rs n.dropLast)
          have in2' : fInD (tn g) (.tup [tn n, tn (lbGroup rs n.dropLast)]) = some (.val (.bl (decide (g = n ∨ g = lbGroup rs n.dropLast)))) := by
            have h1 := shp_nrs g 64 (by decide)
            have h2 := shp_nrs n 63 (by decide)
            have h3 := shp_nrs (lbGroup rs n.dropLast) 63 (by decide)
            have e : (eqD (tn n) (tn g) || eqD (tn (lbGroup rs n.dropLast)) (tn g)) = decide (g = n ∨ g = lbGroup rs n.dropLast) := by
              rw [eqD_nrs, eqD_nrs, Bool.eq_iff_iff]; simp; constructor <;> (rintro (h | h) <;> simp [h])
            simp only [fInD, h1, shps, h2, h3, Bool.and_self, and_self, if_true, List.any_cons, List.any_nil, Bool.or_false, e]
          have ml' := ml n.dropLast
          have lc' := lc n (some (.v .non)) none c0
          have fl : ((rs.filter (kidOf n.dropLast)).map fun _ => W.int 1).length ≤ 16777216 := by rw [ml']; exact Nat.le_trans (List.length_filter_le _ _) hl1
          generalize (rs.filter (kidOf n.dropLast)).map (fun _ => W.int 1) = X at *
          have GR' := GR n.dropLast
          simp [fEq_nil, c0, cut_last, RU', hl', lc', wipeE, ml', ix_last c0]
          by_cases q2 : lastI n = (lbMany rs n.dropLast : Nat)
          · simp [q2, GR', in2']
          · simp [q2]
    | goes n =>
      have TH' := TH n
      simp [Rw.w]
      rw [h3]
      simp
      rw [h4]
      cases q : lbThere rs n <;> rw [q] at TH' <;> simp [TH']
    | rung n b =>
      have TH' := TH n
      simp [Rw.w]
      rw [h3]
      simp
      rw [h4]
      cases q : lbThere rs n <;> rw [q] at TH'
      · simp [TH']
      · simp [TH']
        rw [h5]
        simp [LV]
    | ends n s =>
      have TH' := TH n
      simp [Rw.w]
      rw [h3]
      simp
      rw [h4]
      cases q : lbThere rs n <;> rw [q] at TH'
      · simp [TH']
      · simp [TH']
        rw [h5]
        simp
        rw [h6]
        simp [ME]
    | says n s =>
      have TH' := TH n
      have RU' := RU n
      simp [Rw.w]
      rw [h3]
      simp
      rw [h4]
      cases q : lbThere rs n <;> rw [q] at TH'
      · simp [TH']
      · simp [TH']
        rw [h5]
        simp
        rw [h6]
        simp
        rw [h7]
        cases q2 : lbRuns rs n <;> rw [q2] at RU'
        · simp [RU']
        · simp [RU']
          rw [h8]
          simp
          rw [h9]
          simp
          rw [h10]
          simp
    | stops n b =>
      have TH' := TH n
      have RU' := RU n
      simp [Rw.w]
      rw [h3]
      simp
      rw [h4]
      cases q : lbThere rs n <;> rw [q] at TH'
      · simp [TH']
      · simp [TH']
        rw [h5]
        simp
        rw [h6]
        simp
        rw [h7]
        cases q2 : lbRuns rs n <;> rw [q2] at RU'
        · simp [RU']
        · simp [RU']
          rw [h8]
          simp [HA]
    | told n k s =>
      have TH' := TH n
      have RU' := RU n
      have T2 := TH (n ++ [k])
      have U2 := UN (n ++ [k])
      have hn' : n.length < 1000 := hn
      have a1 : fAdd (tn n) (.tup [.int k]) = some (.nt (nrs (n ++ [k]))) := by rw [fAdd_tup (by rw [nrs_len]; simp; omega), nrs_app]
      have es : fEq (stW (lbUntold rs (n ++ [k]))) (.int s) = some (.val (.bl (decide (lbUntold rs (n ++ [k]) = some s)))) := by
        cases lbUntold rs (n ++ [k]) with
        | none => rfl
        | some i => simp [stW]
      simp [Rw.w]
      rw [h3]
      simp
      rw [h4]
      cases q : lbThere rs n <;> rw [q] at TH'
      · simp [TH']
      · simp [TH']
        rw [h5]
        simp
        rw [h6]
        simp
        rw [h7]
        cases q2 : lbRuns rs n <;> rw [q2] at RU'
        · simp [RU']
        · simp [RU']
          rw [h8]
          simp
          rw [h9]
          cases q3 : lbThere rs (n ++ [k]) <;> rw [q3] at T2
          · simp [a1, T2]
          · simp [a1, T2, U2, ix3_tup, es]
end
end Bel

namespace Bel
open PySem PySem.Spec PyProof.Rows L2
def hRaw (rs : List Rw) (n : List Int) (b : Int) : Bool := rs.foldl (haltStep n b) false
/-- what the rows tell of a name is s -/
structure Pn (rs : List Rw) (n : List Int) (s : St) : Prop where
  way : s.way = (lbWay rs n).1
  unt : (if s.untold = true then s.status else none) = lbUntold rs n
  many : s.many = (lbMany rs n : Nat)
  ever : ∀ b, b ∈ s.ever ↔ Rw.rung n b ∈ rs
  halt : ∀ b, b ∈ s.halting ↔ hRaw rs n b = true ∧ (b = 1 ∨ b = 2)
structure Inv' (rs : List Rw) (C : Ct) : Prop where
  th : ∀ n, (C.kn.lookup n).isSome = lbThere rs n
  pn : ∀ n, Pn rs n ((C.kn.lookup n).getD (.new []))
  grp : ∀ n s, C.kn.lookup n = some s → s.group = lbGroup rs n
  fresh : ∀ n, n ≠ [] → C.kn.lookup n = none → rs.any (isStart n) = false
  root : ∀ n g, Rw.starts n g ∈ rs → n ≠ []
  old : ∀ n s, n ≠ [] → C.kn.lookup n = some s → ∃ t, C.kn.lookup n.dropLast = some t ∧ lastI n < t.many
  due : C.due = lbWanted rs
  dgo : ∀ m, C.due = some (.goes m) → (C.kn.lookup m).isSome = true
  drg : ∀ m b, C.due = some (.rung m b) → C.lives m = true
section
variable {rs : List Rw} {C : Ct} {n : List Int} {s : St} {r : Rw}
theorem lbWay_app : lbWay (rs ++ [r]) n = wayStep n (lbWay rs n) r := by simp [lbWay, List.foldl_append]
theorem lbUnt_app : lbUntold (rs ++ [r]) n = untStep n (lbUntold rs n) r := by simp [lbUntold, List.foldl_append]
theorem hRaw_app {b : Int} : hRaw (rs ++ [r]) n b = haltStep n b (hRaw rs n b) r := by simp [hRaw, List.foldl_append]
theorem lbMany_app : lbMany (rs ++ [r]) n = lbMany rs n + if kidOf n r = true then 1 else 0 := by
  unfold lbMany
  rw [List.filter_append, List.length_append]
  congr 1
  by_cases q : kidOf n r = true <;> simp [q]
theorem lbThere_app : lbThere (rs ++ [r]) n = (lbThere rs n || isStart n r) := by
  simp [lbThere, List.any_append, Bool.or_assoc]
theorem Inv'.init : Inv' [] .new := by
  refine ⟨fun n => ?_, fun n => ?_, fun n s h => ?_, fun n _ _ => rfl, (fun n g h => by cases h), fun n s hn h => ?_, rfl, (fun m h => by cases h), (fun m b h => by cases h)⟩
  · by_cases q : n = [] <;> simp [Ct.new, look_cons, lbThere, q]
  · have : ((Ct.new).kn.lookup n).getD (.new []) = .new [] := by
      by_cases q : n = [] <;> simp [Ct.new, look_cons, q]
    rw [this]
    exact ⟨rfl, rfl, rfl, fun b => by simp [St.new], fun b => by simp [St.new, hRaw]⟩
  · by_cases q : n = []
    · simp [Ct.new, look_cons, q] at h; subst h; rfl
    · simp [Ct.new, look_cons, q] at h
  · simp [Ct.new, look_cons, hn] at h
theorem Inv'.runs (I : Inv' rs C) (n : List Int) : C.runs n = lbRuns rs n := by
  have h1 := I.th n
  have h2 := (I.pn n).way
  unfold Ct.runs lbRuns
  cases e : C.kn.lookup n with
  | none => rw [e] at h1; simp [← h1]
  | some s => rw [e] at h1 h2; simp at h1 h2; simp [← h1, h2]
theorem Inv'.lives (I : Inv' rs C) (n : List Int) : C.lives n = lbLives rs n := by
  have h1 := I.th n
  have h2 := (I.pn n).way
  unfold Ct.lives lbLives
  cases e : C.kn.lookup n with
  | none => rw [e] at h1; simp [← h1]
  | some s => rw [e] at h1 h2; simp at h1 h2; simp [← h1, h2]
/-- a row that tells nothing of a name -/
theorem Pn.skip (P : Pn rs n s) (hw : wayStep n (lbWay rs n) r = lbWay rs n) (hu : untStep n (lbUntold rs n) r = lbUntold rs n) (hk : kidOf n r = false) (he : ∀ b, r ≠ .rung n b) : Pn (rs ++ [r]) n s := by
  refine ⟨by rw [lbWay_app, hw]; exact P.way, by rw [lbUnt_app, hu]; exact P.unt, by rw [lbMany_app, hk]; exact P.many, fun b => ?_, fun b => ?_⟩
  · rw [List.mem_append, List.mem_singleton]
    exact ⟨fun h => .inl ((P.ever b).mp h), fun h => h.elim (P.ever b).mpr fun z => absurd z.symm (he b)⟩
  · rw [hRaw_app]
    have : haltStep n b (hRaw rs n b) r = hRaw rs n b := by
      cases r with
      | rung m c =>
        have : ¬ m = n := fun z => he c (by rw [z])
        simp [haltStep, this]
      | _ => rfl
    rw [this]
    exact P.halt b
/-- what comes of a row that a known name's state changes to -/
theorem Inv'.setS (I : Inv' rs C) {t : St} (hl : C.kn.lookup n = some s) (hm : t.many = s.many) (hg : t.group = s.group) (hP : Pn (rs ++ [r]) n t) (hns : ∀ m g, r ≠ .starts m g) (ho : ∀ m, m ≠ n → wayStep m (lbWay rs m) r = lbWay rs m ∧ untStep m (lbUntold rs m) r = lbUntold rs m ∧ ∀ b, r ≠ .rung m b)
    {C' : Ct} (hk : ∀ m, C'.kn.lookup m = if m = n then some t else C.kn.lookup m) (hd : C'.due = lbWanted (rs ++ [r])) (hdg : ∀ m, C'.due = some (.goes m) → (C'.kn.lookup m).isSome = true) (hdr : ∀ m b, C'.due = some (.rung m b) → C'.lives m = true) : Inv' (rs ++ [r]) C' := by
  have isS : ∀ m, isStart m r = false := fun m => by cases r <;> first | rfl | exact absurd rfl (hns _ _)
  have isK : ∀ m, kidOf m r = false := fun m => by cases r <;> first | rfl | exact absurd rfl (hns _ _)
  refine ⟨fun m => ?_, fun m => ?_, fun m u h => ?_, fun m hm0 h => ?_, fun m g h => ?_, fun m u hm0 h => ?_, hd, hdg, hdr⟩
  · rw [lbThere_app, isS m, Bool.or_false, ← I.th m]
    rw [hk]
    by_cases q : m = n
    · subst q; simp [hl]
    · simp [q]
  · rw [hk]
    by_cases q : m = n
    · subst q; simpa using hP
    · simp only [q, if_false]
      obtain ⟨o1, o2, o3⟩ := ho m q
      exact (I.pn m).skip o1 o2 (isK m) o3
  · have h' := h
    rw [hk] at h'
    have e : lbGroup (rs ++ [r]) m = lbGroup rs m := by
      unfold lbGroup
      rw [List.filter_append]
      simp [isS m]
    rw [e]
    by_cases q : m = n
    · subst q
      simp at h'
      subst h'
      rw [hg]; exact I.grp m s hl
    · simp only [q, if_false] at h'
      exact I.grp m u h'
  · have h' := h
    rw [hk] at h'
    by_cases q : m = n
    · simp [q] at h'
    · simp only [q, if_false] at h'
      rw [List.any_append, I.fresh m hm0 h']
      simp [isS m]
  · rcases List.mem_append.mp h with h | h
    · exact I.root m g h
    · simp at h; exact absurd h.symm (hns m g)
  · have h' := h
    rw [hk] at h'
    have key : ∀ v, C.kn.lookup m.dropLast = some v → ∃ w, C'.kn.lookup m.dropLast = some w ∧ w.many = v.many := fun v hv => by
      rw [hk]
      by_cases q : m.dropLast = n
      · rw [q] at hv
        rw [hl] at hv; cases hv
        exact ⟨t, by simp [q], hm⟩
      · exact ⟨v, by simp [q, hv], rfl⟩
    have old' : ∃ v, C.kn.lookup m.dropLast = some v ∧ lastI m < v.many := by
      by_cases q : m = n
      · rw [q] at hm0 ⊢; exact I.old n s hm0 hl
      · simp only [q, if_false] at h'; exact I.old m u hm0 h'
    obtain ⟨v, hv, hv2⟩ := old'
    obtain ⟨w, hw, hw2⟩ := key v hv
    exact ⟨w, hw, by rw [hw2]; exact hv2⟩
theorem lastC (r : Rw) : (rs ++ [r]).getLast? = some r ∧ (rs ++ [r]).dropLast = rs := by simp
theorem drop_ne {n : List Int} (h : n ≠ []) : n.dropLast ≠ n := fun e => by
  have := congrArg List.length e
  rw [List.length_dropLast] at this
  have : 0 < n.length := List.length_pos_iff.mpr h
  omega
theorem Inv'.known (I : Inv' rs C) (h : C.kn.lookup n = some s) : Pn rs n s := by have := I.pn n; rw [h] at this; exact this
/-- says -/
theorem Inv'.says (I : Inv' rs C) {k : Int} (h : C.runs n = true) : Inv' (rs ++ [.says n k]) { C with due := none } := by
  obtain ⟨s, hl⟩ := runs_some h
  refine I.setS (t := s) hl rfl rfl ((I.known hl).skip rfl rfl rfl (fun b => by simp)) (fun _ _ => by simp) (fun m q => ⟨rfl, rfl, fun b => by simp⟩) (fun m => ?_) (by simp [lbWanted]) (fun m h => by cases h) (fun m b h => by cases h)
  by_cases q : m = n
  · subst q; simp [hl]
  · simp [q]
/-- goes -/
theorem Inv'.goes (I : Inv' rs C) (hl : C.kn.lookup n = some s) : Inv' (rs ++ [.goes n]) (Ct.put { C with due := none } n { s with way := 0, untold := false }) := by
  have P := I.known hl
  refine I.setS (t := { s with way := 0, untold := false }) hl rfl rfl ⟨?_, ?_, ?_, fun b => ?_, fun b => ?_⟩ (fun _ _ => by simp) (fun m q => ⟨by simp [wayStep, Ne.symm q], by simp [untStep, Ne.symm q], fun b => by simp⟩) (fun m => look_put (C := { C with due := none }) m) (by simp [Ct.put, lbWanted]) (fun m h => by cases h) (fun m b h => by cases h)
  · rw [lbWay_app]; simp [wayStep]
  · rw [lbUnt_app]; simp [untStep]
  · rw [lbMany_app]; simpa [kidOf] using P.many
  · rw [List.mem_append]; simpa using P.ever b
  · rw [hRaw_app]; exact P.halt b
theorem Inv'.told (I : Inv' rs C) {k st : Int} (hl : C.kn.lookup (n ++ [k]) = some s) : Inv' (rs ++ [.told n k st]) (Ct.put { C with due := none } (n ++ [k]) { s with untold := false }) := by
  have P := I.known hl
  refine I.setS (t := { s with untold := false }) hl rfl rfl ⟨?_, ?_, ?_, fun b => ?_, fun b => ?_⟩ (fun _ _ => by simp) (fun m q => ⟨by simp [wayStep], by simp [untStep, Ne.symm q], fun b => by simp⟩) (fun m => look_put (C := { C with due := none }) m) (by simp [Ct.put, lbWanted]) (fun m h => by cases h) (fun m b h => by cases h)
  · rw [lbWay_app]; exact P.way
  · rw [lbUnt_app]; simp [untStep]
  · rw [lbMany_app]; simpa [kidOf] using P.many
  · rw [List.mem_append]; simpa using P.ever b
  · rw [hRaw_app]; exact P.halt b
theorem Inv'.rung (I : Inv' rs C) {b : Int} (h : C.lives n = true) (hl : C.kn.lookup n = some s) {C' : Ct}
    (hk : ∀ m, C'.kn.lookup m = if m = n then some { s with ever := s.ever ++ [b], halting := if b = 6 then [] else if b = 1 ∨ b = 2 then s.halting ++ [b] else s.halting } else C.kn.lookup m)
    (hd : C'.due = if b = 6 ∧ s.way = 1 then some (.goes n) else none) : Inv' (rs ++ [.rung n b]) C' := by
  have P := I.known hl
  obtain ⟨l1, l2⟩ := lastC (rs := rs) (.rung n b)
  refine I.setS (t := { s with ever := s.ever ++ [b], halting := if b = 6 then [] else if b = 1 ∨ b = 2 then s.halting ++ [b] else s.halting }) hl rfl rfl ⟨?_, ?_, ?_, fun c => ?_, fun c => ?_⟩ (fun _ _ => by simp) (fun m q => ⟨rfl, rfl, fun c => by simp [Ne.symm q]⟩) hk ?_ (fun m hm => ?_) (fun m c hm => ?_)
  · rw [lbWay_app]; exact P.way
  · rw [lbUnt_app]; exact P.unt
  · rw [lbMany_app]; simpa [kidOf] using P.many
  · rw [List.mem_append, List.mem_append, P.ever c]; simp
  · rw [hRaw_app]
    have := P.halt c
    simp only [haltStep, true_and]
    by_cases c6 : b = 6
    · subst c6
      simp
      omega
    · by_cases c1 : b = 1 ∨ b = 2
      · simp only [c6, if_false, c1, if_true, List.mem_append, this, List.mem_singleton, or_false]
        by_cases e : b = c
        · subst e; simp [c1]
        · simp [e, Ne.symm e]
      · simp only [c6, if_false, c1, this, or_false]
        by_cases e : b = c
        · subst e
          have c2 : ¬ b = 1 := fun z => c1 (.inl z)
          have c3 : ¬ b = 2 := fun z => c1 (.inr z)
          simp [c2, c3, this]
        · simp [e, this]
  · rw [hd]
    unfold lbWanted
    rw [l1, l2]
    simp only [P.way]
  · rw [hd] at hm
    split at hm
    · cases hm; rw [hk]; simp
    · cases hm
  · rw [hd] at hm
    split at hm <;> cases hm
theorem pause_look (C : Ct) (n : List Int) (s : St) (way : Nat) (st : Int) (m : List Int) : (C.pause n s way st).kn.lookup m = if m = n then some { s with way := way, status := some st, untold := true } else C.kn.lookup m := by
  unfold Ct.pause
  simp only
  split <;> exact look_put m
theorem pause_due (C : Ct) (hd : C.due = none) (n : List Int) (s : St) (way : Nat) (st : Int) : (C.pause n s way st).due = if n ≠ [] ∧ C.lives n.dropLast = true then some (.rung n.dropLast 7) else none := by
  unfold Ct.pause
  simp only
  by_cases h : n = []
  · simp [h, Ct.put, hd]
  · have e : (C.put n { s with way := way, status := some st, untold := true }).lives n.dropLast = C.lives n.dropLast := by
      unfold Ct.lives
      rw [look_put, if_neg (drop_ne h)]
    rw [e]
    split
    · rfl
    · exact hd
theorem Inv'.pause (I : Inv' rs C) {way : Nat} {st : Int} (hl : C.kn.lookup n = some s) (hr : (r = .stops n (st - 200) ∧ way = 1) ∨ (r = .ends n st ∧ way = 2)) : Inv' (rs ++ [r]) (Ct.pause { C with due := none } n s way st) := by
  have P := I.known hl
  have ls := pause_look { C with due := none } n s way st
  have hd := pause_due { C with due := none } rfl n s way st
  have dl : Ct.lives { C with due := none } n.dropLast = C.lives n.dropLast := rfl
  rw [dl] at hd
  obtain ⟨l1, l2⟩ := lastC (rs := rs) r
  have lv : lbLives (rs ++ [r]) n.dropLast = lbLives rs n.dropLast ∨ n = [] := by
    by_cases h : n = []
    · exact .inr h
    · left
      unfold lbLives
      rw [lbThere_app, lbWay_app]
      have dn := drop_ne h
      rcases hr with ⟨rfl, _⟩ | ⟨rfl, _⟩ <;> simp [isStart, wayStep, Ne.symm dn]
  have dw : lbWanted (rs ++ [r]) = if n ≠ [] ∧ lbLives (rs ++ [r]) n.dropLast = true then some (.rung n.dropLast 7) else none := by
    unfold lbWanted
    rw [l1]
    rcases hr with ⟨rfl, _⟩ | ⟨rfl, _⟩ <;> rfl
  refine I.setS (t := { s with way := way, status := some st, untold := true }) hl rfl rfl ⟨?_, ?_, ?_, fun c => ?_, fun c => ?_⟩ (fun _ _ => by rcases hr with ⟨rfl, _⟩ | ⟨rfl, _⟩ <;> simp) (fun m q => ?_) ls ?_ (fun m hm => ?_) (fun m c hm => ?_)
  · rw [lbWay_app]; rcases hr with ⟨rfl, rfl⟩ | ⟨rfl, rfl⟩ <;> simp [wayStep]
  · rw [lbUnt_app]
    rcases hr with ⟨rfl, rfl⟩ | ⟨rfl, rfl⟩ <;> simp [untStep]
  · rw [lbMany_app]; rcases hr with ⟨rfl, rfl⟩ | ⟨rfl, rfl⟩ <;> simpa [kidOf] using P.many
  · rw [List.mem_append, P.ever c]; rcases hr with ⟨rfl, rfl⟩ | ⟨rfl, rfl⟩ <;> simp
  · rw [hRaw_app, P.halt c]; rcases hr with ⟨rfl, rfl⟩ | ⟨rfl, rfl⟩ <;> rfl
  · rcases hr with ⟨rfl, rfl⟩ | ⟨rfl, rfl⟩ <;> exact ⟨by simp [wayStep, Ne.symm q], by simp [untStep, Ne.symm q], fun b => by simp⟩
  · rw [hd, dw, I.lives]
    rcases lv with h | h
    · rw [h]
    · simp [h]
  · rw [hd] at hm
    split at hm <;> cases hm
  · rw [hd] at hm
    split at hm
    · rename_i hc
      cases hm
      unfold Ct.lives
      rw [ls, if_neg (drop_ne hc.1)]
      exact hc.2
    · cases hm
theorem Inv'.starts (I : Inv' rs C) {g : List Int} (hn : n ≠ []) (hl : C.kn.lookup n.dropLast = some s) (hm : lastI n = s.many) : Inv' (rs ++ [.starts n g]) ((Ct.put { C with due := none } n.dropLast { s with many := s.many + 1 }).put n (.new g)) := by
  have P := I.known hl
  have dn := drop_ne hn
  have nn : C.kn.lookup n = none := by
    cases e : C.kn.lookup n with
    | none => rfl
    | some u =>
      obtain ⟨t, ht, hlt⟩ := I.old n u hn e
      rw [hl] at ht; cases ht
      omega
  have ls : ∀ m, ((Ct.put { C with due := none } n.dropLast { s with many := s.many + 1 }).put n (.new g)).kn.lookup m = if m = n then some (.new g) else if m = n.dropLast then some { s with many := s.many + 1 } else C.kn.lookup m := fun m => by
    rw [look_put, look_put]
  obtain ⟨l1, l2⟩ := lastC (rs := rs) (.starts n g)
  have Pn0 := I.pn n
  rw [nn] at Pn0
  have fr := I.fresh n hn nn
  have kid0 : ∀ m, m = n → lbMany (rs ++ [.starts n g]) m = lbMany rs m := fun m e => by
    subst e
    rw [lbMany_app]; simp [kidOf, dn]
  refine ⟨fun m => ?_, fun m => ?_, fun m u h => ?_, fun m hm0 h => ?_, fun m g' h => ?_, fun m u hm0 h => ?_, ?_, (fun m h => by cases h), (fun m b h => by cases h)⟩
  · rw [ls, lbThere_app]
    by_cases q : m = n
    · subst q; simp [isStart]
    · by_cases q2 : m = n.dropLast
      · have := I.th m
        rw [q2, hl] at this
        simp [q, q2, dn, ← this]
      · simp only [q, q2, if_false, I.th m, isStart]
        simp [Ne.symm q]
  · rw [ls]
    by_cases q : m = n
    · subst q
      simp only [if_true, Option.getD_some]
      refine ⟨?_, ?_, ?_, fun c => ?_, fun c => ?_⟩
      · rw [lbWay_app]; exact Pn0.way
      · rw [lbUnt_app]; exact Pn0.unt
      · rw [kid0 m rfl]; exact Pn0.many
      · rw [List.mem_append]; have := Pn0.ever c; simp [St.new] at this ⊢; exact this
      · rw [hRaw_app]; exact Pn0.halt c
    · by_cases q2 : m = n.dropLast
      · subst q2
        simp only [dn, if_false, if_true, Option.getD_some]
        refine ⟨?_, ?_, ?_, fun c => ?_, fun c => ?_⟩
        · rw [lbWay_app]; exact P.way
        · rw [lbUnt_app]; exact P.unt
        · rw [lbMany_app]; have := P.many; simp [kidOf, this]
        · rw [List.mem_append, P.ever c]; simp
        · rw [hRaw_app]; exact P.halt c
      · simp only [q, q2, if_false]
        exact (I.pn m).skip rfl rfl (by simp [kidOf, Ne.symm q2]) (fun b => by simp)
  · rw [ls] at h
    by_cases q : m = n
    · subst q
      simp at h; subst h
      unfold lbGroup
      have : rs.filter (isStart m) = [] := by
        rw [List.filter_eq_nil_iff]
        intro a ha
        have := List.any_eq_false.mp fr a ha
        simpa using this
      rw [List.filter_append, this]
      simp [isStart, grpOf, St.new]
    · have e : lbGroup (rs ++ [.starts n g]) m = lbGroup rs m := by
        unfold lbGroup
        rw [List.filter_append]
        simp [isStart, Ne.symm q]
      rw [e]
      by_cases q2 : m = n.dropLast
      · subst q2
        simp [dn] at h
        subst h
        exact I.grp _ s hl
      · simp only [q, q2, if_false] at h
        exact I.grp m u h
  · rw [ls] at h
    by_cases q : m = n
    · simp [q] at h
    · by_cases q2 : m = n.dropLast
      · simp [q2, dn] at h
      · simp only [q, q2, if_false] at h
        rw [List.any_append, I.fresh m hm0 h]
        simp [isStart, Ne.symm q]
  · rcases List.mem_append.mp h with h | h
    · exact I.root m g' h
    · simp at h; rw [h.1]; exact hn
  · rw [ls] at h
    have key : ∀ v, C.kn.lookup m.dropLast = some v → lastI m < v.many → ∃ w, ((Ct.put { C with due := none } n.dropLast { s with many := s.many + 1 }).put n (.new g)).kn.lookup m.dropLast = some w ∧ lastI m < w.many := fun v hv hlt => by
      have q1 : m.dropLast ≠ n := fun z => by rw [z, nn] at hv; cases hv
      rw [ls, if_neg q1]
      by_cases q2 : m.dropLast = n.dropLast
      · rw [q2, hl] at hv; cases hv
        exact ⟨_, by rw [if_pos q2], by show lastI m < s.many + 1; omega⟩
      · exact ⟨v, by rw [if_neg q2]; exact hv, hlt⟩
    by_cases q : m = n
    · subst q
      refine ⟨{ s with many := s.many + 1 }, by rw [ls, if_neg dn, if_pos rfl], by show lastI m < s.many + 1; omega⟩
    · have hlk : ∃ u', C.kn.lookup m = some u' := by
        by_cases q2 : m = n.dropLast
        · exact ⟨s, by rw [q2]; exact hl⟩
        · simp only [q, q2, if_false] at h; exact ⟨u, h⟩
      obtain ⟨u', hu'⟩ := hlk
      obtain ⟨v, hv, hlt⟩ := I.old m u' hm0 hu'
      exact key v hv hlt
  · unfold lbWanted
    rw [l1]; rfl
theorem runs0 (C : Ct) (n : List Int) : Ct.runs { C with due := none } n = C.runs n := rfl
theorem lives0 (C : Ct) (n : List Int) : Ct.lives { C with due := none } n = C.lives n := rfl
theorem Inv'.by_ (I : Inv' rs C) (r : Rw) (aw : Bool) (hg : ∀ n, r = .goes n → aw = true → ∃ s, C.kn.lookup n = some s) : ∀ C', Ct.by_ { C with due := none } aw r = some C' → Inv' (rs ++ [r]) C' := by
  intro C' h
  cases r with
  | goes n =>
    simp only [Ct.by_] at h
    split at h
    · rename_i ha
      obtain ⟨s, hs⟩ := hg n rfl ha
      simp only [hs, Option.map_some, Option.some.injEq] at h
      subst h
      exact I.goes hs
    · cases h
  | says n k =>
    by_cases q : C.runs n = true
    rotate_left
    · have q' : ¬ Ct.runs { C with due := none } n = true := q
      simp only [Ct.by_, if_neg q'] at h
      cases h
    have q' : Ct.runs { C with due := none } n = true := q
    simp only [Ct.by_, if_pos q'] at h
    cases h; exact I.says q
  | rung n b =>
    by_cases q : C.lives n = true
    rotate_left
    · have q' : ¬ Ct.lives { C with due := none } n = true := q
      simp only [Ct.by_, if_neg q'] at h
      cases h
    have q' : Ct.lives { C with due := none } n = true := q
    simp only [Ct.by_, if_pos q'] at h
    obtain ⟨s, hs⟩ := lives_some q
    simp only [hs, Option.map_some, Option.some.injEq] at h
    refine I.rung q hs (C' := C') (fun m => ?_) ?_
    · subst h
      split <;> exact look_put (C := { C with due := none }) m
    · subst h
      split <;> rfl
  | stops n b =>
    by_cases q : C.runs n = true
    rotate_left
    · have q' : ¬ Ct.runs { C with due := none } n = true := q
      simp only [Ct.by_, if_neg q'] at h
      cases h
    have q' : Ct.runs { C with due := none } n = true := q
    simp only [Ct.by_, if_pos q'] at h
    obtain ⟨s, hs⟩ := runs_some q
    simp only [hs, Option.bind_some] at h
    split at h
    · cases h; exact I.pause hs (.inl ⟨by rw [show 200 + b - 200 = b by omega], rfl⟩)
    · cases h
  | ends n st =>
    by_cases q : C.lives n = true
    rotate_left
    · have q' : ¬ Ct.lives { C with due := none } n = true := q
      simp only [Ct.by_, if_neg q'] at h
      cases h
    have q' : Ct.lives { C with due := none } n = true := q
    simp only [Ct.by_, if_pos q'] at h
    obtain ⟨s, hs⟩ := lives_some q
    simp only [hs, Option.bind_some] at h
    split at h
    · cases h
    · cases h; exact I.pause hs (.inr ⟨rfl, rfl⟩)
  | told n k st =>
    by_cases q : C.runs n = true
    rotate_left
    · have q' : ¬ Ct.runs { C with due := none } n = true := q
      simp only [Ct.by_, if_neg q'] at h
      cases h
    have q' : Ct.runs { C with due := none } n = true := q
    simp only [Ct.by_, if_pos q'] at h
    cases hs : C.kn.lookup (n ++ [k]) with
    | none => rw [hs] at h; cases h
    | some s =>
      simp only [hs, Option.bind_some] at h
      split at h
      · cases h; exact I.told hs
      · cases h
  | starts n g =>
    by_cases q : n = [] ∨ C.runs n.dropLast = false
    · have q' : n = [] ∨ Ct.runs { C with due := none } n.dropLast = false := q
      simp only [Ct.by_, if_pos q'] at h
      cases h
    have q' : ¬ (n = [] ∨ Ct.runs { C with due := none } n.dropLast = false) := q
    simp only [Ct.by_, if_neg q'] at h
    cases hs : C.kn.lookup n.dropLast with
    | none => rw [hs] at h; cases h
    | some s =>
      simp only [hs, Option.bind_some] at h
      split at h
      · cases h
      · rename_i q2
        cases h
        refine I.starts (fun z => q (.inl z)) hs ?_
        apply Classical.byContradiction
        exact fun z => q2 (.inl z)
theorem Inv'.some_may (I : Inv' rs C) (r : Rw) : (C.letsBy r).isSome = lbMay rs r := by
  unfold Ct.letsBy lbMay
  rw [← I.due]
  cases hd : C.due with
  | some d =>
    simp only [Option.isSome_some, true_and]
    by_cases q : r = d
    · subst q
      simp only [ne_eq, not_true_eq_false, if_false, decide_true]
      cases r with
      | goes n =>
        obtain ⟨s, hs⟩ := Option.isSome_iff_exists.mp (I.dgo n hd)
        simp [Ct.by_, hs]
      | rung n b =>
        have lv := I.drg n b hd
        obtain ⟨s, hs⟩ := lives_some lv
        simp [Ct.by_, lives0, lv, hs]
      | _ =>
        have h := I.due
        rw [hd] at h
        unfold lbWanted at h
        exfalso
        split at h
        · cases h
        all_goals (first | (split at h <;> cases h) | cases h)
    · simp [q, Ne.symm q]
  | none =>
    simp only [Option.isSome_none, Bool.false_eq_true, false_and, if_false]
    have th := I.th
    have RN := I.runs
    have LN := I.lives
    have tl : ∀ n, lbRuns rs n = true → lbThere rs n = true := fun n h => by unfold lbRuns at h; simp at h; exact h.1
    have tv : ∀ n, lbLives rs n = true → lbThere rs n = true := fun n h => by unfold lbLives at h; simp at h; exact h.1
    cases r with
    | goes n => simp [Ct.by_]
    | says n k =>
      simp only [Ct.by_, runs0, RN]
      cases q : lbRuns rs n
      · simp
      · simp [tl n q]
    | rung n b =>
      simp only [Ct.by_, lives0, LN]
      cases q : lbLives rs n
      · simp
      · obtain ⟨s, hs⟩ := lives_some (C := C) (n := n) (by rw [LN]; exact q)
        simp [tv n q, hs]
    | stops n b =>
      simp only [Ct.by_, runs0, RN]
      cases q : lbRuns rs n
      · simp
      · obtain ⟨s, hs⟩ := runs_some (C := C) (n := n) (by rw [RN]; exact q)
        have P := I.known hs
        have hh : lbHalting rs n b = decide (b ∈ s.halting) := by
          have := P.halt b
          unfold lbHalting
          rw [Bool.eq_iff_iff]
          simp only [Bool.and_eq_true, decide_eq_true_eq]
          exact this.symm
        simp only [hs, tl n q, hh]
        by_cases z : b ∈ s.halting <;> simp [z]
    | ends n st =>
      simp only [Ct.by_, lives0, LN]
      cases q : lbLives rs n
      · have : lbThere rs n = true → lbMayEnd rs n st = false := fun h => by
          unfold lbLives at q
          simp only [h, Bool.true_and, bne_eq_false_iff_eq] at q
          unfold lbMayEnd
          simp [q]
        cases q3 : lbThere rs n
        · simp
        · simp [this q3]
      · obtain ⟨s, hs⟩ := lives_some (C := C) (n := n) (by rw [LN]; exact q)
        have P := I.known hs
        have lv := q
        unfold lbLives at lv
        simp only [Bool.and_eq_true, bne_iff_ne, ne_eq] at lv
        have hw : (lbWay rs n).1 = s.way := P.way.symm
        rw [hw] at lv
        have hev : rs.any (fun r => decide (r = .rung n (st - 100))) = decide (st - 100 ∈ s.ever) := by
          rw [Bool.eq_iff_iff]
          simp only [List.any_eq_true, decide_eq_true_eq, P.ever]
          constructor
          · rintro ⟨x, hx, rfl⟩; exact hx
          · exact fun h => ⟨_, h, rfl⟩
        have w3 : s.way < 3 := by rw [← hw]; exact way_lt n rs (0, 0) (by decide)
        have w01 : s.way = 0 ∨ s.way = 1 := by omega
        simp only [hs, tv n q, if_true, Option.bind_some, Bool.true_and]
        unfold lbMayEnd
        rw [hw, hev]
        by_cases c1 : st < 100
        · have c2 : ¬ 100 ≤ st := by omega
          have c3 : st ≠ 100 := by omega
          rcases w01 with w | w <;> simp [c1, c2, c3, w]
        · have c2 : 100 ≤ st := by omega
          by_cases c3 : st - 100 ∈ s.ever
          · rcases w01 with w | w
            · simp [c1, c2, c3, w]
            · by_cases c4 : st = 100
              · subst c4; simp at c3; simp [w, c3]
              · simp [c1, c2, c3, w, c4]
          · simp [c1, c2, c3]
    | told n k st =>
      simp only [Ct.by_, runs0, RN]
      cases q : lbRuns rs n
      · simp
      · have h1 := th (n ++ [k])
        have h2 := (I.pn (n ++ [k])).unt
        cases hs : C.kn.lookup (n ++ [k]) with
        | none =>
          have h1' : lbThere rs (n ++ [k]) = false := by rw [← th (n ++ [k]), hs]; rfl
          simp [hs, tl n q, h1']
        | some s =>
          rw [hs] at h1 h2
          simp only [Option.isSome_some] at h1
          simp only [Option.getD_some] at h2
          simp only [hs, tl n q, ← h1, ← h2]
          by_cases z : s.untold = true
          · by_cases z2 : s.status = some st <;> simp [z, z2]
          · simp [z]
    | starts n g =>
      simp only [Ct.by_, runs0, RN]
      by_cases c0 : n = []
      · simp [c0]
      · cases q : lbRuns rs n.dropLast
        · simp
        · obtain ⟨s, hs⟩ := runs_some (C := C) (n := n.dropLast) (by rw [RN]; exact q)
          have P := I.known hs
          have hg := I.grp _ _ hs
          simp only [c0, false_or, Bool.true_eq_false, if_false, hs, Option.bind_some, P.many, ← hg]
          by_cases z : lastI n = (lbMany rs n.dropLast : Nat)
          · by_cases z2 : g = n ∨ g = s.group
            · simp [z, z2]
            · simp [z, z2]
          · simp [z]
/-- where the law's own look finds the first row that may not come -/
def lbDue (pre : List Rw) : List Rw → Option Nat
  | [] => if (lbWanted pre).isSome = true then some pre.length else none
  | r :: rest => if lbMay pre r = true then lbDue (pre ++ [r]) rest else some pre.length
theorem judge_due : ∀ (rest pre : List Rw) (C : Ct), Inv' pre C → C.judge rest pre.length = lbDue pre rest
  | [], pre, C, I => by unfold Ct.judge lbDue; rw [I.due]
  | r :: rest, pre, C, I => by
    unfold Ct.judge lbDue
    have sm := I.some_may r
    cases e : C.letsBy r with
    | none =>
      have sm' : lbMay pre r = false := by rw [← sm, e]; rfl
      simp [sm']
    | some C' =>
      have sm' : lbMay pre r = true := by rw [← sm, e]; rfl
      rw [if_pos sm']
      simp only
      have I' : Inv' (pre ++ [r]) C' := by
        unfold Ct.letsBy at e
        split at e
        · cases e
        · rename_i hc
          refine I.by_ r C.due.isSome (fun n hn ha => ?_) C' e
          have : C.due = some r := by
            apply Classical.byContradiction
            exact fun z => hc ⟨ha, z⟩
          exact Option.isSome_iff_exists.mp (I.dgo n (by rw [this, hn]))
      have := judge_due rest (pre ++ [r]) C' I'
      rw [← this]
      congr 1
      simp
theorem judgeP_due (rs : List Rw) : judgeP rs = lbDue [] rs := judge_due rs [] .new Inv'.init
end
end Bel

namespace Bel
open PySem PySem.Spec PyProof.Rows L2 LamX
def own0 : List U → Option Nat
  | [] => none
  | .v _ :: r => own0 r
  | .o n :: _ => some n
def lenV (S : Store) (n0 : Nat) : U → Option U
  | .v w => some (.v w)
  | .o n => if n = n0 then some (.o 0) else borQ S (.o n)
def lensV (S : Store) (n0 : Nat) : List U → Option (List U)
  | [] => some []
  | u :: r => match lenV S n0 u, lensV S n0 r with
    | some x, some xs => some (x :: xs)
    | _, _ => none
def dFnV (f : DF) (n : Nat) (a : DA) : DE := fun e S => (a e S).bind fun us S1 => if us.length = n then (match own0 us with
    | some n0 => match S1[n0]? with
      | some (.lst l0) => match lensV S1 n0 us with
        | some ws => match f ws [.lst l0] with
          | .ok (.v w) T => match T[0]? with
            | some (Ob.lst l2) => if ndW w = true ∧ ndWs l2 = true then .ok (.v w) (S1.set n0 (.lst l2)) else .no
            | _ => .no
          | .ex c T => match T[0]? with
            | some (Ob.lst l2) => if ndWs l2 = true then .ex c (S1.set n0 (.lst l2)) else .no
            | _ => .no
          | _ => .no
        | none => .no
      | _ => .no
    | none => .no) else .no
@[simp] theorem dFnV_ap (f : DF) (n : Nat) (a : DA) (e : Env') (S : Store) : dFnV f n a e S = (a e S).bind fun us S1 => if us.length = n then (match own0 us with
    | some n0 => match S1[n0]? with
      | some (.lst l0) => match lensV S1 n0 us with
        | some ws => match f ws [.lst l0] with
          | .ok (.v w) T => match T[0]? with
            | some (Ob.lst l2) => if ndW w = true ∧ ndWs l2 = true then .ok (.v w) (S1.set n0 (.lst l2)) else .no
            | _ => .no
          | .ex c T => match T[0]? with
            | some (Ob.lst l2) => if ndWs l2 = true then .ex c (S1.set n0 (.lst l2)) else .no
            | _ => .no
          | _ => .no
        | none => .no
      | _ => .no
    | none => .no) else .no := Eq.trans rfl rfl
theorem own0_mem : ∀ {us : List U} {n0 : Nat}, own0 us = some n0 → U.o n0 ∈ us
  | .v x :: r, n0, h => List.mem_cons_of_mem _ (own0_mem (us := r) (by simpa [own0] using h))
  | .o m :: r, n0, h => by cases h; exact List.mem_cons_self
section
variable {K : PySem.W.Frag} {w : World} {e1 e2 : Ec} {H H' : Hp} {ι ι' : List Addr} {S S' : Store} {B : Addr → Prop} {a0 : Addr} {n0 : Nat} {l0 l2 : List W} {us : List U}
theorem winV_sub (h : S[n0]? = some (.lst l0)) (ha : ι[n0]? = some a0) : ∀ a, Oq [a0] [.lst l0] (lent ι S B us) a → Oq ι S B a := by
  rintro a (⟨n, o, h1, h2, h3⟩ | z)
  · cases n with
    | zero => simp at h3; subst h3; exact .inl ⟨n0, _, h, (fun z => nomatch z), ha⟩
    | succ n => simp at h1
  · exact z.1
theorem rs_winV (he : e1.f = e2.f) (R : RS ⟨K, w, e1⟩ ι S B H) (h : S[n0]? = some (.lst l0)) (ha : ι[n0]? = some a0) (hm : U.o n0 ∈ us) : RS ⟨K, w, e2⟩ [a0] [.lst l0] (lent ι S B us) H := by
  refine ⟨rfl, by simp, fun n o a h1 h2 => ?_, fun a z => ⟨?_, ?_⟩⟩
  · cases n with
    | zero =>
      simp at h1 h2; subst h1 h2
      exact ob_kind he (winV_sub h ha) rfl (R.ob n0 _ a0 h ha)
    | succ n => simp at h1
  · rcases z.1 with z | z
    · exact R.tracked z
    · exact (R.hid a z).1
  · intro q
    simp at q
    subst q
    exact z.2 n0 hm ha
theorem lenV_rp (he : e1.f = e2.f) (R : RS ⟨K, w, e1⟩ ι S B H) (h0 : S[n0]? = some (.lst l0)) (ha0 : ι[n0]? = some a0) {u x : U} {v : V} (hu : u ∈ us) (r : RU ⟨K, w, e1⟩ H ι S B u v) (h : lenV S n0 u = some x) : RU ⟨K, w, e2⟩ H [a0] [.lst l0] (lent ι S B us) x v := by
  have less := winV_sub (us := us) (B := B) h0 ha0
  cases u with
  | v w => cases h; exact Rp.kind he (Rp.less less r)
  | o n =>
    obtain ⟨a, ha, rfl⟩ := r
    simp only [lenV] at h
    by_cases q : n = n0
    · subst q
      rw [if_pos rfl] at h
      cases h
      rw [ha0] at ha; cases ha
      exact ⟨a0, rfl, rfl⟩
    · rw [if_neg q] at h
      have ne : a ≠ a0 := by
        rintro rfl
        obtain ⟨h4, h5⟩ := List.getElem?_eq_some_iff.mp ha
        obtain ⟨h6, h7⟩ := List.getElem?_eq_some_iff.mp ha0
        exact q ((List.getElem_inj R.nd).mp (h5.trans h7.symm))
      have no : ¬ Oq [a0] [.lst l0] (lent ι S B us) a := by
        rintro (⟨m, o, h1, h2, h3⟩ | z)
        · cases m with
          | zero => simp at h3; exact ne h3.symm
          | succ m => simp at h1
        · exact z.2 n hu ha
      simp only [borQ] at h
      split at h
      · rename_i l e1
        cases h
        obtain ⟨kvs, hH, rl⟩ := R.dct e1 ha
        exact Rp.mkDct ⟨.inl hH, no⟩ (RpD.kind he (rl.less2 less))
      · rename_i l e1
        cases h
        obtain ⟨vs, hH, rl⟩ := R.lst e1 ha
        exact Rp.mkLst ⟨hH, no⟩ (RpL.kind he (rl.less less))
      · cases h
theorem lensV_rp (he : e1.f = e2.f) (R : RS ⟨K, w, e1⟩ ι S B H) (h0 : S[n0]? = some (.lst l0)) (ha0 : ι[n0]? = some a0) : ∀ {vs0 : List U} {vs : List V} {xs : List U}, (∀ u ∈ vs0, u ∈ us) → RUs ⟨K, w, e1⟩ H ι S B vs0 vs → lensV S n0 vs0 = some xs → RUs ⟨K, w, e2⟩ H [a0] [.lst l0] (lent ι S B us) xs vs ∧ xs.length = vs0.length
  | _, _, _, _, .nil, h => by cases h; exact ⟨.nil, rfl⟩
  | u :: vs0, _, xs, hu, .cons r t, h => by
    unfold lensV at h
    cases e1 : lenV S n0 u with
    | none => simp [e1] at h
    | some x =>
      cases e2 : lensV S n0 vs0 with
      | none => simp [e1, e2] at h
      | some ys =>
        simp [e1, e2] at h
        subst h
        obtain ⟨q1, q2⟩ := lensV_rp he R h0 ha0 (fun u hu' => hu u (List.mem_cons_of_mem _ hu')) t e2
        exact ⟨.cons (lenV_rp he R h0 ha0 (hu u List.mem_cons_self) r e1) q1, by simp [q2]⟩
theorem lensV_ob (S : Store) (n0 : Nat) : ∀ {us ws : List U} {n : Nat}, lensV S n0 us = some ws → U.o n ∈ us → n = n0 ∨ (∃ l, S[n]? = some (.dct l)) ∨ ∃ l, S[n]? = some (.lst l)
  | u :: us, ws, n, h, hm => by
    unfold lensV at h
    cases e1 : lenV S n0 u with
    | none => simp [e1] at h
    | some x =>
      cases e2 : lensV S n0 us with
      | none => simp [e1, e2] at h
      | some ys =>
        rcases List.mem_cons.mp hm with rfl | hm
        · simp only [lenV] at e1
          by_cases q : n = n0
          · exact .inl q
          · rw [if_neg q] at e1
            simp only [borQ] at e1
            split at e1
            · exact .inr (.inl ⟨_, by assumption⟩)
            · exact .inr (.inr ⟨_, by assumption⟩)
            · cases e1
        · exact lensV_ob S n0 e2 hm
theorem winV_back (he : e2.f = e1.f) (R : RS ⟨K, w, e1⟩ ι S B H) (h : S[n0]? = some (.lst l0)) (ha : ι[n0]? = some a0) {ws : List U} (hl : lensV S n0 us = some ws)
    (G : Go [a0] [.lst l0] H ι' S' H') (R' : RS ⟨K, w, e2⟩ ι' S' (lent ι S B us) H') (h2 : S'[0]? = some (.lst l2)) (hk2 : ndWs l2 = true) :
    RS ⟨K, w, e1⟩ ι (S.set n0 (.lst l2)) B H' ∧ Go ι S H ι (S.set n0 (.lst l2)) H' ∧ ∀ x v, ndW x = true → Rp ⟨K, w, e2⟩ H' (Oq ι' S' (lent ι S B us)) x v → Rp ⟨K, w, e1⟩ H' (Oq ι (S.set n0 (.lst l2)) B) x v := by
  have hd : (Ob.lst l0) ≠ Ob.dead := fun z => nomatch z
  have hd2 : (Ob.lst l2) ≠ Ob.dead := fun z => nomatch z
  have hn : n0 < S.length := (List.getElem?_eq_some_iff.mp h).1
  have hι : ι'[0]? = some a0 := by obtain ⟨t, rfl⟩ := G.pre; rfl
  have key : ∀ a y, H a = some y → a ≠ a0 → H' a = some y := fun a y e na => G.ext a y e fun ⟨m, o, z1, z2, z3⟩ => by
    cases m with
    | zero => simp at z3; exact na z3.symm
    | succ m => simp at z1
  have oa : Ow ι S a0 := ⟨n0, _, h, hd, ha⟩
  have G2 : Go ι S H ι (S.set n0 (.lst l2)) H' := ⟨fun x y hx nx => key x y hx fun z => nx (by rw [z]; exact oa), fun b z => .inl ((ow_set h hd hd2 b).mp z), pre_rfl⟩
  have lens : ∀ a, Oq ι (S.set n0 (.lst l2)) B a → ¬ Oq ι' S' (lent ι S B us) a → (∃ kvs, H' a = some (.dK kvs)) ∨ ∃ vs, H' a = some (.lst vs) := fun a z nz => by
    have z1 : Oq ι S B a := z.imp (fun z => (ow_set h hd hd2 a).mp z) id
    have ne : a ≠ a0 := by rintro rfl; exact nz (.inl ⟨0, _, h2, hd2, hι⟩)
    obtain ⟨m, hm, em⟩ : ∃ m, U.o m ∈ us ∧ ι[m]? = some a := by
      apply Classical.byContradiction
      intro q
      exact nz (.inr ⟨z1, fun m hm em => q ⟨m, hm, em⟩⟩)
    rcases lensV_ob S n0 hl hm with rfl | ⟨l, hl⟩ | ⟨l, hl⟩
    · rw [ha] at em; cases em; exact absurd rfl ne
    · obtain ⟨kvs, e1, _⟩ := R.ob m _ a hl em
      exact .inl ⟨kvs, key a _ e1 ne⟩
    · obtain ⟨kvs, e1, _⟩ := R.ob m _ a hl em
      exact .inr ⟨kvs, key a _ e1 ne⟩
  have up : ∀ x v, ndW x = true → Rp ⟨K, w, e2⟩ H' (Oq ι' S' (lent ι S B us)) x v → Rp ⟨K, w, e1⟩ H' (Oq ι (S.set n0 (.lst l2)) B) x v := fun x v hx r => nd_rpQ lens (Rp.kind he r) hx
  refine ⟨⟨by simp [R.len], R.nd, fun m q b h1 h3 => ?_, fun b hb => ?_⟩, G2, up⟩
  · by_cases hm : n0 = m
    · subst hm
      rw [ha] at h3; cases h3
      rw [List.getElem?_set_self hn] at h1
      cases h1
      obtain ⟨vs, e, r⟩ := R'.ob 0 _ a0 h2 hι
      exact ⟨vs, e, r.1, fun i x v e1 e2 => up x v (ndWs_get hk2 e1) (r.2 i x v e1 e2)⟩
    · rw [List.getElem?_set_ne hm] at h1
      have hne : b ≠ a0 := by
        rintro rfl
        obtain ⟨h4, h5⟩ := List.getElem?_eq_some_iff.mp ha
        obtain ⟨h6, h7⟩ := List.getElem?_eq_some_iff.mp h3
        exact hm ((List.getElem_inj R.nd).mp (h5.trans h7.symm))
      have z := R.ob m q b h1 h3
      cases q with
      | lst ws => obtain ⟨vs, e, r⟩ := z; exact ⟨vs, key _ _ e hne, r.go G2⟩
      | dct ws => obtain ⟨vs, e, r⟩ := z; exact ⟨vs, key _ _ e hne, r.go G2⟩
      | scr ws => obtain ⟨vs, y, e, d, r⟩ := z; exact ⟨vs, y, key _ _ e hne, d.imp (fun d => key _ _ d hne) fun ⟨o, d⟩ => ⟨o, key _ _ d hne⟩, r.go G2⟩
      | tbl x q => exact TblR.ext z G2.extq G2.ownq fun _ e => key _ _ e hne
      | td ws => exact TdVR.ext z G2.extq G2.ownq fun _ e => key _ _ e hne
      | ru k us => obtain ⟨f, vs, d, r⟩ := z; exact ⟨f, vs, d.ext G2.extq G2.ownq (fun _ e => key _ _ e hne), r.ext G2.extq G2.ownq pre_rfl⟩
      | dead => obtain ⟨y, e⟩ := z; exact ⟨y, key _ _ e hne⟩
  · obtain ⟨⟨y, e⟩, nb⟩ := R.hid b hb
    exact ⟨⟨y, key _ _ e fun z => nb (by rw [z]; exact List.mem_of_getElem? ha)⟩, nb⟩
end
section
variable {ec ec2 : Ec} {X : Cx} {e : Expr} {es : List Expr} {pos p : Pos} {das : DA} {df : DF} {n k : Nat} {x : Str}
theorem fnV_reads {K : PySem.W.Frag} {w : World} (he : ec2.f = ec.f) {Wx : WX} {σ : L2.St} {H : Hp} {Q : VK} (h : LE ⟨K, w, ec⟩ Wx (dFnV df n das) σ H Q) : tCallS (spD ⟨K, w, ec2⟩ df n) (WE Wx) (LA ⟨K, w, ec⟩ Wx das) σ H Q := by
  obtain ⟨env, S, ι, B, R, E, h⟩ := h
  refine LA.then_ R E h fun us S1 xs H1 ι1 G1 R1 E1 ru h1 => ?_
  split at h1
  · rename_i hn
    split at h1
    · rename_i n0 eo
      split at h1
      · rename_i l0 eb
        split at h1
        · rename_i ws hl
          have hm := own0_mem eo
          obtain ⟨a0, ha⟩ : ∃ a0, ι1[n0]? = some a0 := by
            have : n0 < ι1.length := by rw [R1.len]; exact (List.getElem?_eq_some_iff.mp eb).1
            exact ⟨ι1[n0], by simp [this]⟩
          obtain ⟨q1, q2⟩ := lensV_rp (us := us) he.symm R1 eb ha (fun u hu => hu) ru hl
          refine ⟨ws, [.lst l0], [a0], lent ι1 S1 B us, rs_winV he.symm R1 eb ha hm, q1, q2.trans hn, ?_⟩
          cases e1 : df ws [.lst l0] with
          | no => rw [e1] at h1; exact h1
          | ex c T =>
            rw [e1] at h1
            simp only at h1
            split at h1
            · rename_i l2 e2
              split at h1
              · rename_i hk2
                intro H' ι' G R'
                obtain ⟨R2, G2, up⟩ := winV_back he R1 eb ha hl G R' e2 hk2
                have z := h1 H' ι1 G2 R2
                have ee : (⟨K, w, ec2⟩ : Fx).ec c = (⟨K, w, ec⟩ : Fx).ec c := congrFun he c
                rw [ee]
                exact z
              · exact h1.elim
            · exact h1.elim
          | ok u T =>
            rw [e1] at h1
            cases u with
            | o m => exact h1.elim
            | v y =>
              simp only at h1
              split at h1
              · rename_i l2 e2
                split at h1
                · rename_i hk2
                  intro v H' ι' G R' r
                  obtain ⟨R2, G2, up⟩ := winV_back he R1 eb ha hl G R' e2 hk2.2
                  exact h1 v H' ι1 G2 R2 (up y v hk2.1 r)
                · exact h1.elim
              · exact h1.elim
        · exact h1.elim
      · exact h1.elim
    · exact h1.elim
  · exact h1.elim
theorem ev_fnV (h : HasG X.prog X.w X.K X.mg X.base ec2 x k n df) (hr : RoomG k X.A) (hg : Gl X x) (ha : PAv ec X (e :: es) das)
    (hdb : (x == ("__debug__" : Str)) = false := by decide) (he : starEach (e :: es) X.env = (false, eval e X.env) :: starEach es X.env := by rfl) (hpl : (backTo pos (starEach es X.env)).any (·.1) = false := by rfl) (he2 : ec2.f = ec.f := by rfl) : PEv ec X (.Call (.Name x p) (e :: es) [] pos) (dFnV df n das) := by
  obtain ⟨f, fd, ps, F, hm, hk, hb⟩ := h
  refine ⟨fun pn xe Wx tk => PE.imp (t := tCallS (spD (fx ec2 X) df n) (WE Wx) (LA (fx ec X) Wx das)) ⟨fun pins s σ H Q I h => ?_⟩ fun σ H Q h => fnV_reads he2 h⟩
  apply wpAny_Call_Name_kw
  apply ld_glob (X := X.tr pn xe) I hg hm _ hdb
  apply PySem.W.callWith_K (h₀ := X.base) I.ok.mod.kin hk _ he hpl
  apply thn ((ha.run pn xe Wx tk).run pos pins s σ H _ I h)
  rintro us s1 ⟨xs, H1, I1, r, q⟩
  exact ⟨I1.kIn, call_G (X := X.tr pn xe) F hr hb (passAt tk σ) I1 r q⟩
end
def fDivW : W → W → Option Out
  | .int i, .int j => if 0 < j ∧ j.natAbs.log2 < 9000 then some (.val (.int (i / j))) else none
  | _, _ => none
theorem ow_divW {F : Fx} : OpW F fDivW (rI CDivW fun i j => .int (i / j)) := ow_int fun w z o e => by
  cases w <;> cases z <;> try cases e
  simp only [fDivW] at e
  split at e
  · rename_i hc
    cases some_inj e
    exact ⟨_, _, _, rfl, rfl, hc, rfl, fun _ _ => .int _⟩
  · cases e
theorem fDivW_int {i j : Int} (h : 0 < j) (h2 : j.natAbs.log2 < 9000) : fDivW (.int i) (.int j) = some (.val (.int (i / j))) := if_pos ⟨h, h2⟩
end Bel

namespace BelLaw
open PySem PySem.Spec PyProof.Rows L2 Bel

def m__law_any_row_e1 : DE := (dBin false fIx (dVar 10) (dC (.int 1)))
def m__law_any_row_t2 : DT := (dT (dBin false fEq (dBin false fIx (dVar 10) (dC (.int 0))) (dC (.str [115, 116, 97, 114, 116, 115]))))
def m__law_any_row_t3 : DT := (dAnd (dT (dBin false fEq (dBin false fIx (dVar 10) (dC (.int 0))) (dC (.str [115, 116, 97, 114, 116, 115])))) (dT (dBin false fEq (dSl false (dBin false fIx (dVar 10) (dC (.int 1))) dNoPart (dPart (dNeg (dC (.int 1))))) (dVar 3))))
def m__law_any_row : DF := fnD 11
    (dSeq (dAsg 2 (dBin false fAdd (dDisp false .nl (dCons (dDisp false .nt dNil) dNil)) (dSl false (dLc false (dItL (dVar 1)) (tgN 10) m__law_any_row_t2 m__law_any_row_e1 [10]) (dPart (dNeg (dC (.int 5)))) dNoPart)))
    (dSeq (dAsg 3 (dFn g__law_pick 2 (dCons (dVar 0) (dCons (dBin false fAdd (dBin false fAdd (dVar 2) (dVar 2)) (dDisp false .nl (dCons (dDisp false .nt (dCons (dFn g__law_next 2 (dCons (dVar 0) (dCons (dC (.int 3)) dNil))) dNil)) dNil))) dNil))))
    (dSeq (dAsg 4 (dDisp false .nl (dCons (dC (.str [115, 116, 97, 114, 116, 115])) (dCons (dC (.str [115, 116, 97, 114, 116, 115])) (dCons (dC (.str [115, 97, 121, 115])) (dCons (dC (.str [114, 117, 110, 103])) (dCons (dC (.str [114, 117, 110, 103])) (dCons (dC (.str [114, 117, 110, 103])) (dCons (dC (.str [115, 116, 111, 112, 115])) (dCons (dC (.str [115, 116, 111, 112, 115])) (dCons (dC (.str [103, 111, 101, 115])) (dCons (dC (.str [101, 110, 100, 115])) (dCons (dC (.str [116, 111, 108, 100])) (dCons (dC (.str [116, 111, 108, 100])) dNil))))))))))))))
    (dSeq (dAsg 5 (dFn g__law_pick 2 (dCons (dVar 0) (dCons (dVar 4) dNil))))
    (dSeq (dAsg 6 (dFn g__law_next 2 (dCons (dVar 0) (dCons (dC (.int 3)) dNil))))
    (dSeq (dIfS (dT (dBin false fEq (dVar 5) (dC (.str [115, 116, 97, 114, 116, 115])))) (dSeq (dAsg 8 (dCall false fLen (dCons (dLc false (dItL (dVar 1)) (tgN 10) m__law_any_row_t3 (dC (.int 1)) [10]) dNil)))
    (dSeq (dAsg 9 (dSl false (dBin false fAdd (dVar 3) (dDisp false .nt (dCons (dBin false fMod (dFn g__law_pick 2 (dCons (dVar 0) (dCons (dDisp false .nl (dCons (dVar 8) (dCons (dVar 8) (dCons (dVar 8) (dCons (dVar 6) dNil))))) dNil))) (dC (.int 30))) dNil))) (dPart (dNeg (dC (.int 4)))) dNoPart))
    (dRet (dDisp false .nt (dCons (dVar 5) (dCons (dVar 9) (dCons (dFn g__law_pick 2 (dCons (dVar 0) (dCons (dDisp false .nl (dCons (dVar 9) (dCons (dFn g__law_group 2 (dCons (dVar 1) (dCons (dVar 3) dNil))) (dCons (dFn g__law_group 2 (dCons (dVar 1) (dCons (dVar 3) dNil))) (dCons (dDisp false .nt dNil) dNil))))) dNil))) dNil))))))) dNext)
    (dSeq (dIfS (dT (dBin false fEq (dVar 5) (dC (.str [115, 97, 121, 115])))) (dRet (dDisp false .nt (dCons (dVar 5) (dCons (dVar 3) (dCons (dFn g__law_next 2 (dCons (dVar 0) (dCons (dC (.int 1000)) dNil))) dNil))))) dNext)
    (dSeq (dIfS (dT (dBin false fEq (dVar 5) (dC (.str [114, 117, 110, 103])))) (dRet (dDisp false .nt (dCons (dVar 5) (dCons (dVar 3) (dCons (dFn g__law_pick 2 (dCons (dVar 0) (dCons (dDisp false .nl (dCons (dC (.int 1)) (dCons (dC (.int 2)) (dCons (dC (.int 6)) (dCons (dC (.int 0)) (dCons (dC (.int 4)) (dCons (dC (.int 3)) (dCons (dC (.int 5)) (dCons (dC (.int 7)) dNil))))))))) dNil))) dNil))))) dNext)
    (dSeq (dIfS (dT (dBin false fEq (dVar 5) (dC (.str [115, 116, 111, 112, 115])))) (dRet (dDisp false .nt (dCons (dVar 5) (dCons (dVar 3) (dCons (dBin false fAdd (dC (.int 1)) (dFn g__law_next 2 (dCons (dVar 0) (dCons (dC (.int 2)) dNil)))) dNil))))) dNext)
    (dSeq (dIfS (dT (dBin false fEq (dVar 5) (dC (.str [103, 111, 101, 115])))) (dRet (dDisp false .nt (dCons (dVar 5) (dCons (dVar 3) dNil)))) dNext)
    (dSeq (dIfS (dT (dBin false fEq (dVar 5) (dC (.str [101, 110, 100, 115])))) (dRet (dDisp false .nt (dCons (dVar 5) (dCons (dVar 3) (dCons (dFn g__law_pick 2 (dCons (dVar 0) (dCons (dDisp false .nl (dCons (dC (.int 0)) (dCons (dC (.int 99)) (dCons (dC (.int 7)) (dCons (dC (.int 100)) (dCons (dC (.int 104)) (dCons (dC (.int 103)) (dCons (dC (.int 105)) dNil)))))))) dNil))) dNil))))) dNext)
    (dSeq (dAsg 7 (dFn g__law_untold 2 (dCons (dVar 1) (dCons (dBin false fAdd (dVar 3) (dDisp false .nt (dCons (dVar 6) dNil))) dNil))))
    (dSeq (dIfS (dT (dBin false fIs (dVar 7) (dC .non))) (dRet (dDisp false .nt (dCons (dVar 5) (dCons (dVar 3) (dCons (dVar 6) (dCons (dC (.int 100)) dNil)))))) dNext)
    (dRet (dDisp false .nt (dCons (dVar 5) (dCons (dVar 3) (dCons (dVar 6) (dCons (dFn g__law_pick 2 (dCons (dVar 0) (dCons (dDisp false .nl (dCons (dVar 7) (dCons (dVar 7) (dCons (dVar 7) (dCons (dC (.int 0)) (dCons (dC (.int 201)) dNil)))))) dNil))) dNil)))))))))))))))))))
def m__law_made_b1 : DS := (dSeq (dAsg 3 (dFn g__law_state 2 (dCons (dVar 0) (dCons (dBin false fDiv (dVar 2) (dC (.int 2))) dNil))))
    (dSeq (dIfS (dT (dBin false fEq (dBin false fMod (dVar 2) (dC (.int 2))) (dC (.int 1)))) (dAsg 3 (dDisp true .nl (dCons (dBin false fDivW (dBin false fIx (dVar 3) (dC (.int 0))) (dBin false fPow (dC (.int 10)) (dC (.int 12)))) dNil))) dNext)
    (dSeq (dAsg 4 (dFnQ g__law_wanted 1 (dCons (dVar 1) dNil)))
    (dSeq (dAsg 5 (dIf (dT (dBin false fIs (dVar 4) (dC .non))) (dFnV m__law_any_row 2 (dCons (dVar 3) (dCons (dVar 1) dNil))) (dVar 4)))
    (dIfS (dT (dFnQ g__law_may 2 (dCons (dVar 1) (dCons (dVar 5) dNil)))) (dDrop (dMut fAppend (dVar 1) (dCons (dVar 5) dNil))) dNext)))))
def m__law_made : DF := fnD 6
    (dSeq (dAsg 1 (dDisp true .nl dNil))
    (dSeq (dFor (dRng1 (dCall false fMin2 (dCons (dC (.int 60)) (dCons (dBin false fAdd (dC (.int 6)) (dBin false fMul (dC (.int 2)) (dCall false fLen (dCons (dVar 0) dNil)))) dNil)))) (tgN 2) m__law_made_b1)
    (dRet (dVar 1))))
def m__law_due_b1 : DS := (dIfS (dNot (dT (dFn g__law_may 2 (dCons (dSl false (dVar 0) dNoPart (dPart (dVar 1))) (dCons (dBin false fIx (dVar 0) (dVar 1)) dNil))))) (dRet (dVar 1)) dNext)
def m__law_due : DF := fnD 2
    (dSeq (dFor (dRng1 (dCall false fLen (dCons (dVar 0) dNil))) (tgN 1) m__law_due_b1)
    (dRet (dIf (dT (dBin false fIs (dFn g__law_wanted 1 (dCons (dVar 0) dNil)) (dC .non))) (dC .non) (dCall false fLen (dCons (dVar 0) dNil)))))
def m__law_spoilt : DF := fnD 5
    (dSeq (dAsg 2 (dFn g__law_next 2 (dCons (dVar 0) (dCons (dBin false fAdd (dCall false fLen (dCons (dVar 1) dNil)) (dC (.int 1))) dNil))))
    (dSeq (dAsg 3 (dFn m__law_any_row 2 (dCons (dVar 0) (dCons (dVar 1) dNil))))
    (dSeq (dAsg 4 (dFn g__law_next 2 (dCons (dVar 0) (dCons (dC (.int 6)) dNil))))
    (dSeq (dIfS (dT (dBin false fEq (dVar 4) (dC (.int 0)))) (dRet (dSl false (dVar 1) dNoPart (dPart (dVar 2)))) dNext)
    (dSeq (dIfS (dT (dBin false fEq (dVar 4) (dC (.int 1)))) (dRet (dBin false fAdd (dSl false (dVar 1) dNoPart (dPart (dVar 2))) (dSl false (dVar 1) (dPart (dBin false fAdd (dVar 2) (dC (.int 1)))) dNoPart))) dNext)
    (dSeq (dIfS (dT (dBin false fEq (dVar 4) (dC (.int 2)))) (dRet (dBin false fAdd (dBin false fAdd (dSl false (dVar 1) dNoPart (dPart (dVar 2))) (dStep false (dSl false (dVar 1) (dPart (dVar 2)) (dPart (dBin false fAdd (dVar 2) (dC (.int 2))))) (dNeg (dC (.int 1))))) (dSl false (dVar 1) (dPart (dBin false fAdd (dVar 2) (dC (.int 2)))) dNoPart))) dNext)
    (dSeq (dIfS (dT (dBin false fEq (dVar 4) (dC (.int 3)))) (dRet (dBin false fAdd (dBin false fAdd (dSl false (dVar 1) dNoPart (dPart (dVar 2))) (dDisp false .nl (dCons (dVar 3) dNil))) (dSl false (dVar 1) (dPart (dBin false fAdd (dVar 2) (dC (.int 1)))) dNoPart))) dNext)
    (dSeq (dIfS (dOr (dT (dBin false fEq (dVar 4) (dC (.int 4)))) (dT (dBin false fEq (dVar 1) (dDisp false .nl dNil)))) (dRet (dBin false fAdd (dBin false fAdd (dSl false (dVar 1) dNoPart (dPart (dVar 2))) (dDisp false .nl (dCons (dVar 3) dNil))) (dSl false (dVar 1) (dPart (dVar 2)) dNoPart))) dNext)
    (dRet (dBin false fAdd (dBin false fAdd (dSl false (dVar 1) dNoPart (dPart (dVar 2))) (dDisp false .nl (dCons (dBin false fIx (dVar 1) (dCall false fMin2 (dCons (dVar 2) (dCons (dBin false fSub (dCall false fLen (dCons (dVar 1) dNil)) (dC (.int 1))) dNil)))) dNil))) (dSl false (dVar 1) (dPart (dVar 2)) dNoPart)))))))))))
def m_law_e1 : DE := (dFn m__law_spoilt 2 (dCons (dVar 2) (dCons (dVar 1) dNil)))
def m_law_b2 : DS := (dSeq (dAsg 4 (dFn m__law_due 1 (dCons (dVar 3) dNil)))
    (dSeq (dAsg 5 (dCall false fList (dCons (dVar 3) dNil)))
    (dSeq (dAsg 6 (dFnP g_judged 1 (dCons (dVar 5) dNil)))
    (dSeq (dIfS (dOr (dT (dIsT isBl (dVar 6))) (dOr (dT (dBin false fNe (dVar 6) (dVar 4))) (dT (dBin false fNe (dVar 5) (dVar 3))))) (dRet (dC (.bl false))) dNext)
    (dIfS (dT (dBin false fNe (dFnP g_judged 1 (dCons (dCall false fTuple (dCons (dVar 3) dNil)) dNil)) (dVar 4))) (dRet (dC (.bl false))) dNext)))))
def m_law : DF := fnD 8
    (dSeq (dAsg 1 (dFn m__law_made 1 (dCons (dVar 0) dNil)))
    (dSeq (dFrzV 1) (dSeq (dAsg 2 (dFn g__law_state 2 (dCons (dDisp false .nl (dCons (dBin false fAdd (dBin false fMul (dBin false fMod (dCall false fAbs (dCons (dCall false fSum (dCons (dVar 0) dNil)) dNil)) (dBin false fPow (dC (.int 10)) (dC (.int 16)))) (dC (.int 31))) (dCall false fLen (dCons (dVar 0) dNil))) dNil)) (dCons (dC (.int 0)) dNil))))
    (dSeq (dFor (dItL (dBin false fAdd (dDisp false .nl (dCons (dVar 1) dNil)) (dLc false (dRng1 (dC (.int 6))) (tgN 7) dYes m_law_e1 [7]))) (tgN 3) m_law_b2)
    (dRet (dC (.bl true)))))))
end BelLaw

namespace BelLaw
open PySem PySem.Spec PyProof.Rows L2 Bel
def m__law_any_row_k13 : DS := (dRet (dDisp false .nt (dCons (dVar 5) (dCons (dVar 3) (dCons (dVar 6) (dCons (dFn g__law_pick 2 (dCons (dVar 0) (dCons (dDisp false .nl (dCons (dVar 7) (dCons (dVar 7) (dCons (dVar 7) (dCons (dC (.int 0)) (dCons (dC (.int 201)) dNil)))))) dNil))) dNil))))))
def m__law_any_row_k12 : DS := dSeq (dIfS (dT (dBin false fIs (dVar 7) (dC .non))) (dRet (dDisp false .nt (dCons (dVar 5) (dCons (dVar 3) (dCons (dVar 6) (dCons (dC (.int 100)) dNil)))))) dNext) m__law_any_row_k13
def m__law_any_row_k11 : DS := dSeq (dAsg 7 (dFn g__law_untold 2 (dCons (dVar 1) (dCons (dBin false fAdd (dVar 3) (dDisp false .nt (dCons (dVar 6) dNil))) dNil)))) m__law_any_row_k12
def m__law_any_row_k10 : DS := dSeq (dIfS (dT (dBin false fEq (dVar 5) (dC (.str [101, 110, 100, 115])))) (dRet (dDisp false .nt (dCons (dVar 5) (dCons (dVar 3) (dCons (dFn g__law_pick 2 (dCons (dVar 0) (dCons (dDisp false .nl (dCons (dC (.int 0)) (dCons (dC (.int 99)) (dCons (dC (.int 7)) (dCons (dC (.int 100)) (dCons (dC (.int 104)) (dCons (dC (.int 103)) (dCons (dC (.int 105)) dNil)))))))) dNil))) dNil))))) dNext) m__law_any_row_k11
def m__law_any_row_k9 : DS := dSeq (dIfS (dT (dBin false fEq (dVar 5) (dC (.str [103, 111, 101, 115])))) (dRet (dDisp false .nt (dCons (dVar 5) (dCons (dVar 3) dNil)))) dNext) m__law_any_row_k10
def m__law_any_row_k8 : DS := dSeq (dIfS (dT (dBin false fEq (dVar 5) (dC (.str [115, 116, 111, 112, 115])))) (dRet (dDisp false .nt (dCons (dVar 5) (dCons (dVar 3) (dCons (dBin false fAdd (dC (.int 1)) (dFn g__law_next 2 (dCons (dVar 0) (dCons (dC (.int 2)) dNil)))) dNil))))) dNext) m__law_any_row_k9
def m__law_any_row_k7 : DS := dSeq (dIfS (dT (dBin false fEq (dVar 5) (dC (.str [114, 117, 110, 103])))) (dRet (dDisp false .nt (dCons (dVar 5) (dCons (dVar 3) (dCons (dFn g__law_pick 2 (dCons (dVar 0) (dCons (dDisp false .nl (dCons (dC (.int 1)) (dCons (dC (.int 2)) (dCons (dC (.int 6)) (dCons (dC (.int 0)) (dCons (dC (.int 4)) (dCons (dC (.int 3)) (dCons (dC (.int 5)) (dCons (dC (.int 7)) dNil))))))))) dNil))) dNil))))) dNext) m__law_any_row_k8
def m__law_any_row_k6 : DS := dSeq (dIfS (dT (dBin false fEq (dVar 5) (dC (.str [115, 97, 121, 115])))) (dRet (dDisp false .nt (dCons (dVar 5) (dCons (dVar 3) (dCons (dFn g__law_next 2 (dCons (dVar 0) (dCons (dC (.int 1000)) dNil))) dNil))))) dNext) m__law_any_row_k7
def m__law_any_row_k5 : DS := dSeq (dIfS (dT (dBin false fEq (dVar 5) (dC (.str [115, 116, 97, 114, 116, 115])))) (dSeq (dAsg 8 (dCall false fLen (dCons (dLc false (dItL (dVar 1)) (tgN 10) m__law_any_row_t3 (dC (.int 1)) [10]) dNil)))
    (dSeq (dAsg 9 (dSl false (dBin false fAdd (dVar 3) (dDisp false .nt (dCons (dBin false fMod (dFn g__law_pick 2 (dCons (dVar 0) (dCons (dDisp false .nl (dCons (dVar 8) (dCons (dVar 8) (dCons (dVar 8) (dCons (dVar 6) dNil))))) dNil))) (dC (.int 30))) dNil))) (dPart (dNeg (dC (.int 4)))) dNoPart))
    (dRet (dDisp false .nt (dCons (dVar 5) (dCons (dVar 9) (dCons (dFn g__law_pick 2 (dCons (dVar 0) (dCons (dDisp false .nl (dCons (dVar 9) (dCons (dFn g__law_group 2 (dCons (dVar 1) (dCons (dVar 3) dNil))) (dCons (dFn g__law_group 2 (dCons (dVar 1) (dCons (dVar 3) dNil))) (dCons (dDisp false .nt dNil) dNil))))) dNil))) dNil))))))) dNext) m__law_any_row_k6
def m__law_any_row_k4 : DS := dSeq (dAsg 6 (dFn g__law_next 2 (dCons (dVar 0) (dCons (dC (.int 3)) dNil)))) m__law_any_row_k5
def m__law_any_row_k3 : DS := dSeq (dAsg 5 (dFn g__law_pick 2 (dCons (dVar 0) (dCons (dVar 4) dNil)))) m__law_any_row_k4
def m__law_any_row_k2 : DS := dSeq (dAsg 4 (dDisp false .nl (dCons (dC (.str [115, 116, 97, 114, 116, 115])) (dCons (dC (.str [115, 116, 97, 114, 116, 115])) (dCons (dC (.str [115, 97, 121, 115])) (dCons (dC (.str [114, 117, 110, 103])) (dCons (dC (.str [114, 117, 110, 103])) (dCons (dC (.str [114, 117, 110, 103])) (dCons (dC (.str [115, 116, 111, 112, 115])) (dCons (dC (.str [115, 116, 111, 112, 115])) (dCons (dC (.str [103, 111, 101, 115])) (dCons (dC (.str [101, 110, 100, 115])) (dCons (dC (.str [116, 111, 108, 100])) (dCons (dC (.str [116, 111, 108, 100])) dNil)))))))))))))) m__law_any_row_k3
def m__law_any_row_k1 : DS := dSeq (dAsg 3 (dFn g__law_pick 2 (dCons (dVar 0) (dCons (dBin false fAdd (dBin false fAdd (dVar 2) (dVar 2)) (dDisp false .nl (dCons (dDisp false .nt (dCons (dFn g__law_next 2 (dCons (dVar 0) (dCons (dC (.int 3)) dNil))) dNil)) dNil))) dNil)))) m__law_any_row_k2
def m__law_any_row_k0 : DS := dSeq (dAsg 2 (dBin false fAdd (dDisp false .nl (dCons (dDisp false .nt dNil) dNil)) (dSl false (dLc false (dItL (dVar 1)) (tgN 10) m__law_any_row_t2 m__law_any_row_e1 [10]) (dPart (dNeg (dC (.int 5)))) dNoPart))) m__law_any_row_k1
theorem m__law_any_row_st : ∃ (K0 K1 K2 K3 K4 K5 K6 K7 K8 K9 K10 K11 K12 K13 : DS), (∀ (us : List U) (S : Store), m__law_any_row us S = fnR S.length (K0 (us.map some ++ List.replicate (11 - us.length) none) S)) ∧ (∀ (e : Env') (S : Store), K0 e S = ((dAsg 2 (dBin false fAdd (dDisp false .nl (dCons (dDisp false .nt dNil) dNil)) (dSl false (dLc false (dItL (dVar 1)) (tgN 10) m__law_any_row_t2 m__law_any_row_e1 [10]) (dPart (dNeg (dC (.int 5)))) dNoPart))) e S).bind K1) ∧ (∀ (e : Env') (S : Store), K1 e S = ((dAsg 3 (dFn g__law_pick 2 (dCons (dVar 0) (dCons (dBin false fAdd (dBin false fAdd (dVar 2) (dVar 2)) (dDisp false .nl (dCons (dDisp false .nt (dCons (dFn g__law_next 2 (dCons (dVar 0) (dCons (dC (.int 3)) dNil))) dNil)) dNil))) dNil)))) e S).bind K2) ∧ (∀ (e : Env') (S : Store), K2 e S = ((dAsg 4 (dDisp false .nl (dCons (dC (.str [115, 116, 97, 114, 116, 115])) (dCons (dC (.str [115, 116, 97, 114, 116, 115])) (dCons (dC (.str [115, 97, 121, 115])) (dCons (dC (.str [114, 117, 110, 103])) (dCons (dC (.str [114, 117, 110, 103])) (dCons (dC (.str [114, 117, 110, 103])) (dCons (dC (.str [115, 116, 111, 112, 115])) (dCons (dC (.str [115, 116, 111, 112, 115])) (dCons (dC (.str [103, 111, 101, 115])) (dCons (dC (.str [101, 110, 100, 115])) (dCons (dC (.str [116, 111, 108, 100])) (dCons (dC (.str [116, 111, 108, 100])) dNil)))))))))))))) e S).bind K3) ∧ (∀ (e : Env') (S : Store), K3 e S = ((dAsg 5 (dFn g__law_pick 2 (dCons (dVar 0) (dCons (dVar 4) dNil)))) e S).bind K4) ∧ (∀ (e : Env') (S : Store), K4 e S = ((dAsg 6 (dFn g__law_next 2 (dCons (dVar 0) (dCons (dC (.int 3)) dNil)))) e S).bind K5) ∧ (∀ (e : Env') (S : Store), K5 e S = ((dIfS (dT (dBin false fEq (dVar 5) (dC (.str [115, 116, 97, 114, 116, 115])))) (dSeq (dAsg 8 (dCall false fLen (dCons (dLc false (dItL (dVar 1)) (tgN 10) m__law_any_row_t3 (dC (.int 1)) [10]) dNil)))
    (dSeq (dAsg 9 (dSl false (dBin false fAdd (dVar 3) (dDisp false .nt (dCons (dBin false fMod (dFn g__law_pick 2 (dCons (dVar 0) (dCons (dDisp false .nl (dCons (dVar 8) (dCons (dVar 8) (dCons (dVar 8) (dCons (dVar 6) dNil))))) dNil))) (dC (.int 30))) dNil))) (dPart (dNeg (dC (.int 4)))) dNoPart))
    (dRet (dDisp false .nt (dCons (dVar 5) (dCons (dVar 9) (dCons (dFn g__law_pick 2 (dCons (dVar 0) (dCons (dDisp false .nl (dCons (dVar 9) (dCons (dFn g__law_group 2 (dCons (dVar 1) (dCons (dVar 3) dNil))) (dCons (dFn g__law_group 2 (dCons (dVar 1) (dCons (dVar 3) dNil))) (dCons (dDisp false .nt dNil) dNil))))) dNil))) dNil))))))) dNext) e S).bind K6) ∧ (∀ (e : Env') (S : Store), K6 e S = ((dIfS (dT (dBin false fEq (dVar 5) (dC (.str [115, 97, 121, 115])))) (dRet (dDisp false .nt (dCons (dVar 5) (dCons (dVar 3) (dCons (dFn g__law_next 2 (dCons (dVar 0) (dCons (dC (.int 1000)) dNil))) dNil))))) dNext) e S).bind K7) ∧ (∀ (e : Env') (S : Store), K7 e S = ((dIfS (dT (dBin false fEq (dVar 5) (dC (.str [114, 117, 110, 103])))) (dRet (dDisp false .nt (dCons (dVar 5) (dCons (dVar 3) (dCons (dFn g__law_pick 2 (dCons (dVar 0) (dCons (dDisp false .nl (dCons (dC (.int 1)) (dCons (dC (.int 2)) (dCons (dC (.int 6)) (dCons (dC (.int 0)) (dCons (dC (.int 4)) (dCons (dC (.int 3)) (dCons (dC (.int 5)) (dCons (dC (.int 7)) dNil))))))))) dNil))) dNil))))) dNext) e S).bind K8) ∧ (∀ (e : Env') (S : Store), K8 e S = ((dIfS (dT (dBin false fEq (dVar 5) (dC (.str [115, 116, 111, 112, 115])))) (dRet (dDisp false .nt (dCons (dVar 5) (dCons (dVar 3) (dCons (dBin false fAdd (dC (.int 1)) (dFn g__law_next 2 (dCons (dVar 0) (dCons (dC (.int 2)) dNil)))) dNil))))) dNext) e S).bind K9) ∧ (∀ (e : Env') (S : Store), K9 e S = ((dIfS (dT (dBin false fEq (dVar 5) (dC (.str [103, 111, 101, 115])))) (dRet (dDisp false .nt (dCons (dVar 5) (dCons (dVar 3) dNil)))) dNext) e S).bind K10) ∧ (∀ (e : Env') (S : Store), K10 e S = ((dIfS (dT (dBin false fEq (dVar 5) (dC (.str [101, 110, 100, 115])))) (dRet (dDisp false .nt (dCons (dVar 5) (dCons (dVar 3) (dCons (dFn g__law_pick 2 (dCons (dVar 0) (dCons (dDisp false .nl (dCons (dC (.int 0)) (dCons (dC (.int 99)) (dCons (dC (.int 7)) (dCons (dC (.int 100)) (dCons (dC (.int 104)) (dCons (dC (.int 103)) (dCons (dC (.int 105)) dNil)))))))) dNil))) dNil))))) dNext) e S).bind K11) ∧ (∀ (e : Env') (S : Store), K11 e S = ((dAsg 7 (dFn g__law_untold 2 (dCons (dVar 1) (dCons (dBin false fAdd (dVar 3) (dDisp false .nt (dCons (dVar 6) dNil))) dNil)))) e S).bind K12) ∧ (∀ (e : Env') (S : Store), K12 e S = ((dIfS (dT (dBin false fIs (dVar 7) (dC .non))) (dRet (dDisp false .nt (dCons (dVar 5) (dCons (dVar 3) (dCons (dVar 6) (dCons (dC (.int 100)) dNil)))))) dNext) e S).bind K13) ∧ (∀ (e : Env') (S : Store), K13 e S = (dRet (dDisp false .nt (dCons (dVar 5) (dCons (dVar 3) (dCons (dVar 6) (dCons (dFn g__law_pick 2 (dCons (dVar 0) (dCons (dDisp false .nl (dCons (dVar 7) (dCons (dVar 7) (dCons (dVar 7) (dCons (dC (.int 0)) (dCons (dC (.int 201)) dNil)))))) dNil))) dNil)))))) e S) := by
  refine ⟨m__law_any_row_k0, m__law_any_row_k1, m__law_any_row_k2, m__law_any_row_k3, m__law_any_row_k4, m__law_any_row_k5, m__law_any_row_k6, m__law_any_row_k7, m__law_any_row_k8, m__law_any_row_k9, m__law_any_row_k10, m__law_any_row_k11, m__law_any_row_k12, m__law_any_row_k13, ?_⟩
  exact ⟨fun _ _ => rfl, fun _ _ => rfl, fun _ _ => rfl, fun _ _ => rfl, fun _ _ => rfl, fun _ _ => rfl, fun _ _ => rfl, fun _ _ => rfl, fun _ _ => rfl, fun _ _ => rfl, fun _ _ => rfl, fun _ _ => rfl, fun _ _ => rfl, fun _ _ => rfl, fun _ _ => rfl⟩
def m__law_made_b1_k4 : DS := (dIfS (dT (dFnQ g__law_may 2 (dCons (dVar 1) (dCons (dVar 5) dNil)))) (dDrop (dMut fAppend (dVar 1) (dCons (dVar 5) dNil))) dNext)
def m__law_made_b1_k3 : DS := dSeq (dAsg 5 (dIf (dT (dBin false fIs (dVar 4) (dC .non))) (dFnV m__law_any_row 2 (dCons (dVar 3) (dCons (dVar 1) dNil))) (dVar 4))) m__law_made_b1_k4
def m__law_made_b1_k2 : DS := dSeq (dAsg 4 (dFnQ g__law_wanted 1 (dCons (dVar 1) dNil))) m__law_made_b1_k3
def m__law_made_b1_k1 : DS := dSeq (dIfS (dT (dBin false fEq (dBin false fMod (dVar 2) (dC (.int 2))) (dC (.int 1)))) (dAsg 3 (dDisp true .nl (dCons (dBin false fDivW (dBin false fIx (dVar 3) (dC (.int 0))) (dBin false fPow (dC (.int 10)) (dC (.int 12)))) dNil))) dNext) m__law_made_b1_k2
def m__law_made_b1_k0 : DS := dSeq (dAsg 3 (dFn g__law_state 2 (dCons (dVar 0) (dCons (dBin false fDiv (dVar 2) (dC (.int 2))) dNil)))) m__law_made_b1_k1
theorem m__law_made_b1_st : ∃ (K0 K1 K2 K3 K4 : DS), (∀ (e : Env') (S : Store), m__law_made_b1 e S = K0 e S) ∧ (∀ (e : Env') (S : Store), K0 e S = ((dAsg 3 (dFn g__law_state 2 (dCons (dVar 0) (dCons (dBin false fDiv (dVar 2) (dC (.int 2))) dNil)))) e S).bind K1) ∧ (∀ (e : Env') (S : Store), K1 e S = ((dIfS (dT (dBin false fEq (dBin false fMod (dVar 2) (dC (.int 2))) (dC (.int 1)))) (dAsg 3 (dDisp true .nl (dCons (dBin false fDivW (dBin false fIx (dVar 3) (dC (.int 0))) (dBin false fPow (dC (.int 10)) (dC (.int 12)))) dNil))) dNext) e S).bind K2) ∧ (∀ (e : Env') (S : Store), K2 e S = ((dAsg 4 (dFnQ g__law_wanted 1 (dCons (dVar 1) dNil))) e S).bind K3) ∧ (∀ (e : Env') (S : Store), K3 e S = ((dAsg 5 (dIf (dT (dBin false fIs (dVar 4) (dC .non))) (dFnV m__law_any_row 2 (dCons (dVar 3) (dCons (dVar 1) dNil))) (dVar 4))) e S).bind K4) ∧ (∀ (e : Env') (S : Store), K4 e S = (dIfS (dT (dFnQ g__law_may 2 (dCons (dVar 1) (dCons (dVar 5) dNil)))) (dDrop (dMut fAppend (dVar 1) (dCons (dVar 5) dNil))) dNext) e S) := by
  refine ⟨m__law_made_b1_k0, m__law_made_b1_k1, m__law_made_b1_k2, m__law_made_b1_k3, m__law_made_b1_k4, ?_⟩
  exact ⟨fun _ _ => rfl, fun _ _ => rfl, fun _ _ => rfl, fun _ _ => rfl, fun _ _ => rfl, fun _ _ => rfl⟩
def m__law_made_k2 : DS := (dRet (dVar 1))
def m__law_made_k1 : DS := dSeq (dFor (dRng1 (dCall false fMin2 (dCons (dC (.int 60)) (dCons (dBin false fAdd (dC (.int 6)) (dBin false fMul (dC (.int 2)) (dCall false fLen (dCons (dVar 0) dNil)))) dNil)))) (tgN 2) m__law_made_b1) m__law_made_k2
def m__law_made_k0 : DS := dSeq (dAsg 1 (dDisp true .nl dNil)) m__law_made_k1
theorem m__law_made_st : ∃ (K0 K1 K2 : DS), (∀ (us : List U) (S : Store), m__law_made us S = fnR S.length (K0 (us.map some ++ List.replicate (6 - us.length) none) S)) ∧ (∀ (e : Env') (S : Store), K0 e S = ((dAsg 1 (dDisp true .nl dNil)) e S).bind K1) ∧ (∀ (e : Env') (S : Store), K1 e S = ((dFor (dRng1 (dCall false fMin2 (dCons (dC (.int 60)) (dCons (dBin false fAdd (dC (.int 6)) (dBin false fMul (dC (.int 2)) (dCall false fLen (dCons (dVar 0) dNil)))) dNil)))) (tgN 2) m__law_made_b1) e S).bind K2) ∧ (∀ (e : Env') (S : Store), K2 e S = (dRet (dVar 1)) e S) := by
  refine ⟨m__law_made_k0, m__law_made_k1, m__law_made_k2, ?_⟩
  exact ⟨fun _ _ => rfl, fun _ _ => rfl, fun _ _ => rfl, fun _ _ => rfl⟩
def m__law_due_k1 : DS := (dRet (dIf (dT (dBin false fIs (dFn g__law_wanted 1 (dCons (dVar 0) dNil)) (dC .non))) (dC .non) (dCall false fLen (dCons (dVar 0) dNil))))
def m__law_due_k0 : DS := dSeq (dFor (dRng1 (dCall false fLen (dCons (dVar 0) dNil))) (tgN 1) m__law_due_b1) m__law_due_k1
theorem m__law_due_st : ∃ (K0 K1 : DS), (∀ (us : List U) (S : Store), m__law_due us S = fnR S.length (K0 (us.map some ++ List.replicate (2 - us.length) none) S)) ∧ (∀ (e : Env') (S : Store), K0 e S = ((dFor (dRng1 (dCall false fLen (dCons (dVar 0) dNil))) (tgN 1) m__law_due_b1) e S).bind K1) ∧ (∀ (e : Env') (S : Store), K1 e S = (dRet (dIf (dT (dBin false fIs (dFn g__law_wanted 1 (dCons (dVar 0) dNil)) (dC .non))) (dC .non) (dCall false fLen (dCons (dVar 0) dNil)))) e S) := by
  refine ⟨m__law_due_k0, m__law_due_k1, ?_⟩
  exact ⟨fun _ _ => rfl, fun _ _ => rfl, fun _ _ => rfl⟩
def m__law_spoilt_k8 : DS := (dRet (dBin false fAdd (dBin false fAdd (dSl false (dVar 1) dNoPart (dPart (dVar 2))) (dDisp false .nl (dCons (dBin false fIx (dVar 1) (dCall false fMin2 (dCons (dVar 2) (dCons (dBin false fSub (dCall false fLen (dCons (dVar 1) dNil)) (dC (.int 1))) dNil)))) dNil))) (dSl false (dVar 1) (dPart (dVar 2)) dNoPart)))
def m__law_spoilt_k7 : DS := dSeq (dIfS (dOr (dT (dBin false fEq (dVar 4) (dC (.int 4)))) (dT (dBin false fEq (dVar 1) (dDisp false .nl dNil)))) (dRet (dBin false fAdd (dBin false fAdd (dSl false (dVar 1) dNoPart (dPart (dVar 2))) (dDisp false .nl (dCons (dVar 3) dNil))) (dSl false (dVar 1) (dPart (dVar 2)) dNoPart))) dNext) m__law_spoilt_k8
def m__law_spoilt_k6 : DS := dSeq (dIfS (dT (dBin false fEq (dVar 4) (dC (.int 3)))) (dRet (dBin false fAdd (dBin false fAdd (dSl false (dVar 1) dNoPart (dPart (dVar 2))) (dDisp false .nl (dCons (dVar 3) dNil))) (dSl false (dVar 1) (dPart (dBin false fAdd (dVar 2) (dC (.int 1)))) dNoPart))) dNext) m__law_spoilt_k7
def m__law_spoilt_k5 : DS := dSeq (dIfS (dT (dBin false fEq (dVar 4) (dC (.int 2)))) (dRet (dBin false fAdd (dBin false fAdd (dSl false (dVar 1) dNoPart (dPart (dVar 2))) (dStep false (dSl false (dVar 1) (dPart (dVar 2)) (dPart (dBin false fAdd (dVar 2) (dC (.int 2))))) (dNeg (dC (.int 1))))) (dSl false (dVar 1) (dPart (dBin false fAdd (dVar 2) (dC (.int 2)))) dNoPart))) dNext) m__law_spoilt_k6
def m__law_spoilt_k4 : DS := dSeq (dIfS (dT (dBin false fEq (dVar 4) (dC (.int 1)))) (dRet (dBin false fAdd (dSl false (dVar 1) dNoPart (dPart (dVar 2))) (dSl false (dVar 1) (dPart (dBin false fAdd (dVar 2) (dC (.int 1)))) dNoPart))) dNext) m__law_spoilt_k5
def m__law_spoilt_k3 : DS := dSeq (dIfS (dT (dBin false fEq (dVar 4) (dC (.int 0)))) (dRet (dSl false (dVar 1) dNoPart (dPart (dVar 2)))) dNext) m__law_spoilt_k4
def m__law_spoilt_k2 : DS := dSeq (dAsg 4 (dFn g__law_next 2 (dCons (dVar 0) (dCons (dC (.int 6)) dNil)))) m__law_spoilt_k3
def m__law_spoilt_k1 : DS := dSeq (dAsg 3 (dFn m__law_any_row 2 (dCons (dVar 0) (dCons (dVar 1) dNil)))) m__law_spoilt_k2
def m__law_spoilt_k0 : DS := dSeq (dAsg 2 (dFn g__law_next 2 (dCons (dVar 0) (dCons (dBin false fAdd (dCall false fLen (dCons (dVar 1) dNil)) (dC (.int 1))) dNil)))) m__law_spoilt_k1
theorem m__law_spoilt_st : ∃ (K0 K1 K2 K3 K4 K5 K6 K7 K8 : DS), (∀ (us : List U) (S : Store), m__law_spoilt us S = fnR S.length (K0 (us.map some ++ List.replicate (5 - us.length) none) S)) ∧ (∀ (e : Env') (S : Store), K0 e S = ((dAsg 2 (dFn g__law_next 2 (dCons (dVar 0) (dCons (dBin false fAdd (dCall false fLen (dCons (dVar 1) dNil)) (dC (.int 1))) dNil)))) e S).bind K1) ∧ (∀ (e : Env') (S : Store), K1 e S = ((dAsg 3 (dFn m__law_any_row 2 (dCons (dVar 0) (dCons (dVar 1) dNil)))) e S).bind K2) ∧ (∀ (e : Env') (S : Store), K2 e S = ((dAsg 4 (dFn g__law_next 2 (dCons (dVar 0) (dCons (dC (.int 6)) dNil)))) e S).bind K3) ∧ (∀ (e : Env') (S : Store), K3 e S = ((dIfS (dT (dBin false fEq (dVar 4) (dC (.int 0)))) (dRet (dSl false (dVar 1) dNoPart (dPart (dVar 2)))) dNext) e S).bind K4) ∧ (∀ (e : Env') (S : Store), K4 e S = ((dIfS (dT (dBin false fEq (dVar 4) (dC (.int 1)))) (dRet (dBin false fAdd (dSl false (dVar 1) dNoPart (dPart (dVar 2))) (dSl false (dVar 1) (dPart (dBin false fAdd (dVar 2) (dC (.int 1)))) dNoPart))) dNext) e S).bind K5) ∧ (∀ (e : Env') (S : Store), K5 e S = ((dIfS (dT (dBin false fEq (dVar 4) (dC (.int 2)))) (dRet (dBin false fAdd (dBin false fAdd (dSl false (dVar 1) dNoPart (dPart (dVar 2))) (dStep false (dSl false (dVar 1) (dPart (dVar 2)) (dPart (dBin false fAdd (dVar 2) (dC (.int 2))))) (dNeg (dC (.int 1))))) (dSl false (dVar 1) (dPart (dBin false fAdd (dVar 2) (dC (.int 2)))) dNoPart))) dNext) e S).bind K6) ∧ (∀ (e : Env') (S : Store), K6 e S = ((dIfS (dT (dBin false fEq (dVar 4) (dC (.int 3)))) (dRet (dBin false fAdd (dBin false fAdd (dSl false (dVar 1) dNoPart (dPart (dVar 2))) (dDisp false .nl (dCons (dVar 3) dNil))) (dSl false (dVar 1) (dPart (dBin false fAdd (dVar 2) (dC (.int 1)))) dNoPart))) dNext) e S).bind K7) ∧ (∀ (e : Env') (S : Store), K7 e S = ((dIfS (dOr (dT (dBin false fEq (dVar 4) (dC (.int 4)))) (dT (dBin false fEq (dVar 1) (dDisp false .nl dNil)))) (dRet (dBin false fAdd (dBin false fAdd (dSl false (dVar 1) dNoPart (dPart (dVar 2))) (dDisp false .nl (dCons (dVar 3) dNil))) (dSl false (dVar 1) (dPart (dVar 2)) dNoPart))) dNext) e S).bind K8) ∧ (∀ (e : Env') (S : Store), K8 e S = (dRet (dBin false fAdd (dBin false fAdd (dSl false (dVar 1) dNoPart (dPart (dVar 2))) (dDisp false .nl (dCons (dBin false fIx (dVar 1) (dCall false fMin2 (dCons (dVar 2) (dCons (dBin false fSub (dCall false fLen (dCons (dVar 1) dNil)) (dC (.int 1))) dNil)))) dNil))) (dSl false (dVar 1) (dPart (dVar 2)) dNoPart))) e S) := by
  refine ⟨m__law_spoilt_k0, m__law_spoilt_k1, m__law_spoilt_k2, m__law_spoilt_k3, m__law_spoilt_k4, m__law_spoilt_k5, m__law_spoilt_k6, m__law_spoilt_k7, m__law_spoilt_k8, ?_⟩
  exact ⟨fun _ _ => rfl, fun _ _ => rfl, fun _ _ => rfl, fun _ _ => rfl, fun _ _ => rfl, fun _ _ => rfl, fun _ _ => rfl, fun _ _ => rfl, fun _ _ => rfl, fun _ _ => rfl⟩
def m_law_b2_k4 : DS := (dIfS (dT (dBin false fNe (dFnP g_judged 1 (dCons (dCall false fTuple (dCons (dVar 3) dNil)) dNil)) (dVar 4))) (dRet (dC (.bl false))) dNext)
def m_law_b2_k3 : DS := dSeq (dIfS (dOr (dT (dIsT isBl (dVar 6))) (dOr (dT (dBin false fNe (dVar 6) (dVar 4))) (dT (dBin false fNe (dVar 5) (dVar 3))))) (dRet (dC (.bl false))) dNext) m_law_b2_k4
def m_law_b2_k2 : DS := dSeq (dAsg 6 (dFnP g_judged 1 (dCons (dVar 5) dNil))) m_law_b2_k3
def m_law_b2_k1 : DS := dSeq (dAsg 5 (dCall false fList (dCons (dVar 3) dNil))) m_law_b2_k2
def m_law_b2_k0 : DS := dSeq (dAsg 4 (dFn m__law_due 1 (dCons (dVar 3) dNil))) m_law_b2_k1
theorem m_law_b2_st : ∃ (K0 K1 K2 K3 K4 : DS), (∀ (e : Env') (S : Store), m_law_b2 e S = K0 e S) ∧ (∀ (e : Env') (S : Store), K0 e S = ((dAsg 4 (dFn m__law_due 1 (dCons (dVar 3) dNil))) e S).bind K1) ∧ (∀ (e : Env') (S : Store), K1 e S = ((dAsg 5 (dCall false fList (dCons (dVar 3) dNil))) e S).bind K2) ∧ (∀ (e : Env') (S : Store), K2 e S = ((dAsg 6 (dFnP g_judged 1 (dCons (dVar 5) dNil))) e S).bind K3) ∧ (∀ (e : Env') (S : Store), K3 e S = ((dIfS (dOr (dT (dIsT isBl (dVar 6))) (dOr (dT (dBin false fNe (dVar 6) (dVar 4))) (dT (dBin false fNe (dVar 5) (dVar 3))))) (dRet (dC (.bl false))) dNext) e S).bind K4) ∧ (∀ (e : Env') (S : Store), K4 e S = (dIfS (dT (dBin false fNe (dFnP g_judged 1 (dCons (dCall false fTuple (dCons (dVar 3) dNil)) dNil)) (dVar 4))) (dRet (dC (.bl false))) dNext) e S) := by
  refine ⟨m_law_b2_k0, m_law_b2_k1, m_law_b2_k2, m_law_b2_k3, m_law_b2_k4, ?_⟩
  exact ⟨fun _ _ => rfl, fun _ _ => rfl, fun _ _ => rfl, fun _ _ => rfl, fun _ _ => rfl, fun _ _ => rfl⟩
def m_law_k4 : DS := (dRet (dC (.bl true)))
def m_law_k3 : DS := dSeq (dFor (dItL (dBin false fAdd (dDisp false .nl (dCons (dVar 1) dNil)) (dLc false (dRng1 (dC (.int 6))) (tgN 7) dYes m_law_e1 [7]))) (tgN 3) m_law_b2) m_law_k4
def m_law_k2 : DS := dSeq (dAsg 2 (dFn g__law_state 2 (dCons (dDisp false .nl (dCons (dBin false fAdd (dBin false fMul (dBin false fMod (dCall false fAbs (dCons (dCall false fSum (dCons (dVar 0) dNil)) dNil)) (dBin false fPow (dC (.int 10)) (dC (.int 16)))) (dC (.int 31))) (dCall false fLen (dCons (dVar 0) dNil))) dNil)) (dCons (dC (.int 0)) dNil)))) m_law_k3
def m_law_k1 : DS := dSeq (dFrzV 1) m_law_k2
def m_law_k0 : DS := dSeq (dAsg 1 (dFn m__law_made 1 (dCons (dVar 0) dNil))) m_law_k1
theorem m_law_st : ∃ (K0 K1 K2 K3 K4 : DS), (∀ (us : List U) (S : Store), m_law us S = fnR S.length (K0 (us.map some ++ List.replicate (8 - us.length) none) S)) ∧ (∀ (e : Env') (S : Store), K0 e S = ((dAsg 1 (dFn m__law_made 1 (dCons (dVar 0) dNil))) e S).bind K1) ∧ (∀ (e : Env') (S : Store), K1 e S = ((dFrzV 1) e S).bind K2) ∧ (∀ (e : Env') (S : Store), K2 e S = ((dAsg 2 (dFn g__law_state 2 (dCons (dDisp false .nl (dCons (dBin false fAdd (dBin false fMul (dBin false fMod (dCall false fAbs (dCons (dCall false fSum (dCons (dVar 0) dNil)) dNil)) (dBin false fPow (dC (.int 10)) (dC (.int 16)))) (dC (.int 31))) (dCall false fLen (dCons (dVar 0) dNil))) dNil)) (dCons (dC (.int 0)) dNil)))) e S).bind K3) ∧ (∀ (e : Env') (S : Store), K3 e S = ((dFor (dItL (dBin false fAdd (dDisp false .nl (dCons (dVar 1) dNil)) (dLc false (dRng1 (dC (.int 6))) (tgN 7) dYes m_law_e1 [7]))) (tgN 3) m_law_b2) e S).bind K4) ∧ (∀ (e : Env') (S : Store), K4 e S = (dRet (dC (.bl true))) e S) := by
  refine ⟨m_law_k0, m_law_k1, m_law_k2, m_law_k3, m_law_k4, ?_⟩
  exact ⟨fun _ _ => rfl, fun _ _ => rfl, fun _ _ => rfl, fun _ _ => rfl, fun _ _ => rfl, fun _ _ => rfl⟩
end BelLaw

namespace Bel
open PySem PySem.Spec PyProof.Rows L2 TL
/-- a word of small letters -/
def wd (x : List Nat) : Prop := x.length ≤ 10 ∧ x ≠ [] ∧ ∀ c ∈ x, c ∈ abc
instance (x : List Nat) : Decidable (wd x) := by unfold wd; infer_instance
def Trm.cl : Nat → Trm → Prop
  | 0, _ => False
  | _ + 1, .num n => n ≤ 9999
  | _ + 1, .box x => wd x
  | d + 1, .bin s a b => s ∈ signw ∧ a.cl d ∧ b.cl d
section
variable {S : Store}
end
end Bel

namespace Bel
open PySem PySem.Spec PyProof.Rows L2 TL
def Prt.Cl : Prt → Prop
  | .term t => t.cl 8
  | .word x => wd x
  | .num n => n ≤ 999
  | .to1 x => wd x
  | .to2 x t => wd x ∧ t.cl 8
section
variable {S : Store}
end
end Bel

namespace Bel
open PySem PySem.Spec PyProof.Rows L2 TL
section
variable {S : Store}
end
def scr : List Nat := [115, 99, 114, 105, 112, 116, 32]
structure Bk.Cl (b : Bk) : Prop where
  len : b.length ≤ 10
  nd : b.names.Nodup
  nmw : ∀ p ∈ b, wd p.1
  many : ∀ p ∈ b, p.2.length ≤ 33
  fit : ∀ p ∈ b, ∀ d ∈ p.2, d.Fit
  cl : ∀ p ∈ b, ∀ d ∈ p.2, ∀ q ∈ d.ps, q.Cl
section
variable {S : Store}
end
end Bel

namespace Bel
open PySem PySem.Spec PyProof.Rows L2 TL
section
variable {S : Store}
end
end Bel

namespace Bel
open PySem PySem.Spec PyProof.Rows L2 TL
section
variable {S : Store}
end
end Bel

namespace Bel
open PySem PySem.Spec PyProof.Rows L2 TL
def okW : Knd → Prt → Prop
  | .to, .to1 x => x ∈ [tUp, tOwn]
  | .to, .to2 x _ => x ∈ [tChild, tJob]
  | .whose, .to1 x => x ∈ [tOwn]
  | .whose, .to2 x _ => x ∈ [tJob]
  | .what, .word x => x ∈ [tFall, tPlain]
  | k, p => fits k p = true
section
variable {S : Store}
end
end Bel

namespace Bel
open PySem PySem.Spec PyProof.Rows L2 TL
section
variable {S : Store}
end
end Bel

namespace Bel
open PySem PySem.Spec PyProof.Rows L2 TL
section
variable {S : Store}
structure Dd.Rd (d : Dd) : Prop where
  fit : d.Fit
  cl : ∀ p ∈ d.ps, p.Cl
  okw : ∀ q ∈ d.ks.zip d.ps, okW q.1 q.2
end
end Bel

namespace Bel
open PySem PySem.Spec PyProof.Rows L2 TL
section
variable {S : Store}
end
end Bel

namespace Bel
open PySem PySem.Spec PyProof.Rows L2 TL
structure Bk.Rd (b : Bk) : Prop where
  cl : b.Cl
  rd : ∀ p ∈ b, ∀ d ∈ p.2, d.Rd
  ne : b ≠ []
section
variable {S : Store}
end
end Bel

namespace Bel
open PySem PySem.Spec PyProof.Rows L2 TL
structure Nice (n d : Nat) (w : W) : Prop where
  sh : shp d w = true
  sw : (toD w).showable = true
  len : (shownL w).length ≤ n
  cp : ∀ c ∈ shownL w, okCp c = true
theorem shp_mono {d e : Nat} {w : W} (h1 : d ≤ e) (h2 : shp d w = true) : shp e w = true := by
  have key : ∀ (d : Nat) (w : W) (e : Nat), d ≤ e → shp d w = true → shp e w = true := by
    intro d
    induction d with
    | zero => intro w e _ h; cases w <;> cases e <;> simp_all [shp]
    | succ d ih =>
      intro w e he h
      cases e with
      | zero => omega
      | succ e =>
        have all : ∀ l : List W, shps d l = true → shps e l = true := by
          intro l
          induction l with
          | nil => intro _; simp [shps]
          | cons a r il =>
            intro h
            simp only [shps, Bool.and_eq_true] at h ⊢
            exact ⟨ih a e (by omega) h.1, il h.2⟩
        cases w <;> simp_all [shp]
  exact key _ _ _ h1 h2
theorem Nice.mono {n d m e : Nat} {w : W} (h : Nice n d w) (h1 : n ≤ m) (h2 : d ≤ e) : Nice m e w := ⟨shp_mono h2 h.sh, h.sw, Nat.le_trans h.len h1, h.cp⟩
end Bel

namespace Bel
open PySem PySem.Spec PyProof.Rows L2 TL
section
variable {S : Store} {k : Nat}
end
def Kp (S T : Store) : Prop := S.length ≤ T.length ∧ ∀ i, i < S.length → T[i]? = S[i]?
theorem Kp.take {S T : Store} (h : Kp S T) : T.take S.length = S := by
  apply List.ext_getElem?
  intro i
  by_cases q : i < S.length
  · rw [List.getElem?_take_of_lt q, h.2 i q]
  · rw [List.getElem?_eq_none (by rw [List.length_take]; omega), List.getElem?_eq_none (by omega)]
theorem Kp.refl (S : Store) : Kp S S := ⟨Nat.le_refl _, fun _ _ => rfl⟩
theorem Kp.trans {S T U : Store} (a : Kp S T) (b : Kp T U) : Kp S U := ⟨Nat.le_trans a.1 b.1, fun i h => (b.2 i (Nat.lt_of_lt_of_le h a.1)).trans (a.2 i h)⟩
theorem Kp.app (S : Store) (l : Store) : Kp S (S ++ l) := ⟨by simp, fun i h => by rw [List.getElem?_append_left h]⟩
theorem Kp.set {S T : Store} (a : Kp S T) {q : Nat} {o : Ob} (h : S.length ≤ q) : Kp S (T.set q o) := ⟨by simpa using a.1, fun i hi => by rw [List.getElem?_set_ne (by omega)]; exact a.2 i hi⟩
section
variable {T : Store} {k : Nat} {n m : Int}
theorem nextK_at (h : T[k]? = some (stt n)) (h0 : 0 < m) (h1 : m < 1073741824) : g__law_next [.o k, .v (.int m)] T = .ok (.v (.int (n % m))) (T.set k (stt (n / m))) := by
  have := next_w (S := T) (n := n) (lt_of_st h) h0 h1
  rwa [set_same h] at this
end
def put (b : Bk) (x : List Nat) (ds : List Dd) : Bk := if x ∈ b.names then b.map fun p => if p.1 = x then (p.1, ds) else p else b ++ [(x, ds)]
end Bel

namespace Bel
open PySem PySem.Spec PyProof.Rows L2
theorem jloop' {t : W → Env' → Option Env'} {body : DS} (I : Nat → Env' → Store → Prop) : ∀ (ws : List W) (a : Nat), (∀ j w, ws[j]? = some w → ∀ e S, I (a + j) e S → ∃ e1 e' S', t w e = some e1 ∧ body e1 S = .ok (.nx e') S' ∧ I (a + j + 1) e' S') → ∀ e S, I a e S → ∃ e' S', dLoop t body ws e S = .ok (.nx e') S' ∧ I (a + ws.length) e' S'
  | [], a, _, e, S, h => ⟨e, S, rfl, h⟩
  | w :: ws, a, k, e, S, h => by
    obtain ⟨e1, e2, S1, h1, h2, h3⟩ := k 0 w rfl e S h
    obtain ⟨e3, S3, h4, h5⟩ := jloop' I ws (a + 1) (fun j v hj e S hi => by
      have := k (j + 1) v (by simpa using hj) e S (by rw [show a + (j + 1) = a + 1 + j by omega]; exact hi)
      rw [show a + (j + 1) + 1 = a + 1 + j + 1 by omega] at this
      exact this) e2 S1 h3
    refine ⟨e3, S3, ?_, by rw [List.length_cons, show a + (ws.length + 1) = a + 1 + ws.length by omega]; exact h5⟩
    rw [dLoop_cons, h1]
    simp [h2, h4]
/-- a loop, with what is so ahead of each turn -/
theorem jloop {t : W → Env' → Option Env'} {body : DS} (I : Nat → Env' → Store → Prop) (ws : List W) (k : ∀ j w, ws[j]? = some w → ∀ e S, I j e S → ∃ e1 e' S', t w e = some e1 ∧ body e1 S = .ok (.nx e') S' ∧ I (j + 1) e' S') (e : Env') (S : Store) (h : I 0 e S) : ∃ e' S', dLoop t body ws e S = .ok (.nx e') S' ∧ I ws.length e' S' := by
  have := jloop' (t := t) (body := body) I ws 0 (fun j w hw e S hi => by
    have := k j w hw e S (by rwa [Nat.zero_add] at hi)
    rwa [Nat.zero_add]) e S h
  rwa [Nat.zero_add] at this
theorem st_at {T : Store} {k : Nat} {o : Ob} (h : T[k]? = some o) (o' : Ob) : (T.set k o')[k]? = some o' := by
  rw [List.getElem?_set_self (lt_of_st h)]
theorem st_off {T : Store} {k j : Nat} {o' : Ob} (h : k ≠ j) : (T.set k o')[j]? = T[j]? := List.getElem?_set_ne h
theorem st_app {S : Store} {o : Ob} : (S ++ [o])[S.length]? = some o := by simp
theorem st_old {S R : Store} {k : Nat} {o : Ob} (h : S[k]? = some o) : (S ++ R)[k]? = some o := by
  rw [List.getElem?_append_left (lt_of_st h)]; exact h
theorem pickG {T : Store} {k : Nat} {n : Int} (h : T[k]? = some (stt n)) {l : List W} (h0 : l ≠ []) (h1 : l.length < 1073741824) : ∃ w n', w ∈ l ∧ g__law_pick [.o k, .v (.lst l)] T = .ok (.v w) (T.set k (stt n')) := by
  have := pickL (S := T) (n := n) (lt_of_st h) h0 h1
  rw [set_same h] at this
  exact this
theorem dr_lst {T : Store} {k : Nat} {l : List W} (h : T[k]? = some (.lst l)) : dr T (.o k) = some (.lst l) := by
  unfold dr; dsimp only; rw [h]
theorem app_ok {l : List W} {w : W} (h : l.length ≤ 1000) : fAppend l [w] = some (l ++ [w], .non) := by
  simp [fAppend]; omega
end Bel

namespace BelLaw
open PySem PySem.Spec PyProof.Rows L2 Bel
/-- a name -/
def Nm (n : List Int) : Prop := n.length ≤ 4 ∧ ∀ x ∈ n, 0 ≤ x ∧ x ≤ 29
theorem Nm.w {n : List Int} (h : Nm n) : tnW (tn n) = true := by
  simp only [tnW, btws, Bool.and_eq_true, decide_eq_true_eq, nrs_len]
  refine ⟨List.all_eq_true.mpr fun w hw => ?_, h.1⟩
  obtain ⟨i, hi, rfl⟩ := List.mem_map.mp hw
  have := h.2 i hi
  simp [btw, this]
/-- a row as they are drawn -/
def Rk : Rw → Prop
  | .starts n g => Nm n ∧ Nm g
  | .says n k => Nm n ∧ 0 ≤ k ∧ k ≤ 999
  | .rung n b => Nm n ∧ 0 ≤ b ∧ b ≤ 7
  | .stops n b => Nm n ∧ (b = 1 ∨ b = 2)
  | .goes n => Nm n
  | .ends n s => Nm n ∧ stat (.int s) = true
  | .told n k s => Nm n ∧ (0 ≤ k ∧ k ≤ 29) ∧ (stat (.int s) = true ∨ s = 201 ∨ s = 202)
theorem Rk.ok {r : Rw} (h : Rk r) : r.ok := by
  unfold Rw.ok
  cases r with
  | starts n g => have h1 := h.1.w; have h2 := h.2.w; simp [rowB, Rw.w, formsR, List.lookup, fitK, h1, h2]
  | says n k => have h1 := h.1.w; have h2 := h.2; simp [rowB, Rw.w, formsR, List.lookup, fitK, h1, isnum, h2]
  | rung n k => have h1 := h.1.w; have h2 := h.2; simp [rowB, Rw.w, formsR, List.lookup, fitK, h1, isnum, h2]
  | stops n k =>
    have h1 := h.1.w
    rcases h.2 with rfl | rfl <;> simp [rowB, Rw.w, formsR, List.lookup, fitK, h1, isnum]
  | goes n => have h1 := Nm.w h; simp [rowB, Rw.w, formsR, List.lookup, fitK, h1]
  | ends n s => have h1 := h.1.w; have h2 := h.2; simp [rowB, Rw.w, formsR, List.lookup, fitK, h1, h2]
  | told n k s =>
    have h1 := h.1.w
    have h2 := h.2.1
    have h3 : (stat (.int s) || btw 201 202 (.int s)) = true := by
      rcases h.2.2 with q | rfl | rfl
      · simp [q]
      · simp [btw]
      · simp [btw]
    simp only [Bool.or_eq_true] at h3
    simp [rowB, Rw.w, formsR, List.lookup, fitK, h1, isnum, h2, h3]
theorem Rk.nm {r : Rw} (h : Rk r) : Nm r.name := by
  cases r <;> first | exact h.1 | exact h
theorem Rk.len {r : Rw} (h : Rk r) : r.name.length < 1000 := by have := h.nm.1; omega
theorem grp_nm {rs : List Rw} (h : ∀ r ∈ rs, Rk r) (n : List Int) : Nm (lbGroup rs n) := by
  unfold lbGroup
  cases e : (rs.filter (isStart n)) with
  | nil => exact ⟨by simp, fun x hx => by simp at hx⟩
  | cons r l =>
    have hm : r ∈ rs.filter (isStart n) := by rw [e]; exact List.mem_cons_self
    obtain ⟨h1, h2⟩ := List.mem_filter.mp hm
    have := h r h1
    cases r <;> first | exact this.2 | (simp [isStart] at h2)
theorem unt_stat {n : List Int} : ∀ (rs : List Rw) (a : Option Int), (∀ r ∈ rs, Rk r) → (∀ s, a = some s → stat (.int s) = true ∨ s = 201 ∨ s = 202) → ∀ s, rs.foldl (untStep n) a = some s → stat (.int s) = true ∨ s = 201 ∨ s = 202
  | [], a, _, ha, s, h => ha s h
  | r :: rs, a, hr, ha, s, h => by
    refine unt_stat rs _ (fun r hr' => hr r (List.mem_cons_of_mem _ hr')) (fun s hs => ?_) s h
    have h0 := hr r List.mem_cons_self
    cases r with
    | stops m b =>
      simp only [untStep] at hs
      split at hs
      · cases hs; rcases h0.2 with rfl | rfl <;> simp
      · exact ha s hs
    | ends m b =>
      simp only [untStep] at hs
      split at hs
      · cases hs; exact .inl h0.2
      · exact ha s hs
    | goes m =>
      simp only [untStep] at hs
      split at hs
      · cases hs
      · exact ha s hs
    | told m k b =>
      simp only [untStep] at hs
      split at hs
      · cases hs
      · exact ha s hs
    | _ => exact ha s hs
theorem Nm.drop {n : List Int} (h : Nm n) : Nm n.dropLast := ⟨by rw [List.length_dropLast]; have := h.1; omega, fun x hx => h.2 x ((List.dropLast_sublist n).subset hx)⟩
theorem Nm.nil : Nm [] := ⟨by simp, fun x hx => by simp at hx⟩
theorem Nm.one {j : Int} (h : 0 ≤ j ∧ j ≤ 29) : Nm [j] := ⟨by simp, fun x hx => by simp at hx; subst hx; exact h⟩
/-- the child, the last four numbers -/
theorem Nm.child {n : List Int} {x : Int} (h : Nm n) (hx : 0 ≤ x ∧ x ≤ 29) : Nm ((n ++ [x]).drop (n.length + 1 - 4)) := by
  refine ⟨by simp; omega, fun y hy => ?_⟩
  have := List.mem_of_mem_drop hy
  rcases List.mem_append.mp this with q | q
  · exact h.2 y q
  · simp at q; subst q; exact hx
theorem wanted_rk {rs : List Rw} (h : ∀ r ∈ rs, Rk r) {d : Rw} (hd : lbWanted rs = some d) : Rk d := by
  unfold lbWanted at hd
  split at hd
  · cases hd
  · rename_i m c e
    have hm := h _ (List.mem_of_getLast? e)
    split at hd
    · cases hd; exact hm.1
    · cases hd
  · rename_i m c e
    have hm := h _ (List.mem_of_getLast? e)
    split at hd
    · cases hd; exact ⟨hm.1.drop, by decide, by decide⟩
    · cases hd
  · rename_i m c e
    have hm := h _ (List.mem_of_getLast? e)
    split at hd
    · cases hd; exact ⟨hm.1.drop, by decide, by decide⟩
    · cases hd
  · cases hd
end BelLaw

namespace BelLaw
open PySem PySem.Spec PyProof.Rows L2 Bel
theorem sIx_neg {m : Nat} {j : Int} (d : Nat) (hj : j < 0) : HT.sIx m d (some j) = (m + j).toNat := by
  simp [HT.sIx, hj]
  omega
theorem cut_tail {α : Type} (l : List α) (k : Nat) (hk : 0 < k) : cutL l (some (-(k : Int))) none = l.drop (l.length - k) := by
  have e : HT.sIx l.length 0 (some (-(k : Int))) = l.length - k := by
    rw [sIx_neg 0 (by omega)]
    omega
  unfold cutL
  rw [e]
  have e2 : HT.sIx l.length l.length none = l.length := rfl
  rw [e2]
  exact List.take_of_length_le (by rw [List.length_drop]; omega)
section
variable {T : Store} {k : Nat}
/-- the words of rows -/
def wordsL : List (List Nat) := [xStarts, xStarts, xSays, xRung, xRung, xRung, xStops, xStops, xGoes, xEnds, xTold, xTold]
theorem any_row_w {n : Int} (hk : T[k]? = some (stt n)) {rs : List Rw} (hl : rs.length ≤ 1000) (hr : ∀ r ∈ rs, Rk r) : ∃ r n', Rk r ∧ m__law_any_row [.o k, .v (.lst (rs.map Rw.w))] T = .ok (.v r.w) (T.set k (stt n')) := by
  obtain ⟨K0, K1, K2, K3, K4, K5, K6, K7, K8, K9, K10, K11, K12, K13, hf, h0, h1, h2, h3, h4, h5, h6, h7, h8, h9, h10, h11, h12, h13⟩ := m__law_any_row_st
  have hl' : (rs.map Rw.w).length ≤ 16777216 := by rw [List.length_map]; omega
  -- the names
  have lc : ∀ x0 x2 x3 x4 x5 x6 x7 x8 x9, lcL (tgN 10) m__law_any_row_t2 m__law_any_row_e1 [x0, some (.v (.lst (rs.map Rw.w))), x2, x3, x4, x5, x6, x7, x8, x9, none] (rs.map Rw.w) T = .ok ((rs.filter fun r => match r with | .starts _ _ => true | _ => false).map fun r => tn r.name) T := fun x0 x2 x3 x4 x5 x6 x7 x8 x9 =>
    lcL_mapf Rw.w (fun r => match r with | .starts _ _ => true | _ => false) (fun r => tn r.name) rs fun r _ => ⟨_, rfl, by cases r <;> simp [m__law_any_row_t2, Rw.w], fun h => by cases r <;> simp at h <;> simp [m__law_any_row_e1, Rw.w, Rw.name]⟩
  obtain ⟨names, hn, hnl, hnm⟩ : ∃ names : List (List Int), cutL ((rs.filter fun r => match r with | .starts _ _ => true | _ => false).map fun r => tn r.name) (some (-5)) none = names.map tn ∧ names.length ≤ 5 ∧ ∀ m ∈ names, Nm m := by
    have e := cut_tail ((rs.filter fun r => match r with | .starts _ _ => true | _ => false).map fun r => tn r.name) 5 (by decide)
    refine ⟨((rs.filter fun r => match r with | .starts _ _ => true | _ => false).drop ((rs.filter fun r => match r with | .starts _ _ => true | _ => false).length - 5)).map Rw.name, ?_, ?_, fun m hm => ?_⟩
    · rw [show (-5 : Int) = -((5 : Nat) : Int) by decide, e, List.map_map, List.length_map, List.map_drop]
      rfl
    · rw [List.length_map, List.length_drop]; omega
    · obtain ⟨r, hr', rfl⟩ := List.mem_map.mp hm
      exact (hr r (List.mem_filter.mp (List.mem_of_mem_drop hr')).1).nm
  have fl : ((rs.filter fun r => match r with | .starts _ _ => true | _ => false).map fun r => tn r.name).length ≤ 16777216 := by
    rw [List.length_map]; exact Nat.le_trans (List.length_filter_le _ _) (by omega)
  generalize (rs.filter fun r => match r with | .starts _ _ => true | _ => false).map (fun r => tn r.name) = X at *
  have a1 : fAdd (.lst [tn []]) (.lst (names.map tn)) = some (.nl (([] :: names).map tn)) := by rw [fAdd_lst (by simp; omega)]; rfl
  have N1 := nextK_at (m := 3) hk (by decide) (by decide)
  have hk1 := st_at hk (stt (n / 3))
  have a2 : fAdd (.lst (([] :: names).map tn)) (.lst (([] :: names).map tn)) = some (.nl (([] :: names ++ [] :: names).map tn)) := by rw [fAdd_lst (by simp; omega), List.map_append]
  have a3 : fAdd (.lst (([] :: names ++ [] :: names).map tn)) (.lst [tn [n % 3]]) = some (.nl (([] :: names ++ [] :: names ++ [[n % 3]]).map tn)) := by rw [fAdd_lst (by simp; omega)]; simp
  obtain ⟨w, n1, hw, P1⟩ := pickG hk1 (l := ([] :: names ++ [] :: names ++ [[n % 3]]).map tn) (by simp) (by simp; omega)
  obtain ⟨nm, hnm2, rfl⟩ := List.mem_map.mp hw
  have nmk : Nm nm := by
    rcases List.mem_append.mp hnm2 with h | h
    · rcases List.mem_append.mp h with h | h
      · rcases List.mem_cons.mp h with rfl | h
        · exact Nm.nil
        · exact hnm _ h
      · rcases List.mem_cons.mp h with rfl | h
        · exact Nm.nil
        · exact hnm _ h
    · have : nm = [n % 3] := by simpa using h
      subst this
      exact Nm.one (by omega)
  have hk2 := st_at hk1 (stt n1)
  obtain ⟨w, n2, hw, P2⟩ := pickG hk2 (l := wordsL.map W.str) (by simp [wordsL]) (by simp [wordsL])
  obtain ⟨wd, hwd, rfl⟩ := List.mem_map.mp hw
  have hk3 := st_at hk2 (stt n2)
  have N3 := nextK_at (m := 3) hk3 (by decide) (by decide)
  have hk4 := st_at hk3 (stt (n2 / 3))
  simp only [List.set_set] at P1 P2 N3 hk1 hk2 hk3 hk4
  generalize hT4 : T.set k (stt (n2 / 3)) = T4 at *
  have back : ∀ m, T4.set k (stt m) = T.set k (stt m) := fun m => by rw [← hT4]; simp
  have lT : T4.length = T.length := by rw [← hT4]; simp
  have start : m__law_any_row [.o k, .v (.lst (rs.map Rw.w))] T = fnR T.length (K5 [some (.o k), some (.v (.lst (rs.map Rw.w))), some (.v (.lst (([] :: names).map tn))), some (.v (tn nm)), some (.v (.lst (wordsL.map W.str))), some (.v (.str wd)), some (.v (.int (n2 % 3))), none, none, none, none] T4) := by
    have P2' : g__law_pick [.o k, .v (.lst [.str [115, 116, 97, 114, 116, 115], .str [115, 116, 97, 114, 116, 115], .str [115, 97, 121, 115], .str [114, 117, 110, 103], .str [114, 117, 110, 103], .str [114, 117, 110, 103], .str [115, 116, 111, 112, 115], .str [115, 116, 111, 112, 115], .str [103, 111, 101, 115], .str [101, 110, 100, 115], .str [116, 111, 108, 100], .str [116, 111, 108, 100]])] (T.set k (stt n1)) = _ := P2
    have a1' : fAdd (.lst [.tup []]) (.lst (names.map tn)) = _ := a1
    have a3' : fAdd (.lst (([] :: names ++ [] :: names).map tn)) (.lst [.tup [.int (n % 3)]]) = _ := a3
    generalize ([] :: names ++ [] :: names ++ [[n % 3]]).map tn = Y3 at *
    generalize ([] :: names ++ [] :: names).map tn = Y2 at *
    generalize ([] :: names).map tn = Y1 at *
    generalize names.map tn = Y0 at *
    generalize rs.map Rw.w = L at *
    rw [hf, h0]
    simp [hl', lc, wipeE, hn, a1']
    rw [h1]
    simp [a2, N1, a3', P1]
    rw [h2]
    simp
    rw [h3]
    simp [P2']
    rw [h4]
    simp [N3]
    rfl
  rw [start]
  have GR := group_w (S := T4) rs (by omega) nm
  have GRn := grp_nm hr nm
  have LU : ∀ j, lbUntold rs (nm ++ [j]) = rs.foldl (untStep (nm ++ [j])) none := fun _ => rfl
  have UN := untold_w (S := T4) rs (fun r h => (hr r h).len) (nm ++ [n2 % 3])
  have US := unt_stat (n := nm ++ [n2 % 3]) rs none hr (fun s h => by cases h)
  rw [← LU] at US
  have ndrop : ∀ x : Int, fAdd (tn nm) (.tup [.int x]) = some (.nt (nrs (nm ++ [x]))) := fun x => by rw [fAdd_tup (by rw [nrs_len]; have := nmk.1; simp; omega), nrs_app]
  have lc3 : ∀ x2 x4 x5 x6 x7 x8 x9, lcL (tgN 10) m__law_any_row_t3 (dC (.int 1)) [some (.o k), some (.v (.lst (rs.map Rw.w))), x2, some (.v (tn nm)), x4, x5, x6, x7, x8, x9, none] (rs.map Rw.w) T4 = .ok ((rs.filter (kidOf nm)).map fun _ => W.int 1) T4 := fun x2 x4 x5 x6 x7 x8 x9 =>
    lcL_mapf Rw.w (kidOf nm) (fun _ => W.int 1) rs fun r _ => ⟨_, rfl, by cases r <;> simp [m__law_any_row_t3, Rw.w, kidOf, fEq_nrs, cut_last], fun _ => rfl⟩
  have ml : ((rs.filter (kidOf nm)).map fun _ => W.int 1).length = lbMany rs nm := many_len rs nm
  have ml2 : lbMany rs nm ≤ 1000 := Nat.le_trans (List.length_filter_le _ _) hl
  have hj : 0 ≤ n2 % 3 ∧ n2 % 3 ≤ 2 := by omega
  have hwd' : wd = xStarts ∨ wd = xSays ∨ wd = xRung ∨ wd = xStops ∨ wd = xGoes ∨ wd = xEnds ∨ wd = xTold := by
    simp only [wordsL, List.mem_cons, List.not_mem_nil, or_false] at hwd
    rcases hwd with h | h | h | h | h | h | h | h | h | h | h | h <;> simp [h]
  have lX3 : ((rs.filter (kidOf nm)).map fun _ => W.int 1).length ≤ 16777216 := by rw [ml]; omega
  generalize (rs.filter (kidOf nm)).map (fun _ => W.int 1) = X3 at *
  generalize hL : rs.map Rw.w = L at *
  generalize (([] :: names).map tn) = Y1 at *
  generalize wordsL.map W.str = Y4 at *
  generalize n2 % 3 = j at *
  have wrap : ∀ {r : Rw} {m : Int} {x : Rs}, Rk r → x = .ok (.rt (.v r.w)) (T4.set k (stt m)) → ∃ r n', Rk r ∧ fnR T.length x = .ok (.v r.w) (T.set k (stt n')) := fun {r m x} h e => ⟨r, m, h, by
    rw [e, fnR_rt, fin_v, ← lT, back, ← back m]
    simp⟩
  have wrap0 : ∀ {r : Rw} {x : Rs}, Rk r → x = .ok (.rt (.v r.w)) T4 → ∃ r n', Rk r ∧ fnR T.length x = .ok (.v r.w) (T.set k (stt n')) := fun {r x} h e => by
    obtain ⟨m, hm⟩ : ∃ m, T4 = T.set k (stt m) := ⟨_, hT4.symm⟩
    refine ⟨r, m, h, ?_⟩
    rw [e, fnR_rt, fin_v, ← hm, ← lT]
    simp
  rcases hwd' with rfl | rfl | rfl | rfl | rfl | rfl | rfl
  · -- starts
    obtain ⟨w, n5, hw, P5⟩ := pickG hk4 (l := [W.int (lbMany rs nm : Nat), .int (lbMany rs nm : Nat), .int (lbMany rs nm : Nat), .int j]) (by simp) (by simp)
    obtain ⟨x, rfl⟩ : ∃ x : Int, w = .int x := by
      simp only [List.mem_cons, List.not_mem_nil, or_false] at hw
      rcases hw with rfl | rfl | rfl | rfl <;> exact ⟨_, rfl⟩
    have hk5 := st_at hk4 (stt n5)
    have ch := Nm.child nmk (x := x % 30) (by omega)
    have cw : cutL (nrs (nm ++ [x % 30])) (some (-4)) none = nrs ((nm ++ [x % 30]).drop (nm.length + 1 - 4)) := by
      have e := cut_tail (nrs (nm ++ [x % 30])) 4 (by decide)
      rw [show (-4 : Int) = -((4 : Nat) : Int) by decide, e, nrs_len]
      simp [nrs]
    generalize (nm ++ [x % 30]).drop (nm.length + 1 - 4) = c at *
    obtain ⟨w, n6, hw, P6⟩ := pickG hk5 (l := [tn c, tn (lbGroup rs nm), tn (lbGroup rs nm), tn []]) (by simp) (by simp)
    obtain ⟨g, hg, rfl⟩ : ∃ g, Nm g ∧ w = tn g := by
      simp only [List.mem_cons, List.not_mem_nil, or_false] at hw
      rcases hw with rfl | rfl | rfl | rfl
      · exact ⟨_, ch, rfl⟩
      · exact ⟨_, GRn, rfl⟩
      · exact ⟨_, GRn, rfl⟩
      · exact ⟨_, Nm.nil, rfl⟩
    have GR' : ∀ m, g__law_group [.v (.lst L), .v (tn nm)] (T4.set k (stt m)) = .ok (.v (tn (lbGroup rs nm))) (T4.set k (stt m)) := fun m => by rw [← hL]; exact group_w rs (by omega) nm
    simp only [List.set_set] at P6
    have P6' : g__law_pick [.o k, .v (.lst [tn c, tn (lbGroup rs nm), tn (lbGroup rs nm), .tup []])] (T4.set k (stt n5)) = _ := P6
    have md : fMod (.int x) (.int 30) = some (.val (.int (x % 30))) := fMod_int (by decide)
    refine wrap (r := .starts c g) (m := n6) ⟨ch, hg⟩ ?_
    rw [h5]
    simp [hl', lc3, wipeE, lX3, ml, P5, md, ndrop, cw, GR', P6', Rw.w]
  · -- says
    have N5 := nextK_at (m := 1000) hk4 (by decide) (by decide)
    refine wrap (r := .says nm ((n2 / 3) % 1000)) (m := n2 / 3 / 1000) ⟨nmk, by omega, by omega⟩ ?_
    rw [h5]; simp
    rw [h6]; simp [N5, Rw.w]
  · -- rung
    obtain ⟨w, n5, hw, P5⟩ := pickG hk4 (l := [W.int 1, .int 2, .int 6, .int 0, .int 4, .int 3, .int 5, .int 7]) (by simp) (by simp)
    obtain ⟨x, hx, rfl⟩ : ∃ x : Int, (0 ≤ x ∧ x ≤ 7) ∧ w = .int x := by
      simp only [List.mem_cons, List.not_mem_nil, or_false] at hw
      rcases hw with rfl | rfl | rfl | rfl | rfl | rfl | rfl | rfl <;> exact ⟨_, by decide, rfl⟩
    refine wrap (r := .rung nm x) (m := n5) ⟨nmk, hx⟩ ?_
    rw [h5]; simp
    rw [h6]; simp
    rw [h7]; simp [P5, Rw.w]
  · -- stops
    have N5 := nextK_at (m := 2) hk4 (by decide) (by decide)
    refine wrap (r := .stops nm (1 + (n2 / 3) % 2)) (m := n2 / 3 / 2) ⟨nmk, by omega⟩ ?_
    rw [h5]; simp
    rw [h6]; simp
    rw [h7]; simp
    rw [h8]; simp [N5, Rw.w]
  · -- goes
    refine wrap0 (r := .goes nm) nmk ?_
    rw [h5]; simp
    rw [h6]; simp
    rw [h7]; simp
    rw [h8]; simp
    rw [h9]; simp [Rw.w]
  · -- ends
    obtain ⟨w, n5, hw, P5⟩ := pickG hk4 (l := [W.int 0, .int 99, .int 7, .int 100, .int 104, .int 103, .int 105]) (by simp) (by simp)
    obtain ⟨x, hx, rfl⟩ : ∃ x : Int, stat (.int x) = true ∧ w = .int x := by
      simp only [List.mem_cons, List.not_mem_nil, or_false] at hw
      rcases hw with rfl | rfl | rfl | rfl | rfl | rfl | rfl <;> exact ⟨_, by decide, rfl⟩
    refine wrap (r := .ends nm x) (m := n5) ⟨nmk, hx⟩ ?_
    rw [h5]; simp
    rw [h6]; simp
    rw [h7]; simp
    rw [h8]; simp
    rw [h9]; simp
    rw [h10]; simp [P5, Rw.w]
  · -- told
    have go : ∀ x : Rs, x = K12 [some (.o k), some (.v (.lst L)), some (.v (.lst Y1)), some (.v (tn nm)), some (.v (.lst Y4)), some (.v (.str xTold)), some (.v (.int j)), some (.v (stW (lbUntold rs (nm ++ [j])))), none, none, none] T4 → True := fun _ _ => trivial
    have e11 : K5 [some (.o k), some (.v (.lst L)), some (.v (.lst Y1)), some (.v (tn nm)), some (.v (.lst Y4)), some (.v (.str xTold)), some (.v (.int j)), none, none, none, none] T4 = K12 [some (.o k), some (.v (.lst L)), some (.v (.lst Y1)), some (.v (tn nm)), some (.v (.lst Y4)), some (.v (.str xTold)), some (.v (.int j)), some (.v (stW (lbUntold rs (nm ++ [j])))), none, none, none] T4 := by
      rw [h5]; simp
      rw [h6]; simp
      rw [h7]; simp
      rw [h8]; simp
      rw [h9]; simp
      rw [h10]; simp
      rw [h11]; simp [ndrop, UN]
    rw [e11]
    cases hu : lbUntold rs (nm ++ [j]) with
    | none =>
      refine wrap0 (r := .told nm j 100) ⟨nmk, by omega, .inl (by decide)⟩ ?_
      rw [h12]
      simp [stW, Rw.w]
    | some st =>
      have sk := US st hu
      obtain ⟨w, n5, hw, P5⟩ := pickG hk4 (l := [W.int st, .int st, .int st, .int 0, .int 201]) (by simp) (by simp)
      obtain ⟨x, hx, rfl⟩ : ∃ x : Int, (stat (.int x) = true ∨ x = 201 ∨ x = 202) ∧ w = .int x := by
        simp only [List.mem_cons, List.not_mem_nil, or_false] at hw
        rcases hw with rfl | rfl | rfl | rfl | rfl
        · exact ⟨_, sk, rfl⟩
        · exact ⟨_, sk, rfl⟩
        · exact ⟨_, sk, rfl⟩
        · exact ⟨_, .inl (by decide), rfl⟩
        · exact ⟨_, .inr (.inl rfl), rfl⟩
      refine wrap (r := .told nm j x) (m := n5) ⟨nmk, by omega, hx⟩ ?_
      have i0 : Bel.isNon (W.int st) = false := rfl
      rw [h12]
      simp [stW, i0]
      rw [h13]
      simp [P5, Rw.w]
end
end BelLaw

namespace BelLaw
open PySem PySem.Spec PyProof.Rows L2 Bel
theorem ndW_row (r : Rw) : ndW r.w = true := by
  have q : ∀ n : List Int, ndWs (nrs n) = true := fun n => by
    induction n with
    | nil => rfl
    | cons a l ih => show (ndW (.int a) && ndWs (nrs l)) = true; rw [ih]; rfl
  cases r <;> simp [Rw.w, ndW, ndWs, q]
theorem ndW_due (o : Option Rw) : ndW (dueW o) = true := by
  cases o with
  | none => rfl
  | some r => exact ndW_row r
/-- one turn of the making -/
theorem made_turn {S : Store} {ns : List Int} {q : Nat} {rs : List Rw} (hS : S[0]? = some (.scr (ns.map W.int))) (hq : S[q]? = some (.lst (rs.map Rw.w))) (q0 : q ≠ 0) (hl : rs.length ≤ 1000) (hr : ∀ r ∈ rs, Rk r) (j : Nat) {x3 x4 x5 : Option U} :
    ∃ (e : Env') (S' : Store) (rs' : List Rw), m__law_made_b1 [some (.o 0), some (.o q), some (.v (.int (j : Int))), x3, x4, x5] S = .ok (.nx e) S' ∧ e.length = 6 ∧ e[0]? = some (some (.o 0)) ∧ e[1]? = some (some (.o q)) ∧ S'[0]? = some (.scr (ns.map W.int)) ∧ S'[q]? = some (.lst (rs'.map Rw.w)) ∧ rs'.length ≤ rs.length + 1 ∧ (∀ r ∈ rs', Rk r) ∧ S.length ≤ S'.length := by
  obtain ⟨K0, K1, K2, K3, K4, hf, h0, h1, h2, h3, h4⟩ := m__law_made_b1_st
  obtain ⟨n, st⟩ := state_is (S := S) (j := (j : Int) / 2) hS (by omega)
  have d2 : fDiv (.int (j : Int)) (.int 2) = some (.val (.int ((j : Int) / 2))) := fDiv_int (by decide) (by decide)
  have m2 : fMod (.int (j : Int)) (.int 2) = some (.val (.int ((j : Int) % 2))) := fMod_int (by decide)
  -- the state
  have stA : ∃ (i : Nat) (n' : Int) (S1 : Store), (∀ K : DS, ((dSeq (dAsg 3 (dFn g__law_state 2 (dCons (dVar 0) (dCons (dBin false fDiv (dVar 2) (dC (.int 2))) dNil)))) K)) = dSeq (dAsg 3 (dFn g__law_state 2 (dCons (dVar 0) (dCons (dBin false fDiv (dVar 2) (dC (.int 2))) dNil)))) K) ∧
      K0 [some (.o 0), some (.o q), some (.v (.int (j : Int))), x3, x4, x5] S = K2 [some (.o 0), some (.o q), some (.v (.int (j : Int))), some (.o i), x4, x5] S1 ∧ S1[i]? = some (stt n') ∧ i ≠ 0 ∧ i ≠ q ∧ S1[0]? = some (.scr (ns.map W.int)) ∧ S1[q]? = some (.lst (rs.map Rw.w)) ∧ S.length ≤ S1.length := by
    have lq := lt_of_st hq
    have l0 := lt_of_st hS
    have p12 : fPow (.int 10) (.int 12) = some (.val (.int 1000000000000)) := rfl
    by_cases c : (j : Int) % 2 = 1
    · refine ⟨S.length + 1, n / 1000000000000, S ++ [stt n] ++ [stt (n / 1000000000000)], fun _ => rfl, ?_, ?_, by omega, by omega, ?_, ?_, by simp⟩
      · have dw : fDivW (.int n) (.int 1000000000000) = some (.val (.int (n / 1000000000000))) := fDivW_int (by decide) (by decide)
        have i0 : dr (S ++ [stt n]) (.o S.length) = some (.lst [.int n]) := dr_lst st_app
        rw [h0]
        simp [d2, st]
        rw [h1]
        simp [m2, c, i0, p12, dw]
      · simp
      · rw [List.append_assoc]; exact st_old hS
      · rw [List.append_assoc]; exact st_old hq
    · refine ⟨S.length, n, S ++ [stt n], fun _ => rfl, ?_, st_app, by omega, by omega, st_old hS, st_old hq, by simp⟩
      rw [h0]
      simp [d2, st]
      rw [h1]
      simp [m2, c]
  obtain ⟨i, n', S1, -, e1, si, i0, iq, s0, sq, le1⟩ := stA
  have bq : borsQ S1 [.o q] = some [.v (.lst (rs.map Rw.w))] := by simp [borsQ, borQ, sq]
  have WN := wanted_w (S := []) rs (by omega)
  have e2 : K2 [some (.o 0), some (.o q), some (.v (.int (j : Int))), some (.o i), x4, x5] S1 = K3 [some (.o 0), some (.o q), some (.v (.int (j : Int))), some (.o i), some (.v (dueW (lbWanted rs))), x5] S1 := by
    have nd := ndW_due (lbWanted rs)
    rw [h2]
    simp [dFnQ_ap, bq, WN, nd]
  -- the row
  have stB : ∃ (r : Rw) (S2 : Store), Rk r ∧ K3 [some (.o 0), some (.o q), some (.v (.int (j : Int))), some (.o i), some (.v (dueW (lbWanted rs))), x5] S1 = K4 [some (.o 0), some (.o q), some (.v (.int (j : Int))), some (.o i), some (.v (dueW (lbWanted rs))), some (.v r.w)] S2 ∧ S2[0]? = some (.scr (ns.map W.int)) ∧ S2[q]? = some (.lst (rs.map Rw.w)) ∧ S.length ≤ S2.length := by
    cases hw : lbWanted rs with
    | some d =>
      refine ⟨d, S1, wanted_rk hr hw, ?_, s0, sq, le1⟩
      rw [h3]
      have := dueW_some d
      simp [this]
      simp [dueW]
    | none =>
      obtain ⟨r, n2, hr2, A⟩ := any_row_w (T := [stt n']) (k := 0) (n := n') rfl hl hr
      have lv : lensV S1 i [.o i, .o q] = some [.o 0, .v (.lst (rs.map Rw.w))] := by
        simp [lensV, lenV, borQ, sq, Ne.symm iq]
      have nd := ndW_row r
      refine ⟨r, S1.set i (stt n2), hr2, ?_, by rw [st_off i0]; exact s0, by rw [st_off iq]; exact sq, by simpa using le1⟩
      rw [h3]
      have o0 : own0 [U.o i, U.o q] = some i := rfl
      simp [dueW, o0, si, lv, A, nd, ndWs, ndW]
  obtain ⟨r, S2, hr2, e3, s0', sq', le2⟩ := stB
  have MY := may_w (S := []) rs (by omega) (fun r h => (hr r h).len) r hr2.len
  have bq2 : borsQ S2 [.o q, .v r.w] = some [.v (.lst (rs.map Rw.w)), .v r.w] := by simp [borsQ, borQ, sq']
  rw [hf, e1, e2, e3, h4]
  cases hm : lbMay rs r
  · rw [hm] at MY
    refine ⟨[some (.o 0), some (.o q), some (.v (.int (j : Int))), some (.o i), some (.v (dueW (lbWanted rs))), some (.v r.w)], S2, rs, ?_, rfl, rfl, rfl, s0', sq', by omega, hr, le2⟩
    simp [dFnQ_ap, bq2, MY, ndW]
  · rw [hm] at MY
    refine ⟨[some (.o 0), some (.o q), some (.v (.int (j : Int))), some (.o i), some (.v (dueW (lbWanted rs))), some (.v r.w)], S2.set q (.lst ((rs ++ [r]).map Rw.w)), rs ++ [r], ?_, rfl, rfl, rfl, by rw [st_off q0]; exact s0', st_at sq' _, by simp, fun x hx => ?_, by simpa using le2⟩
    · have ap : fAppend (rs.map Rw.w) [r.w] = some (rs.map Rw.w ++ [r.w], .non) := Bel.app_ok (by simpa using hl)
      simp [dFnQ_ap, bq2, MY, ndW, sq', ap]
    · rcases List.mem_append.mp hx with h | h
      · exact hr x h
      · simp at h; subst h; exact hr2
end BelLaw

namespace Bel
open PySem PySem.Spec PyProof.Rows L2
section
variable {S : Store}
theorem st_loopG {x0 : Option U} {j c : Int} : ∀ (ws : List W), (∀ w ∈ ws, ∃ z : Int, w = .int z) → ∀ (f : Int) (a b : Option U), ∃ (f' : Int) (a' b' : Option U),
    dLoop (tgN 4) g__law_state_b1 ws [x0, some (.v (.int j)), some (.v (.int c)), some (.v (.int f)), a, b] S = .ok (.nx [x0, some (.v (.int j)), some (.v (.int c)), some (.v (.int f')), a', b']) S
  | [], _, f, a, b => ⟨f, a, b, rfl⟩
  | w :: r, h, f, a, b => by
    obtain ⟨z, rfl⟩ := h w List.mem_cons_self
    have m1 : fMul (.int 40) (.int j) = _ := mul_ok (.inl (by decide))
    have m2 : fMul (.int 7919) (.int (40 * j + z + 1)) = _ := mul_ok (.inl (by decide))
    have m3 : fMul (.int (c + 7919 * (40 * j + z + 1))) (.int 48271) = _ := mul_ok (.inr (by decide))
    have m4 : fMul (.int f) (.int 2147483629) = _ := mul_ok (.inr (by decide))
    have m5 : fMul (.int 2) (.int z) = _ := mul_ok (.inl (by decide))
    generalize hq : (c + 7919 * (40 * j + z + 1)) * 48271 % 2147483647 = q at *
    have q0 : 0 ≤ q := by rw [← hq]; exact Int.emod_nonneg _ (by decide)
    have q1 : q < 2147483647 := by rw [← hq]; exact Int.emod_lt_of_pos _ (by decide)
    have m6 : fMul (.int q) (.int (q + 2 * z + 1)) = _ := mul_ok (.inl ⟨by omega, by omega⟩)
    obtain ⟨f', a', b', e⟩ := st_loopG r (fun w hw => h w (List.mem_cons_of_mem _ hw)) (f * 2147483629 + q * (q + 2 * z + 1) % 2147483629) (some (.v (.int z))) (some (.v (.int q)))
    refine ⟨f', a', b', ?_⟩
    rw [← e]
    simp [dLoop_cons, g__law_state_b1, m1, m2, m3, m4, m5, m6, fMod_int, hq]
/-- .. of a list that is handed in -/
theorem state_pl {u : U} {j : Int} {ns : List Int} (hd : dr S u = some (.lst (ns.map W.int))) (hl : ns.length ≤ 16777216) (h0 : 0 ≤ j) : ∃ n, g__law_state [u, .v (.int j)] S = .ok (.o S.length) (S ++ [stt n]) := by
  have hp : fPow (.int 10) (.int 18) = some (.val (.int 1000000000000000000)) := rfl
  have lp := fun c => st_loopG (S := S) (x0 := some u) (j := j) (c := c) ((List.range 14).map fun (i : Nat) => W.int (i : Int)) (fun w hw => by
      obtain ⟨z, _, rfl⟩ := List.mem_map.mp hw
      exact ⟨_, rfl⟩) 0 none none
  by_cases hj : j < ns.length
  · have hl : j.toNat < ns.length := by omega
    have e := ix_pk (l := ns.map W.int) h0 (by simpa using hj)
    have e2 : pk (ns.map W.int) j = .int ns[j.toNat] := by simp [pk, hl]
    rw [e2] at e
    have ea : fAbs [.int ns[j.toNat]] = some (.val (.int (if ns[j.toNat] < 0 then -ns[j.toNat] else ns[j.toNat]))) := rfl
    generalize (if ns[j.toNat] < 0 then -ns[j.toNat] else ns[j.toNat]) = c at ea
    by_cases hb : (1000000000000000000 : Int) ≤ c
    · exact ⟨c - 1000000000000000000, by simp [g__law_state, hd, hj, e, ea, hp, hb, fin_own]⟩
    · obtain ⟨f, a, b, el⟩ := lp c
      exact ⟨f, by simp [g__law_state, hd, hj, e, ea, hp, hb, el, fin_own]⟩
  · obtain ⟨f, a, b, el⟩ := lp 0
    exact ⟨f, by simp [g__law_state, hd, hj, hp, el, fin_own]⟩
end
end Bel

namespace BelLaw
open PySem PySem.Spec PyProof.Rows L2 Bel
theorem list6 {e : Env'} (h : e.length = 6) : ∃ a0 a1 a2 a3 a4 a5, e = [a0, a1, a2, a3, a4, a5] := by
  match e, h with
  | [a0, a1, a2, a3, a4, a5], _ => exact ⟨a0, a1, a2, a3, a4, a5, rfl⟩
/-- the record that is made -/
theorem made_w {ns : List Int} {S : Store} (hn : ns.length ≤ 63) (hS : S[0]? = some (.scr (ns.map W.int))) : ∃ rs : List Rw, rs.length ≤ 132 ∧ (∀ r ∈ rs, Rk r) ∧ ∃ S0, S0.length = S.length ∧ S0[0]? = some (.scr (ns.map W.int)) ∧ m__law_made [.o 0] S = .ok (.o S.length) (S0 ++ [.lst (rs.map Rw.w)]) := by
  obtain ⟨K0, K1, K2, hf, h0, h1, h2⟩ := m__law_made_st
  have l0 := lt_of_st hS
  have m1 : dCall false fMin2 (dCons (dC (.int 60)) (dCons (dBin false fAdd (dC (.int 6)) (dBin false fMul (dC (.int 2)) (dCall false fLen (dCons (dVar 0) dNil)))) dNil)) [some (.o 0), some (.o S.length), none, none, none, none] (S ++ [.lst []]) = .ok (.v (.int (min 60 (6 + 2 * (ns.length : Int))))) (S ++ [.lst []]) := by
    have m2 : fMin2 [.int 60, .int (6 + 2 * (ns.length : Int))] = some (.val (.int (min 60 (6 + 2 * (ns.length : Int))))) := by simp [fMin2]; omega
    have m3 : fMul (.int 2) (.int (ns.length : Int)) = some (.val (.int (2 * (ns.length : Int)))) := mul_ok (.inl (by decide))
    have dr0 : dr (S ++ [.lst []]) (.o 0) = some (.lst (ns.map W.int)) := by unfold dr; dsimp only; rw [st_old hS]
    have ll : ns.length ≤ 16777216 := by omega
    simp [dr0, m2, m3, ll]
  have r := for_rng (t := tgN 2) (b := m__law_made_b1) m1 (by omega) (by omega)
  obtain ⟨J, hJ, hJ2⟩ : ∃ J : Nat, J ≤ 132 ∧ (min 60 (6 + 2 * (ns.length : Int))).toNat = J := ⟨_, by omega, rfl⟩
  rw [hJ2] at r
  obtain ⟨e1, S1, r1, ⟨hl, he0, he1⟩, rs, hs0, hsq, hrl, hrk, hle⟩ := jloop (t := tgN 2) (body := m__law_made_b1) (fun j e S' => (e.length = 6 ∧ e[0]? = some (some (.o 0)) ∧ e[1]? = some (some (.o S.length))) ∧ ∃ rs : List Rw, S'[0]? = some (.scr (ns.map W.int)) ∧ S'[S.length]? = some (.lst (rs.map Rw.w)) ∧ rs.length ≤ j ∧ (∀ r ∈ rs, Rk r) ∧ S.length < S'.length) ((List.range J).map fun (j : Nat) => W.int (j : Int)) (by
    rintro j w hw e S' ⟨⟨hl, he0, he1⟩, rs, s0, sq, rl, rk, le⟩
    have hj : j < J := by have := (List.getElem?_eq_some_iff.mp hw).1; simpa using this
    have ew : w = .int ((j : Nat) : Int) := by
      rw [List.getElem?_map, List.getElem?_range (by simpa using hj)] at hw
      simpa using hw.symm
    subst ew
    obtain ⟨a0, a1, a2, a3, a4, a5, rfl⟩ := list6 hl
    simp at he0 he1
    subst he0 he1
    obtain ⟨e2, S2, rs2, q1, q2, q3, q4, q5, q6, q7, q8, q9⟩ := made_turn s0 sq (by omega) (by omega) rk j (x3 := a3) (x4 := a4) (x5 := a5)
    exact ⟨_, e2, S2, rfl, q1, ⟨q2, q3, q4⟩, rs2, q5, q6, by omega, q8, by omega⟩) [some (.o 0), some (.o S.length), none, none, none, none] (S ++ [.lst []]) ⟨⟨rfl, rfl, rfl⟩, [], st_old hS, by simp, by simp, by simp, by simp⟩
  refine ⟨rs, by rw [List.length_map, List.length_range] at hrl; omega, hrk, S1.take S.length, by rw [List.length_take]; omega, by rw [List.getElem?_take]; simp [l0, hs0], ?_⟩
  have z : m__law_made [.o 0] S = fnR S.length (K0 [some (.o 0), none, none, none, none, none] S) := hf _ _
  rw [z, h0]
  simp
  rw [h1, r, r1]
  simp only [Rs.bind_nx]
  rw [h2]
  obtain ⟨a0, a1, a2, a3, a4, a5, rfl⟩ := list6 hl
  simp at he0 he1
  subst he0 he1
  simp [fin, hsq]
theorem sIx_nat {m : Nat} (d k : Nat) : HT.sIx m d (some (k : Int)) = min k m := by
  have h : ¬ ((k : Int) < 0) := by omega
  simp [HT.sIx, h]
theorem cut_take {α : Type} (l : List α) (k : Nat) : cutL l none (some (k : Int)) = l.take k := by
  unfold cutL
  rw [sIx_nat]
  show (l.drop 0).take (min k l.length - 0) = _
  simp only [List.drop_zero, Nat.sub_zero]
  rcases Nat.le_total k l.length with h | h
  · rw [Nat.min_eq_left h]
  · rw [Nat.min_eq_right h, List.take_length, List.take_of_length_le h]
theorem due_loop {S : Store} {rs : List Rw} (hl : rs.length ≤ 1000) (hr : ∀ r ∈ rs, Rk r) : ∀ (rest pre : List Rw) (x1 : Option U), pre ++ rest = rs →
    (∃ i : Nat, lbDue pre rest = some i ∧ dLoop (tgN 1) m__law_due_b1 ((List.range' pre.length rest.length).map fun (j : Nat) => W.int (j : Int)) [some (.v (.lst (rs.map Rw.w))), x1] S = .ok (.rt (.v (.int (i : Int)))) S) ∨
    (lbDue pre rest = (if (lbWanted rs).isSome = true then some rs.length else none) ∧ ∃ y1, dLoop (tgN 1) m__law_due_b1 ((List.range' pre.length rest.length).map fun (j : Nat) => W.int (j : Int)) [some (.v (.lst (rs.map Rw.w))), x1] S = .ok (.nx [some (.v (.lst (rs.map Rw.w))), y1]) S)
  | [], pre, x1, e => by
    rw [List.append_nil] at e
    subst e
    exact .inr ⟨rfl, x1, rfl⟩
  | r :: rest, pre, x1, e => by
    have ct : cutL (rs.map Rw.w) none (some (pre.length : Int)) = pre.map Rw.w := by
      rw [cut_take, ← e, List.map_append, ← List.length_map (f := Rw.w), List.take_left]
    have ix : fIx (.lst (rs.map Rw.w)) (.int (pre.length : Int)) = some (.val r.w) := by
      rw [ix_pk (by omega) (by rw [List.length_map, ← e]; simp; omega)]
      simp [pk, ← e]
    have hp : ∀ x ∈ pre, Rk x := fun x hx => hr x (by rw [← e]; exact List.mem_append_left _ hx)
    have hr0 : Rk r := hr r (by rw [← e]; simp)
    have pl : pre.length ≤ 1000 := by have : rs.length = pre.length + (rest.length + 1) := by rw [← e]; simp
                                      omega
    have MY := may_w (S := S) pre (by omega) (fun r h => (hp r h).len) r hr0.len
    rw [List.length_cons, List.range'_succ, List.map_cons]
    cases hm : lbMay pre r
    · rw [hm] at MY
      refine .inl ⟨pre.length, by unfold lbDue; simp [hm], ?_⟩
      rw [dLoop_cons]
      generalize rs.map Rw.w = L at *
      simp [m__law_due_b1, ct, ix, MY]
    · rw [hm] at MY
      have ih := due_loop (S := S) hl hr rest (pre ++ [r]) (some (.v (.int (pre.length : Int)))) (by rw [← e]; simp)
      have ld : lbDue pre (r :: rest) = lbDue (pre ++ [r]) rest := by rw [lbDue]; simp [hm]
      rw [ld]
      have pl1 : (pre ++ [r]).length = pre.length + 1 := by simp
      rw [pl1] at ih
      have b : m__law_due_b1 [some (.v (.lst (rs.map Rw.w))), some (.v (.int (pre.length : Int)))] S = .ok (.nx [some (.v (.lst (rs.map Rw.w))), some (.v (.int (pre.length : Int)))]) S := by
        generalize rs.map Rw.w = L at *
        simp [m__law_due_b1, ct, ix, MY]
      have key : ∀ R : List W, dLoop (tgN 1) m__law_due_b1 (W.int (pre.length : Int) :: R) [some (.v (.lst (rs.map Rw.w))), x1] S = dLoop (tgN 1) m__law_due_b1 R [some (.v (.lst (rs.map Rw.w))), some (.v (.int (pre.length : Int)))] S := fun R => by
        rw [dLoop_cons, show tgN 1 (.int (pre.length : Int)) [some (.v (.lst (rs.map Rw.w))), x1] = some [some (.v (.lst (rs.map Rw.w))), some (.v (.int (pre.length : Int)))] from rfl]
        simp only [b]
      rw [key]
      exact ih
theorem due_w {S : Store} (rs : List Rw) (hl : rs.length ≤ 1000) (hr : ∀ r ∈ rs, Rk r) : m__law_due [.v (.lst (rs.map Rw.w))] S = .ok (.v (judW (judgeP rs))) S := by
  obtain ⟨K0, K1, hf, h0, h1⟩ := m__law_due_st
  have m1 : dCall false fLen (dCons (dVar 0) dNil) [some (.v (.lst (rs.map Rw.w))), none] S = .ok (.v (.int (rs.length : Int))) S := by simp
  have r := for_rng (t := tgN 1) (b := m__law_due_b1) m1 (by omega) (by omega)
  rw [judgeP_due]
  have WN := wanted_w (S := S) rs (by omega)
  have L := due_loop (S := S) hl hr rs [] none rfl
  have tn : ((rs.length : Nat) : Int).toNat = rs.length := by omega
  rw [tn, List.range_eq_range'] at r
  have z : m__law_due [.v (.lst (rs.map Rw.w))] S = fnR S.length (K0 [some (.v (.lst (rs.map Rw.w))), none] S) := hf _ _
  rw [z, h0, r]
  rcases L with ⟨i, e1, e2⟩ | ⟨e1, y1, e2⟩
  · rw [e1]
    rw [show ([] : List Rw).length = 0 from rfl] at e2
    rw [e2]
    simp [judW]
  · rw [e1]
    rw [show ([] : List Rw).length = 0 from rfl] at e2
    rw [e2]
    simp only [Rs.bind_nx]
    rw [h1]
    have nn := dueW_is (lbWanted rs)
    have ll : ((rs.map Rw.w).length : Int) = (rs.length : Int) := by simp
    generalize rs.map Rw.w = L at *
    cases hw : lbWanted rs with
    | none => rw [hw] at WN nn; simp at nn; simp [WN, nn, judW]
    | some d => rw [hw] at WN nn; simp at nn; simp [WN, nn, judW, ll]
end BelLaw

namespace BelLaw
open PySem PySem.Spec PyProof.Rows L2 Bel
theorem cutL_map {α β : Type} (f : α → β) (l : List α) (lo hi : Option Int) : cutL (l.map f) lo hi = (cutL l lo hi).map f := by
  simp [cutL, List.map_drop, List.map_take]
theorem cutL_mem {α : Type} {l : List α} {lo hi : Option Int} {x : α} (h : x ∈ cutL l lo hi) : x ∈ l := List.mem_of_mem_drop (List.mem_of_mem_take h)
theorem cutL_len {α : Type} (l : List α) (lo hi : Option Int) : (cutL l lo hi).length ≤ l.length := by
  unfold cutL
  rw [List.length_take, List.length_drop]
  omega
theorem spoilt_w {T : Store} {k : Nat} {n : Int} (hk : T[k]? = some (stt n)) {rs : List Rw} (hl : rs.length ≤ 200) (hr : ∀ r ∈ rs, Rk r) : ∃ rs' : List Rw, ∃ n', rs'.length ≤ 1000 ∧ (∀ r ∈ rs', Rk r) ∧ m__law_spoilt [.o k, .v (.lst (rs.map Rw.w))] T = .ok (.v (.lst (rs'.map Rw.w))) (T.set k (stt n')) := by
  obtain ⟨K0, K1, K2, K3, K4, K5, K6, K7, K8, hf, h0, h1, h2, h3, h4, h5, h6, h7, h8⟩ := m__law_spoilt_st
  have N0 := nextK_at (m := (rs.length : Int) + 1) hk (by omega) (by omega)
  have hk1 := st_at hk (stt (n / ((rs.length : Int) + 1)))
  obtain ⟨odd, n1, ho, A⟩ := any_row_w hk1 (rs := rs) (by omega) hr
  have hk2 := st_at hk1 (stt n1)
  have N2 := nextK_at (m := 6) hk2 (by decide) (by decide)
  simp only [List.set_set] at A N2
  have ha0 : 0 ≤ n % ((rs.length : Int) + 1) := Int.emod_nonneg _ (by omega)
  generalize hat : n % ((rs.length : Int) + 1) = a at *
  generalize hT : T.set k (stt (n1 / 6)) = T3 at *
  have lT : T3.length = T.length := by rw [← hT]; simp
  have ll : ((rs.map Rw.w).length : Int) = (rs.length : Int) := by simp
  have start : m__law_spoilt [.o k, .v (.lst (rs.map Rw.w))] T = fnR T.length (K3 [some (.o k), some (.v (.lst (rs.map Rw.w))), some (.v (.int a)), some (.v odd.w), some (.v (.int (n1 % 6)))] T3) := by
    generalize rs.map Rw.w = L at *
    rw [hf, h0]
    simp [ll, N0]
    rw [h1]
    simp [A]
    rw [h2]
    simp [N2]
  rw [start]
  have wrap : ∀ (rs' : List Rw) (x : Rs), rs'.length ≤ 1000 → (∀ r ∈ rs', Rk r) → x = .ok (.rt (.v (.lst (rs'.map Rw.w)))) T3 → ∃ rs' : List Rw, ∃ n', rs'.length ≤ 1000 ∧ (∀ r ∈ rs', Rk r) ∧ fnR T.length x = .ok (.v (.lst (rs'.map Rw.w))) (T.set k (stt n')) := fun rs' x h1 h2 e => by
    refine ⟨rs', n1 / 6, h1, h2, ?_⟩
    rw [e, fnR_rt, fin_v, hT, ← lT]
    simp
  have w6 : n1 % 6 = 0 ∨ n1 % 6 = 1 ∨ n1 % 6 = 2 ∨ n1 % 6 = 3 ∨ n1 % 6 = 4 ∨ n1 % 6 = 5 := by omega
  have cm := fun lo hi => cutL_map Rw.w rs lo hi
  have cl := fun lo hi => cutL_len rs lo hi
  have ck : ∀ lo hi, ∀ r ∈ cutL rs lo hi, Rk r := fun lo hi r h => hr r (cutL_mem h)
  have add : ∀ l m : List Rw, l.length ≤ 500 → m.length ≤ 500 → fAdd (.lst (l.map Rw.w)) (.lst (m.map Rw.w)) = some (.nl ((l ++ m).map Rw.w)) := fun l m h1 h2 => by
    rw [fAdd_lst (by simp; omega), List.map_append]
  have app : ∀ l m : List Rw, (∀ r ∈ l, Rk r) → (∀ r ∈ m, Rk r) → ∀ r ∈ l ++ m, Rk r := fun l m h1 h2 r h => (List.mem_append.mp h).elim (h1 r) (h2 r)
  have odd1 : [odd.w] = ([odd] : List Rw).map Rw.w := rfl
  have ok1 : ∀ r ∈ ([odd] : List Rw), Rk r := fun r h => by simp at h; subst h; exact ho
  have c1 := cl none (some a)
  have c2 := cl (some (a + 1)) none
  have c3 := cl (some a) (some (a + 2))
  have c4 := cl (some (a + 2)) none
  have c5 := cl (some a) none
  rcases w6 with w | w | w | w | w | w
  · refine wrap (cutL rs none (some a)) _ (by omega) (ck _ _) ?_
    rw [w, h3]
    simp [cm]
  · refine wrap (cutL rs none (some a) ++ cutL rs (some (a + 1)) none) _ (by simp; omega) (app _ _ (ck _ _) (ck _ _)) ?_
    have a1 := add (cutL rs none (some a)) (cutL rs (some (a + 1)) none) (by omega) (by omega)
    generalize (cutL rs none (some a) ++ cutL rs (some (a + 1)) none).map Rw.w = R at *
    rw [w, h3]
    simp
    rw [h4]
    simp [cm, a1]
  · refine wrap (cutL rs none (some a) ++ (cutL rs (some a) (some (a + 2))).reverse ++ cutL rs (some (a + 2)) none) _ (by simp; omega) (app _ _ (app _ _ (ck _ _) (fun r h => ck _ _ r (List.mem_reverse.mp h))) (ck _ _)) ?_
    have a1 := add (cutL rs none (some a)) (cutL rs (some a) (some (a + 2))).reverse (by omega) (by simp; omega)
    have a2 := add (cutL rs none (some a) ++ (cutL rs (some a) (some (a + 2))).reverse) (cutL rs (some (a + 2)) none) (by simp; omega) (by omega)
    generalize (cutL rs none (some a) ++ (cutL rs (some a) (some (a + 2))).reverse ++ cutL rs (some (a + 2)) none).map Rw.w = R2 at *
    generalize (cutL rs none (some a) ++ (cutL rs (some a) (some (a + 2))).reverse).map Rw.w = R1 at *
    rw [w, h3]
    simp
    rw [h4]
    simp
    rw [h5]
    rw [List.map_reverse] at a1
    simp [cm, a1, a2]
  · refine wrap (cutL rs none (some a) ++ [odd] ++ cutL rs (some (a + 1)) none) _ (by simp; omega) (app _ _ (app _ _ (ck _ _) ok1) (ck _ _)) ?_
    have a1 := add (cutL rs none (some a)) [odd] (by omega) (by simp)
    have a2 := add (cutL rs none (some a) ++ [odd]) (cutL rs (some (a + 1)) none) (by simp; omega) (by omega)
    generalize (cutL rs none (some a) ++ [odd] ++ cutL rs (some (a + 1)) none).map Rw.w = R2 at *
    generalize (cutL rs none (some a) ++ [odd]).map Rw.w = R1 at *
    rw [w, h3]
    simp
    rw [h4]
    simp
    rw [h5]
    simp
    rw [h6]
    have a1' : fAdd (.lst ((cutL rs none (some a)).map Rw.w)) (.lst [odd.w]) = some (.nl R1) := a1
    simp [cm, a1', a2]
  · refine wrap (cutL rs none (some a) ++ [odd] ++ cutL rs (some a) none) _ (by simp; omega) (app _ _ (app _ _ (ck _ _) ok1) (ck _ _)) ?_
    have a1 := add (cutL rs none (some a)) [odd] (by omega) (by simp)
    have a2 := add (cutL rs none (some a) ++ [odd]) (cutL rs (some a) none) (by simp; omega) (by omega)
    generalize (cutL rs none (some a) ++ [odd] ++ cutL rs (some a) none).map Rw.w = R2 at *
    generalize (cutL rs none (some a) ++ [odd]).map Rw.w = R1 at *
    rw [w, h3]
    simp
    rw [h4]
    simp
    rw [h5]
    simp
    rw [h6]
    simp
    rw [h7]
    have a1' : fAdd (.lst ((cutL rs none (some a)).map Rw.w)) (.lst [odd.w]) = some (.nl R1) := a1
    simp [cm, a1', a2]
  · have e7 : ∀ b, fEq (.lst (rs.map Rw.w)) (.lst []) = some (.val (.bl b)) → (b = decide (rs = [])) := fun b h => by
      rw [fEq_is (shp_rows _ 64 (by decide)) rfl] at h
      cases rs <;> cases h <;> rfl
    by_cases rn : rs = []
    · subst rn
      refine wrap (cutL ([] : List Rw) none (some a) ++ [odd] ++ cutL ([] : List Rw) (some a) none) _ (by simp; omega) (app _ _ (app _ _ (ck _ _) ok1) (ck _ _)) ?_
      have a1 := add (cutL ([] : List Rw) none (some a)) [odd] (by omega) (by simp)
      have a2 := add (cutL ([] : List Rw) none (some a) ++ [odd]) (cutL ([] : List Rw) (some a) none) (by simp; omega) (by omega)
      have e8 : fEq (.lst []) (.lst []) = some (.val (.bl true)) := rfl
      generalize (cutL ([] : List Rw) none (some a) ++ [odd] ++ cutL ([] : List Rw) (some a) none).map Rw.w = R2 at *
      generalize (cutL ([] : List Rw) none (some a) ++ [odd]).map Rw.w = R1 at *
      rw [w, h3]
      simp
      rw [h4]
      simp
      rw [h5]
      simp
      rw [h6]
      simp
      rw [h7]
      have a1' : fAdd (.lst ((cutL ([] : List Rw) none (some a)).map Rw.w)) (.lst [odd.w]) = some (.nl R1) := a1
      have cm' : ∀ lo hi, cutL ([] : List W) lo hi = (cutL ([] : List Rw) lo hi).map Rw.w := fun lo hi => cm lo hi
      simp [cm', a1', a2, e8]
    · have e8 : fEq (.lst (rs.map Rw.w)) (.lst []) = some (.val (.bl false)) := by
        rw [fEq_is (shp_rows _ 64 (by decide)) rfl]
        cases rs with
        | nil => exact absurd rfl rn
        | cons _ _ => rfl
      have lp : 0 < rs.length := List.length_pos_iff.mpr rn
      have m2 : fMin2 [.int a, .int ((rs.length : Int) - 1)] = some (.val (.int (min a ((rs.length : Int) - 1)))) := by
        simp only [fMin2]
        congr 3
        omega
      obtain ⟨i, hi, hi2⟩ : ∃ i : Nat, i < rs.length ∧ min a ((rs.length : Int) - 1) = (i : Int) := ⟨(min a ((rs.length : Int) - 1)).toNat, by omega, by omega⟩
      rw [hi2] at m2
      have ix : fIx (.lst (rs.map Rw.w)) (.int (i : Int)) = some (.val rs[i].w) := by
        rw [ix_pk (by omega) (by simp; omega)]
        simp [pk, hi]
      have rk1 : ∀ r ∈ ([rs[i]] : List Rw), Rk r := fun r h => by simp at h; subst h; exact hr _ (List.getElem_mem _)
      refine wrap (cutL rs none (some a) ++ [rs[i]] ++ cutL rs (some a) none) _ (by simp; omega) (app _ _ (app _ _ (ck _ _) rk1) (ck _ _)) ?_
      have a1 := add (cutL rs none (some a)) [rs[i]] (by omega) (by simp)
      have a2 := add (cutL rs none (some a) ++ [rs[i]]) (cutL rs (some a) none) (by simp; omega) (by omega)
      generalize (cutL rs none (some a) ++ [rs[i]] ++ cutL rs (some a) none).map Rw.w = R2 at *
      generalize (cutL rs none (some a) ++ [rs[i]]).map Rw.w = R1 at *
      rw [w, h3]
      simp
      rw [h4]
      simp
      rw [h5]
      simp
      rw [h6]
      simp
      rw [h7]
      have a1' : fAdd (.lst ((cutL rs none (some a)).map Rw.w)) (.lst [rs[i].w]) = some (.nl R1) := a1
      generalize rs[i].w = q at *
      generalize hL : rs.map Rw.w = L at *
      simp [e8]
      rw [h8]
      simp [cm, ll, m2, ix, a1', a2]
end BelLaw

namespace Bel
open PySem PySem.Spec PyProof.Rows L2
theorem dFn_ok {f : DF} {n : Nat} {a : DA} {e : Env'} {S S1 : Store} {us : List U} {r : Re U} (ha : a e S = .ok us S1) (hn : us.length = n) (hf : f us S1 = r) : dFn f n a e S = r := by
  rw [dFn_ap, ha]; simp [hn, hf]
theorem dFnP_ok {f : DF} {n : Nat} {a : DA} {e : Env'} {S S1 T : Store} {us : List U} {w : W} (ha : a e S = .ok us S1) (hn : us.length = n) (hv : us.all isV = true) (hf : f us [] = .ok (.v w) T) : dFnP f n a e S = .ok (.v w) S1 := by
  rw [dFnP_ap, ha, Re.bind_ok, if_pos ⟨hn, hv⟩, hf]
theorem dLoop_step {t : W → Env' → Option Env'} {body : DS} {w : W} {r : List W} {e e1 e2 : Env'} {S S2 : Store} (h1 : t w e = some e1) (h2 : body e1 S = .ok (.nx e2) S2) : dLoop t body (w :: r) e S = dLoop t body r e2 S2 := by
  rw [dLoop_cons, h1]; simp [h2]
theorem dAsg_ok {i : Nat} {d : DE} {e : Env'} {S S1 : Store} {u : U} (h : d e S = .ok u S1) : dAsg i d e S = .ok (.nx (e.set i (some u))) S1 := by
  rw [dAsg_ap, h]; rfl
theorem kasg {K0 K1 : DS} {i : Nat} {d : DE} (h0 : ∀ (e : Env') (S : Store), K0 e S = (dAsg i d e S).bind K1) {E E' : Env'} {S S' : Store} {u : U} (h : d E S = .ok u S') (hE : E.set i (some u) = E') : K0 E S = K1 E' S' := by
  subst hE
  rw [h0, dAsg_ok h]
  rfl
theorem dBin_ok {own : Bool} {f : W → W → Option Out} {a b : DE} {e : Env'} {S S1 S2 : Store} {u v : U} {x y : W} (ha : a e S = .ok u S1) (hb : b e S1 = .ok v S2) (hx : dr S2 u = some x) (hy : dr S2 v = some y) : dBin own f a b e S = putO own (f x y) S2 := by
  rw [dBin_ap, ha]; simp [hb, hx, hy]
theorem dFor_ok {src : DI} {t : W → Env' → Option Env'} {body : DS} {e : Env'} {S S1 : Store} {ws : List W} {r : Rs} (hs : src e S = .ok ws S1) (hl : dLoop t body ws e S1 = r) : dFor src t body e S = r := by
  rw [dFor_ap, hs]; exact hl
theorem kst {K0 K1 : DS} {d : DS} (h0 : ∀ (e : Env') (S : Store), K0 e S = (d e S).bind K1) {E E' : Env'} {S S' : Store} (h : d E S = .ok (.nx E') S') : K0 E S = K1 E' S' := by
  rw [h0, h]; rfl
theorem dLc_ok {own : Bool} {src : DI} {t : W → Env' → Option Env'} {tt : DT} {te : DE} {vs : List Nat} {e : Env'} {S S1 S2 : Store} {ws xs : List W} (hs : src e S = .ok ws S1) (hl : ws.length ≤ 16777216) (hx : lcL t tt te (wipeE e vs) ws S1 = .ok xs S2) : dLc own src t tt te vs e S = (Out.nl xs).put own S2 := by
  rw [dLc_ap, hs]
  simp only [Re.bind_ok, if_pos hl, hx]
  rfl
end Bel

namespace BelLaw
open PySem PySem.Spec PyProof.Rows L2 Bel
def recW (l : List Rw) : W := .lst (l.map Rw.w)
theorem comp_w {rs : List Rw} (hl : rs.length ≤ 200) (hr : ∀ r ∈ rs, Rk r) {k : Nat} {x0 x3 x4 x5 x6 : Option U} : ∀ (ws : List W) (T : Store) (n : Int) (x7 : Option U), T[k]? = some (stt n) →
    ∃ (rss : List (List Rw)) (n' : Int), (∀ l ∈ rss, l.length ≤ 1000 ∧ ∀ r ∈ l, Rk r) ∧ rss.length = ws.length ∧ lcL (tgN 7) dYes m_law_e1 [x0, some (.v (.lst (rs.map Rw.w))), some (.o k), x3, x4, x5, x6, x7] ws T = .ok (rss.map recW) (T.set k (stt n'))
  | [], T, n, x7, hk => ⟨[], n, by simp, rfl, by rw [set_same hk]; rfl⟩
  | w :: ws, T, n, x7, hk => by
    obtain ⟨l, n1, h1, h2, e1⟩ := spoilt_w hk hl hr
    obtain ⟨rss, n2, h3, h5, e2⟩ := comp_w hl hr (x0 := x0) (x3 := x3) (x4 := x4) (x5 := x5) (x6 := x6) ws (T.set k (stt n1)) n1 x7 (st_at hk _)
    refine ⟨l :: rss, n2, fun m hm => ?_, by simp [h5], ?_⟩
    · rcases List.mem_cons.mp hm with rfl | hm
      · exact ⟨h1, h2⟩
      · exact h3 m hm
    · rw [lcL_cons]
      rw [List.set_set] at e2
      have e3 : m_law_e1 [x0, some (.v (.lst (rs.map Rw.w))), some (.o k), x3, x4, x5, x6, some (.v w)] T = .ok (.v (recW l)) (T.set k (stt n1)) := by
        unfold recW
        generalize rs.map Rw.w = L at *
        simp [m_law_e1, e1]
      have e4 : tgN 7 w [x0, some (.v (.lst (rs.map Rw.w))), some (.o k), x3, x4, x5, x6, x7] = some [x0, some (.v (.lst (rs.map Rw.w))), some (.o k), x3, x4, x5, x6, some (.v w)] := rfl
      rw [e4]
      simp [e3, e2]
theorem b2_turn {s : List Rw} (h1 : s.length ≤ 1000) (h2 : ∀ r ∈ s, Rk r) {T : Store} {x0 x1 x2 x4 x5 x6 x7 : Option U} : ∃ y4 y5 y6, m_law_b2 [x0, x1, x2, some (.v (recW s)), x4, x5, x6, x7] T = .ok (.nx [x0, x1, x2, some (.v (recW s)), y4, y5, y6, x7]) T := by
  obtain ⟨K0, K1, K2, K3, K4, hf, h0, h11, h22, h33, h44⟩ := m_law_b2_st
  have D := due_w (S := T) s h1 h2
  obtain ⟨T1, J1⟩ := judged_ok s (by omega) (fun r hr => (h2 r hr).ok)
  obtain ⟨T2, J2⟩ := judged_tup s (by omega) (fun r hr => (h2 r hr).ok)
  refine ⟨some (.v (judW (judgeP s))), some (.v (recW s)), some (.v (judW (judgeP s))), ?_⟩
  have ne1 : fNe (judW (judgeP s)) (judW (judgeP s)) = some (.val (.bl false)) := by
    cases judgeP s with
    | none => rfl
    | some i => simp [judW]
  have ne2 : fNe (recW s) (recW s) = some (.val (.bl false)) := by
    have sh : shp 64 (recW s) = true := shp_rows s 64 (by decide)
    rw [fNe_is sh sh, eqD_refl 64 _ sh]
    rfl
  have ib : isBl (judW (judgeP s)) = false := by cases judgeP s <;> rfl
  have bd : isBad (judW (judgeP s)) = false := by cases judgeP s <;> rfl
  have l2 : (s.map Rw.w).length ≤ 16777216 := by simp; omega
  unfold recW at *
  generalize s.map Rw.w = L at *
  generalize judW (judgeP s) = J at *
  rw [hf, kasg h0 (dFn_ok rfl rfl D) rfl]
  rw [kasg h11 (u := .v (.lst L)) (S' := T) (by simp) rfl]
  rw [kasg h22 (dFnP_ok rfl rfl rfl J1) rfl]
  rw [h33]
  simp [ib, bd, ne1, ne2]
  rw [h44]
  have tp : dCall false fTuple (dCons (dVar 3) dNil) [x0, x1, x2, some (.v (.lst L)), some (.v J), some (.v (.lst L)), some (.v J), x7] T = .ok (.v (.tup L)) T := by simp
  have jt : dFnP g_judged 1 (dCons (dCall false fTuple (dCons (dVar 3) dNil)) dNil) [x0, x1, x2, some (.v (.lst L)), some (.v J), some (.v (.lst L)), some (.v J), x7] T = .ok (.v J) T := dFnP_ok (us := [.v (.tup L)]) (S1 := T) (by rw [dCons_ap, tp]; rfl) rfl rfl J2
  generalize dFnP g_judged 1 (dCons (dCall false fTuple (dCons (dVar 3) dNil)) dNil) = G at *
  simp [jt, ne1]
theorem loop_w {x0 x1 x2 x7 : Option U} : ∀ (ss : List (List Rw)) (T : Store) (x3 x4 x5 x6 : Option U), (∀ l ∈ ss, l.length ≤ 1000 ∧ ∀ r ∈ l, Rk r) →
    ∃ y3 y4 y5 y6, dLoop (tgN 3) m_law_b2 (ss.map recW) [x0, x1, x2, x3, x4, x5, x6, x7] T = .ok (.nx [x0, x1, x2, y3, y4, y5, y6, x7]) T
  | [], T, x3, x4, x5, x6, _ => ⟨x3, x4, x5, x6, rfl⟩
  | s :: ss, T, x3, x4, x5, x6, h => by
    obtain ⟨h1, h2⟩ := h s List.mem_cons_self
    obtain ⟨y4, y5, y6, e⟩ := b2_turn h1 h2 (T := T) (x0 := x0) (x1 := x1) (x2 := x2) (x4 := x4) (x5 := x5) (x6 := x6) (x7 := x7)
    obtain ⟨z3, z4, z5, z6, e2⟩ := loop_w (x0 := x0) (x1 := x1) (x2 := x2) (x7 := x7) ss T (some (.v (recW s))) y4 y5 y6 (fun l hl => h l (List.mem_cons_of_mem _ hl))
    refine ⟨z3, z4, z5, z6, ?_⟩
    rw [List.map_cons, dLoop_step (e1 := [x0, x1, x2, some (.v (recW s)), x4, x5, x6, x7]) rfl e]
    exact e2
theorem law_true : ∀ ns : List Int, ns.length ≤ 63 → ∃ S', m_law [.o 0] [.scr (ns.map W.int)] = .ok (.v (.bl true)) S' := fun ns hn => by
  have h00 : ([Ob.scr (ns.map W.int)] : Store)[0]? = some (.scr (ns.map W.int)) := rfl
  obtain ⟨rs, hl, hr, S0, l0, s0, MD⟩ := made_w hn h00
  obtain ⟨K0, K1, K2, K3, K4, hf, h0, h1, h2, h3, h4⟩ := m_law_st
  have l1 : S0.length = 1 := l0
  have MD' : m__law_made [.o 0] [Ob.scr (ns.map W.int)] = .ok (.o 1) (S0 ++ [.lst (rs.map Rw.w)]) := MD
  have at1 : (S0 ++ [Ob.lst (rs.map Rw.w)])[1]? = some (.lst (rs.map Rw.w)) := by rw [← l1]; exact st_app
  generalize hS1 : (S0 ++ [Ob.lst (rs.map Rw.w)]).set 1 .dead = S1 at *
  have s1 : S1[0]? = some (.scr (ns.map W.int)) := by rw [← hS1, st_off (by decide)]; exact st_old s0
  have dr1 : dr S1 (.o 0) = some (.lst (ns.map W.int)) := by unfold dr; dsimp only; rw [s1]
  have sm : fSum [.lst (ns.map W.int)] = some (.val (.int ns.sum)) := sum_ints ns
  have ab : fAbs [.int ns.sum] = some (.val (.int (if ns.sum < 0 then -ns.sum else ns.sum))) := rfl
  have p16 : fPow (.int 10) (.int 16) = some (.val (.int 10000000000000000)) := rfl
  generalize (if ns.sum < 0 then -ns.sum else ns.sum) = a at *
  have md : fMod (.int a) (.int 10000000000000000) = some (.val (.int (a % 10000000000000000))) := fMod_int (by decide)
  have ml : fMul (.int (a % 10000000000000000)) (.int 31) = some (.val (.int (a % 10000000000000000 * 31))) := mul_ok (.inr (by decide))
  obtain ⟨n, st⟩ := state_pl (S := S1) (u := .v (.lst [.int (a % 10000000000000000 * 31 + ns.length)])) (j := 0) (ns := [a % 10000000000000000 * 31 + ns.length]) rfl (by simp) (by decide)
  have hk : (S1 ++ [stt n])[S1.length]? = some (stt n) := st_app
  obtain ⟨rss, n', q1, q2, q3⟩ := comp_w (rs := rs) (by omega) hr (x0 := some (.o 0)) (x3 := none) (x4 := none) (x5 := none) (x6 := none) ((List.range 6).map fun (j : Nat) => W.int (j : Int)) (S1 ++ [stt n]) n none hk
  have rg : ∀ (e : Env') (S : Store), dRng1 (dC (.int 6)) e S = .ok ((List.range 6).map fun (j : Nat) => W.int (j : Int)) S := fun e S => rng_ok (i := 6) rfl (by decide) (by decide)
  have q2' : rss.length = 6 := by simpa using q2
  have a1 : fAdd (.lst [.lst (rs.map Rw.w)]) (.lst (rss.map recW)) = some (.nl ((rs :: rss).map recW)) := by rw [fAdd_lst (by simp; omega)]; rfl
  obtain ⟨y3, y4, y5, y6, lp⟩ := loop_w (x0 := some (.o 0)) (x1 := some (.v (.lst (rs.map Rw.w)))) (x2 := some (.o S1.length)) (x7 := none) (rs :: rss) ((S1 ++ [stt n]).set S1.length (stt n')) none none none none (fun l hl' => by
    rcases List.mem_cons.mp hl' with rfl | h
    · exact ⟨by omega, hr⟩
    · exact q1 l h)
  have rl : (rss.map recW).length ≤ 16777216 := by simp; omega
  have nl : ns.length ≤ 16777216 := by omega
  refine ⟨((S1 ++ [stt n]).set S1.length (stt n')).take 1, ?_⟩
  generalize (rs :: rss).map recW = R2 at *
  generalize rss.map recW = R1 at *
  generalize hR6 : (List.range 6).map (fun (j : Nat) => W.int (j : Int)) = R6 at *
  generalize rs.map Rw.w = L at *
  rw [hf, kasg h0 (dFn_ok rfl rfl MD') rfl]
  rw [h1]
  have fz : dFrzV 1 [some (.o 0), some (.o 1), none, none, none, none, none, none] (S0 ++ [.lst L]) = .ok (.nx [some (.o 0), some (.v (.lst L)), none, none, none, none, none, none]) S1 := by simp [frz, at1, hS1]
  have fz' : dFrzV 1 ((List.map some [U.o 0] ++ List.replicate (8 - [U.o 0].length) none).set 1 (some (.o 1))) (S0 ++ [.lst L]) = .ok (.nx [some (.o 0), some (.v (.lst L)), none, none, none, none, none, none]) S1 := fz
  rw [fz']
  simp only [Rs.bind_nx]
  have ag : (dCons (dDisp false .nl (dCons (dBin false fAdd (dBin false fMul (dBin false fMod (dCall false fAbs (dCons (dCall false fSum (dCons (dVar 0) dNil)) dNil)) (dBin false fPow (dC (.int 10)) (dC (.int 16)))) (dC (.int 31))) (dCall false fLen (dCons (dVar 0) dNil))) dNil)) (dCons (dC (.int 0)) dNil)) [some (.o 0), some (.v (.lst L)), none, none, none, none, none, none] S1 = .ok [.v (.lst [.int (a % 10000000000000000 * 31 + ns.length)]), .v (.int 0)] S1 := by
    simp [dr1, sm, ab, p16, md, ml]
  rw [kasg (E' := [some (.o 0), some (.v (.lst L)), some (.o S1.length), none, none, none, none, none]) h2 (dFn_ok ag rfl st) rfl]
  have lcE : dLc false (dRng1 (dC (.int 6))) (tgN 7) dYes m_law_e1 [7] [some (.o 0), some (.v (.lst L)), some (.o S1.length), none, none, none, none, none] (S1 ++ [stt n]) = .ok (.v (.lst R1)) ((S1 ++ [stt n]).set S1.length (stt n')) :=
    dLc_ok (rg _ _) (by rw [← hR6]; simp) q3
  have itE : dItL (dBin false fAdd (dDisp false .nl (dCons (dVar 1) dNil)) (dLc false (dRng1 (dC (.int 6))) (tgN 7) dYes m_law_e1 [7])) [some (.o 0), some (.v (.lst L)), some (.o S1.length), none, none, none, none, none] (S1 ++ [stt n]) = .ok R2 ((S1 ++ [stt n]).set S1.length (stt n')) := by
    have bn := dBin_ok (own := false) (f := fAdd) (a := dDisp false .nl (dCons (dVar 1) dNil)) (b := dLc false (dRng1 (dC (.int 6))) (tgN 7) dYes m_law_e1 [7]) (e := [some (.o 0), some (.v (.lst L)), some (.o S1.length), none, none, none, none, none]) (S := S1 ++ [stt n]) (S1 := S1 ++ [stt n]) (u := .v (.lst [.lst L])) (by simp) lcE rfl rfl
    rw [a1] at bn
    rw [dItL_ap, bn]
    rfl
  rw [kst h3 (dFor_ok itE lp)]
  rw [h4]
  simp
end BelLaw

namespace BelLaw
open PySem PySem.Spec PyProof.Rows L2 Bel
theorem bo_len : bootBuiltins "len" = some (.builtin "len") := by decide +kernel
theorem bo_abs : bootBuiltins "abs" = some (.builtin "abs") := by decide +kernel
theorem bo_int : bootBuiltins "int" = some (.type "int") := by decide +kernel
theorem bo_min : bootBuiltins "min" = some (.builtin "min") := by decide +kernel
theorem bo_bool : bootBuiltins "bool" = some (.type "bool") := by decide +kernel
theorem bo_tuple : bootBuiltins "tuple" = some (.type "tuple") := by decide +kernel
theorem bo_all : bootBuiltins "all" = some (.builtin "all") := by decide +kernel
theorem bo_max : bootBuiltins "max" = some (.builtin "max") := by decide +kernel
theorem bo_str : bootBuiltins "str" = some (.type "str") := by decide +kernel
theorem bo_list : bootBuiltins "list" = some (.type "list") := by decide +kernel
theorem bo_sum : bootBuiltins "sum" = some (.builtin "sum") := by decide +kernel
theorem lt_0 : Lit "starts" [115, 116, 97, 114, 116, 115] := ⟨by decide +kernel, by rw [sizeLine_is]; decide, by decide +kernel⟩
theorem lt_1 : Lit "runs" [114, 117, 110, 115] := ⟨by decide +kernel, by rw [sizeLine_is]; decide, by decide +kernel⟩
theorem lt_2 : Lit "ends" [101, 110, 100, 115] := ⟨by decide +kernel, by rw [sizeLine_is]; decide, by decide +kernel⟩
theorem lt_3 : Lit "stops" [115, 116, 111, 112, 115] := ⟨by decide +kernel, by rw [sizeLine_is]; decide, by decide +kernel⟩
theorem lt_4 : Lit "goes" [103, 111, 101, 115] := ⟨by decide +kernel, by rw [sizeLine_is]; decide, by decide +kernel⟩
theorem lt_5 : Lit "rung" [114, 117, 110, 103] := ⟨by decide +kernel, by rw [sizeLine_is]; decide, by decide +kernel⟩
theorem lt_6 : Lit "told" [116, 111, 108, 100] := ⟨by decide +kernel, by rw [sizeLine_is]; decide, by decide +kernel⟩
theorem lt_7 : Lit "says" [115, 97, 121, 115] := ⟨by decide +kernel, by rw [sizeLine_is]; decide, by decide +kernel⟩
theorem lt_8 : Lit "name" [110, 97, 109, 101] := ⟨by decide +kernel, by rw [sizeLine_is]; decide, by decide +kernel⟩
theorem lt_9 : Lit "status" [115, 116, 97, 116, 117, 115] := ⟨by decide +kernel, by rw [sizeLine_is]; decide, by decide +kernel⟩
theorem lt_10 : Lit "ended" [101, 110, 100, 101, 100] := ⟨by decide +kernel, by rw [sizeLine_is]; decide, by decide +kernel⟩
section
variable {P : Program} {w : World} {K : PySem.W.Frag} {mg : Str → Option Value} {base : Heap}
theorem sc__law_state : FnScope ["_law_script", "_law_k", "_law_cell", "_law_found", "_law_j", "_law_one"] ["_law_script", "_law_k"] (defScope (top 29)) := ⟨rfl, rfl, rfl, by decide +kernel, rfl, by decide +kernel, by decide +kernel⟩
theorem ok__law_state (Z : HdS K mg w fa fn kc kd be) : HasG P w K mg base (ecG K) "_law_state" 1 2 g__law_state := by
  exact Z.defG_ rfl 0 0 rfl rfl sc__law_state rfl rfl (fun _ _ _ _ _ _ us hl => match us, hl with | [_, _], _ => rfl) fun f cdv A outer s H E hr =>
    (bv_cons (sv_set (i := 2) sc__law_state.nd rfl (by first | exact .inl rfl | exact .inr rfl) (ev_if (tv_cmp (fun _ _ => op_lt) (ow_cmp _) (ev_var (i := 1) rfl (by first | exact .inl rfl | exact .inr (.inl rfl) | exact .inr (.inr rfl))) (ev_callB (own := false) (fun _ _ => call_lenW) oc_len rfl (Z.free 39) bo_len (av_cons (ev_var (i := 0) rfl (by first | exact .inl rfl | exact .inr (.inl rfl) | exact .inr (.inr rfl))) av_nil)) rfl) (ev_callB (own := false) (fun _ _ => call_abs) oc_abs rfl (Z.free 40) bo_abs (av_cons (ev_ix (r65 hr.r) (ev_var (i := 0) rfl (by first | exact .inl rfl | exact .inr (.inl rfl) | exact .inr (.inr rfl))) (ev_var (i := 1) rfl (by first | exact .inl rfl | exact .inr (.inl rfl) | exact .inr (.inr rfl)))) av_nil)) ev_int))
    (bv_cons (sv_if (tv_cmp (fun _ _ => op_ge) (ow_cmp _) (ev_var (i := 2) rfl (by first | exact .inl rfl | exact .inr (.inl rfl) | exact .inr (.inr rfl))) (ev_bin (own := false) (fun _ _ => op_pow) ow_pow ev_int ev_int) rfl) (bv_one (sv_ret (ev_lst (own := true) (av_cons (ev_bin (own := false) (fun _ _ => op_sub) ow_sub (ev_var (i := 2) rfl (by first | exact .inl rfl | exact .inr (.inl rfl) | exact .inr (.inr rfl))) (ev_bin (own := false) (fun _ _ => op_pow) ow_pow ev_int ev_int)) av_nil)))) bv_nil)
    (bv_cons (sv_set (i := 3) sc__law_state.nd rfl (by first | exact .inl rfl | exact .inr rfl) ev_int)
    (bv_cons (sv_for rfl (iv_rng1 rfl (Z.free 41) ev_int) (gv_name (i := 4) sc__law_state.nd rfl (by first | exact .inl rfl | exact .inr rfl)) (bv_cons (sv_set (i := 5) sc__law_state.nd rfl (by first | exact .inl rfl | exact .inr rfl) (ev_bin (own := false) (fun _ _ => op_mod) ow_mod (ev_bin (own := false) (fun _ _ => op_mul) ow_mul (ev_bin (own := false) (fun _ _ => op_addW) ow_add (ev_var (i := 2) rfl (by first | exact .inl rfl | exact .inr (.inl rfl) | exact .inr (.inr rfl))) (ev_bin (own := false) (fun _ _ => op_mul) ow_mul ev_int (ev_bin (own := false) (fun _ _ => op_addW) ow_add (ev_bin (own := false) (fun _ _ => op_addW) ow_add (ev_bin (own := false) (fun _ _ => op_mul) ow_mul ev_int (ev_var (i := 1) rfl (by first | exact .inl rfl | exact .inr (.inl rfl) | exact .inr (.inr rfl)))) (ev_var (i := 4) rfl (by first | exact .inl rfl | exact .inr (.inl rfl) | exact .inr (.inr rfl)))) ev_int))) ev_int) ev_int))
    (bv_one (sv_set (i := 3) sc__law_state.nd rfl (by first | exact .inl rfl | exact .inr rfl) (ev_bin (own := false) (fun _ _ => op_addW) ow_add (ev_bin (own := false) (fun _ _ => op_mul) ow_mul (ev_var (i := 3) rfl (by first | exact .inl rfl | exact .inr (.inl rfl) | exact .inr (.inr rfl))) ev_int) (ev_bin (own := false) (fun _ _ => op_mod) ow_mod (ev_bin (own := false) (fun _ _ => op_mul) ow_mul (ev_var (i := 5) rfl (by first | exact .inl rfl | exact .inr (.inl rfl) | exact .inr (.inr rfl))) (ev_bin (own := false) (fun _ _ => op_addW) ow_add (ev_bin (own := false) (fun _ _ => op_addW) ow_add (ev_var (i := 5) rfl (by first | exact .inl rfl | exact .inr (.inl rfl) | exact .inr (.inr rfl))) (ev_bin (own := false) (fun _ _ => op_mul) ow_mul ev_int (ev_var (i := 4) rfl (by first | exact .inl rfl | exact .inr (.inl rfl) | exact .inr (.inr rfl))))) ev_int)) ev_int))))))
    (bv_one (sv_ret (ev_lst (own := true) (av_cons (ev_var (i := 3) rfl (by first | exact .inl rfl | exact .inr (.inl rfl) | exact .inr (.inr rfl))) av_nil))))))))
theorem sc__law_there : FnScope ["_law_rows", "_law_name", "_law_row"] ["_law_rows", "_law_name"] (defScope (top 33)) := ⟨rfl, rfl, rfl, by decide +kernel, rfl, by decide +kernel, by decide +kernel⟩
theorem ok__law_there (Z : HdS K mg w fa fn kc kd be) : HasG P w K mg base (ecG K) "_law_there" 1 2 g__law_there := by
  exact Z.defG_ rfl 1 1 rfl rfl sc__law_there rfl rfl (fun _ _ _ _ _ _ us hl => match us, hl with | [_, _], _ => rfl) fun f cdv A outer s H E hr =>
    (bv_one (sv_ret (ev_or (ev_cmp (fun _ _ => op_eqD (Room.units hr.r)) ow_eq (ev_var (i := 1) rfl (by first | exact .inl rfl | exact .inr (.inl rfl) | exact .inr (.inr rfl))) (ev_tup av_nil) rfl) (ev_one (ev_cmp (fun _ _ => op_neNil (Room.units0 hr.r)) ow_neNil (ev_lc (own := false) (ow := [("_law_row", 2)]) rfl sc__law_there.nd (iv_list (ev_var (i := 0) rfl (by first | exact .inl rfl | exact .inr (.inl rfl) | exact .inr (.inr rfl)))) (blkOk_by (N := ["_law_rows", "_law_name", "_law_row"]) (sc := defScope (top 33)) (by decide +kernel)) (fun _ _ _ _ _ => (gv_name (i := 2) sc__law_there.nd rfl (by first | exact .inl rfl | exact .inr rfl))) (fun _ _ _ _ _ => (tsv_one (tv_w (tw_and (tv_cmp (fun _ _ => op_eqD (Room.units hr.r)) ow_eq (ev_ix (r65 hr.r) (ev_var (i := 2) rfl (by first | exact .inl rfl | exact .inr (.inl rfl) | exact .inr (.inr rfl))) ev_int) (ev_str lt_0) rfl) (tw_and1 (tv_cmp (fun _ _ => op_eqD (Room.units hr.r)) ow_eq (ev_ix (r65 hr.r) (ev_var (i := 2) rfl (by first | exact .inl rfl | exact .inr (.inl rfl) | exact .inr (.inr rfl))) ev_int) (ev_var (i := 1) rfl (by first | exact .inl rfl | exact .inr (.inl rfl) | exact .inr (.inr rfl))) rfl)))))) (fun _ _ _ _ _ => ev_int) (by decide)) (ev_lst (own := false) av_nil) rfl)))))
theorem sc__law_way : FnScope ["_law_rows", "_law_name", "_law_found", "_law_row"] ["_law_rows", "_law_name"] (defScope (top 32)) := ⟨rfl, rfl, rfl, by decide +kernel, rfl, by decide +kernel, by decide +kernel⟩
theorem ok__law_way (Z : HdS K mg w fa fn kc kd be) : HasG P w K mg base (ecG K) "_law_way" 1 2 g__law_way := by
  exact Z.defG_ rfl 2 2 rfl rfl sc__law_way rfl rfl (fun _ _ _ _ _ _ us hl => match us, hl with | [_, _], _ => rfl) fun f cdv A outer s H E hr =>
    (bv_cons (sv_set (i := 2) sc__law_way.nd rfl (by first | exact .inl rfl | exact .inr rfl) (ev_tup (av_cons (ev_str lt_1) (av_cons ev_int av_nil))))
    (bv_cons (sv_for rfl (iv_list (ev_var (i := 0) rfl (by first | exact .inl rfl | exact .inr (.inl rfl) | exact .inr (.inr rfl)))) (gv_name (i := 3) sc__law_way.nd rfl (by first | exact .inl rfl | exact .inr rfl)) (bv_cons (sv_if (tv_w (tw_and (tv_cmp (fun _ _ => op_inW (ec := ecG K) (r65 hr.r)) ow_in (ev_ix (r65 hr.r) (ev_var (i := 3) rfl (by first | exact .inl rfl | exact .inr (.inl rfl) | exact .inr (.inr rfl))) ev_int) (ev_tup (av_cons (ev_str lt_3) (av_cons (ev_str lt_2) av_nil))) rfl) (tw_and1 (tv_cmp (fun _ _ => op_eqD (Room.units hr.r)) ow_eq (ev_ix (r65 hr.r) (ev_var (i := 3) rfl (by first | exact .inl rfl | exact .inr (.inl rfl) | exact .inr (.inr rfl))) ev_int) (ev_var (i := 1) rfl (by first | exact .inl rfl | exact .inr (.inl rfl) | exact .inr (.inr rfl))) rfl)))) (bv_one (sv_set (i := 2) sc__law_way.nd rfl (by first | exact .inl rfl | exact .inr rfl) (ev_tup (av_cons (ev_ix (r65 hr.r) (ev_var (i := 3) rfl (by first | exact .inl rfl | exact .inr (.inl rfl) | exact .inr (.inr rfl))) ev_int) (av_cons (ev_ix (r65 hr.r) (ev_var (i := 3) rfl (by first | exact .inl rfl | exact .inr (.inl rfl) | exact .inr (.inr rfl))) ev_int) av_nil))))) bv_nil)
    (bv_one (sv_if (tv_w (tw_and (tv_cmp (fun _ _ => op_eqD (Room.units hr.r)) ow_eq (ev_ix (r65 hr.r) (ev_var (i := 3) rfl (by first | exact .inl rfl | exact .inr (.inl rfl) | exact .inr (.inr rfl))) ev_int) (ev_str lt_4) rfl) (tw_and1 (tv_cmp (fun _ _ => op_eqD (Room.units hr.r)) ow_eq (ev_ix (r65 hr.r) (ev_var (i := 3) rfl (by first | exact .inl rfl | exact .inr (.inl rfl) | exact .inr (.inr rfl))) ev_int) (ev_var (i := 1) rfl (by first | exact .inl rfl | exact .inr (.inl rfl) | exact .inr (.inr rfl))) rfl)))) (bv_one (sv_set (i := 2) sc__law_way.nd rfl (by first | exact .inl rfl | exact .inr rfl) (ev_tup (av_cons (ev_str lt_1) (av_cons ev_int av_nil))))) bv_nil))))
    (bv_one (sv_ret (ev_var (i := 2) rfl (by first | exact .inl rfl | exact .inr (.inl rfl) | exact .inr (.inr rfl)))))))
theorem sc__law_lives : FnScope ["_law_rows", "_law_name"] ["_law_rows", "_law_name"] (defScope (top 35)) := ⟨rfl, rfl, rfl, by decide +kernel, rfl, by decide +kernel, by decide +kernel⟩
theorem ok__law_lives (Z : HdS K mg w fa fn kc kd be) : HasG P w K mg base (ecG K) "_law_lives" 2 2 g__law_lives := by
  have h__law_there := ok__law_there (P := P) (w := w) (base := base) Z
  have h__law_way := ok__law_way (P := P) (w := w) (base := base) Z
  exact Z.defG_ rfl 3 3 rfl rfl sc__law_lives rfl rfl (fun _ _ _ _ _ _ us hl => match us, hl with | [_, _], _ => rfl) fun f cdv A outer s H E hr =>
    (bv_one (sv_ret (ev_and (ev_fnG (h__law_there.mono (by decide)) hr rfl (av_cons (ev_var (i := 0) rfl (by first | exact .inl rfl | exact .inr (.inl rfl) | exact .inr (.inr rfl))) (av_cons (ev_var (i := 1) rfl (by first | exact .inl rfl | exact .inr (.inl rfl) | exact .inr (.inr rfl))) av_nil))) (ev_one (ev_cmp (fun _ _ => op_neD (Room.units hr.r)) ow_ne (ev_ix (r65 hr.r) (ev_fnG (h__law_way.mono (by decide)) hr rfl (av_cons (ev_var (i := 0) rfl (by first | exact .inl rfl | exact .inr (.inl rfl) | exact .inr (.inr rfl))) (av_cons (ev_var (i := 1) rfl (by first | exact .inl rfl | exact .inr (.inl rfl) | exact .inr (.inr rfl))) av_nil))) ev_int) (ev_str lt_2) rfl)))))
theorem sc__law_wanted : FnScope ["_law_rows", "_law_last", "_law_ahead"] ["_law_rows"] (defScope (top 37)) := ⟨rfl, rfl, rfl, by decide +kernel, rfl, by decide +kernel, by decide +kernel⟩
theorem ok__law_wanted (Z : HdS K mg w fa fn kc kd be) : HasG P w K mg base (ecG K) "_law_wanted" 3 1 g__law_wanted := by
  have h__law_lives := ok__law_lives (P := P) (w := w) (base := base) Z
  have h__law_way := ok__law_way (P := P) (w := w) (base := base) Z
  exact Z.defG_ rfl 4 4 rfl rfl sc__law_wanted rfl rfl (fun _ _ _ _ _ _ us hl => match us, hl with | [_], _ => rfl) fun f cdv A outer s H E hr =>
    (bv_cons (sv_if (tv_cmp (fun _ _ => op_eqD (Room.units hr.r)) ow_eq (ev_var (i := 0) rfl (by first | exact .inl rfl | exact .inr (.inl rfl) | exact .inr (.inr rfl))) (ev_lst (own := false) av_nil) rfl) (bv_one (sv_ret ev_non)) bv_nil)
    (bv_cons (sv_par (i := 1) (j := 2) rfl sc__law_wanted.nd rfl rfl (by decide) rfl rfl (av_cons (ev_ix (r65 hr.r) (ev_var (i := 0) rfl (by first | exact .inl rfl | exact .inr (.inl rfl) | exact .inr (.inr rfl))) (ev_neg ev_int)) (av_cons (ev_sl (own := false) (ev_var (i := 0) rfl (by first | exact .inl rfl | exact .inr (.inl rfl) | exact .inr (.inr rfl))) ov_none (ov_some (ev_neg ev_int))) av_nil)))
    (bv_cons (sv_if (tv_w (tw_and (tv_cmp (fun _ _ => op_eqD (Room.units hr.r)) ow_eq (ev_ix (r65 hr.r) (ev_var (i := 1) rfl (by first | exact .inl rfl | exact .inr (.inl rfl) | exact .inr (.inr rfl))) ev_int) (ev_str lt_5) rfl) (tw_and (tv_cmp (fun _ _ => op_eqD (Room.units hr.r)) ow_eq (ev_ix (r65 hr.r) (ev_var (i := 1) rfl (by first | exact .inl rfl | exact .inr (.inl rfl) | exact .inr (.inr rfl))) ev_int) ev_int rfl) (tw_and1 (tv_cmp (fun _ _ => op_eqD (Room.units hr.r)) ow_eq (ev_ix (r65 hr.r) (ev_fnG (h__law_way.mono (by decide)) hr rfl (av_cons (ev_var (i := 2) rfl (by first | exact .inl rfl | exact .inr (.inl rfl) | exact .inr (.inr rfl))) (av_cons (ev_ix (r65 hr.r) (ev_var (i := 1) rfl (by first | exact .inl rfl | exact .inr (.inl rfl) | exact .inr (.inr rfl))) ev_int) av_nil))) ev_int) (ev_str lt_3) rfl))))) (bv_one (sv_ret (ev_tup (av_cons (ev_str lt_4) (av_cons (ev_ix (r65 hr.r) (ev_var (i := 1) rfl (by first | exact .inl rfl | exact .inr (.inl rfl) | exact .inr (.inr rfl))) ev_int) av_nil))))) bv_nil)
    (bv_cons (sv_if (tv_w (tw_and (tv_cmp (fun _ _ => op_inW (ec := ecG K) (r65 hr.r)) ow_in (ev_ix (r65 hr.r) (ev_var (i := 1) rfl (by first | exact .inl rfl | exact .inr (.inl rfl) | exact .inr (.inr rfl))) ev_int) (ev_tup (av_cons (ev_str lt_3) (av_cons (ev_str lt_2) av_nil))) rfl) (tw_and (tv_cmp (fun _ _ => op_neD (Room.units hr.r)) ow_ne (ev_ix (r65 hr.r) (ev_var (i := 1) rfl (by first | exact .inl rfl | exact .inr (.inl rfl) | exact .inr (.inr rfl))) ev_int) (ev_tup av_nil) rfl) (tw_and1 (tv_val (ev_fnG (h__law_lives.mono (by decide)) hr rfl (av_cons (ev_var (i := 0) rfl (by first | exact .inl rfl | exact .inr (.inl rfl) | exact .inr (.inr rfl))) (av_cons (ev_sl (own := false) (ev_ix (r65 hr.r) (ev_var (i := 1) rfl (by first | exact .inl rfl | exact .inr (.inl rfl) | exact .inr (.inr rfl))) ev_int) ov_none (ov_some (ev_neg ev_int))) av_nil)))))))) (bv_one (sv_ret (ev_tup (av_cons (ev_str lt_5) (av_cons (ev_sl (own := false) (ev_ix (r65 hr.r) (ev_var (i := 1) rfl (by first | exact .inl rfl | exact .inr (.inl rfl) | exact .inr (.inr rfl))) ev_int) ov_none (ov_some (ev_neg ev_int))) (av_cons ev_int av_nil)))))) bv_nil)
    (bv_one (sv_ret ev_non))))))
theorem sc__law_may_end : FnScope ["_law_rows", "_law_name", "_law_status", "_law_way_here", "_law_due_here", "_law_row"] ["_law_rows", "_law_name", "_law_status"] (defScope (top 40)) := ⟨rfl, rfl, rfl, by decide +kernel, rfl, by decide +kernel, by decide +kernel⟩
theorem ok__law_may_end (Z : HdS K mg w fa fn kc kd be) : HasG P w K mg base (ecG K) "_law_may_end" 2 3 g__law_may_end := by
  have h__law_way := ok__law_way (P := P) (w := w) (base := base) Z
  exact Z.defG_ rfl 5 5 rfl rfl sc__law_may_end rfl rfl (fun _ _ _ _ _ _ us hl => match us, hl with | [_, _, _], _ => rfl) fun f cdv A outer s H E hr =>
    (bv_cons (sv_set (i := 3) sc__law_may_end.nd rfl (by first | exact .inl rfl | exact .inr rfl) (ev_ix (r65 hr.r) (ev_fnG (h__law_way.mono (by decide)) hr rfl (av_cons (ev_var (i := 0) rfl (by first | exact .inl rfl | exact .inr (.inl rfl) | exact .inr (.inr rfl))) (av_cons (ev_var (i := 1) rfl (by first | exact .inl rfl | exact .inr (.inl rfl) | exact .inr (.inr rfl))) av_nil))) ev_int))
    (bv_cons (sv_if (tv_cmp (fun _ _ => op_lt) (ow_cmp _) (ev_var (i := 2) rfl (by first | exact .inl rfl | exact .inr (.inl rfl) | exact .inr (.inr rfl))) ev_int rfl) (bv_one (sv_ret (ev_cmp (fun _ _ => op_eqD (Room.units hr.r)) ow_eq (ev_var (i := 3) rfl (by first | exact .inl rfl | exact .inr (.inl rfl) | exact .inr (.inr rfl))) (ev_str lt_1) rfl))) bv_nil)
    (bv_cons (sv_set (i := 4) sc__law_may_end.nd rfl (by first | exact .inl rfl | exact .inr rfl) (ev_cmp (fun _ _ => op_neNil (Room.units0 hr.r)) ow_neNil (ev_lc (own := false) (ow := [("_law_row", 5)]) rfl sc__law_may_end.nd (iv_list (ev_var (i := 0) rfl (by first | exact .inl rfl | exact .inr (.inl rfl) | exact .inr (.inr rfl)))) (blkOk_by (N := ["_law_rows", "_law_name", "_law_status", "_law_way_here", "_law_due_here", "_law_row"]) (sc := defScope (top 40)) (by decide +kernel)) (fun _ _ _ _ _ => (gv_name (i := 5) sc__law_may_end.nd rfl (by first | exact .inl rfl | exact .inr rfl))) (fun _ _ _ _ _ => (tsv_one (tv_cmp (fun _ _ => op_eqD (Room.units hr.r)) ow_eq (ev_var (i := 5) rfl (by first | exact .inl rfl | exact .inr (.inl rfl) | exact .inr (.inr rfl))) (ev_tup (av_cons (ev_str lt_5) (av_cons (ev_var (i := 1) rfl (by first | exact .inl rfl | exact .inr (.inl rfl) | exact .inr (.inr rfl))) (av_cons (ev_bin (own := false) (fun _ _ => op_sub) ow_sub (ev_var (i := 2) rfl (by first | exact .inl rfl | exact .inr (.inl rfl) | exact .inr (.inr rfl))) ev_int) av_nil)))) rfl))) (fun _ _ _ _ _ => ev_int) (by decide)) (ev_lst (own := false) av_nil) rfl))
    (bv_one (sv_ret (ev_and (ev_var (i := 4) rfl (by first | exact .inl rfl | exact .inr (.inl rfl) | exact .inr (.inr rfl))) (ev_one (ev_or (ev_cmp (fun _ _ => op_eqD (Room.units hr.r)) ow_eq (ev_var (i := 3) rfl (by first | exact .inl rfl | exact .inr (.inl rfl) | exact .inr (.inr rfl))) (ev_str lt_1) rfl) (ev_one (ev_and (ev_cmp (fun _ _ => op_eqD (Room.units hr.r)) ow_eq (ev_var (i := 3) rfl (by first | exact .inl rfl | exact .inr (.inl rfl) | exact .inr (.inr rfl))) (ev_str lt_3) rfl) (ev_one (ev_cmp (fun _ _ => op_eqD (Room.units hr.r)) ow_eq (ev_var (i := 2) rfl (by first | exact .inl rfl | exact .inr (.inl rfl) | exact .inr (.inr rfl))) ev_int rfl))))))))))))
theorem sc__law_runs : FnScope ["_law_rows", "_law_name"] ["_law_rows", "_law_name"] (defScope (top 34)) := ⟨rfl, rfl, rfl, by decide +kernel, rfl, by decide +kernel, by decide +kernel⟩
theorem ok__law_runs (Z : HdS K mg w fa fn kc kd be) : HasG P w K mg base (ecG K) "_law_runs" 2 2 g__law_runs := by
  have h__law_there := ok__law_there (P := P) (w := w) (base := base) Z
  have h__law_way := ok__law_way (P := P) (w := w) (base := base) Z
  exact Z.defG_ rfl 6 6 rfl rfl sc__law_runs rfl rfl (fun _ _ _ _ _ _ us hl => match us, hl with | [_, _], _ => rfl) fun f cdv A outer s H E hr =>
    (bv_one (sv_ret (ev_and (ev_fnG (h__law_there.mono (by decide)) hr rfl (av_cons (ev_var (i := 0) rfl (by first | exact .inl rfl | exact .inr (.inl rfl) | exact .inr (.inr rfl))) (av_cons (ev_var (i := 1) rfl (by first | exact .inl rfl | exact .inr (.inl rfl) | exact .inr (.inr rfl))) av_nil))) (ev_one (ev_cmp (fun _ _ => op_eqD (Room.units hr.r)) ow_eq (ev_ix (r65 hr.r) (ev_fnG (h__law_way.mono (by decide)) hr rfl (av_cons (ev_var (i := 0) rfl (by first | exact .inl rfl | exact .inr (.inl rfl) | exact .inr (.inr rfl))) (av_cons (ev_var (i := 1) rfl (by first | exact .inl rfl | exact .inr (.inl rfl) | exact .inr (.inr rfl))) av_nil))) ev_int) (ev_str lt_1) rfl)))))
theorem sc__law_halting : FnScope ["_law_rows", "_law_name", "_law_bell", "_law_found", "_law_row"] ["_law_rows", "_law_name", "_law_bell"] (defScope (top 38)) := ⟨rfl, rfl, rfl, by decide +kernel, rfl, by decide +kernel, by decide +kernel⟩
theorem ok__law_halting (Z : HdS K mg w fa fn kc kd be) : HasG P w K mg base (ecG K) "_law_halting" 1 3 g__law_halting := by
  exact Z.defG_ rfl 7 7 rfl rfl sc__law_halting rfl rfl (fun _ _ _ _ _ _ us hl => match us, hl with | [_, _, _], _ => rfl) fun f cdv A outer s H E hr =>
    (bv_cons (sv_set (i := 3) sc__law_halting.nd rfl (by first | exact .inl rfl | exact .inr rfl) ev_bl)
    (bv_cons (sv_for rfl (iv_list (ev_var (i := 0) rfl (by first | exact .inl rfl | exact .inr (.inl rfl) | exact .inr (.inr rfl)))) (gv_name (i := 4) sc__law_halting.nd rfl (by first | exact .inl rfl | exact .inr rfl)) (bv_one (sv_if (tv_w (tw_and (tv_cmp (fun _ _ => op_eqD (Room.units hr.r)) ow_eq (ev_ix (r65 hr.r) (ev_var (i := 4) rfl (by first | exact .inl rfl | exact .inr (.inl rfl) | exact .inr (.inr rfl))) ev_int) (ev_str lt_5) rfl) (tw_and (tv_cmp (fun _ _ => op_eqD (Room.units hr.r)) ow_eq (ev_ix (r65 hr.r) (ev_var (i := 4) rfl (by first | exact .inl rfl | exact .inr (.inl rfl) | exact .inr (.inr rfl))) ev_int) (ev_var (i := 1) rfl (by first | exact .inl rfl | exact .inr (.inl rfl) | exact .inr (.inr rfl))) rfl) (tw_and1 (tv_cmp (fun _ _ => op_inW (ec := ecG K) (r65 hr.r)) ow_in (ev_ix (r65 hr.r) (ev_var (i := 4) rfl (by first | exact .inl rfl | exact .inr (.inl rfl) | exact .inr (.inr rfl))) ev_int) (ev_tup (av_cons (ev_var (i := 2) rfl (by first | exact .inl rfl | exact .inr (.inl rfl) | exact .inr (.inr rfl))) (av_cons ev_int av_nil))) rfl))))) (bv_one (sv_set (i := 3) sc__law_halting.nd rfl (by first | exact .inl rfl | exact .inr rfl) (ev_cmp (fun _ _ => op_eqD (Room.units hr.r)) ow_eq (ev_ix (r65 hr.r) (ev_var (i := 4) rfl (by first | exact .inl rfl | exact .inr (.inl rfl) | exact .inr (.inr rfl))) ev_int) (ev_var (i := 2) rfl (by first | exact .inl rfl | exact .inr (.inl rfl) | exact .inr (.inr rfl))) rfl))) bv_nil)))
    (bv_one (sv_ret (ev_and (ev_var (i := 3) rfl (by first | exact .inl rfl | exact .inr (.inl rfl) | exact .inr (.inr rfl))) (ev_one (ev_cmp (fun _ _ => op_inW (ec := ecG K) (r65 hr.r)) ow_in (ev_var (i := 2) rfl (by first | exact .inl rfl | exact .inr (.inl rfl) | exact .inr (.inr rfl))) (ev_tup (av_cons ev_int (av_cons ev_int av_nil))) rfl)))))))
theorem sc__law_untold : FnScope ["_law_rows", "_law_name", "_law_found", "_law_row"] ["_law_rows", "_law_name"] (defScope (top 39)) := ⟨rfl, rfl, rfl, by decide +kernel, rfl, by decide +kernel, by decide +kernel⟩
theorem ok__law_untold (Z : HdS K mg w fa fn kc kd be) : HasG P w K mg base (ecG K) "_law_untold" 1 2 g__law_untold := by
  exact Z.defG_ rfl 8 8 rfl rfl sc__law_untold rfl rfl (fun _ _ _ _ _ _ us hl => match us, hl with | [_, _], _ => rfl) fun f cdv A outer s H E hr =>
    (bv_cons (sv_set (i := 2) sc__law_untold.nd rfl (by first | exact .inl rfl | exact .inr rfl) ev_non)
    (bv_cons (sv_for rfl (iv_list (ev_var (i := 0) rfl (by first | exact .inl rfl | exact .inr (.inl rfl) | exact .inr (.inr rfl)))) (gv_name (i := 3) sc__law_untold.nd rfl (by first | exact .inl rfl | exact .inr rfl)) (bv_cons (sv_if (tv_w (tw_and (tv_cmp (fun _ _ => op_inW (ec := ecG K) (r65 hr.r)) ow_in (ev_ix (r65 hr.r) (ev_var (i := 3) rfl (by first | exact .inl rfl | exact .inr (.inl rfl) | exact .inr (.inr rfl))) ev_int) (ev_tup (av_cons (ev_str lt_3) (av_cons (ev_str lt_2) av_nil))) rfl) (tw_and1 (tv_cmp (fun _ _ => op_eqD (Room.units hr.r)) ow_eq (ev_ix (r65 hr.r) (ev_var (i := 3) rfl (by first | exact .inl rfl | exact .inr (.inl rfl) | exact .inr (.inr rfl))) ev_int) (ev_var (i := 1) rfl (by first | exact .inl rfl | exact .inr (.inl rfl) | exact .inr (.inr rfl))) rfl)))) (bv_one (sv_set (i := 2) sc__law_untold.nd rfl (by first | exact .inl rfl | exact .inr rfl) (ev_bin (own := false) (fun _ _ => op_addW) ow_add (ev_ix (r65 hr.r) (ev_var (i := 3) rfl (by first | exact .inl rfl | exact .inr (.inl rfl) | exact .inr (.inr rfl))) ev_int) (ev_bin (own := false) (fun _ _ => op_mul) ow_mul ev_int (ev_callTy (own := false) (fun _ _ => (call_int1.or call_int_str)) oc_intW rfl (Z.free 42) bo_int (av_cons (ev_cmp (fun _ _ => op_eqD (Room.units hr.r)) ow_eq (ev_ix (r65 hr.r) (ev_var (i := 3) rfl (by first | exact .inl rfl | exact .inr (.inl rfl) | exact .inr (.inr rfl))) ev_int) (ev_str lt_3) rfl) av_nil)))))) bv_nil)
    (bv_one (sv_if (tv_w (tw_or (tv_cmp (fun _ _ => op_eqD (Room.units hr.r)) ow_eq (ev_sl (own := false) (ev_var (i := 3) rfl (by first | exact .inl rfl | exact .inr (.inl rfl) | exact .inr (.inr rfl))) ov_none (ov_some ev_int)) (ev_tup (av_cons (ev_str lt_4) (av_cons (ev_var (i := 1) rfl (by first | exact .inl rfl | exact .inr (.inl rfl) | exact .inr (.inr rfl))) av_nil))) rfl) (tw_or1 (tv_w (tw_and (tv_cmp (fun _ _ => op_eqD (Room.units hr.r)) ow_eq (ev_ix (r65 hr.r) (ev_var (i := 3) rfl (by first | exact .inl rfl | exact .inr (.inl rfl) | exact .inr (.inr rfl))) ev_int) (ev_str lt_6) rfl) (tw_and1 (tv_cmp (fun _ _ => op_eqD (Room.units hr.r)) ow_eq (ev_bin (own := false) (fun _ _ => op_addW) ow_add (ev_ix (r65 hr.r) (ev_var (i := 3) rfl (by first | exact .inl rfl | exact .inr (.inl rfl) | exact .inr (.inr rfl))) ev_int) (ev_tup (av_cons (ev_ix (r65 hr.r) (ev_var (i := 3) rfl (by first | exact .inl rfl | exact .inr (.inl rfl) | exact .inr (.inr rfl))) ev_int) av_nil))) (ev_var (i := 1) rfl (by first | exact .inl rfl | exact .inr (.inl rfl) | exact .inr (.inr rfl))) rfl))))))) (bv_one (sv_set (i := 2) sc__law_untold.nd rfl (by first | exact .inl rfl | exact .inr rfl) ev_non)) bv_nil))))
    (bv_one (sv_ret (ev_var (i := 2) rfl (by first | exact .inl rfl | exact .inr (.inl rfl) | exact .inr (.inr rfl)))))))
theorem sc__law_group : FnScope ["_law_rows", "_law_name", "_law_row"] ["_law_rows", "_law_name"] (defScope (top 36)) := ⟨rfl, rfl, rfl, by decide +kernel, rfl, by decide +kernel, by decide +kernel⟩
theorem ok__law_group (Z : HdS K mg w fa fn kc kd be) : HasG P w K mg base (ecG K) "_law_group" 1 2 g__law_group := by
  exact Z.defG_ rfl 9 9 rfl rfl sc__law_group rfl rfl (fun _ _ _ _ _ _ us hl => match us, hl with | [_, _], _ => rfl) fun f cdv A outer s H E hr =>
    (bv_one (sv_ret (ev_ix (r65 hr.r) (ev_bin (own := false) (fun _ _ => op_addW) ow_add (ev_lc (own := false) (ow := [("_law_row", 2)]) rfl sc__law_group.nd (iv_list (ev_var (i := 0) rfl (by first | exact .inl rfl | exact .inr (.inl rfl) | exact .inr (.inr rfl)))) (blkOk_by (N := ["_law_rows", "_law_name", "_law_row"]) (sc := defScope (top 36)) (by decide +kernel)) (fun _ _ _ _ _ => (gv_name (i := 2) sc__law_group.nd rfl (by first | exact .inl rfl | exact .inr rfl))) (fun _ _ _ _ _ => (tsv_one (tv_w (tw_and (tv_cmp (fun _ _ => op_eqD (Room.units hr.r)) ow_eq (ev_ix (r65 hr.r) (ev_var (i := 2) rfl (by first | exact .inl rfl | exact .inr (.inl rfl) | exact .inr (.inr rfl))) ev_int) (ev_str lt_0) rfl) (tw_and1 (tv_cmp (fun _ _ => op_eqD (Room.units hr.r)) ow_eq (ev_ix (r65 hr.r) (ev_var (i := 2) rfl (by first | exact .inl rfl | exact .inr (.inl rfl) | exact .inr (.inr rfl))) ev_int) (ev_var (i := 1) rfl (by first | exact .inl rfl | exact .inr (.inl rfl) | exact .inr (.inr rfl))) rfl)))))) (fun _ _ _ _ _ => (ev_ix (r65 hr.r) (ev_var (i := 2) rfl (by first | exact .inl rfl | exact .inr (.inl rfl) | exact .inr (.inr rfl))) ev_int)) (by decide)) (ev_lst (own := false) (av_cons (ev_tup av_nil) av_nil))) ev_int)))
theorem sc__law_may : FnScope ["_law_rows", "_law_row", "_law_wanted_here", "_law_name", "_law_many", "_law_one"] ["_law_rows", "_law_row"] (defScope (top 41)) := ⟨rfl, rfl, rfl, by decide +kernel, rfl, by decide +kernel, by decide +kernel⟩
theorem ok__law_may (Z : HdS K mg w fa fn kc kd be) : HasG P w K mg base (ecG K) "_law_may" 4 2 g__law_may := by
  have h__law_group := ok__law_group (P := P) (w := w) (base := base) Z
  have h__law_halting := ok__law_halting (P := P) (w := w) (base := base) Z
  have h__law_lives := ok__law_lives (P := P) (w := w) (base := base) Z
  have h__law_may_end := ok__law_may_end (P := P) (w := w) (base := base) Z
  have h__law_runs := ok__law_runs (P := P) (w := w) (base := base) Z
  have h__law_there := ok__law_there (P := P) (w := w) (base := base) Z
  have h__law_untold := ok__law_untold (P := P) (w := w) (base := base) Z
  have h__law_wanted := ok__law_wanted (P := P) (w := w) (base := base) Z
  exact Z.defG_ rfl 10 10 rfl rfl sc__law_may rfl rfl (fun _ _ _ _ _ _ us hl => match us, hl with | [_, _], _ => rfl) fun f cdv A outer s H E hr =>
    (bv_cons (sv_set (i := 2) sc__law_may.nd rfl (by first | exact .inl rfl | exact .inr rfl) (ev_fnG (h__law_wanted.mono (by decide)) hr rfl (av_cons (ev_var (i := 0) rfl (by first | exact .inl rfl | exact .inr (.inl rfl) | exact .inr (.inr rfl))) av_nil)))
    (bv_cons (sv_if (tv_cmp (fun _ _ => op_isNotW) ow_isNot (ev_var (i := 2) rfl (by first | exact .inl rfl | exact .inr (.inl rfl) | exact .inr (.inr rfl))) ev_non rfl) (bv_one (sv_ret (ev_cmp (fun _ _ => op_eqD (Room.units hr.r)) ow_eq (ev_var (i := 1) rfl (by first | exact .inl rfl | exact .inr (.inl rfl) | exact .inr (.inr rfl))) (ev_var (i := 2) rfl (by first | exact .inl rfl | exact .inr (.inl rfl) | exact .inr (.inr rfl))) rfl))) bv_nil)
    (bv_cons (sv_set (i := 3) sc__law_may.nd rfl (by first | exact .inl rfl | exact .inr rfl) (ev_ix (r65 hr.r) (ev_var (i := 1) rfl (by first | exact .inl rfl | exact .inr (.inl rfl) | exact .inr (.inr rfl))) ev_int))
    (bv_cons (sv_if (tv_cmp (fun _ _ => op_eqD (Room.units hr.r)) ow_eq (ev_ix (r65 hr.r) (ev_var (i := 1) rfl (by first | exact .inl rfl | exact .inr (.inl rfl) | exact .inr (.inr rfl))) ev_int) (ev_str lt_0) rfl) (bv_cons (sv_if (tv_w (tw_or (tv_cmp (fun _ _ => op_eqD (Room.units hr.r)) ow_eq (ev_var (i := 3) rfl (by first | exact .inl rfl | exact .inr (.inl rfl) | exact .inr (.inr rfl))) (ev_tup av_nil) rfl) (tw_or1 (tv_not (tv_val (ev_fnG (h__law_runs.mono (by decide)) hr rfl (av_cons (ev_var (i := 0) rfl (by first | exact .inl rfl | exact .inr (.inl rfl) | exact .inr (.inr rfl))) (av_cons (ev_sl (own := false) (ev_var (i := 3) rfl (by first | exact .inl rfl | exact .inr (.inl rfl) | exact .inr (.inr rfl))) ov_none (ov_some (ev_neg ev_int))) av_nil)))))))) (bv_one (sv_ret ev_bl)) bv_nil)
    (bv_cons (sv_set (i := 4) sc__law_may.nd rfl (by first | exact .inl rfl | exact .inr rfl) (ev_callB (own := false) (fun _ _ => call_lenW) oc_len rfl (Z.free 39) bo_len (av_cons (ev_lc (own := false) (ow := [("_law_one", 5)]) rfl sc__law_may.nd (iv_list (ev_var (i := 0) rfl (by first | exact .inl rfl | exact .inr (.inl rfl) | exact .inr (.inr rfl)))) (blkOk_by (N := ["_law_rows", "_law_row", "_law_wanted_here", "_law_name", "_law_many", "_law_one"]) (sc := defScope (top 41)) (by decide +kernel)) (fun _ _ _ _ _ => (gv_name (i := 5) sc__law_may.nd rfl (by first | exact .inl rfl | exact .inr rfl))) (fun _ _ _ _ _ => (tsv_one (tv_w (tw_and (tv_cmp (fun _ _ => op_eqD (Room.units hr.r)) ow_eq (ev_ix (r65 hr.r) (ev_var (i := 5) rfl (by first | exact .inl rfl | exact .inr (.inl rfl) | exact .inr (.inr rfl))) ev_int) (ev_str lt_0) rfl) (tw_and1 (tv_cmp (fun _ _ => op_eqD (Room.units hr.r)) ow_eq (ev_sl (own := false) (ev_ix (r65 hr.r) (ev_var (i := 5) rfl (by first | exact .inl rfl | exact .inr (.inl rfl) | exact .inr (.inr rfl))) ev_int) ov_none (ov_some (ev_neg ev_int))) (ev_sl (own := false) (ev_var (i := 3) rfl (by first | exact .inl rfl | exact .inr (.inl rfl) | exact .inr (.inr rfl))) ov_none (ov_some (ev_neg ev_int))) rfl)))))) (fun _ _ _ _ _ => ev_int) (by decide)) av_nil)))
    (bv_one (sv_ret (ev_and (ev_cmp (fun _ _ => op_eqD (Room.units hr.r)) ow_eq (ev_ix (r65 hr.r) (ev_var (i := 3) rfl (by first | exact .inl rfl | exact .inr (.inl rfl) | exact .inr (.inr rfl))) (ev_neg ev_int)) (ev_var (i := 4) rfl (by first | exact .inl rfl | exact .inr (.inl rfl) | exact .inr (.inr rfl))) rfl) (ev_one (ev_cmp (fun _ _ => op_inDT (r65 hr.r)) ow_inD (ev_ix (r65 hr.r) (ev_var (i := 1) rfl (by first | exact .inl rfl | exact .inr (.inl rfl) | exact .inr (.inr rfl))) ev_int) (ev_tup (av_cons (ev_var (i := 3) rfl (by first | exact .inl rfl | exact .inr (.inl rfl) | exact .inr (.inr rfl))) (av_cons (ev_fnG (h__law_group.mono (by decide)) hr rfl (av_cons (ev_var (i := 0) rfl (by first | exact .inl rfl | exact .inr (.inl rfl) | exact .inr (.inr rfl))) (av_cons (ev_sl (own := false) (ev_var (i := 3) rfl (by first | exact .inl rfl | exact .inr (.inl rfl) | exact .inr (.inr rfl))) ov_none (ov_some (ev_neg ev_int))) av_nil))) av_nil))) rfl))))))) bv_nil)
    (bv_cons (sv_if (tv_w (tw_or (tv_not (tv_val (ev_fnG (h__law_there.mono (by decide)) hr rfl (av_cons (ev_var (i := 0) rfl (by first | exact .inl rfl | exact .inr (.inl rfl) | exact .inr (.inr rfl))) (av_cons (ev_var (i := 3) rfl (by first | exact .inl rfl | exact .inr (.inl rfl) | exact .inr (.inr rfl))) av_nil))))) (tw_or1 (tv_cmp (fun _ _ => op_eqD (Room.units hr.r)) ow_eq (ev_ix (r65 hr.r) (ev_var (i := 1) rfl (by first | exact .inl rfl | exact .inr (.inl rfl) | exact .inr (.inr rfl))) ev_int) (ev_str lt_4) rfl)))) (bv_one (sv_ret ev_bl)) bv_nil)
    (bv_cons (sv_if (tv_cmp (fun _ _ => op_eqD (Room.units hr.r)) ow_eq (ev_ix (r65 hr.r) (ev_var (i := 1) rfl (by first | exact .inl rfl | exact .inr (.inl rfl) | exact .inr (.inr rfl))) ev_int) (ev_str lt_5) rfl) (bv_one (sv_ret (ev_fnG (h__law_lives.mono (by decide)) hr rfl (av_cons (ev_var (i := 0) rfl (by first | exact .inl rfl | exact .inr (.inl rfl) | exact .inr (.inr rfl))) (av_cons (ev_var (i := 3) rfl (by first | exact .inl rfl | exact .inr (.inl rfl) | exact .inr (.inr rfl))) av_nil))))) bv_nil)
    (bv_cons (sv_if (tv_cmp (fun _ _ => op_eqD (Room.units hr.r)) ow_eq (ev_ix (r65 hr.r) (ev_var (i := 1) rfl (by first | exact .inl rfl | exact .inr (.inl rfl) | exact .inr (.inr rfl))) ev_int) (ev_str lt_2) rfl) (bv_one (sv_ret (ev_fnG (h__law_may_end.mono (by decide)) hr rfl (av_cons (ev_var (i := 0) rfl (by first | exact .inl rfl | exact .inr (.inl rfl) | exact .inr (.inr rfl))) (av_cons (ev_var (i := 3) rfl (by first | exact .inl rfl | exact .inr (.inl rfl) | exact .inr (.inr rfl))) (av_cons (ev_ix (r65 hr.r) (ev_var (i := 1) rfl (by first | exact .inl rfl | exact .inr (.inl rfl) | exact .inr (.inr rfl))) ev_int) av_nil)))))) bv_nil)
    (bv_cons (sv_if (tv_not (tv_val (ev_fnG (h__law_runs.mono (by decide)) hr rfl (av_cons (ev_var (i := 0) rfl (by first | exact .inl rfl | exact .inr (.inl rfl) | exact .inr (.inr rfl))) (av_cons (ev_var (i := 3) rfl (by first | exact .inl rfl | exact .inr (.inl rfl) | exact .inr (.inr rfl))) av_nil))))) (bv_one (sv_ret ev_bl)) bv_nil)
    (bv_cons (sv_if (tv_cmp (fun _ _ => op_eqD (Room.units hr.r)) ow_eq (ev_ix (r65 hr.r) (ev_var (i := 1) rfl (by first | exact .inl rfl | exact .inr (.inl rfl) | exact .inr (.inr rfl))) ev_int) (ev_str lt_3) rfl) (bv_one (sv_ret (ev_fnG (h__law_halting.mono (by decide)) hr rfl (av_cons (ev_var (i := 0) rfl (by first | exact .inl rfl | exact .inr (.inl rfl) | exact .inr (.inr rfl))) (av_cons (ev_var (i := 3) rfl (by first | exact .inl rfl | exact .inr (.inl rfl) | exact .inr (.inr rfl))) (av_cons (ev_ix (r65 hr.r) (ev_var (i := 1) rfl (by first | exact .inl rfl | exact .inr (.inl rfl) | exact .inr (.inr rfl))) ev_int) av_nil)))))) bv_nil)
    (bv_cons (sv_if (tv_cmp (fun _ _ => op_eqD (Room.units hr.r)) ow_eq (ev_ix (r65 hr.r) (ev_var (i := 1) rfl (by first | exact .inl rfl | exact .inr (.inl rfl) | exact .inr (.inr rfl))) ev_int) (ev_str lt_6) rfl) (bv_one (sv_ret (ev_and (ev_fnG (h__law_there.mono (by decide)) hr rfl (av_cons (ev_var (i := 0) rfl (by first | exact .inl rfl | exact .inr (.inl rfl) | exact .inr (.inr rfl))) (av_cons (ev_bin (own := false) (fun _ _ => op_addW) ow_add (ev_var (i := 3) rfl (by first | exact .inl rfl | exact .inr (.inl rfl) | exact .inr (.inr rfl))) (ev_tup (av_cons (ev_ix (r65 hr.r) (ev_var (i := 1) rfl (by first | exact .inl rfl | exact .inr (.inl rfl) | exact .inr (.inr rfl))) ev_int) av_nil))) av_nil))) (ev_one (ev_cmp (fun _ _ => op_eqD (Room.units hr.r)) ow_eq (ev_fnG (h__law_untold.mono (by decide)) hr rfl (av_cons (ev_var (i := 0) rfl (by first | exact .inl rfl | exact .inr (.inl rfl) | exact .inr (.inr rfl))) (av_cons (ev_bin (own := false) (fun _ _ => op_addW) ow_add (ev_var (i := 3) rfl (by first | exact .inl rfl | exact .inr (.inl rfl) | exact .inr (.inr rfl))) (ev_tup (av_cons (ev_ix (r65 hr.r) (ev_var (i := 1) rfl (by first | exact .inl rfl | exact .inr (.inl rfl) | exact .inr (.inr rfl))) ev_int) av_nil))) av_nil))) (ev_ix (r65 hr.r) (ev_var (i := 1) rfl (by first | exact .inl rfl | exact .inr (.inl rfl) | exact .inr (.inr rfl))) ev_int) rfl))))) bv_nil)
    (bv_one (sv_ret ev_bl))))))))))))
theorem sc__law_next : FnScope ["_law_state_here", "_law_many", "_law_found"] ["_law_state_here", "_law_many"] (defScope (top 30)) := ⟨rfl, rfl, rfl, by decide +kernel, rfl, by decide +kernel, by decide +kernel⟩
theorem ok__law_next (Z : HdS K mg w fa fn kc kd be) : HasG P w K mg base (ecG K) "_law_next" 1 2 g__law_next := by
  exact Z.defG_ rfl 11 11 rfl rfl sc__law_next rfl rfl (fun _ _ _ _ _ _ us hl => match us, hl with | [_, _], _ => rfl) fun f cdv A outer s H E hr =>
    (bv_cons (sv_set (i := 2) sc__law_next.nd rfl (by first | exact .inl rfl | exact .inr rfl) (ev_bin (own := false) (fun _ _ => op_mod) ow_mod (ev_ix (r65 hr.r) (ev_var (i := 0) rfl (by first | exact .inl rfl | exact .inr (.inl rfl) | exact .inr (.inr rfl))) ev_int) (ev_var (i := 1) rfl (by first | exact .inl rfl | exact .inr (.inl rfl) | exact .inr (.inr rfl)))))
    (bv_cons (sv_setL (ev_var (i := 0) rfl (by first | exact .inl rfl | exact .inr (.inl rfl) | exact .inr (.inr rfl))) ev_int (ev_bin (own := false) (fun _ _ => op_fdiv) ow_div (ev_ix (r65 hr.r) (ev_var (i := 0) rfl (by first | exact .inl rfl | exact .inr (.inl rfl) | exact .inr (.inr rfl))) ev_int) (ev_var (i := 1) rfl (by first | exact .inl rfl | exact .inr (.inl rfl) | exact .inr (.inr rfl)))))
    (bv_one (sv_ret (ev_var (i := 2) rfl (by first | exact .inl rfl | exact .inr (.inl rfl) | exact .inr (.inr rfl)))))))
theorem sc__law_pick : FnScope ["_law_state_here", "_law_some"] ["_law_state_here", "_law_some"] (defScope (top 31)) := ⟨rfl, rfl, rfl, by decide +kernel, rfl, by decide +kernel, by decide +kernel⟩
theorem ok__law_pick (Z : HdS K mg w fa fn kc kd be) : HasG P w K mg base (ecG K) "_law_pick" 2 2 g__law_pick := by
  have h__law_next := ok__law_next (P := P) (w := w) (base := base) Z
  exact Z.defG_ rfl 12 12 rfl rfl sc__law_pick rfl rfl (fun _ _ _ _ _ _ us hl => match us, hl with | [_, _], _ => rfl) fun f cdv A outer s H E hr =>
    (bv_one (sv_ret (ev_ix (r65 hr.r) (ev_var (i := 1) rfl (by first | exact .inl rfl | exact .inr (.inl rfl) | exact .inr (.inr rfl))) (ev_fnG (h__law_next.mono (by decide)) hr rfl (av_cons (ev_var (i := 0) rfl (by first | exact .inl rfl | exact .inr (.inl rfl) | exact .inr (.inr rfl))) (av_cons (ev_callB (own := false) (fun _ _ => call_lenW) oc_len rfl (Z.free 39) bo_len (av_cons (ev_var (i := 1) rfl (by first | exact .inl rfl | exact .inr (.inl rfl) | exact .inr (.inr rfl))) av_nil)) av_nil))))))
theorem sc__law_any_row : FnScope ["_law_state_here", "_law_rows", "_law_names", "_law_name", "_law_words", "_law_word", "_law_number", "_law_told", "_law_many", "_law_child", "_law_row"] ["_law_state_here", "_law_rows"] (defScope (top 42)) := ⟨rfl, rfl, rfl, by decide +kernel, rfl, by decide +kernel, by decide +kernel⟩
theorem ok__law_any_row (Z : HdS K mg w fa fn kc kd be) : HasG P w K mg base (ecG K) "_law_any_row" 3 2 m__law_any_row := by
  have h__law_group := ok__law_group (P := P) (w := w) (base := base) Z
  have h__law_next := ok__law_next (P := P) (w := w) (base := base) Z
  have h__law_pick := ok__law_pick (P := P) (w := w) (base := base) Z
  have h__law_untold := ok__law_untold (P := P) (w := w) (base := base) Z
  exact Z.defG_ rfl 13 13 rfl rfl sc__law_any_row rfl rfl (fun _ _ _ _ _ _ us hl => match us, hl with | [_, _], _ => rfl) fun f cdv A outer s H E hr =>
    (bv_cons (sv_set (i := 2) sc__law_any_row.nd rfl (by first | exact .inl rfl | exact .inr rfl) (ev_bin (own := false) (fun _ _ => op_addW) ow_add (ev_lst (own := false) (av_cons (ev_tup av_nil) av_nil)) (ev_sl (own := false) (ev_lc (own := false) (ow := [("_law_row", 10)]) rfl sc__law_any_row.nd (iv_list (ev_var (i := 1) rfl (by first | exact .inl rfl | exact .inr (.inl rfl) | exact .inr (.inr rfl)))) (blkOk_by (N := ["_law_state_here", "_law_rows", "_law_names", "_law_name", "_law_words", "_law_word", "_law_number", "_law_told", "_law_many", "_law_child", "_law_row"]) (sc := defScope (top 42)) (by decide +kernel)) (fun _ _ _ _ _ => (gv_name (i := 10) sc__law_any_row.nd rfl (by first | exact .inl rfl | exact .inr rfl))) (fun _ _ _ _ _ => (tsv_one (tv_cmp (fun _ _ => op_eqD (Room.units hr.r)) ow_eq (ev_ix (r65 hr.r) (ev_var (i := 10) rfl (by first | exact .inl rfl | exact .inr (.inl rfl) | exact .inr (.inr rfl))) ev_int) (ev_str lt_0) rfl))) (fun _ _ _ _ _ => (ev_ix (r65 hr.r) (ev_var (i := 10) rfl (by first | exact .inl rfl | exact .inr (.inl rfl) | exact .inr (.inr rfl))) ev_int)) (by decide)) (ov_some (ev_neg ev_int)) ov_none)))
    (bv_cons (sv_set (i := 3) sc__law_any_row.nd rfl (by first | exact .inl rfl | exact .inr rfl) (ev_fnG (h__law_pick.mono (by decide)) hr rfl (av_cons (ev_var (i := 0) rfl (by first | exact .inl rfl | exact .inr (.inl rfl) | exact .inr (.inr rfl))) (av_cons (ev_bin (own := false) (fun _ _ => op_addW) ow_add (ev_bin (own := false) (fun _ _ => op_addW) ow_add (ev_var (i := 2) rfl (by first | exact .inl rfl | exact .inr (.inl rfl) | exact .inr (.inr rfl))) (ev_var (i := 2) rfl (by first | exact .inl rfl | exact .inr (.inl rfl) | exact .inr (.inr rfl)))) (ev_lst (own := false) (av_cons (ev_tup (av_cons (ev_fnG (h__law_next.mono (by decide)) hr rfl (av_cons (ev_var (i := 0) rfl (by first | exact .inl rfl | exact .inr (.inl rfl) | exact .inr (.inr rfl))) (av_cons ev_int av_nil))) av_nil)) av_nil))) av_nil))))
    (bv_cons (sv_set (i := 4) sc__law_any_row.nd rfl (by first | exact .inl rfl | exact .inr rfl) (ev_lst (own := false) (av_cons (ev_str lt_0) (av_cons (ev_str lt_0) (av_cons (ev_str lt_7) (av_cons (ev_str lt_5) (av_cons (ev_str lt_5) (av_cons (ev_str lt_5) (av_cons (ev_str lt_3) (av_cons (ev_str lt_3) (av_cons (ev_str lt_4) (av_cons (ev_str lt_2) (av_cons (ev_str lt_6) (av_cons (ev_str lt_6) av_nil))))))))))))))
    (bv_cons (sv_set (i := 5) sc__law_any_row.nd rfl (by first | exact .inl rfl | exact .inr rfl) (ev_fnG (h__law_pick.mono (by decide)) hr rfl (av_cons (ev_var (i := 0) rfl (by first | exact .inl rfl | exact .inr (.inl rfl) | exact .inr (.inr rfl))) (av_cons (ev_var (i := 4) rfl (by first | exact .inl rfl | exact .inr (.inl rfl) | exact .inr (.inr rfl))) av_nil))))
    (bv_cons (sv_set (i := 6) sc__law_any_row.nd rfl (by first | exact .inl rfl | exact .inr rfl) (ev_fnG (h__law_next.mono (by decide)) hr rfl (av_cons (ev_var (i := 0) rfl (by first | exact .inl rfl | exact .inr (.inl rfl) | exact .inr (.inr rfl))) (av_cons ev_int av_nil))))
    (bv_cons (sv_if (tv_cmp (fun _ _ => op_eqD (Room.units hr.r)) ow_eq (ev_var (i := 5) rfl (by first | exact .inl rfl | exact .inr (.inl rfl) | exact .inr (.inr rfl))) (ev_str lt_0) rfl) (bv_cons (sv_set (i := 8) sc__law_any_row.nd rfl (by first | exact .inl rfl | exact .inr rfl) (ev_callB (own := false) (fun _ _ => call_lenW) oc_len rfl (Z.free 39) bo_len (av_cons (ev_lc (own := false) (ow := [("_law_row", 10)]) rfl sc__law_any_row.nd (iv_list (ev_var (i := 1) rfl (by first | exact .inl rfl | exact .inr (.inl rfl) | exact .inr (.inr rfl)))) (blkOk_by (N := ["_law_state_here", "_law_rows", "_law_names", "_law_name", "_law_words", "_law_word", "_law_number", "_law_told", "_law_many", "_law_child", "_law_row"]) (sc := defScope (top 42)) (by decide +kernel)) (fun _ _ _ _ _ => (gv_name (i := 10) sc__law_any_row.nd rfl (by first | exact .inl rfl | exact .inr rfl))) (fun _ _ _ _ _ => (tsv_one (tv_w (tw_and (tv_cmp (fun _ _ => op_eqD (Room.units hr.r)) ow_eq (ev_ix (r65 hr.r) (ev_var (i := 10) rfl (by first | exact .inl rfl | exact .inr (.inl rfl) | exact .inr (.inr rfl))) ev_int) (ev_str lt_0) rfl) (tw_and1 (tv_cmp (fun _ _ => op_eqD (Room.units hr.r)) ow_eq (ev_sl (own := false) (ev_ix (r65 hr.r) (ev_var (i := 10) rfl (by first | exact .inl rfl | exact .inr (.inl rfl) | exact .inr (.inr rfl))) ev_int) ov_none (ov_some (ev_neg ev_int))) (ev_var (i := 3) rfl (by first | exact .inl rfl | exact .inr (.inl rfl) | exact .inr (.inr rfl))) rfl)))))) (fun _ _ _ _ _ => ev_int) (by decide)) av_nil)))
    (bv_cons (sv_set (i := 9) sc__law_any_row.nd rfl (by first | exact .inl rfl | exact .inr rfl) (ev_sl (own := false) (ev_bin (own := false) (fun _ _ => op_addW) ow_add (ev_var (i := 3) rfl (by first | exact .inl rfl | exact .inr (.inl rfl) | exact .inr (.inr rfl))) (ev_tup (av_cons (ev_bin (own := false) (fun _ _ => op_mod) ow_mod (ev_fnG (h__law_pick.mono (by decide)) hr rfl (av_cons (ev_var (i := 0) rfl (by first | exact .inl rfl | exact .inr (.inl rfl) | exact .inr (.inr rfl))) (av_cons (ev_lst (own := false) (av_cons (ev_var (i := 8) rfl (by first | exact .inl rfl | exact .inr (.inl rfl) | exact .inr (.inr rfl))) (av_cons (ev_var (i := 8) rfl (by first | exact .inl rfl | exact .inr (.inl rfl) | exact .inr (.inr rfl))) (av_cons (ev_var (i := 8) rfl (by first | exact .inl rfl | exact .inr (.inl rfl) | exact .inr (.inr rfl))) (av_cons (ev_var (i := 6) rfl (by first | exact .inl rfl | exact .inr (.inl rfl) | exact .inr (.inr rfl))) av_nil))))) av_nil))) ev_int) av_nil))) (ov_some (ev_neg ev_int)) ov_none))
    (bv_one (sv_ret (ev_tup (av_cons (ev_var (i := 5) rfl (by first | exact .inl rfl | exact .inr (.inl rfl) | exact .inr (.inr rfl))) (av_cons (ev_var (i := 9) rfl (by first | exact .inl rfl | exact .inr (.inl rfl) | exact .inr (.inr rfl))) (av_cons (ev_fnG (h__law_pick.mono (by decide)) hr rfl (av_cons (ev_var (i := 0) rfl (by first | exact .inl rfl | exact .inr (.inl rfl) | exact .inr (.inr rfl))) (av_cons (ev_lst (own := false) (av_cons (ev_var (i := 9) rfl (by first | exact .inl rfl | exact .inr (.inl rfl) | exact .inr (.inr rfl))) (av_cons (ev_fnG (h__law_group.mono (by decide)) hr rfl (av_cons (ev_var (i := 1) rfl (by first | exact .inl rfl | exact .inr (.inl rfl) | exact .inr (.inr rfl))) (av_cons (ev_var (i := 3) rfl (by first | exact .inl rfl | exact .inr (.inl rfl) | exact .inr (.inr rfl))) av_nil))) (av_cons (ev_fnG (h__law_group.mono (by decide)) hr rfl (av_cons (ev_var (i := 1) rfl (by first | exact .inl rfl | exact .inr (.inl rfl) | exact .inr (.inr rfl))) (av_cons (ev_var (i := 3) rfl (by first | exact .inl rfl | exact .inr (.inl rfl) | exact .inr (.inr rfl))) av_nil))) (av_cons (ev_tup av_nil) av_nil))))) av_nil))) av_nil)))))))) bv_nil)
    (bv_cons (sv_if (tv_cmp (fun _ _ => op_eqD (Room.units hr.r)) ow_eq (ev_var (i := 5) rfl (by first | exact .inl rfl | exact .inr (.inl rfl) | exact .inr (.inr rfl))) (ev_str lt_7) rfl) (bv_one (sv_ret (ev_tup (av_cons (ev_var (i := 5) rfl (by first | exact .inl rfl | exact .inr (.inl rfl) | exact .inr (.inr rfl))) (av_cons (ev_var (i := 3) rfl (by first | exact .inl rfl | exact .inr (.inl rfl) | exact .inr (.inr rfl))) (av_cons (ev_fnG (h__law_next.mono (by decide)) hr rfl (av_cons (ev_var (i := 0) rfl (by first | exact .inl rfl | exact .inr (.inl rfl) | exact .inr (.inr rfl))) (av_cons ev_int av_nil))) av_nil)))))) bv_nil)
    (bv_cons (sv_if (tv_cmp (fun _ _ => op_eqD (Room.units hr.r)) ow_eq (ev_var (i := 5) rfl (by first | exact .inl rfl | exact .inr (.inl rfl) | exact .inr (.inr rfl))) (ev_str lt_5) rfl) (bv_one (sv_ret (ev_tup (av_cons (ev_var (i := 5) rfl (by first | exact .inl rfl | exact .inr (.inl rfl) | exact .inr (.inr rfl))) (av_cons (ev_var (i := 3) rfl (by first | exact .inl rfl | exact .inr (.inl rfl) | exact .inr (.inr rfl))) (av_cons (ev_fnG (h__law_pick.mono (by decide)) hr rfl (av_cons (ev_var (i := 0) rfl (by first | exact .inl rfl | exact .inr (.inl rfl) | exact .inr (.inr rfl))) (av_cons (ev_lst (own := false) (av_cons ev_int (av_cons ev_int (av_cons ev_int (av_cons ev_int (av_cons ev_int (av_cons ev_int (av_cons ev_int (av_cons ev_int av_nil))))))))) av_nil))) av_nil)))))) bv_nil)
    (bv_cons (sv_if (tv_cmp (fun _ _ => op_eqD (Room.units hr.r)) ow_eq (ev_var (i := 5) rfl (by first | exact .inl rfl | exact .inr (.inl rfl) | exact .inr (.inr rfl))) (ev_str lt_3) rfl) (bv_one (sv_ret (ev_tup (av_cons (ev_var (i := 5) rfl (by first | exact .inl rfl | exact .inr (.inl rfl) | exact .inr (.inr rfl))) (av_cons (ev_var (i := 3) rfl (by first | exact .inl rfl | exact .inr (.inl rfl) | exact .inr (.inr rfl))) (av_cons (ev_bin (own := false) (fun _ _ => op_addW) ow_add ev_int (ev_fnG (h__law_next.mono (by decide)) hr rfl (av_cons (ev_var (i := 0) rfl (by first | exact .inl rfl | exact .inr (.inl rfl) | exact .inr (.inr rfl))) (av_cons ev_int av_nil)))) av_nil)))))) bv_nil)
    (bv_cons (sv_if (tv_cmp (fun _ _ => op_eqD (Room.units hr.r)) ow_eq (ev_var (i := 5) rfl (by first | exact .inl rfl | exact .inr (.inl rfl) | exact .inr (.inr rfl))) (ev_str lt_4) rfl) (bv_one (sv_ret (ev_tup (av_cons (ev_var (i := 5) rfl (by first | exact .inl rfl | exact .inr (.inl rfl) | exact .inr (.inr rfl))) (av_cons (ev_var (i := 3) rfl (by first | exact .inl rfl | exact .inr (.inl rfl) | exact .inr (.inr rfl))) av_nil))))) bv_nil)
    (bv_cons (sv_if (tv_cmp (fun _ _ => op_eqD (Room.units hr.r)) ow_eq (ev_var (i := 5) rfl (by first | exact .inl rfl | exact .inr (.inl rfl) | exact .inr (.inr rfl))) (ev_str lt_2) rfl) (bv_one (sv_ret (ev_tup (av_cons (ev_var (i := 5) rfl (by first | exact .inl rfl | exact .inr (.inl rfl) | exact .inr (.inr rfl))) (av_cons (ev_var (i := 3) rfl (by first | exact .inl rfl | exact .inr (.inl rfl) | exact .inr (.inr rfl))) (av_cons (ev_fnG (h__law_pick.mono (by decide)) hr rfl (av_cons (ev_var (i := 0) rfl (by first | exact .inl rfl | exact .inr (.inl rfl) | exact .inr (.inr rfl))) (av_cons (ev_lst (own := false) (av_cons ev_int (av_cons ev_int (av_cons ev_int (av_cons ev_int (av_cons ev_int (av_cons ev_int (av_cons ev_int av_nil)))))))) av_nil))) av_nil)))))) bv_nil)
    (bv_cons (sv_set (i := 7) sc__law_any_row.nd rfl (by first | exact .inl rfl | exact .inr rfl) (ev_fnG (h__law_untold.mono (by decide)) hr rfl (av_cons (ev_var (i := 1) rfl (by first | exact .inl rfl | exact .inr (.inl rfl) | exact .inr (.inr rfl))) (av_cons (ev_bin (own := false) (fun _ _ => op_addW) ow_add (ev_var (i := 3) rfl (by first | exact .inl rfl | exact .inr (.inl rfl) | exact .inr (.inr rfl))) (ev_tup (av_cons (ev_var (i := 6) rfl (by first | exact .inl rfl | exact .inr (.inl rfl) | exact .inr (.inr rfl))) av_nil))) av_nil))))
    (bv_cons (sv_if (tv_cmp (fun _ _ => op_isW) ow_is (ev_var (i := 7) rfl (by first | exact .inl rfl | exact .inr (.inl rfl) | exact .inr (.inr rfl))) ev_non rfl) (bv_one (sv_ret (ev_tup (av_cons (ev_var (i := 5) rfl (by first | exact .inl rfl | exact .inr (.inl rfl) | exact .inr (.inr rfl))) (av_cons (ev_var (i := 3) rfl (by first | exact .inl rfl | exact .inr (.inl rfl) | exact .inr (.inr rfl))) (av_cons (ev_var (i := 6) rfl (by first | exact .inl rfl | exact .inr (.inl rfl) | exact .inr (.inr rfl))) (av_cons ev_int av_nil))))))) bv_nil)
    (bv_one (sv_ret (ev_tup (av_cons (ev_var (i := 5) rfl (by first | exact .inl rfl | exact .inr (.inl rfl) | exact .inr (.inr rfl))) (av_cons (ev_var (i := 3) rfl (by first | exact .inl rfl | exact .inr (.inl rfl) | exact .inr (.inr rfl))) (av_cons (ev_var (i := 6) rfl (by first | exact .inl rfl | exact .inr (.inl rfl) | exact .inr (.inr rfl))) (av_cons (ev_fnG (h__law_pick.mono (by decide)) hr rfl (av_cons (ev_var (i := 0) rfl (by first | exact .inl rfl | exact .inr (.inl rfl) | exact .inr (.inr rfl))) (av_cons (ev_lst (own := false) (av_cons (ev_var (i := 7) rfl (by first | exact .inl rfl | exact .inr (.inl rfl) | exact .inr (.inr rfl))) (av_cons (ev_var (i := 7) rfl (by first | exact .inl rfl | exact .inr (.inl rfl) | exact .inr (.inr rfl))) (av_cons (ev_var (i := 7) rfl (by first | exact .inl rfl | exact .inr (.inl rfl) | exact .inr (.inr rfl))) (av_cons ev_int (av_cons ev_int av_nil)))))) av_nil))) av_nil))))))))))))))))))))
theorem sc__law_made : FnScope ["_law_script", "_law_rows", "_law_k", "_law_state_here", "_law_wanted_here", "_law_row"] ["_law_script"] (defScope (top 43)) := ⟨rfl, rfl, rfl, by decide +kernel, rfl, by decide +kernel, by decide +kernel⟩
theorem ok__law_made (Z : HdS K mg w fa fn kc kd be) : HasG P w K mg base (ecG K) "_law_made" 5 1 m__law_made := by
  have h__law_any_row := ok__law_any_row (P := P) (w := w) (base := base) Z
  have h__law_may := ok__law_may (P := P) (w := w) (base := base) Z
  have h__law_state := ok__law_state (P := P) (w := w) (base := base) Z
  have h__law_wanted := ok__law_wanted (P := P) (w := w) (base := base) Z
  exact Z.defG_ rfl 14 14 rfl rfl sc__law_made rfl rfl (fun _ _ _ _ _ _ us hl => match us, hl with | [_], _ => rfl) fun f cdv A outer s H E hr =>
    (bv_cons (sv_set (i := 1) sc__law_made.nd rfl (by first | exact .inl rfl | exact .inr rfl) (ev_lst (own := true) av_nil))
    (bv_cons (sv_for rfl (iv_rng1 rfl (Z.free 41) (ev_callB (own := false) (fun _ _ => call_min2 rfl) oc_min2 rfl (Z.free 43) bo_min (av_cons ev_int (av_cons (ev_bin (own := false) (fun _ _ => op_addW) ow_add ev_int (ev_bin (own := false) (fun _ _ => op_mul) ow_mul ev_int (ev_callB (own := false) (fun _ _ => call_lenW) oc_len rfl (Z.free 39) bo_len (av_cons (ev_var (i := 0) rfl (by first | exact .inl rfl | exact .inr (.inl rfl) | exact .inr (.inr rfl))) av_nil)))) av_nil)))) (gv_name (i := 2) sc__law_made.nd rfl (by first | exact .inl rfl | exact .inr rfl)) (bv_cons (sv_set (i := 3) sc__law_made.nd rfl (by first | exact .inl rfl | exact .inr rfl) (ev_fnG (h__law_state.mono (by decide)) hr rfl (av_cons (ev_var (i := 0) rfl (by first | exact .inl rfl | exact .inr (.inl rfl) | exact .inr (.inr rfl))) (av_cons (ev_bin (own := false) (fun _ _ => op_fdiv) ow_div (ev_var (i := 2) rfl (by first | exact .inl rfl | exact .inr (.inl rfl) | exact .inr (.inr rfl))) ev_int) av_nil))))
    (bv_cons (sv_if (tv_cmp (fun _ _ => op_eqD (Room.units hr.r)) ow_eq (ev_bin (own := false) (fun _ _ => op_mod) ow_mod (ev_var (i := 2) rfl (by first | exact .inl rfl | exact .inr (.inl rfl) | exact .inr (.inr rfl))) ev_int) ev_int rfl) (bv_one (sv_set (i := 3) sc__law_made.nd rfl (by first | exact .inl rfl | exact .inr rfl) (ev_lst (own := true) (av_cons (ev_bin (own := false) (fun _ _ => op_fdivW) ow_divW (ev_ix (r65 hr.r) (ev_var (i := 3) rfl (by first | exact .inl rfl | exact .inr (.inl rfl) | exact .inr (.inr rfl))) ev_int) (ev_bin (own := false) (fun _ _ => op_pow) ow_pow ev_int ev_int)) av_nil)))) bv_nil)
    (bv_cons (sv_set (i := 4) sc__law_made.nd rfl (by first | exact .inl rfl | exact .inr rfl) (ev_fnQ (h__law_wanted.mono (by decide)) hr rfl (av_cons (ev_var (i := 1) rfl (by first | exact .inl rfl | exact .inr (.inl rfl) | exact .inr (.inr rfl))) av_nil)))
    (bv_cons (sv_set (i := 5) sc__law_made.nd rfl (by first | exact .inl rfl | exact .inr rfl) (ev_if (tv_cmp (fun _ _ => op_isW) ow_is (ev_var (i := 4) rfl (by first | exact .inl rfl | exact .inr (.inl rfl) | exact .inr (.inr rfl))) ev_non rfl) (ev_fnV (h__law_any_row.mono (by decide)) hr rfl (av_cons (ev_var (i := 3) rfl (by first | exact .inl rfl | exact .inr (.inl rfl) | exact .inr (.inr rfl))) (av_cons (ev_var (i := 1) rfl (by first | exact .inl rfl | exact .inr (.inl rfl) | exact .inr (.inr rfl))) av_nil))) (ev_var (i := 4) rfl (by first | exact .inl rfl | exact .inr (.inl rfl) | exact .inr (.inr rfl)))))
    (bv_one (sv_if (tv_val (ev_fnQ (h__law_may.mono (by decide)) hr rfl (av_cons (ev_var (i := 1) rfl (by first | exact .inl rfl | exact .inr (.inl rfl) | exact .inr (.inr rfl))) (av_cons (ev_var (i := 5) rfl (by first | exact .inl rfl | exact .inr (.inl rfl) | exact .inr (.inr rfl))) av_nil)))) (bv_one (sv_expr (ev_mut F.slot_list_append F.type_list_append (fun _ _ => mt_append) om_append (ev_var (i := 1) rfl (by first | exact .inl rfl | exact .inr (.inl rfl) | exact .inr (.inr rfl))) (av_cons (ev_var (i := 5) rfl (by first | exact .inl rfl | exact .inr (.inl rfl) | exact .inr (.inr rfl))) av_nil)))) bv_nil)))))))
    (bv_one (sv_ret (ev_var (i := 1) rfl (by first | exact .inl rfl | exact .inr (.inl rfl) | exact .inr (.inr rfl)))))))
theorem sc__law_due : FnScope ["_law_rows", "_law_k"] ["_law_rows"] (defScope (top 45)) := ⟨rfl, rfl, rfl, by decide +kernel, rfl, by decide +kernel, by decide +kernel⟩
theorem ok__law_due (Z : HdS K mg w fa fn kc kd be) : HasG P w K mg base (ecG K) "_law_due" 5 1 m__law_due := by
  have h__law_may := ok__law_may (P := P) (w := w) (base := base) Z
  have h__law_wanted := ok__law_wanted (P := P) (w := w) (base := base) Z
  exact Z.defG_ rfl 15 15 rfl rfl sc__law_due rfl rfl (fun _ _ _ _ _ _ us hl => match us, hl with | [_], _ => rfl) fun f cdv A outer s H E hr =>
    (bv_cons (sv_for rfl (iv_rng1 rfl (Z.free 41) (ev_callB (own := false) (fun _ _ => call_lenW) oc_len rfl (Z.free 39) bo_len (av_cons (ev_var (i := 0) rfl (by first | exact .inl rfl | exact .inr (.inl rfl) | exact .inr (.inr rfl))) av_nil))) (gv_name (i := 1) sc__law_due.nd rfl (by first | exact .inl rfl | exact .inr rfl)) (bv_one (sv_if (tv_not (tv_val (ev_fnG (h__law_may.mono (by decide)) hr rfl (av_cons (ev_sl (own := false) (ev_var (i := 0) rfl (by first | exact .inl rfl | exact .inr (.inl rfl) | exact .inr (.inr rfl))) ov_none (ov_some (ev_var (i := 1) rfl (by first | exact .inl rfl | exact .inr (.inl rfl) | exact .inr (.inr rfl))))) (av_cons (ev_ix (r65 hr.r) (ev_var (i := 0) rfl (by first | exact .inl rfl | exact .inr (.inl rfl) | exact .inr (.inr rfl))) (ev_var (i := 1) rfl (by first | exact .inl rfl | exact .inr (.inl rfl) | exact .inr (.inr rfl)))) av_nil))))) (bv_one (sv_ret (ev_var (i := 1) rfl (by first | exact .inl rfl | exact .inr (.inl rfl) | exact .inr (.inr rfl))))) bv_nil)))
    (bv_one (sv_ret (ev_if (tv_cmp (fun _ _ => op_isW) ow_is (ev_fnG (h__law_wanted.mono (by decide)) hr rfl (av_cons (ev_var (i := 0) rfl (by first | exact .inl rfl | exact .inr (.inl rfl) | exact .inr (.inr rfl))) av_nil)) ev_non rfl) ev_non (ev_callB (own := false) (fun _ _ => call_lenW) oc_len rfl (Z.free 39) bo_len (av_cons (ev_var (i := 0) rfl (by first | exact .inl rfl | exact .inr (.inl rfl) | exact .inr (.inr rfl))) av_nil))))))
theorem sc_Standing___init__ : FnScope ["self", "group"] ["self", "group"] (defScope (ctop 25 0)) := ⟨rfl, rfl, rfl, by decide +kernel, rfl, by decide +kernel, by decide +kernel⟩
theorem ok_Standing___init__ (Z : HdS K mg w fa fn kc kd be) : HasK P w K mg base (ecR K) cl_Standing 1 1 g_Standing___init__ := by
  exact Z.initX_ 16 62 16 rfl rfl rfl sc_Standing___init__ rfl rfl (fun _ _ _ _ _ _ us hl => match us, hl with | [_, _], _ => rfl) fun f cdv A outer s H E hr =>
    (bv_cons (sv_fld (c := cl_Standing) (i := 0) (Z.atG 54 55 rfl rfl) (ev_var (i := 0) rfl (by first | exact .inl rfl | exact .inr (.inl rfl) | exact .inr (.inr rfl))) (ev_var (i := 1) rfl (by first | exact .inl rfl | exact .inr (.inl rfl) | exact .inr (.inr rfl))))
    (bv_cons (sv_fld (c := cl_Standing) (i := 1) (Z.atG 54 56 rfl rfl) (ev_var (i := 0) rfl (by first | exact .inl rfl | exact .inr (.inl rfl) | exact .inr (.inr rfl))) (ev_str lt_1))
    (bv_cons (sv_fld (c := cl_Standing) (i := 2) (Z.atG 54 57 rfl rfl) (ev_var (i := 0) rfl (by first | exact .inl rfl | exact .inr (.inl rfl) | exact .inr (.inr rfl))) ev_non)
    (bv_cons (sv_fld (c := cl_Standing) (i := 3) (Z.atG 54 58 rfl rfl) (ev_var (i := 0) rfl (by first | exact .inl rfl | exact .inr (.inl rfl) | exact .inr (.inr rfl))) ev_bl)
    (bv_cons (sv_fld (c := cl_Standing) (i := 4) (Z.atG 54 59 rfl rfl) (ev_var (i := 0) rfl (by first | exact .inl rfl | exact .inr (.inl rfl) | exact .inr (.inr rfl))) ev_int)
    (bv_cons (sv_fld (c := cl_Standing) (i := 5) (Z.atG 54 60 rfl rfl) (ev_var (i := 0) rfl (by first | exact .inl rfl | exact .inr (.inl rfl) | exact .inr (.inr rfl))) (ev_lst (own := true) av_nil))
    (bv_one (sv_fld (c := cl_Standing) (i := 6) (Z.atG 54 61 rfl rfl) (ev_var (i := 0) rfl (by first | exact .inl rfl | exact .inr (.inl rfl) | exact .inr (.inr rfl))) (ev_lst (own := true) av_nil)))))))))
theorem sc_Court___init__ : FnScope ["self"] ["self"] (defScope (ctop 26 0)) := ⟨rfl, rfl, rfl, by decide +kernel, rfl, by decide +kernel, by decide +kernel⟩
theorem ok_Court___init__ (Z : HdS K mg w fa fn kc kd be) : HasK P w K mg base (ecR K) cl_Court 3 0 g_Court___init__ := by
  have h_Standing___init__ := ok_Standing___init__ (P := P) (w := w) (base := base) Z
  exact Z.initX_ 17 66 17 rfl rfl rfl sc_Court___init__ rfl rfl (fun _ _ _ _ _ _ us hl => match us, hl with | [_], _ => rfl) fun f cdv A outer s H E hr =>
    (bv_cons (sv_fld (c := cl_Court) (i := 0) (Z.atG 63 64 rfl rfl) (ev_var (i := 0) rfl (by first | exact .inl rfl | exact .inr (.inl rfl) | exact .inr (.inr rfl))) (ev_disp1 rfl (r65 hr.r) (ev_tup av_nil) (ev_mk (c := cl_Standing) rfl (h_Standing___init__.mono (by decide)) hr rfl (av_cons (ev_tup av_nil) av_nil))))
    (bv_one (sv_fld (c := cl_Court) (i := 1) (Z.atG 63 65 rfl rfl) (ev_var (i := 0) rfl (by first | exact .inl rfl | exact .inr (.inl rfl) | exact .inr (.inr rfl))) ev_non)))
theorem sc_is_number : FnScope ["thing", "most"] ["thing", "most"] (defScope (top 4)) := ⟨rfl, rfl, rfl, by decide +kernel, rfl, by decide +kernel, by decide +kernel⟩
theorem ok_is_number (Z : HdS K mg w fa fn kc kd be) : HasG P w K mg base (ecG K) "is_number" 1 2 g_is_number := by
  exact Z.defG_ rfl 18 18 rfl rfl sc_is_number rfl rfl (fun _ _ _ _ _ _ us hl => match us, hl with | [_, _], _ => rfl) fun f cdv A outer s H E hr =>
    (bv_one (sv_ret (ev_and (ev_isT ist_int (ev_var (i := 0) rfl (by first | exact .inl rfl | exact .inr (.inl rfl) | exact .inr (.inr rfl))) rfl (Z.free 44) rfl (Z.free 42) bo_int) (ev_and (ev_not (ev_isT ist_bool (ev_var (i := 0) rfl (by first | exact .inl rfl | exact .inr (.inl rfl) | exact .inr (.inr rfl))) rfl (Z.free 44) rfl (Z.free 45) bo_bool)) (ev_one (ev_chain (fun _ _ => op_le) (fun _ _ => op_le) (ow_cmp _) (ow_cmp _) ev_int (ev_var (i := 0) rfl (by first | exact .inl rfl | exact .inr (.inl rfl) | exact .inr (.inr rfl))) (ev_var (i := 1) rfl (by first | exact .inl rfl | exact .inr (.inl rfl) | exact .inr (.inr rfl)))))))))
theorem sc_is_between : FnScope ["thing", "least", "most"] ["thing", "least", "most"] (defScope (top 9)) := ⟨rfl, rfl, rfl, by decide +kernel, rfl, by decide +kernel, by decide +kernel⟩
theorem ok_is_between (Z : HdS K mg w fa fn kc kd be) : HasG P w K mg base (ecG K) "is_between" 1 3 g_is_between := by
  exact Z.defG_ rfl 19 19 rfl rfl sc_is_between rfl rfl (fun _ _ _ _ _ _ us hl => match us, hl with | [_, _, _], _ => rfl) fun f cdv A outer s H E hr =>
    (bv_one (sv_ret (ev_and (ev_isT ist_int (ev_var (i := 0) rfl (by first | exact .inl rfl | exact .inr (.inl rfl) | exact .inr (.inr rfl))) rfl (Z.free 44) rfl (Z.free 42) bo_int) (ev_and (ev_not (ev_isT ist_bool (ev_var (i := 0) rfl (by first | exact .inl rfl | exact .inr (.inl rfl) | exact .inr (.inr rfl))) rfl (Z.free 44) rfl (Z.free 45) bo_bool)) (ev_one (ev_chain (fun _ _ => op_le) (fun _ _ => op_le) (ow_cmp _) (ow_cmp _) (ev_var (i := 1) rfl (by first | exact .inl rfl | exact .inr (.inl rfl) | exact .inr (.inr rfl))) (ev_var (i := 0) rfl (by first | exact .inl rfl | exact .inr (.inl rfl) | exact .inr (.inr rfl))) (ev_var (i := 2) rfl (by first | exact .inl rfl | exact .inr (.inl rfl) | exact .inr (.inr rfl)))))))))
theorem sc_are_between : FnScope ["thing", "least", "most", "one"] ["thing", "least", "most"] (defScope (top 10)) := ⟨rfl, rfl, rfl, by decide +kernel, rfl, by decide +kernel, by decide +kernel⟩
theorem ok_are_between (Z : HdS K mg w fa fn kc kd be) : HasG P w K mg base (ecG K) "are_between" 2 3 g_are_between := by
  have h_is_between := ok_is_between (P := P) (w := w) (base := base) Z
  exact Z.defG_ rfl 20 20 rfl rfl sc_are_between rfl rfl (fun _ _ _ _ _ _ us hl => match us, hl with | [_, _, _], _ => rfl) fun f cdv A outer s H E hr =>
    (bv_one (sv_ret (ev_and (ev_isT ist_tuple (ev_var (i := 0) rfl (by first | exact .inl rfl | exact .inr (.inl rfl) | exact .inr (.inr rfl))) rfl (Z.free 44) rfl (Z.free 46) bo_tuple) (ev_one (ev_callB (own := false) (fun _ _ => cr_all rfl) oc_all rfl (Z.free 47) bo_all (av_cons (ev_lc (own := false) (ow := [("one", 3)]) rfl sc_are_between.nd (iv_tuple (ev_var (i := 0) rfl (by first | exact .inl rfl | exact .inr (.inl rfl) | exact .inr (.inr rfl)))) (blkOk_by (N := ["thing", "least", "most", "one"]) (sc := defScope (top 10)) (by decide +kernel)) (fun _ _ _ _ _ => (gv_name (i := 3) sc_are_between.nd rfl (by first | exact .inl rfl | exact .inr rfl))) (fun _ _ _ _ _ => tsv_nil) (fun _ _ _ _ _ => (ev_fnG (h_is_between.mono (by decide)) hr rfl (av_cons (ev_var (i := 3) rfl (by first | exact .inl rfl | exact .inr (.inl rfl) | exact .inr (.inr rfl))) (av_cons (ev_var (i := 1) rfl (by first | exact .inl rfl | exact .inr (.inl rfl) | exact .inr (.inr rfl))) (av_cons (ev_var (i := 2) rfl (by first | exact .inl rfl | exact .inr (.inl rfl) | exact .inr (.inr rfl))) av_nil))))) (by decide)) av_nil))))))
theorem sc_is_task_name : FnScope ["thing"] ["thing"] (defScope (top 11)) := ⟨rfl, rfl, rfl, by decide +kernel, rfl, by decide +kernel, by decide +kernel⟩
theorem ok_is_task_name (Z : HdS K mg w fa fn kc kd be) : HasG P w K mg base (ecG K) "is_task_name" 3 1 g_is_task_name := by
  have h_are_between := ok_are_between (P := P) (w := w) (base := base) Z
  exact Z.defG_ rfl 21 21 rfl rfl sc_is_task_name rfl rfl (fun _ _ _ _ _ _ us hl => match us, hl with | [_], _ => rfl) fun f cdv A outer s H E hr =>
    (bv_one (sv_ret (ev_and (ev_fnG (h_are_between.mono (by decide)) hr rfl (av_cons (ev_var (i := 0) rfl (by first | exact .inl rfl | exact .inr (.inl rfl) | exact .inr (.inr rfl))) (av_cons ev_int (av_cons (ev_glob rfl (Z.con 0).kon) av_nil)))) (ev_one (ev_cmp (fun _ _ => op_le) (ow_cmp _) (ev_callB (own := false) (fun _ _ => call_lenW) oc_len rfl (Z.free 39) bo_len (av_cons (ev_var (i := 0) rfl (by first | exact .inl rfl | exact .inr (.inl rfl) | exact .inr (.inr rfl))) av_nil)) (ev_glob rfl (Z.con 1).kon) rfl)))))
theorem sc_is_status : FnScope ["thing"] ["thing"] (defScope (top 12)) := ⟨rfl, rfl, rfl, by decide +kernel, rfl, by decide +kernel, by decide +kernel⟩
theorem ok_is_status (Z : HdS K mg w fa fn kc kd be) : HasG P w K mg base (ecG K) "is_status" 2 1 g_is_status := by
  have h_is_between := ok_is_between (P := P) (w := w) (base := base) Z
  exact Z.defG_ rfl 22 22 rfl rfl sc_is_status rfl rfl (fun _ _ _ _ _ _ us hl => match us, hl with | [_], _ => rfl) fun f cdv A outer s H E hr =>
    (bv_one (sv_ret (ev_or (ev_fnG (h_is_between.mono (by decide)) hr rfl (av_cons (ev_var (i := 0) rfl (by first | exact .inl rfl | exact .inr (.inl rfl) | exact .inr (.inr rfl))) (av_cons ev_int (av_cons ev_int av_nil)))) (ev_one (ev_and (ev_fnG (h_is_between.mono (by decide)) hr rfl (av_cons (ev_var (i := 0) rfl (by first | exact .inl rfl | exact .inr (.inl rfl) | exact .inr (.inr rfl))) (av_cons ev_int (av_cons ev_int av_nil)))) (ev_one (ev_cmp (fun _ _ => op_inW (ec := ecG K) (r65 hr.r)) ow_in (ev_var (i := 0) rfl (by first | exact .inl rfl | exact .inr (.inl rfl) | exact .inr (.inr rfl))) (ev_glob rfl (Z.con 2).kon) rfl)))))))
theorem sc_fits : FnScope ["kind", "thing"] ["kind", "thing"] (defScope (top 17)) := ⟨rfl, rfl, rfl, by decide +kernel, rfl, by decide +kernel, by decide +kernel⟩
theorem ok_fits (Z : HdS K mg w fa fn kc kd be) : HasG P w K mg base (ecG K) "fits" 4 2 g_fits := by
  have h_is_number := ok_is_number (P := P) (w := w) (base := base) Z
  have h_is_status := ok_is_status (P := P) (w := w) (base := base) Z
  have h_is_task_name := ok_is_task_name (P := P) (w := w) (base := base) Z
  exact Z.defG_ rfl 23 23 rfl rfl sc_fits rfl rfl (fun _ _ _ _ _ _ us hl => match us, hl with | [_, _], _ => rfl) fun f cdv A outer s H E hr =>
    (bv_cons (sv_if (tv_cmp (fun _ _ => op_eqD (Room.units hr.r)) ow_eq (ev_var (i := 0) rfl (by first | exact .inl rfl | exact .inr (.inl rfl) | exact .inr (.inr rfl))) (ev_str lt_8) rfl) (bv_one (sv_ret (ev_fnG (h_is_task_name.mono (by decide)) hr rfl (av_cons (ev_var (i := 1) rfl (by first | exact .inl rfl | exact .inr (.inl rfl) | exact .inr (.inr rfl))) av_nil)))) bv_nil)
    (bv_cons (sv_if (tv_cmp (fun _ _ => op_eqD (Room.units hr.r)) ow_eq (ev_var (i := 0) rfl (by first | exact .inl rfl | exact .inr (.inl rfl) | exact .inr (.inr rfl))) (ev_str lt_9) rfl) (bv_one (sv_ret (ev_fnG (h_is_status.mono (by decide)) hr rfl (av_cons (ev_var (i := 1) rfl (by first | exact .inl rfl | exact .inr (.inl rfl) | exact .inr (.inr rfl))) av_nil)))) bv_nil)
    (bv_cons (sv_if (tv_cmp (fun _ _ => op_eqD (Room.units hr.r)) ow_eq (ev_var (i := 0) rfl (by first | exact .inl rfl | exact .inr (.inl rfl) | exact .inr (.inr rfl))) (ev_str lt_6) rfl) (bv_one (sv_ret (ev_or (ev_fnG (h_is_status.mono (by decide)) hr rfl (av_cons (ev_var (i := 1) rfl (by first | exact .inl rfl | exact .inr (.inl rfl) | exact .inr (.inr rfl))) av_nil)) (ev_one (ev_and (ev_fnG (h_is_number.mono (by decide)) hr rfl (av_cons (ev_var (i := 1) rfl (by first | exact .inl rfl | exact .inr (.inl rfl) | exact .inr (.inr rfl))) (av_cons (ev_callB (own := false) (fun _ _ => cr_maxT rfl) oc_maxT rfl (Z.free 48) bo_max (av_cons (ev_glob rfl (Z.con 3).kon) av_nil)) av_nil))) (ev_one (ev_cmp (fun _ _ => op_inW (ec := ecG K) (r65 hr.r)) ow_in (ev_var (i := 1) rfl (by first | exact .inl rfl | exact .inr (.inl rfl) | exact .inr (.inr rfl))) (ev_glob rfl (Z.con 3).kon) rfl))))))) bv_nil)
    (bv_one (sv_ret (ev_fnG (h_is_number.mono (by decide)) hr rfl (av_cons (ev_var (i := 1) rfl (by first | exact .inl rfl | exact .inr (.inl rfl) | exact .inr (.inr rfl))) (av_cons (ev_ix (r65 hr.r) (ev_glob rfl (Z.dic 0).kon) (ev_var (i := 0) rfl (by first | exact .inl rfl | exact .inr (.inl rfl) | exact .inr (.inr rfl)))) av_nil))))))))
theorem sc_is_row : FnScope ["thing", "kinds", "kind", "one"] ["thing"] (defScope (top 18)) := ⟨rfl, rfl, rfl, by decide +kernel, rfl, by decide +kernel, by decide +kernel⟩
theorem ok_is_row (Z : HdS K mg w fa fn kc kd be) : HasG P w K mg base (ecG K) "is_row" 5 1 g_is_row := by
  have h_fits := ok_fits (P := P) (w := w) (base := base) Z
  exact Z.defG_ rfl 24 24 rfl rfl sc_is_row rfl rfl (fun _ _ _ _ _ _ us hl => match us, hl with | [_], _ => rfl) fun f cdv A outer s H E hr =>
    (bv_cons (sv_if (tv_w (tw_or (tv_not (tv_val (ev_isT ist_tuple (ev_var (i := 0) rfl (by first | exact .inl rfl | exact .inr (.inl rfl) | exact .inr (.inr rfl))) rfl (Z.free 44) rfl (Z.free 46) bo_tuple))) (tw_or (tv_cmp (fun _ _ => op_eqD (Room.units hr.r)) ow_eq (ev_var (i := 0) rfl (by first | exact .inl rfl | exact .inr (.inl rfl) | exact .inr (.inr rfl))) (ev_tup av_nil) rfl) (tw_or (tv_not (tv_val (ev_isT ist_str (ev_ix (r65 hr.r) (ev_var (i := 0) rfl (by first | exact .inl rfl | exact .inr (.inl rfl) | exact .inr (.inr rfl))) ev_int) rfl (Z.free 44) rfl (Z.free 49) bo_str))) (tw_or1 (tv_cmp (fun _ _ => op_notInW (ec := ecG K) (r65 hr.r)) ow_notIn (ev_ix (r65 hr.r) (ev_var (i := 0) rfl (by first | exact .inl rfl | exact .inr (.inl rfl) | exact .inr (.inr rfl))) ev_int) (ev_glob rfl (Z.dic 1).kon) rfl)))))) (bv_one (sv_ret ev_bl)) bv_nil)
    (bv_cons (sv_set (i := 1) sc_is_row.nd rfl (by first | exact .inl rfl | exact .inr rfl) (ev_ix (r65 hr.r) (ev_glob rfl (Z.dic 1).kon) (ev_ix (r65 hr.r) (ev_var (i := 0) rfl (by first | exact .inl rfl | exact .inr (.inl rfl) | exact .inr (.inr rfl))) ev_int)))
    (bv_one (sv_ret (ev_and (ev_cmp (fun _ _ => op_eqD (Room.units hr.r)) ow_eq (ev_callB (own := false) (fun _ _ => call_lenW) oc_len rfl (Z.free 39) bo_len (av_cons (ev_var (i := 0) rfl (by first | exact .inl rfl | exact .inr (.inl rfl) | exact .inr (.inr rfl))) av_nil)) (ev_bin (own := false) (fun _ _ => op_addW) ow_add (ev_callB (own := false) (fun _ _ => call_lenW) oc_len rfl (Z.free 39) bo_len (av_cons (ev_var (i := 1) rfl (by first | exact .inl rfl | exact .inr (.inl rfl) | exact .inr (.inr rfl))) av_nil)) ev_int) rfl) (ev_one (ev_callB (own := false) (fun _ _ => cr_all rfl) oc_all rfl (Z.free 47) bo_all (av_cons (ev_lc (own := false) (ow := [("kind", 2), ("one", 3)]) rfl sc_is_row.nd (iv_zipT rfl (Z.free 50) (ev_var (i := 1) rfl (by first | exact .inl rfl | exact .inr (.inl rfl) | exact .inr (.inr rfl))) (ev_sl (own := false) (ev_var (i := 0) rfl (by first | exact .inl rfl | exact .inr (.inl rfl) | exact .inr (.inr rfl))) (ov_some ev_int) ov_none)) (blkOk_by (N := ["thing", "kinds", "kind", "one"]) (sc := defScope (top 18)) (by decide +kernel)) (fun _ _ _ _ _ => (gv_tupK (K := K) rfl rfl (gsv_cons (gv_name (i := 2) sc_is_row.nd rfl (by first | exact .inl rfl | exact .inr rfl)) (gsv_cons (gv_name (i := 3) sc_is_row.nd rfl (by first | exact .inl rfl | exact .inr rfl)) gsv_nil)))) (fun _ _ _ _ _ => tsv_nil) (fun _ _ _ _ _ => (ev_fnG (h_fits.mono (by decide)) hr rfl (av_cons (ev_var (i := 2) rfl (by first | exact .inl rfl | exact .inr (.inl rfl) | exact .inr (.inr rfl))) (av_cons (ev_var (i := 3) rfl (by first | exact .inl rfl | exact .inr (.inl rfl) | exact .inr (.inr rfl))) av_nil)))) (by decide)) av_nil))))))))
theorem sc_need_record : FnScope ["thing", "row"] ["thing"] (defScope (top 19)) := ⟨rfl, rfl, rfl, by decide +kernel, rfl, by decide +kernel, by decide +kernel⟩
theorem ok_need_record (Z : HdS K mg w fa fn kc kd be) : HasG P w K mg base (ecG K) "need_record" 6 1 g_need_record := by
  have h_is_row := ok_is_row (P := P) (w := w) (base := base) Z
  exact Z.defG_ rfl 25 25 rfl rfl sc_need_record rfl rfl (fun _ _ _ _ _ _ us hl => match us, hl with | [_], _ => rfl) fun f cdv A outer s H E hr =>
    (bv_one (sv_if (tv_w (tw_or (tv_not (tv_val (ev_isT2 ist_list ist_tuple (ev_var (i := 0) rfl (by first | exact .inl rfl | exact .inr (.inl rfl) | exact .inr (.inr rfl))) rfl (Z.free 44) rfl (Z.free 51) bo_list rfl (Z.free 46) bo_tuple))) (tw_or1 (tv_not (tv_val (ev_callB (own := false) (fun _ _ => cr_all rfl) oc_all rfl (Z.free 47) bo_all (av_cons (ev_lc (own := false) (ow := [("row", 1)]) rfl sc_need_record.nd (iv_both (ev_var (i := 0) rfl (by first | exact .inl rfl | exact .inr (.inl rfl) | exact .inr (.inr rfl)))) (blkOk_by (N := ["thing", "row"]) (sc := defScope (top 19)) (by decide +kernel)) (fun _ _ _ _ _ => (gv_name (i := 1) sc_need_record.nd rfl (by first | exact .inl rfl | exact .inr rfl))) (fun _ _ _ _ _ => tsv_nil) (fun _ _ _ _ _ => (ev_fnG (h_is_row.mono (by decide)) hr rfl (av_cons (ev_var (i := 1) rfl (by first | exact .inl rfl | exact .inr (.inl rfl) | exact .inr (.inr rfl))) av_nil))) (by decide)) av_nil))))))) (bv_one (sv_raiseS (c := 6) rfl Z.er (by decide) rfl rfl rfl)) bv_nil))
theorem sc_Court_runs : FnScope ["self", "name"] ["self", "name"] (defScope (ctop 26 1)) := ⟨rfl, rfl, rfl, by decide +kernel, rfl, by decide +kernel, by decide +kernel⟩
theorem ok_Court_runs (Z : HdS K mg w fa fn kc kd be) : HasM P w K mg base (ecR K) cl_Court "runs" 1 2 g_Court_runs := by
  exact Z.methX_ 26 63 26 rfl rfl rfl sc_Court_runs rfl rfl (fun _ _ _ _ _ _ us hl => match us, hl with | [_, _], _ => rfl) fun f cdv A outer s H E hr =>
    (bv_one (sv_ret (ev_and (ev_inR (r65 hr.r) (ev_var (i := 1) rfl (by first | exact .inl rfl | exact .inr (.inl rfl) | exact .inr (.inr rfl))) (ev_fld (c := cl_Court) (i := 0) (Z.atG 63 64 rfl rfl) (ev_var (i := 0) rfl (by first | exact .inl rfl | exact .inr (.inl rfl) | exact .inr (.inr rfl))))) (ev_one (ev_cmp (fun _ _ => op_eqD (Room.units hr.r)) ow_eq (ev_fld (c := cl_Standing) (i := 1) (Z.atG 54 56 rfl rfl) (ev_ixK (r65 hr.r) (ev_fld (c := cl_Court) (i := 0) (Z.atG 63 64 rfl rfl) (ev_var (i := 0) rfl (by first | exact .inl rfl | exact .inr (.inl rfl) | exact .inr (.inr rfl)))) (ev_var (i := 1) rfl (by first | exact .inl rfl | exact .inr (.inl rfl) | exact .inr (.inr rfl))))) (ev_str lt_1) rfl)))))
theorem sc_Court_told : FnScope ["self", "name", "number", "status", "child"] ["self", "name", "number", "status"] (defScope (ctop 26 10)) := ⟨rfl, rfl, rfl, by decide +kernel, rfl, by decide +kernel, by decide +kernel⟩
theorem ok_Court_told (Z : HdS K mg w fa fn kc kd be) : HasM P w K mg base (ecR K) cl_Court "told" 2 4 g_Court_told := by
  have h_Court_runs := ok_Court_runs (P := P) (w := w) (base := base) Z
  exact Z.methX_ 27 63 27 rfl rfl rfl sc_Court_told rfl rfl (fun _ _ _ _ _ _ us hl => match us, hl with | [_, _, _, _], _ => rfl) fun f cdv A outer s H E hr =>
    (bv_cons (sv_set (i := 4) sc_Court_told.nd rfl (by first | exact .inl rfl | exact .inr rfl) (ev_getR (r65 hr.r) (ev_fld (c := cl_Court) (i := 0) (Z.atG 63 64 rfl rfl) (ev_var (i := 0) rfl (by first | exact .inl rfl | exact .inr (.inl rfl) | exact .inr (.inr rfl)))) (ev_bin (own := false) (fun _ _ => op_addW) ow_add (ev_var (i := 1) rfl (by first | exact .inl rfl | exact .inr (.inl rfl) | exact .inr (.inr rfl))) (ev_tup (av_cons (ev_var (i := 2) rfl (by first | exact .inl rfl | exact .inr (.inl rfl) | exact .inr (.inr rfl))) av_nil))) (fun _ _ => ⟨rfl, rfl, rfl, rfl⟩)))
    (bv_cons (sv_if (tv_w (tw_or (tv_not (tv_val (ev_mc (c := cl_Court) (h_Court_runs.mono (by decide)) hr (ev_var (i := 0) rfl (by first | exact .inl rfl | exact .inr (.inl rfl) | exact .inr (.inr rfl))) (av_cons (ev_var (i := 1) rfl (by first | exact .inl rfl | exact .inr (.inl rfl) | exact .inr (.inr rfl))) av_nil)))) (tw_or (tv_isU (ev_var (i := 4) rfl (by first | exact .inl rfl | exact .inr (.inl rfl) | exact .inr (.inr rfl))) ev_non) (tw_or (tv_not (tv_val (ev_fld (c := cl_Standing) (i := 3) (Z.atG 54 58 rfl rfl) (ev_var (i := 4) rfl (by first | exact .inl rfl | exact .inr (.inl rfl) | exact .inr (.inr rfl)))))) (tw_or1 (tv_cmp (fun _ _ => op_neD (Room.units hr.r)) ow_ne (ev_fld (c := cl_Standing) (i := 2) (Z.atG 54 57 rfl rfl) (ev_var (i := 4) rfl (by first | exact .inl rfl | exact .inr (.inl rfl) | exact .inr (.inr rfl)))) (ev_var (i := 3) rfl (by first | exact .inl rfl | exact .inr (.inl rfl) | exact .inr (.inr rfl))) rfl)))))) (bv_one (sv_ret ev_bl)) bv_nil)
    (bv_cons (sv_fld (c := cl_Standing) (i := 3) (Z.atG 54 58 rfl rfl) (ev_var (i := 4) rfl (by first | exact .inl rfl | exact .inr (.inl rfl) | exact .inr (.inr rfl))) ev_bl)
    (bv_one (sv_ret ev_bl)))))
theorem sc_Court_starts : FnScope ["self", "name", "group", "starter"] ["self", "name", "group"] (defScope (ctop 26 5)) := ⟨rfl, rfl, rfl, by decide +kernel, rfl, by decide +kernel, by decide +kernel⟩
theorem ok_Court_starts (Z : HdS K mg w fa fn kc kd be) : HasM P w K mg base (ecR K) cl_Court "starts" 3 3 g_Court_starts := by
  have h_Court_runs := ok_Court_runs (P := P) (w := w) (base := base) Z
  have h_Standing___init__ := ok_Standing___init__ (P := P) (w := w) (base := base) Z
  exact Z.methX_ 28 63 28 rfl rfl rfl sc_Court_starts rfl rfl (fun _ _ _ _ _ _ us hl => match us, hl with | [_, _, _], _ => rfl) fun f cdv A outer s H E hr =>
    (bv_cons (sv_if (tv_w (tw_or (tv_cmp (fun _ _ => op_eqD (Room.units hr.r)) ow_eq (ev_var (i := 1) rfl (by first | exact .inl rfl | exact .inr (.inl rfl) | exact .inr (.inr rfl))) (ev_tup av_nil) rfl) (tw_or1 (tv_not (tv_val (ev_mc (c := cl_Court) (h_Court_runs.mono (by decide)) hr (ev_var (i := 0) rfl (by first | exact .inl rfl | exact .inr (.inl rfl) | exact .inr (.inr rfl))) (av_cons (ev_sl (own := false) (ev_var (i := 1) rfl (by first | exact .inl rfl | exact .inr (.inl rfl) | exact .inr (.inr rfl))) ov_none (ov_some (ev_neg ev_int))) av_nil))))))) (bv_one (sv_ret ev_bl)) bv_nil)
    (bv_cons (sv_set (i := 3) sc_Court_starts.nd rfl (by first | exact .inl rfl | exact .inr rfl) (ev_ixK (r65 hr.r) (ev_fld (c := cl_Court) (i := 0) (Z.atG 63 64 rfl rfl) (ev_var (i := 0) rfl (by first | exact .inl rfl | exact .inr (.inl rfl) | exact .inr (.inr rfl)))) (ev_sl (own := false) (ev_var (i := 1) rfl (by first | exact .inl rfl | exact .inr (.inl rfl) | exact .inr (.inr rfl))) ov_none (ov_some (ev_neg ev_int)))))
    (bv_cons (sv_if (tv_w (tw_or (tv_cmp (fun _ _ => op_neD (Room.units hr.r)) ow_ne (ev_ix (r65 hr.r) (ev_var (i := 1) rfl (by first | exact .inl rfl | exact .inr (.inl rfl) | exact .inr (.inr rfl))) (ev_neg ev_int)) (ev_fld (c := cl_Standing) (i := 4) (Z.atG 54 59 rfl rfl) (ev_var (i := 3) rfl (by first | exact .inl rfl | exact .inr (.inl rfl) | exact .inr (.inr rfl)))) rfl) (tw_or1 (tv_cmp (fun _ _ => op_notInDT (r65 hr.r)) ow_notInD (ev_var (i := 2) rfl (by first | exact .inl rfl | exact .inr (.inl rfl) | exact .inr (.inr rfl))) (ev_tup (av_cons (ev_var (i := 1) rfl (by first | exact .inl rfl | exact .inr (.inl rfl) | exact .inr (.inr rfl))) (av_cons (ev_fld (c := cl_Standing) (i := 0) (Z.atG 54 55 rfl rfl) (ev_var (i := 3) rfl (by first | exact .inl rfl | exact .inr (.inl rfl) | exact .inr (.inr rfl)))) av_nil))) rfl)))) (bv_one (sv_ret ev_bl)) bv_nil)
    (bv_cons (sv_augF (c := cl_Standing) (i := 4) (Z.atG 54 59 rfl rfl) (ev_var (i := 3) rfl (by first | exact .inl rfl | exact .inr (.inl rfl) | exact .inr (.inr rfl))) ev_int (fun _ _ => iop_add) ow_addI)
    (bv_cons (sv_setK (r65 hr.r) (ev_fld (c := cl_Court) (i := 0) (Z.atG 63 64 rfl rfl) (ev_var (i := 0) rfl (by first | exact .inl rfl | exact .inr (.inl rfl) | exact .inr (.inr rfl)))) (ev_var (i := 1) rfl (by first | exact .inl rfl | exact .inr (.inl rfl) | exact .inr (.inr rfl))) (ev_mk (c := cl_Standing) rfl (h_Standing___init__.mono (by decide)) hr rfl (av_cons (ev_var (i := 2) rfl (by first | exact .inl rfl | exact .inr (.inl rfl) | exact .inr (.inr rfl))) av_nil)))
    (bv_one (sv_ret ev_bl)))))))
theorem sc_Court_lives : FnScope ["self", "name"] ["self", "name"] (defScope (ctop 26 2)) := ⟨rfl, rfl, rfl, by decide +kernel, rfl, by decide +kernel, by decide +kernel⟩
theorem ok_Court_lives (Z : HdS K mg w fa fn kc kd be) : HasM P w K mg base (ecR K) cl_Court "lives" 1 2 g_Court_lives := by
  exact Z.methX_ 29 63 29 rfl rfl rfl sc_Court_lives rfl rfl (fun _ _ _ _ _ _ us hl => match us, hl with | [_, _], _ => rfl) fun f cdv A outer s H E hr =>
    (bv_one (sv_ret (ev_and (ev_inR (r65 hr.r) (ev_var (i := 1) rfl (by first | exact .inl rfl | exact .inr (.inl rfl) | exact .inr (.inr rfl))) (ev_fld (c := cl_Court) (i := 0) (Z.atG 63 64 rfl rfl) (ev_var (i := 0) rfl (by first | exact .inl rfl | exact .inr (.inl rfl) | exact .inr (.inr rfl))))) (ev_one (ev_cmp (fun _ _ => op_neD (Room.units hr.r)) ow_ne (ev_fld (c := cl_Standing) (i := 1) (Z.atG 54 56 rfl rfl) (ev_ixK (r65 hr.r) (ev_fld (c := cl_Court) (i := 0) (Z.atG 63 64 rfl rfl) (ev_var (i := 0) rfl (by first | exact .inl rfl | exact .inr (.inl rfl) | exact .inr (.inr rfl)))) (ev_var (i := 1) rfl (by first | exact .inl rfl | exact .inr (.inl rfl) | exact .inr (.inr rfl))))) (ev_str lt_10) rfl)))))
theorem sc_Court_rung : FnScope ["self", "name", "bell", "task"] ["self", "name", "bell"] (defScope (ctop 26 6)) := ⟨rfl, rfl, rfl, by decide +kernel, rfl, by decide +kernel, by decide +kernel⟩
theorem ok_Court_rung (Z : HdS K mg w fa fn kc kd be) : HasM P w K mg base (ecR K) cl_Court "rung" 2 3 g_Court_rung := by
  have h_Court_lives := ok_Court_lives (P := P) (w := w) (base := base) Z
  exact Z.methX_ 30 63 30 rfl rfl rfl sc_Court_rung rfl rfl (fun _ _ _ _ _ _ us hl => match us, hl with | [_, _, _], _ => rfl) fun f cdv A outer s H E hr =>
    (bv_cons (sv_if (tv_not (tv_val (ev_mc (c := cl_Court) (h_Court_lives.mono (by decide)) hr (ev_var (i := 0) rfl (by first | exact .inl rfl | exact .inr (.inl rfl) | exact .inr (.inr rfl))) (av_cons (ev_var (i := 1) rfl (by first | exact .inl rfl | exact .inr (.inl rfl) | exact .inr (.inr rfl))) av_nil)))) (bv_one (sv_ret ev_bl)) bv_nil)
    (bv_cons (sv_set (i := 3) sc_Court_rung.nd rfl (by first | exact .inl rfl | exact .inr rfl) (ev_ixK (r65 hr.r) (ev_fld (c := cl_Court) (i := 0) (Z.atG 63 64 rfl rfl) (ev_var (i := 0) rfl (by first | exact .inl rfl | exact .inr (.inl rfl) | exact .inr (.inr rfl)))) (ev_var (i := 1) rfl (by first | exact .inl rfl | exact .inr (.inl rfl) | exact .inr (.inr rfl)))))
    (bv_cons (sv_expr (ev_mut F.slot_list_append F.type_list_append (fun _ _ => mt_append) om_append (ev_fld (c := cl_Standing) (i := 5) (Z.atG 54 60 rfl rfl) (ev_var (i := 3) rfl (by first | exact .inl rfl | exact .inr (.inl rfl) | exact .inr (.inr rfl)))) (av_cons (ev_var (i := 2) rfl (by first | exact .inl rfl | exact .inr (.inl rfl) | exact .inr (.inr rfl))) av_nil)))
    (bv_cons (sv_if (tv_cmp (fun _ _ => op_inW (ec := ecR K) (r65 hr.r)) ow_in (ev_var (i := 2) rfl (by first | exact .inl rfl | exact .inr (.inl rfl) | exact .inr (.inr rfl))) (ev_glob rfl (Z.con 4).kon) rfl) (bv_one (sv_expr (ev_mut F.slot_list_append F.type_list_append (fun _ _ => mt_append) om_append (ev_fld (c := cl_Standing) (i := 6) (Z.atG 54 61 rfl rfl) (ev_var (i := 3) rfl (by first | exact .inl rfl | exact .inr (.inl rfl) | exact .inr (.inr rfl)))) (av_cons (ev_var (i := 2) rfl (by first | exact .inl rfl | exact .inr (.inl rfl) | exact .inr (.inr rfl))) av_nil)))) bv_nil)
    (bv_cons (sv_if (tv_cmp (fun _ _ => op_eqD (Room.units hr.r)) ow_eq (ev_var (i := 2) rfl (by first | exact .inl rfl | exact .inr (.inl rfl) | exact .inr (.inr rfl))) (ev_glob rfl (Z.con 5).kon) rfl) (bv_cons (sv_fld (c := cl_Standing) (i := 6) (Z.atG 54 61 rfl rfl) (ev_var (i := 3) rfl (by first | exact .inl rfl | exact .inr (.inl rfl) | exact .inr (.inr rfl))) (ev_lst (own := true) av_nil))
    (bv_one (sv_if (tv_cmp (fun _ _ => op_eqD (Room.units hr.r)) ow_eq (ev_fld (c := cl_Standing) (i := 1) (Z.atG 54 56 rfl rfl) (ev_var (i := 3) rfl (by first | exact .inl rfl | exact .inr (.inl rfl) | exact .inr (.inr rfl)))) (ev_str lt_3) rfl) (bv_one (sv_fld (c := cl_Court) (i := 1) (Z.atG 63 65 rfl rfl) (ev_var (i := 0) rfl (by first | exact .inl rfl | exact .inr (.inl rfl) | exact .inr (.inr rfl))) (ev_tup (av_cons (ev_str lt_4) (av_cons (ev_var (i := 1) rfl (by first | exact .inl rfl | exact .inr (.inl rfl) | exact .inr (.inr rfl))) av_nil))))) bv_nil))) bv_nil)
    (bv_one (sv_ret ev_bl)))))))
theorem sc_Court_pause : FnScope ["self", "name", "way", "status", "task"] ["self", "name", "way", "status"] (defScope (ctop 26 7)) := ⟨rfl, rfl, rfl, by decide +kernel, rfl, by decide +kernel, by decide +kernel⟩
theorem ok_Court_pause (Z : HdS K mg w fa fn kc kd be) : HasM P w K mg base (ecR K) cl_Court "pause" 2 4 g_Court_pause := by
  have h_Court_lives := ok_Court_lives (P := P) (w := w) (base := base) Z
  exact Z.methX_ 31 63 31 rfl rfl rfl sc_Court_pause rfl rfl (fun _ _ _ _ _ _ us hl => match us, hl with | [_, _, _, _], _ => rfl) fun f cdv A outer s H E hr =>
    (bv_cons (sv_set (i := 4) sc_Court_pause.nd rfl (by first | exact .inl rfl | exact .inr rfl) (ev_ixK (r65 hr.r) (ev_fld (c := cl_Court) (i := 0) (Z.atG 63 64 rfl rfl) (ev_var (i := 0) rfl (by first | exact .inl rfl | exact .inr (.inl rfl) | exact .inr (.inr rfl)))) (ev_var (i := 1) rfl (by first | exact .inl rfl | exact .inr (.inl rfl) | exact .inr (.inr rfl)))))
    (bv_cons (sv_fld2 (c := cl_Standing) (i := 1) (c2 := cl_Standing) (i2 := 2) (Z.atG 54 56 rfl rfl) (Z.atG 54 57 rfl rfl) rfl (ev_var (i := 4) rfl (by first | exact .inl rfl | exact .inr (.inl rfl) | exact .inr (.inr rfl))) (ev_var (i := 4) rfl (by first | exact .inl rfl | exact .inr (.inl rfl) | exact .inr (.inr rfl))) (ev_tup (av_cons (ev_var (i := 2) rfl (by first | exact .inl rfl | exact .inr (.inl rfl) | exact .inr (.inr rfl))) (av_cons (ev_var (i := 3) rfl (by first | exact .inl rfl | exact .inr (.inl rfl) | exact .inr (.inr rfl))) av_nil))))
    (bv_cons (sv_fld (c := cl_Standing) (i := 3) (Z.atG 54 58 rfl rfl) (ev_var (i := 4) rfl (by first | exact .inl rfl | exact .inr (.inl rfl) | exact .inr (.inr rfl))) ev_bl)
    (bv_cons (sv_if (tv_w (tw_and (tv_cmp (fun _ _ => op_neD (Room.units hr.r)) ow_ne (ev_var (i := 1) rfl (by first | exact .inl rfl | exact .inr (.inl rfl) | exact .inr (.inr rfl))) (ev_tup av_nil) rfl) (tw_and1 (tv_val (ev_mc (c := cl_Court) (h_Court_lives.mono (by decide)) hr (ev_var (i := 0) rfl (by first | exact .inl rfl | exact .inr (.inl rfl) | exact .inr (.inr rfl))) (av_cons (ev_sl (own := false) (ev_var (i := 1) rfl (by first | exact .inl rfl | exact .inr (.inl rfl) | exact .inr (.inr rfl))) ov_none (ov_some (ev_neg ev_int))) av_nil)))))) (bv_one (sv_fld (c := cl_Court) (i := 1) (Z.atG 63 65 rfl rfl) (ev_var (i := 0) rfl (by first | exact .inl rfl | exact .inr (.inl rfl) | exact .inr (.inr rfl))) (ev_tup (av_cons (ev_str lt_5) (av_cons (ev_sl (own := false) (ev_var (i := 1) rfl (by first | exact .inl rfl | exact .inr (.inl rfl) | exact .inr (.inr rfl))) ov_none (ov_some (ev_neg ev_int))) (av_cons (ev_glob rfl (Z.con 6).kon) av_nil)))))) bv_nil)
    (bv_one (sv_ret ev_bl))))))
theorem sc_Court_stops : FnScope ["self", "name", "bell"] ["self", "name", "bell"] (defScope (ctop 26 8)) := ⟨rfl, rfl, rfl, by decide +kernel, rfl, by decide +kernel, by decide +kernel⟩
theorem ok_Court_stops (Z : HdS K mg w fa fn kc kd be) : HasM P w K mg base (ecR K) cl_Court "stops" 3 3 g_Court_stops := by
  have h_Court_pause := ok_Court_pause (P := P) (w := w) (base := base) Z
  have h_Court_runs := ok_Court_runs (P := P) (w := w) (base := base) Z
  exact Z.methX_ 32 63 32 rfl rfl rfl sc_Court_stops rfl rfl (fun _ _ _ _ _ _ us hl => match us, hl with | [_, _, _], _ => rfl) fun f cdv A outer s H E hr =>
    (bv_cons (sv_if (tv_w (tw_or (tv_not (tv_val (ev_mc (c := cl_Court) (h_Court_runs.mono (by decide)) hr (ev_var (i := 0) rfl (by first | exact .inl rfl | exact .inr (.inl rfl) | exact .inr (.inr rfl))) (av_cons (ev_var (i := 1) rfl (by first | exact .inl rfl | exact .inr (.inl rfl) | exact .inr (.inr rfl))) av_nil)))) (tw_or1 (tv_cmp (fun _ _ => op_notInW (ec := ecR K) (r65 hr.r)) ow_notIn (ev_var (i := 2) rfl (by first | exact .inl rfl | exact .inr (.inl rfl) | exact .inr (.inr rfl))) (ev_fld (c := cl_Standing) (i := 6) (Z.atG 54 61 rfl rfl) (ev_ixK (r65 hr.r) (ev_fld (c := cl_Court) (i := 0) (Z.atG 63 64 rfl rfl) (ev_var (i := 0) rfl (by first | exact .inl rfl | exact .inr (.inl rfl) | exact .inr (.inr rfl)))) (ev_var (i := 1) rfl (by first | exact .inl rfl | exact .inr (.inl rfl) | exact .inr (.inr rfl))))) rfl)))) (bv_one (sv_ret ev_bl)) bv_nil)
    (bv_one (sv_ret (ev_mc (c := cl_Court) (h_Court_pause.mono (by decide)) hr (ev_var (i := 0) rfl (by first | exact .inl rfl | exact .inr (.inl rfl) | exact .inr (.inr rfl))) (av_cons (ev_var (i := 1) rfl (by first | exact .inl rfl | exact .inr (.inl rfl) | exact .inr (.inr rfl))) (av_cons (ev_str lt_3) (av_cons (ev_bin (own := false) (fun _ _ => op_addW) ow_add ev_int (ev_var (i := 2) rfl (by first | exact .inl rfl | exact .inr (.inl rfl) | exact .inr (.inr rfl)))) av_nil)))))))
theorem sc_Court_ends : FnScope ["self", "name", "status", "task"] ["self", "name", "status"] (defScope (ctop 26 9)) := ⟨rfl, rfl, rfl, by decide +kernel, rfl, by decide +kernel, by decide +kernel⟩
theorem ok_Court_ends (Z : HdS K mg w fa fn kc kd be) : HasM P w K mg base (ecR K) cl_Court "ends" 3 3 g_Court_ends := by
  have h_Court_lives := ok_Court_lives (P := P) (w := w) (base := base) Z
  have h_Court_pause := ok_Court_pause (P := P) (w := w) (base := base) Z
  exact Z.methX_ 33 63 33 rfl rfl rfl sc_Court_ends rfl rfl (fun _ _ _ _ _ _ us hl => match us, hl with | [_, _, _], _ => rfl) fun f cdv A outer s H E hr =>
    (bv_cons (sv_if (tv_not (tv_val (ev_mc (c := cl_Court) (h_Court_lives.mono (by decide)) hr (ev_var (i := 0) rfl (by first | exact .inl rfl | exact .inr (.inl rfl) | exact .inr (.inr rfl))) (av_cons (ev_var (i := 1) rfl (by first | exact .inl rfl | exact .inr (.inl rfl) | exact .inr (.inr rfl))) av_nil)))) (bv_one (sv_ret ev_bl)) bv_nil)
    (bv_cons (sv_set (i := 3) sc_Court_ends.nd rfl (by first | exact .inl rfl | exact .inr rfl) (ev_ixK (r65 hr.r) (ev_fld (c := cl_Court) (i := 0) (Z.atG 63 64 rfl rfl) (ev_var (i := 0) rfl (by first | exact .inl rfl | exact .inr (.inl rfl) | exact .inr (.inr rfl)))) (ev_var (i := 1) rfl (by first | exact .inl rfl | exact .inr (.inl rfl) | exact .inr (.inr rfl)))))
    (bv_cons (sv_if (tv_w (tw_and (tv_cmp (fun _ _ => op_lt) (ow_cmp _) (ev_var (i := 2) rfl (by first | exact .inl rfl | exact .inr (.inl rfl) | exact .inr (.inr rfl))) ev_int rfl) (tw_and1 (tv_cmp (fun _ _ => op_neD (Room.units hr.r)) ow_ne (ev_fld (c := cl_Standing) (i := 1) (Z.atG 54 56 rfl rfl) (ev_var (i := 3) rfl (by first | exact .inl rfl | exact .inr (.inl rfl) | exact .inr (.inr rfl)))) (ev_str lt_1) rfl)))) (bv_one (sv_ret ev_bl)) bv_nil)
    (bv_cons (sv_if (tv_w (tw_and (tv_cmp (fun _ _ => op_ge) (ow_cmp _) (ev_var (i := 2) rfl (by first | exact .inl rfl | exact .inr (.inl rfl) | exact .inr (.inr rfl))) ev_int rfl) (tw_and1 (tv_cmp (fun _ _ => op_notInW (ec := ecR K) (r65 hr.r)) ow_notIn (ev_bin (own := false) (fun _ _ => op_sub) ow_sub (ev_var (i := 2) rfl (by first | exact .inl rfl | exact .inr (.inl rfl) | exact .inr (.inr rfl))) ev_int) (ev_fld (c := cl_Standing) (i := 5) (Z.atG 54 60 rfl rfl) (ev_var (i := 3) rfl (by first | exact .inl rfl | exact .inr (.inl rfl) | exact .inr (.inr rfl)))) rfl)))) (bv_one (sv_ret ev_bl)) bv_nil)
    (bv_cons (sv_if (tv_w (tw_and (tv_cmp (fun _ _ => op_eqD (Room.units hr.r)) ow_eq (ev_fld (c := cl_Standing) (i := 1) (Z.atG 54 56 rfl rfl) (ev_var (i := 3) rfl (by first | exact .inl rfl | exact .inr (.inl rfl) | exact .inr (.inr rfl)))) (ev_str lt_3) rfl) (tw_and1 (tv_cmp (fun _ _ => op_neD (Room.units hr.r)) ow_ne (ev_var (i := 2) rfl (by first | exact .inl rfl | exact .inr (.inl rfl) | exact .inr (.inr rfl))) (ev_bin (own := false) (fun _ _ => op_addW) ow_add ev_int (ev_glob rfl (Z.con 7).kon)) rfl)))) (bv_one (sv_ret ev_bl)) bv_nil)
    (bv_one (sv_ret (ev_mc (c := cl_Court) (h_Court_pause.mono (by decide)) hr (ev_var (i := 0) rfl (by first | exact .inl rfl | exact .inr (.inl rfl) | exact .inr (.inr rfl))) (av_cons (ev_var (i := 1) rfl (by first | exact .inl rfl | exact .inr (.inl rfl) | exact .inr (.inr rfl))) (av_cons (ev_str lt_10) (av_cons (ev_var (i := 2) rfl (by first | exact .inl rfl | exact .inr (.inl rfl) | exact .inr (.inr rfl))) av_nil)))))))))))
theorem sc_Court_goes : FnScope ["self", "name"] ["self", "name"] (defScope (ctop 26 4)) := ⟨rfl, rfl, rfl, by decide +kernel, rfl, by decide +kernel, by decide +kernel⟩
theorem ok_Court_goes (Z : HdS K mg w fa fn kc kd be) : HasM P w K mg base (ecR K) cl_Court "goes" 1 2 g_Court_goes := by
  exact Z.methX_ 34 63 34 rfl rfl rfl sc_Court_goes rfl rfl (fun _ _ _ _ _ _ us hl => match us, hl with | [_, _], _ => rfl) fun f cdv A outer s H E hr =>
    (bv_cons (sv_fld (c := cl_Standing) (i := 1) (Z.atG 54 56 rfl rfl) (ev_ixK (r65 hr.r) (ev_fld (c := cl_Court) (i := 0) (Z.atG 63 64 rfl rfl) (ev_var (i := 0) rfl (by first | exact .inl rfl | exact .inr (.inl rfl) | exact .inr (.inr rfl)))) (ev_var (i := 1) rfl (by first | exact .inl rfl | exact .inr (.inl rfl) | exact .inr (.inr rfl)))) (ev_str lt_1))
    (bv_cons (sv_fld (c := cl_Standing) (i := 3) (Z.atG 54 58 rfl rfl) (ev_ixK (r65 hr.r) (ev_fld (c := cl_Court) (i := 0) (Z.atG 63 64 rfl rfl) (ev_var (i := 0) rfl (by first | exact .inl rfl | exact .inr (.inl rfl) | exact .inr (.inr rfl)))) (ev_var (i := 1) rfl (by first | exact .inl rfl | exact .inr (.inl rfl) | exact .inr (.inr rfl)))) ev_bl)
    (bv_one (sv_ret ev_bl))))
theorem sc_Court_lets_by : FnScope ["self", "row", "awaited"] ["self", "row"] (defScope (ctop 26 3)) := ⟨rfl, rfl, rfl, by decide +kernel, rfl, by decide +kernel, by decide +kernel⟩
theorem ok_Court_lets_by (Z : HdS K mg w fa fn kc kd be) : HasM P w K mg base (ecR K) cl_Court "lets_by" 4 2 g_Court_lets_by := by
  have h_Court_ends := ok_Court_ends (P := P) (w := w) (base := base) Z
  have h_Court_goes := ok_Court_goes (P := P) (w := w) (base := base) Z
  have h_Court_rung := ok_Court_rung (P := P) (w := w) (base := base) Z
  have h_Court_runs := ok_Court_runs (P := P) (w := w) (base := base) Z
  have h_Court_starts := ok_Court_starts (P := P) (w := w) (base := base) Z
  have h_Court_stops := ok_Court_stops (P := P) (w := w) (base := base) Z
  have h_Court_told := ok_Court_told (P := P) (w := w) (base := base) Z
  exact Z.methX_ 35 63 35 rfl rfl rfl sc_Court_lets_by rfl rfl (fun _ _ _ _ _ _ us hl => match us, hl with | [_, _], _ => rfl) fun f cdv A outer s H E hr =>
    (bv_cons (sv_if (tv_w (tw_and (tv_isNU (ev_fld (c := cl_Court) (i := 1) (Z.atG 63 65 rfl rfl) (ev_var (i := 0) rfl (by first | exact .inl rfl | exact .inr (.inl rfl) | exact .inr (.inr rfl)))) ev_non) (tw_and1 (tv_cmp (fun _ _ => op_neD (Room.units hr.r)) ow_ne (ev_var (i := 1) rfl (by first | exact .inl rfl | exact .inr (.inl rfl) | exact .inr (.inr rfl))) (ev_fld (c := cl_Court) (i := 1) (Z.atG 63 65 rfl rfl) (ev_var (i := 0) rfl (by first | exact .inl rfl | exact .inr (.inl rfl) | exact .inr (.inr rfl)))) rfl)))) (bv_one (sv_ret ev_bl)) bv_nil)
    (bv_cons (sv_set (i := 2) sc_Court_lets_by.nd rfl (by first | exact .inl rfl | exact .inr rfl) (ev_isNU (ev_fld (c := cl_Court) (i := 1) (Z.atG 63 65 rfl rfl) (ev_var (i := 0) rfl (by first | exact .inl rfl | exact .inr (.inl rfl) | exact .inr (.inr rfl)))) ev_non))
    (bv_cons (sv_fld (c := cl_Court) (i := 1) (Z.atG 63 65 rfl rfl) (ev_var (i := 0) rfl (by first | exact .inl rfl | exact .inr (.inl rfl) | exact .inr (.inr rfl))) ev_non)
    (bv_cons (sv_if (tv_cmp (fun _ _ => op_eqD (Room.units hr.r)) ow_eq (ev_ix (r65 hr.r) (ev_var (i := 1) rfl (by first | exact .inl rfl | exact .inr (.inl rfl) | exact .inr (.inr rfl))) ev_int) (ev_str lt_4) rfl) (bv_one (sv_ret (ev_and (ev_var (i := 2) rfl (by first | exact .inl rfl | exact .inr (.inl rfl) | exact .inr (.inr rfl))) (ev_one (ev_mc (c := cl_Court) (h_Court_goes.mono (by decide)) hr (ev_var (i := 0) rfl (by first | exact .inl rfl | exact .inr (.inl rfl) | exact .inr (.inr rfl))) (av_cons (ev_ix (r65 hr.r) (ev_var (i := 1) rfl (by first | exact .inl rfl | exact .inr (.inl rfl) | exact .inr (.inr rfl))) ev_int) av_nil)))))) bv_nil)
    (bv_cons (sv_if (tv_cmp (fun _ _ => op_eqD (Room.units hr.r)) ow_eq (ev_ix (r65 hr.r) (ev_var (i := 1) rfl (by first | exact .inl rfl | exact .inr (.inl rfl) | exact .inr (.inr rfl))) ev_int) (ev_str lt_0) rfl) (bv_one (sv_ret (ev_mc (c := cl_Court) (h_Court_starts.mono (by decide)) hr (ev_var (i := 0) rfl (by first | exact .inl rfl | exact .inr (.inl rfl) | exact .inr (.inr rfl))) (av_cons (ev_ix (r65 hr.r) (ev_var (i := 1) rfl (by first | exact .inl rfl | exact .inr (.inl rfl) | exact .inr (.inr rfl))) ev_int) (av_cons (ev_ix (r65 hr.r) (ev_var (i := 1) rfl (by first | exact .inl rfl | exact .inr (.inl rfl) | exact .inr (.inr rfl))) ev_int) av_nil))))) bv_nil)
    (bv_cons (sv_if (tv_cmp (fun _ _ => op_eqD (Room.units hr.r)) ow_eq (ev_ix (r65 hr.r) (ev_var (i := 1) rfl (by first | exact .inl rfl | exact .inr (.inl rfl) | exact .inr (.inr rfl))) ev_int) (ev_str lt_7) rfl) (bv_one (sv_ret (ev_mc (c := cl_Court) (h_Court_runs.mono (by decide)) hr (ev_var (i := 0) rfl (by first | exact .inl rfl | exact .inr (.inl rfl) | exact .inr (.inr rfl))) (av_cons (ev_ix (r65 hr.r) (ev_var (i := 1) rfl (by first | exact .inl rfl | exact .inr (.inl rfl) | exact .inr (.inr rfl))) ev_int) av_nil)))) bv_nil)
    (bv_cons (sv_if (tv_cmp (fun _ _ => op_eqD (Room.units hr.r)) ow_eq (ev_ix (r65 hr.r) (ev_var (i := 1) rfl (by first | exact .inl rfl | exact .inr (.inl rfl) | exact .inr (.inr rfl))) ev_int) (ev_str lt_5) rfl) (bv_one (sv_ret (ev_mc (c := cl_Court) (h_Court_rung.mono (by decide)) hr (ev_var (i := 0) rfl (by first | exact .inl rfl | exact .inr (.inl rfl) | exact .inr (.inr rfl))) (av_cons (ev_ix (r65 hr.r) (ev_var (i := 1) rfl (by first | exact .inl rfl | exact .inr (.inl rfl) | exact .inr (.inr rfl))) ev_int) (av_cons (ev_ix (r65 hr.r) (ev_var (i := 1) rfl (by first | exact .inl rfl | exact .inr (.inl rfl) | exact .inr (.inr rfl))) ev_int) av_nil))))) bv_nil)
    (bv_cons (sv_if (tv_cmp (fun _ _ => op_eqD (Room.units hr.r)) ow_eq (ev_ix (r65 hr.r) (ev_var (i := 1) rfl (by first | exact .inl rfl | exact .inr (.inl rfl) | exact .inr (.inr rfl))) ev_int) (ev_str lt_3) rfl) (bv_one (sv_ret (ev_mc (c := cl_Court) (h_Court_stops.mono (by decide)) hr (ev_var (i := 0) rfl (by first | exact .inl rfl | exact .inr (.inl rfl) | exact .inr (.inr rfl))) (av_cons (ev_ix (r65 hr.r) (ev_var (i := 1) rfl (by first | exact .inl rfl | exact .inr (.inl rfl) | exact .inr (.inr rfl))) ev_int) (av_cons (ev_ix (r65 hr.r) (ev_var (i := 1) rfl (by first | exact .inl rfl | exact .inr (.inl rfl) | exact .inr (.inr rfl))) ev_int) av_nil))))) bv_nil)
    (bv_cons (sv_if (tv_cmp (fun _ _ => op_eqD (Room.units hr.r)) ow_eq (ev_ix (r65 hr.r) (ev_var (i := 1) rfl (by first | exact .inl rfl | exact .inr (.inl rfl) | exact .inr (.inr rfl))) ev_int) (ev_str lt_2) rfl) (bv_one (sv_ret (ev_mc (c := cl_Court) (h_Court_ends.mono (by decide)) hr (ev_var (i := 0) rfl (by first | exact .inl rfl | exact .inr (.inl rfl) | exact .inr (.inr rfl))) (av_cons (ev_ix (r65 hr.r) (ev_var (i := 1) rfl (by first | exact .inl rfl | exact .inr (.inl rfl) | exact .inr (.inr rfl))) ev_int) (av_cons (ev_ix (r65 hr.r) (ev_var (i := 1) rfl (by first | exact .inl rfl | exact .inr (.inl rfl) | exact .inr (.inr rfl))) ev_int) av_nil))))) bv_nil)
    (bv_one (sv_ret (ev_mc (c := cl_Court) (h_Court_told.mono (by decide)) hr (ev_var (i := 0) rfl (by first | exact .inl rfl | exact .inr (.inl rfl) | exact .inr (.inr rfl))) (av_cons (ev_ix (r65 hr.r) (ev_var (i := 1) rfl (by first | exact .inl rfl | exact .inr (.inl rfl) | exact .inr (.inr rfl))) ev_int) (av_cons (ev_ix (r65 hr.r) (ev_var (i := 1) rfl (by first | exact .inl rfl | exact .inr (.inl rfl) | exact .inr (.inr rfl))) ev_int) (av_cons (ev_ix (r65 hr.r) (ev_var (i := 1) rfl (by first | exact .inl rfl | exact .inr (.inl rfl) | exact .inr (.inr rfl))) ev_int) av_nil)))))))))))))))
theorem sc_judged : FnScope ["record", "court", "number", "row"] ["record"] (defScope (top 27)) := ⟨rfl, rfl, rfl, by decide +kernel, rfl, by decide +kernel, by decide +kernel⟩
theorem ok_judged (Z : HdS K mg w fa fn kc kd be) : HasG P w K mg base (ecR K) "judged" 7 1 g_judged := by
  have h_Court___init__ := ok_Court___init__ (P := P) (w := w) (base := base) Z
  have h_Court_lets_by := ok_Court_lets_by (P := P) (w := w) (base := base) Z
  have h_need_record := ok_need_record (P := P) (w := w) (base := base) Z
  exact Z.defX_ 36 36 rfl rfl sc_judged rfl rfl (fun _ _ _ _ _ _ us hl => match us, hl with | [_], _ => rfl) fun f cdv A outer s H E hr =>
    (bv_cons (sv_expr (ev_fnP (h_need_record.mono (by decide)) hr rfl (av_cons (ev_var (i := 0) rfl (by first | exact .inl rfl | exact .inr (.inl rfl) | exact .inr (.inr rfl))) av_nil)))
    (bv_cons (sv_set (i := 1) sc_judged.nd rfl (by first | exact .inl rfl | exact .inr rfl) (ev_mk0 (c := cl_Court) rfl (h_Court___init__.mono (by decide)) hr rfl))
    (bv_cons (sv_for rfl (iv_enB rfl (Z.free 52) (ev_var (i := 0) rfl (by first | exact .inl rfl | exact .inr (.inl rfl) | exact .inr (.inr rfl)))) (gv_tup rfl (gsv_cons (gv_name (i := 2) sc_judged.nd rfl (by first | exact .inl rfl | exact .inr rfl)) (gsv_cons (gv_name (i := 3) sc_judged.nd rfl (by first | exact .inl rfl | exact .inr rfl)) gsv_nil))) (bv_one (sv_if (tv_not (tv_val (ev_mc (c := cl_Court) (h_Court_lets_by.mono (by decide)) hr (ev_var (i := 1) rfl (by first | exact .inl rfl | exact .inr (.inl rfl) | exact .inr (.inr rfl))) (av_cons (ev_var (i := 3) rfl (by first | exact .inl rfl | exact .inr (.inl rfl) | exact .inr (.inr rfl))) av_nil)))) (bv_one (sv_ret (ev_var (i := 2) rfl (by first | exact .inl rfl | exact .inr (.inl rfl) | exact .inr (.inr rfl))))) bv_nil)))
    (bv_one (sv_ret (ev_if (tv_isU (ev_fld (c := cl_Court) (i := 1) (Z.atG 63 65 rfl rfl) (ev_var (i := 1) rfl (by first | exact .inl rfl | exact .inr (.inl rfl) | exact .inr (.inr rfl)))) ev_non) ev_non (ev_callB (own := false) (fun _ _ => call_lenW) oc_len rfl (Z.free 39) bo_len (av_cons (ev_var (i := 0) rfl (by first | exact .inl rfl | exact .inr (.inl rfl) | exact .inr (.inr rfl))) av_nil))))))))
theorem sc__law_spoilt : FnScope ["_law_state_here", "_law_rows", "_law_at", "_law_odd", "_law_way_here"] ["_law_state_here", "_law_rows"] (defScope (top 44)) := ⟨rfl, rfl, rfl, by decide +kernel, rfl, by decide +kernel, by decide +kernel⟩
theorem ok__law_spoilt (Z : HdS K mg w fa fn kc kd be) : HasG P w K mg base (ecG K) "_law_spoilt" 4 2 m__law_spoilt := by
  have h__law_any_row := ok__law_any_row (P := P) (w := w) (base := base) Z
  have h__law_next := ok__law_next (P := P) (w := w) (base := base) Z
  exact Z.defG_ rfl 37 37 rfl rfl sc__law_spoilt rfl rfl (fun _ _ _ _ _ _ us hl => match us, hl with | [_, _], _ => rfl) fun f cdv A outer s H E hr =>
    (bv_cons (sv_set (i := 2) sc__law_spoilt.nd rfl (by first | exact .inl rfl | exact .inr rfl) (ev_fnG (h__law_next.mono (by decide)) hr rfl (av_cons (ev_var (i := 0) rfl (by first | exact .inl rfl | exact .inr (.inl rfl) | exact .inr (.inr rfl))) (av_cons (ev_bin (own := false) (fun _ _ => op_addW) ow_add (ev_callB (own := false) (fun _ _ => call_lenW) oc_len rfl (Z.free 39) bo_len (av_cons (ev_var (i := 1) rfl (by first | exact .inl rfl | exact .inr (.inl rfl) | exact .inr (.inr rfl))) av_nil)) ev_int) av_nil))))
    (bv_cons (sv_set (i := 3) sc__law_spoilt.nd rfl (by first | exact .inl rfl | exact .inr rfl) (ev_fnG (h__law_any_row.mono (by decide)) hr rfl (av_cons (ev_var (i := 0) rfl (by first | exact .inl rfl | exact .inr (.inl rfl) | exact .inr (.inr rfl))) (av_cons (ev_var (i := 1) rfl (by first | exact .inl rfl | exact .inr (.inl rfl) | exact .inr (.inr rfl))) av_nil))))
    (bv_cons (sv_set (i := 4) sc__law_spoilt.nd rfl (by first | exact .inl rfl | exact .inr rfl) (ev_fnG (h__law_next.mono (by decide)) hr rfl (av_cons (ev_var (i := 0) rfl (by first | exact .inl rfl | exact .inr (.inl rfl) | exact .inr (.inr rfl))) (av_cons ev_int av_nil))))
    (bv_cons (sv_if (tv_cmp (fun _ _ => op_eqD (Room.units hr.r)) ow_eq (ev_var (i := 4) rfl (by first | exact .inl rfl | exact .inr (.inl rfl) | exact .inr (.inr rfl))) ev_int rfl) (bv_one (sv_ret (ev_sl (own := false) (ev_var (i := 1) rfl (by first | exact .inl rfl | exact .inr (.inl rfl) | exact .inr (.inr rfl))) ov_none (ov_some (ev_var (i := 2) rfl (by first | exact .inl rfl | exact .inr (.inl rfl) | exact .inr (.inr rfl))))))) bv_nil)
    (bv_cons (sv_if (tv_cmp (fun _ _ => op_eqD (Room.units hr.r)) ow_eq (ev_var (i := 4) rfl (by first | exact .inl rfl | exact .inr (.inl rfl) | exact .inr (.inr rfl))) ev_int rfl) (bv_one (sv_ret (ev_bin (own := false) (fun _ _ => op_addW) ow_add (ev_sl (own := false) (ev_var (i := 1) rfl (by first | exact .inl rfl | exact .inr (.inl rfl) | exact .inr (.inr rfl))) ov_none (ov_some (ev_var (i := 2) rfl (by first | exact .inl rfl | exact .inr (.inl rfl) | exact .inr (.inr rfl))))) (ev_sl (own := false) (ev_var (i := 1) rfl (by first | exact .inl rfl | exact .inr (.inl rfl) | exact .inr (.inr rfl))) (ov_some (ev_bin (own := false) (fun _ _ => op_addW) ow_add (ev_var (i := 2) rfl (by first | exact .inl rfl | exact .inr (.inl rfl) | exact .inr (.inr rfl))) ev_int)) ov_none)))) bv_nil)
    (bv_cons (sv_if (tv_cmp (fun _ _ => op_eqD (Room.units hr.r)) ow_eq (ev_var (i := 4) rfl (by first | exact .inl rfl | exact .inr (.inl rfl) | exact .inr (.inr rfl))) ev_int rfl) (bv_one (sv_ret (ev_bin (own := false) (fun _ _ => op_addW) ow_add (ev_bin (own := false) (fun _ _ => op_addW) ow_add (ev_sl (own := false) (ev_var (i := 1) rfl (by first | exact .inl rfl | exact .inr (.inl rfl) | exact .inr (.inr rfl))) ov_none (ov_some (ev_var (i := 2) rfl (by first | exact .inl rfl | exact .inr (.inl rfl) | exact .inr (.inr rfl))))) (ev_step (own := false) (ev_sl (own := false) (ev_var (i := 1) rfl (by first | exact .inl rfl | exact .inr (.inl rfl) | exact .inr (.inr rfl))) (ov_some (ev_var (i := 2) rfl (by first | exact .inl rfl | exact .inr (.inl rfl) | exact .inr (.inr rfl)))) (ov_some (ev_bin (own := false) (fun _ _ => op_addW) ow_add (ev_var (i := 2) rfl (by first | exact .inl rfl | exact .inr (.inl rfl) | exact .inr (.inr rfl))) ev_int))) (ev_neg ev_int))) (ev_sl (own := false) (ev_var (i := 1) rfl (by first | exact .inl rfl | exact .inr (.inl rfl) | exact .inr (.inr rfl))) (ov_some (ev_bin (own := false) (fun _ _ => op_addW) ow_add (ev_var (i := 2) rfl (by first | exact .inl rfl | exact .inr (.inl rfl) | exact .inr (.inr rfl))) ev_int)) ov_none)))) bv_nil)
    (bv_cons (sv_if (tv_cmp (fun _ _ => op_eqD (Room.units hr.r)) ow_eq (ev_var (i := 4) rfl (by first | exact .inl rfl | exact .inr (.inl rfl) | exact .inr (.inr rfl))) ev_int rfl) (bv_one (sv_ret (ev_bin (own := false) (fun _ _ => op_addW) ow_add (ev_bin (own := false) (fun _ _ => op_addW) ow_add (ev_sl (own := false) (ev_var (i := 1) rfl (by first | exact .inl rfl | exact .inr (.inl rfl) | exact .inr (.inr rfl))) ov_none (ov_some (ev_var (i := 2) rfl (by first | exact .inl rfl | exact .inr (.inl rfl) | exact .inr (.inr rfl))))) (ev_lst (own := false) (av_cons (ev_var (i := 3) rfl (by first | exact .inl rfl | exact .inr (.inl rfl) | exact .inr (.inr rfl))) av_nil))) (ev_sl (own := false) (ev_var (i := 1) rfl (by first | exact .inl rfl | exact .inr (.inl rfl) | exact .inr (.inr rfl))) (ov_some (ev_bin (own := false) (fun _ _ => op_addW) ow_add (ev_var (i := 2) rfl (by first | exact .inl rfl | exact .inr (.inl rfl) | exact .inr (.inr rfl))) ev_int)) ov_none)))) bv_nil)
    (bv_cons (sv_if (tv_w (tw_or (tv_cmp (fun _ _ => op_eqD (Room.units hr.r)) ow_eq (ev_var (i := 4) rfl (by first | exact .inl rfl | exact .inr (.inl rfl) | exact .inr (.inr rfl))) ev_int rfl) (tw_or1 (tv_cmp (fun _ _ => op_eqD (Room.units hr.r)) ow_eq (ev_var (i := 1) rfl (by first | exact .inl rfl | exact .inr (.inl rfl) | exact .inr (.inr rfl))) (ev_lst (own := false) av_nil) rfl)))) (bv_one (sv_ret (ev_bin (own := false) (fun _ _ => op_addW) ow_add (ev_bin (own := false) (fun _ _ => op_addW) ow_add (ev_sl (own := false) (ev_var (i := 1) rfl (by first | exact .inl rfl | exact .inr (.inl rfl) | exact .inr (.inr rfl))) ov_none (ov_some (ev_var (i := 2) rfl (by first | exact .inl rfl | exact .inr (.inl rfl) | exact .inr (.inr rfl))))) (ev_lst (own := false) (av_cons (ev_var (i := 3) rfl (by first | exact .inl rfl | exact .inr (.inl rfl) | exact .inr (.inr rfl))) av_nil))) (ev_sl (own := false) (ev_var (i := 1) rfl (by first | exact .inl rfl | exact .inr (.inl rfl) | exact .inr (.inr rfl))) (ov_some (ev_var (i := 2) rfl (by first | exact .inl rfl | exact .inr (.inl rfl) | exact .inr (.inr rfl)))) ov_none)))) bv_nil)
    (bv_one (sv_ret (ev_bin (own := false) (fun _ _ => op_addW) ow_add (ev_bin (own := false) (fun _ _ => op_addW) ow_add (ev_sl (own := false) (ev_var (i := 1) rfl (by first | exact .inl rfl | exact .inr (.inl rfl) | exact .inr (.inr rfl))) ov_none (ov_some (ev_var (i := 2) rfl (by first | exact .inl rfl | exact .inr (.inl rfl) | exact .inr (.inr rfl))))) (ev_lst (own := false) (av_cons (ev_ix (r65 hr.r) (ev_var (i := 1) rfl (by first | exact .inl rfl | exact .inr (.inl rfl) | exact .inr (.inr rfl))) (ev_callB (own := false) (fun _ _ => call_min2 rfl) oc_min2 rfl (Z.free 43) bo_min (av_cons (ev_var (i := 2) rfl (by first | exact .inl rfl | exact .inr (.inl rfl) | exact .inr (.inr rfl))) (av_cons (ev_bin (own := false) (fun _ _ => op_sub) ow_sub (ev_callB (own := false) (fun _ _ => call_lenW) oc_len rfl (Z.free 39) bo_len (av_cons (ev_var (i := 1) rfl (by first | exact .inl rfl | exact .inr (.inl rfl) | exact .inr (.inr rfl))) av_nil)) ev_int) av_nil)))) av_nil))) (ev_sl (own := false) (ev_var (i := 1) rfl (by first | exact .inl rfl | exact .inr (.inl rfl) | exact .inr (.inr rfl))) (ov_some (ev_var (i := 2) rfl (by first | exact .inl rfl | exact .inr (.inl rfl) | exact .inr (.inr rfl)))) ov_none))))))))))))
theorem sc_law : FnScope ["_law_script", "_law_rows", "_law_state_here", "_law_some", "_law_due_here", "_law_handed", "_law_found", "_law_k"] ["_law_script"] (defScope (top 46)) := ⟨rfl, rfl, rfl, by decide +kernel, rfl, by decide +kernel, by decide +kernel⟩
theorem ok_law (Z : HdS K mg w fa fn kc kd be) : ∃ fd, (∀ (s : Shared) (u : Value), BindsTo s fd ⟨[u], []⟩ [("_law_script", u)]) ∧ ∀ base : Heap, FnG P w K mg base 8 (He.ga K "law") fd ["_law_script"] (spD ⟨K, w, ecG K⟩ m_law 1) := by
  refine Z.lawG_ rfl 38 rfl sc_law rfl (fun _ _ _ _ _ _ us hl => match us, hl with | [_], _ => rfl) fun base f cdv A outer s H E hr => ?_
  have h__law_due := ok__law_due (P := P) (w := w) (base := base) Z
  have h__law_made := ok__law_made (P := P) (w := w) (base := base) Z
  have h__law_spoilt := ok__law_spoilt (P := P) (w := w) (base := base) Z
  have h__law_state := ok__law_state (P := P) (w := w) (base := base) Z
  have h_judged := ok_judged (P := P) (w := w) (base := base) Z
  exact (bv_cons (sv_set (i := 1) sc_law.nd rfl (by first | exact .inl rfl | exact .inr rfl) (ev_fnG (h__law_made.mono (by decide)) hr rfl (av_cons (ev_var (i := 0) rfl (by first | exact .inl rfl | exact .inr (.inl rfl) | exact .inr (.inr rfl))) av_nil)))
    (bv_frz 1 (bv_cons (sv_set (i := 2) sc_law.nd rfl (by first | exact .inl rfl | exact .inr rfl) (ev_fnG (h__law_state.mono (by decide)) hr rfl (av_cons (ev_lst (own := false) (av_cons (ev_bin (own := false) (fun _ _ => op_addW) ow_add (ev_bin (own := false) (fun _ _ => op_mul) ow_mul (ev_bin (own := false) (fun _ _ => op_mod) ow_mod (ev_callB (own := false) (fun _ _ => call_abs) oc_abs rfl (Z.free 40) bo_abs (av_cons (ev_callB (own := false) (fun _ _ => cr_sum rfl) oc_sum rfl (Z.free 53) bo_sum (av_cons (ev_var (i := 0) rfl (by first | exact .inl rfl | exact .inr (.inl rfl) | exact .inr (.inr rfl))) av_nil)) av_nil)) (ev_bin (own := false) (fun _ _ => op_pow) ow_pow ev_int ev_int)) ev_int) (ev_callB (own := false) (fun _ _ => call_lenW) oc_len rfl (Z.free 39) bo_len (av_cons (ev_var (i := 0) rfl (by first | exact .inl rfl | exact .inr (.inl rfl) | exact .inr (.inr rfl))) av_nil))) av_nil)) (av_cons ev_int av_nil))))
    (bv_cons (sv_for rfl (iv_list (ev_bin (own := false) (fun _ _ => op_addW) ow_add (ev_lst (own := false) (av_cons (ev_var (i := 1) rfl (by first | exact .inl rfl | exact .inr (.inl rfl) | exact .inr (.inr rfl))) av_nil)) (ev_lc (own := false) (ow := [("_law_k", 7)]) rfl sc_law.nd (iv_rng1 rfl (Z.free 41) ev_int) (blkOk_by (N := ["_law_script", "_law_rows", "_law_state_here", "_law_some", "_law_due_here", "_law_handed", "_law_found", "_law_k"]) (sc := defScope (top 46)) (by decide +kernel)) (fun _ _ _ _ _ => (gv_name (i := 7) sc_law.nd rfl (by first | exact .inl rfl | exact .inr rfl))) (fun _ _ _ _ _ => tsv_nil) (fun _ _ _ _ _ => (ev_fnG (h__law_spoilt.mono (by decide)) hr rfl (av_cons (ev_var (i := 2) rfl (by first | exact .inl rfl | exact .inr (.inl rfl) | exact .inr (.inr rfl))) (av_cons (ev_var (i := 1) rfl (by first | exact .inl rfl | exact .inr (.inl rfl) | exact .inr (.inr rfl))) av_nil)))) (by decide)))) (gv_name (i := 3) sc_law.nd rfl (by first | exact .inl rfl | exact .inr rfl)) (bv_cons (sv_set (i := 4) sc_law.nd rfl (by first | exact .inl rfl | exact .inr rfl) (ev_fnG (h__law_due.mono (by decide)) hr rfl (av_cons (ev_var (i := 3) rfl (by first | exact .inl rfl | exact .inr (.inl rfl) | exact .inr (.inr rfl))) av_nil)))
    (bv_cons (sv_set (i := 5) sc_law.nd rfl (by first | exact .inl rfl | exact .inr rfl) (ev_callTy (own := false) (fun _ _ => call_listW rfl) oc_list rfl (Z.free 51) bo_list (av_cons (ev_var (i := 3) rfl (by first | exact .inl rfl | exact .inr (.inl rfl) | exact .inr (.inr rfl))) av_nil)))
    (bv_cons (sv_set (i := 6) sc_law.nd rfl (by first | exact .inl rfl | exact .inr rfl) (ev_fnP (h_judged.mono (by decide)) hr rfl (av_cons (ev_var (i := 5) rfl (by first | exact .inl rfl | exact .inr (.inl rfl) | exact .inr (.inr rfl))) av_nil)))
    (bv_cons (sv_if (tv_w (tw_or (tv_val (ev_isT ist_bool (ev_var (i := 6) rfl (by first | exact .inl rfl | exact .inr (.inl rfl) | exact .inr (.inr rfl))) rfl (Z.free 44) rfl (Z.free 45) bo_bool)) (tw_or (tv_cmp (fun _ _ => op_neD (Room.units hr.r)) ow_ne (ev_var (i := 6) rfl (by first | exact .inl rfl | exact .inr (.inl rfl) | exact .inr (.inr rfl))) (ev_var (i := 4) rfl (by first | exact .inl rfl | exact .inr (.inl rfl) | exact .inr (.inr rfl))) rfl) (tw_or1 (tv_cmp (fun _ _ => op_neD (Room.units hr.r)) ow_ne (ev_var (i := 5) rfl (by first | exact .inl rfl | exact .inr (.inl rfl) | exact .inr (.inr rfl))) (ev_var (i := 3) rfl (by first | exact .inl rfl | exact .inr (.inl rfl) | exact .inr (.inr rfl))) rfl))))) (bv_one (sv_ret ev_bl)) bv_nil)
    (bv_one (sv_if (tv_cmp (fun _ _ => op_neD (Room.units hr.r)) ow_ne (ev_fnP (h_judged.mono (by decide)) hr rfl (av_cons (ev_callTy (own := false) (fun _ _ => call_tupX) oc_tuple rfl (Z.free 46) bo_tuple (av_cons (ev_var (i := 3) rfl (by first | exact .inl rfl | exact .inr (.inl rfl) | exact .inr (.inr rfl))) av_nil)) av_nil)) (ev_var (i := 4) rfl (by first | exact .inl rfl | exact .inr (.inl rfl) | exact .inr (.inr rfl))) rfl) (bv_one (sv_ret ev_bl)) bv_nil)))))))
    (bv_one (sv_ret ev_bl))))))
end
end BelLaw

open PySem PySem.W PySem.Calls PyProof.Rows
theorem PySem.Challenge.cw_bellyard_k35_judged_by_rules_holds : PySem.Challenge.rw_bellyard_k35_judged_by_rules.Holds := by
  w_on; o_law
  refine HandSHeadRun.head_any (r := OpenLaw.row PySem.Challenge.rw_bellyard_k35_judged_by_rules) (q := view (OpenLaw.row PySem.Challenge.rw_bellyard_k35_judged_by_rules).prog [46]) (H := BelLaw.hk) (ob := BelLaw.ob) (M := 8000) (loose := ((["YardError", "NoRecord", "is_number", "MOST_NAMED", "MOST_DEEP", "BY_BELLS", "is_between", "are_between", "is_task_name", "is_status", "FORMS", "MOST", "OF_STOPS", "fits", "is_row", "need_record", "HALTING", "KILL", "GO", "DONE"] : List Str) ++ (["Standing", "Court", "judged", "_law_state", "_law_next", "_law_pick", "_law_way", "_law_there", "_law_runs", "_law_lives", "_law_group", "_law_wanted", "_law_halting", "_law_untold", "_law_may_end", "_law_may", "_law_any_row", "_law_made", "_law_spoilt", "_law_due"] : List Str))) (d := HandSHeadRun.topDef (OpenLaw.row PySem.Challenge.rw_bellyard_k35_judged_by_rules).prog 46) (kwd := []) BelLaw.ob_eq
    (by kernel_rfl) (fun s => by kernel_rfl) BelLaw.run (by kernel_rfl) (by kernel_rfl) (by kernel_rfl) (by rfl) (by first | assumption | decide +kernel) (by decide +kernel) ⟨rfl, rfl, rfl, rfl, rfl, by decide +kernel⟩ ?hw ?hc
  case hw => w_witness2
  case hc =>
    refine Bel.law_endS (l := PySem.Challenge.rw_bellyard_k35_judged_by_rules) (n := 63) (k := 8) (x := "law") (y := "_law_script") rfl (by decide) (by kernel_rfl) ⟨rfl, by decide, by decide⟩ (by kernel_rfl) 38 rfl BelLaw.m_law (fun w mg K Z => ⟨Bel.ecG K, BelLaw.ok_law Z⟩) BelLaw.law_true

