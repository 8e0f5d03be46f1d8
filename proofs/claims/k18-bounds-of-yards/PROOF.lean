import PyProof.Rows.All
import Wide.All
import OpenK.AllK
import Wide.FinOn
import HandS.Base
import HandS.Call
import HandS.List
import HandS.Comp
import HandS.Ends
import HandS.Dict
import HandS.Iter
import HandS.Text
import HandS.Words
import HandS.Exc
import HandS.ExcOwn
import HandS.More
import HandS.TupAny
import HandS.TupMul
import HandS.Lambda
import HandS.HeadHook4
import HandS.ForMost
import HandS.IsInst
import HandS.Deep
import HandS.Style
import HandS.Walk
import HandS.WordsExc
import HandS.Defaults
import HandS.Head0
import HandS.Head1
import HandS.Head2
import HandS.HeadEnd
import HandS.HeadHook1
import HandS.HeadHook2
import HandS.HeadHook3
import HandS.RaiseMore
import HandS.ExcValue
import HandS.ExcIs
import KE.KEqDict
import KE.KDictLaw
import HandS.TryOnly
import HandS.NestedK
import HandS.Strs
import HandS.Zip
import HandS.ListItems
import HandS.Finally
import HandS.StrMore
import HandS.TupSets
import KE.KDictPairs
import HandS.TupLen
import HandS.SortInts
import HandS.NamedTupSort
import HandS.SortRule
import PySem.Challenge.RW_bellyard_k18_bounds_of_yards
set_option Elab.async false
set_option linter.all false
set_option maxRecDepth 100000
set_option maxHeartbeats 0
/-! The engine, part T0: tuples that are made, with what is known of their objects. -/
namespace Bel
open PySem PySem.Spec PyProof.Rows L2
/-- a tuple's own object at a, no instance dict -/
def TupO (o : Obj) (xs : List V) : HO := .frz o (.tup xs)
/-- a new tuple, whatever its object -/
def NewT (H : Hp) (xs : List V) (Q : VK) : Prop := ∀ p o, H p = none → o.dict = none → Q (.ref p) (upd H p (TupO o xs))
section
variable {X : Cx} {pins : List (Addr × Obj)} {σ : L2.St} {H : Hp} {s : Shared}
theorem tup_laid {h' : Heap} {a : Addr} {xs : List V} {its : Array Value} {n t' : Nat} {us : List Value} (I : Inv X pins σ H s) (k : ∀ b u, s.heap.get? b = some u → h'.get? b = some u) (hp : s.heap.objs.size ≤ a)
    (at_ : h'.get? a = some { cls := .type "tuple", data := .seq its n }) (hz : xs.length ≤ sizeLine) (r : Vals xs us) (e : its = us.toArray) :
    Inv X pins σ (upd H a (TupO { cls := .type "tuple", data := .seq its n } xs)) { s with heap := h', toks := t' } := by
  subst e
  exact I.laid k hp ⟨at_, hz, us, r, ⟨_, at_, rfl, n, rfl⟩⟩
/-- the new tuple at the heap's end -/
theorem tup_push {Q : VK} {xs : List V} {us : List Value} (I : Inv X pins σ H s) (hz : xs.length ≤ sizeLine) (r : Vals xs us) (q : NewT H xs Q) :
    EP X pins σ Q (.ref s.heap.objs.size) { s with heap := s.heap.push { cls := .type "tuple", data := .seq us.toArray } } :=
  ⟨.ref s.heap.objs.size, _, tup_laid (t' := s.toks) I (fun _ _ z => Heap.get?_push_of_some _ z) (Nat.le_refl _) (Heap.get?_push_size _ rfl) hz r rfl, rfl, q _ _ (I.hok.fresh (Nat.le_refl _)) rfl⟩
def tTupX (t : TA) : TE := fun σ H Q => t σ H fun xs H1 => xs.length ≤ sizeLine ∧ NewT H1 xs Q
theorem pe_tupX {es : List Expr} {t : TA} {pos : Pos} {k} (h : PA X es t) : PE X (.Tuple es k pos) (tTupX t) := by
  constructor
  intro pins s σ H Q I hq
  apply wpAny_Tuple_spliced
  apply thn (h.run pos pins s σ H _ I hq)
  rintro us s1 ⟨xs, H1, I1, r, z, q⟩
  exact ⟨by rw [← r.length]; exact z, tup_push I1 z r q⟩
def rTupX (K : PySem.W.Frag) : List V → Hp → VK → Prop := fun xs H Q => ∃ p ys, xs = [.ref p] ∧ ((SqL K H p ys ∧ NewT H ys Q) ∨ (SqT K H p ys ∧ Q (.ref p) H))
theorem call_tupX : CallR X (.type "tuple") (rTupX X.K) := by
  intro pins s σ H xs us Q I r h
  obtain ⟨p, ys, rfl, h⟩ := h
  obtain ⟨u, rfl, rx⟩ := vals1 r
  cases rx
  rcases h with ⟨hl, q⟩ | ⟨ht, q⟩
  · obtain ⟨its, rv, pl, hz⟩ := I.list hl
    have le := rv.length
    refine call_tuple_list pl.isList (fun h1 k1 => ?_) (by rw [List.size_toArray, ← le]; exact hz)
    exact tup_push (I.kept (t' := s.toks) k1) hz rv q
  · obtain ⟨its, rv, tp, _⟩ := I.tuple ht
    exact call_tuple_same tp ⟨.ref p, H, I, rfl, q⟩
def rCatX (K : PySem.W.Frag) : R2 := fun x y H Q => ∃ a b xs ys, x = .ref a ∧ y = .ref b ∧ SqT K H a xs ∧ SqT K H b ys ∧ xs.length + ys.length ≤ sizeLine ∧
  (xs = [] → Q (.ref b) H) ∧ (xs ≠ [] → ys = [] → Q (.ref a) H) ∧ (xs ≠ [] → ys ≠ [] → NewT H (xs ++ ys) Q)
theorem op_catX : OpR X (binaryOp .Add) (rCatX X.K) := by
  intro pins s σ H x y v u Q I rx ry h
  obtain ⟨a, b, xs, ys, rfl, rfl, ha, hb, hz, q0, q1, q2⟩ := h
  cases rx
  cases ry
  obtain ⟨us, r1, p1, _⟩ := I.tuple ha
  obtain ⟨vs, r2, p2, _⟩ := I.tuple hb
  by_cases hx : xs = []
  · subst hx
    cases r1
    exact cat_tup0 p1 p2 ⟨.ref b, H, I, rfl, q0 rfl⟩
  · apply HT.cat_tup p1 p2 (fun z => hx (r1.nil_iff.mp z)) (fun z => ⟨.ref a, H, I, rfl, q1 hx (r2.nil_iff.mp z)⟩)
    · intro z
      exact tup_push I (by rw [List.length_append]; exact hz) (r1.append r2) (q2 hx fun w => z (r2.nil_iff.mpr w))
    · rw [← r1.length, ← r2.length]; exact hz
def rSlX (K : PySem.W.Frag) : V → Option Int → Option Int → Hp → VK → Prop := fun x lo hi H Q => ∃ a xs, x = .ref a ∧ SqT K H a xs ∧
  (HT.sIx xs.length 0 lo = 0 ∧ HT.sIx xs.length xs.length hi = xs.length → Q (.ref a) H) ∧ (¬ (HT.sIx xs.length 0 lo = 0 ∧ HT.sIx xs.length xs.length hi = xs.length) → NewT H (cutV xs lo hi) Q)
theorem sl_tupX : SlR X (rSlX X.K) := by
  intro pins s σ H x v vl vu lo hi sl Q I rx hs pl pu h
  obtain ⟨a, xs, rfl, hx, q1, q2⟩ := h
  cases rx
  obtain ⟨us, r, ht, hz⟩ := I.tuple hx
  have le : us.toArray.size = xs.length := by rw [List.size_toArray, ← r.length]
  refine ⟨"tuple", _, slot_tuple_getitem.lookup, ht.typeIs, ?_⟩
  by_cases hw : HT.sIx xs.length 0 lo = 0 ∧ HT.sIx xs.length xs.length hi = xs.length
  · exact getItem_tuple_whole ht hs pl pu (by rw [le]; exact hw) ⟨.ref a, H, I, rfl, q1 hw⟩
  · refine HT.getItem_tuple_cut ht hs pl pu (by rw [le]; exact hw) ?_ (by rw [le]; exact hz)
    rw [le]
    exact tup_push I (Nat.le_trans (cutV_length xs lo hi) hz) ((r.drop (HT.sIx xs.length 0 lo)).take _) (q2 hw)
def rRepX (K : PySem.W.Frag) : R2 := fun x y H Q => ∃ l k xs, x = .ref l ∧ y = .int k ∧ SqT K H l xs ∧ xs ≠ [] ∧ 2 ≤ k ∧ k ≤ 1000 ∧ xs.length ≤ 1000 ∧ NewT H (List.replicate k.toNat xs).flatten Q
theorem op_repX : OpR X (binaryOp .Mult) (rRepX X.K) := by
  intro pins s σ H x y v u Q I rx ry h
  obtain ⟨l, k, xs, rfl, rfl, hT, hne, lo, hi, many, q⟩ := h
  cases rx
  obtain ⟨t, rfl⟩ := ry
  obtain ⟨us, r, ⟨⟨cl, dd, da, sl⟩, at_, hc, n, hd⟩, _⟩ := I.tuple hT
  simp only at hc hd
  subst hc hd
  have len : us.length = xs.length := r.length.symm
  have size : us.toArray.size = xs.length := by rw [List.size_toArray, len]
  have full : us.toArray.isEmpty = false := by
    cases us with
    | nil => exact absurd (List.eq_nil_of_length_eq_zero len.symm) hne
    | cons _ _ => rfl
  have prod : k.toNat * xs.length ≤ 1000 * 1000 := Nat.mul_le_mul (by omega) many
  have prodI : ((us.toArray.size : Nat) : Int) * k ≤ 1000000 := by
    rw [size]
    have p1 : ((xs.length : Nat) : Int) * k ≤ 1000 * k := Int.mul_le_mul_of_nonneg_right (by omega) (by omega)
    omega
  have fits : (List.replicate k.toNat us).flatten.length ≤ sizeLine := by
    rw [lm_len_rep_flat, len, sizeLine_eq]
    omega
  have d0 : (decide (k < -(2 ^ 63)) || decide (k ≥ 2 ^ 63)) = false := Bool.or_eq_false_iff.mpr ⟨decide_eq_false (by omega), decide_eq_false (by omega)⟩
  have d1 : (us.toArray.isEmpty || k == 1) = false := Bool.or_eq_false_iff.mpr ⟨full, beq_eq_false_iff_ne.mpr (by omega)⟩
  have d2 : (decide (k ≤ 0) || us.toArray.isEmpty) = false := Bool.or_eq_false_iff.mpr ⟨decide_eq_false (by omega), full⟩
  have d3 : Builtin.Tuple.tupleTooMany (((us.toArray.size : Nat) : Int) * k) = false := by
    unfold Builtin.Tuple.tupleTooMany
    rw [sizeLine_eq]
    exact decide_eq_false (by omega)
  refine wpAny_binaryOp_repeat_ref (T := "tuple") (U := "int") (by decide) ⟨_, at_, rfl⟩ (fun s1 => typeIs_int s1 k t) noFill_tuple_mul F.fills_int_mul F.slot_int_rmul repeat_tuple F.slot_int_index.lookup ?_
  refine call_meets F.slot_int_rmul (typeIs_int s k t) F.entry_int_rmul (F.args_int_rmul_2 _ _) (int_rmul_tuple k t l us.toArray n dd sl) ⟨at_, rfl, ⟨_, at_, rfl⟩, call_meets F.slot_tuple_mul ⟨_, at_, rfl⟩ F.entry_tuple_mul (F.args_tuple_mul_2 _ _) (tuple_mulW l us.toArray n dd sl k t d0 d1 d2 (by omega) d3 (by rw [size_rep, List.size_toArray]; exact fits)) ⟨at_, ?_⟩⟩
  rw [size_rep]
  exact tup_push I (by rw [lm_len_rep_flat, sizeLine_eq]; omega) (r.rep k.toNat) q
end
end Bel

/-! The engine: plain values, a store of own lists and dicts, and what an expression or a statement comes to as a function of these. -/
namespace Bel
open PySem PySem.Spec PyProof.Rows L2

/-! ### plain values -/
inductive W where
  | non | bl (b : Bool) | int (i : Int) | str (x : List Nat) | tup (l : List W) | lst (l : List W) | dct (l : List (W × W)) | exc (c : Nat) | kdc (l : List (List Nat × W)) | tdc (l : List (List Int × W))
/-- an own object -/
inductive Ob where
  | lst (l : List W) | dct (l : List (W × W)) | scr (l : List W) | tbl (x q : Str) | dead
/-- what a name holds: a plain value, or an own object by its number -/
inductive U where
  | v (w : W) | o (n : Nat)
abbrev Store := List Ob

abbrev okCp (c : Nat) : Bool := decide (c < 1114112)

/-- an exception object of the class cls at a, held as a value -/
def ExV (cls : Value) (a : Addr) : HO := .ext fun h => ∃ (oe : Obj) (vs : Array Value), h.get? a = some oe ∧ Zc cls none oe ∧ oe.data = .fields vs

/-- the object of a dict at a whose keys are tuples of numbers; xs: the keys, where they stand, the values -/
def TdAt (w : World) (a : Addr) (xs : List (List Int × Addr × Value)) (h : Heap) : Prop :=
  ∃ o es ep, h.get? a = some o ∧ o.ExactDict ∧ o.data = .dict es ep ∧ (∀ P : Program, es.toList = xs.map (entryOfKey (tupleKind (intKind P w)))) ∧ (xs.map (·.1)).Nodup
def TdO (w : World) (a : Addr) (xs : List (List Int × Addr × Value)) : HO := .ext (TdAt w a xs)
theorem entT_any (P P' : Program) (w : World) : (entryOfKey (tupleKind (intKind P w)) : List Int × Addr × Value → DictEntry) = entryOfKey (tupleKind (intKind P' w)) := rfl

/-- what is fixed: the written part, the classes of own errors by their numbers -/
structure Fx where
  K : PySem.W.Frag
  w : World
  ec : Nat → Value

section
variable (F : Fx) (H : Hp) (O : Addr → Prop)
def KTup (a : Addr) (xs : List V) : Prop := ∃ (o : Obj) (its : Array Value) (n : Nat), F.K.lookup a = some o ∧ o.cls = .type "tuple" ∧ o.dict = none ∧ o.data = .seq its n ∧ its.size ≤ sizeLine ∧ Vals xs its.toList
/-- a written dict with text keys -/
def KDc (a : Addr) (kvs : List (Str × V)) : Prop :=
  (∃ es n, F.K.lookup a = some ⟨.type "dict", none, .dict es n, #[]⟩ ∧ PySem.W.KeysLit F.w.params es.toList ∧ (a == sysModules) = false) ∧
    ∀ x : Str, match kvs.lookup x with
      | some v => ∃ u, PySem.W.nsIn F.K a x = some (some u) ∧ RelV v u
      | none => PySem.W.nsIn F.K a x = some none
def FLst (a : Addr) (xs : List V) : Prop := H a = some (.lst xs) ∧ ¬ O a
/-- a tuple's own object, without an instance dict -/
def ExT (a : Addr) (xs : List V) : Prop := ∃ o, H a = some (TupO o xs) ∧ o.dict = none
def FTup (a : Addr) (xs : List V) : Prop := (ExT H a xs ∧ ¬ O a) ∨ KTup F a xs
def FDct (a : Addr) (kvs : List (Key × V)) : Prop := Rd H a (.dK kvs) ∧ ¬ O a
/-- w stands for v, and stays -/
inductive Rp : W → V → Prop where
  | non : Rp .non .non
  | bl (b : Bool) : Rp (.bl b) (.bl b)
  | int (i : Int) : Rp (.int i) (.int i)
  | str (x : List Nat) (h : x.length ≤ sizeLine) (h2 : x.all okCp = true) : Rp (.str x) (.str ⟨x.toArray⟩)
  | tup {a : Addr} {vs : List V} {ws : List W} (h : FTup F H O a vs) (hl : ws.length = vs.length) (hs : ∀ (i : Nat) (w : W) (v : V), ws[i]? = some w → vs[i]? = some v → Rp w v) : Rp (.tup ws) (.ref a)
  | lst {a : Addr} {vs : List V} {ws : List W} (h : FLst H O a vs) (hl : ws.length = vs.length) (hs : ∀ (i : Nat) (w : W) (v : V), ws[i]? = some w → vs[i]? = some v → Rp w v) : Rp (.lst ws) (.ref a)
  | dct {a : Addr} {kvs : List (Key × V)} {ws : List (W × W)} (h : FDct H O a kvs) (hl : ws.length = kvs.length)
      (hk : ∀ (i : Nat) (w : W × W) (v : Key × V), ws[i]? = some w → kvs[i]? = some v → Rp w.1 (kV v.1)) (hs : ∀ (i : Nat) (w : W × W) (v : Key × V), ws[i]? = some w → kvs[i]? = some v → Rp w.2 v.2) : Rp (.dct ws) (.ref a)
  | exc {a : Addr} {c : Nat} (h : H a = some (ExV (F.ec c) a)) (hn : ¬ O a) : Rp (.exc c) (.ref a)
  | kdc {a : Addr} {kvs : List (Str × V)} {ws : List (List Nat × W)} (h : KDc F a kvs) (hl : ws.length = kvs.length) (hk : ∀ (i : Nat) (w : List Nat × W) (v : Str × V), ws[i]? = some w → kvs[i]? = some v → v.1 = ⟨w.1.toArray⟩)
      (hs : ∀ (i : Nat) (w : List Nat × W) (v : Str × V), ws[i]? = some w → kvs[i]? = some v → Rp w.2 v.2) : Rp (.kdc ws) (.ref a)
  | tdc {a : Addr} {xs : List (List Int × Addr × Value)} {vs : List V} {ws : List (List Int × W)} (h : H a = some (TdO F.w a xs)) (hn : ¬ O a) (hm : (a == sysModules) = false) (hl : ws.length = xs.length) (hv : vs.length = xs.length)
      (hk : ∀ (i : Nat) (w : List Int × W) (x : List Int × Addr × Value), ws[i]? = some w → xs[i]? = some x → x.1 = w.1 ∧ FTup F H O x.2.1 (w.1.map V.int))
      (hr : ∀ (i : Nat) (v : V) (x : List Int × Addr × Value), vs[i]? = some v → xs[i]? = some x → RelV v x.2.2)
      (hs : ∀ (i : Nat) (w : List Int × W) (v : V), ws[i]? = some w → vs[i]? = some v → Rp w.2 v) : Rp (.tdc ws) (.ref a)
/-- lists of them -/
def RpL (ws : List W) (vs : List V) : Prop := ws.length = vs.length ∧ ∀ (i : Nat) (w : W) (v : V), ws[i]? = some w → vs[i]? = some v → Rp F H O w v
def RpD (ws : List (W × W)) (kvs : List (Key × V)) : Prop := ws.length = kvs.length ∧ (∀ (i : Nat) (w : W × W) (v : Key × V), ws[i]? = some w → kvs[i]? = some v → Rp F H O w.1 (kV v.1)) ∧ ∀ (i : Nat) (w : W × W) (v : Key × V), ws[i]? = some w → kvs[i]? = some v → Rp F H O w.2 v.2
end
section
variable {F : Fx} {H H' : Hp} {O O' : Addr → Prop}
theorem RpL.nil : RpL F H O [] [] := ⟨rfl, fun i w v h => by simp at h⟩
theorem RpL.cons {w : W} {v : V} {ws : List W} {vs : List V} (h : Rp F H O w v) (r : RpL F H O ws vs) : RpL F H O (w :: ws) (v :: vs) := by
  refine ⟨by simp [r.1], fun i x y hx hy => ?_⟩
  cases i with
  | zero => simp at hx hy; subst hx hy; exact h
  | succ i => simp at hx hy; exact r.2 i x y hx hy
theorem RpL.head {w : W} {v : V} {ws : List W} {vs : List V} (r : RpL F H O (w :: ws) (v :: vs)) : Rp F H O w v := r.2 0 w v rfl rfl
theorem RpL.tail {w : W} {v : V} {ws : List W} {vs : List V} (r : RpL F H O (w :: ws) (v :: vs)) : RpL F H O ws vs := ⟨by have := r.1; simpa using this, fun i x y hx hy => r.2 (i + 1) x y (by simpa using hx) (by simpa using hy)⟩
theorem RpL.nil_iff {vs : List V} (r : RpL F H O [] vs) : vs = [] := by
  have := r.1
  cases vs with
  | nil => rfl
  | cons _ _ => simp at this
theorem RpL.cons_iff {w : W} {ws : List W} {vs : List V} (r : RpL F H O (w :: ws) vs) : ∃ v vs', vs = v :: vs' ∧ Rp F H O w v ∧ RpL F H O ws vs' := by
  cases vs with
  | nil => have := r.1; simp at this
  | cons v vs' => exact ⟨v, vs', rfl, r.head, r.tail⟩
theorem RpL.append {ws xs : List W} {vs ys : List V} (r : RpL F H O ws vs) (q : RpL F H O xs ys) : RpL F H O (ws ++ xs) (vs ++ ys) := by
  induction ws generalizing vs with
  | nil => rw [r.nil_iff]; exact q
  | cons w ws ih =>
    obtain ⟨v, vs', rfl, h, r'⟩ := r.cons_iff
    exact .cons h (ih r')
theorem RpL.get {ws : List W} {vs : List V} (r : RpL F H O ws vs) {i : Nat} {w : W} (h : ws[i]? = some w) : ∃ v, vs[i]? = some v ∧ Rp F H O w v := by
  obtain ⟨hi, _⟩ := List.getElem?_eq_some_iff.mp h
  have hi' : i < vs.length := by rw [← r.1]; exact hi
  exact ⟨vs[i], by simp [hi'], r.2 i w vs[i] h (by simp [hi'])⟩
theorem RpL.take {ws : List W} {vs : List V} (r : RpL F H O ws vs) (n : Nat) : RpL F H O (ws.take n) (vs.take n) := by
  refine ⟨by simp [r.1], fun i x y hx hy => ?_⟩
  rw [List.getElem?_take] at hx hy
  split at hx <;> simp_all
  exact r.2 i x y hx hy
theorem RpL.drop {ws : List W} {vs : List V} (r : RpL F H O ws vs) (n : Nat) : RpL F H O (ws.drop n) (vs.drop n) := by
  refine ⟨by simp [r.1], fun i x y hx hy => ?_⟩
  rw [List.getElem?_drop] at hx hy
  exact r.2 _ x y hx hy
theorem RpL.set {ws : List W} {vs : List V} (r : RpL F H O ws vs) (n : Nat) {w : W} {v : V} (h : Rp F H O w v) : RpL F H O (ws.set n w) (vs.set n v) := by
  refine ⟨by simp [r.1], fun i x y hx hy => ?_⟩
  rw [List.getElem?_set] at hx hy
  split at hx
  · split at hx
    · split at hy
      · split at hy
        · cases hx; cases hy; exact h
        · cases hy
      · rename_i a b c; exact absurd a c
    · cases hx
  · rename_i a
    rw [if_neg a] at hy
    exact r.2 i x y hx hy
theorem RpL.reverse {ws : List W} {vs : List V} (r : RpL F H O ws vs) : RpL F H O ws.reverse vs.reverse := by
  induction ws generalizing vs with
  | nil => rw [r.nil_iff]; exact .nil
  | cons w ws ih =>
    obtain ⟨v, vs', rfl, h, r'⟩ := r.cons_iff
    simp only [List.reverse_cons]
    exact (ih r').append (.cons h .nil)
theorem RpL.eraseIdx {ws : List W} {vs : List V} (r : RpL F H O ws vs) (n : Nat) : RpL F H O (ws.eraseIdx n) (vs.eraseIdx n) := by
  rw [List.eraseIdx_eq_take_drop_succ, List.eraseIdx_eq_take_drop_succ]
  exact (r.take n).append (r.drop (n + 1))
theorem RpL.dropLast {ws : List W} {vs : List V} (r : RpL F H O ws vs) : RpL F H O ws.dropLast vs.dropLast := by
  rw [List.dropLast_eq_take, List.dropLast_eq_take, r.1]
  exact r.take _
theorem Rp.mkTup {a : Addr} {vs : List V} {ws : List W} (h : FTup F H O a vs) (r : RpL F H O ws vs) : Rp F H O (.tup ws) (.ref a) := .tup h r.1 r.2
theorem Rp.mkLst {a : Addr} {vs : List V} {ws : List W} (h : FLst H O a vs) (r : RpL F H O ws vs) : Rp F H O (.lst ws) (.ref a) := .lst h r.1 r.2
theorem Rp.mkDct {a : Addr} {kvs : List (Key × V)} {ws : List (W × W)} (h : FDct H O a kvs) (r : RpD F H O ws kvs) : Rp F H O (.dct ws) (.ref a) := .dct h r.1 r.2.1 r.2.2
theorem Rp.tup_inv {ws : List W} {v : V} (r : Rp F H O (.tup ws) v) : ∃ a vs, v = .ref a ∧ FTup F H O a vs ∧ RpL F H O ws vs := by
  cases r with
  | tup h hl hs => exact ⟨_, _, rfl, h, hl, hs⟩
theorem Rp.lst_inv {ws : List W} {v : V} (r : Rp F H O (.lst ws) v) : ∃ a vs, v = .ref a ∧ FLst H O a vs ∧ RpL F H O ws vs := by
  cases r with
  | lst h hl hs => exact ⟨_, _, rfl, h, hl, hs⟩
theorem Rp.dct_inv {ws : List (W × W)} {v : V} (r : Rp F H O (.dct ws) v) : ∃ a kvs, v = .ref a ∧ FDct H O a kvs ∧ RpD F H O ws kvs := by
  cases r with
  | dct h hl hk hs => exact ⟨_, _, rfl, h, hl, hk, hs⟩
theorem FTup.sq {a : Addr} {vs : List V} (h : FTup F H O a vs) : SqT F.K H a vs := by
  rcases h with ⟨⟨o, h, _⟩, _⟩ | ⟨o, its, n, h1, h2, _, h3⟩
  · exact .inl (.inr ⟨o, h⟩)
  · exact .inr ⟨o, its, n, h1, h2, h3⟩
theorem FLst.sq {a : Addr} {vs : List V} (h : FLst H O a vs) : SqL F.K H a vs := .inl (.inl h.1)

/-- what nobody owns stays -/
def Ext (O : Addr → Prop) (H H' : Hp) : Prop := ∀ a ho, H a = some ho → ¬ O a → H' a = some ho
/-- nothing that stood becomes owned -/
def Own (O O' : Addr → Prop) (H : Hp) : Prop := ∀ a, O' a → O a ∨ H a = none
theorem Rd.ext {a : Addr} {u : HO} (e : Ext O H H') (p : Own O O' H) (h : Rd H a u) (n : ¬ O a) : Rd H' a u ∧ ¬ O' a := by
  rcases h with h | ⟨o, h⟩
  · exact ⟨.inl (e a _ h n), fun z => (p a z).elim n fun q => by rw [h] at q; cases q⟩
  · exact ⟨.inr ⟨o, e a _ h n⟩, fun z => (p a z).elim n fun q => by rw [h] at q; cases q⟩
theorem FTup.ext {a : Addr} {vs : List V} (e : Ext O H H') (p : Own O O' H) (h : FTup F H O a vs) : FTup F H' O' a vs := by
  rcases h with ⟨⟨o, h, hd⟩, n⟩ | h
  · exact .inl ⟨⟨o, e a _ h n, hd⟩, fun z => (p a z).elim n fun q => by rw [h] at q; cases q⟩
  · exact .inr h
theorem FLst.ext {a : Addr} {vs : List V} (e : Ext O H H') (p : Own O O' H) (h : FLst H O a vs) : FLst H' O' a vs := ⟨e a _ h.1 h.2, fun z => (p a z).elim h.2 fun q => by rw [h.1] at q; cases q⟩
theorem FDct.ext {a : Addr} {kvs : List (Key × V)} (e : Ext O H H') (p : Own O O' H) (h : FDct H O a kvs) : FDct H' O' a kvs := Rd.ext e p h.1 h.2
theorem Rp.ext (e : Ext O H H') (p : Own O O' H) {w : W} {v : V} (r : Rp F H O w v) : Rp F H' O' w v := by
  induction r with
  | non => exact .non
  | bl b => exact .bl b
  | int i => exact .int i
  | str x h h2 => exact .str x h h2
  | tup h hl hs ih => exact .tup (h.ext e p) hl ih
  | lst h hl hs ih => exact .lst (h.ext e p) hl ih
  | dct h hl hk hs ihk ihs => exact .dct (h.ext e p) hl ihk ihs
  | kdc h hl hk hs ihs => exact .kdc h hl hk ihs
  | tdc h hn hm hl hv hk hr hs ihs => exact .tdc (e _ _ h hn) (fun z => (p _ z).elim hn fun q => by rw [h] at q; cases q) hm hl hv (fun i w x h1 h2 => ⟨(hk i w x h1 h2).1, (hk i w x h1 h2).2.ext e p⟩) hr ihs
  | exc h hn => exact .exc (e _ _ h hn) fun z => (p _ z).elim hn fun q => by rw [h] at q; cases q
theorem RpL.ext (e : Ext O H H') (p : Own O O' H) {ws : List W} {vs : List V} (r : RpL F H O ws vs) : RpL F H' O' ws vs := ⟨r.1, fun i w v h1 h2 => (r.2 i w v h1 h2).ext e p⟩
theorem RpD.ext (e : Ext O H H') (p : Own O O' H) {ws : List (W × W)} {vs : List (Key × V)} (r : RpD F H O ws vs) : RpD F H' O' ws vs := ⟨r.1, fun i w v h1 h2 => (r.2.1 i w v h1 h2).ext e p, fun i w v h1 h2 => (r.2.2 i w v h1 h2).ext e p⟩
end

/-! ### the store -/
/-- what is owned: the addresses of the objects that live -/
def Ow (ι : List Addr) (S : Store) (a : Addr) : Prop := ∃ (n : Nat) (o : Ob), S[n]? = some o ∧ o ≠ Ob.dead ∧ ι[n]? = some a
/-- .. or hidden: what is being made -/
def Oq (ι : List Addr) (S : Store) (B : Addr → Prop) (a : Addr) : Prop := Ow ι S a ∨ B a
/-- the table of the inner code of the def x; q the name of what is made there -/
def TblR (F : Fx) (H : Hp) (O : Addr → Prop) (a : Addr) (x q : Str) : Prop :=
  a = (He.cT F.K (x, none)).2 ∧ ∃ ps : Array Value, H a = some (.tbl ps) ∧ TriplesOk ps.toList ∧ ∀ (pos : Pos) (cv : Value), codeAmong pos ps.toList = some cv → ∃ c, cv = .ref c ∧ H c = some (LamX.CodeO c q) ∧ ¬ O c
theorem TblR.ext {F : Fx} {H H' : Hp} {O O' : Addr → Prop} {a : Addr} {x q : Str} (r : TblR F H O a x q) (e : Ext O H H') (p : Own O O' H) (h : ∀ ho, H a = some ho → H' a = some ho) : TblR F H' O' a x q := by
  obtain ⟨h1, ps, h3, h4, h5⟩ := r
  refine ⟨h1, ps, h _ h3, h4, fun pos cv hc => ?_⟩
  obtain ⟨c, e1, e2, e3⟩ := h5 pos cv hc
  exact ⟨c, e1, e c _ e2 e3, fun z => (p c z).elim e3 fun z => by rw [e2] at z; cases z⟩
def ObR (F : Fx) (H : Hp) (O : Addr → Prop) (a : Addr) : Ob → Prop
  | .lst ws => ∃ vs, H a = some (.lst vs) ∧ RpL F H O ws vs
  | .dct ws => ∃ kvs, H a = some (.dK kvs) ∧ RpD F H O ws kvs
  | .scr ws => ∃ vs ho, H a = some ho ∧ Rd H a (.lst vs) ∧ RpL F H O ws vs
  | .tbl x q => TblR F H O a x q
  | .dead => ∃ ho, H a = some ho
structure RS (F : Fx) (ι : List Addr) (S : Store) (B : Addr → Prop) (H : Hp) : Prop where
  len : ι.length = S.length
  nd : ι.Nodup
  ob : ∀ (n : Nat) (o : Ob) (a : Addr), S[n]? = some o → ι[n]? = some a → ObR F H (Oq ι S B) a o
  hid : ∀ a, B a → (∃ ho, H a = some ho) ∧ a ∉ ι
def RU (F : Fx) (H : Hp) (ι : List Addr) (S : Store) (B : Addr → Prop) : U → V → Prop
  | .v w, v => Rp F H (Oq ι S B) w v
  | .o n, v => ∃ a, ι[n]? = some a ∧ v = .ref a
/-- how the heap, the store go on -/
structure Go (ι : List Addr) (S : Store) (H : Hp) (ι' : List Addr) (S' : Store) (H' : Hp) : Prop where
  ext : Ext (Ow ι S) H H'
  own : Own (Ow ι S) (Ow ι' S') H
  pre : ∃ t, ι' = ι ++ t
section
variable {F : Fx} {H H' H1 H2 : Hp} {ι ι' ι1 ι2 : List Addr} {S S' S1 S2 : Store} {B : Addr → Prop}
theorem Go.refl : Go ι S H ι S H := ⟨fun _ _ h _ => h, fun _ h => .inl h, [], by simp⟩
theorem Go.trans (a : Go ι S H ι1 S1 H1) (b : Go ι1 S1 H1 ι2 S2 H2) : Go ι S H ι2 S2 H2 := by
  have key : ∀ x ho, H x = some ho → ¬ Ow ι S x → H1 x = some ho ∧ ¬ Ow ι1 S1 x := fun x ho h n =>
    ⟨a.ext x ho h n, fun z => (a.own x z).elim n fun q => by rw [h] at q; cases q⟩
  refine ⟨fun x ho h n => b.ext x ho (key x ho h n).1 (key x ho h n).2, fun x z => ?_, ?_⟩
  · by_cases n : Ow ι S x
    · exact .inl n
    · rcases b.own x z with q | q
      · exact a.own x q
      · cases e : H x with
        | none => exact .inr rfl
        | some ho => rw [(key x ho e n).1] at q; cases q
  · obtain ⟨t, rfl⟩ := a.pre
    obtain ⟨u, rfl⟩ := b.pre
    exact ⟨t ++ u, by simp⟩
theorem Go.extq (g : Go ι S H ι' S' H') : Ext (Oq ι S B) H H' := fun a ho h n => g.ext a ho h fun z => n (.inl z)
theorem Go.ownq (g : Go ι S H ι' S' H') : Own (Oq ι S B) (Oq ι' S' B) H := fun a z => z.elim (fun z => (g.own a z).imp .inl id) fun z => .inl (.inr z)
theorem Rp.go (g : Go ι S H ι' S' H') {w : W} {v : V} (r : Rp F H (Oq ι S B) w v) : Rp F H' (Oq ι' S' B) w v := r.ext g.extq g.ownq
theorem RpL.go (g : Go ι S H ι' S' H') {w : List W} {v : List V} (r : RpL F H (Oq ι S B) w v) : RpL F H' (Oq ι' S' B) w v := r.ext g.extq g.ownq
theorem RpD.go (g : Go ι S H ι' S' H') {w : List (W × W)} {v : List (Key × V)} (r : RpD F H (Oq ι S B) w v) : RpD F H' (Oq ι' S' B) w v := r.ext g.extq g.ownq
theorem RU.go (g : Go ι S H ι' S' H') {u : U} {v : V} (r : RU F H ι S B u v) : RU F H' ι' S' B u v := by
  cases u with
  | v w => exact Rp.go g r
  | o n =>
    obtain ⟨a, h, e⟩ := r
    obtain ⟨t, rfl⟩ := g.pre
    exact ⟨a, by rw [List.getElem?_append_left (List.getElem?_eq_some_iff.mp h).1]; exact h, e⟩
end

/-! ### results, names -/
inductive Re (α : Type) where
  | ok (a : α) (S : Store) | ex (c : Nat) (S : Store) | no
abbrev Env' := List (Option U)
inductive Fl where
  | nx (e : Env') | rt (u : U) | bk (e : Env') | ct (e : Env')
inductive Rs where
  | ok (f : Fl) (S : Store) | ex (c : Nat) (e : Env') (S : Store) | no
abbrev DE := Env' → Store → Re U
abbrev DT := Env' → Store → Re Bool
abbrev DA := Env' → Store → Re (List U)
abbrev DS := Env' → Store → Rs
def RUs (F : Fx) (H : Hp) (ι : List Addr) (S : Store) (B : Addr → Prop) (us : List U) (vs : List V) : Prop := Paired (RU F H ι S B) us vs
structure ER (F : Fx) (H : Hp) (ι : List Addr) (S : Store) (B : Addr → Prop) (env : Env') (σ : L2.St) : Prop where
  len : env.length = σ.length
  get : ∀ (i : Nat) (u : U), env[i]? = some (some u) → ∃ v, σ[i]? = some (some v) ∧ RU F H ι S B u v
/-- what a result asks of what follows -/
def PoE (F : Fx) (Wx : WX) (σ : L2.St) (ι : List Addr) (S : Store) (B : Addr → Prop) (H : Hp) (r : Re U) (Q : VK) : Prop := match r with
  | .ok u S' => ∀ v H' ι', Go ι S H ι' S' H' → RS F ι' S' B H' → RU F H' ι' S' B u v → Q v H'
  | .ex c S' => ∀ H' ι', Go ι S H ι' S' H' → RS F ι' S' B H' → Wx (F.ec c) none σ H'
  | .no => False
def PoT (F : Fx) (Wx : WX) (σ : L2.St) (ι : List Addr) (S : Store) (B : Addr → Prop) (H : Hp) (r : Re Bool) (Q : Bool → Hp → Prop) : Prop := match r with
  | .ok b S' => ∀ H' ι', Go ι S H ι' S' H' → RS F ι' S' B H' → Q b H'
  | .ex c S' => ∀ H' ι', Go ι S H ι' S' H' → RS F ι' S' B H' → Wx (F.ec c) none σ H'
  | .no => False
def PoA (F : Fx) (Wx : WX) (σ : L2.St) (ι : List Addr) (S : Store) (B : Addr → Prop) (H : Hp) (r : Re (List U)) (Q : List V → Hp → Prop) : Prop := match r with
  | .ok us S' => ∀ vs H' ι', Go ι S H ι' S' H' → RS F ι' S' B H' → RUs F H' ι' S' B us vs → Q vs H'
  | .ex c S' => ∀ H' ι', Go ι S H ι' S' H' → RS F ι' S' B H' → Wx (F.ec c) none σ H'
  | .no => False
def PoS (F : Fx) (Wx : WX) (ι : List Addr) (S : Store) (B : Addr → Prop) (H : Hp) (r : Rs) (D : Ends) : Prop := match r with
  | .ok (.nx e) S' => ∀ σ' H' ι', Go ι S H ι' S' H' → RS F ι' S' B H' → ER F H' ι' S' B e σ' → D.nx σ' H'
  | .ok (.rt u) S' => ∀ v H' ι', Go ι S H ι' S' H' → RS F ι' S' B H' → RU F H' ι' S' B u v → D.rt v H'
  | .ok (.bk e) S' => ∀ σ' H' ι', Go ι S H ι' S' H' → RS F ι' S' B H' → ER F H' ι' S' B e σ' → D.bk σ' H'
  | .ok (.ct e) S' => ∀ σ' H' ι', Go ι S H ι' S' H' → RS F ι' S' B H' → ER F H' ι' S' B e σ' → D.ct σ' H'
  | .ex c e S' => ∀ σ' H' ι', Go ι S H ι' S' H' → RS F ι' S' B H' → ER F H' ι' S' B e σ' → Wx (F.ec c) none σ' H'
  | .no => False
section
variable {F : Fx} {Wx : WX} {σ : L2.St} {H H' H1 H2 : Hp} {ι ι' ι1 ι2 : List Addr} {S S' S1 S2 : Store} {B : Addr → Prop}
theorem ER.go (g : Go ι S H ι' S' H') {e : Env'} (r : ER F H ι S B e σ) : ER F H' ι' S' B e σ := ⟨r.len, fun i u h => let ⟨v, h1, h2⟩ := r.get i u h; ⟨v, h1, RU.go g h2⟩⟩
theorem RUs.go (g : Go ι S H ι' S' H') : ∀ {us : List U} {vs : List V}, RUs F H ι S B us vs → RUs F H' ι' S' B us vs
  | _, _, .nil => .nil
  | _, _, .cons r t => .cons (RU.go g r) (RUs.go g t)
theorem PoE.go (g : Go ι S H ι1 S1 H1) {r : Re U} {Q : VK} (h : PoE F Wx σ ι S B H r Q) : PoE F Wx σ ι1 S1 B H1 r Q := by
  cases r with
  | ok u S' => exact fun v H' ι' g' => h v H' ι' (g.trans g')
  | ex c S' => exact fun H' ι' g' => h H' ι' (g.trans g')
  | no => exact h
theorem PoT.go (g : Go ι S H ι1 S1 H1) {r : Re Bool} {Q : Bool → Hp → Prop} (h : PoT F Wx σ ι S B H r Q) : PoT F Wx σ ι1 S1 B H1 r Q := by
  cases r with
  | ok u S' => exact fun H' ι' g' => h H' ι' (g.trans g')
  | ex c S' => exact fun H' ι' g' => h H' ι' (g.trans g')
  | no => exact h
theorem PoA.go (g : Go ι S H ι1 S1 H1) {r : Re (List U)} {Q : List V → Hp → Prop} (h : PoA F Wx σ ι S B H r Q) : PoA F Wx σ ι1 S1 B H1 r Q := by
  cases r with
  | ok u S' => exact fun v H' ι' g' => h v H' ι' (g.trans g')
  | ex c S' => exact fun H' ι' g' => h H' ι' (g.trans g')
  | no => exact h
theorem PoS.go (g : Go ι S H ι1 S1 H1) {r : Rs} {D : Ends} (h : PoS F Wx ι S B H r D) : PoS F Wx ι1 S1 B H1 r D := by
  cases r with
  | ok f S' => cases f <;> exact fun a b c g' => h a b c (g.trans g')
  | ex c e S' => exact fun a b c g' => h a b c (g.trans g')
  | no => exact h
theorem ER.set {e : Env'} (r : ER F H ι S B e σ) (i : Nat) {u : U} {v : V} (h : RU F H ι S B u v) : ER F H ι S B (e.set i (some u)) (σ.set i (some v)) := by
  refine ⟨by simp [r.len], fun j w hj => ?_⟩
  rw [List.getElem?_set] at hj ⊢
  split at hj
  · split at hj
    · rename_i a b
      cases hj
      exact ⟨v, by rw [if_pos a, if_pos (by rw [← r.len]; exact b)], h⟩
    · cases hj
  · rename_i a
    rw [if_neg a]
    exact r.get j w hj
theorem ER.unset {e : Env'} (r : ER F H ι S B e σ) (i : Nat) : ER F H ι S B (e.set i none) (σ.set i none) := by
  refine ⟨by simp [r.len], fun j w hj => ?_⟩
  rw [List.getElem?_set] at hj ⊢
  split at hj
  · split at hj <;> cases hj
  · rename_i a
    rw [if_neg a]
    exact r.get j w hj
theorem RS.tracked (R : RS F ι S B H) {a : Addr} (h : Ow ι S a) : ∃ ho, H a = some ho := by
  obtain ⟨n, o, h1, h2, h3⟩ := h
  have z := R.ob n o a h1 h3
  cases o with
  | lst ws => obtain ⟨vs, e, _⟩ := z; exact ⟨_, e⟩
  | dct ws => obtain ⟨vs, e, _⟩ := z; exact ⟨_, e⟩
  | scr ws => obtain ⟨vs, ho, e, _⟩ := z; exact ⟨_, e⟩
  | tbl x q => obtain ⟨_, ps, e, _⟩ := z; exact ⟨_, e⟩
  | dead => exact z
theorem RS.there (R : RS F ι S B H) {a : Addr} (h : a ∈ ι) : ∃ ho, H a = some ho := by
  obtain ⟨n, hn, e⟩ := List.getElem_of_mem h
  have hn' : n < S.length := by rw [← R.len]; exact hn
  have z := R.ob n S[n] a (by simp [hn']) (by rw [← e]; simp [hn])
  cases q : S[n] with
  | lst ws => rw [q] at z; obtain ⟨vs, e, _⟩ := z; exact ⟨_, e⟩
  | dct ws => rw [q] at z; obtain ⟨vs, e, _⟩ := z; exact ⟨_, e⟩
  | scr ws => rw [q] at z; obtain ⟨vs, ho, e, _⟩ := z; exact ⟨_, e⟩
  | tbl x q2 => rw [q] at z; obtain ⟨_, ps, e, _⟩ := z; exact ⟨_, e⟩
  | dead => rw [q] at z; exact z
theorem RS.free (R : RS F ι S B H) {p : Addr} (h : H p = none) : ¬ Oq ι S B p := fun z => by
  rcases z with z | z
  · obtain ⟨ho, e⟩ := R.tracked z
    rw [h] at e; cases e
  · obtain ⟨⟨ho, e⟩, _⟩ := R.hid p z
    rw [h] at e; cases e
theorem ObR.upd_new {O : Addr → Prop} {p a : Addr} {ho : HO} {o : Ob} (hp : H p = none) (h : ObR F H O a o) : ObR F (upd H p ho) O a o := by
  have E : Ext O H (upd H p ho) := fun x y hx _ => by rw [upd_ne (ne_of_none hx hp)]; exact hx
  have P : Own O O H := fun _ z => .inl z
  cases o with
  | lst ws => obtain ⟨vs, e, r⟩ := h; exact ⟨vs, by rw [upd_ne (ne_of_none e hp)]; exact e, r.ext E P⟩
  | dct ws => obtain ⟨vs, e, r⟩ := h; exact ⟨vs, by rw [upd_ne (ne_of_none e hp)]; exact e, r.ext E P⟩
  | scr ws => obtain ⟨vs, y, e, d, r⟩ := h; exact ⟨vs, y, by rw [upd_ne (ne_of_none e hp)]; exact e, d.imp (fun d => by rw [upd_ne (ne_of_none d hp)]; exact d) fun ⟨o, d⟩ => ⟨o, by rw [upd_ne (ne_of_none d hp)]; exact d⟩, r.ext E P⟩
  | tbl x q => exact TblR.ext h E P fun _ e => by rw [upd_ne (ne_of_none e hp)]; exact e
  | dead => obtain ⟨y, e⟩ := h; exact ⟨y, by rw [upd_ne (ne_of_none e hp)]; exact e⟩
theorem hid_new {p : Addr} {ho : HO} (R : RS F ι S B H) (hp : H p = none) : ∀ a, B a → (∃ y, (upd H p ho) a = some y) ∧ a ∉ ι := fun a h => by
  obtain ⟨⟨y, e⟩, n⟩ := R.hid a h
  exact ⟨⟨y, by rw [upd_ne (ne_of_none e hp)]; exact e⟩, n⟩
/-- a new object that nobody owns -/
theorem RS.fresh (R : RS F ι S B H) {p : Addr} (ho : HO) (hp : H p = none) : RS F ι S B (upd H p ho) ∧ Go ι S H ι S (upd H p ho) ∧ ¬ Oq ι S B p :=
  ⟨⟨R.len, R.nd, fun n o a h1 h2 => (R.ob n o a h1 h2).upd_new hp, hid_new R hp⟩, ⟨fun x y hx _ => by rw [upd_ne (ne_of_none hx hp)]; exact hx, fun _ z => .inl z, [], by simp⟩, R.free hp⟩
theorem ow_push {p a : Addr} {o : Ob} (hl : ι.length = S.length) (ho : o ≠ Ob.dead) : Ow (ι ++ [p]) (S ++ [o]) a ↔ Ow ι S a ∨ a = p := by
  constructor
  · rintro ⟨n, q, h1, h2, h3⟩
    by_cases hn : n < S.length
    · rw [List.getElem?_append_left hn] at h1
      rw [List.getElem?_append_left (by omega)] at h3
      exact .inl ⟨n, q, h1, h2, h3⟩
    · rw [List.getElem?_append_right (by omega)] at h3
      right
      obtain ⟨h4, h5⟩ := List.getElem?_eq_some_iff.mp h3
      simp at h5
      exact h5.symm
  · rintro (⟨n, q, h1, h2, h3⟩ | rfl)
    · exact ⟨n, q, by rw [List.getElem?_append_left (List.getElem?_eq_some_iff.mp h1).1]; exact h1, h2, by rw [List.getElem?_append_left (List.getElem?_eq_some_iff.mp h3).1]; exact h3⟩
    · exact ⟨S.length, o, by simp, ho, by rw [← hl]; simp⟩
def NewOb (F : Fx) (H : Hp) (O : Addr → Prop) (ho : HO) : Ob → Prop
  | .lst ws => ∃ vs, ho = .lst vs ∧ RpL F H O ws vs
  | .dct ws => ∃ kvs, ho = .dK kvs ∧ RpD F H O ws kvs
  | .scr _ => False
  | .tbl _ _ => False
  | .dead => False
/-- a new object that is owned -/
theorem RS.owned (R : RS F ι S B H) {p : Addr} {ho : HO} {o : Ob} (hp : H p = none) (hob : NewOb F H (Oq ι S B) ho o) :
    RS F (ι ++ [p]) (S ++ [o]) B (upd H p ho) ∧ Go ι S H (ι ++ [p]) (S ++ [o]) (upd H p ho) := by
  have hd : o ≠ Ob.dead := by rintro rfl; exact hob
  have G : Go ι S H (ι ++ [p]) (S ++ [o]) (upd H p ho) := ⟨fun x y hx _ => by rw [upd_ne (ne_of_none hx hp)]; exact hx, fun a z => ((ow_push R.len hd).mp z).imp id fun e => by rw [e]; exact hp, [p], rfl⟩
  refine ⟨⟨by simp [R.len], ?_, fun n q a h1 h2 => ?_, fun a h => ?_⟩, G⟩
  · rw [List.nodup_append]
    refine ⟨R.nd, by simp, fun x hx y hy e => ?_⟩
    simp at hy
    subst hy
    subst e
    obtain ⟨z, q⟩ := R.there hx
    rw [hp] at q; cases q
  · -- an object, seen with one more owned
    have up : ∀ {a : Addr} {q : Ob}, ObR F H (Oq ι S B) a q → ObR F (upd H p ho) (Oq (ι ++ [p]) (S ++ [o]) B) a q := fun {a q} h => by
      cases q with
      | lst ws => obtain ⟨vs, e, r⟩ := h; exact ⟨vs, by rw [upd_ne (ne_of_none e hp)]; exact e, r.ext G.extq G.ownq⟩
      | dct ws => obtain ⟨vs, e, r⟩ := h; exact ⟨vs, by rw [upd_ne (ne_of_none e hp)]; exact e, r.ext G.extq G.ownq⟩
      | scr ws => obtain ⟨vs, y, e, d, r⟩ := h; exact ⟨vs, y, by rw [upd_ne (ne_of_none e hp)]; exact e, d.imp (fun d => by rw [upd_ne (ne_of_none d hp)]; exact d) fun ⟨o, d⟩ => ⟨o, by rw [upd_ne (ne_of_none d hp)]; exact d⟩, r.ext G.extq G.ownq⟩
      | tbl x q2 => exact TblR.ext h G.extq G.ownq fun _ e => by rw [upd_ne (ne_of_none e hp)]; exact e
      | dead => obtain ⟨y, e⟩ := h; exact ⟨y, by rw [upd_ne (ne_of_none e hp)]; exact e⟩
    by_cases hn : n < S.length
    · rw [List.getElem?_append_left hn] at h1
      rw [List.getElem?_append_left (by rw [R.len]; exact hn)] at h2
      exact up (R.ob n q a h1 h2)
    · rw [List.getElem?_append_right (by omega)] at h1
      rw [List.getElem?_append_right (by rw [R.len]; omega)] at h2
      obtain ⟨h4, h5⟩ := List.getElem?_eq_some_iff.mp h1
      obtain ⟨h6, h7⟩ := List.getElem?_eq_some_iff.mp h2
      simp at h5 h7
      subst h5
      subst h7
      cases o with
      | lst ws => obtain ⟨vs, rfl, r⟩ := hob; exact ⟨vs, upd_same, r.ext G.extq G.ownq⟩
      | dct ws => obtain ⟨kvs, rfl, r⟩ := hob; exact ⟨kvs, upd_same, r.ext G.extq G.ownq⟩
      | scr ws => exact hob.elim
      | tbl x q => exact hob.elim
      | dead => exact hob.elim
  · obtain ⟨⟨y, e⟩, n⟩ := R.hid a h
    refine ⟨⟨y, by rw [upd_ne (ne_of_none e hp)]; exact e⟩, fun z => ?_⟩
    rcases List.mem_append.mp z with z | z
    · exact n z
    · simp at z; subst z; rw [hp] at e; cases e
end
end Bel

/-! The engine, second part: judgements, what an operation asks. -/
namespace Bel
open PySem PySem.Spec PyProof.Rows L2

def Re.bind {α β : Type} (r : Re α) (f : α → Store → Re β) : Re β := match r with
  | .ok a S => f a S
  | .ex c S => .ex c S
  | .no => .no
@[simp] theorem Re.bind_ok {α β : Type} (a : α) (S : Store) (f : α → Store → Re β) : (Re.ok a S).bind f = f a S := rfl
@[simp] theorem Re.bind_ex {α β : Type} (c : Nat) (S : Store) (f : α → Store → Re β) : (Re.ex c S : Re α).bind f = .ex c S := rfl
@[simp] theorem Re.bind_no {α β : Type} (f : α → Store → Re β) : (Re.no : Re α).bind f = .no := rfl

/-- what an operation gives: a value, a new list, a new tuple, a new dict -/
inductive Out where
  | val (w : W) | nl (l : List W) | nt (l : List W) | nd (l : List (W × W))
/-- a new list or dict becomes an own object, where it is asked -/
def Out.put (own : Bool) (o : Out) (S : Store) : Re U := match o with
  | .val w => .ok (.v w) S
  | .nt l => .ok (.v (.tup l)) S
  | .nl l => if own then .ok (.o S.length) (S ++ [.lst l]) else .ok (.v (.lst l)) S
  | .nd l => if own then .ok (.o S.length) (S ++ [.dct l]) else .ok (.v (.dct l)) S
def putO (own : Bool) (o : Option Out) (S : Store) : Re U := match o with
  | some o => o.put own S
  | none => .no
/-- the value that is read -/
def dr (S : Store) (u : U) : Option W := match u with
  | .v w => some w
  | .o n => match S[n]? with
    | some (.lst l) => some (.lst l)
    | some (.dct l) => some (.dct l)
    | some (.scr l) => some (.lst l)
    | _ => none

section
variable (F : Fx) (H : Hp) (O : Addr → Prop)
/-- w is what is read at v just now (its parts stay) -/
def RT : W → V → Prop
  | .lst ws, v => ∃ a vs, v = .ref a ∧ Rd H a (.lst vs) ∧ RpL F H O ws vs
  | .dct ws, v => ∃ a kvs, v = .ref a ∧ Rd H a (.dK kvs) ∧ RpD F H O ws kvs
  | w, v => Rp F H O w v
/-- what an operation's answer asks of what follows -/
def PuQ (o : Out) (Q : VK) : Prop := match o with
  | .val w => ∀ v, Rp F H O w v → Q v H
  | .nt ws => (∀ v, Rp F H O (.tup ws) v → Q v H) ∧ ∀ vs, RpL F H O ws vs → NewT H vs Q
  | .nl ws => ∀ p vs, H p = none → RpL F H O ws vs → Q (.ref p) (upd H p (.lst vs))
  | .nd ws => ∀ p kvs, H p = none → RpD F H O ws kvs → Q (.ref p) (upd H p (.dK kvs))
end
section
variable {F : Fx} {Wx : WX} {σ : L2.St} {H H' H1 H2 : Hp} {ι ι' ι1 ι2 : List Addr} {S S' S1 S2 : Store} {B : Addr → Prop} {O : Addr → Prop}
theorem RT.of {w : W} {v : V} (r : Rp F H O w v) : RT F H O w v := by
  cases w with
  | lst ws => obtain ⟨a, vs, e, h, q⟩ := r.lst_inv; exact ⟨a, vs, e, .inl h.1, q⟩
  | dct ws => obtain ⟨a, vs, e, h, q⟩ := r.dct_inv; exact ⟨a, vs, e, h.1, q⟩
  | _ => exact r
theorem RU.rt (R : RS F ι S B H) {u : U} {v : V} (r : RU F H ι S B u v) {w : W} (h : dr S u = some w) : RT F H (Oq ι S B) w v := by
  cases u with
  | v w' => cases h; exact .of r
  | o n =>
    obtain ⟨a, ha, rfl⟩ := r
    unfold dr at h
    cases e : S[n]? with
    | none => simp [e] at h
    | some o =>
      have z := R.ob n o a e ha
      cases o with
      | lst l => simp [e] at h; subst h; obtain ⟨vs, q, r⟩ := z; exact ⟨a, vs, rfl, .inl q, r⟩
      | dct l => simp [e] at h; subst h; obtain ⟨vs, q, r⟩ := z; exact ⟨a, vs, rfl, .inl q, r⟩
      | scr l => simp [e] at h; subst h; obtain ⟨vs, _, _, q, r⟩ := z; exact ⟨a, vs, rfl, q, r⟩
      | tbl x q => simp [e] at h
      | dead => simp [e] at h
theorem put_ok (R : RS F ι S B H) {own : Bool} {o : Out} {Q : VK} (h : PoE F Wx σ ι S B H (o.put own S) Q) : PuQ F H (Oq ι S B) o Q := by
  cases o with
  | val w => exact fun v r => h v H ι .refl R r
  | nt ws =>
    refine ⟨fun v r => h v H ι .refl R r, ?_⟩
    intro vs r p o hp hd
    obtain ⟨R', G, n⟩ := R.fresh (TupO o vs) hp
    exact h _ _ ι G R' (Rp.mkTup (.inl ⟨⟨o, upd_same, hd⟩, n⟩) (r.go G))
  | nl ws =>
    intro p vs hp r
    cases own with
    | false =>
      obtain ⟨R', G, n⟩ := R.fresh (.lst vs) hp
      exact h _ _ ι G R' (Rp.mkLst ⟨upd_same, n⟩ (r.go G))
    | true =>
      obtain ⟨R', G⟩ := R.owned (o := .lst ws) (ho := .lst vs) hp ⟨vs, rfl, r⟩
      exact h _ _ _ G R' ⟨p, by rw [← R.len]; simp, rfl⟩
  | nd ws =>
    intro p vs hp r
    cases own with
    | false =>
      obtain ⟨R', G, n⟩ := R.fresh (.dK vs) hp
      exact h _ _ ι G R' (Rp.mkDct ⟨.inl upd_same, n⟩ (r.ext G.extq G.ownq))
    | true =>
      obtain ⟨R', G⟩ := R.owned (o := .dct ws) (ho := .dK vs) hp ⟨vs, rfl, r⟩
      exact h _ _ _ G R' ⟨p, by rw [← R.len]; simp, rfl⟩
theorem putO_ok (R : RS F ι S B H) {own : Bool} {o : Option Out} {Q : VK} (h : PoE F Wx σ ι S B H (putO own o S) Q) : ∃ x, o = some x ∧ PuQ F H (Oq ι S B) x Q := by
  cases o with
  | none => exact h.elim
  | some x => exact ⟨x, rfl, put_ok R h⟩
end

/-! ### the judgements -/
def LE (F : Fx) (Wx : WX) (d : DE) : TE := fun σ H Q => ∃ (env : Env') (S : Store) (ι : List Addr) (B : Addr → Prop), RS F ι S B H ∧ ER F H ι S B env σ ∧ PoE F Wx σ ι S B H (d env S) Q
def LT (F : Fx) (Wx : WX) (d : DT) : TT := fun σ H Q => ∃ (env : Env') (S : Store) (ι : List Addr) (B : Addr → Prop), RS F ι S B H ∧ ER F H ι S B env σ ∧ PoT F Wx σ ι S B H (d env S) Q
def LA (F : Fx) (Wx : WX) (d : DA) : TA := fun σ H Q => ∃ (env : Env') (S : Store) (ι : List Addr) (B : Addr → Prop), RS F ι S B H ∧ ER F H ι S B env σ ∧ PoA F Wx σ ι S B H (d env S) Q
def LS (F : Fx) (Wx : WX) (d : DS) : TS := fun D σ H => ∃ (env : Env') (S : Store) (ι : List Addr) (B : Addr → Prop), RS F ι S B H ∧ ER F H ι S B env σ ∧ PoS F Wx ι S B H (d env S) D
abbrev fx (ec : Nat → Value) (X : Cx) : Fx := ⟨X.K, X.w, ec⟩
/-- what is fixed of a context: all but what is wanted of errors -/
structure PEv (ec : Nat → Value) (X : Cx) (e : Expr) (d : DE) : Prop where
  run : ∀ (pn : List (Addr × Obj)) (xe : Value → Shared → Prop) (Wx : WX), Takes (X.tr pn xe) Wx → PE (X.tr pn xe) e (LE (fx ec X) Wx d)
structure PTv (ec : Nat → Value) (X : Cx) (e : Expr) (d : DT) : Prop where
  run : ∀ (pn : List (Addr × Obj)) (xe : Value → Shared → Prop) (Wx : WX), Takes (X.tr pn xe) Wx → PT (X.tr pn xe) e (LT (fx ec X) Wx d)
/-- a test whatever its whole is (and, or) -/
structure PWv (ec : Nat → Value) (X : Cx) (e : Expr) (d : DT) : Prop where
  run : ∀ (pn : List (Addr × Obj)) (xe : Value → Shared → Prop) (Wx : WX), Takes (X.tr pn xe) Wx → PW (X.tr pn xe) e (LT (fx ec X) Wx d)
structure PAv (ec : Nat → Value) (X : Cx) (es : List Expr) (d : DA) : Prop where
  run : ∀ (pn : List (Addr × Obj)) (xe : Value → Shared → Prop) (Wx : WX), Takes (X.tr pn xe) Wx → PA (X.tr pn xe) es (LA (fx ec X) Wx d)
structure PSv (ec : Nat → Value) (X : Cx) (st : Stmt) (d : DS) : Prop where
  run : ∀ (pn : List (Addr × Obj)) (xe : Value → Shared → Prop) (Wx : WX), Takes (X.tr pn xe) Wx → PassesOwn (model X.prog X.w) X.A X.env xe → PS (X.tr pn xe) st (LS (fx ec X) Wx d)
structure PSsv (ec : Nat → Value) (X : Cx) (st : List Stmt) (d : DS) : Prop where
  run : ∀ (pn : List (Addr × Obj)) (xe : Value → Shared → Prop) (Wx : WX), Takes (X.tr pn xe) Wx → PassesOwn (model X.prog X.w) X.A X.env xe → PSs (X.tr pn xe) st (LS (fx ec X) Wx d)
section
variable {X : Cx}
theorem _root_.L2.PE.imp {e : Expr} {t t' : TE} (h : PE X e t) (hh : ∀ σ H Q, t' σ H Q → t σ H Q) : PE X e t' := ⟨fun pins s σ H Q I q => h.run pins s σ H Q I (hh σ H Q q)⟩
theorem _root_.L2.PT.imp {e : Expr} {t t' : TT} (h : PT X e t) (hh : ∀ σ H Q, t' σ H Q → t σ H Q) : PT X e t' := ⟨fun pins s σ H Q I q => h.run pins s σ H Q I (hh σ H Q q)⟩
theorem _root_.L2.PW.imp {e : Expr} {t t' : TT} (h : PW X e t) (hh : ∀ σ H Q, t' σ H Q → t σ H Q) : PW X e t' := ⟨fun wh pins s σ H Q I q => h.run wh pins s σ H Q I (hh σ H Q q)⟩
theorem _root_.L2.PA.imp {e : List Expr} {t t' : TA} (h : PA X e t) (hh : ∀ σ H Q, t' σ H Q → t σ H Q) : PA X e t' := ⟨fun pos pins s σ H Q I q => h.run pos pins s σ H Q I (hh σ H Q q)⟩
theorem _root_.L2.PS.imp {e : Stmt} {t t' : TS} (h : PS X e t) (hh : ∀ D σ H, t' D σ H → t D σ H) : PS X e t' := ⟨fun pins s σ H D I q => h.run pins s σ H D I (hh D σ H q)⟩
theorem _root_.L2.PSs.imp {e : List Stmt} {t t' : TS} (h : PSs X e t) (hh : ∀ D σ H, t' D σ H → t D σ H) : PSs X e t' := ⟨fun pins s σ H D I q => h.run pins s σ H D I (hh D σ H q)⟩
end

/-! ### how readings are put together -/
section
variable {F : Fx} {Wx : WX} {σ : L2.St} {H H' H1 H2 : Hp} {ι ι' ι1 ι2 : List Addr} {S S' S1 S2 : Store} {B : Addr → Prop} {env : Env'} {Q : VK}
/-- first a, then g -/
theorem LE.then_ (R : RS F ι S B H) (E : ER F H ι S B env σ) {a : DE} {g : U → Store → Re U} (h : PoE F Wx σ ι S B H ((a env S).bind g) Q)
    {Q1 : VK} (k : ∀ u S1 v H1 ι1, Go ι S H ι1 S1 H1 → RS F ι1 S1 B H1 → ER F H1 ι1 S1 B env σ → RU F H1 ι1 S1 B u v → PoE F Wx σ ι1 S1 B H1 (g u S1) Q → Q1 v H1) : LE F Wx a σ H Q1 := by
  refine ⟨env, S, ι, B, R, E, ?_⟩
  cases e : a env S with
  | ok u S1 =>
    rw [e] at h
    exact fun v H1 ι1 G R1 r => k u S1 v H1 ι1 G R1 (E.go G) r (h.go G)
  | ex c S1 => rw [e] at h; exact h
  | no => rw [e] at h; exact h
theorem LE.thenT (R : RS F ι S B H) (E : ER F H ι S B env σ) {a : DE} {g : U → Store → Re Bool} {Q : Bool → Hp → Prop} (h : PoT F Wx σ ι S B H ((a env S).bind g) Q)
    {Q1 : VK} (k : ∀ u S1 v H1 ι1, Go ι S H ι1 S1 H1 → RS F ι1 S1 B H1 → ER F H1 ι1 S1 B env σ → RU F H1 ι1 S1 B u v → PoT F Wx σ ι1 S1 B H1 (g u S1) Q → Q1 v H1) : LE F Wx a σ H Q1 := by
  refine ⟨env, S, ι, B, R, E, ?_⟩
  cases e : a env S with
  | ok u S1 =>
    rw [e] at h
    exact fun v H1 ι1 G R1 r => k u S1 v H1 ι1 G R1 (E.go G) r (h.go G)
  | ex c S1 => rw [e] at h; exact h
  | no => rw [e] at h; exact h
theorem LE.thenA (R : RS F ι S B H) (E : ER F H ι S B env σ) {a : DE} {g : U → Store → Re (List U)} {Q : List V → Hp → Prop} (h : PoA F Wx σ ι S B H ((a env S).bind g) Q)
    {Q1 : VK} (k : ∀ u S1 v H1 ι1, Go ι S H ι1 S1 H1 → RS F ι1 S1 B H1 → ER F H1 ι1 S1 B env σ → RU F H1 ι1 S1 B u v → PoA F Wx σ ι1 S1 B H1 (g u S1) Q → Q1 v H1) : LE F Wx a σ H Q1 := by
  refine ⟨env, S, ι, B, R, E, ?_⟩
  cases e : a env S with
  | ok u S1 =>
    rw [e] at h
    exact fun v H1 ι1 G R1 r => k u S1 v H1 ι1 G R1 (E.go G) r (h.go G)
  | ex c S1 => rw [e] at h; exact h
  | no => rw [e] at h; exact h
theorem LT.then_ (R : RS F ι S B H) (E : ER F H ι S B env σ) {a : DT} {g : Bool → Store → Re U} (h : PoE F Wx σ ι S B H ((a env S).bind g) Q)
    {Q1 : Bool → Hp → Prop} (k : ∀ u S1 H1 ι1, Go ι S H ι1 S1 H1 → RS F ι1 S1 B H1 → ER F H1 ι1 S1 B env σ → PoE F Wx σ ι1 S1 B H1 (g u S1) Q → Q1 u H1) : LT F Wx a σ H Q1 := by
  refine ⟨env, S, ι, B, R, E, ?_⟩
  cases e : a env S with
  | ok u S1 =>
    rw [e] at h
    exact fun H1 ι1 G R1 => k u S1 H1 ι1 G R1 (E.go G) (h.go G)
  | ex c S1 => rw [e] at h; exact h
  | no => rw [e] at h; exact h
theorem LT.thenT (R : RS F ι S B H) (E : ER F H ι S B env σ) {a : DT} {g : Bool → Store → Re Bool} {Q : Bool → Hp → Prop} (h : PoT F Wx σ ι S B H ((a env S).bind g) Q)
    {Q1 : Bool → Hp → Prop} (k : ∀ u S1 H1 ι1, Go ι S H ι1 S1 H1 → RS F ι1 S1 B H1 → ER F H1 ι1 S1 B env σ → PoT F Wx σ ι1 S1 B H1 (g u S1) Q → Q1 u H1) : LT F Wx a σ H Q1 := by
  refine ⟨env, S, ι, B, R, E, ?_⟩
  cases e : a env S with
  | ok u S1 =>
    rw [e] at h
    exact fun H1 ι1 G R1 => k u S1 H1 ι1 G R1 (E.go G) (h.go G)
  | ex c S1 => rw [e] at h; exact h
  | no => rw [e] at h; exact h
theorem LA.then_ (R : RS F ι S B H) (E : ER F H ι S B env σ) {a : DA} {g : List U → Store → Re U} (h : PoE F Wx σ ι S B H ((a env S).bind g) Q)
    {Q1 : List V → Hp → Prop} (k : ∀ u S1 v H1 ι1, Go ι S H ι1 S1 H1 → RS F ι1 S1 B H1 → ER F H1 ι1 S1 B env σ → RUs F H1 ι1 S1 B u v → PoE F Wx σ ι1 S1 B H1 (g u S1) Q → Q1 v H1) : LA F Wx a σ H Q1 := by
  refine ⟨env, S, ι, B, R, E, ?_⟩
  cases e : a env S with
  | ok u S1 =>
    rw [e] at h
    exact fun v H1 ι1 G R1 r => k u S1 v H1 ι1 G R1 (E.go G) r (h.go G)
  | ex c S1 => rw [e] at h; exact h
  | no => rw [e] at h; exact h
theorem LA.thenA (R : RS F ι S B H) (E : ER F H ι S B env σ) {a : DA} {g : List U → Store → Re (List U)} {Q : List V → Hp → Prop} (h : PoA F Wx σ ι S B H ((a env S).bind g) Q)
    {Q1 : List V → Hp → Prop} (k : ∀ u S1 v H1 ι1, Go ι S H ι1 S1 H1 → RS F ι1 S1 B H1 → ER F H1 ι1 S1 B env σ → RUs F H1 ι1 S1 B u v → PoA F Wx σ ι1 S1 B H1 (g u S1) Q → Q1 v H1) : LA F Wx a σ H Q1 := by
  refine ⟨env, S, ι, B, R, E, ?_⟩
  cases e : a env S with
  | ok u S1 =>
    rw [e] at h
    exact fun v H1 ι1 G R1 r => k u S1 v H1 ι1 G R1 (E.go G) r (h.go G)
  | ex c S1 => rw [e] at h; exact h
  | no => rw [e] at h; exact h
end

/-! ### names, constants -/
section
variable {ec : Nat → Value} {X : Cx} {e a b : Expr} {pos : Pos} {da db : DE}
def dVar (i : Nat) : DE := fun e S => match e[i]? with
  | some (some u) => .ok u S
  | _ => .no
def dC (w : W) : DE := fun _ S => .ok (.v w) S
theorem ev_var {i : Nat} {x : Str} (hN : X.N[i]? = some x) (hv : Vis X.env.scope x) (hd : (x == ("__debug__" : Str)) = false := by decide) (hcd : (x == ("__classdict__" : Str)) = false := by decide) : PEv ec X (.Name x pos) (dVar i) := by
  refine ⟨fun pn xe Wx tk => (pe_var (X := X.tr pn xe) hN hv hd hcd).imp fun σ H Q h => ?_⟩
  obtain ⟨env, S, ι, B, R, E, h⟩ := h
  unfold dVar at h
  cases e : env[i]? with
  | none => simp [e] at h; exact h.elim
  | some o =>
    cases o with
    | none => simp [e] at h; exact h.elim
    | some u =>
      simp only [e] at h
      obtain ⟨v, h1, r⟩ := E.get i u e
      exact ⟨v, h1, h v H ι .refl R r⟩
theorem ev_const {v : V} {w : W} (h : ∀ pn xe, PE (X.tr pn xe) e (tC v)) (hr : ∀ H O, Rp (fx ec X) H O w v) : PEv ec X e (dC w) :=
  ⟨fun pn xe Wx tk => (h pn xe).imp fun σ H Q ⟨env, S, ι, B, R, E, q⟩ => q v H ι .refl R (hr _ _)⟩
theorem ev_int {i j} : PEv ec X (.Constant (.int i) j pos) (dC (.int i)) := ev_const (fun _ _ => pe_int) fun _ _ => .int i
theorem ev_bl {b j} : PEv ec X (.Constant (.bool b) j pos) (dC (.bl b)) := ev_const (fun _ _ => pe_bl) fun _ _ => .bl b
theorem ev_non {j} : PEv ec X (.Constant .none j pos) (dC .non) := ev_const (fun _ _ => pe_non) fun _ _ => .non
/-- a text, by its signs -/
structure Lit (x : Str) (l : List Nat) : Prop where
  eq : x = ⟨l.toArray⟩
  len : l.length ≤ sizeLine
  ok : l.all okCp = true
theorem ev_str {x : Str} {l : List Nat} {j} (h : Lit x l) : PEv ec X (.Constant (.str x) j pos) (dC (.str l)) := by
  obtain ⟨rfl, h1, h2⟩ := h
  exact ev_const (fun _ _ => pe_str) fun _ _ => .str l h1 h2
/-- a constant of the module -/
structure Kon (ec : Nat → Value) (X : Cx) (x : Str) (w : W) : Prop where
  ex : ∃ (v : V) (u : Value), X.mg x = some u ∧ RelV v u ∧ ∀ H O, Rp (fx ec X) H O w v
theorem ev_glob {x : Str} {w : W} (hg : Gl X x) (h : Kon ec X x w) (hd : (x == ("__debug__" : Str)) = false := by decide) : PEv ec X (.Name x pos) (dC w) := by
  obtain ⟨v, u, hm, r, hr⟩ := h.ex
  exact ev_const (fun pn xe => pe_glob (X := X.tr pn xe) hg hm r hd) hr

/-! ### operations on two values -/
def dBin (own : Bool) (f : W → W → Option Out) (a b : DE) : DE := fun e S => (a e S).bind fun u S1 => (b e S1).bind fun v S2 => match dr S2 u, dr S2 v with
  | some x, some y => putO own (f x y) S2
  | _, _ => .no
/-- r is asked no more than f tells -/
def OpW (F : Fx) (f : W → W → Option Out) (r : R2) : Prop := ∀ (H : Hp) (O : Addr → Prop) (x y : V) (w z : W) (o : Out) (Q : VK), RT F H O w x → RT F H O z y → f w z = some o → PuQ F H O o Q → r x y H Q
theorem bin_reads {own : Bool} {f : W → W → Option Out} {r : R2} {F : Fx} {Wx : WX} {σ : L2.St} {H : Hp} {Q : VK} (hf : OpW F f r) (h : LE F Wx (dBin own f da db) σ H Q) : tOp r (LE F Wx da) (LE F Wx db) σ H Q := by
  obtain ⟨env, S, ι, B, R, E, h⟩ := h
  refine LE.then_ R E h fun u S1 x H1 ι1 G1 R1 E1 ru h1 => ?_
  refine LE.then_ R1 E1 h1 fun v S2 y H2 ι2 G2 R2 E2 rv h2 => ?_
  have ru2 := RU.go G2 ru
  cases e1 : dr S2 u with
  | none => simp only [e1] at h2; exact h2.elim
  | some w =>
    cases e2 : dr S2 v with
    | none => simp only [e1, e2] at h2; exact h2.elim
    | some z =>
      simp only [e1, e2] at h2
      obtain ⟨o, he, q⟩ := putO_ok R2 h2
      exact hf H2 _ x y w z o Q (RU.rt R2 ru2 e1) (RU.rt R2 rv e2) he q
theorem ev_bin {own : Bool} {op : Operator} {f : W → W → Option Out} {r : R2} (ho : ∀ pn xe, OpR (X.tr pn xe) (binaryOp op) r) (hf : OpW (fx ec X) f r) (ha : PEv ec X a da) (hb : PEv ec X b db) : PEv ec X (.BinOp a op b pos) (dBin own f da db) :=
  ⟨fun pn xe Wx tk => (pe_op (ho pn xe) (ha.run pn xe Wx tk) (hb.run pn xe Wx tk)).imp fun σ H Q h => bin_reads hf h⟩
theorem ev_cmp {op : CmpOp} {f : W → W → Option Out} {r : R2} (ho : ∀ pn xe, OpR (X.tr pn xe) (compareOp op) r) (hf : OpW (fx ec X) f r) (ha : PEv ec X a da) (hb : PEv ec X b db) (hm : behindInMarks op b = false) : PEv ec X (.Compare a [op] [b] pos) (dBin false f da db) :=
  ⟨fun pn xe Wx tk => (pe_cmpR (ho pn xe) (ha.run pn xe Wx tk) (hb.run pn xe Wx tk) hm).imp fun σ H Q h => bin_reads hf h⟩

end
end Bel

/-! The engine, third part: what operations do with plain values. -/
namespace Bel
open PySem PySem.Spec PyProof.Rows L2

theorem sizeLine_is : (sizeLine : Nat) = 16777216 := sizeLine_eq
/-! ### plain data, compared -/
mutual
def toD : W → PyData
  | .non => .none
  | .bl b => .bool b
  | .int i => .int i
  | .str x => .str ⟨x.toArray⟩
  | .tup l => .tuple (toDs l)
  | .lst l => .list (toDs l)
  | .dct _ => .dict []
  | .exc _ => .dict []
  | .kdc _ => .dict []
  | .tdc _ => .dict []
def toDs : List W → List PyData
  | [] => []
  | x :: r => toD x :: toDs r
end
/-! data at most n deep -/
mutual
def shp : Nat → W → Bool
  | _, .non => true
  | _, .bl _ => true
  | _, .int _ => true
  | _, .str _ => true
  | 0, .tup _ => false
  | 0, .lst _ => false
  | n + 1, .tup l => shps n l
  | n + 1, .lst l => shps n l
  | _, .dct _ => false
  | _, .exc _ => false
  | _, .kdc _ => false
  | _, .tdc _ => false
def shps : Nat → List W → Bool
  | _, [] => true
  | n, x :: r => shp n x && shps n r
end
section
variable {F : Fx} {H : Hp} {O : Addr → Prop}
mutual
theorem shp_depth : ∀ (n : Nat) (w : W), shp n w = true → (toD w).depth ≤ n
  | n, .non, _ => by simp [toD, PyData.depth]
  | n, .bl _, _ => by simp [toD, PyData.depth]
  | n, .int _, _ => by simp [toD, PyData.depth]
  | n, .str _, _ => by simp [toD, PyData.depth]
  | 0, .tup _, h => by simp [shp] at h
  | 0, .lst _, h => by simp [shp] at h
  | n + 1, .tup l, h => by
    have := shps_depth n l (by simpa [shp] using h)
    simp [toD, PyData.depth]
    omega
  | n + 1, .lst l, h => by
    have := shps_depth n l (by simpa [shp] using h)
    simp [toD, PyData.depth]
    omega
  | _, .dct _, h => by simp [shp] at h
  | _, .exc _, h => by simp [shp] at h
  | _, .kdc _, h => by simp [shp] at h
  | _, .tdc _, h => by simp [shp] at h
theorem shps_depth : ∀ (n : Nat) (l : List W), shps n l = true → PyData.depthAll (toDs l) ≤ n
  | n, [], _ => by simp [toDs, PyData.depthAll]
  | n, x :: r, h => by
    simp only [shps, Bool.and_eq_true] at h
    have h1 := shp_depth n x h.1
    have h2 := shps_depth n r h.2
    simp [toDs, PyData.depthAll]
    omega
end
theorem RpL.mem_ok {ws : List W} {vs : List V} (r : RpL F H O ws vs) : ∀ w ∈ ws, ∃ v, Rp F H O w v := fun w hw => by
  obtain ⟨i, hi, rfl⟩ := List.getElem_of_mem hw
  obtain ⟨v, _, q⟩ := r.get (i := i) (w := ws[i]) (by simp [hi])
  exact ⟨v, q⟩
mutual
theorem shp_lay : ∀ (n : Nat) (w : W) (v : V), shp n w = true → Rp F H O w v → (toD w).canLay0 = true
  | n, .non, _, _, _ => by simp [toD, PyData.canLay0]
  | n, .bl _, _, _, _ => by simp [toD, PyData.canLay0]
  | n, .int _, _, _, _ => by simp [toD, PyData.canLay0]
  | n, .str x, v, _, r => by
    cases r with
    | str _ h h2 =>
      simp only [toD, PyData.canLay0]
      unfold PySem.PyData.strOk
      simp only [List.all_toArray] 
      simpa [okCp] using h2
  | 0, .tup _, _, h, _ => by simp [shp] at h
  | 0, .lst _, _, h, _ => by simp [shp] at h
  | n + 1, .tup l, v, h, r => by
    obtain ⟨a, vs, _, _, q⟩ := r.tup_inv
    simp only [toD, PyData.canLay0]
    exact shps_lay n l vs (by simpa [shp] using h) q
  | n + 1, .lst l, v, h, r => by
    obtain ⟨a, vs, _, _, q⟩ := r.lst_inv
    simp only [toD, PyData.canLay0]
    exact shps_lay n l vs (by simpa [shp] using h) q
  | _, .dct _, _, h, _ => by simp [shp] at h
  | _, .exc _, _, h, _ => by simp [shp] at h
  | _, .kdc _, _, h, _ => by simp [shp] at h
  | _, .tdc _, _, h, _ => by simp [shp] at h
theorem shps_lay : ∀ (n : Nat) (l : List W) (vs : List V), shps n l = true → RpL F H O l vs → PyData.canLayAll0 (toDs l) = true
  | n, [], _, _, _ => by simp [toDs, PyData.canLayAll0]
  | n, x :: r, vs, h, q => by
    simp only [shps, Bool.and_eq_true] at h
    obtain ⟨v, vs', rfl, q1, q2⟩ := q.cons_iff
    simp only [toDs, PyData.canLayAll0, Bool.and_eq_true]
    exact ⟨shp_lay n x v h.1 q1, shps_lay n r vs' h.2 q2⟩
end
mutual
theorem rp_dp : ∀ (n : Nat) (w : W) (v : V), shp n w = true → Rp F H O w v → Dp F.K H v (toD w)
  | n, .non, v, _, r => by cases r; simp only [toD]; exact .non
  | n, .bl _, v, _, r => by cases r; simp only [toD]; exact .bl _
  | n, .int _, v, _, r => by cases r; simp only [toD]; exact .int _
  | n, .str x, v, _, r => by cases r; simp only [toD]; exact .str _
  | 0, .tup _, _, h, _ => by simp [shp] at h
  | 0, .lst _, _, h, _ => by simp [shp] at h
  | n + 1, .tup l, v, h, r => by
    obtain ⟨a, vs, rfl, h1, q⟩ := r.tup_inv
    simp only [toD]
    exact .tup h1.sq (rps_dp n l vs (by simpa [shp] using h) q)
  | n + 1, .lst l, v, h, r => by
    obtain ⟨a, vs, rfl, h1, q⟩ := r.lst_inv
    simp only [toD]
    exact .lst h1.sq (rps_dp n l vs (by simpa [shp] using h) q)
  | _, .dct _, _, h, _ => by simp [shp] at h
  | _, .exc _, _, h, _ => by simp [shp] at h
  | _, .kdc _, _, h, _ => by simp [shp] at h
  | _, .tdc _, _, h, _ => by simp [shp] at h
theorem rps_dp : ∀ (n : Nat) (l : List W) (vs : List V), shps n l = true → RpL F H O l vs → DpAll F.K H vs (toDs l)
  | n, [], vs, _, q => by rw [q.nil_iff]; simp only [toDs]; exact .nil
  | n, x :: r, vs, h, q => by
    simp only [shps, Bool.and_eq_true] at h
    obtain ⟨v, vs', rfl, q1, q2⟩ := q.cons_iff
    simp only [toDs]
    exact .cons (rp_dp n x v h.1 q1) (rps_dp n r vs' h.2 q2)
end
/-- .. of what is read just now -/
theorem rt_dp (n : Nat) {w : W} {v : V} (h : shp n w = true) (r : RT F H O w v) : Dp F.K H v (toD w) ∧ (toD w).canLay0 = true := by
  cases w with
  | lst ws =>
    obtain ⟨a, vs, rfl, h1, q⟩ := r
    cases n with
    | zero => simp [shp] at h
    | succ n =>
      have h' : shps n ws = true := by simpa [shp] using h
      simp only [toD, PyData.canLay0]
      exact ⟨.lst (.inl h1) (rps_dp n ws vs h' q), shps_lay n ws vs h' q⟩
  | dct ws => simp [shp] at h
  | _ => exact ⟨rp_dp n _ v h r, shp_lay n _ v h r⟩
theorem rt_shaped {w : W} {v : V} (h : shp 64 w = true) (r : RT F H O w v) : Dp F.K H v (toD w) ∧ SeqAt.shaped (toD w) = true := by
  obtain ⟨h1, h2⟩ := rt_dp 64 h r
  exact ⟨h1, by unfold SeqAt.shaped; simp [h2, shp_depth 64 w h]⟩
end

/-! ### the operations -/
def ltL (x y : List W) : Bool := decide (x.length + y.length ≤ 16777216)
def fAdd : W → W → Option Out
  | .int i, .int j => some (.val (.int (i + j)))
  | .str x, .str y => if x.length + y.length ≤ 16777216 then some (.val (.str (x ++ y))) else none
  | .lst x, .lst y => if x.length + y.length ≤ 16777216 then some (.nl (x ++ y)) else none
  | .tup x, .tup y => if x.length + y.length ≤ 16777216 then some (.nt (x ++ y)) else none
  | _, _ => none
def fSub : W → W → Option Out
  | .int i, .int j => some (.val (.int (i - j)))
  | _, _ => none
def fMul : W → W → Option Out
  | .int i, .int j => if (-(2 ^ 64) < i ∧ i < 2 ^ 64) ∨ (-(2 ^ 64) < j ∧ j < 2 ^ 64) then some (.val (.int (i * j))) else none
  | _, _ => none
def fDiv : W → W → Option Out
  | .int i, .int j => if 0 < j ∧ j < 1073741824 then some (.val (.int (i / j))) else none
  | _, _ => none
def fMod : W → W → Option Out
  | .int i, .int j => if 0 < j then some (.val (.int (i % j))) else none
  | _, _ => none
def fPow : W → W → Option Out
  | .int i, .int j => if 0 ≤ j ∧ j ≤ 1000000 ∧ i.natAbs < 2 ^ 64 then some (.val (.int (i ^ j.toNat))) else none
  | _, _ => none
def fCmp (p : Int → Int → Bool) : W → W → Option Out
  | .int i, .int j => some (.val (.bl (p i j)))
  | _, _ => none
def fEq (x y : W) : Option Out := if shp 64 x = true ∧ shp 64 y = true then some (.val (.bl (PyData.eqv (toD x) (toD y)))) else none
def fNe (x y : W) : Option Out := if shp 64 x = true ∧ shp 64 y = true then some (.val (.bl (!PyData.eqv (toD x) (toD y)))) else none
def isNon : W → Bool
  | .non => true
  | _ => false
def fIs (x : W) : W → Option Out
  | .non => some (.val (.bl (isNon x)))
  | .bl b => match x with
    | .bl a => some (.val (.bl (a == b)))
    | _ => none
  | _ => none
def fIsNot (x : W) : W → Option Out
  | .non => some (.val (.bl (!isNon x)))
  | .bl b => match x with
    | .bl a => some (.val (.bl (!(a == b))))
    | _ => none
  | _ => none
/-- which key, where it is one -/
def keyK : W → Option Key
  | .int i => some (.inl i)
  | .str x => some (.inr ⟨x.toArray⟩)
  | _ => none
def eqK : W → W → Bool
  | .int i, .int j => decide (i = j)
  | .str x, .str y => decide (x = y)
  | _, _ => false
def isKey : W → Bool
  | .int _ => true
  | .str _ => true
  | _ => false
def lookD (k : W) (l : List (W × W)) : Option W := (l.find? fun p => eqK p.1 k).map (·.2)
def isFlat : W → Bool
  | .non => true
  | .bl _ => true
  | .int _ => true
  | .str _ => true
  | _ => false
/-- == of plain data -/
def eqD (x y : W) : Bool := PyData.eqv (toD x) (toD y)
def fIn (x : W) : W → Option Bool
  | .str z => match x with
    | .str [c] => some (decide (c ∈ z))
    | _ => none
  | .lst l => if shp 64 x = true ∧ shps 63 l = true then some (l.any fun y => eqD y x) else none
  | .tup l => if isFlat x = true ∧ l.all isFlat = true then some (l.any fun y => eqD y x) else none
  | .dct l => if isKey x = true then some (lookD x l).isSome else none
  | .kdc l => match x with
    | .str k => some (l.lookup k).isSome
    | _ => none
  | _ => none
def fInO (x y : W) : Option Out := (fIn x y).map fun b => .val (.bl b)
def fNotInO (x y : W) : Option Out := (fIn x y).map fun b => .val (.bl (!b))
def atW {α : Type} (xs : List α) (i : Int) : Option α := (ixN xs.length i).bind fun j => xs[j]?
def fIx : W → W → Option Out
  | .lst l, .int i => (atW l i).map .val
  | .tup l, .int i => (atW l i).map .val
  | .str x, .int i => (atW x i).map fun c => .val (.str [c])
  | .dct l, k => if isKey k = true then (lookD k l).map .val else none
  | .kdc l, .str k => (l.lookup k).map .val
  | _, _ => none
/-- xs[lo:hi] -/
def cutL {α : Type} (xs : List α) (lo hi : Option Int) : List α := (xs.drop (HT.sIx xs.length 0 lo)).take (HT.sIx xs.length xs.length hi - HT.sIx xs.length 0 lo)
def fSl (w : W) (lo hi : Option Int) : Option Out := match w with
  | .lst l => some (.nl (cutL l lo hi))
  | .tup l => some (.nt (cutL l lo hi))
  | .str x => some (.val (.str (cutL x lo hi)))
  | _ => none
end Bel

/-! The engine, fourth part: each operation asks no more than it tells. -/
namespace Bel
open PySem PySem.Spec PyProof.Rows L2
section
variable {F : Fx} {H : Hp} {O : Addr → Prop}
theorem some_inj {α : Type} {a b : α} (h : some a = some b) : a = b := Option.some.inj h
/-- two lists that are read -/
theorem op_catS {X : Cx} : OpR X (binaryOp .Add) (fun x y H Q => ∃ l b xs zs, x = .ref l ∧ y = .ref b ∧ Rd H l (.lst xs) ∧ Rd H b (.lst zs) ∧ xs.length + zs.length ≤ sizeLine ∧ ∀ p, H p = none → Q (.ref p) (upd H p (.lst (xs ++ zs)))) := by
  intro pins s σ H x y v u Q I rx ry h
  obtain ⟨l, b, xs, zs, rfl, rfl, hH, hB, hz, q⟩ := h
  cases rx
  cases ry
  obtain ⟨z, its, n, r, e⟩ := hH.ok I.hok
  obtain ⟨z2, its2, n2, r2, e2⟩ := hB.ok I.hok
  have hl := r.length
  have hl2 := r2.length
  refine PySem.P.add_list e e2 ?_ (by rw [List.size_toArray, List.size_toArray]; omega)
  have ea : its.toArray ++ its2.toArray = (its ++ its2).toArray := by simp
  rw [ea]
  exact ⟨.ref _, _, I.lnew (t' := s.toks) (r.append r2) (by rw [List.length_append]; omega), rfl, q _ I.fresh⟩
def rAddW (K : PySem.W.Frag) : R2 := fun x y H Q => (rI0 fun i j => .int (i + j)) x y H Q ∨ (∃ i j, x = .str i ∧ y = .str j ∧ i.length + j.length ≤ sizeLine ∧ Q (.str (i ++ j)) H) ∨
  (∃ l b xs zs, x = .ref l ∧ y = .ref b ∧ Rd H l (.lst xs) ∧ Rd H b (.lst zs) ∧ xs.length + zs.length ≤ sizeLine ∧ ∀ p, H p = none → Q (.ref p) (upd H p (.lst (xs ++ zs)))) ∨ rCatX K x y H Q
theorem op_addW {X : Cx} : OpR X (binaryOp .Add) (rAddW X.K) := op_add.or (op_add_str.or (op_catS.or op_catX))
theorem str_app (x y : List Nat) : (⟨x.toArray⟩ : Str) ++ (⟨y.toArray⟩ : Str) = ⟨(x ++ y).toArray⟩ := by
  show Str.append _ _ = _
  unfold Str.append
  simp
theorem str_len (x : List Nat) : Str.length ⟨x.toArray⟩ = x.length := by simp [Str.length]
theorem Rp.str_inv {x : List Nat} {v : V} (r : Rp F H O (.str x) v) : v = .str ⟨x.toArray⟩ ∧ x.length ≤ sizeLine ∧ x.all okCp = true := by
  cases r with
  | str _ h h2 => exact ⟨rfl, h, h2⟩
theorem Rp.int_inv {i : Int} {v : V} (r : Rp F H O (.int i) v) : v = .int i := by cases r; rfl
theorem Rp.bl_inv {i : Bool} {v : V} (r : Rp F H O (.bl i) v) : v = .bl i := by cases r; rfl
theorem Rp.non_inv {v : V} (r : Rp F H O .non v) : v = .non := by cases r; rfl
theorem all_ok_append {x y : List Nat} (h : x.all okCp = true) (h' : y.all okCp = true) : (x ++ y).all okCp = true := by simp_all
theorem ow_add : OpW F fAdd (rAddW F.K) := by
  intro H O x y w z o Q rx ry e q
  cases w with
  | int i =>
    cases z with
    | int j =>
      obtain rfl := Rp.int_inv rx
      obtain rfl := Rp.int_inv ry
      cases some_inj e
      exact .inl ⟨i, j, rfl, rfl, q _ (.int _)⟩
    | _ => cases e
  | str i =>
    cases z with
    | str j =>
      obtain ⟨rfl, h1, h2⟩ := Rp.str_inv rx
      obtain ⟨rfl, h3, h4⟩ := Rp.str_inv ry
      simp only [fAdd] at e
      split at e
      · rename_i hl
        cases some_inj e
        have hl' : i.length + j.length ≤ sizeLine := by rw [sizeLine_is]; exact hl
        refine .inr (.inl ⟨_, _, rfl, rfl, by rw [str_len, str_len]; exact hl', ?_⟩)
        rw [str_app]
        exact q _ (.str _ (by simpa using hl') (all_ok_append h2 h4))
      · cases e
    | _ => cases e
  | lst i =>
    cases z with
    | lst j =>
      obtain ⟨a, vs, rfl, h1, q1⟩ := rx
      obtain ⟨b, ws, rfl, h2, q2⟩ := ry
      simp only [fAdd] at e
      split at e
      · rename_i hl
        cases some_inj e
        exact .inr (.inr (.inl ⟨a, b, vs, ws, rfl, rfl, h1, h2, by rw [← q1.1, ← q2.1, sizeLine_is]; exact hl, fun p hp => q p _ hp (q1.append q2)⟩))
      · cases e
    | _ => cases e
  | tup i =>
    cases z with
    | tup j =>
      obtain ⟨a, vs, rfl, h1, q1⟩ := Rp.tup_inv rx
      obtain ⟨b, ws, rfl, h2, q2⟩ := Rp.tup_inv ry
      simp only [fAdd] at e
      split at e
      · rename_i hl
        cases some_inj e
        refine .inr (.inr (.inr ⟨a, b, vs, ws, rfl, rfl, h1.sq, h2.sq, by rw [← q1.1, ← q2.1, sizeLine_is]; exact hl, fun e1 => ?_, fun _ e1 => ?_, fun _ _ => q.2 _ (q1.append q2)⟩))
        · subst e1
          have : i = [] := by have := q1.1; simpa using this
          subst this
          exact q.1 _ (.mkTup h2 q2)
        · subst e1
          have : j = [] := by have := q2.1; simpa using this
          subst this
          refine q.1 _ ?_
          rw [List.append_nil]
          exact .mkTup h1 q1
      · cases e
    | _ => cases e
  | _ => cases e
/-- two ints -/
theorem ow_int {C : Int → Int → Prop} {g : Int → Int → V} {f : W → W → Option Out} (h : ∀ w z o, f w z = some o → ∃ i j u, w = .int i ∧ z = .int j ∧ C i j ∧ o = .val u ∧ ∀ H O, Rp F H O u (g i j)) : OpW F f (rI C g) := by
  intro H O x y w z o Q rx ry e q
  obtain ⟨i, j, u, rfl, rfl, c, rfl, hu⟩ := h w z o e
  obtain rfl := Rp.int_inv rx
  obtain rfl := Rp.int_inv ry
  exact ⟨i, j, rfl, rfl, c, q _ (hu H O)⟩
theorem ow_int0 {g : Int → Int → V} {f : W → W → Option Out} (h : ∀ w z o, f w z = some o → ∃ i j u, w = .int i ∧ z = .int j ∧ o = .val u ∧ ∀ H O, Rp F H O u (g i j)) : OpW F f (rI0 g) := by
  intro H O x y w z o Q rx ry e q
  obtain ⟨i, j, u, rfl, rfl, rfl, hu⟩ := h w z o e
  obtain rfl := Rp.int_inv rx
  obtain rfl := Rp.int_inv ry
  exact ⟨i, j, rfl, rfl, q _ (hu H O)⟩
theorem ow_sub : OpW F fSub (rI0 fun i j => .int (i - j)) := ow_int0 fun w z o e => by
  cases w <;> cases z <;> try cases e
  exact ⟨_, _, _, rfl, rfl, rfl, fun _ _ => .int _⟩
theorem ow_mul : OpW F fMul (rI CMul fun i j => .int (i * j)) := ow_int fun w z o e => by
  cases w <;> cases z <;> try cases e
  simp only [fMul] at e
  split at e
  · rename_i hc
    cases some_inj e
    exact ⟨_, _, _, rfl, rfl, hc, rfl, fun _ _ => .int _⟩
  · cases e
theorem ow_div : OpW F fDiv (rI CDiv fun i j => .int (i / j)) := ow_int fun w z o e => by
  cases w <;> cases z <;> try cases e
  simp only [fDiv] at e
  split at e
  · rename_i hc
    cases some_inj e
    exact ⟨_, _, _, rfl, rfl, hc, rfl, fun _ _ => .int _⟩
  · cases e
theorem ow_mod : OpW F fMod (rI (fun _ j => 0 < j) fun i j => .int (i % j)) := ow_int fun w z o e => by
  cases w <;> cases z <;> try cases e
  simp only [fMod] at e
  split at e
  · rename_i hc
    cases some_inj e
    exact ⟨_, _, _, rfl, rfl, hc, rfl, fun _ _ => .int _⟩
  · cases e
theorem ow_pow : OpW F fPow (rI CPow fun i j => .int (i ^ j.toNat)) := ow_int fun w z o e => by
  cases w <;> cases z <;> try cases e
  simp only [fPow] at e
  split at e
  · rename_i hc
    cases some_inj e
    exact ⟨_, _, _, rfl, rfl, hc, rfl, fun _ _ => .int _⟩
  · cases e
theorem ow_cmp (p : Int → Int → Bool) : OpW F (fCmp p) (rI0 fun i j => .bl (p i j)) := ow_int0 fun w z o e => by
  cases w <;> cases z <;> try cases e
  exact ⟨_, _, _, rfl, rfl, rfl, fun _ _ => .bl _⟩
theorem ow_eq : OpW F fEq (rEqD F.K) := by
  intro H O x y w z o Q rx ry e q
  unfold fEq at e
  split at e
  · rename_i hc
    cases some_inj e
    obtain ⟨h1, h2⟩ := rt_shaped hc.1 rx
    obtain ⟨h3, h4⟩ := rt_shaped hc.2 ry
    exact ⟨_, _, h1, h3, h2, h4, q _ (.bl _)⟩
  · cases e
theorem ow_ne : OpW F fNe (rNeD F.K) := by
  intro H O x y w z o Q rx ry e q
  unfold fNe at e
  split at e
  · rename_i hc
    cases some_inj e
    obtain ⟨h1, h2⟩ := rt_shaped hc.1 rx
    obtain ⟨h3, h4⟩ := rt_shaped hc.2 ry
    exact ⟨_, _, h1, h3, h2, h4, q _ (.bl _)⟩
  · cases e
theorem isNon_v {w : W} {v : V} (r : RT F H O w v) : isNon w = decide (v = .non) := by
  cases w with
  | non => rw [Rp.non_inv r]; rfl
  | bl b => rw [Rp.bl_inv r]; rfl
  | int b => rw [Rp.int_inv r]; rfl
  | str b => rw [(Rp.str_inv r).1]; rfl
  | tup b => obtain ⟨a, _, rfl, _⟩ := Rp.tup_inv r; rfl
  | lst b => obtain ⟨a, _, rfl, _⟩ := r; rfl
  | dct b => obtain ⟨a, _, rfl, _⟩ := r; rfl
  | exc b => cases r; rfl
  | kdc b => cases r; rfl
  | tdc b => cases r; rfl
def rIsW : R2 := fun x y H Q => (y = .non ∧ Q (.bl (decide (x = .non))) H) ∨ rIsB x y H Q
def rIsNotW : R2 := fun x y H Q => (y = .non ∧ Q (.bl (!decide (x = .non))) H) ∨ rNotB x y H Q
theorem op_isW {X : Cx} : OpR X (compareOp .Is) rIsW := op_isN.or op_isBl
theorem op_isNotW {X : Cx} : OpR X (compareOp .IsNot) rIsNotW := op_notN.or op_notBl
theorem ow_is : OpW F fIs rIsW := by
  intro H O x y w z o Q rx ry e q
  cases z with
  | non =>
    cases some_inj e
    obtain rfl := Rp.non_inv ry
    refine .inl ⟨rfl, ?_⟩
    rw [← isNon_v rx]
    exact q _ (.bl _)
  | bl b =>
    cases w with
    | bl a =>
      cases some_inj e
      obtain rfl := Rp.bl_inv rx
      obtain rfl := Rp.bl_inv ry
      refine .inr ⟨a, b, rfl, rfl, ?_⟩
      have : decide (a = b) = (a == b) := by cases a <;> cases b <;> rfl
      rw [this]
      exact q _ (.bl _)
    | _ => cases e
  | _ => cases e
theorem ow_isNot : OpW F fIsNot rIsNotW := by
  intro H O x y w z o Q rx ry e q
  cases z with
  | non =>
    cases some_inj e
    obtain rfl := Rp.non_inv ry
    refine .inl ⟨rfl, ?_⟩
    rw [← isNon_v rx]
    exact q _ (.bl _)
  | bl b =>
    cases w with
    | bl a =>
      cases some_inj e
      obtain rfl := Rp.bl_inv rx
      obtain rfl := Rp.bl_inv ry
      refine .inr ⟨a, b, rfl, rfl, ?_⟩
      have : decide (a = b) = (a == b) := by cases a <;> cases b <;> rfl
      rw [this]
      exact q _ (.bl _)
    | _ => cases e
  | _ => cases e
end
end Bel

/-! The engine, fifth part: in, items, slices. -/
namespace Bel
open PySem PySem.Spec PyProof.Rows L2
section
variable {F : Fx} {H : Hp} {O : Addr → Prop}

/-! ### in -/
theorem eqv_flat {w z : W} {x y : V} (hw : isFlat w = true) (hz : isFlat z = true) (r : Rp F H O w x) (q : Rp F H O z y) : eqV x y = eqD w z := by
  unfold eqD
  cases r <;> cases q <;> first | rfl | (simp [isFlat] at hw; done) | (simp [isFlat] at hz; done)
theorem flat_v {w : W} {x : V} (hw : isFlat w = true) (r : Rp F H O w x) : flatV x = true := by
  cases r <;> first | rfl | (simp [isFlat] at hw; done)
theorem flat_all {ws : List W} {vs : List V} (r : RpL F H O ws vs) (h : ws.all isFlat = true) : vs.all flatV = true := by
  induction ws generalizing vs with
  | nil => rw [r.nil_iff]; rfl
  | cons w ws ih =>
    obtain ⟨v, vs', rfl, h1, r'⟩ := r.cons_iff
    rw [List.all_cons, Bool.and_eq_true] at h ⊢
    exact ⟨flat_v h.1 h1, ih r' h.2⟩
theorem any_flat {ws : List W} {vs : List V} {z : W} {y : V} (r : RpL F H O ws vs) (h : ws.all isFlat = true) (hz : isFlat z = true) (q : Rp F H O z y) : inV y vs = ws.any fun w => eqD w z := by
  unfold inV
  induction ws generalizing vs with
  | nil => rw [r.nil_iff]; rfl
  | cons w ws ih =>
    obtain ⟨v, vs', rfl, h1, r'⟩ := r.cons_iff
    rw [List.all_cons, Bool.and_eq_true] at h
    rw [List.any_cons, List.any_cons, ih r' h.2, eqv_flat h.1 hz h1 q]
theorem toDs_map (l : List W) : toDs l = l.map toD := by
  induction l with
  | nil => simp [toDs]
  | cons x r ih => simp [toDs, ih]
theorem any_toD (l : List W) (d : PyData) : ((toDs l).any fun z => PyData.eqv z d) = l.any fun y => PyData.eqv (toD y) d := by
  rw [toDs_map, List.any_map]
  rfl
theorem isKey_k {k : W} {v : V} (h : isKey k = true) (r : Rp F H O k v) : ∃ κ, keyK k = some κ ∧ v = kV κ := by
  cases k with
  | int i => rw [Rp.int_inv r]; exact ⟨.inl i, rfl, rfl⟩
  | str x => rw [(Rp.str_inv r).1]; exact ⟨.inr _, rfl, rfl⟩
  | _ => simp [isKey] at h
theorem key_of_rp {k : W} {κ : Key} (r : Rp F H O k (kV κ)) : keyK k = some κ := by
  cases κ with
  | inl i =>
    have r' : Rp F H O k (.int i) := r
    cases r'
    rfl
  | inr x =>
    have r' : Rp F H O k (.str x) := r
    cases r'
    rfl
theorem eqK_iff {k l : W} {κ κ' : Key} (h : keyK k = some κ) (h' : keyK l = some κ') : eqK k l = decide (κ = κ') := by
  cases k with
  | int i =>
    cases l with
    | int j =>
      have e1 : Sum.inl i = κ := some_inj h
      have e2 : Sum.inl j = κ' := some_inj h'
      subst e1 e2
      simp [eqK]
    | str j =>
      have e1 : Sum.inl i = κ := some_inj h
      have e2 : Sum.inr _ = κ' := some_inj h'
      subst e1 e2
      simp [eqK]
    | _ => simp [keyK] at h'
  | str i =>
    cases l with
    | int j =>
      have e1 : Sum.inr _ = κ := some_inj h
      have e2 : Sum.inl j = κ' := some_inj h'
      subst e1 e2
      simp [eqK]
    | str j =>
      have e1 : Sum.inr _ = κ := some_inj h
      have e2 : Sum.inr _ = κ' := some_inj h'
      subst e1 e2
      simp [eqK]
    | _ => simp [keyK] at h'
  | _ => simp [keyK] at h
theorem RpD.nil_iff {kvs : List (Key × V)} (r : RpD F H O [] kvs) : kvs = [] := by
  have := r.1
  cases kvs with
  | nil => rfl
  | cons _ _ => simp at this
theorem RpD.cons_iff {w : W × W} {ws : List (W × W)} {kvs : List (Key × V)} (r : RpD F H O (w :: ws) kvs) : ∃ κ v kvs', kvs = (κ, v) :: kvs' ∧ Rp F H O w.1 (kV κ) ∧ Rp F H O w.2 v ∧ RpD F H O ws kvs' := by
  cases kvs with
  | nil => have := r.1; simp at this
  | cons p kvs' =>
    exact ⟨p.1, p.2, kvs', rfl, r.2.1 0 w p rfl rfl, r.2.2 0 w p rfl rfl, by have := r.1; simpa using this, fun i x y hx hy => r.2.1 (i + 1) x y (by simpa using hx) (by simpa using hy), fun i x y hx hy => r.2.2 (i + 1) x y (by simpa using hx) (by simpa using hy)⟩
theorem RpD.nil : RpD F H O [] [] := ⟨rfl, fun i w v h => by simp at h, fun i w v h => by simp at h⟩
theorem RpD.cons {w : W × W} {ws : List (W × W)} {κ : Key} {v : V} {kvs : List (Key × V)} (h : Rp F H O w.1 (kV κ)) (h2 : Rp F H O w.2 v) (r : RpD F H O ws kvs) : RpD F H O (w :: ws) ((κ, v) :: kvs) := by
  refine ⟨by simp [r.1], fun i x y hx hy => ?_, fun i x y hx hy => ?_⟩
  · cases i with
    | zero => simp at hx hy; subst hx hy; exact h
    | succ i => simp at hx hy; exact r.2.1 i x y hx hy
  · cases i with
    | zero => simp at hx hy; subst hx hy; exact h2
    | succ i => simp at hx hy; exact r.2.2 i x y hx hy
/-- a look into a dict -/
theorem look_rp {ws : List (W × W)} {kvs : List (Key × V)} (r : RpD F H O ws kvs) {k : W} {κ : Key} (hk : keyK k = some κ) :
    (lookD k ws = none ∧ valV kvs κ = none) ∨ ∃ w v, lookD k ws = some w ∧ valV kvs κ = some v ∧ Rp F H O w v := by
  induction ws generalizing kvs with
  | nil => rw [r.nil_iff]; exact .inl ⟨rfl, rfl⟩
  | cons p ws ih =>
    obtain ⟨κ', v, kvs', rfl, h1, h2, r'⟩ := r.cons_iff
    have e := eqK_iff (key_of_rp h1) hk
    by_cases hc : κ' = κ
    · right
      refine ⟨p.2, v, ?_, valV_pos hc, h2⟩
      unfold lookD
      rw [List.find?_cons]
      simp [e, hc]
    · have e1 : lookD k (p :: ws) = lookD k ws := by
        unfold lookD
        rw [List.find?_cons]
        simp [e, hc]
      rw [e1, valV_neg hc]
      exact ih r'
def rInW (F : Fx) (neg : Bool) : R2 := fun x y H Q => (∃ (c : Nat) (z : Str), x = .str ⟨#[c]⟩ ∧ y = .str z ∧ Q (.bl (if neg then !decide (c ∈ z.cps.toList) else decide (c ∈ z.cps.toList))) H) ∨
  (∃ d ds, Dp F.K H x d ∧ Dp F.K H y (.list ds) ∧ SeqAt.shaped d = true ∧ SeqAt.shaped (.list ds) = true ∧ Q (.bl (if neg then !ds.any (fun z => PyData.eqv z d) else ds.any fun z => PyData.eqv z d)) H) ∨
  rIn F.K neg x y H Q ∨ (∃ a o, y = .ref a ∧ DGet H a x o ∧ Q (.bl (if neg then !o.isSome else o.isSome)) H) ∨ (∃ d es n z r, KDict F.K F.w d es n ∧ x = .str z ∧ y = .ref d ∧ PySem.W.nsIn F.K d z = some r ∧ Q (.bl (if neg then !r.isSome else r.isSome)) H)
theorem op_din {X : Cx} (hu : X.A.units + 1 < cLine) : OpR X (compareOp .In) (fun x y H Q => ∃ a o, y = .ref a ∧ DGet H a x o ∧ Q (.bl o.isSome) H) := by
  intro pins s σ H x y v u Q I rx ry h
  obtain ⟨a, o, rfl, g, q⟩ := h
  cases ry
  exact d_in hu I g rx fun s' I' => ⟨.bl _, H, I', rfl, q⟩
theorem op_dnotin {X : Cx} (hu : X.A.units + 1 < cLine) : OpR X (compareOp .NotIn) (fun x y H Q => ∃ a o, y = .ref a ∧ DGet H a x o ∧ Q (.bl (!o.isSome)) H) := by
  intro pins s σ H x y v u Q I rx ry h
  obtain ⟨a, o, rfl, g, q⟩ := h
  cases ry
  exact d_notIn hu I g rx fun s' I' => ⟨.bl _, H, I', rfl, q⟩
theorem op_kin {X : Cx} : OpR X (compareOp .In) (fun x y H Q => ∃ d es n z r, KDict X.K X.w d es n ∧ x = .str z ∧ y = .ref d ∧ PySem.W.nsIn X.K d z = some r ∧ Q (.bl r.isSome) H) := by
  intro pins s σ H x y v u Q I rx ry h
  obtain ⟨d, es, n, z, r, D, rfl, rfl, e, q⟩ := h
  exact op_in_kd D pins s σ H _ _ v u Q I rx ry ⟨z, r, rfl, rfl, e, q⟩
theorem op_knotin {X : Cx} : OpR X (compareOp .NotIn) (fun x y H Q => ∃ d es n z r, KDict X.K X.w d es n ∧ x = .str z ∧ y = .ref d ∧ PySem.W.nsIn X.K d z = some r ∧ Q (.bl (!r.isSome)) H) := by
  intro pins s σ H x y v u Q I rx ry h
  obtain ⟨d, es, n, z, r, D, rfl, rfl, e, q⟩ := h
  exact op_notIn_kd D pins s σ H _ _ v u Q I rx ry ⟨z, r, rfl, rfl, e, q⟩
theorem op_inW {ec : Nat → Value} {X : Cx} (hu : X.A.units + 65 < cLine) : OpR X (compareOp .In) (rInW (fx ec X) false) := op_in_sign.or ((op_inD hu).or (op_in_seq.or ((op_din (by omega)).or op_kin)))
theorem op_notInW {ec : Nat → Value} {X : Cx} (hu : X.A.units + 65 < cLine) : OpR X (compareOp .NotIn) (rInW (fx ec X) true) := op_notIn_sign.or ((op_notInD hu).or (op_notIn_seq.or ((op_dnotin (by omega)).or op_knotin)))
theorem dget_rd {a : Addr} {kvs : List (Key × V)} {κ : Key} (h : Rd H a (.dK kvs)) : DGet H a (kV κ) (valV kvs κ) := .inl ⟨kvs, κ, h, rfl, rfl⟩
/-- a look into a written dict -/
theorem kdc_look {l : List (List Nat × W)} {v : V} (h : Rp F H O (.kdc l) v) (k : List Nat) : ∃ a kvs, v = .ref a ∧ KDc F a kvs ∧ ∃ r, PySem.W.nsIn F.K a ⟨k.toArray⟩ = some r ∧ r.isSome = (l.lookup k).isSome ∧ ∀ w, l.lookup k = some w → ∃ v' u, r = some u ∧ RelV v' u ∧ Rp F H O w v' := by
  cases h with
  | @kdc a kvs _ h hl hk hs =>
    refine ⟨a, kvs, rfl, h, ?_⟩
    have key : (l.lookup k = none ∧ kvs.lookup ⟨k.toArray⟩ = none) ∨ ∃ w v', l.lookup k = some w ∧ kvs.lookup ⟨k.toArray⟩ = some v' ∧ Rp F H O w v' := by
      clear h
      induction l generalizing kvs with
      | nil =>
        cases kvs with
        | nil => exact .inl ⟨rfl, rfl⟩
        | cons _ _ => simp at hl
      | cons p l ih =>
        cases kvs with
        | nil => simp at hl
        | cons q kvs =>
          have e1 := hk 0 p q rfl rfl
          have e2 := hs 0 p q rfl rfl
          have ih' := ih (kvs := kvs) (by simpa using hl) (fun i x y hx hy => hk (i + 1) x y (by simpa using hx) (by simpa using hy)) (fun i x y hx hy => hs (i + 1) x y (by simpa using hx) (by simpa using hy))
          obtain ⟨p1, p2⟩ := p
          obtain ⟨q1, q2⟩ := q
          simp only at e1 e2
          subst e1
          by_cases hc : k = p1
          · subst hc
            exact .inr ⟨p2, q2, by simp [List.lookup], by simp [List.lookup], e2⟩
          · have b1 : (k == p1) = false := beq_eq_false_iff_ne.mpr hc
            have b2 : ((⟨k.toArray⟩ : Str) == (⟨p1.toArray⟩ : Str)) = false := beq_eq_false_iff_ne.mpr fun z => hc (by simpa using z)
            simp only [List.lookup, b1, b2]
            exact ih'
    have h4 := h.2 ⟨k.toArray⟩
    rcases key with ⟨e1, e2⟩ | ⟨w, v', e1, e2, r⟩
    · rw [e2] at h4
      exact ⟨none, h4, by rw [e1]; rfl, fun w hw => by rw [e1] at hw; cases hw⟩
    · rw [e2] at h4
      obtain ⟨u, hu, ru⟩ := h4
      exact ⟨some u, hu, by rw [e1]; rfl, fun w' hw => by rw [e1] at hw; cases hw; exact ⟨v', u, rfl, ru, r⟩⟩
theorem in_core {neg : Bool} {w z : W} {x y : V} {b : Bool} {Q : VK} (rx : RT F H O w x) (ry : RT F H O z y) (e : fIn w z = some b) (q : Q (.bl (if neg then !b else b)) H) : rInW F neg x y H Q := by
  cases z with
  | str t =>
    simp only [fIn] at e
    split at e
    · rename_i c
      cases some_inj e
      obtain ⟨rfl, _⟩ := Rp.str_inv rx
      obtain ⟨rfl, _⟩ := Rp.str_inv ry
      exact .inl ⟨c, _, rfl, rfl, q⟩
    · cases e
  | lst l =>
    simp only [fIn] at e
    split at e
    · rename_i hc
      cases some_inj e
      have hs : shp 64 (.lst l) = true := by simpa [shp] using hc.2
      obtain ⟨h1, h2⟩ := rt_shaped hc.1 rx
      obtain ⟨h3, h4⟩ := rt_shaped hs ry
      simp only [toD] at h3 h4
      refine .inr (.inl ⟨_, _, h1, h3, h2, h4, ?_⟩)
      rw [any_toD]
      exact q
    · cases e
  | tup l =>
    simp only [fIn] at e
    split at e
    · rename_i hc
      cases some_inj e
      obtain ⟨a, vs, rfl, h1, q1⟩ := Rp.tup_inv ry
      have rx' : Rp F H O w x := by
        cases w <;> first | exact rx | (simp [isFlat] at hc; done)
      refine .inr (.inr (.inl ⟨a, vs, rfl, .inr h1.sq, flat_v hc.1 rx', flat_all q1 hc.2, ?_⟩))
      rw [any_flat q1 hc.2 hc.1 rx']
      exact q
    · cases e
  | dct l =>
    simp only [fIn] at e
    split at e
    · rename_i hc
      cases some_inj e
      obtain ⟨a, kvs, rfl, h1, q1⟩ := ry
      have rx' : Rp F H O w x := by
        cases w <;> first | exact rx | (simp [isKey] at hc; done)
      obtain ⟨κ, hk, rfl⟩ := isKey_k hc rx'
      refine .inr (.inr (.inr (.inl ⟨a, _, rfl, dget_rd h1, ?_⟩)))
      rcases look_rp q1 hk with ⟨e1, e2⟩ | ⟨w', v', e1, e2, _⟩
      · rw [e2]; rw [e1] at q; exact q
      · rw [e2]; rw [e1] at q; exact q
    · cases e
  | kdc l =>
    simp only [fIn] at e
    split at e
    · rename_i k
      cases some_inj e
      obtain ⟨rfl, _⟩ := Rp.str_inv rx
      obtain ⟨a, kvs, rfl, ⟨⟨es, n, h1, h2, h3⟩, h4⟩, r, hr⟩ := kdc_look ry k
      refine .inr (.inr (.inr (.inr ⟨a, es, n, _, r, ⟨h1, h2, h3⟩, rfl, rfl, hr.1, ?_⟩)))
      rw [hr.2.1]
      exact q
    · cases e
  | _ => cases e
theorem ow_in : OpW F fInO (rInW F false) := by
  intro H O x y w z o Q rx ry e q
  unfold fInO at e
  obtain ⟨b, hb, rfl⟩ := Option.map_eq_some_iff.mp e
  exact in_core rx ry hb (q _ (.bl _))
theorem ow_notIn : OpW F fNotInO (rInW F true) := by
  intro H O x y w z o Q rx ry e q
  unfold fNotInO at e
  obtain ⟨b, hb, rfl⟩ := Option.map_eq_some_iff.mp e
  exact in_core rx ry hb (q _ (.bl _))

/-! ### items -/
def rIxW (F : Fx) : R2 := fun x y H Q => rIx F.K x y H Q ∨ (∃ a v, x = .ref a ∧ DGet H a y (some v) ∧ Q v H) ∨ rIxD F.K F.w x y H Q
theorem ix_dget {X : Cx} (hu : X.A.units + 1 < cLine) : IxR X (fun x y H Q => ∃ a v, x = .ref a ∧ DGet H a y (some v) ∧ Q v H) := by
  intro value slice pins s σ H x y v u Q I rx ry h hs
  obtain ⟨a, z, rfl, g, q⟩ := h
  cases rx
  exact tail_any (dict_typeIs I g) slot_dict_getitem.lookup (d_getItem hu I g ry fun w' s' I' r' => ⟨z, H, I', r', q⟩) hs
theorem ix_W {ec : Nat → Value} {X : Cx} (hu : X.A.units + 1 < cLine) : IxR X (rIxW (fx ec X)) := ix_seq.or ((ix_dget hu).or ix_kdict)
theorem atI_rp {ws : List W} {vs : List V} (r : RpL F H O ws vs) {i : Int} {w : W} (h : atW ws i = some w) : ∃ v, atI vs i = some v ∧ Rp F H O w v := by
  unfold atW at h
  unfold atI
  rw [← r.1]
  cases e : ixN ws.length i with
  | none => rw [e] at h; cases h
  | some j =>
    rw [e] at h
    exact r.get h
theorem one_sign {x : List Nat} {i : Int} {c : Nat} (h : x.all okCp = true) (e : atW x i = some c) : [c].all okCp = true := by
  unfold atW at e
  cases e1 : ixN x.length i with
  | none => rw [e1] at e; cases e
  | some j =>
    rw [e1] at e
    have : c ∈ x := List.mem_of_getElem? e
    have := List.all_eq_true.mp h c this
    simp [this]
theorem one_line {c : Nat} : [c].length ≤ sizeLine := by rw [sizeLine_is]; simp
theorem ow_ix : OpW F fIx (rIxW F) := by
  intro H O x y w z o Q rx ry e q
  cases w with
  | lst l =>
    cases z with
    | int i =>
      obtain ⟨a, vs, rfl, h1, q1⟩ := rx
      obtain rfl := Rp.int_inv ry
      obtain ⟨w', e', rfl⟩ := Option.map_eq_some_iff.mp e
      obtain ⟨v, hv, r⟩ := atI_rp q1 e'
      exact .inl (.inl ⟨a, vs, i, v, rfl, rfl, .inl h1, hv, q _ r⟩)
    | _ => cases e
  | tup l =>
    cases z with
    | int i =>
      obtain ⟨a, vs, rfl, h1, q1⟩ := Rp.tup_inv rx
      obtain rfl := Rp.int_inv ry
      obtain ⟨w', e', rfl⟩ := Option.map_eq_some_iff.mp e
      obtain ⟨v, hv, r⟩ := atI_rp q1 e'
      exact .inl (.inr (.inl ⟨a, vs, i, v, rfl, rfl, h1.sq, hv, q _ r⟩))
    | _ => cases e
  | str l =>
    cases z with
    | int i =>
      obtain ⟨rfl, h1, h2⟩ := Rp.str_inv rx
      obtain rfl := Rp.int_inv ry
      obtain ⟨c, e', rfl⟩ := Option.map_eq_some_iff.mp e
      refine .inl (.inr (.inr ⟨_, i, c, rfl, rfl, by rw [str_len]; exact h1, ?_, q _ (.str [c] one_line (one_sign h2 e'))⟩))
      show atI l i = some c
      exact e'
    | _ => cases e
  | dct l =>
    have e' : (if isKey z = true then (lookD z l).map Out.val else none) = some o := e
    split at e'
    · rename_i hc
      obtain ⟨a, kvs, rfl, h1, q1⟩ := rx
      have ry' : Rp F H O z y := by
        cases z <;> first | exact ry | (simp [isKey] at hc; done)
      obtain ⟨κ, hk, rfl⟩ := isKey_k hc ry'
      obtain ⟨w', e'', rfl⟩ := Option.map_eq_some_iff.mp e'
      rcases look_rp q1 hk with ⟨e1, e2⟩ | ⟨w'', v', e1, e2, r⟩
      · rw [e1] at e''; cases e''
      · rw [e1] at e''; cases e''
        exact .inr (.inl ⟨a, v', rfl, by rw [← e2]; exact dget_rd h1, q _ r⟩)
    · cases e'
  | kdc l =>
    cases z with
    | str k =>
      obtain ⟨rfl, _⟩ := Rp.str_inv ry
      obtain ⟨a, kvs, rfl, ⟨⟨es, n, h1, h2, h3⟩, h4⟩, r, hr⟩ := kdc_look rx k
      obtain ⟨w', e'', rfl⟩ := Option.map_eq_some_iff.mp e
      obtain ⟨v', u, rfl, ru, rr⟩ := hr.2.2 w' e''
      exact .inr (.inr ⟨a, _, v', rfl, rfl, ⟨es, n, u, h1, h2, hr.1, ru⟩, q _ rr⟩)
    | _ => cases e
  | _ => cases e

/-! ### slices -/
def rSlW (K : PySem.W.Frag) : V → Option Int → Option Int → Hp → VK → Prop := fun x lo hi H Q => rSlL K x lo hi H Q ∨ rSlX K x lo hi H Q ∨ rSlS x lo hi H Q
theorem sl_W {X : Cx} : SlR X (rSlW X.K) := sl_list.or (sl_tupX.or sl_str)
theorem cut_rp {ws : List W} {vs : List V} (r : RpL F H O ws vs) (lo hi : Option Int) : RpL F H O (cutL ws lo hi) (cutV vs lo hi) := by
  unfold cutL cutV
  rw [r.1]
  exact (r.drop _).take _
theorem cut_len {α : Type} (xs : List α) (lo hi : Option Int) : (cutL xs lo hi).length ≤ xs.length := by
  unfold cutL
  rw [List.length_take, List.length_drop]
  omega
theorem cut_all {x : List Nat} (lo hi : Option Int) (h : x.all okCp = true) : (cutL x lo hi).all okCp = true := by
  rw [List.all_eq_true] at h ⊢
  intro c hc
  unfold cutL at hc
  exact h c (List.mem_of_mem_drop (List.mem_of_mem_take hc))
theorem cutS_is (x : List Nat) (lo hi : Option Int) : cutS ⟨x.toArray⟩ lo hi = ⟨(cutL x lo hi).toArray⟩ := by
  unfold cutS cutL
  rw [str_len]
theorem cut_whole {α : Type} {xs : List α} {lo hi : Option Int} (h : HT.sIx xs.length 0 lo = 0 ∧ HT.sIx xs.length xs.length hi = xs.length) : cutL xs lo hi = xs := by
  unfold cutL
  rw [h.1, h.2]
  simp
theorem sl_core {w : W} {x : V} {lo hi : Option Int} {o : Out} {Q : VK} (rx : RT F H O w x) (e : fSl w lo hi = some o) (q : PuQ F H O o Q) : rSlW F.K x lo hi H Q := by
  cases w with
  | lst l =>
    cases some_inj e
    obtain ⟨a, vs, rfl, h1, q1⟩ := rx
    exact .inl ⟨a, vs, rfl, .inl h1, fun p hp => q p _ hp (cut_rp q1 lo hi)⟩
  | tup l =>
    cases some_inj e
    obtain ⟨a, vs, rfl, h1, q1⟩ := Rp.tup_inv rx
    refine .inr (.inl ⟨a, vs, rfl, h1.sq, fun hw => q.1 _ ?_, fun _ => q.2 _ (cut_rp q1 lo hi)⟩)
    rw [← q1.1] at hw
    rw [cut_whole hw]
    exact .mkTup h1 q1
  | str l =>
    cases some_inj e
    obtain ⟨rfl, h1, h2⟩ := Rp.str_inv rx
    refine .inr (.inr ⟨_, rfl, by rw [str_len]; exact h1, ?_⟩)
    rw [cutS_is]
    exact q _ (.str _ (Nat.le_trans (cut_len l lo hi) h1) (cut_all lo hi h2))
  | _ => cases e
end
end Bel

/-! The engine, sixth part: expressions. -/
namespace Bel
open PySem PySem.Spec PyProof.Rows L2
section
variable {ec : Nat → Value} {X : Cx} {e a b c o : Expr} {es rest : List Expr} {pos : Pos} {da db dc dd : DE} {ta tb tc : DT} {das : DA}

/-! ### tests -/
def dT (d : DE) : DT := fun e S => (d e S).bind fun u S1 => match u with
  | .v (.bl k) => .ok k S1
  | _ => .no
section
variable {F : Fx} {Wx : WX} {σ : L2.St} {H : Hp}
theorem dT_reads {Q : Bool → Hp → Prop} (h : LT F Wx (dT da) σ H Q) : LE F Wx da σ H fun x H' => ∃ k, x = .bl k ∧ Q k H' := by
  obtain ⟨env, S, ι, B, R, E, h⟩ := h
  refine LE.thenT R E h fun u S1 v H1 ι1 G1 R1 E1 ru h1 => ?_
  cases u with
  | v w =>
    cases w with
    | bl k => exact ⟨k, Rp.bl_inv ru, h1 H1 ι1 .refl R1⟩
    | _ => exact h1.elim
  | o n => exact h1.elim
end
theorem tv_val (h : PEv ec X e da) (he : ∀ whole, isTrue e X.env whole = (do let v ← whole; standAt e.pos; holding [v] (truthy v)) := by intro _; rfl) : PTv ec X e (dT da) :=
  ⟨fun pn xe Wx tk => (pt_val (h.run pn xe Wx tk) he).imp fun σ H Q h => dT_reads h⟩
theorem tv_cmp {op : CmpOp} {f : W → W → Option Out} {r : R2} (ho : ∀ pn xe, OpR (X.tr pn xe) (compareOp op) r) (hf : OpW (fx ec X) f r) (ha : PEv ec X a da) (hb : PEv ec X b db) (hm : behindInMarks op b = false) : PTv ec X (.Compare a [op] [b] pos) (dT (dBin false f da db)) :=
  ⟨fun pn xe Wx tk => (pt_cmpR (ho pn xe) (ha.run pn xe Wx tk) (hb.run pn xe Wx tk) hm).imp fun σ H Q h => by
    have := dT_reads h
    exact bin_reads hf this⟩
/-- a op b op' c -/
def dChain (f g : W → W → Option Out) (a b c : DE) : DE := fun e S => (a e S).bind fun u S1 => (b e S1).bind fun v S2 => match dr S2 u, dr S2 v with
  | some x, some y => match f x y with
    | some (.val (.bl true)) => (c e S2).bind fun w S3 => match dr S3 v, dr S3 w with
      | some y', some z => putO false (g y' z) S3
      | _, _ => .no
    | some (.val (.bl false)) => .ok (.v (.bl false)) S2
    | _ => .no
  | _, _ => .no
theorem chain_reads {F : Fx} {Wx : WX} {σ : L2.St} {H : Hp} {f g : W → W → Option Out} {r r' : R2} {Q : VK} (hf : OpW F f r) (hg : OpW F g r') (h : LE F Wx (dChain f g da db dc) σ H Q) : tChain r r' (LE F Wx da) (LE F Wx db) (LE F Wx dc) σ H Q := by
  obtain ⟨env, S, ι, B, R, E, h⟩ := h
  refine LE.then_ R E h fun u S1 x H1 ι1 G1 R1 E1 ru h1 => ?_
  refine LE.then_ R1 E1 h1 fun v S2 y H2 ι2 G2 R2 E2 rv h2 => ?_
  have ru2 := RU.go G2 ru
  cases e1 : dr S2 u with
  | none => simp only [e1] at h2; exact h2.elim
  | some w =>
    cases e2 : dr S2 v with
    | none => simp only [e1, e2] at h2; exact h2.elim
    | some z =>
      simp only [e1, e2] at h2
      cases e3 : f w z with
      | none => simp only [e3] at h2; exact h2.elim
      | some q =>
        refine hf H2 _ x y w z q _ (RU.rt R2 ru2 e1) (RU.rt R2 rv e2) e3 ?_
        cases q with
        | val t =>
          cases t with
          | bl k =>
            intro v' rv'
            obtain rfl := Rp.bl_inv rv'
            refine ⟨k, rfl, ?_⟩
            cases k with
            | true =>
              rw [if_pos rfl]
              simp only [e3] at h2
              refine LE.then_ R2 E2 h2 fun w3 S3 z3 H3 ι3 G3 R3 E3 rw3 h3 => ?_
              have rv3 := RU.go G3 rv
              cases e4 : dr S3 v with
              | none => simp only [e4] at h3; exact h3.elim
              | some y' =>
                cases e5 : dr S3 w3 with
                | none => simp only [e4, e5] at h3; exact h3.elim
                | some z' =>
                  simp only [e4, e5] at h3
                  obtain ⟨o', he', q'⟩ := putO_ok R3 h3
                  exact hg H3 _ y z3 y' z' o' Q (RU.rt R3 rv3 e4) (RU.rt R3 rw3 e5) he' q'
            | false =>
              rw [if_neg Bool.false_ne_true]
              simp only [e3] at h2
              exact h2 _ H2 ι2 .refl R2 (.bl false)
          | _ => simp only [e3] at h2; exact h2.elim
        | _ => simp only [e3] at h2; exact h2.elim
theorem ev_chain {op op' : CmpOp} {f g : W → W → Option Out} {r r' : R2} (ho : ∀ pn xe, OpR (X.tr pn xe) (compareOp op) r) (ho' : ∀ pn xe, OpR (X.tr pn xe) (compareOp op') r') (hf : OpW (fx ec X) f r) (hg : OpW (fx ec X) g r')
    (ha : PEv ec X a da) (hb : PEv ec X b db) (hc : PEv ec X c dc) (hm : lastMarks [op, op'] [b, c] = false := by with_unfolding_all rfl) : PEv ec X (.Compare a [op, op'] [b, c] pos) (dChain f g da db dc) :=
  ⟨fun pn xe Wx tk => (pe_chain (ho pn xe) (ho' pn xe) (ha.run pn xe Wx tk) (hb.run pn xe Wx tk) (hc.run pn xe Wx tk) hm).imp fun σ H Q h => chain_reads hf hg h⟩
theorem tv_chain {op op' : CmpOp} {f g : W → W → Option Out} {r r' : R2} (ho : ∀ pn xe, OpR (X.tr pn xe) (compareOp op) r) (ho' : ∀ pn xe, OpR (X.tr pn xe) (compareOp op') r') (hf : OpW (fx ec X) f r) (hg : OpW (fx ec X) g r')
    (ha : PEv ec X a da) (hb : PEv ec X b db) (hc : PEv ec X c dc) (hm : lastMarks [op, op'] [b, c] = false := by with_unfolding_all rfl) : PTv ec X (.Compare a [op, op'] [b, c] pos) (dT (dChain f g da db dc)) :=
  ⟨fun pn xe Wx tk => (pt_chain (ho pn xe) (ho' pn xe) (ha.run pn xe Wx tk) (hb.run pn xe Wx tk) (hc.run pn xe Wx tk) hm).imp fun σ H Q h => chain_reads hf hg (dT_reads h)⟩

/-! ### and, or, not -/
def dAnd (a b : DT) : DT := fun e S => (a e S).bind fun k S1 => if k = true then b e S1 else .ok false S1
def dOr (a b : DT) : DT := fun e S => (a e S).bind fun k S1 => if k = true then .ok true S1 else b e S1
def dNot (a : DT) : DT := fun e S => (a e S).bind fun k S1 => .ok (!k) S1
theorem tw_and1 (ha : PTv ec X a ta) : PWv ec X (.BoolOp .And [a] pos) ta := ⟨fun pn xe Wx tk => pw_and1 (ha.run pn xe Wx tk)⟩
theorem tw_or1 (ha : PTv ec X a ta) : PWv ec X (.BoolOp .Or [a] pos) ta := ⟨fun pn xe Wx tk => pw_or1 (ha.run pn xe Wx tk)⟩
theorem tw_and (ha : PTv ec X a ta) (hb : PWv ec X (.BoolOp .And (b :: rest) pos) tb) : PWv ec X (.BoolOp .And (a :: b :: rest) pos) (dAnd ta tb) :=
  ⟨fun pn xe Wx tk => (pw_and (ha.run pn xe Wx tk) (hb.run pn xe Wx tk)).imp fun σ H Q ⟨env, S, ι, B, R, E, h⟩ => LT.thenT R E h fun k S1 H1 ι1 G1 R1 E1 h1 => by
    cases k with
    | true => rw [if_pos rfl] at h1 ⊢; exact ⟨env, S1, ι1, B, R1, E1, h1⟩
    | false => rw [if_neg Bool.false_ne_true] at h1 ⊢; exact h1 H1 ι1 .refl R1⟩
theorem tw_or (ha : PTv ec X a ta) (hb : PWv ec X (.BoolOp .Or (b :: rest) pos) tb) : PWv ec X (.BoolOp .Or (a :: b :: rest) pos) (dOr ta tb) :=
  ⟨fun pn xe Wx tk => (pw_or (ha.run pn xe Wx tk) (hb.run pn xe Wx tk)).imp fun σ H Q ⟨env, S, ι, B, R, E, h⟩ => LT.thenT R E h fun k S1 H1 ι1 G1 R1 E1 h1 => by
    cases k with
    | true => rw [if_pos rfl] at h1 ⊢; exact h1 H1 ι1 .refl R1
    | false => rw [if_neg Bool.false_ne_true] at h1 ⊢; exact ⟨env, S1, ι1, B, R1, E1, h1⟩⟩
theorem tv_w (h : PWv ec X e ta) : PTv ec X e ta := ⟨fun pn xe Wx tk => (h.run pn xe Wx tk).pt⟩
theorem tv_not (ha : PTv ec X a ta) : PTv ec X (.UnaryOp .Not a pos) (dNot ta) :=
  ⟨fun pn xe Wx tk => (pt_not (ha.run pn xe Wx tk)).imp fun σ H Q ⟨env, S, ι, B, R, E, h⟩ => LT.thenT R E h fun k S1 H1 ι1 G1 R1 E1 h1 => h1 H1 ι1 .refl R1⟩
/-- .. as values -/
def dAndV (a b : DE) : DE := fun e S => (a e S).bind fun u S1 => match u with
  | .v (.bl k) => if k = true then b e S1 else .ok (.v (.bl false)) S1
  | _ => .no
def dOrV (a b : DE) : DE := fun e S => (a e S).bind fun u S1 => match u with
  | .v (.bl k) => if k = true then .ok (.v (.bl true)) S1 else b e S1
  | _ => .no
def dNotV (a : DE) : DE := fun e S => (a e S).bind fun u S1 => match u with
  | .v (.bl k) => .ok (.v (.bl (!k))) S1
  | _ => .no
theorem ev_one {op} (h : PEv ec X a da) : PEv ec X (.BoolOp op [a] pos) da := ⟨fun pn xe Wx tk => pe_one (h.run pn xe Wx tk)⟩
theorem ev_and (ha : PEv ec X a da) (hb : PEv ec X (.BoolOp .And (b :: rest) pos) db) : PEv ec X (.BoolOp .And (a :: b :: rest) pos) (dAndV da db) :=
  ⟨fun pn xe Wx tk => (pe_and (ha.run pn xe Wx tk) (hb.run pn xe Wx tk)).imp fun σ H Q ⟨env, S, ι, B, R, E, h⟩ => LE.then_ R E h fun u S1 v H1 ι1 G1 R1 E1 ru h1 => by
    cases u with
    | v w =>
      cases w with
      | bl k =>
        refine ⟨k, Rp.bl_inv ru, ?_⟩
        cases k with
        | true => exact ⟨env, S1, ι1, B, R1, E1, h1⟩
        | false => exact h1 _ H1 ι1 .refl R1 (.bl false)
      | _ => exact h1.elim
    | o n => exact h1.elim⟩
theorem ev_or (ha : PEv ec X a da) (hb : PEv ec X (.BoolOp .Or (b :: rest) pos) db) : PEv ec X (.BoolOp .Or (a :: b :: rest) pos) (dOrV da db) :=
  ⟨fun pn xe Wx tk => (pe_or (ha.run pn xe Wx tk) (hb.run pn xe Wx tk)).imp fun σ H Q ⟨env, S, ι, B, R, E, h⟩ => LE.then_ R E h fun u S1 v H1 ι1 G1 R1 E1 ru h1 => by
    cases u with
    | v w =>
      cases w with
      | bl k =>
        refine ⟨k, Rp.bl_inv ru, ?_⟩
        cases k with
        | true => exact h1 _ H1 ι1 .refl R1 (.bl true)
        | false => exact ⟨env, S1, ι1, B, R1, E1, h1⟩
      | _ => exact h1.elim
    | o n => exact h1.elim⟩
theorem ev_not (ha : PEv ec X a da) : PEv ec X (.UnaryOp .Not a pos) (dNotV da) :=
  ⟨fun pn xe Wx tk => (pe_not (ha.run pn xe Wx tk)).imp fun σ H Q ⟨env, S, ι, B, R, E, h⟩ => LE.then_ R E h fun u S1 v H1 ι1 G1 R1 E1 ru h1 => by
    cases u with
    | v w =>
      cases w with
      | bl k => exact ⟨k, Rp.bl_inv ru, h1 _ H1 ι1 .refl R1 (.bl _)⟩
      | _ => exact h1.elim
    | o n => exact h1.elim⟩
def dIf (c : DT) (a b : DE) : DE := fun e S => (c e S).bind fun k S1 => if k = true then a e S1 else b e S1
theorem ev_if (hc : PTv ec X c tc) (ha : PEv ec X a da) (hb : PEv ec X b db) : PEv ec X (.IfExp c a b pos) (dIf tc da db) :=
  ⟨fun pn xe Wx tk => (pe_ifExp (hc.run pn xe Wx tk) (ha.run pn xe Wx tk) (hb.run pn xe Wx tk)).imp fun σ H Q ⟨env, S, ι, B, R, E, h⟩ => LT.then_ R E h fun k S1 H1 ι1 G1 R1 E1 h1 => by
    cases k with
    | true => exact ⟨env, S1, ι1, B, R1, E1, h1⟩
    | false => exact ⟨env, S1, ι1, B, R1, E1, h1⟩⟩
/-- -a -/
def dNeg (a : DE) : DE := fun e S => (a e S).bind fun u S1 => match u with
  | .v (.int i) => .ok (.v (.int (-i))) S1
  | _ => .no
theorem ev_neg (ha : PEv ec X a da) : PEv ec X (.UnaryOp .USub a pos) (dNeg da) :=
  ⟨fun pn xe Wx tk => (pe_un un_neg (ha.run pn xe Wx tk)).imp fun σ H Q ⟨env, S, ι, B, R, E, h⟩ => LE.then_ R E h fun u S1 v H1 ι1 G1 R1 E1 ru h1 => by
    cases u with
    | v w =>
      cases w with
      | int k => exact ⟨k, Rp.int_inv ru, h1 _ H1 ι1 .refl R1 (.int _)⟩
      | _ => exact h1.elim
    | o n => exact h1.elim⟩

/-! ### arguments, displays -/
def dNil : DA := fun _ S => .ok [] S
def dCons (a : DE) (r : DA) : DA := fun e S => (a e S).bind fun u S1 => (r e S1).bind fun us S2 => .ok (u :: us) S2
theorem av_nil : PAv ec X [] dNil := ⟨fun pn xe Wx tk => pa_nil.imp fun σ H Q ⟨env, S, ι, B, R, E, h⟩ => h [] H ι .refl R .nil⟩
theorem av_cons (ha : PEv ec X e da) (hr : PAv ec X es das) (hs : starEach (e :: es) X.env = (false, eval e X.env) :: starEach es X.env := by rfl) : PAv ec X (e :: es) (dCons da das) :=
  ⟨fun pn xe Wx tk => (pa_cons (ha.run pn xe Wx tk) (hr.run pn xe Wx tk) hs).imp fun σ H Q ⟨env, S, ι, B, R, E, h⟩ => LE.thenA R E h fun u S1 v H1 ι1 G1 R1 E1 ru h1 => LA.thenA R1 E1 h1 fun us S2 vs H2 ι2 G2 R2 E2 rus h2 =>
    h2 _ H2 ι2 .refl R2 (.cons (RU.go G2 ru) rus)⟩
/-- plain values all -/
def allV : List U → Option (List W)
  | [] => some []
  | .v w :: r => (allV r).map (w :: ·)
  | .o _ :: _ => none
theorem allV_rp {F : Fx} {H : Hp} {ι : List Addr} {S : Store} {B : Addr → Prop} : ∀ {us : List U} {vs : List V} {ws : List W}, RUs F H ι S B us vs → allV us = some ws → RpL F H (Oq ι S B) ws vs
  | _, _, _, .nil, h => by cases some_inj h; exact .nil
  | .v w :: us, _, ws, .cons r t, h => by
    obtain ⟨ws', h', rfl⟩ := Option.map_eq_some_iff.mp h
    exact .cons r (allV_rp t h')
  | .o _ :: _, _, _, .cons _ _, h => by cases h
def fDisp (mk : List W → Out) (us : List U) : Option Out := match allV us with
  | some ws => if ws.length ≤ 16777216 then some (mk ws) else none
  | none => none
def dDisp (own : Bool) (mk : List W → Out) (a : DA) : DE := fun e S => (a e S).bind fun us S1 => putO own (fDisp mk us) S1
theorem fDisp_inv {F : Fx} {H : Hp} {ι : List Addr} {S : Store} {B : Addr → Prop} {mk : List W → Out} {us : List U} {vs : List V} {o : Out} (h : fDisp mk us = some o) (r : RUs F H ι S B us vs) : ∃ ws, o = mk ws ∧ RpL F H (Oq ι S B) ws vs ∧ vs.length ≤ sizeLine := by
  unfold fDisp at h
  cases e : allV us with
  | none => rw [e] at h; cases h
  | some ws =>
    rw [e] at h
    simp only at h
    split at h
    · rename_i hl
      cases some_inj h
      have q := allV_rp r e
      exact ⟨ws, rfl, q, by rw [← q.1, sizeLine_is]; exact hl⟩
    · cases h
theorem ev_tup {k} (h : PAv ec X es das) : PEv ec X (.Tuple es k pos) (dDisp false .nt das) :=
  ⟨fun pn xe Wx tk => (pe_tupX (h.run pn xe Wx tk)).imp fun σ H Q ⟨env, S, ι, B, R, E, h⟩ => LA.then_ R E h fun us S1 vs H1 ι1 G1 R1 E1 rus h1 => by
    obtain ⟨o, e, q⟩ := putO_ok R1 h1
    obtain ⟨ws, rfl, r, hl⟩ := fDisp_inv e rus
    exact ⟨hl, q.2 vs r⟩⟩
theorem ev_lst {own : Bool} (h : PAv ec X es das) : PEv ec X (.List es pos) (dDisp own .nl das) :=
  ⟨fun pn xe Wx tk => (pe_lst (h.run pn xe Wx tk)).imp fun σ H Q ⟨env, S, ι, B, R, E, h⟩ => LA.then_ R E h fun us S1 vs H1 ι1 G1 R1 E1 rus h1 => by
    obtain ⟨o, e, q⟩ := putO_ok R1 h1
    obtain ⟨ws, rfl, r, hl⟩ := fDisp_inv e rus
    exact ⟨hl, fun p hp => q p vs hp r⟩⟩
theorem ev_dnew {own : Bool} : PEv ec X (.Dict [] [] pos) (fun _ S => (Out.nd []).put own S) :=
  ⟨fun pn xe Wx tk => pe_dnewK.imp fun σ H Q ⟨env, S, ι, B, R, E, h⟩ p hp => put_ok R h p [] hp .nil⟩

/-! ### items, slices -/
theorem ev_ix (hu : X.A.units + 65 < cLine) (ha : PEv ec X a da) (hb : PEv ec X b db) (hs : PlainIx b := by exact fun _ _ => rfl) : PEv ec X (.Subscript a b pos) (dBin false fIx da db) :=
  ⟨fun pn xe Wx tk => (pe_ix (ix_W (ec := ec) (X := X.tr pn xe) (by show X.A.units + 1 < cLine; omega)) (ha.run pn xe Wx tk) (hb.run pn xe Wx tk) hs).imp fun σ H Q h => bin_reads ow_ix h⟩
/-- a part of a slice -/
abbrev DO := Env' → Store → Re (Option Int)
def dNoPart : DO := fun _ S => .ok none S
def dPart (d : DE) : DO := fun e S => (d e S).bind fun u S1 => match u with
  | .v (.int i) => .ok (some i) S1
  | _ => .no
def PoO (F : Fx) (Wx : WX) (σ : L2.St) (ι : List Addr) (S : Store) (B : Addr → Prop) (H : Hp) (r : Re (Option Int)) (Q : Option Int → Hp → Prop) : Prop := match r with
  | .ok b S' => ∀ H' ι', Go ι S H ι' S' H' → RS F ι' S' B H' → Q b H'
  | .ex c S' => ∀ H' ι', Go ι S H ι' S' H' → RS F ι' S' B H' → Wx (F.ec c) none σ H'
  | .no => False
def LO (F : Fx) (Wx : WX) (d : DO) : TO := fun σ H Q => ∃ (env : Env') (S : Store) (ι : List Addr) (B : Addr → Prop), RS F ι S B H ∧ ER F H ι S B env σ ∧ PoO F Wx σ ι S B H (d env S) Q
theorem _root_.L2.PO.imp {e : Option Expr} {t t' : TO} (h : PO X e t) (hh : ∀ σ H Q, t' σ H Q → t σ H Q) : PO X e t' := ⟨fun pins s σ H Q I q => h.run pins s σ H Q I (hh σ H Q q)⟩
structure POv (ec : Nat → Value) (X : Cx) (e : Option Expr) (d : DO) : Prop where
  run : ∀ (pn : List (Addr × Obj)) (xe : Value → Shared → Prop) (Wx : WX), Takes (X.tr pn xe) Wx → PO (X.tr pn xe) e (LO (fx ec X) Wx d)
theorem ov_none : POv ec X none dNoPart := ⟨fun pn xe Wx tk => po_none.imp fun σ H Q ⟨env, S, ι, B, R, E, h⟩ => h H ι .refl R⟩
theorem ov_some (h : PEv ec X e da) : POv ec X (some e) (dPart da) :=
  ⟨fun pn xe Wx tk => (po_some (h.run pn xe Wx tk)).imp fun σ H Q ⟨env, S, ι, B, R, E, h⟩ => by
    refine ⟨env, S, ι, B, R, E, ?_⟩
    unfold dPart at h
    cases ee : da env S with
    | ok u S1 =>
      rw [ee] at h
      intro v H1 ι1 G1 R1 r1
      cases u with
      | v w =>
        cases w with
        | int i => exact ⟨i, Rp.int_inv r1, h H1 ι1 G1 R1⟩
        | _ => exact h.elim
      | o n => exact h.elim
    | ex c S1 => rw [ee] at h; exact h
    | no => rw [ee] at h; exact h⟩
def dSl (own : Bool) (a : DE) (lo hi : DO) : DE := fun e S => (a e S).bind fun u S1 => (lo e S1).bind fun l S2 => (hi e S2).bind fun h S3 => match dr S3 u with
  | some w => putO own (fSl w l h) S3
  | none => .no
theorem LO.then_ {F : Fx} {Wx : WX} {σ : L2.St} {H : Hp} {ι : List Addr} {S : Store} {B : Addr → Prop} {env : Env'} {Q : VK} (R : RS F ι S B H) (E : ER F H ι S B env σ) {a : DO} {g : Option Int → Store → Re U} (h : PoE F Wx σ ι S B H ((a env S).bind g) Q)
    {Q1 : Option Int → Hp → Prop} (k : ∀ u S1 H1 ι1, Go ι S H ι1 S1 H1 → RS F ι1 S1 B H1 → ER F H1 ι1 S1 B env σ → PoE F Wx σ ι1 S1 B H1 (g u S1) Q → Q1 u H1) : LO F Wx a σ H Q1 := by
  refine ⟨env, S, ι, B, R, E, ?_⟩
  cases e : a env S with
  | ok u S1 =>
    rw [e] at h
    exact fun H1 ι1 G R1 => k u S1 H1 ι1 G R1 (E.go G) (h.go G)
  | ex c S1 => rw [e] at h; exact h
  | no => rw [e] at h; exact h
theorem ev_sl {own : Bool} {lo hi : Option Expr} {dl dh : DO} {p2 : Pos} (ha : PEv ec X a da) (hl : POv ec X lo dl) (hh : POv ec X hi dh) : PEv ec X (.Subscript a (.Slice lo hi none p2) pos) (dSl own da dl dh) :=
  ⟨fun pn xe Wx tk => (pe_slice sl_W (ha.run pn xe Wx tk) (hl.run pn xe Wx tk) (hh.run pn xe Wx tk)).imp fun σ H Q ⟨env, S, ι, B, R, E, h⟩ => LE.then_ R E h fun u S1 x H1 ι1 G1 R1 E1 ru h1 =>
    LO.then_ R1 E1 h1 fun l S2 H2 ι2 G2 R2 E2 h2 => LO.then_ R2 E2 h2 fun u' S3 H3 ι3 G3 R3 E3 h3 => by
      have ru3 := RU.go G3 (RU.go G2 ru)
      cases ee : dr S3 u with
      | none => simp only [ee] at h3; exact h3.elim
      | some w =>
        simp only [ee] at h3
        obtain ⟨o, he, q⟩ := putO_ok R3 h3
        exact sl_core (RU.rt R3 ru3 ee) he q⟩

/-! ### calls of what is built in -/
def drs (S : Store) : List U → Option (List W)
  | [] => some []
  | u :: r => match dr S u, drs S r with
    | some w, some ws => some (w :: ws)
    | _, _ => none
abbrev RTs (F : Fx) (H : Hp) (O : Addr → Prop) : List W → List V → Prop := Paired (RT F H O)
theorem drs_rt {F : Fx} {H : Hp} {ι : List Addr} {S : Store} {B : Addr → Prop} (R : RS F ι S B H) : ∀ {us : List U} {vs : List V} {ws : List W}, RUs F H ι S B us vs → drs S us = some ws → RTs F H (Oq ι S B) ws vs
  | _, _, _, .nil, h => by cases some_inj h; exact .nil
  | u :: us, _, ws, .cons r t, h => by
    unfold drs at h
    cases e : dr S u with
    | none => simp [e] at h
    | some w =>
      cases e2 : drs S us with
      | none => simp [e, e2] at h
      | some ws' =>
        simp [e, e2] at h
        subst h
        exact .cons (RU.rt R r e) (drs_rt R t e2)
def OpC (F : Fx) (f : List W → Option Out) (r : List V → Hp → VK → Prop) : Prop := ∀ (H : Hp) (O : Addr → Prop) (xs : List V) (ws : List W) (o : Out) (Q : VK), RTs F H O ws xs → f ws = some o → PuQ F H O o Q → r xs H Q
def dCall (own : Bool) (f : List W → Option Out) (a : DA) : DE := fun e S => (a e S).bind fun us S1 => match drs S1 us with
  | some ws => putO own (f ws) S1
  | none => .no
theorem call_reads {own : Bool} {F : Fx} {Wx : WX} {σ : L2.St} {H : Hp} {f : List W → Option Out} {r : List V → Hp → VK → Prop} {Q : VK} (hf : OpC F f r) (h : LE F Wx (dCall own f das) σ H Q) : tCB r (LA F Wx das) σ H Q := by
  obtain ⟨env, S, ι, B, R, E, h⟩ := h
  refine LA.then_ R E h fun us S1 xs H1 ι1 G1 R1 E1 ru h1 => ?_
  cases e1 : drs S1 us with
  | none => simp only [e1] at h1; exact h1.elim
  | some ws =>
    simp only [e1] at h1
    obtain ⟨o, he, q⟩ := putO_ok R1 h1
    exact hf H1 _ xs ws o Q (drs_rt R1 ru e1) he q
theorem ev_callB {own : Bool} {id : String} {x : Str} {f : List W → Option Out} {r : List V → Hp → VK → Prop} {p : Pos} (hc : ∀ pn xe, CallR (X.tr pn xe) (.builtin id) r) (hf : OpC (fx ec X) f r) (hg : Gl X x) (hm : X.mg x = none) (hv : bootBuiltins x = some (.builtin id)) (ha : PAv ec X (e :: es) das)
    (hn : x ≠ "__name__" := by decide) (hdb : (x == ("__debug__" : Str)) = false := by decide) (he : starEach (e :: es) X.env = (false, eval e X.env) :: starEach es X.env := by rfl) (hpl : (backTo pos (starEach es X.env)).any (·.1) = false := by rfl) : PEv ec X (.Call (.Name x p) (e :: es) [] pos) (dCall own f das) :=
  ⟨fun pn xe Wx tk => (pe_callB (X := X.tr pn xe) (hc pn xe) hg hm hv (ha.run pn xe Wx tk) hn hdb he hpl).imp fun σ H Q h => call_reads hf h⟩
theorem ev_callTy {own : Bool} {T : String} {x : Str} {f : List W → Option Out} {r : List V → Hp → VK → Prop} {p : Pos} (hc : ∀ pn xe, CallR (X.tr pn xe) (.type T) r) (hf : OpC (fx ec X) f r) (hg : Gl X x) (hm : X.mg x = none) (hv : bootBuiltins x = some (.type T)) (ha : PAv ec X (e :: es) das)
    (hn : x ≠ "__name__" := by decide) (hdb : (x == ("__debug__" : Str)) = false := by decide) (he : starEach (e :: es) X.env = (false, eval e X.env) :: starEach es X.env := by rfl) (hpl : (backTo pos (starEach es X.env)).any (·.1) = false := by rfl) : PEv ec X (.Call (.Name x p) (e :: es) [] pos) (dCall own f das) :=
  ⟨fun pn xe Wx tk => (pe_callTy (X := X.tr pn xe) (hc pn xe) hg hm hv (ha.run pn xe Wx tk) hn hdb he hpl).imp fun σ H Q h => call_reads hf h⟩
end
end Bel

/-! The engine, seventh part: what is built in. -/
namespace Bel
open PySem PySem.Spec PyProof.Rows L2

/-! ### the type of a plain value -/
def tyn : W → String
  | .non => "NoneType"
  | .bl _ => "bool"
  | .int _ => "int"
  | .str _ => "str"
  | .tup _ => "tuple"
  | .lst _ => "list"
  | .dct _ => "dict"
  | .exc _ => ""
  | .tdc _ => ""
  | .kdc _ => "dict"
def isStr : W → Bool
  | .str _ => true
  | _ => false
def isInt : W → Bool
  | .int _ => true
  | .bl _ => true
  | _ => false
def isBl : W → Bool
  | .bl _ => true
  | _ => false
def isTup : W → Bool
  | .tup _ => true
  | _ => false
def isLst : W → Bool
  | .lst _ => true
  | _ => false
def isDct : W → Bool
  | .dct _ => true
  | .kdc _ => true
  | _ => false
def isExc : W → Bool
  | .exc _ => true
  | .tdc _ => true
  | _ => false
/-- p is what isinstance(.., T) tells -/
def IsT (T : String) (p : W → Bool) : Prop := ∀ w, isExc w = false → kitB (tyn w) T = some (p w)
theorem ist_str : IsT "str" isStr := by
  intro w h
  cases w <;> first | (simp only [tyn, isStr]; decide +kernel) | (simp [isExc] at h; done)
theorem ist_int : IsT "int" isInt := by
  intro w h
  cases w <;> first | (simp only [tyn, isInt]; decide +kernel) | (simp [isExc] at h; done)
theorem ist_bool : IsT "bool" isBl := by
  intro w h
  cases w <;> first | (simp only [tyn, isBl]; decide +kernel) | (simp [isExc] at h; done)
theorem ist_tuple : IsT "tuple" isTup := by
  intro w h
  cases w <;> first | (simp only [tyn, isTup]; decide +kernel) | (simp [isExc] at h; done)
theorem ist_list : IsT "list" isLst := by
  intro w h
  cases w <;> first | (simp only [tyn, isLst]; decide +kernel) | (simp [isExc] at h; done)
theorem ist_dict : IsT "dict" isDct := by
  intro w h
  cases w <;> first | (simp only [tyn, isDct]; decide +kernel) | (simp [isExc] at h; done)
section
variable {F : Fx} {H : Hp} {O : Addr → Prop}
theorem rt_tyx {w : W} {v : V} (h : isExc w = false) (r : RT F H O w v) : TyX F.K H v (.type (tyn w)) := by
  cases w with
  | non => rw [Rp.non_inv r]; exact .base .non
  | bl b => rw [Rp.bl_inv r]; exact .base (.bl _)
  | int b => rw [Rp.int_inv r]; exact .base (.int _)
  | str b => rw [(Rp.str_inv r).1]; exact .base (.str _)
  | tup b =>
    obtain ⟨a, vs, rfl, h1, _⟩ := Rp.tup_inv r
    rcases h1 with ⟨⟨o, h1, _⟩, _⟩ | ⟨o, its, n, h1, h2, _⟩
    · exact .fTuple h1
    · exact .kTuple h1 h2
  | lst b =>
    obtain ⟨a, vs, rfl, h1 | ⟨o, h1⟩, _⟩ := r
    · exact .base (.lst h1)
    · exact .base (.frz h1)
  | dct b =>
    obtain ⟨a, vs, rfl, h1 | ⟨o, h1⟩, _⟩ := r
    · exact .base (.dK h1)
    · exact .fDict h1
  | exc b => simp [isExc] at h
  | tdc b => simp [isExc] at h
  | kdc b =>
    have r' : Rp F H O (.kdc b) v := r
    cases r' with
    | kdc h1 _ _ _ =>
      obtain ⟨⟨es, n, h1, _⟩, _⟩ := h1
      exact .kDict h1 rfl
end
section
variable {ec : Nat → Value} {X : Cx} {e a b c o : Expr} {es rest : List Expr} {pos p p2 apos cpos : Pos} {da db dc dd : DE} {das : DA}
/-- isinstance(e, T) -/
def dIsT (q : W → Bool) (a : DE) : DE := fun e S => (a e S).bind fun u S1 => match dr S1 u with
  | some w => if isExc w = true then .no else .ok (.v (.bl (q w))) S1
  | none => .no
theorem ev_isT {T : String} {t : Str} {q : W → Bool} (hq : IsT T q) (ha : PEv ec X a da) (hg : Gl X "isinstance") (hm : X.mg "isinstance" = none) (hgT : Gl X t) (hmT : X.mg t = none) (hvT : bootBuiltins t = some (.type T))
    (hn : t ≠ "__name__" := by decide) (hdb : (t == ("__debug__" : Str)) = false := by decide)
    (h1 : starEach [a, .Name t p2] X.env = (false, eval a X.env) :: starEach [.Name t p2] X.env := by rfl) (h2 : starEach [.Name t p2] X.env = (false, eval (.Name t p2) X.env) :: starEach [] X.env := by rfl)
    (hpl : (backTo pos (starEach [.Name t p2] X.env)).any (·.1) = false := by rfl) : PEv ec X (.Call (.Name "isinstance" p) [a, .Name t p2] [] pos) (dIsT q da) :=
  ⟨fun pn xe Wx tk => (pe_callB (X := X.tr pn xe) call_isi hg hm boot_isinstance (pa_cons (ha.run pn xe Wx tk) (pa_cons (pe_bltn (X := X.tr pn xe) (v := .ty T) hgT hmT hvT rfl hn hdb) pa_nil h2) h1) (by decide) (by decide) h1 hpl).imp
    fun σ H Q ⟨env, S, ι, B, R, E, h⟩ => LE.then_ R E h fun u S1 v H1 ι1 G1 R1 E1 ru h1 => by
      show ∃ (x c : V) (t u : Value) (b : Bool), [v, V.ty T] = [x, c] ∧ ClsV c u ∧ TyX _ H1 x t ∧ PySem.W.kitOne _ t u = some b ∧ Q (.bl b) H1
      cases e1 : dr S1 u with
      | none => simp only [e1] at h1; exact h1.elim
      | some w =>
        simp only [e1] at h1
        split at h1
        · exact h1.elim
        · rename_i hx
          have hx' : isExc w = false := by simpa using hx
          exact ⟨v, .ty T, _, _, _, rfl, .ty T, rt_tyx hx' (RU.rt R1 ru e1), kit_ty (hq w hx'), h1 _ H1 ι1 .refl R1 (.bl _)⟩⟩

/-! ### functions that are built in -/
def fAbs : List W → Option Out
  | [.int i] => some (.val (.int (if i < 0 then -i else i)))
  | _ => none
def fLen : List W → Option Out
  | [.str x] => some (.val (.int x.length))
  | [.lst l] => some (.val (.int l.length))
  | [.tup l] => some (.val (.int l.length))
  | [.dct l] => some (.val (.int l.length))
  | _ => none
def fMin2 : List W → Option Out
  | [.int i, .int j] => some (.val (.int (if j < i then j else i)))
  | _ => none
def fMax2 : List W → Option Out
  | [.int i, .int j] => some (.val (.int (if j > i then j else i)))
  | _ => none
def bools : List W → Option (List Bool)
  | [] => some []
  | .bl b :: r => (bools r).map (b :: ·)
  | _ :: _ => none
def fAll : List W → Option Out
  | [.lst l] => (bools l).map fun bs => .val (.bl (bs.all id))
  | _ => none
def fAny : List W → Option Out
  | [.lst l] => (bools l).map fun bs => .val (.bl (bs.any id))
  | _ => none
def b2n (b : Bool) : Int := if b = true then 1 else 0
def fInt : List W → Option Out
  | [.int i] => some (.val (.int i))
  | [.bl b] => some (.val (.int (b2n b)))
  | _ => none
def fList : List W → Option Out
  | [.lst l] => some (.nl l)
  | [.tup l] => some (.nl l)
  | [.dct l] => some (.nl (l.map (·.1)))
  | _ => none
def fTuple : List W → Option Out
  | [.lst l] => some (.nt l)
  | [.tup l] => some (.nt l)
  | _ => none
section
variable {F : Fx} {H : Hp} {O : Addr → Prop}
theorem oc1 {f : List W → Option Out} {r : List V → Hp → VK → Prop} (h1 : ∀ ws o, f ws = some o → ∃ w, ws = [w]) (h2 : ∀ (H : Hp) (O : Addr → Prop) (x : V) (w : W) (o : Out) (Q : VK), RT F H O w x → f [w] = some o → PuQ F H O o Q → r [x] H Q) : OpC F f r := by
  intro H O xs ws o Q rs e q
  obtain ⟨w, rfl⟩ := h1 ws o e
  cases rs with
  | cons r1 r2 =>
    cases r2
    exact h2 H O _ w o Q r1 e q
theorem oc_abs : OpC F fAbs (fun xs H Q => ∃ i, xs = [.int i] ∧ Q (.int (if i < 0 then -i else i)) H) := by
  refine oc1 (fun ws o e => ?_) fun H O x w o Q r e q => ?_
  · unfold fAbs at e
    split at e
    · exact ⟨_, rfl⟩
    · cases e
  · cases w with
    | int i =>
      cases some_inj e
      obtain rfl := Rp.int_inv r
      exact ⟨i, rfl, q _ (.int _)⟩
    | _ => cases e
def rLenW (K : PySem.W.Frag) : List V → Hp → VK → Prop := fun xs H Q => (∃ x n, xs = [x] ∧ LenV K x H n ∧ Q (.int n) H) ∨ ∃ a kvs, xs = [V.ref a] ∧ Rd H a (.dK kvs) ∧ Q (.int kvs.length) H
theorem call_lenR {X : Cx} : CallR X (.builtin "len") (fun xs H Q => ∃ a kvs, xs = [V.ref a] ∧ Rd H a (.dK kvs) ∧ Q (.int kvs.length) H) := by
  intro pins s σ H xs us Q I r h
  obtain ⟨a, kvs, rfl, hd, q⟩ := h
  obtain ⟨u, rfl, rx⟩ := vals1 r
  cases rx
  exact d_len I hd fun t s' I' => ⟨.int _, H, I', ⟨t, rfl⟩, q⟩
theorem call_lenW {X : Cx} : CallR X (.builtin "len") (rLenW X.K) := call_len.or call_lenR
theorem oc_len : OpC F fLen (rLenW F.K) := by
  refine oc1 (fun ws o e => ?_) fun H O x w o Q r e q => ?_
  · unfold fLen at e
    split at e <;> first | exact ⟨_, rfl⟩ | cases e
  · cases w with
    | str l =>
      cases some_inj e
      obtain ⟨rfl, h1, h2⟩ := Rp.str_inv r
      refine .inl ⟨_, l.length, rfl, ⟨by rw [str_len]; exact h1, by rw [str_len]⟩, q _ (.int _)⟩
    | lst l =>
      cases some_inj e
      obtain ⟨a, vs, rfl, h1, q1⟩ := r
      exact .inl ⟨_, l.length, rfl, .inl ⟨vs, .inl h1, q1.1⟩, q _ (.int _)⟩
    | tup l =>
      cases some_inj e
      obtain ⟨a, vs, rfl, h1, q1⟩ := Rp.tup_inv r
      exact .inl ⟨_, l.length, rfl, .inr ⟨vs, h1.sq, q1.1⟩, q _ (.int _)⟩
    | dct l =>
      cases some_inj e
      obtain ⟨a, kvs, rfl, h1, q1⟩ := r
      exact .inr ⟨a, kvs, rfl, h1, by rw [← q1.1]; exact q _ (.int _)⟩
    | _ => cases e
theorem oc_min2 : OpC F fMin2 (fun xs H Q => ∃ i j, xs = [.int i, .int j] ∧ Q (.int (if j < i then j else i)) H) := by
  intro H O xs ws o Q rs e q
  unfold fMin2 at e
  split at e
  · cases some_inj e
    cases rs with
    | cons r1 r2 =>
      cases r2 with
      | cons r2 r3 =>
        cases r3
        obtain rfl := Rp.int_inv r1
        obtain rfl := Rp.int_inv r2
        exact ⟨_, _, rfl, q _ (.int _)⟩
  · cases e
theorem oc_max2 : OpC F fMax2 (fun xs H Q => ∃ i j, xs = [.int i, .int j] ∧ Q (.int (if j > i then j else i)) H) := by
  intro H O xs ws o Q rs e q
  unfold fMax2 at e
  split at e
  · cases some_inj e
    cases rs with
    | cons r1 r2 =>
      cases r2 with
      | cons r2 r3 =>
        cases r3
        obtain rfl := Rp.int_inv r1
        obtain rfl := Rp.int_inv r2
        exact ⟨_, _, rfl, q _ (.int _)⟩
  · cases e
theorem bools_rp : ∀ {ws : List W} {vs : List V} {bs : List Bool}, RpL F H O ws vs → bools ws = some bs → vs = bs.map V.bl
  | [], vs, bs, r, h => by rw [r.nil_iff]; cases some_inj h; rfl
  | w :: ws, vs, bs, r, h => by
    obtain ⟨v, vs', rfl, h1, r'⟩ := r.cons_iff
    cases w with
    | bl b =>
      obtain ⟨bs', h', rfl⟩ := Option.map_eq_some_iff.mp h
      rw [Rp.bl_inv h1, bools_rp r' h']
      rfl
    | _ => cases h
theorem oc_all : OpC F fAll (rAll F.K) := by
  refine oc1 (fun ws o e => ?_) fun H O x w o Q r e q => ?_
  · unfold fAll at e
    split at e <;> first | exact ⟨_, rfl⟩ | cases e
  · cases w with
    | lst l =>
      obtain ⟨bs, h', rfl⟩ := Option.map_eq_some_iff.mp e
      obtain ⟨a, vs, rfl, h1, q1⟩ := r
      have := bools_rp q1 h'
      subst this
      exact ⟨a, bs, rfl, .inl h1, q _ (.bl _)⟩
    | _ => cases e
theorem oc_any : OpC F fAny (rAny F.K) := by
  refine oc1 (fun ws o e => ?_) fun H O x w o Q r e q => ?_
  · unfold fAny at e
    split at e <;> first | exact ⟨_, rfl⟩ | cases e
  · cases w with
    | lst l =>
      obtain ⟨bs, h', rfl⟩ := Option.map_eq_some_iff.mp e
      obtain ⟨a, vs, rfl, h1, q1⟩ := r
      have := bools_rp q1 h'
      subst this
      exact ⟨a, bs, rfl, .inl h1, q _ (.bl _)⟩
    | _ => cases e
theorem oc_int : OpC F fInt (fun xs H Q => (∃ i, xs = [.int i] ∧ Q (.int i) H) ∨ ∃ k, xs = [.bl k] ∧ Q (.int (if k then 1 else 0)) H) := by
  refine oc1 (fun ws o e => ?_) fun H O x w o Q r e q => ?_
  · unfold fInt at e
    split at e <;> first | exact ⟨_, rfl⟩ | cases e
  · cases w with
    | int i =>
      cases some_inj e
      obtain rfl := Rp.int_inv r
      exact .inl ⟨i, rfl, q _ (.int _)⟩
    | bl i =>
      cases some_inj e
      obtain rfl := Rp.bl_inv r
      exact .inr ⟨i, rfl, q _ (.int _)⟩
    | _ => cases e
theorem keys_rp {ws : List (W × W)} {kvs : List (Key × V)} (r : RpD F H O ws kvs) : RpL F H O (ws.map (·.1)) (kvs.map fun kv => kV kv.1) := by
  induction ws generalizing kvs with
  | nil => rw [r.nil_iff]; exact .nil
  | cons p ws ih =>
    obtain ⟨κ', v, kvs', rfl, h1, h2, r'⟩ := r.cons_iff
    exact .cons h1 (ih r')
def rListW (K : PySem.W.Frag) : List V → Hp → VK → Prop := fun xs H Q => (∃ p ys, xs = [.ref p] ∧ (SqL K H p ys ∨ SqT K H p ys) ∧ ∀ l, H l = none → Q (.ref l) (upd H l (.lst ys))) ∨
  ∃ (a : Addr) (kvs : List (Key × V)), xs = [.ref a] ∧ Rd H a (.dK kvs) ∧ ∀ p, H p = none → Q (.ref p) (upd H p (.lst (kvs.map fun kv => kV kv.1)))
theorem call_listW {X : Cx} (hc : X.calm = true) : CallR X (.type "list") (rListW X.K) := call_list_of.or (call_listD hc)
theorem oc_list : OpC F fList (rListW F.K) := by
  refine oc1 (fun ws o e => ?_) fun H O x w o Q r e q => ?_
  · unfold fList at e
    split at e <;> first | exact ⟨_, rfl⟩ | cases e
  · cases w with
    | lst l =>
      cases some_inj e
      obtain ⟨a, vs, rfl, h1, q1⟩ := r
      exact .inl ⟨a, vs, rfl, .inl (.inl h1), fun p hp => q p vs hp q1⟩
    | tup l =>
      cases some_inj e
      obtain ⟨a, vs, rfl, h1, q1⟩ := Rp.tup_inv r
      exact .inl ⟨a, vs, rfl, .inr h1.sq, fun p hp => q p vs hp q1⟩
    | dct l =>
      cases some_inj e
      obtain ⟨a, kvs, rfl, h1, q1⟩ := r
      exact .inr ⟨a, kvs, rfl, h1, fun p hp => q p _ hp (keys_rp q1)⟩
    | _ => cases e
theorem oc_tuple : OpC F fTuple (rTupX F.K) := by
  refine oc1 (fun ws o e => ?_) fun H O x w o Q r e q => ?_
  · unfold fTuple at e
    split at e <;> first | exact ⟨_, rfl⟩ | cases e
  · cases w with
    | lst l =>
      cases some_inj e
      obtain ⟨a, vs, rfl, h1, q1⟩ := r
      exact ⟨a, vs, rfl, .inl ⟨.inl h1, q.2 vs q1⟩⟩
    | tup l =>
      cases some_inj e
      obtain ⟨a, vs, rfl, h1, q1⟩ := Rp.tup_inv r
      exact ⟨a, vs, rfl, .inr ⟨h1.sq, q.1 _ r⟩⟩
    | _ => cases e
end

/-! ### methods that change nothing -/
def OpM (F : Fx) (f : W → List W → Option Out) (r : V → List V → Hp → VK → Prop) : Prop := ∀ (H : Hp) (O : Addr → Prop) (x : V) (xs : List V) (w : W) (ws : List W) (o : Out) (Q : VK), RT F H O w x → RTs F H O ws xs → f w ws = some o → PuQ F H O o Q → r x xs H Q
def TyM (F : Fx) (T : String) (q : W → Bool) : Prop := ∀ (H : Hp) (O : Addr → Prop) (w : W) (x : V), q w = true → RT F H O w x → tyV F.K T x H
def dMeth (own : Bool) (q : W → Bool) (f : W → List W → Option Out) (o : DE) (a : DA) : DE := fun e S => (o e S).bind fun u S1 => match dr S1 u with
  | some w => if q w = true then (a e S1).bind fun us S2 => match dr S2 u, drs S2 us with
      | some w', some ws => putO own (f w' ws) S2
      | _, _ => .no
    else .no
  | none => .no
theorem meth_reads {own : Bool} {T : String} {q : W → Bool} {F : Fx} {Wx : WX} {σ : L2.St} {H : Hp} {f : W → List W → Option Out} {r : V → List V → Hp → VK → Prop} {Q : VK} (hq : TyM F T q) (hf : OpM F f r) (h : LE F Wx (dMeth own q f da das) σ H Q) : tBM F.K T r (LE F Wx da) (LA F Wx das) σ H Q := by
  obtain ⟨env, S, ι, B, R, E, h⟩ := h
  refine LE.then_ R E h fun u S1 x H1 ι1 G1 R1 E1 ru h1 => ?_
  cases e1 : dr S1 u with
  | none => simp only [e1] at h1; exact h1.elim
  | some w =>
    simp only [e1] at h1
    split at h1
    · rename_i hw
      refine ⟨hq _ _ _ _ hw (RU.rt R1 ru e1), LA.then_ R1 E1 h1 fun us S2 xs H2 ι2 G2 R2 E2 rus h2 => ?_⟩
      cases e2 : dr S2 u with
      | none => simp only [e2] at h2; exact h2.elim
      | some w' =>
        cases e3 : drs S2 us with
        | none => simp only [e2, e3] at h2; exact h2.elim
        | some ws =>
          simp only [e2, e3] at h2
          obtain ⟨o, he, q⟩ := putO_ok R2 h2
          exact hf H2 _ x xs w' ws o Q (RU.rt R2 (RU.go G2 ru) e2) (drs_rt R2 rus e3) he q
    · exact h1.elim
theorem ev_meth {own : Bool} {T id : String} {name : Str} {q : W → Bool} {f : W → List W → Option Out} {r : V → List V → Hp → VK → Prop} (pa : PlainAttrs T) (slot : Slot T name id) (hty : typeOf (.builtin id) = pure (.type "method_descriptor")) (hm : ∀ pn xe, MtR (X.tr pn xe) id r)
    (hq : TyM (fx ec X) T q) (hf : OpM (fx ec X) f r) (ho : PEv ec X o da) (ha : PAv ec X (e :: es) das)
    (hbase : attributeBase o name X.env (eval o X.env) = eval o X.env := by rfl)
    (hfew : ((backTo cpos (starEach (e :: es) X.env)).all (fun x => !x.1) && (backToKw cpos (keywordEach [] X.env)).all (fun x => x.1.isSome)
      && decide ((e :: es).length + ([] : List Keyword).length + (if ([] : List Keyword).isEmpty then 0 else 1) < 30)) = true := by rfl)
    (hline : (apos.endLine == cpos.line) = true := by rfl) (hs : starEach (e :: es) X.env = (false, eval e X.env) :: starEach es X.env := by rfl) (hplain : (backTo cpos (starEach es X.env)).any (·.1) = false := by rfl) :
    PEv ec X (.Call (.Attribute o name apos) (e :: es) [] cpos) (dMeth own q f da das) :=
  ⟨fun pn xe Wx tk => (pe_bm (X := X.tr pn xe) pa slot hty (hm pn xe) (ho.run pn xe Wx tk) (ha.run pn xe Wx tk) hbase hfew hline hs hplain).imp fun σ H Q h => meth_reads hq hf h⟩
theorem ev_meth0 {own : Bool} {T id : String} {name : Str} {q : W → Bool} {f : W → List W → Option Out} {r : V → List V → Hp → VK → Prop} (pa : PlainAttrs T) (slot : Slot T name id) (hty : typeOf (.builtin id) = pure (.type "method_descriptor")) (hm : ∀ pn xe, MtR (X.tr pn xe) id r)
    (hq : TyM (fx ec X) T q) (hf : OpM (fx ec X) f r) (ho : PEv ec X o da)
    (hbase : attributeBase o name X.env (eval o X.env) = eval o X.env := by rfl) (hline : (apos.endLine == cpos.line) = true := by rfl) :
    PEv ec X (.Call (.Attribute o name apos) [] [] cpos) (dMeth own q f da dNil) :=
  ⟨fun pn xe Wx tk => (pe_bm0 (X := X.tr pn xe) pa slot hty (hm pn xe) (ho.run pn xe Wx tk) hbase hline).imp fun σ H Q h => by
    obtain ⟨env, S, ι, B, R, E, h⟩ := h
    refine LE.then_ R E h fun u S1 x H1 ι1 G1 R1 E1 ru h1 => ?_
    cases e1 : dr S1 u with
    | none => simp only [e1] at h1; exact h1.elim
    | some w =>
      simp only [e1] at h1
      split at h1
      · rename_i hw
        refine ⟨hq _ _ _ _ hw (RU.rt R1 ru e1), ?_⟩
        simp only [dNil, Re.bind_ok, e1, drs] at h1
        obtain ⟨o, he, q⟩ := putO_ok R1 h1
        exact hf H1 _ x [] w [] o Q (RU.rt R1 ru e1) .nil he q
      · exact h1.elim⟩
def txts : List W → Option (List (List Nat))
  | [] => some []
  | .str x :: r => (txts r).map (x :: ·)
  | _ :: _ => none
section
variable {F : Fx} {H : Hp} {O : Addr → Prop}
theorem tym_str : TyM F "str" isStr := by
  intro H O w x h r
  cases w <;> first | (simp [isStr] at h; done) | skip
  rw [(Rp.str_inv r).1]
  rfl
theorem tym_lst : TyM F "list" isLst := by
  intro H O w x h r
  cases w <;> first | (simp [isLst] at h; done) | skip
  obtain ⟨a, vs, rfl, h1, _⟩ := r
  exact .inl ⟨rfl, vs, .inl h1⟩
abbrev mkS (x : List Nat) : Str := ⟨x.toArray⟩
theorem txts_rp : ∀ {ws : List W} {vs : List V} {bs : List (List Nat)}, RpL F H O ws vs → txts ws = some bs → vs = (bs.map mkS).map V.str ∧ ∀ b ∈ bs, b.length ≤ sizeLine ∧ b.all okCp = true
  | [], vs, bs, r, h => by rw [r.nil_iff]; cases some_inj h; exact ⟨rfl, fun _ z => nomatch z⟩
  | w :: ws, vs, bs, r, h => by
    obtain ⟨v, vs', rfl, h1, r'⟩ := r.cons_iff
    cases w with
    | str b =>
      obtain ⟨bs', h', rfl⟩ := Option.map_eq_some_iff.mp h
      obtain ⟨e, h2, h3⟩ := Rp.str_inv h1
      obtain ⟨e2, h4⟩ := txts_rp r' h'
      subst e e2
      refine ⟨rfl, fun c hc => ?_⟩
      rcases List.mem_cons.mp hc with rfl | hc
      · exact ⟨h2, h3⟩
      · exact h4 c hc
    | _ => cases h
theorem joinL_all {S : List Nat} (hS : S.all okCp = true) : ∀ {ps : List (List Nat)}, (∀ b ∈ ps, b.all okCp = true) → (TL.joinL S ps).all okCp = true
  | [], _ => rfl
  | [x], h => h x List.mem_cons_self
  | x :: y :: r, h => by
    have ih := joinL_all hS (ps := y :: r) fun b hb => h b (List.mem_cons_of_mem _ hb)
    show (x ++ (S ++ TL.joinL S (y :: r))).all okCp = true
    rw [← List.append_assoc]
    exact all_ok_append (all_ok_append (h x List.mem_cons_self) hS) ih
theorem joinL_len {S : List Nat} : ∀ ps : List (List Nat), (TL.joinL S ps).length ≤ (ps.map List.length).sum + ps.length * S.length
  | [] => by simp [TL.joinL]
  | [x] => by simp [TL.joinL]
  | x :: y :: r => by
    have ih := joinL_len (S := S) (y :: r)
    show (x ++ (S ++ TL.joinL S (y :: r))).length ≤ _
    rw [List.length_append, List.length_append]
    simp only [List.map_cons, List.sum_cons, List.length_cons] at ih ⊢
    rw [Nat.add_mul (r.length + 1) 1]
    omega
def fJoin : W → List W → Option Out
  | .str s, [.lst l] => match txts l with
    | some ps => if (ps.map List.length).sum + ps.length * s.length ≤ 16777216 then some (.val (.str (TL.joinL s ps))) else none
    | none => none
  | _, _ => none
theorem om_join : OpM F fJoin (fun x xs H Q => ∃ a p, ∃ ys : List Str, x = .str a ∧ xs = [.ref p] ∧ (SqL F.K H p (ys.map V.str) ∨ SqT F.K H p (ys.map V.str)) ∧
    (ys.map (·.length)).sum + ys.length * a.length ≤ 16777216 ∧ Q (.str (Txt.join a ys)) H) := by
  intro H O x xs w ws o Q r rs e q
  unfold fJoin at e
  split at e
  · rename_i s l
    cases e1 : txts l with
    | none => simp only [e1] at e; cases e
    | some ps =>
      simp only [e1] at e
      split at e
      · rename_i hl
        cases some_inj e
        cases rs with
        | cons r1 r2 =>
          cases r2
          obtain ⟨rfl, h1, h2⟩ := Rp.str_inv r
          obtain ⟨a, vs, rfl, h3, q3⟩ := r1
          obtain ⟨rfl, h4⟩ := txts_rp q3 e1
          have el : (List.map (fun x : Str => x.length) (ps.map mkS)).sum = (ps.map List.length).sum := by
            rw [List.map_map]
            rfl
          refine ⟨_, a, ps.map mkS, rfl, rfl, .inl (.inl h3), by rw [el, List.length_map, str_len]; exact hl, ?_⟩
          have ej : Txt.join (mkS s) (ps.map mkS) = mkS (TL.joinL s ps) := by
            rw [TL.join_eq]
            apply TL.ext_tl
            rw [TL.tl_join, List.map_map]
            have : (TL.tl ∘ mkS) = id := by funext x; rfl
            rw [this, List.map_id]
          show Q (.str (Txt.join (mkS s) (ps.map mkS))) H
          rw [ej]
          refine q _ (.str _ ?_ (joinL_all h2 fun b hb => (h4 b hb).2))
          have := joinL_len (S := s) ps
          rw [sizeLine_is]
          omega
      · cases e
  · cases e
def fUpper : W → List W → Option Out
  | .str s, [] => if s.length ≤ 5592405 ∧ (TL.tl (Txt.upper (mkS s))).length ≤ 16777216 ∧ (TL.tl (Txt.upper (mkS s))).all okCp = true then some (.val (.str (TL.tl (Txt.upper (mkS s))))) else none
  | _, _ => none
theorem om_upper : OpM F fUpper (fun x xs H Q => ∃ a, x = .str a ∧ xs = [] ∧ a.length ≤ 5592405 ∧ Q (.str (Txt.upper a)) H) := by
  intro H O x xs w ws o Q r rs e q
  unfold fUpper at e
  split at e
  · split at e
    · rename_i hc
      cases some_inj e
      obtain ⟨rfl, h1, h2⟩ := Rp.str_inv r
      cases rs
      refine ⟨_, rfl, rfl, by rw [str_len]; exact hc.1, ?_⟩
      have := q _ (.str _ (by rw [sizeLine_is]; exact hc.2.1) hc.2.2)
      rwa [TL.mk_tl] at this
    · cases e
  · cases e
end
end
end Bel

/-! The engine, eighth part: statements. -/
namespace Bel
open PySem PySem.Spec PyProof.Rows L2
def Rs.bind (r : Rs) (f : Env' → Store → Rs) : Rs := match r with
  | .ok (.nx e) S => f e S
  | r => r
/-- an expression's answer, in a statement -/
def Re.st {α : Type} (r : Re α) (e : Env') (f : α → Store → Rs) : Rs := match r with
  | .ok a S => f a S
  | .ex c S => .ex c e S
  | .no => .no
@[simp] theorem Rs.bind_nx (e : Env') (S : Store) (f : Env' → Store → Rs) : (Rs.ok (.nx e) S).bind f = f e S := rfl
@[simp] theorem Rs.bind_rt (u : U) (S : Store) (f : Env' → Store → Rs) : (Rs.ok (.rt u) S).bind f = .ok (.rt u) S := rfl
@[simp] theorem Rs.bind_bk (e : Env') (S : Store) (f : Env' → Store → Rs) : (Rs.ok (.bk e) S).bind f = .ok (.bk e) S := rfl
@[simp] theorem Rs.bind_ct (e : Env') (S : Store) (f : Env' → Store → Rs) : (Rs.ok (.ct e) S).bind f = .ok (.ct e) S := rfl
@[simp] theorem Rs.bind_ex (c : Nat) (e : Env') (S : Store) (f : Env' → Store → Rs) : (Rs.ex c e S).bind f = .ex c e S := rfl
@[simp] theorem Rs.bind_no (f : Env' → Store → Rs) : Rs.no.bind f = .no := rfl
@[simp] theorem Re.st_ok {α : Type} (a : α) (S : Store) (e : Env') (f : α → Store → Rs) : (Re.ok a S).st e f = f a S := rfl
@[simp] theorem Re.st_ex {α : Type} (c : Nat) (S : Store) (e : Env') (f : α → Store → Rs) : (Re.ex c S : Re α).st e f = .ex c e S := rfl
@[simp] theorem Re.st_no {α : Type} (e : Env') (f : α → Store → Rs) : (Re.no : Re α).st e f = .no := rfl
section
variable {F : Fx} {Wx : WX} {σ : L2.St} {H H' H1 H2 : Hp} {ι ι' ι1 ι2 : List Addr} {S S' S1 S2 : Store} {B : Addr → Prop} {env : Env'} {D : Ends}
theorem LE.thenS (R : RS F ι S B H) (E : ER F H ι S B env σ) {a : DE} {g : U → Store → Rs} (h : PoS F Wx ι S B H ((a env S).st env g) D)
    {Q1 : VK} (k : ∀ u S1 v H1 ι1, Go ι S H ι1 S1 H1 → RS F ι1 S1 B H1 → ER F H1 ι1 S1 B env σ → RU F H1 ι1 S1 B u v → PoS F Wx ι1 S1 B H1 (g u S1) D → Q1 v H1) : LE F Wx a σ H Q1 := by
  refine ⟨env, S, ι, B, R, E, ?_⟩
  cases e : a env S with
  | ok u S1 =>
    rw [e] at h
    exact fun v H1 ι1 G R1 r => k u S1 v H1 ι1 G R1 (E.go G) r (h.go G)
  | ex c S1 =>
    rw [e] at h
    exact fun H1 ι1 G R1 => h σ H1 ι1 G R1 (E.go G)
  | no => rw [e] at h; exact h
theorem LT.thenS (R : RS F ι S B H) (E : ER F H ι S B env σ) {a : DT} {g : Bool → Store → Rs} (h : PoS F Wx ι S B H ((a env S).st env g) D)
    {Q1 : Bool → Hp → Prop} (k : ∀ u S1 H1 ι1, Go ι S H ι1 S1 H1 → RS F ι1 S1 B H1 → ER F H1 ι1 S1 B env σ → PoS F Wx ι1 S1 B H1 (g u S1) D → Q1 u H1) : LT F Wx a σ H Q1 := by
  refine ⟨env, S, ι, B, R, E, ?_⟩
  cases e : a env S with
  | ok u S1 =>
    rw [e] at h
    exact fun H1 ι1 G R1 => k u S1 H1 ι1 G R1 (E.go G) (h.go G)
  | ex c S1 =>
    rw [e] at h
    exact fun H1 ι1 G R1 => h σ H1 ι1 G R1 (E.go G)
  | no => rw [e] at h; exact h
end
section
variable {ec : Nat → Value} {X : Cx} {e a b c o : Expr} {st : Stmt} {rest body : List Stmt} {pos pos' p p2 : Pos} {da db dc : DE} {tc : DT} {ds dt : DS}
/-! ### blocks -/
def dNext : DS := fun e S => .ok (.nx e) S
def dSeq (a b : DS) : DS := fun e S => (a e S).bind b
theorem LS.seq {F : Fx} {Wx : WX} {σ : L2.St} {H : Hp} {D : Ends} (h : LS F Wx (dSeq ds dt) D σ H) : LS F Wx ds { D with nx := LS F Wx dt D } σ H := by
  obtain ⟨env, S, ι, B, R, E, h⟩ := h
  refine ⟨env, S, ι, B, R, E, ?_⟩
  unfold dSeq at h
  cases e : ds env S with
  | ok f S1 =>
    rw [e] at h
    cases f with
    | nx e1 => exact fun σ' H' ι' G R' E' => ⟨e1, S1, ι', B, R', E', h.go G⟩
    | rt u => exact h
    | bk e1 => exact h
    | ct e1 => exact h
  | ex c e1 S1 => rw [e] at h; exact h
  | no => rw [e] at h; exact h
theorem bv_nil : PSsv ec X [] dNext := ⟨fun pn xe Wx tk po => pss_nil.imp fun D σ H ⟨env, S, ι, B, R, E, h⟩ => h σ H ι .refl R E⟩
theorem bv_cons (h1 : PSv ec X st ds) (h2 : PSsv ec X rest dt) : PSsv ec X (st :: rest) (dSeq ds dt) :=
  ⟨fun pn xe Wx tk po => (pss_cons (h1.run pn xe Wx tk po) (h2.run pn xe Wx tk po)).imp fun D σ H h => LS.seq h⟩
theorem bv_one (h1 : PSv ec X st ds) : PSsv ec X [st] ds := ⟨fun pn xe Wx tk po => pss_one (h1.run pn xe Wx tk po)⟩
theorem sv_pass : PSv ec X (.Pass pos) dNext := ⟨fun pn xe Wx tk po => ps_pass.imp fun D σ H ⟨env, S, ι, B, R, E, h⟩ => h σ H ι .refl R E⟩
def dBreak : DS := fun e S => .ok (.bk e) S
def dCont : DS := fun e S => .ok (.ct e) S
theorem sv_break : PSv ec X (.Break pos) dBreak := ⟨fun pn xe Wx tk po => ps_break.imp fun D σ H ⟨env, S, ι, B, R, E, h⟩ => h σ H ι .refl R E⟩
theorem sv_cont : PSv ec X (.Continue pos) dCont := ⟨fun pn xe Wx tk po => ps_continue.imp fun D σ H ⟨env, S, ι, B, R, E, h⟩ => h σ H ι .refl R E⟩
/-! ### an own object is given away as a plain value: nobody changes it from here on -/
def frz (S : Store) (u : U) : Re U := match u with
  | .v w => .ok (.v w) S
  | .o n => match S[n]? with
    | some (.lst l) => .ok (.v (.lst l)) (S.set n .dead)
    | some (.dct l) => .ok (.v (.dct l)) (S.set n .dead)
    | _ => .no
theorem ow_dead {ι : List Addr} {S : Store} {n : Nat} {a : Addr} (nd : ι.Nodup) (ha : ι[n]? = some a) (b : Addr) : Ow ι (S.set n .dead) b → Ow ι S b ∧ b ≠ a := by
  rintro ⟨m, o, h1, h2, h3⟩
  rw [List.getElem?_set] at h1
  split at h1
  · split at h1
    · cases h1; exact absurd rfl h2
    · cases h1
  · rename_i hne
    refine ⟨⟨m, o, h1, h2, h3⟩, ?_⟩
    rintro rfl
    obtain ⟨h4, h5⟩ := List.getElem?_eq_some_iff.mp ha
    obtain ⟨h6, h7⟩ := List.getElem?_eq_some_iff.mp h3
    exact hne ((List.getElem_inj nd).mp (h5.trans h7.symm))
section
variable {F : Fx} {Wx : WX} {σ : L2.St} {H : Hp} {ι : List Addr} {S : Store} {B : Addr → Prop}
/-- fewer owned: what stood stands -/
theorem Rp.less {O O' : Addr → Prop} (h : ∀ a, O' a → O a) {w : W} {v : V} (r : Rp F H O w v) : Rp F H O' w v := r.ext (fun _ _ h _ => h) fun a z => .inl (h a z)
theorem RpL.less {O O' : Addr → Prop} (h : ∀ a, O' a → O a) {w : List W} {v : List V} (r : RpL F H O w v) : RpL F H O' w v := r.ext (fun _ _ h _ => h) fun a z => .inl (h a z)
theorem RpD.less {O O' : Addr → Prop} (h : ∀ a, O' a → O a) {w : List (W × W)} {v : List (Key × V)} (r : RpD F H O w v) : RpD F H O' w v := r.ext (fun _ _ h _ => h) fun a z => .inl (h a z)
theorem ObR.less {O O' : Addr → Prop} (h : ∀ a, O' a → O a) {a : Addr} {o : Ob} (r : ObR F H O a o) : ObR F H O' a o := by
  cases o with
  | lst ws => obtain ⟨vs, e, r⟩ := r; exact ⟨vs, e, r.less h⟩
  | dct ws => obtain ⟨vs, e, r⟩ := r; exact ⟨vs, e, r.less h⟩
  | scr ws => obtain ⟨vs, y, e, d, r⟩ := r; exact ⟨vs, y, e, d, r.less h⟩
  | tbl x q => exact TblR.ext r (fun _ _ h _ => h) (fun a z => .inl (h a z)) fun _ e => e
  | dead => exact r
theorem RS.die (R : RS F ι S B H) {n : Nat} {a : Addr} (hn : n < S.length) (ha : ι[n]? = some a) : RS F ι (S.set n .dead) B H ∧ Go ι S H ι (S.set n .dead) H ∧ ¬ Oq ι (S.set n .dead) B a := by
  have sub : ∀ b, Oq ι (S.set n .dead) B b → Oq ι S B b := fun b z => z.imp (fun z => (ow_dead R.nd ha b z).1) id
  refine ⟨⟨by simp [R.len], R.nd, fun m o b h1 h2 => ?_, R.hid⟩, ⟨fun _ _ h _ => h, fun b z => .inl (ow_dead R.nd ha b z).1, [], by simp⟩, fun z => ?_⟩
  · rw [List.getElem?_set] at h1
    split at h1
    · rename_i hm
      subst hm
      first | rw [if_pos hn] at h1 | skip
      cases h1
      have : b ∈ ι := List.mem_of_getElem? h2
      exact R.there this
    · exact (R.ob m o b h1 h2).less sub
  · rcases z with z | z
    · exact (ow_dead R.nd ha a z).2 rfl
    · exact (R.hid a z).2 (List.mem_of_getElem? ha)
theorem frz_ok (R : RS F ι S B H) {u : U} {v : V} (ru : RU F H ι S B u v) {w : U} {S' : Store} (h : frz S u = .ok w S') : RS F ι S' B H ∧ Go ι S H ι S' H ∧ RU F H ι S' B w v := by
  cases u with
  | v x => cases h; exact ⟨R, .refl, ru⟩
  | o n =>
    obtain ⟨a, ha, rfl⟩ := ru
    unfold frz at h
    cases e : S[n]? with
    | none => simp [e] at h
    | some ob =>
      have hn : n < S.length := (List.getElem?_eq_some_iff.mp e).1
      obtain ⟨R', G, na⟩ := R.die hn ha
      have z := R.ob n ob a e ha
      cases ob with
      | lst l =>
        simp [e] at h
        obtain ⟨rfl, rfl⟩ := h
        obtain ⟨vs, q, r⟩ := z
        exact ⟨R', G, .mkLst ⟨q, na⟩ (r.go G)⟩
      | dct l =>
        simp [e] at h
        obtain ⟨rfl, rfl⟩ := h
        obtain ⟨vs, q, r⟩ := z
        exact ⟨R', G, .mkDct ⟨.inl q, na⟩ (r.go G)⟩
      | scr l => simp [e] at h
      | tbl x q => simp [e] at h
      | dead => simp [e] at h
end
/-- name i's own object, given away -/
def dFrzV (i : Nat) : DS := fun e S => match e[i]? with
  | some (some u) => (frz S u).st e fun w S' => .ok (.nx (e.set i (some w))) S'
  | _ => .no
theorem ER.relook {F : Fx} {σ : L2.St} {H : Hp} {ι : List Addr} {S : Store} {B : Addr → Prop} {env : Env'} (E : ER F H ι S B env σ) {i : Nat} {u : U} {v : V} (h1 : σ[i]? = some (some v)) (r : RU F H ι S B u v) : ER F H ι S B (env.set i (some u)) σ := by
  have := E.set i r
  have e : σ.set i (some v) = σ := by
    apply List.ext_getElem?
    intro j
    rw [List.getElem?_set]
    split
    · rename_i hj
      subst hj
      rw [h1]
      split
      · rfl
      · rename_i hl; exact absurd (List.getElem?_eq_some_iff.mp h1).1 hl
    · rfl
  rwa [e] at this
theorem bv_frz (i : Nat) {sts : List Stmt} (h : PSsv ec X sts ds) : PSsv ec X sts (dSeq (dFrzV i) ds) :=
  ⟨fun pn xe Wx tk po => (h.run pn xe Wx tk po).imp fun D σ H ⟨env, S, ι, B, R, E, h⟩ => by
    unfold dSeq dFrzV at h
    cases e : env[i]? with
    | none => simp only [e] at h; exact h.elim
    | some x =>
      cases x with
      | none => simp only [e] at h; exact h.elim
      | some u =>
        simp only [e] at h
        obtain ⟨v, h1, ru⟩ := E.get i u e
        cases e2 : frz S u with
        | ok w S1 =>
          simp only [e2] at h
          obtain ⟨R1, G, r⟩ := frz_ok R ru e2
          exact ⟨_, S1, ι, B, R1, (E.go G).relook h1 r, h.go G⟩
        | ex c S1 => unfold frz at e2; split at e2 <;> first | cases e2 | (split at e2 <;> cases e2)
        | no => simp only [e2] at h; exact h.elim⟩

/-! ### return, names stored -/
def dRet (d : DE) : DS := fun e S => (d e S).st e fun u S1 => .ok (.rt u) S1
/-- return, an own object given away -/
def dRetF (d : DE) : DS := fun e S => (d e S).st e fun u S1 => (frz S1 u).st e fun w S2 => .ok (.rt w) S2
def dRetN : DS := fun e S => .ok (.rt (.v .non)) S
theorem sv_ret (h : PEv ec X e da) : PSv ec X (.Return (some e) pos) (dRet da) :=
  ⟨fun pn xe Wx tk po => (ps_ret (h.run pn xe Wx tk)).imp fun D σ H ⟨env, S, ι, B, R, E, h⟩ => LE.thenS R E h fun u S1 v H1 ι1 G1 R1 E1 ru h1 => h1 v H1 ι1 .refl R1 ru⟩
theorem frz_no_ex {S : Store} {u : U} {c : Nat} {S1 : Store} : frz S u ≠ .ex c S1 := by
  intro e2
  unfold frz at e2
  split at e2 <;> first | cases e2 | (split at e2 <;> cases e2)
theorem sv_retF (h : PEv ec X e da) : PSv ec X (.Return (some e) pos) (dRetF da) :=
  ⟨fun pn xe Wx tk po => (ps_ret (h.run pn xe Wx tk)).imp fun D σ H ⟨env, S, ι, B, R, E, h⟩ => LE.thenS R E h fun u S1 v H1 ι1 G1 R1 E1 ru h1 => by
    cases e2 : frz S1 u with
    | ok w S2 =>
      simp only [e2] at h1
      obtain ⟨R2, G, r⟩ := frz_ok R1 ru e2
      exact h1 v H1 ι1 G R2 r
    | ex c S1 => exact absurd e2 frz_no_ex
    | no => simp only [e2] at h1; exact h1.elim⟩
theorem sv_retN : PSv ec X (.Return none pos) dRetN := ⟨fun pn xe Wx tk po => ps_retN.imp fun D σ H ⟨env, S, ι, B, R, E, h⟩ => h _ H ι .refl R .non⟩
def dAsg (i : Nat) (d : DE) : DS := fun e S => (d e S).st e fun u S1 => .ok (.nx (e.set i (some u))) S1
theorem asg_reads {F : Fx} {Wx : WX} {σ : L2.St} {H : Hp} {D : Ends} {i : Nat} (h : LS F Wx (dAsg i da) D σ H) : tAsg (LE F Wx da) (gName i) D σ H := by
  obtain ⟨env, S, ι, B, R, E, h⟩ := h
  exact LE.thenS R E h fun u S1 v H1 ι1 G1 R1 E1 ru h1 => h1 _ H1 ι1 .refl R1 (E1.set i ru)
theorem sv_set {i : Nat} {x : Str} (hN : X.N.Nodup) (hi : X.N[i]? = some x) (hx : Loc X.env.scope x) (he : PEv ec X e da) (hs : swapsWith e (some (.Name x pos')) pos.line X.env = pure false := by rfl)
    (hf : X.fn x = true ∨ X.env.scope.names.lookup x = some .local := by first | exact .inl rfl | exact .inr rfl) : PSv ec X (.Assign [.Name x pos'] e pos) (dAsg i da) :=
  ⟨fun pn xe Wx tk po => (ps_set (X := X.tr pn xe) hN hi hx (he.run pn xe Wx tk) hs hf).imp fun D σ H h => asg_reads h⟩
/-- .. given away at once -/
def dAsgF (i : Nat) (d : DE) : DS := dSeq (dAsg i d) (dFrzV i)
def dDrop (d : DE) : DS := fun e S => (d e S).st e fun _ S1 => .ok (.nx e) S1
theorem sv_expr (he : PEv ec X e da) (hs : swapsWith e none pos.line X.env = pure false := by rfl) : PSv ec X (.Expr e pos) (dDrop da) :=
  ⟨fun pn xe Wx tk po => (ps_expr (X := X.tr pn xe) (he.run pn xe Wx tk) hs).imp fun D σ H ⟨env, S, ι, B, R, E, h⟩ => LE.thenS R E h fun u S1 v H1 ι1 G1 R1 E1 ru h1 => h1 _ H1 ι1 .refl R1 E1⟩
def dIfS (c : DT) (a b : DS) : DS := fun e S => (c e S).st e fun k S1 => if k = true then a e S1 else b e S1
theorem sv_if {sa sb : List Stmt} (hc : PTv ec X c tc) (ha : PSsv ec X sa ds) (hb : PSsv ec X sb dt) : PSv ec X (.If c sa sb pos) (dIfS tc ds dt) :=
  ⟨fun pn xe Wx tk po => (ps_if (hc.run pn xe Wx tk) (ha.run pn xe Wx tk po) (hb.run pn xe Wx tk po)).imp fun D σ H ⟨env, S, ι, B, R, E, h⟩ => LT.thenS R E h fun k S1 H1 ι1 G1 R1 E1 h1 => by
    cases k with
    | true => exact ⟨env, S1, ι1, B, R1, E1, h1⟩
    | false => exact ⟨env, S1, ι1, B, R1, E1, h1⟩⟩

/-! ### own lists, dicts changed -/
section
variable {F : Fx} {Wx : WX} {σ : L2.St} {H : Hp} {ι : List Addr} {S : Store} {B : Addr → Prop}
theorem ow_set {o o' : Ob} {n : Nat} (h : S[n]? = some o) (hd : o ≠ Ob.dead) (hd' : o' ≠ Ob.dead) (b : Addr) : Ow ι (S.set n o') b ↔ Ow ι S b := by
  have hn : n < S.length := (List.getElem?_eq_some_iff.mp h).1
  constructor
  · rintro ⟨m, q, h1, h2, h3⟩
    rw [List.getElem?_set] at h1
    split at h1
    · rename_i hm; subst hm; exact ⟨_, o, h, hd, h3⟩
    · exact ⟨m, q, h1, h2, h3⟩
  · rintro ⟨m, q, h1, h2, h3⟩
    by_cases hm : n = m
    · subst hm; exact ⟨n, o', by rw [List.getElem?_set_self hn], hd', h3⟩
    · exact ⟨m, q, by rw [List.getElem?_set_ne hm]; exact h1, h2, h3⟩
/-- an own object written -/
theorem RS.write (R : RS F ι S B H) {n : Nat} {o o' : Ob} {a : Addr} {ho : HO} (h : S[n]? = some o) (hd : o ≠ Ob.dead) (ha : ι[n]? = some a) (hob : NewOb F H (Oq ι S B) ho o') :
    RS F ι (S.set n o') B (upd H a ho) ∧ Go ι S H ι (S.set n o') (upd H a ho) := by
  have hd' : o' ≠ Ob.dead := by rintro rfl; exact hob
  have hn : n < S.length := (List.getElem?_eq_some_iff.mp h).1
  have oa : Ow ι S a := ⟨n, o, h, hd, ha⟩
  have G : Go ι S H ι (S.set n o') (upd H a ho) := ⟨fun x y hx nx => by rw [upd_ne (fun z => nx (by rw [z]; exact oa))]; exact hx, fun b z => .inl ((ow_set h hd hd' b).mp z), [], by simp⟩
  refine ⟨⟨by simp [R.len], R.nd, fun m q b h1 h2 => ?_, fun b hb => ?_⟩, G⟩
  · by_cases hm : n = m
    · subst hm
      rw [ha] at h2; cases h2
      rw [List.getElem?_set_self hn] at h1
      cases h1
      cases o' with
      | lst ws => obtain ⟨vs, rfl, r⟩ := hob; exact ⟨vs, upd_same, r.go G⟩
      | dct ws => obtain ⟨vs, rfl, r⟩ := hob; exact ⟨vs, upd_same, r.go G⟩
      | scr ws => exact hob.elim
      | tbl x q => exact hob.elim
      | dead => exact absurd rfl hd'
    · rw [List.getElem?_set_ne hm] at h1
      have hne : b ≠ a := by
        rintro rfl
        obtain ⟨h4, h5⟩ := List.getElem?_eq_some_iff.mp ha
        obtain ⟨h6, h7⟩ := List.getElem?_eq_some_iff.mp h2
        exact hm ((List.getElem_inj R.nd).mp (h5.trans h7.symm))
      have z := R.ob m q b h1 h2
      cases q with
      | lst ws => obtain ⟨vs, e, r⟩ := z; exact ⟨vs, by rw [upd_ne hne]; exact e, r.go G⟩
      | dct ws => obtain ⟨vs, e, r⟩ := z; exact ⟨vs, by rw [upd_ne hne]; exact e, r.go G⟩
      | scr ws => obtain ⟨vs, y, e, d, r⟩ := z; exact ⟨vs, y, by rw [upd_ne hne]; exact e, d.imp (fun d => by rw [upd_ne hne]; exact d) fun ⟨o, d⟩ => ⟨o, by rw [upd_ne hne]; exact d⟩, r.go G⟩
      | tbl x q => exact TblR.ext z G.extq G.ownq fun _ e => by rw [upd_ne hne]; exact e
      | dead => obtain ⟨y, e⟩ := z; exact ⟨y, by rw [upd_ne hne]; exact e⟩
  · obtain ⟨⟨y, e⟩, nb⟩ := R.hid b hb
    exact ⟨⟨y, by rw [upd_ne (fun z => nb (by rw [z]; exact List.mem_of_getElem? ha))]; exact e⟩, nb⟩
theorem RS.lst (R : RS F ι S B H) {n : Nat} {l : List W} {a : Addr} (h : S[n]? = some (.lst l)) (ha : ι[n]? = some a) : ∃ vs, H a = some (.lst vs) ∧ RpL F H (Oq ι S B) l vs := R.ob n _ a h ha
theorem RS.dct (R : RS F ι S B H) {n : Nat} {l : List (W × W)} {a : Addr} (h : S[n]? = some (.dct l)) (ha : ι[n]? = some a) : ∃ vs, H a = some (.dK vs) ∧ RpD F H (Oq ι S B) l vs := R.ob n _ a h ha
end
/-- xs[i] = v -/
def dSetL (o i v : DE) : DS := fun e S => (v e S).st e fun uv S1 => (o e S1).st e fun uo S2 => (i e S2).st e fun ui S3 => match uv, uo, ui with
  | .v w, .o n, .v (.int k) => match S3[n]? with
    | some (.lst l) => match ixN l.length k with
      | some j => .ok (.nx e) (S3.set n (.lst (l.set j w)))
      | none => .no
    | _ => .no
  | _, _, _ => .no
theorem sv_setL {i : Expr} (ho : PEv ec X o da) (hi : PEv ec X i db) (hv : PEv ec X e dc) (hs : swapsWithSole [.Subscript o i p] e pos.line X.env = pure false := by rfl) (hw : swappedStores [.Subscript o i p] e X.env = pure none := by rfl)
    (h1 : (assignEach [.Subscript o i p] X.env).map (·.2) = [assign (.Subscript o i p) X.env] := by rfl)
    (h2 : ∀ v, assign (.Subscript o i p) X.env v = (do
      let ov ← holding [v] (eval o X.env)
      let iv ← holding [v, ov] (eval i X.env)
      standAt p
      holding [v, ov, iv] (setItem ov iv v)
      release [v, ov, iv] []) := by intro _; rfl) : PSv ec X (.Assign [.Subscript o i p] e pos) (dSetL da db dc) :=
  ⟨fun pn xe Wx tk po => (ps_asg (X := X.tr pn xe) (hv.run pn xe Wx tk) (pg_sub (ho.run pn xe Wx tk) (hi.run pn xe Wx tk) set_list h2) hs hw h1).imp fun D σ H ⟨env, S, ι, B, R, E, h⟩ =>
    LE.thenS R E h fun uv S1 v H1 ι1 G1 R1 E1 rv h1 => LE.thenS R1 E1 h1 fun uo S2 vo H2 ι2 G2 R2 E2 ro h2 => LE.thenS R2 E2 h2 fun ui S3 vi H3 ι3 G3 R3 E3 ri h3 => by
      have rv3 := RU.go G3 (RU.go G2 rv)
      have ro3 := RU.go G3 ro
      cases uv with
      | o n => exact h3.elim
      | v w =>
        cases uo with
        | v z => exact h3.elim
        | o n =>
          cases ui with
          | o m => exact h3.elim
          | v k =>
            cases k with
            | int k =>
              simp only at h3
              obtain ⟨aa, ha, rfl⟩ := ro3
              cases e1 : S3[n]? with
              | none => simp only [e1] at h3; exact h3.elim
              | some ob =>
                cases ob with
                | lst l =>
                  simp only [e1] at h3
                  obtain ⟨vs, hH, rl⟩ := R3.lst e1 ha
                  cases e2 : ixN l.length k with
                  | none => simp only [e2] at h3; exact h3.elim
                  | some j =>
                    simp only [e2] at h3
                    obtain ⟨R4, G4⟩ := R3.write (o' := .lst (l.set j w)) (ho := .lst (vs.set j v)) e1 (by simp) ha ⟨_, rfl, rl.set j rv3⟩
                    exact ⟨aa, vs, k, j, rfl, Rp.int_inv ri, hH, by rw [← rl.1]; exact e2, h3 _ _ ι3 G4 R4 (E3.go G4)⟩
                | _ => simp only [e1] at h3; exact h3.elim
            | _ => exact h3.elim⟩
def putW (k w : W) (l : List (W × W)) : List (W × W) := if (l.any fun p => eqK p.1 k) = true then l.map fun p => if eqK p.1 k = true then (p.1, w) else p else l ++ [(k, w)]
theorem put_rp {F : Fx} {H : Hp} {O : Addr → Prop} {ws : List (W × W)} {kvs : List (Key × V)} {k w : W} {κ : Key} {v : V} (r : RpD F H O ws kvs) (hk : Rp F H O k (kV κ)) (hv : Rp F H O w v) : RpD F H O (putW k w ws) (putK kvs κ v) := by
  have hkk := key_of_rp hk
  have any : ∀ {ws : List (W × W)} {kvs : List (Key × V)}, RpD F H O ws kvs → (ws.any fun p => eqK p.1 k) = kvs.any fun kv => decide (kv.1 = κ) := by
    intro ws
    induction ws with
    | nil => intro kvs r; rw [r.nil_iff]; rfl
    | cons p ws ih =>
      intro kvs r
      obtain ⟨κ', v', kvs', rfl, h1, h2, r'⟩ := r.cons_iff
      rw [List.any_cons, List.any_cons, ih r', eqK_iff (key_of_rp h1) hkk]
  have mp : ∀ {ws : List (W × W)} {kvs : List (Key × V)}, RpD F H O ws kvs → RpD F H O (ws.map fun p => if eqK p.1 k = true then (p.1, w) else p) (kvs.map fun kv => if kv.1 = κ then (kv.1, v) else kv) := by
    intro ws
    induction ws with
    | nil => intro kvs r; rw [r.nil_iff]; exact .nil
    | cons p ws ih =>
      intro kvs r
      obtain ⟨κ', v', kvs', rfl, h1, h2, r'⟩ := r.cons_iff
      rw [List.map_cons, List.map_cons]
      rw [eqK_iff (key_of_rp h1) hkk]
      by_cases hc : κ' = κ
      · simp only [hc, decide_true, if_true]
        subst hc
        exact .cons h1 hv (ih r')
      · simp only [hc, decide_false, if_false]
        exact .cons h1 h2 (ih r')
  have app : ∀ {ws : List (W × W)} {kvs : List (Key × V)}, RpD F H O ws kvs → RpD F H O (ws ++ [(k, w)]) (kvs ++ [(κ, v)]) := by
    intro ws
    induction ws with
    | nil => intro kvs r; rw [r.nil_iff]; exact .cons hk hv .nil
    | cons p ws ih =>
      intro kvs r
      obtain ⟨κ', v', kvs', rfl, h1, h2, r'⟩ := r.cons_iff
      exact .cons h1 h2 (ih r')
  unfold putW putK
  rw [any r]
  split
  · exact mp r
  · exact app r
/-- d[k] = v -/
def dSetD (o i v : DE) : DS := fun e S => (v e S).st e fun uv S1 => (o e S1).st e fun uo S2 => (i e S2).st e fun ui S3 => match uv, uo, ui with
  | .v w, .o n, .v k => match S3[n]? with
    | some (.dct l) => if isKey k = true ∧ l.length < 16777216 then .ok (.nx e) (S3.set n (.dct (putW k w l))) else .no
    | _ => .no
  | _, _, _ => .no
theorem sv_setD {i : Expr} (hu : X.A.units + 65 < cLine) (ho : PEv ec X o da) (hi : PEv ec X i db) (hv : PEv ec X e dc) (hs : swapsWith e (some (.Subscript o i p)) pos.line X.env = pure false := by rfl) : PSv ec X (.Assign [.Subscript o i p] e pos) (dSetD da db dc) :=
  ⟨fun pn xe Wx tk po => (ps_dput (X := X.tr pn xe) (by show X.A.units + 1 < cLine; omega) (ho.run pn xe Wx tk) (hi.run pn xe Wx tk) (hv.run pn xe Wx tk) hs).imp fun D σ H ⟨env, S, ι, B, R, E, h⟩ =>
    LE.thenS R E h fun uv S1 v H1 ι1 G1 R1 E1 rv h1 => LE.thenS R1 E1 h1 fun uo S2 vo H2 ι2 G2 R2 E2 ro h2 => LE.thenS R2 E2 h2 fun ui S3 vi H3 ι3 G3 R3 E3 ri h3 => by
      have rv3 := RU.go G3 (RU.go G2 rv)
      have ro3 := RU.go G3 ro
      cases uv with
      | o n => exact h3.elim
      | v w =>
        cases uo with
        | v z => exact h3.elim
        | o n =>
          cases ui with
          | o m => exact h3.elim
          | v k =>
            simp only at h3
            obtain ⟨aa, ha, rfl⟩ := ro3
            cases e1 : S3[n]? with
            | none => simp only [e1] at h3; exact h3.elim
            | some ob =>
              cases ob with
              | dct l =>
                simp only [e1] at h3
                obtain ⟨vs, hH, rl⟩ := R3.dct e1 ha
                split at h3
                · rename_i hc
                  have ri' : Rp (fx ec X) H3 (Oq ι3 S3 B) k vi := ri
                  obtain ⟨κ, hκ, rfl⟩ := isKey_k hc.1 ri'
                  obtain ⟨R4, G4⟩ := R3.write (o' := .dct (putW k w l)) (ho := .dK (putK vs κ v)) e1 (by simp) ha ⟨_, rfl, put_rp rl ri' rv3⟩
                  exact ⟨aa, _, rfl, DPut.k hH (by rw [← rl.1, sizeLine_is]; exact hc.2), h3 _ _ ι3 G4 R4 (E3.go G4)⟩
                · exact h3.elim
              | _ => simp only [e1] at h3; exact h3.elim⟩
end
end Bel

/-! The engine, ninth part: targets, loops, comprehensions. -/
namespace Bel
open PySem PySem.Spec PyProof.Rows L2
/-! ### targets -/
/-- what a target's reading g does with plain values: t; sl: the slots that it stores -/
def GSem (F : Fx) (g : TG) (t : W → Env' → Option Env') (sl : List Nat) : Prop := ∀ (w : W) (e e' : Env'), t w e = some e' → ∀ (v : V) (σ : L2.St) (H : Hp) (ι : List Addr) (S : Store) (B : Addr → Prop) (Q : L2.St → Hp → Prop),
    Rp F H (Oq ι S B) w v → ER F H ι S B e σ → (∀ σ', ER F H ι S B e' σ' → (∀ vs : List Nat, (∀ i ∈ sl, i ∈ vs) → wipe σ' vs = wipe σ vs) → Q σ' H) → g v σ H Q
def GsSem (F : Fx) (g : TGs) (t : List W → Env' → Option Env') (sl : List Nat) : Prop := ∀ (w : List W) (e e' : Env'), t w e = some e' → ∀ (v : List V) (σ : L2.St) (H : Hp) (ι : List Addr) (S : Store) (B : Addr → Prop) (Q : L2.St → Hp → Prop),
    RpL F H (Oq ι S B) w v → ER F H ι S B e σ → (∀ σ', ER F H ι S B e' σ' → (∀ vs : List Nat, (∀ i ∈ sl, i ∈ vs) → wipe σ' vs = wipe σ vs) → Q σ' H) → g v σ H Q
structure PGv (ec : Nat → Value) (X : Cx) (tg : Expr) (g : TG) (t : W → Env' → Option Env') (sl : List Nat) : Prop where
  pg : ∀ pn xe, PG (X.tr pn xe) tg g
  sem : GSem (fx ec X) g t sl
structure PGsv (ec : Nat → Value) (X : Cx) (tgs : List Expr) (g : TGs) (t : List W → Env' → Option Env') (sl : List Nat) : Prop where
  pg : ∀ pn xe, PGs (X.tr pn xe) tgs g
  sem : GsSem (fx ec X) g t sl
theorem wipe_get (σ : L2.St) : ∀ (vs : List Nat) (j : Nat), (wipe σ vs)[j]? = if j ∈ vs then (σ[j]?).map fun _ => none else σ[j]?
  | [], j => by simp [wipe]
  | v :: vs, j => by
    have ih := wipe_get σ vs j
    unfold wipe
    rw [List.getElem?_set]
    by_cases hv : v = j
    · subst hv
      rw [if_pos rfl, if_pos List.mem_cons_self, wipe_length]
      by_cases hl : v < σ.length
      · rw [if_pos hl]; simp [hl]
      · rw [if_neg hl]; simp [hl]
    · rw [if_neg hv, ih]
      by_cases hm : j ∈ vs
      · rw [if_pos hm, if_pos (List.mem_cons_of_mem _ hm)]
      · rw [if_neg hm, if_neg (by simp only [List.mem_cons, not_or]; exact ⟨fun e => hv e.symm, hm⟩)]
theorem wipe_set (σ : L2.St) (i : Nat) (x : Option V) (vs : List Nat) (h : i ∈ vs) : wipe (σ.set i x) vs = wipe σ vs := by
  apply List.ext_getElem?
  intro j
  rw [wipe_get, wipe_get, List.getElem?_set]
  by_cases hj : j ∈ vs
  · rw [if_pos hj, if_pos hj]
    by_cases hij : i = j
    · subst hij
      rw [if_pos rfl]
      by_cases hl : i < σ.length
      · rw [if_pos hl]; simp [hl]
      · rw [if_neg hl]; simp [hl]
    · rw [if_neg hij]
  · rw [if_neg hj, if_neg hj, if_neg (fun e => hj (by rw [← e]; exact h))]
def wipeE (e : Env') : List Nat → Env'
  | [] => e
  | v :: vs => (wipeE e vs).set v none
theorem ER.wipe {F : Fx} {H : Hp} {ι : List Addr} {S : Store} {B : Addr → Prop} {e : Env'} {σ : L2.St} (E : ER F H ι S B e σ) : ∀ vs : List Nat, ER F H ι S B (wipeE e vs) (L2.wipe σ vs)
  | [] => E
  | v :: vs => (ER.wipe E vs).unset v
def tgN (i : Nat) : W → Env' → Option Env' := fun w e => some (e.set i (some (.v w)))
def tgs0 : List W → Env' → Option Env'
  | [], e => some e
  | _ :: _, _ => none
def tgs1 (t : W → Env' → Option Env') (r : List W → Env' → Option Env') : List W → Env' → Option Env'
  | [], _ => none
  | w :: ws, e => (t w e).bind (r ws)
def tgT (n : Nat) (r : List W → Env' → Option Env') : W → Env' → Option Env'
  | .tup ws, e => if ws.length = n then r ws e else none
  | _, _ => none
section
variable {ec : Nat → Value} {X : Cx} {e a b c o tg iter : Expr} {es : List Expr} {st : Stmt} {rest body : List Stmt} {pos pos' p p2 : Pos} {da db dc : DE} {tc : DT} {ds dt : DS}
theorem gv_name {i : Nat} {x : Str} (hN : X.N.Nodup) (hi : X.N[i]? = some x) (hx : Loc X.env.scope x) (hf : X.fn x = true ∨ X.env.scope.names.lookup x = some .local := by first | exact .inl rfl | exact .inr rfl) : PGv ec X (.Name x pos) (gName i) (tgN i) [i] := by
  refine ⟨fun pn xe => pg_name (X := X.tr pn xe) hN hi hx hf, fun w e e' h v σ H ι S B Q r E k => ?_⟩
  cases some_inj h
  exact k _ (E.set i (u := .v w) r) fun vs hv => wipe_set σ i _ vs (hv i List.mem_cons_self)
theorem gsv_nil : PGsv ec X [] gNil tgs0 [] := by
  refine ⟨fun pn xe => pgs_nil, fun w e e' h v σ H ι S B Q r E k => ?_⟩
  cases w with
  | nil => cases some_inj h; exact ⟨r.nil_iff, k σ E fun _ _ => rfl⟩
  | cons _ _ => cases h
theorem gsv_cons {g : TG} {gs : TGs} {t : W → Env' → Option Env'} {ts : List W → Env' → Option Env'} {sl sls : List Nat} (h1 : PGv ec X e g t sl) (h2 : PGsv ec X es gs ts sls)
    (hs : (assignEach (e :: es) X.env).map (·.2) = assign e X.env :: (assignEach es X.env).map (·.2) := by rfl) : PGsv ec X (e :: es) (gCons g gs) (tgs1 t ts) (sl ++ sls) := by
  obtain ⟨a1, a2⟩ := h1
  obtain ⟨b1, b2⟩ := h2
  refine ⟨fun pn xe => pgs_cons (X := X.tr pn xe) (a1 pn xe) (b1 pn xe) hs, fun w e e' h v σ H ι S B Q r E k => ?_⟩
  cases w with
  | nil => cases h
  | cons w ws =>
    obtain ⟨v1, vs, rfl, r1, r2⟩ := r.cons_iff
    obtain ⟨e1, h3, h4⟩ := Option.bind_eq_some_iff.mp h
    refine ⟨v1, vs, rfl, a2 w e e1 h3 v1 σ H ι S B _ r1 E fun σ1 E1 w1 => ?_⟩
    refine b2 ws e1 e' h4 vs σ1 H ι S B _ r2 E1 fun σ2 E2 w2 => k σ2 E2 fun l hl => ?_
    rw [w2 l fun i hi => hl i (List.mem_append_right _ hi), w1 l fun i hi => hl i (List.mem_append_left _ hi)]
theorem gv_tup {gs : TGs} {ts : List W → Env' → Option Env'} {sls : List Nat} {k n : Nat} (hc : X.calm = true) (h : PGsv ec X es gs ts sls) (hn : (assignEach es X.env).length = n := by rfl) (hst : (assignEach es X.env).findIdx? (·.1) = none := by rfl) : PGv ec X (.Tuple es k pos) (gTup X.K n gs) (tgT n ts) sls := by
  obtain ⟨b1, b2⟩ := h
  refine ⟨fun pn xe => pg_tup (X := X.tr pn xe) hc (b1 pn xe) hn hst, fun w e e' h v σ H ι S B Q r E k => ?_⟩
  cases w with
  | tup ws =>
    simp only [tgT] at h
    split at h
    · rename_i hl
      obtain ⟨a, vs, rfl, h1, r1⟩ := r.tup_inv
      exact ⟨a, vs, rfl, h1.sq, by rw [← r1.1]; exact hl, b2 ws e e' h vs σ H ι S B Q r1 E k⟩
    · cases h
  | _ => cases h
/-- target = e, by a plain value -/
def dAsgT (t : W → Env' → Option Env') (d : DE) : DS := fun e S => (d e S).st e fun u S1 => match u with
  | .v w => match t w e with
    | some e' => .ok (.nx e') S1
    | none => .no
  | .o _ => .no
theorem sv_asgT {g : TG} {t : W → Env' → Option Env'} {sl : List Nat} (hv : PEv ec X e da) (hg : PGv ec X tg g t sl) (hs : swapsWithSole [tg] e pos.line X.env = pure false := by rfl) (hw : swappedStores [tg] e X.env = pure none := by rfl)
    (h1 : (assignEach [tg] X.env).map (·.2) = [assign tg X.env] := by rfl) : PSv ec X (.Assign [tg] e pos) (dAsgT t da) := by
  obtain ⟨a1, a2⟩ := hg
  exact ⟨fun pn xe Wx tk po => (ps_asg (X := X.tr pn xe) (hv.run pn xe Wx tk) (a1 pn xe) hs hw h1).imp fun D σ H ⟨env, S, ι, B, R, E, h⟩ => LE.thenS R E h fun u S1 v H1 ι1 G1 R1 E1 ru h1 => by
    cases u with
    | o n => exact h1.elim
    | v w =>
      simp only at h1
      cases e1 : t w env with
      | none => simp only [e1] at h1; exact h1.elim
      | some e' =>
        simp only [e1] at h1
        exact a2 w env e' e1 v σ H1 ι1 S1 B _ ru E1 fun σ' E' _ => h1 σ' H1 ι1 .refl R1 E'⟩
/-- a, b = x, y -/
def dPar (i j : Nat) (a : DA) : DS := fun e S => (a e S).st e fun us S1 => match us with
  | [u, v] => .ok (.nx ((e.set i (some u)).set j (some v))) S1
  | _ => .no
theorem sv_par {i j : Nat} {x y : Str} {px py pt : Pos} {kt k2 pt2} {das : DA} (hc : X.calm = true) (hN : X.N.Nodup) (hi : X.N[i]? = some x) (hj : X.N[j]? = some y) (hij : i ≠ j)
    (hx : X.env.scope.names.lookup x = some .local) (hy : X.env.scope.names.lookup y = some .local) (ha : PAv ec X [a, b] das)
    (hw : swappedStores [.Tuple [.Name x px, .Name y py] kt pt] (.Tuple [a, b] k2 pt2) X.env = pure (some [x, y]) := by rfl)
    (hs : swapsWithSole [.Tuple [.Name x px, .Name y py] kt pt] (.Tuple [a, b] k2 pt2) pos.line X.env = pure false := by rfl) :
    PSv ec X (.Assign [.Tuple [.Name x px, .Name y py] kt pt] (.Tuple [a, b] k2 pt2) pos) (dPar i j das) :=
  ⟨fun pn xe Wx tk po => (ps_par (X := X.tr pn xe) hc hN hi hj hij hx hy (ha.run pn xe Wx tk) hw hs).imp fun D σ H ⟨env, S, ι, B, R, E, h⟩ => by
    refine ⟨env, S, ι, B, R, E, ?_⟩
    unfold dPar at h
    cases ee : das env S with
    | ok us S1 =>
      rw [ee] at h
      intro vs H1 ι1 G1 R1 rs
      simp only [Re.st_ok] at h
      split at h
      · rename_i u v
        cases rs with
        | cons r1 r2 =>
          cases r2 with
          | cons r2 r3 =>
            cases r3
            exact ⟨_, _, rfl, h _ H1 ι1 G1 R1 (((E.go G1).set i r1).set j r2)⟩
      · exact h.elim
    | ex c S1 => rw [ee] at h; exact fun H1 ι1 G1 R1 => h σ H1 ι1 G1 R1 (E.go G1)
    | no => rw [ee] at h; exact h⟩

/-! ### what is walked -/
abbrev DI := Env' → Store → Re (List W)
def WalkW (F : Fx) (ι : List Addr) (S : Store) (B : Addr → Prop) (H : Hp) (J : It) (ws : List W) : Prop := ∃ (G : Hp → Prop) (Y : Nat → Hp → V → Hp → Prop), Walk J ws.length G Y ∧
  ∀ (ι1 : List Addr) (S1 : Store) (B1 : Addr → Prop) (H1 : Hp), Ext (Oq ι S B) H H1 → Own (Oq ι S B) (Oq ι1 S1 B1) H → RS F ι1 S1 B1 H1 →
    G H1 ∧ ∀ (i : Nat) (x : V) (H2 : Hp) (w : W), ws[i]? = some w → Y i H1 x H2 → Rp F H2 (Oq ι1 S1 B1) w x ∧ RS F ι1 S1 B1 H2 ∧ Go ι1 S1 H1 ι1 S1 H2 ∧ ∀ y z, H1 y = some z → H2 y = some z
def PoI (F : Fx) (Wx : WX) (σ : L2.St) (ι : List Addr) (S : Store) (B : Addr → Prop) (H : Hp) (r : Re (List W)) (R : It → Hp → Prop) : Prop := match r with
  | .ok ws S' => ∀ J H' ι', Go ι S H ι' S' H' → RS F ι' S' B H' → WalkW F ι' S' B H' J ws → R J H'
  | .ex c S' => ∀ H' ι', Go ι S H ι' S' H' → RS F ι' S' B H' → Wx (F.ec c) none σ H'
  | .no => False
def LI (F : Fx) (Wx : WX) (d : DI) : TI := fun σ H R => ∃ (env : Env') (S : Store) (ι : List Addr) (B : Addr → Prop), RS F ι S B H ∧ ER F H ι S B env σ ∧ PoI F Wx σ ι S B H (d env S) R
theorem _root_.L2.PI.imp {X : Cx} {tg e : Expr} {t t' : TI} (h : PI X tg e t) (hh : ∀ σ H Q, t' σ H Q → t σ H Q) : PI X tg e t' := ⟨fun pins s σ H Q I q => h.run pins s σ H Q I (hh σ H Q q)⟩
structure PIv (ec : Nat → Value) (X : Cx) (tg e : Expr) (d : DI) : Prop where
  run : ∀ (pn : List (Addr × Obj)) (xe : Value → Shared → Prop) (Wx : WX), Takes (X.tr pn xe) Wx → PI (X.tr pn xe) tg e (LI (fx ec X) Wx d)
/-- a list, a tuple that stays -/
def dItems (d : DE) : DI := fun e S => (d e S).bind fun u S1 => match u with
  | .v (.lst l) => .ok l S1
  | .v (.tup l) => .ok l S1
  | _ => .no
section
variable {F : Fx} {Wx : WX} {σ : L2.St} {H : Hp} {ι : List Addr} {S : Store} {B : Addr → Prop} {env : Env'}
theorem LE.thenI (R : RS F ι S B H) (E : ER F H ι S B env σ) {a : DE} {g : U → Store → Re (List W)} {RR : It → Hp → Prop} (h : PoI F Wx σ ι S B H ((a env S).bind g) RR)
    {Q1 : VK} (k : ∀ u S1 v H1 ι1, Go ι S H ι1 S1 H1 → RS F ι1 S1 B H1 → ER F H1 ι1 S1 B env σ → RU F H1 ι1 S1 B u v → PoI F Wx σ ι1 S1 B H1 (g u S1) RR → Q1 v H1) : LE F Wx a σ H Q1 := by
  refine ⟨env, S, ι, B, R, E, ?_⟩
  cases e : a env S with
  | ok u S1 =>
    rw [e] at h
    refine fun v H1 ι1 G R1 r => k u S1 v H1 ι1 G R1 (E.go G) r ?_
    simp only [Re.bind_ok] at h
    cases e2 : g u S1 with
    | ok ws S2 => rw [e2] at h; exact fun J H' ι' G' => h J H' ι' (G.trans G')
    | ex c S2 => rw [e2] at h; exact fun H' ι' G' => h H' ι' (G.trans G')
    | no => rw [e2] at h; exact h
  | ex c S1 => rw [e] at h; exact h
  | no => rw [e] at h; exact h
theorem walkW_lst {a : Addr} {vs : List V} {ws : List W} (h : FLst H (Oq ι S B) a vs) (r : RpL F H (Oq ι S B) ws vs) : WalkW F ι S B H (Itl F.K a) ws := by
  refine ⟨_, _, by rw [r.1]; exact walk_list (K := F.K) (a := a) (xs := vs), fun ι1 S1 B1 H1 x o R1 => ⟨(h.ext x o).sq, fun i y H2 w hw hy => ?_⟩⟩
  obtain ⟨rfl, hy⟩ := hy
  obtain ⟨v, hv, rv⟩ := r.get hw
  rw [hv] at hy; cases hy
  exact ⟨rv.ext x o, R1, .refl, fun _ _ z => z⟩
theorem walkW_tup {a : Addr} {vs : List V} {ws : List W} (h : FTup F H (Oq ι S B) a vs) (r : RpL F H (Oq ι S B) ws vs) : WalkW F ι S B H (Itt F.K a) ws := by
  refine ⟨_, _, by rw [r.1]; exact walk_tup (K := F.K) (a := a) (xs := vs), fun ι1 S1 B1 H1 x o R1 => ⟨(h.ext x o).sq, fun i y H2 w hw hy => ?_⟩⟩
  obtain ⟨rfl, hy⟩ := hy
  obtain ⟨v, hv, rv⟩ := r.get hw
  rw [hv] at hy; cases hy
  exact ⟨rv.ext x o, R1, .refl, fun _ _ z => z⟩
end
/-- a list that stays -/
def dItL (d : DE) : DI := fun e S => (d e S).bind fun u S1 => match u with
  | .v (.lst l) => .ok l S1
  | _ => .no
def dItT (d : DE) : DI := fun e S => (d e S).bind fun u S1 => match u with
  | .v (.tup l) => .ok l S1
  | _ => .no
theorem iv_list (h : PEv ec X e da) : PIv ec X tg e (dItL da) :=
  ⟨fun pn xe Wx tk => (pi_list (h.run pn xe Wx tk)).imp fun σ H Q ⟨env, S, ι, B, R, E, h⟩ => LE.thenI R E h fun u S1 v H1 ι1 G1 R1 E1 ru h1 => by
    cases u with
    | o n => exact h1.elim
    | v w =>
      cases w with
      | lst l =>
        obtain ⟨a, vs, rfl, h2, r⟩ := Rp.lst_inv ru
        exact ⟨a, rfl, ⟨vs, h2.sq (F := fx ec X)⟩, h1 _ H1 ι1 .refl R1 (walkW_lst h2 r)⟩
      | _ => exact h1.elim⟩
theorem iv_tuple (h : PEv ec X e da) : PIv ec X tg e (dItT da) :=
  ⟨fun pn xe Wx tk => (pi_tup (h.run pn xe Wx tk)).imp fun σ H Q ⟨env, S, ι, B, R, E, h⟩ => LE.thenI R E h fun u S1 v H1 ι1 G1 R1 E1 ru h1 => by
    cases u with
    | o n => exact h1.elim
    | v w =>
      cases w with
      | tup l =>
        obtain ⟨a, vs, rfl, h2, r⟩ := Rp.tup_inv ru
        exact ⟨a, rfl, ⟨vs, h2.sq (F := fx ec X)⟩, h1 _ H1 ι1 .refl R1 (walkW_tup h2 r)⟩
      | _ => exact h1.elim⟩
/-- a text, sign by sign -/
def dItS (d : DE) : DI := fun e S => (d e S).bind fun u S1 => match u with
  | .v (.str x) => .ok (x.map fun c => .str [c]) S1
  | _ => .no
theorem iv_str (h : PEv ec X e da) : PIv ec X tg e (dItS da) :=
  ⟨fun pn xe Wx tk => (pi_str (h.run pn xe Wx tk)).imp fun σ H Q ⟨env, S, ι, B, R, E, h⟩ => LE.thenI R E h fun u S1 v H1 ι1 G1 R1 E1 ru h1 => by
    cases u with
    | o n => exact h1.elim
    | v w =>
      cases w with
      | str l =>
        obtain ⟨rfl, h2, h3⟩ := Rp.str_inv ru
        refine ⟨_, rfl, h1 _ H1 ι1 .refl R1 ⟨_, _, (by have := walk_str (z := (⟨l.toArray⟩ : Str)); rw [List.length_map]; exact this), fun ι2 S2 B2 H2 x o R2 => ⟨trivial, fun i y H3 w hw hy => ?_⟩⟩⟩
        · obtain ⟨rfl, c, hc, rfl⟩ := hy
          rw [List.getElem?_map] at hw
          have hc' : l[i]? = some c := by simpa using hc
          rw [hc'] at hw
          cases some_inj hw
          have hm : c ∈ l := List.mem_of_getElem? hc'
          have := List.all_eq_true.mp h3 c hm
          exact ⟨.str [c] one_line (by simp [this]), R2, .refl, fun _ _ z => z⟩
      | _ => exact h1.elim⟩
/-- range(n) -/
def dRng1 (d : DE) : DI := fun e S => (d e S).bind fun u S1 => match u with
  | .v (.int n) => if n < 2 ^ 62 ∧ -(2 ^ 62) ≤ n then .ok ((List.range n.toNat).map fun i => .int (Int.ofNat i)) S1 else .no
  | _ => .no
theorem walkW_rng {F : Fx} {ι : List Addr} {S : Store} {B : Addr → Prop} {H : Hp} (lo : Int) (n : Nat) : WalkW F ι S B H (Itr lo n) ((List.range n).map fun i => .int (lo + Int.ofNat i)) := by
  refine ⟨_, _, by rw [List.length_map, List.length_range]; exact walk_range (lo := lo) (n := n), fun ι1 S1 B1 H1 x o R1 => ⟨trivial, fun i y H2 w hw hy => ?_⟩⟩
  obtain ⟨rfl, rfl⟩ := hy
  have hi : i < n := by
    obtain ⟨h1, _⟩ := List.getElem?_eq_some_iff.mp hw
    simpa using h1
  rw [List.getElem?_map, List.getElem?_range hi] at hw
  cases some_inj hw
  exact ⟨.int _, R1, .refl, fun _ _ z => z⟩
theorem rng0 (n : Nat) : ((List.range n).map fun i => W.int (Int.ofNat i)) = (List.range n).map fun i => W.int (0 + Int.ofNat i) := by
  apply List.map_congr_left
  intro i _
  rw [Int.zero_add]
theorem iv_rng1 (hg : Gl X "range") (hm : X.mg "range" = none) (h : PEv ec X e da) (h1 : starEach [e] X.env = (false, eval e X.env) :: starEach [] X.env := by rfl) (hs : starEach [e] X.env = [(false, eval e X.env)] := by rfl) : PIv ec X tg (.Call (.Name "range" p) [e] [] pos) (dRng1 da) :=
  ⟨fun pn xe Wx tk => (pi_range1 (X := X.tr pn xe) hg hm (pa_cons (h.run pn xe Wx tk) pa_nil h1) hs).imp fun σ H Q ⟨env, S, ι, B, R, E, h⟩ => LE.thenI R E h fun u S1 v H1 ι1 G1 R1 E1 ru h1 => by
    cases u with
    | o n => exact h1.elim
    | v w =>
      cases w with
      | int n =>
        simp only at h1
        split at h1
        · rename_i hc
          refine ⟨n, by rw [Rp.int_inv ru], hc.2, hc.1, h1 _ H1 ι1 .refl R1 ?_⟩
          rw [rng0]
          exact walkW_rng 0 n.toNat
        · exact h1.elim
      | _ => exact h1.elim⟩
/-- range(a, b) -/
def dRng2 (a b : DE) : DI := fun e S => (a e S).bind fun u S1 => (b e S1).bind fun v S2 => match u, v with
  | .v (.int i), .v (.int j) => if -(2 ^ 62) ≤ i ∧ i < 2 ^ 62 ∧ -(2 ^ 62) ≤ j ∧ j < 2 ^ 62 then .ok ((List.range (j - i).toNat).map fun k => .int (i + Int.ofNat k)) S2 else .no
  | _, _ => .no
theorem iv_rng2 (hg : Gl X "range") (hm : X.mg "range" = none) (ha : PEv ec X a da) (hb : PEv ec X b db) (h1 : starEach [a, b] X.env = (false, eval a X.env) :: starEach [b] X.env := by rfl) (h2 : starEach [b] X.env = (false, eval b X.env) :: starEach [] X.env := by rfl)
    (hs : starEach [a, b] X.env = [(false, eval a X.env), (false, eval b X.env)] := by rfl) (hs2 : starEach [b] X.env = [(false, eval b X.env)] := by rfl) : PIv ec X tg (.Call (.Name "range" p) [a, b] [] pos) (dRng2 da db) :=
  ⟨fun pn xe Wx tk => (pi_range2 (X := X.tr pn xe) hg hm (pa_cons (ha.run pn xe Wx tk) (pa_cons (hb.run pn xe Wx tk) pa_nil h2) h1) hs hs2).imp fun σ H Q ⟨env, S, ι, B, R, E, h⟩ => LE.thenI R E h fun u S1 v H1 ι1 G1 R1 E1 ru h1 =>
    LE.thenI R1 E1 h1 fun u2 S2 v2 H2 ι2 G2 R2 E2 ru2 h2 => by
      have ru' := RU.go G2 ru
      cases u with
      | o n => exact h2.elim
      | v w =>
        cases w with
        | int i =>
          cases u2 with
          | o n => exact h2.elim
          | v w2 =>
            cases w2 with
            | int j =>
              simp only at h2
              split at h2
              · rename_i hc
                exact ⟨i, j, by rw [Rp.int_inv ru', Rp.int_inv ru2], hc, h2 _ H2 ι2 .refl R2 (walkW_rng i (j - i).toNat)⟩
              · exact h2.elim
            | _ => exact h2.elim
        | _ => exact h2.elim⟩

/-! ### for -/
def dLoop (t : W → Env' → Option Env') (body : DS) : List W → DS
  | [], e, S => .ok (.nx e) S
  | w :: r, e, S => match t w e with
    | none => .no
    | some e1 => match body e1 S with
      | .ok (.nx e2) S2 => dLoop t body r e2 S2
      | .ok (.ct e2) S2 => dLoop t body r e2 S2
      | .ok (.bk e2) S2 => .ok (.nx e2) S2
      | r => r
def dFor (src : DI) (t : W → Env' → Option Env') (body : DS) : DS := fun e S => (src e S).st e fun ws S1 => dLoop t body ws e S1
theorem Go.lo {ι ι' : List Addr} {S S' : Store} {H H' : Hp} {B : Addr → Prop} (g : Go ι S H ι' S' H') : Ext (Oq ι S B) H H' ∧ Own (Oq ι S B) (Oq ι' S' B) H := ⟨g.extq, g.ownq⟩
theorem sv_for {g : TG} {src : DI} {t : W → Env' → Option Env'} {sl : List Nat} (hc : X.calm = true) (hi : PIv ec X tg iter src) (hg : PGv ec X tg g t sl) (hb : PSsv ec X body ds) (hs : ∀ x, foldedSetIterable iter X.env x = pure x := by intro _; rfl) : PSv ec X (.For tg iter body [] pos) (dFor src t ds) := by
  obtain ⟨a1, a2⟩ := hg
  refine ⟨fun pn xe Wx tk po => (ps_for (X := X.tr pn xe) po hc (hi.run pn xe Wx tk) (a1 pn xe) (hb.run pn xe Wx tk po) hs).imp fun D σ H ⟨env, S, ι, B, R, E, h⟩ => ?_⟩
  show LI (fx ec X) Wx src σ H _
  refine ⟨env, S, ι, B, R, E, ?_⟩
  unfold dFor at h
  cases ee : src env S with
  | no => rw [ee] at h; exact h
  | ex c S1 => rw [ee] at h; exact fun H1 ι1 G1 R1 => h σ H1 ι1 G1 R1 (E.go G1)
  | ok ws S1 =>
    rw [ee] at h
    simp only [Re.st_ok] at h
    rintro J H1 ι1 G1 R1 ⟨G, Y, wk, st⟩
    refine for_it wk (fun i σ' H' => ∃ (env' : Env') (S' : Store) (ι' : List Addr), Go ι1 S1 H1 ι' S' H' ∧ RS (fx ec X) ι' S' B H' ∧ ER (fx ec X) H' ι' S' B env' σ' ∧ PoS (fx ec X) Wx ι' S' B H' (dLoop t ds (ws.drop i) env' S') D)
      ⟨env, S1, ι1, .refl, R1, E.go G1, by rw [List.drop_zero]; exact h.go G1⟩ (fun i σ' H' _ ⟨_, _, _, G', R', _, _⟩ => (st _ _ _ _ G'.lo.1 G'.lo.2 R').1) ?_ ?_
    · rintro i x σ' H' H2 hi ⟨env', S', ι', G', R', E', h'⟩ hy
      have hw : ws[i]? = some ws[i] := by simp [hi]
      obtain ⟨rx, R2, G2, _⟩ := (st _ _ _ _ G'.lo.1 G'.lo.2 R').2 i x H2 ws[i] hw hy
      have hd : ws.drop i = ws[i] :: ws.drop (i + 1) := List.drop_eq_getElem_cons hi
      rw [hd] at h'
      unfold dLoop at h'
      cases e1 : t ws[i] env' with
      | none => simp only [e1] at h'; exact h'.elim
      | some env1 =>
        simp only [e1] at h'
        refine a2 ws[i] env' env1 e1 x σ' H2 ι' S' B _ rx (E'.go G2) fun σ2 E2 _ => ?_
        refine ⟨env1, S', ι', B, R2, E2, ?_⟩
        have h2 := h'.go G2
        cases e2 : ds env1 S' with
        | no => simp only [e2] at h2; exact h2
        | ex c e3 S3 => simp only [e2] at h2; exact h2
        | ok f S3 =>
          cases f with
          | nx e3 =>
            simp only [e2] at h2
            exact fun σ3 H3 ι3 G3 R3 E3 => ⟨e3, S3, ι3, G'.trans (G2.trans G3), R3, E3, h2.go G3⟩
          | ct e3 =>
            simp only [e2] at h2
            exact fun σ3 H3 ι3 G3 R3 E3 => ⟨e3, S3, ι3, G'.trans (G2.trans G3), R3, E3, h2.go G3⟩
          | bk e3 => simp only [e2] at h2; exact h2
          | rt u => simp only [e2] at h2; exact h2
    · rintro σ' H' ⟨env', S', ι', G', R', E', h'⟩
      rw [List.drop_length] at h'
      exact h' σ' H' ι' .refl R' E'

/-! ### while -/
def whN (t : DT) (b : DS) : Nat → DS
  | 0, _, _ => .no
  | n + 1, e, S => (t e S).st e fun k S1 => if k = true then (match b e S1 with
      | .ok (.nx e2) S2 => whN t b n e2 S2
      | .ok (.ct e2) S2 => whN t b n e2 S2
      | .ok (.bk e2) S2 => .ok (.nx e2) S2
      | r => r) else .ok (.nx e) S1
open Classical in
noncomputable def dWhile (t : DT) (b : DS) : DS := fun e S => if h : ∃ n, whN t b n e S ≠ .no then whN t b h.choose e S else .no
theorem whN_mono {t : DT} {b : DS} : ∀ {n m : Nat} {e : Env'} {S : Store}, n ≤ m → whN t b n e S ≠ .no → whN t b m e S = whN t b n e S
  | 0, _, _, _, _, h => absurd rfl h
  | n + 1, 0, _, _, h, _ => absurd h (by omega)
  | n + 1, m + 1, e, S, hl, h => by
    unfold whN at h ⊢
    cases e1 : t e S with
    | no => rfl
    | ex c S1 => rfl
    | ok k S1 =>
      simp only [e1, Re.st_ok] at h ⊢
      cases k with
      | false => rfl
      | true =>
        simp only [if_true] at h ⊢
        cases e2 : b e S1 with
        | no => rfl
        | ex c e3 S3 => rfl
        | ok f S3 =>
          cases f with
          | nx e3 => simp only [e2] at h ⊢; exact whN_mono (by omega) h
          | ct e3 => simp only [e2] at h ⊢; exact whN_mono (by omega) h
          | bk e3 => rfl
          | rt u => rfl
theorem dWhile_of {t : DT} {b : DS} {n : Nat} {e : Env'} {S : Store} (h : whN t b n e S ≠ .no) : dWhile t b e S = whN t b n e S := by
  have hx : ∃ n, whN t b n e S ≠ .no := ⟨n, h⟩
  unfold dWhile
  rw [dif_pos hx]
  have h2 := hx.choose_spec
  rcases Nat.le_total n hx.choose with hl | hl
  · exact whN_mono hl h
  · exact (whN_mono hl h2).symm
theorem dWhile_some {t : DT} {b : DS} {e : Env'} {S : Store} (h : dWhile t b e S ≠ .no) : ∃ n, whN t b n e S = dWhile t b e S := by
  unfold dWhile at h ⊢
  split at h
  · rename_i hx
    exact ⟨hx.choose, by rw [dif_pos hx]⟩
  · exact absurd rfl h
theorem sv_while {test : Expr} (ht : PTv ec X test tc) (hb : PSsv ec X body ds) : PSv ec X (.While test body [] pos) (dWhile tc ds) := by
  refine ⟨fun pn xe Wx tk po => (ps_while (X := X.tr pn xe) po (ht.run pn xe Wx tk) (hb.run pn xe Wx tk po)).imp fun D σ H ⟨env, S, ι, B, R, E, h⟩ => ?_⟩
  obtain ⟨n, hn⟩ := dWhile_some (t := tc) (b := ds) (e := env) (S := S) (fun z => by rw [z] at h; exact h)
  rw [← hn] at h
  refine ⟨fun m σ' H' => ∃ (env' : Env') (S' : Store) (ι' : List Addr), RS (fx ec X) ι' S' B H' ∧ ER (fx ec X) H' ι' S' B env' σ' ∧ PoS (fx ec X) Wx ι' S' B H' (whN tc ds m env' S') D, ⟨n, env, S, ι, R, E, h⟩, ?_⟩
  rintro m σ' H' ⟨env', S', ι', R', E', h'⟩
  cases m with
  | zero => exact h'.elim
  | succ m =>
    unfold whN at h'
    refine LT.thenS R' E' h' fun k S1 H1 ι1 G1 R1 E1 h1 => ?_
    cases k with
    | false => exact h1 σ' H1 ι1 .refl R1 E1
    | true =>
      simp only [if_true] at h1 ⊢
      refine ⟨fun σ2 H2 => ∃ (env' : Env') (S' : Store) (ι' : List Addr), RS (fx ec X) ι' S' B H2 ∧ ER (fx ec X) H2 ι' S' B env' σ2 ∧ PoS (fx ec X) Wx ι' S' B H2 (whN tc ds m env' S') D, fun σ2 H2 q => ⟨m, Nat.lt_succ_self m, q⟩, env', S1, ι1, B, R1, E1, ?_⟩
      cases e2 : ds env' S1 with
      | no => simp only [e2] at h1; exact h1
      | ex c e3 S3 => simp only [e2] at h1; exact h1
      | ok f S3 =>
        cases f with
        | nx e3 => simp only [e2] at h1; exact fun σ3 H3 ι3 G3 R3 E3 => ⟨e3, S3, ι3, R3, E3, h1.go G3⟩
        | ct e3 => simp only [e2] at h1; exact fun σ3 H3 ι3 G3 R3 E3 => ⟨e3, S3, ι3, R3, E3, h1.go G3⟩
        | bk e3 => simp only [e2] at h1; exact h1
        | rt u => simp only [e2] at h1; exact h1
/-- how a while is run: n turns are enough -/
theorem dWhile_step {t : DT} {b : DS} {e : Env'} {S : Store} : dWhile t b e S = (t e S).st e fun k S1 => if k = true then (match b e S1 with
      | .ok (.nx e2) S2 => dWhile t b e2 S2
      | .ok (.ct e2) S2 => dWhile t b e2 S2
      | .ok (.bk e2) S2 => .ok (.nx e2) S2
      | r => r) else .ok (.nx e) S1 := by
  cases e1 : t e S with
  | no =>
    by_cases hx : dWhile t b e S = .no
    · exact hx
    · obtain ⟨n, hn⟩ := dWhile_some hx
      cases n with
      | zero => exact absurd (hn.symm) hx
      | succ n => rw [← hn]; unfold whN; rw [e1]; rfl
  | ex c S1 =>
    have : whN t b 1 e S = .ex c e S1 := by unfold whN; rw [e1]; rfl
    rw [dWhile_of (n := 1) (by rw [this]; simp), this]
    rfl
  | ok k S1 =>
    simp only [Re.st_ok]
    have s : ∀ n, whN t b (n + 1) e S = if k = true then (match b e S1 with
      | .ok (.nx e2) S2 => whN t b n e2 S2
      | .ok (.ct e2) S2 => whN t b n e2 S2
      | .ok (.bk e2) S2 => .ok (.nx e2) S2
      | r => r) else .ok (.nx e) S1 := fun n => by
      conv => lhs; unfold whN
      rw [e1]; rfl
    have go : ∀ r, r ≠ Rs.no → (∃ n, whN t b (n + 1) e S = r) → dWhile t b e S = r := fun r hr ⟨n, hn⟩ => by
      rw [dWhile_of (n := n + 1) (by rw [hn]; exact hr), hn]
    have none : (∀ n, whN t b (n + 1) e S = .no) → dWhile t b e S = .no := fun hh => by
      by_cases hx : dWhile t b e S = .no
      · exact hx
      · obtain ⟨n, hn⟩ := dWhile_some hx
        cases n with
        | zero => exact absurd hn.symm hx
        | succ n => rw [hh n] at hn; exact absurd hn.symm hx
    cases k with
    | false => exact go _ (by simp) ⟨0, s 0⟩
    | true =>
      simp only [if_true] at s ⊢
      cases e2 : b e S1 with
      | no => simp only [e2] at s ⊢; exact none s
      | ex c e3 S3 => simp only [e2] at s ⊢; exact go _ (by simp) ⟨0, s 0⟩
      | ok f S3 =>
        have sub : ∀ e3, (∀ n, whN t b (n + 1) e S = whN t b n e3 S3) → dWhile t b e S = dWhile t b e3 S3 := fun e3 hh => by
          by_cases hx : dWhile t b e3 S3 = .no
          · rw [hx]
            refine none fun n => ?_
            rw [hh n]
            by_cases hz : whN t b n e3 S3 = .no
            · exact hz
            · rw [← dWhile_of hz, hx]
          · obtain ⟨n, hn⟩ := dWhile_some hx
            exact go _ hx ⟨n, by rw [hh n, hn]⟩
        cases f with
        | nx e3 => simp only [e2] at s ⊢; exact sub e3 s
        | ct e3 => simp only [e2] at s ⊢; exact sub e3 s
        | bk e3 => simp only [e2] at s ⊢; exact go _ (by simp) ⟨0, s 0⟩
        | rt u => simp only [e2] at s ⊢; exact go _ (by simp) ⟨0, s 0⟩
end
end Bel

/-! The engine, tenth part: comprehensions. -/
namespace Bel
open PySem PySem.Spec PyProof.Rows L2
/-- nothing may be raised -/
def Re.bindX {α β : Type} (r : Re α) (f : α → Store → Re β) : Re β := match r with
  | .ok a S => f a S
  | _ => .no
@[simp] theorem Re.bindX_ok {α β : Type} (a : α) (S : Store) (f : α → Store → Re β) : (Re.ok a S).bindX f = f a S := rfl
@[simp] theorem Re.bindX_ex {α β : Type} (c : Nat) (S : Store) (f : α → Store → Re β) : (Re.ex c S : Re α).bindX f = .no := rfl
@[simp] theorem Re.bindX_no {α β : Type} (f : α → Store → Re β) : (Re.no : Re α).bindX f = .no := rfl
structure PTsv (ec : Nat → Value) (X : Cx) (ifs : List Expr) (d : DT) : Prop where
  run : ∀ (pn : List (Addr × Obj)) (xe : Value → Shared → Prop) (Wx : WX), Takes (X.tr pn xe) Wx → PTs (X.tr pn xe) ifs (LT (fx ec X) Wx d)
theorem _root_.L2.PTs.imp {X : Cx} {e : List Expr} {t t' : TT} (h : PTs X e t) (hh : ∀ σ H Q, t' σ H Q → t σ H Q) : PTs X e t' := ⟨fun pins s σ H Q I q => h.run pins s σ H Q I (hh σ H Q q)⟩
def dYes : DT := fun _ S => .ok true S
section
variable {ec : Nat → Value} {X : Cx} {e c elt tg iter : Expr} {ifs : List Expr} {pos pos' spos : Pos} {tc tt : DT} {te : DE} {scope : Scope}
theorem tsv_nil : PTsv ec X [] dYes := ⟨fun pn xe Wx tk => pts_nil.imp fun σ H Q ⟨env, S, ι, B, R, E, h⟩ => h H ι .refl R⟩
theorem tsv_one (h : PTv ec X c tc) : PTsv ec X [c] tc := ⟨fun pn xe Wx tk => pts_one (h.run pn xe Wx tk)⟩
/-- the items, one by one -/
def lcL (t : W → Env' → Option Env') (tt : DT) (te : DE) (env : Env') : List W → Store → Re (List W)
  | [], S => .ok [] S
  | w :: r, S => match t w env with
    | none => .no
    | some e1 => (tt e1 S).bindX fun k S1 => if k = true then (te e1 S1).bindX fun u S2 => match u with
        | .v x => (lcL t tt te env r S2).bindX fun xs S3 => .ok (x :: xs) S3
        | .o _ => .no
      else lcL t tt te env r S1
def dLc (own : Bool) (src : DI) (t : W → Env' → Option Env') (tt : DT) (te : DE) (vs : List Nat) : DE := fun e S => (src e S).bind fun ws S1 =>
  if ws.length ≤ 16777216 then (lcL t tt te (wipeE e vs) ws S1).bindX fun xs S2 => (Out.nl xs).put own S2 else .no
/-- hidden too -/
def hidB (B : Addr → Prop) (D : Addr) : Addr → Prop := fun a => B a ∨ a = D
section
variable {F : Fx} {Wx : WX} {σ : L2.St} {H H' : Hp} {ι ι' : List Addr} {S S' : Store} {B : Addr → Prop} {D : Addr}
theorem oq_hid {a : Addr} : Oq ι S (hidB B D) a ↔ Oq ι S B a ∨ a = D := by
  unfold Oq hidB
  constructor
  · rintro (h | h | h)
    · exact .inl (.inl h)
    · exact .inl (.inr h)
    · exact .inr h
  · rintro ((h | h) | h)
    · exact .inl h
    · exact .inr (.inl h)
    · exact .inr (.inr h)
/-- a new object is hidden -/
theorem RS.hide (R : RS F ι S B H) (hD : H D = none) (ho : HO) : RS F ι S (hidB B D) (upd H D ho) ∧ Ext (Oq ι S B) H (upd H D ho) ∧ Own (Oq ι S B) (Oq ι S (hidB B D)) H := by
  have E : Ext (Oq ι S B) H (upd H D ho) := fun x y hx _ => by rw [upd_ne (ne_of_none hx hD)]; exact hx
  have P : Own (Oq ι S B) (Oq ι S (hidB B D)) H := fun a z => (oq_hid.mp z).imp id fun e => by rw [e]; exact hD
  refine ⟨⟨R.len, R.nd, fun n o a h1 h2 => ?_, fun a h => ?_⟩, E, P⟩
  · have z := R.ob n o a h1 h2
    cases o with
    | lst ws => obtain ⟨vs, e, r⟩ := z; exact ⟨vs, by rw [upd_ne (ne_of_none e hD)]; exact e, r.ext E P⟩
    | dct ws => obtain ⟨vs, e, r⟩ := z; exact ⟨vs, by rw [upd_ne (ne_of_none e hD)]; exact e, r.ext E P⟩
    | scr ws => obtain ⟨vs, y, e, d, r⟩ := z; exact ⟨vs, y, by rw [upd_ne (ne_of_none e hD)]; exact e, d.imp (fun d => by rw [upd_ne (ne_of_none d hD)]; exact d) fun ⟨o, d⟩ => ⟨o, by rw [upd_ne (ne_of_none d hD)]; exact d⟩, r.ext E P⟩
    | tbl x q => exact TblR.ext z E P fun _ e => by rw [upd_ne (ne_of_none e hD)]; exact e
    | dead => obtain ⟨y, e⟩ := z; exact ⟨y, by rw [upd_ne (ne_of_none e hD)]; exact e⟩
  · rcases h with h | rfl
    · obtain ⟨⟨y, e⟩, n⟩ := R.hid a h
      exact ⟨⟨y, by rw [upd_ne (ne_of_none e hD)]; exact e⟩, n⟩
    · refine ⟨⟨ho, upd_same⟩, fun z => ?_⟩
      obtain ⟨y, e⟩ := R.there z
      rw [hD] at e; cases e
/-- a hidden object is written -/
theorem RS.hidW (R : RS F ι S (hidB B D) H) (ho : HO) : RS F ι S (hidB B D) (upd H D ho) ∧ Ext (Oq ι S (hidB B D)) H (upd H D ho) := by
  have nD : D ∉ ι := (R.hid D (.inr rfl)).2
  have E : Ext (Oq ι S (hidB B D)) H (upd H D ho) := fun x y hx n => by rw [upd_ne (fun z => n (by rw [z]; exact .inr (.inr rfl)))]; exact hx
  have P : Own (Oq ι S (hidB B D)) (Oq ι S (hidB B D)) H := fun _ z => .inl z
  have ne : ∀ {n : Nat} {a : Addr}, ι[n]? = some a → a ≠ D := fun {n a} h z => nD (by rw [← z]; exact List.mem_of_getElem? h)
  refine ⟨⟨R.len, R.nd, fun n o a h1 h2 => ?_, fun a h => ?_⟩, E⟩
  · have z := R.ob n o a h1 h2
    have hne := ne h2
    cases o with
    | lst ws => obtain ⟨vs, e, r⟩ := z; exact ⟨vs, by rw [upd_ne hne]; exact e, r.ext E P⟩
    | dct ws => obtain ⟨vs, e, r⟩ := z; exact ⟨vs, by rw [upd_ne hne]; exact e, r.ext E P⟩
    | scr ws => obtain ⟨vs, y, e, d, r⟩ := z; exact ⟨vs, y, by rw [upd_ne hne]; exact e, d.imp (fun d => by rw [upd_ne hne]; exact d) fun ⟨o, d⟩ => ⟨o, by rw [upd_ne hne]; exact d⟩, r.ext E P⟩
    | tbl x q => exact TblR.ext z E P fun _ e => by rw [upd_ne hne]; exact e
    | dead => obtain ⟨y, e⟩ := z; exact ⟨y, by rw [upd_ne hne]; exact e⟩
  · obtain ⟨⟨y, e⟩, n⟩ := R.hid a h
    by_cases hz : a = D
    · subst hz; exact ⟨⟨ho, upd_same⟩, n⟩
    · exact ⟨⟨y, by rw [upd_ne hz]; exact e⟩, n⟩
theorem oq_less {a : Addr} (h : Oq ι S B a) : Oq ι S (hidB B D) a := oq_hid.mpr (.inl h)
/-- a hidden list comes out, as a plain value, or owned -/
theorem RS.show_ (R : RS F ι S (hidB B D) H) (nB : ¬ B D) {own : Bool} {l : List W} {vs : List V} (hD : H D = some (.lst vs)) (r : RpL F H (Oq ι S (hidB B D)) l vs) {u : U} {S' : Store} (h : (Out.nl l).put own S = .ok u S') :
    ∃ ι', RS F ι' S' B H ∧ (∀ a, Ow ι' S' a → Ow ι S a ∨ a = D) ∧ (∃ t, ι' = ι ++ t) ∧ RU F H ι' S' B u (.ref D) := by
  have nD : D ∉ ι := (R.hid D (.inr rfl)).2
  have nO : ¬ Oq ι S B D := fun z => by
    rcases z with ⟨n, o, h1, h2, h3⟩ | z
    · exact nD (List.mem_of_getElem? h3)
    · exact nB z
  have R0 : RS F ι S B H := ⟨R.len, R.nd, fun n o a h1 h2 => (R.ob n o a h1 h2).less fun b => oq_less, fun a hb => R.hid a (.inl hb)⟩
  cases own with
  | false =>
    cases h
    exact ⟨ι, R0, fun _ z => .inl z, ⟨[], by simp⟩, .mkLst ⟨hD, nO⟩ (r.less fun b => oq_less)⟩
  | true =>
    cases h
    have hd : Ob.lst l ≠ Ob.dead := by simp
    have sub : ∀ b, Oq (ι ++ [D]) (S ++ [.lst l]) B b → Oq ι S (hidB B D) b := fun b z => by
      rcases z with z | z
      · rcases (ow_push R.len hd).mp z with z | z
        · exact .inl z
        · exact .inr (.inr z)
      · exact .inr (.inl z)
    refine ⟨ι ++ [D], ⟨by simp [R.len], ?_, fun n q a h1 h2 => ?_, fun a hb => ?_⟩, fun a z => (ow_push R.len hd).mp z, ⟨[D], rfl⟩, D, by rw [← R.len]; simp, rfl⟩
    · rw [List.nodup_append]
      refine ⟨R.nd, by simp, fun x hx y hy e => ?_⟩
      simp at hy
      subst hy
      subst e
      exact nD hx
    · by_cases hn : n < S.length
      · rw [List.getElem?_append_left hn] at h1
        rw [List.getElem?_append_left (by rw [R.len]; exact hn)] at h2
        exact (R.ob n q a h1 h2).less sub
      · rw [List.getElem?_append_right (by omega)] at h1
        rw [List.getElem?_append_right (by rw [R.len]; omega)] at h2
        obtain ⟨h4, h5⟩ := List.getElem?_eq_some_iff.mp h1
        obtain ⟨h6, h7⟩ := List.getElem?_eq_some_iff.mp h2
        simp at h5 h7
        subst h5
        subst h7
        exact ⟨vs, hD, r.less sub⟩
    · refine ⟨(R.hid a (.inl hb)).1, fun z => ?_⟩
      rcases List.mem_append.mp z with z | z
      · exact (R.hid a (.inl hb)).2 z
      · simp at z; subst z; exact nB hb
end
theorem lcL_cons {t : W → Env' → Option Env'} {env : Env'} {w : W} {r : List W} {S : Store} : lcL t tt te env (w :: r) S = match t w env with
    | none => .no
    | some e1 => (tt e1 S).bindX fun k S1 => if k = true then (te e1 S1).bindX fun u S2 => match u with
        | .v x => (lcL t tt te env r S2).bindX fun xs S3 => .ok (x :: xs) S3
        | .o _ => .no
      else lcL t tt te env r S1 := rfl
theorem wipe_wipe (σ : L2.St) (vs : List Nat) : L2.wipe (L2.wipe σ vs) vs = L2.wipe σ vs := by
  apply List.ext_getElem?
  intro j
  rw [wipe_get, wipe_get]
  split
  · cases σ[j]? <;> rfl
  · rfl
theorem ev_lc_reads {F : Fx} {Wx : WX} {σ : L2.St} {H : Hp} {Q : VK} {own : Bool} {src : DI} {g : TG} {t : W → Env' → Option Env'} {sl vs : List Nat} (hg : GSem F g t sl) (hsl : ∀ i ∈ sl, i ∈ vs) (h : LE F Wx (dLc own src t tt te vs) σ H Q) :
    tLc (LI F Wx src) g (LT F (fun _ _ _ _ => False) tt) (LE F (fun _ _ _ _ => False) te) vs σ H Q := by
  obtain ⟨env, S, ι, B, R, E, h⟩ := h
  refine ⟨env, S, ι, B, R, E, ?_⟩
  unfold dLc at h
  cases ee : src env S with
  | no => rw [ee] at h; exact h
  | ex c S1 => rw [ee] at h; exact h
  | ok ws S1 =>
    rw [ee] at h
    simp only [Re.bind_ok] at h
    split at h
    · rename_i hlen
      rintro J H1 ι1 G1 R1 ⟨G, Y, wk, st⟩ D hD
      have nB : ¬ B D := fun z => by
        obtain ⟨⟨y, e⟩, _⟩ := R1.hid D z
        rw [hD] at e; cases e
      obtain ⟨R2, E2, P2⟩ := R1.hide hD (.lst [])
      have h0 := h.go G1
      refine lc_it wk (fun i H' => ∃ (S' : Store) (ι' : List Addr) (acc : List W) (us : List V), Ext (Ow ι1 S1) H1 H' ∧ Own (Oq ι1 S1 B) (Oq ι' S' (hidB B D)) H1 ∧ (∀ a, Ow ι' S' a → Ow ι1 S1 a ∨ H1 a = none) ∧ (∃ t, ι' = ι1 ++ t) ∧ RS F ι' S' (hidB B D) H' ∧ ER F H' ι' S' (hidB B D) (wipeE env vs) (L2.wipe σ vs) ∧
          H' D = some (.lst us) ∧ RpL F H' (Oq ι' S' (hidB B D)) acc us ∧ acc.length ≤ i ∧
          ((lcL t tt te (wipeE env vs) ws S1).bindX fun xs S2 => (Out.nl xs).put own S2) = (lcL t tt te (wipeE env vs) (ws.drop i) S').bindX fun xs S2 => (Out.nl (acc ++ xs)).put own S2)
        ⟨S1, ι1, [], [], fun x y hx n => by rw [upd_ne (ne_of_none hx hD)]; exact hx, P2, fun _ z => .inl z, ⟨[], by simp⟩, R2, ?_, upd_same, .nil, Nat.le_refl _, by rw [List.drop_zero]; rfl⟩ ?_ ?_ ?_
      · have := (E.go G1).wipe vs
        exact ⟨this.len, fun i u hu => by
          obtain ⟨v, h1, r⟩ := this.get i u hu
          refine ⟨v, h1, ?_⟩
          cases u with
          | v w => exact Rp.ext E2 P2 r
          | o n => exact r⟩
      · rintro i H' hi ⟨S', ι', acc, us, x1, o1, _, _, R', _⟩
        exact (st ι' S' (hidB B D) H' (fun a ho hz n => x1 a ho hz fun z => n (.inl z)) o1 R').1
      · rintro i x H' H3 hi ⟨S', ι', acc, us, x1, o1, o1', p1, R', E', hDu, rA, hacc, eq⟩ hy
        have hw : ws[i]? = some ws[i] := by simp [hi]
        obtain ⟨rx, R3, G3, same⟩ := (st ι' S' (hidB B D) H' (fun a ho hz n => x1 a ho hz fun z => n (.inl z)) o1 R').2 i x H3 ws[i] hw hy
        have hd : ws.drop i = ws[i] :: ws.drop (i + 1) := List.drop_eq_getElem_cons hi
        rw [hd] at eq
        -- the whole is not nothing
        have live : ∀ {r : Re U}, ((lcL t tt te (wipeE env vs) ws S1).bindX fun xs S2 => (Out.nl xs).put own S2) = r → r ≠ .no := fun {r} e z => by
          rw [e, z] at h0; exact h0
        rw [lcL_cons] at eq
        cases e1 : t ws[i] (wipeE env vs) with
        | none => simp only [e1, Re.bindX_no] at eq; exact absurd rfl (live eq)
        | some env1 =>
          simp only [e1] at eq
          refine hg ws[i] _ env1 e1 x (L2.wipe σ vs) H3 ι' S' (hidB B D) _ rx (E'.go G3) fun σ2 Eσ w2 => ⟨?_, ?_⟩
          · exact (w2 vs hsl).trans (wipe_wipe σ vs)
          refine ⟨env1, S', ι', hidB B D, R3, Eσ, ?_⟩
          cases e2 : tt env1 S' with
          | no => simp only [e2, Re.bindX_no] at eq; exact absurd rfl (live eq)
          | ex c S3 => simp only [e2, Re.bindX_ex, Re.bindX_no] at eq; exact absurd rfl (live eq)
          | ok k S3 =>
            simp only [e2, Re.bindX_ok] at eq
            intro H4 ι4 G4 R4
            have G34 := G3.trans G4
            -- what is known behind the test
            have x4 : Ext (Ow ι1 S1) H1 H4 := fun a ho hz n => by
              have n' : ¬ Ow ι' S' a := fun z => (o1' a z).elim n fun q => by rw [hz] at q; cases q
              exact G34.ext a ho (x1 a ho hz n) n'
            have o4' : ∀ a, Ow ι4 S3 a → Ow ι1 S1 a ∨ H1 a = none := fun a z => by
              rcases G34.own a z with q | q
              · exact o1' a q
              · by_cases n : Ow ι1 S1 a
                · exact .inl n
                · cases e : H1 a with
                  | none => exact .inr rfl
                  | some ho => rw [x1 a ho e n] at q; cases q
            have o4 : Own (Oq ι1 S1 B) (Oq ι4 S3 (hidB B D)) H1 := fun a z => by
              rcases z with z | z | z
              · exact (o4' a z).imp .inl id
              · exact .inl (.inr z)
              · rw [z]; exact .inr hD
            have p4 : ∃ t, ι4 = ι1 ++ t := by
              obtain ⟨q1, rfl⟩ := p1
              obtain ⟨q2, rfl⟩ := G34.pre
              exact ⟨q1 ++ q2, by simp⟩
            have D4 : H4 D = some (.lst us) := G34.ext D _ hDu fun ⟨n, o, _, _, h3⟩ => (R'.hid D (.inr rfl)).2 (List.mem_of_getElem? h3)
            have E4 : ER F H4 ι4 S3 (hidB B D) (wipeE env vs) (L2.wipe σ vs) := E'.go G34
            cases k with
            | false =>
              simp only [Bool.false_eq_true, if_false] at eq ⊢
              exact ⟨S3, ι4, acc, us, x4, o4, o4', p4, R4, E4, D4, rA.go G34, by omega, eq⟩
            | true =>
              simp only [if_true] at eq ⊢
              refine ⟨env1, S3, ι4, hidB B D, R4, Eσ.go G4, ?_⟩
              cases e3 : te env1 S3 with
              | no => simp only [e3, Re.bindX_no] at eq; exact absurd rfl (live eq)
              | ex c S5 => simp only [e3, Re.bindX_ex, Re.bindX_no] at eq; exact absurd rfl (live eq)
              | ok u S5 =>
                simp only [e3, Re.bindX_ok] at eq
                intro y H5 ι5 G5 R5 ry
                cases u with
                | o n => simp only [Re.bindX_no] at eq; exact absurd rfl (live eq)
                | v z =>
                  simp only at eq
                  have D5 : H5 D = some (.lst us) := G5.ext D _ D4 fun ⟨n, o, _, _, h3⟩ => (R4.hid D (.inr rfl)).2 (List.mem_of_getElem? h3)
                  have rA5 := (rA.go G34).go G5
                  obtain ⟨R6, x6⟩ := R5.hidW (.lst (us ++ [y]))
                  have P6 : Own (Oq ι5 S5 (hidB B D)) (Oq ι5 S5 (hidB B D)) H5 := fun _ z => .inl z
                  refine ⟨us, D5, ?_, S5, ι5, acc ++ [z], us ++ [y], ?_, ?_, ?_, ?_, R6, ?_, upd_same, ?_, ?_, ?_⟩
                  · rw [← rA.1, sizeLine_is]; omega
                  · intro a ho hz n
                    have n4 : ¬ Ow ι4 S3 a := fun q => (o4' a q).elim n fun q => by rw [hz] at q; cases q
                    have e5 := G5.ext a ho (x4 a ho hz n) n4
                    rw [upd_ne (fun q => by rw [q, hD] at hz; cases hz)]
                    exact e5
                  · intro a q
                    rcases q with q | q | q
                    · rcases G5.own a q with q | q
                      · exact (o4' a q).imp .inl id
                      · by_cases n : Ow ι1 S1 a
                        · exact .inl (.inl n)
                        · cases e : H1 a with
                          | none => exact .inr rfl
                          | some ho => rw [x4 a ho e n] at q; cases q
                    · exact .inl (.inr q)
                    · rw [q]; exact .inr hD
                  · intro a q
                    rcases G5.own a q with q | q
                    · exact o4' a q
                    · by_cases n : Ow ι1 S1 a
                      · exact .inl n
                      · cases e : H1 a with
                        | none => exact .inr rfl
                        | some ho => rw [x4 a ho e n] at q; cases q
                  · obtain ⟨q1, rfl⟩ := p4
                    obtain ⟨q2, rfl⟩ := G5.pre
                    exact ⟨q1 ++ q2, by simp⟩
                  · have E5 := E4.go G5
                    exact ⟨E5.len, fun j u hu => by
                      obtain ⟨v, h1, r⟩ := E5.get j u hu
                      refine ⟨v, h1, ?_⟩
                      cases u with
                      | v w => exact Rp.ext x6 P6 r
                      | o n => exact r⟩
                  · exact (rA5.ext x6 P6).append (.cons (Rp.ext x6 P6 ry) .nil)
                  · simp; omega
                  · rw [eq]
                    cases e7 : lcL t tt te (wipeE env vs) (ws.drop (i + 1)) S5 with
                    | ok xs S8 => simp [List.append_assoc]
                    | ex c S8 => rfl
                    | no => rfl
      · rintro H' ⟨S', ι', acc, us, x1, o1, o1', p1, R', E', hDu, rA, hacc, eq⟩
        rw [List.drop_length] at eq
        have eq' : ((lcL t tt te (wipeE env vs) ws S1).bindX fun xs S2 => (Out.nl xs).put own S2) = (Out.nl acc).put own S' := by
          rw [eq]; show (Out.nl (acc ++ [])).put own S' = _; rw [List.append_nil]
        rw [eq'] at h0
        cases e9 : (Out.nl acc).put own S' with
        | ok u S9 =>
          rw [e9] at h0
          obtain ⟨ι9, R9, o9, p9, r9⟩ := R'.show_ nB hDu rA e9
          refine h0 (.ref D) H' ι9 ⟨x1, fun a z => ?_, ?_⟩ R9 r9
          · rcases o9 a z with q | q
            · exact o1' a q
            · rw [q]; exact .inr hD
          · obtain ⟨q1, rfl⟩ := p1
            obtain ⟨q2, rfl⟩ := p9
            exact ⟨q1 ++ q2, by simp⟩
        | ex c S9 => cases own <;> cases e9
        | no => cases own <;> cases e9
    · exact h.elim
theorem ev_lc {own : Bool} {src : DI} {g : TG} {t : W → Env' → Option Env'} {sl : List Nat} {ow : List (Str × Nat)} (hc : X.calm = true) (hN : X.N.Nodup) (hi : PIv ec X tg iter src) (ok : BlkOk X.N X.env.scope scope ow)
    (hg : ∀ (s : Shared) (H : Hp) (C : Addr) (cl : List (Str × Addr)) (fp : List Addr), PGv ec (X.blk s H scope (compEnvC scope cl C X.env) fp) tg g t sl) (ht : ∀ (s : Shared) (H : Hp) (C : Addr) (cl : List (Str × Addr)) (fp : List Addr), PTsv ec (X.blk s H scope (compEnvC scope cl C X.env) fp) ifs tt)
    (he : ∀ (s : Shared) (H : Hp) (C : Addr) (cl : List (Str × Addr)) (fp : List Addr), PEv ec (X.blk s H scope (compEnvC scope cl C X.env) fp) elt te) (hsl : ∀ i ∈ sl, i ∈ ow.map (·.2)) (hs : ∀ x, foldedSetIterable iter X.env x = pure x := by intro _; rfl) :
    PEv ec X (.ListComp elt [⟨tg, iter, ifs, 0⟩] scope pos) (dLc own src t tt te (ow.map (·.2))) :=
  ⟨fun pn xe Wx tk => ⟨fun pins s σ H Q I h => (pe_lc (X := X.tr pn xe) (own := ow) hc hN (hi.run pn xe Wx tk) ok (fun s H C cl fp => (hg s H C cl fp).pg [] _) (fun s H C cl fp => (ht s H C cl fp).run [] _ _ takes0) (fun s H C cl fp => (he s H C cl fp).run [] _ _ takes0) hs).run pins s σ H Q I
    (ev_lc_reads (hg s H 0 [] []).sem hsl h)⟩⟩
/-- y = [..] on one line, y a local -/
theorem sv_setLc {own : Bool} {src : DI} {g : TG} {t : W → Env' → Option Env'} {sl : List Nat} {ow : List (Str × Nat)} {i : Nat} {y : Str} {py : Pos} (hc : X.calm = true) (hN : X.N.Nodup) (hy : X.N[i]? = some y) (hyl : X.env.scope.names.lookup y = some .local)
    (hsw : swapsWith (.ListComp elt [⟨tg, iter, ifs, 0⟩] scope pos) (some (.Name y py)) spos.line X.env = pure true) (hi : PIv ec X tg iter src) (ok : BlkOk X.N X.env.scope scope ow)
    (hg : ∀ (s : Shared) (H : Hp) (C : Addr) (cl : List (Str × Addr)) (fp : List Addr), PGv ec (X.blk s H scope (compEnvC scope cl C X.env) fp) tg g t sl) (ht : ∀ (s : Shared) (H : Hp) (C : Addr) (cl : List (Str × Addr)) (fp : List Addr), PTsv ec (X.blk s H scope (compEnvC scope cl C X.env) fp) ifs tt)
    (he : ∀ (s : Shared) (H : Hp) (C : Addr) (cl : List (Str × Addr)) (fp : List Addr), PEv ec (X.blk s H scope (compEnvC scope cl C X.env) fp) elt te) (hsl : ∀ i ∈ sl, i ∈ ow.map (·.2)) (hs : ∀ x, foldedSetIterable iter X.env x = pure x := by intro _; rfl) :
    PSv ec X (.Assign [.Name y py] (.ListComp elt [⟨tg, iter, ifs, 0⟩] scope pos) spos) (dAsg i (dLc own src t tt te (ow.map (·.2)))) :=
  ⟨fun pn xe Wx tk po => ⟨fun pins s σ H D I h => (ps_setLc (X := X.tr pn xe) (own := ow) hc hN hy hyl hsw (hi.run pn xe Wx tk) ok (fun s H C cl fp => (hg s H C cl fp).pg [] _) (fun s H C cl fp => (ht s H C cl fp).run [] _ _ takes0) (fun s H C cl fp => (he s H C cl fp).run [] _ _ takes0) hs).run pins s σ H D I (by
    have h' := asg_reads h
    exact ev_lc_reads (hg s H 0 [] []).sem hsl h')⟩⟩
end
end Bel

/-! The engine, eleventh part: defs, calls. -/
namespace Bel
open PySem PySem.Spec PyProof.Rows L2
/-- what a def does with its arguments and the store -/
abbrev DF := List U → Store → Re U
/-- the def's own objects are forgotten, but what it gives back -/
def fin (n : Nat) (u : U) (S' : Store) : Re U := match u with
  | .v w => .ok (.v w) (S'.take n)
  | .o k => if k < n then .ok (.o k) (S'.take n) else match S'[k]? with
    | some ob => .ok (.o n) (S'.take n ++ [ob])
    | none => .no
def fnD (nl : Nat) (body : DS) : DF := fun us S => match body (us.map some ++ List.replicate (nl - us.length) none) S with
  | .ok (.nx _) S' => fin S.length (.v .non) S'
  | .ok (.rt u) S' => fin S.length u S'
  | .ex c _ S' => .ex c (S'.take S.length)
  | _ => .no
def spD (F : Fx) (d : DF) (n : Nat) : Sp := fun vs H Q E => ∃ (us : List U) (S : Store) (ι : List Addr) (B : Addr → Prop), RS F ι S B H ∧ RUs F H ι S B us vs ∧ us.length = n ∧ match d us S with
  | .ok u S' => ∀ v H' ι', Go ι S H ι' S' H' → RS F ι' S' B H' → RU F H' ι' S' B u v → Q v H'
  | .ex c S' => ∀ H' ι', Go ι S H ι' S' H' → RS F ι' S' B H' → E (F.ec c) none H'
  | .no => False
section
variable {F : Fx} {H H' : Hp} {ι ι' : List Addr} {S S' : Store} {B : Addr → Prop}
theorem Go.len (R : RS F ι S B H) (R' : RS F ι' S' B H') (G : Go ι S H ι' S' H') : S.length ≤ S'.length ∧ ι'.take S.length = ι := by
  obtain ⟨t, rfl⟩ := G.pre
  have h1 := R.len
  have h2 := R'.len
  rw [List.length_append] at h2
  exact ⟨by omega, by rw [← h1, List.take_left]⟩
theorem ow_take {n : Nat} {a : Addr} (h : Ow (ι'.take n) (S'.take n) a) : Ow ι' S' a := by
  obtain ⟨m, o, h1, h2, h3⟩ := h
  rw [List.getElem?_take] at h1 h3
  split at h1
  · rename_i hm
    rw [if_pos hm] at h3
    exact ⟨m, o, h1, h2, h3⟩
  · cases h1
/-- the store without what is behind -/
theorem RS.cut (R' : RS F ι' S' B H') (n : Nat) : RS F (ι'.take n) (S'.take n) B H' := by
  refine ⟨by simp [R'.len], R'.nd.sublist (List.take_sublist _ _), fun m o a h1 h2 => ?_, fun a h => ⟨(R'.hid a h).1, fun z => (R'.hid a h).2 (List.mem_of_mem_take z)⟩⟩
  rw [List.getElem?_take] at h1 h2
  split at h1
  · rename_i hm
    rw [if_pos hm] at h2
    exact (R'.ob m o a h1 h2).less fun b z => z.imp ow_take id
  · cases h1
theorem cut_go (R : RS F ι S B H) (R' : RS F ι' S' B H') (G : Go ι S H ι' S' H') : RS F ι (S'.take S.length) B H' ∧ Go ι S H ι (S'.take S.length) H' := by
  obtain ⟨h1, h2⟩ := G.len R R'
  have R2 := R'.cut S.length
  rw [h2] at R2
  refine ⟨R2, G.ext, fun a z => G.own a ?_, [], by simp⟩
  rw [← h2] at z
  exact ow_take z
theorem fin_ok (R : RS F ι S B H) (R' : RS F ι' S' B H') (G : Go ι S H ι' S' H') {u : U} {v : V} (ru : RU F H' ι' S' B u v) {u2 : U} {S2 : Store} (h : fin S.length u S' = .ok u2 S2) :
    ∃ ι2, RS F ι2 S2 B H' ∧ Go ι S H ι2 S2 H' ∧ RU F H' ι2 S2 B u2 v := by
  obtain ⟨R2, G2⟩ := cut_go R R' G
  obtain ⟨hl, ht⟩ := G.len R R'
  have sub : ∀ b, Oq ι (S'.take S.length) B b → Oq ι' S' B b := fun b z => z.imp (fun z => by rw [← ht] at z; exact ow_take z) id
  cases u with
  | v w =>
    cases h
    exact ⟨ι, R2, G2, Rp.less sub ru⟩
  | o k =>
    obtain ⟨a, ha, rfl⟩ := ru
    simp only [fin] at h
    split at h
    · rename_i hk
      cases h
      exact ⟨ι, R2, G2, a, by rw [← ht, List.getElem?_take, if_pos hk]; exact ha, rfl⟩
    · rename_i hk
      cases e : S'[k]? with
      | none => simp only [e] at h; cases h
      | some ob =>
        simp only [e] at h
        cases h
        have kl : ι.length ≤ k := by rw [R.len]; omega
        have na : a ∉ ι := fun z => by
          obtain ⟨m, hm, em⟩ := List.getElem_of_mem z
          have e1 : ι'[m]? = some a := by
            obtain ⟨t, rfl⟩ := G.pre
            rw [List.getElem?_append_left hm]
            simp [hm, em]
          obtain ⟨h4, h5⟩ := List.getElem?_eq_some_iff.mp ha
          obtain ⟨h6, h7⟩ := List.getElem?_eq_some_iff.mp e1
          have := (List.getElem_inj R'.nd).mp (h5.trans h7.symm)
          omega
        have ow2 : ∀ b, Ow (ι ++ [a]) (S'.take S.length ++ [ob]) b → Ow ι' S' b := fun b z => by
          obtain ⟨m, o, h1, h2, h3⟩ := z
          have lt : (S'.take S.length).length = ι.length := by rw [List.length_take, R.len]; omega
          by_cases hm : m < ι.length
          · rw [List.getElem?_append_left (by omega)] at h1
            rw [List.getElem?_append_left hm] at h3
            exact ow_take (n := S.length) ⟨m, o, h1, h2, by rw [ht]; exact h3⟩
          · rw [List.getElem?_append_right (by omega)] at h1 h3
            obtain ⟨h4, h5⟩ := List.getElem?_eq_some_iff.mp h1
            obtain ⟨h6, h7⟩ := List.getElem?_eq_some_iff.mp h3
            simp at h5 h7
            subst h5
            subst h7
            exact ⟨k, _, e, h2, ha⟩
        have sub2 : ∀ b, Oq (ι ++ [a]) (S'.take S.length ++ [ob]) B b → Oq ι' S' B b := fun b z => z.imp (ow2 b) id
        have lt : (S'.take S.length).length = ι.length := by rw [List.length_take, R.len]; omega
        refine ⟨ι ++ [a], ⟨by simp [lt], ?_, fun m o b h1 h2 => ?_, fun b hb => ?_⟩, ⟨G.ext, fun b z => G.own b (ow2 b z), [a], rfl⟩, a, ?_, rfl⟩
        · rw [List.nodup_append]
          refine ⟨R.nd, by simp, fun x hx y hy e => ?_⟩
          simp at hy
          subst hy
          subst e
          exact na hx
        · by_cases hm : m < ι.length
          · rw [List.getElem?_append_left (by omega)] at h1
            rw [List.getElem?_append_left hm] at h2
            rw [List.getElem?_take] at h1
            split at h1
            · refine (R'.ob m o b h1 ?_).less sub2
              obtain ⟨t, rfl⟩ := G.pre
              rw [List.getElem?_append_left hm]
              exact h2
            · cases h1
          · rw [List.getElem?_append_right (by omega)] at h1 h2
            obtain ⟨h4, h5⟩ := List.getElem?_eq_some_iff.mp h1
            obtain ⟨h6, h7⟩ := List.getElem?_eq_some_iff.mp h2
            simp at h5 h7
            subst h5
            subst h7
            exact (R'.ob k _ _ e ha).less sub2
        · obtain ⟨h1, h2⟩ := R'.hid b hb
          refine ⟨h1, fun z => ?_⟩
          rcases List.mem_append.mp z with z | z
          · exact (R.hid b hb).2 z
          · simp at z; subst z; exact h2 (List.mem_of_getElem? ha)
        · rw [List.getElem?_append_right (by rw [R.len]; omega), R.len]
          simp
end
theorem spD_len {F : Fx} {d : DF} {n : Nat} : ∀ vs H Q E, spD F d n vs H Q E → vs.length = n := fun vs H Q E ⟨us, S, ι, B, _, r, h, _⟩ => by rw [← h]; exact (Paired.length r).symm
theorem RUs.begin_ {F : Fx} {H : Hp} {ι : List Addr} {S : Store} {B : Addr → Prop} {us : List U} {vs : List V} (r : RUs F H ι S B us vs) (N : List Str) : ER F H ι S B (us.map some ++ List.replicate (N.length - us.length) none) (L2.start N vs) := by
  have hl := Paired.length r
  refine ⟨by simp [L2.start, hl], fun i u h => ?_⟩
  have get : ∀ {us : List U} {vs : List V} {i : Nat} {u : U}, RUs F H ι S B us vs → us[i]? = some u → ∃ v, vs[i]? = some v ∧ RU F H ι S B u v := by
    intro us vs i u r h
    induction r generalizing i with
    | nil => simp at h
    | cons a t ih =>
      cases i with
      | zero => simp at h; subst h; exact ⟨_, rfl, a⟩
      | succ i => simpa using ih (by simpa using h)
  by_cases hi : i < us.length
  · rw [List.getElem?_append_left (by simpa using hi)] at h
    rw [List.getElem?_map] at h
    have e : us[i]? = some us[i] := by simp [hi]
    rw [e] at h
    cases h
    obtain ⟨v, h1, h2⟩ := get r e
    refine ⟨v, ?_, h2⟩
    unfold L2.start
    rw [List.getElem?_append_left (by rw [List.length_map, ← hl]; exact hi), List.getElem?_map, h1]
    rfl
  · rw [List.getElem?_append_right (by simpa using hi), List.getElem?_replicate] at h
    split at h <;> cases h
section
variable {P : Program} {w : World} {K : PySem.W.Frag} {mg : Str → Option Value} {base : Heap} {ec : Nat → Value}
/-- THE RULE for a def -/
theorem def_ok {x qual : Str} {params : Arguments} {body : List Stmt} {scope : Scope} {dvs : List V} {kws : List (Str × V)} {f : Addr} {fd : FuncData} {N ps : List Str} {k n nl : Nat} {d : DS} (Fn : FunD K x qual params body scope dvs kws f fd) (S : FnScope N ps scope) (hn : ps.length = n) (hnl : N.length = nl)
    (hb : ∀ (cdv : Value) (A : Around) (outer : List Env) (s : Shared) (H : Hp) (E : XK), Room k (A.deeper (envOfC qual scope s.heap.objs.size f cdv)) →
      PSsv ec (cxOf (L2.CX P w) P w K mg base N qual scope f cdv A outer s H E) body d) : FnOk P w K mg base (L2.CX P w) (k + 1) f fd ps (spD ⟨K, w, ec⟩ (fnD nl d) n) := by
  subst hn hnl
  refine Fn.ok S spD_len (fun cdv A outer s H vs Q E hr h => ⟨LS ⟨K, w, ec⟩ (fun cls d _ H => E cls d H) d, (hb cdv A outer s H E hr).run [] _ _ (takes_of rfl rfl rfl rfl) (passes_of rfl), ?_⟩)
  obtain ⟨us, St, ι, B, R, r, hl, h⟩ := h
  refine ⟨_, St, ι, B, R, r.begin_ N, ?_⟩
  unfold fnD at h
  cases e : d (us.map some ++ List.replicate (N.length - us.length) none) St with
  | no => rw [e] at h; exact h
  | ex c e1 S1 =>
    rw [e] at h
    intro σ' H' ι' G R' E'
    obtain ⟨R2, G2⟩ := cut_go R R' G
    exact h H' ι G2 R2
  | ok fl S1 =>
    rw [e] at h
    cases fl with
    | bk e1 => exact h.elim
    | ct e1 => exact h.elim
    | nx e1 =>
      intro σ' H' ι' G R' E'
      simp only at h
      cases e2 : fin St.length (.v .non) S1 with
      | ok u2 S2 =>
        rw [e2] at h
        obtain ⟨ι2, R2, G2, r2⟩ := fin_ok R R' G (u := .v .non) (v := .non) .non e2
        exact h _ H' ι2 G2 R2 r2
      | ex c S2 => cases e2
      | no => rw [e2] at h; exact h.elim
    | rt u =>
      intro v H' ι' G R' ru
      simp only at h
      cases e2 : fin St.length u S1 with
      | ok u2 S2 =>
        rw [e2] at h
        obtain ⟨ι2, R2, G2, r2⟩ := fin_ok R R' G ru e2
        exact h _ H' ι2 G2 R2 r2
      | ex c S2 =>
        unfold fin at e2
        split at e2
        · cases e2
        · split at e2
          · cases e2
          · split at e2 <;> cases e2
      | no => rw [e2] at h; exact h.elim
end
/-- f(e, ..) of a def -/
def dFn (f : DF) (n : Nat) (a : DA) : DE := fun e S => (a e S).bind fun us S1 => if us.length = n then f us S1 else .no
section
variable {ec : Nat → Value} {X : Cx} {e : Expr} {es : List Expr} {pos p : Pos} {das : DA} {df : DF} {n k : Nat} {f : Addr} {fd : FuncData} {ps : List Str} {x : Str}
theorem fn_reads {F : Fx} {Wx : WX} {σ : L2.St} {H : Hp} {Q : VK} (h : LE F Wx (dFn df n das) σ H Q) : tCallS (spD F df n) (WE Wx) (LA F Wx das) σ H Q := by
  obtain ⟨env, S, ι, B, R, E, h⟩ := h
  refine LA.then_ R E h fun us S1 xs H1 ι1 G1 R1 E1 ru h1 => ?_
  split at h1
  · rename_i hn
    refine ⟨us, S1, ι1, B, R1, ru, hn, ?_⟩
    cases e1 : df us S1 with
    | ok u S' => rw [e1] at h1; exact h1
    | ex c S' => rw [e1] at h1; exact h1
    | no => rw [e1] at h1; exact h1
  · exact h1.elim
theorem ev_call (G : FnOk X.prog X.w X.K X.mg X.base (L2.CX X.prog X.w) k f fd ps (spD (fx ec X) df n)) (hr : Room k X.A) (hg : Gl X x) (hm : X.mg x = some (.ref f)) (hk : PySem.W.keepIn X.K (.ref f) = true) (hb : Binds X.K fd ps []) (ha : PAv ec X (e :: es) das)
    (hdb : (x == ("__debug__" : Str)) = false := by decide) (he : starEach (e :: es) X.env = (false, eval e X.env) :: starEach es X.env := by rfl) (hpl : (backTo pos (starEach es X.env)).any (·.1) = false := by rfl) : PEv ec X (.Call (.Name x p) (e :: es) [] pos) (dFn df n das) :=
  ⟨fun pn xe Wx tk => (pe_callS (X := X.tr pn xe) G hr hg hm hk hb (fun σ => passAt tk σ) (ha.run pn xe Wx tk) hdb he hpl).imp fun σ H Q h => fn_reads h⟩
theorem ev_call0 (G : FnOk X.prog X.w X.K X.mg X.base (L2.CX X.prog X.w) k f fd ps (spD (fx ec X) df 0)) (hr : Room k X.A) (hg : Gl X x) (hm : X.mg x = some (.ref f)) (hk : PySem.W.keepIn X.K (.ref f) = true) (hb : Binds X.K fd ps [])
    (hdb : (x == ("__debug__" : Str)) = false := by decide) : PEv ec X (.Call (.Name x p) [] [] pos) (dFn df 0 dNil) := by
  refine ⟨fun pn xe Wx tk => PE.imp (t := tCallS (spD (fx ec X) df 0) (WE Wx) tNil) ⟨fun pins s σ H Q I h => ?_⟩ fun σ H Q h => ?_⟩
  · refine wpAny_Call_Name_kw (ld_glob (X := X.tr pn xe) I hg hm ?_ hdb)
    exact PySem.W.callWith_K0 I.kIn hk (run_fnS (X := X.tr pn xe) (us := []) G hr hb (passAt tk σ) I .nil h)
  · obtain ⟨env, S, ι, B, R, E, h⟩ := h
    refine ⟨[], S, ι, B, R, .nil, rfl, ?_⟩
    simp only [dFn, dNil, Re.bind_ok, List.length_nil, if_true] at h
    cases e1 : df [] S with
    | ok u S' => rw [e1] at h; exact h
    | ex c S' => rw [e1] at h; exact h
    | no => rw [e1] at h; exact h
end
end Bel

/-! The engine, twelfth part: texts backwards, constants of the module, a law's end. -/
namespace Bel
open PySem PySem.Spec PyProof.Rows L2
section
variable {X : Cx}
theorem pe_revS {e : Expr} {te : TE} {k : Nat} {p1 p2 p3 pos : Pos} (he : PE X e te) : PE X (.Subscript e (.Slice none none (some (.UnaryOp .USub (.Constant (.int 1) k p1) p2)) p3) pos)
    (fun σ H Q => te σ H fun x H1 => ∃ z : Str, x = .str z ∧ z.length ≤ sizeLine ∧ Q (.str ⟨z.cps.toList.reverse.toArray⟩) H1) := by
  refine ⟨fun pins s σ H Q I h => Subscript_ (thn (he.run pins s σ H _ I h) fun v s1 ⟨x, H1, I1, r1, q1⟩ => ?_)⟩
  obtain ⟨z, rfl, hz, q⟩ := q1
  obtain ⟨t, rfl⟩ := r1
  have step : PO X (some (.UnaryOp .USub (.Constant (.int 1) k p1) p2)) (tPart (tUn (rU fun i => .int (-i)) (tC (.int 1)))) := po_some (pe_un un_neg pe_int)
  refine wpAny_Slice (thn (po_none.run pins s1 σ H1 (fun o J => o = none ∧ J = H1) I1 ⟨rfl, rfl⟩) fun vl s2 z2 => ?_)
  obtain ⟨l, H2, I2, pl, rfl, rfl⟩ := z2
  refine thn (po_none.run pins s2 σ H2 (fun o J => o = none ∧ J = H2) I2 ⟨rfl, rfl⟩) fun vu s3 z3 => ?_
  obtain ⟨u, H3, I3, pu, rfl, rfl⟩ := z3
  refine thn (step.run pins s3 σ H3 (fun o J => o = some (-1) ∧ J = H3) I3 ⟨1, rfl, -1, rfl, rfl, rfl⟩) fun vs s4 z4 => ?_
  obtain ⟨o, H4, I4, ps, rfl, rfl⟩ := z4
  have I5 : Inv X pins σ H4 { s4 with heap := s4.heap.push { cls := .type "slice", data := .fields #[vl, vu, vs] } } := I4.kept (t' := s4.toks) fun b ob q => Heap.get?_push_of_some _ q
  obtain ⟨l1, rfl, e1⟩ := IsPart.raw pl
  obtain ⟨l2, rfl, e2⟩ := IsPart.raw pu
  obtain ⟨l3, rfl, e3⟩ := IsPart.raw ps
  show wpAny (model X.prog X.w) X.A (subscriptTail e (.Slice none none (some (.UnaryOp .USub (.Constant (.int 1) k p1) p2)) p3) (.str z t) (.ref s4.heap.objs.size)) (EP X pins σ Q) X.xe { s4 with heap := s4.heap.push { cls := .type "slice", data := .fields #[partValue l1, partValue l2, partValue l3] } }
  refine tail_any (T := "str") (ops := [.str z t, .ref s4.heap.objs.size]) (typeIs_str _ _ _) (F.slot_str_getitem.lookup) ?_ (by with_unfolding_all rfl)
  have sp := Heap.IsSliceOf.new s4.heap (partValue l1) (partValue l2) (partValue l3)
  refine wpAny_getItem_str_slice (l := l1) (u := l2) (st := l3) ?_ ?_ ?_
  · obtain ⟨os, hos, hcs, hds⟩ := sp
    exact ⟨os, hos, hcs, hds⟩
  · rw [e3]
    rfl
  · unfold sliceMade slicePicked
    rw [e1, e2, e3]
    have er : Builtin.Str.strSliceIndices none none ((some (-1 : Int)).getD 1) z.length = (List.range z.length).reverse := by
      show sliceRange ((z.length : Int) - 1) (-1) (-1) = _
      rw [PySem.W.krv_sliceRange, PySem.W.krv_range]
    show Made.post (if (((some (-1 : Int)).getD 1 == 1) && (Builtin.Str.strSliceIndices none none ((some (-1 : Int)).getD 1) z.length).length == z.length) = true then Made.val (.str z t) else Made.str ⟨((Builtin.Str.strSliceIndices none none ((some (-1 : Int)).getD 1) z.length).filterMap (z.cps[·]?)).toArray⟩) (EP X pins σ Q) _
    rw [er, if_neg (by simp)]
    have ez : (List.range z.length).reverse.filterMap (z.cps[·]?) = z.cps.toList.reverse := by
      rw [List.filterMap_reverse]
      exact congrArg List.reverse (PySem.W.krv_all z.cps)
    rw [ez]
    refine ⟨?_, .str _, H4, I5.tok _, ⟨_, rfl⟩, q⟩
    show z.cps.toList.reverse.toArray.size ≤ sizeLine
    simpa [Str.length] using hz
end
end Bel

/-! The engine, thirteenth part: constants of the module, defs by name, a law's end. -/
namespace Bel
open PySem PySem.Spec PyProof.Rows L2
/-! ### texts backwards -/
def dRevS (d : DE) : DE := fun e S => (d e S).bind fun u S1 => match dr S1 u with
  | some (.str x) => .ok (.v (.str x.reverse)) S1
  | _ => .no
section
variable {ec : Nat → Value} {X : Cx} {e : Expr} {da : DE}
theorem ev_revS {k : Nat} {p1 p2 p3 pos : Pos} (h : PEv ec X e da) : PEv ec X (.Subscript e (.Slice none none (some (.UnaryOp .USub (.Constant (.int 1) k p1) p2)) p3) pos) (dRevS da) :=
  ⟨fun pn xe Wx tk => (pe_revS (h.run pn xe Wx tk)).imp fun σ H Q ⟨env, S, ι, B, R, E, h⟩ => by
    refine LE.then_ R E h fun u S1 v H1 ι1 G1 R1 E1 ru h1 => ?_
    cases q : dr S1 u with
    | none => rw [q] at h1; exact h1.elim
    | some w =>
      rw [q] at h1
      cases w with
      | str x =>
        have r := RU.rt R1 ru q
        have rr : Rp (fx ec X) H1 (Oq ι1 S1 B) (.str x) v := r
        obtain ⟨rfl, hl, ho⟩ := rr.str_inv
        refine ⟨_, rfl, by simpa [Str.length] using hl, h1 _ H1 ι1 .refl R1 ?_⟩
        exact .str x.reverse (by simpa using hl) (by simpa using ho)
      | _ => exact h1.elim⟩
end
/-! ### constants -/
def repL (f : W → Value → Bool) : List W → List Value → Bool
  | [], [] => true
  | w :: ws, u :: us => f w u && repL f ws us
  | _, _ => false
def repB (K : PySem.W.Frag) : Nat → W → Value → Bool
  | n + 1, w, u => match w, u with
    | .non, .none => true
    | .bl b, .bool c => b == c
    | .int i, .int j _ => decide (i = j)
    | .str x, .str y _ => decide (y = (⟨x.toArray⟩ : Str)) && (x.all okCp && decide (x.length ≤ 16777216))
    | .tup ws, .ref a => (match K.lookup a with
      | some ⟨.type c, none, .seq its _, _⟩ => decide (c = "tuple") && (decide (its.size ≤ 16777216) && repL (repB K n) ws its.toList)
      | _ => false)
    | _, _ => false
  | 0, _, _ => false
/-- w stands for the module's value u, wherever K is the written part -/
def KonV (K : PySem.W.Frag) (w : W) (u : Value) : Prop := ∃ v, RelV v u ∧ ∀ (F : Fx), F.K = K → ∀ (H : Hp) (O : Addr → Prop), Rp F H O w v
theorem repL_ok {K : PySem.W.Frag} {f : W → Value → Bool} (hf : ∀ w u, f w u = true → KonV K w u) : ∀ (ws : List W) (us : List Value), repL f ws us = true → ∃ vs, Vals vs us ∧ ∀ (F : Fx), F.K = K → ∀ (H : Hp) (O : Addr → Prop), RpL F H O ws vs
  | [], [], _ => ⟨[], .nil, fun _ _ _ _ => .nil⟩
  | [], _ :: _, h => by cases h
  | _ :: _, [], h => by cases h
  | w :: ws, u :: us, h => by
    obtain ⟨h1, h2⟩ := He.ba (show (f w u && repL f ws us) = true from h)
    obtain ⟨v, r, q⟩ := hf w u h1
    obtain ⟨vs, rs, qs⟩ := repL_ok hf ws us h2
    exact ⟨v :: vs, .cons r rs, fun F e H O => .cons (q F e H O) (qs F e H O)⟩
theorem repB_ok {K : PySem.W.Frag} : ∀ (n : Nat) (w : W) (u : Value), repB K n w u = true → KonV K w u
  | 0, _, _, h => by cases h
  | n + 1, w, u, h => by
    cases w with
    | non => cases u with
      | none => exact ⟨.non, rfl, fun _ _ _ _ => .non⟩
      | _ => cases h
    | bl b => cases u with
      | bool c =>
        have e : b = c := eq_of_beq (show (b == c) = true from h)
        subst e
        exact ⟨.bl b, rfl, fun _ _ _ _ => .bl b⟩
      | _ => cases h
    | int i => cases u with
      | int j t =>
        have e : i = j := of_decide_eq_true h
        subst e
        exact ⟨.int i, ⟨t, rfl⟩, fun _ _ _ _ => .int i⟩
      | _ => cases h
    | str x => cases u with
      | str y t =>
        obtain ⟨h1, h2⟩ := He.ba (show (decide (y = (⟨x.toArray⟩ : Str)) && (x.all okCp && decide (x.length ≤ 16777216))) = true from h)
        obtain ⟨h3, h4⟩ := He.ba h2
        have e := of_decide_eq_true h1
        subst e
        exact ⟨.str ⟨x.toArray⟩, ⟨t, rfl⟩, fun _ _ _ _ => .str x (by rw [sizeLine_is]; exact of_decide_eq_true h4) h3⟩
      | _ => cases h
    | tup ws => cases u with
      | ref a =>
        have h1 : (match K.lookup a with
          | some ⟨.type c, none, .seq its _, _⟩ => decide (c = "tuple") && (decide (its.size ≤ 16777216) && repL (repB K n) ws its.toList)
          | _ => false) = true := h
        cases q : K.lookup a with
        | none => rw [q] at h1; cases h1
        | some o =>
          obtain ⟨oc, od, dt, osl⟩ := o
          rw [q] at h1
          cases oc with
          | type c =>
            cases od with
            | none =>
              cases dt with
              | seq its m =>
                obtain ⟨h2, h3⟩ := He.ba (show (decide (c = "tuple") && (decide (its.size ≤ 16777216) && repL (repB K n) ws its.toList)) = true from h1)
                obtain ⟨h4, h5⟩ := He.ba h3
                obtain ⟨vs, r, z⟩ := repL_ok (repB_ok n) ws its.toList h5
                refine ⟨.ref a, rfl, fun F e H O => .mkTup (.inr ?_) (z F e H O)⟩
                exact ⟨_, its, m, by rw [e]; exact q, congrArg Value.type (of_decide_eq_true h2), rfl, rfl, by rw [sizeLine_is]; exact of_decide_eq_true h4, r⟩
              | _ => cases h1
            | some _ => cases dt <;> cases h1
          | _ => cases od <;> cases dt <;> cases h1
      | _ => cases h
    | _ => cases h
abbrev Con' : Type := Str × W
def konB (K : PySem.W.Frag) (p : Con') : Bool := match PySem.W.nsIn K mainGlobals p.1 with
  | some (some u) => repB K 9 p.2 u
  | _ => false
def KonM (K : PySem.W.Frag) (mg : Str → Option Value) (x : Str) (w : W) : Prop := ∃ u, mg x = some u ∧ KonV K w u
theorem konB_ok {K : PySem.W.Frag} {h : Heap} {mg : Str → Option Value} (X : K.In h) (G : h.Ns mainGlobals mg) {x : Str} {w : W} (c : konB K (x, w) = true) : KonM K mg x w := by
  unfold konB at c
  cases q : PySem.W.nsIn K mainGlobals x with
  | none => simp only [q] at c; cases c
  | some r =>
    simp only [q] at c
    cases r with
    | none => cases c
    | some u => exact ⟨u, PySem.W.mg_of X G q, repB_ok 9 w u c⟩
theorem KonM.kon {ec : Nat → Value} {X : Cx} {x : Str} {w : W} (h : KonM X.K X.mg x w) : Kon ec X x w := by
  obtain ⟨u, h1, v, r, q⟩ := h
  exact ⟨v, u, h1, r, fun H O => q (fx ec X) rfl H O⟩
/-! ### no list of the module -/
def noLst (K : PySem.W.Frag) : Bool := K.all fun p => match p.2.cls with
  | .type c => !decide (c = "list")
  | _ => true
theorem noLst_ok {K : PySem.W.Frag} (h : noLst K = true) {a : Addr} {o : Obj} (q : K.lookup a = some o) : o.cls ≠ .type "list" := fun e => by
  have z := List.all_eq_true.mp h (a, o) (He.lookup_mem q)
  simp only [e] at z
  exact absurd z (by decide)
/-! ### defs by name -/
def Has (P : Program) (w : World) (K : PySem.W.Frag) (mg : Str → Option Value) (base : Heap) (ec : Nat → Value) (x : Str) (k n : Nat) (d : DF) : Prop :=
  ∃ (f : Addr) (fd : FuncData) (ps : List Str), FnOk P w K mg base (L2.CX P w) k f fd ps (spD ⟨K, w, ec⟩ d n) ∧ mg x = some (.ref f) ∧ PySem.W.keepIn K (.ref f) = true ∧ Binds K fd ps []
theorem Has.mono {P : Program} {w : World} {K : PySem.W.Frag} {mg : Str → Option Value} {base : Heap} {ec : Nat → Value} {x : Str} {j k n : Nat} {d : DF} (h : Has P w K mg base ec x j n d) (hk : j ≤ k) : Has P w K mg base ec x k n d := by
  obtain ⟨f, fd, ps, h1, h2⟩ := h
  exact ⟨f, fd, ps, h1.mono hk, h2⟩
section
variable {ec : Nat → Value} {X : Cx} {e : Expr} {es : List Expr} {pos p : Pos} {das : DA} {df : DF} {n k : Nat} {x : Str}
theorem ev_fn (h : Has X.prog X.w X.K X.mg X.base ec x k n df) (hr : Room k X.A) (hg : Gl X x) (ha : PAv ec X (e :: es) das)
    (hdb : (x == ("__debug__" : Str)) = false := by decide) (he : starEach (e :: es) X.env = (false, eval e X.env) :: starEach es X.env := by rfl) (hpl : (backTo pos (starEach es X.env)).any (·.1) = false := by rfl) : PEv ec X (.Call (.Name x p) (e :: es) [] pos) (dFn df n das) := by
  obtain ⟨f, fd, ps, h1, h2, h3, h4⟩ := h
  exact ev_call h1 hr hg h2 h3 h4 ha hdb he hpl
theorem ev_fn0 (h : Has X.prog X.w X.K X.mg X.base ec x k 0 df) (hr : Room k X.A) (hg : Gl X x) (hdb : (x == ("__debug__" : Str)) = false := by decide) : PEv ec X (.Call (.Name x p) [] [] pos) (dFn df 0 dNil) := by
  obtain ⟨f, fd, ps, h1, h2, h3, h4⟩ := h
  exact ev_call0 h1 hr hg h2 h3 h4 hdb
end
/-- what the head tells -/
structure Hd (K : PySem.W.Frag) (mg : Str → Option Value) (fa : List He.Fa) (fn : List He.DefD) (kc : List Con') : Prop where
  says : He.SaysD fa fn K
  gl : ∀ x, (He.Fa.glo x).ok K = true → mg x = some (.ref (He.ga K x))
  fr : ∀ x, (He.Fa.free x).ok K = true → mg x = none
  kn : ∀ p ∈ kc, KonM K mg p.1 p.2
  nol : noLst K = true
section
variable {P : Program} {w : World} {K : PySem.W.Frag} {mg : Str → Option Value} {base : Heap} {ec : Nat → Value} {fa : List He.Fa} {fn : List He.DefD} {kc : List Con'}
theorem Hd.free (Z : Hd K mg fa fn kc) (i : Nat) {x : Str} (h : fa[i]? = some (.free x) := by rfl) : mg x = none := Z.fr x (Z.says.fact i h)
theorem Hd.con (Z : Hd K mg fa fn kc) (i : Nat) {x : Str} {v : W} (h : kc[i]? = some (x, v) := by rfl) : KonM K mg x v := Z.kn (x, v) (List.mem_of_getElem? h)
theorem Hd.def_ (Z : Hd K mg fa fn kc) (i j : Nat) {x qual : Str} {params : Arguments} {body : List Stmt} {scope : Scope} {N ps : List Str} {k n nl : Nat} {d : DS}
    (h : fn[i]? = some ⟨(x, none), x, qual, params, body, scope, [], []⟩) (hg : fa[j]? = some (.glo x)) (S : FnScope N ps scope) (hn : ps.length = n) (hnl : N.length = nl)
    (hbi : ∀ (kV doc pm : Value) (an : Option Addr) (cdv ct : Value) (us : List Value), us.length = ps.length → bindArgs (PySem.W.fnOf x qual params body scope .none kV doc pm an cdv ct) ⟨us, []⟩ = pure (ps.zip us))
    (hb : ∀ (f : Addr) (cdv : Value) (A : Around) (outer : List Env) (s : Shared) (H : Hp) (E : XK), Room k (A.deeper (envOfC qual scope s.heap.objs.size f cdv)) →
      PSsv ec (cxOf (L2.CX P w) P w K mg base N qual scope f cdv A outer s H E) body d) : Has P w K mg base ec x (k + 1) n (fnD nl d) := by
  obtain ⟨fd, F⟩ := Z.says.def_ i h
  refine ⟨He.ga K x, fd, ps, def_ok (P := P) (w := w) (mg := mg) (base := base) F S hn hnl fun cdv A outer s H E hr => hb _ cdv A outer s H E hr, Z.gl x (Z.says.fact j hg), F.kp, F.bindsN hbi⟩
end
/-! ### a law's end -/
theorem cx_none {P : Program} {w : World} {H : Hp} {s s' : Shared} {e : Value} (h : L2.CX P w [] H s (fun _ _ _ => False) e s') : False := by
  obtain ⟨a, B, H', cls, d, _, _, _, _, _, _, _, z⟩ := h
  exact z
theorem law_sp {F : Fx} {df : DF} (hK : noLst F.K = true) {H : Hp} {a : Addr} {ns : List Int} (hO : Only H) (hS : SqL F.K H a (ns.map V.int)) (h : ∃ S', df [.o 0] [.scr (ns.map W.int)] = .ok (.v (.bl true)) S') : spD F df 1 [.ref a] H (fun v _ => v = .bl true) fun _ _ _ => False := by
  obtain ⟨S', h⟩ := h
  rcases hS with hS | ⟨o, its, n, h1, h2, _⟩
  · have rp : ∀ O, RpL F H O (ns.map W.int) (ns.map V.int) := fun O => by
      clear h hS
      induction ns with
      | nil => exact .nil
      | cons i r ih => exact .cons (.int i) ih
    refine ⟨[.o 0], [.scr (ns.map W.int)], [a], fun _ => False, ⟨rfl, by simp, fun m o b e1 e2 => ?_, fun _ z => z.elim⟩, .cons ⟨a, rfl, rfl⟩ .nil, rfl, ?_⟩
    · cases m with
      | zero =>
        simp at e1 e2
        subst e1 e2
        obtain ⟨ho, e⟩ : ∃ ho, H a = some ho := by
          rcases hS with z | ⟨q, z⟩
          · exact ⟨_, z⟩
          · exact ⟨_, z⟩
        exact ⟨_, ho, e, hS, rp _⟩
      | succ m => simp at e1
    · rw [h]
      intro v H' ι' G R r
      exact Rp.bl_inv r
  · exact absurd h2 (noLst_ok hK h1)
theorem Hd.law_ {P : Program} {w : World} {K : PySem.W.Frag} {mg : Str → Option Value} {ec : Nat → Value} {fa : List He.Fa} {fn : List He.DefD} {kc : List Con'} (Z : Hd K mg fa fn kc) (i : Nat) {x y qual : Str} {params : Arguments} {body : List Stmt} {scope : Scope} {N : List Str} {k nl : Nat} {d : DS}
    (h : fn[i]? = some ⟨(x, none), x, qual, params, body, scope, [], []⟩) (S : FnScope N [y] scope) (hnl : N.length = nl)
    (hbi : ∀ (kV doc pm : Value) (an : Option Addr) (cdv ct : Value) (us : List Value), us.length = [y].length → bindArgs (PySem.W.fnOf x qual params body scope .none kV doc pm an cdv ct) ⟨us, []⟩ = pure ([y].zip us))
    (hb : ∀ (base : Heap) (f : Addr) (cdv : Value) (A : Around) (outer : List Env) (s : Shared) (H : Hp) (E : XK), Room k (A.deeper (envOfC qual scope s.heap.objs.size f cdv)) →
      PSsv ec (cxOf (L2.CX P w) P w K mg base N qual scope f cdv A outer s H E) body d) :
    ∃ fd, (∀ (s : Shared) (u : Value), BindsTo s fd ⟨[u], []⟩ [(y, u)]) ∧ ∀ base : Heap, FnOk P w K mg base (L2.CX P w) (k + 1) (He.ga K x) fd [y] (spD ⟨K, w, ec⟩ (fnD nl d) 1) := by
  obtain ⟨fd, F⟩ := Z.says.def_ i h
  exact ⟨fd, fun s u => F.bindsA hbi s [u] rfl, fun base => def_ok (P := P) (w := w) (mg := mg) (base := base) F S rfl hnl fun cdv A outer s H E hr => hb base _ cdv A outer s H E hr⟩
theorem law_end {l : PySem.W.OpenLaw} {n k : Nat} {q : Program} {loose : List Str} {XP : (Str → Option Value) → Heap → Prop} {d : DefRec} {x y : Str} {fa : List He.Fa} {fn : List He.DefD} {kc : List Con'} {m : Nat}
    (hn : l.most = some n) (hn2 : n ≤ sizeLine) (hdf : d.params.defaults = []) (hr : Room k callerA) (hx : d.name = x) (j : Nat) (hj : fa[j]? = some (.glo x)) (df : DF)
    (F : ∀ (w : World) (mg : Str → Option Value) (K : PySem.W.Frag), Hd K mg fa fn kc → ∃ (ec : Nat → Value) (fd : FuncData), (∀ (s : Shared) (u : Value), BindsTo s fd ⟨[u], []⟩ [(y, u)]) ∧
      ∀ base : Heap, FnOk l.prog w K mg base (L2.CX l.prog w) k (He.ga K x) fd [y] (spD ⟨K, w, ec⟩ df 1))
    (L : ∀ ns : List Int, ns.length ≤ n → ∃ S', df [.o 0] [.scr (ns.map W.int)] = .ok (.v (.bl true)) S') :
    PySem.W.WalkO q loose XP (He.hookX m fa fn [] [] fun K => noLst K && kc.all (konB K)).says l.row.toRowW d [] (fun f vs => PySem.call f vs) := by
  refine Att.attach_call hn hdf fun w s₀ s₁ mg mb ad o pm cd doc a vs ns G Y ho hd hcd hmg hobj hints hlen hg => ?_
  obtain ⟨K, KX, c⟩ := Y
  obtain ⟨z1, z2⟩ := He.ba c.more
  have Z : Hd K mg fa fn kc := ⟨c.t.d, fun x e => He.glo_ok KX G.T.g e, fun x e => He.free_ok KX G.T.g e, fun p hp => konB_ok KX G.T.g (List.all_eq_true.mp z2 p hp), z1⟩
  obtain ⟨ec, fd, hb, hF⟩ := F w mg K Z
  have e := hmg.symm.trans (hx ▸ Z.gl x (c.t.d.fact j hj))
  have ea : ad = He.ga K x := by
    injection e with e
    injection e with e
    rw [e, hx]
  subst ea
  exact law_call (sp := spD ⟨K, w, ec⟩ df 1) KX G.T.g G.T.b G.T.builtins G.T.nolimit hg hobj hints (Nat.le_trans hlen hn2) hr (fun base _ _ => hF base) hb (fun H hO hS => law_sp (F := ⟨K, w, ec⟩) z1 hO hS (L ns hlen)) fun H e s' => cx_none
end Bel

/-! The engine, fourteenth part: slices by a step of one, either way. -/
namespace Bel
open PySem PySem.Spec PyProof.Rows L2 HT
section
variable {prog : Program} {w : World} {A : Around} {E : Value → Shared → Prop} {s : Shared}
/-- back: all the places, from the last -/
theorem places_back (n : Nat) : Builtin.Slice.slicePlaces ((n : Int) - 1) (-1) (-1) = n := by
  unfold Builtin.Slice.slicePlaces
  rw [if_neg (by decide)]
  split
  · rw [show (-(-1 : Int)) = 1 by decide, Int.ediv_one]
    omega
  · omega
theorem applied_back {sl : Addr} {vl vu vs : Value} {n : Nat} {Q : Int × Int × Nat → Shared → Prop} (hs : s.heap.IsSliceOf sl vl vu vs) (pl : IsPart vl none) (pu : IsPart vu none) (ps : IsPart vs (some (-1)))
    (h : Q ((n : Int) - 1, -1, n) s) : wpAny (model prog w) A (Builtin.Slice.sliceApplied (.ref sl) (pure (n : Int))) Q E s := by
  obtain ⟨ob, h1, h2, h3⟩ := hs
  unfold Builtin.Slice.sliceApplied Builtin.Slice.sliceFields
  refine wpAny_bind (wpAny_bind (wpAny_field h1 h3 (x := vl) rfl (wpAny_bind (wpAny_field h1 h3 (x := vu) rfl (wpAny_bind (wpAny_field h1 h3 (x := vs) rfl (wpAny_pure (wpAny_bind (slicePart_ ps ?_)))))))))
  show wpAny (model prog w) A (if ((-1 : Int) == 0) = true then _ else _) Q E s
  rw [if_neg (by decide)]
  refine wpAny_bind (slicePart_ pl (wpAny_bind (slicePart_ pu (wpAny_bind (wpAny_pure (wpAny_pure ?_))))))
  show Q ((n : Int) - 1, -1, Builtin.Slice.slicePlaces ((n : Int) - 1) (-1) (-1)) s
  rw [places_back]
  exact h
theorem pick_back (xs : Array Value) : ((List.range xs.size).filterMap fun (k : Nat) => xs[(((xs.size : Int) - 1) + (k : Int) * (-1)).toNat]?) = xs.toList.reverse := by
  have e : (List.range xs.size).filterMap (fun (k : Nat) => xs[(((xs.size : Int) - 1) + (k : Int) * (-1)).toNat]?) = ((List.range xs.size).map fun k => xs.size - 1 - k).filterMap (xs[·]?) := by
    have key : ∀ l : List Nat, (∀ k ∈ l, k < xs.size) → l.filterMap (fun (k : Nat) => xs[(((xs.size : Int) - 1) + (k : Int) * (-1)).toNat]?) = (l.map fun k => xs.size - 1 - k).filterMap (xs[·]?) := fun l => by
      induction l with
      | nil => intro _; rfl
      | cons k r ih =>
        intro hl
        have hk := hl k List.mem_cons_self
        have ek : (((xs.size : Int) - 1) + (k : Int) * (-1)).toNat = xs.size - 1 - k := by omega
        rw [List.map_cons, List.filterMap_cons, List.filterMap_cons, ih fun j hj => hl j (List.mem_cons_of_mem _ hj), ek]
    exact key _ fun k hk => List.mem_range.mp hk
  rw [e, PySem.W.krv_range, List.filterMap_reverse, PySem.W.krv_all]
theorem tup_back {t sl : Addr} {items : Array Value} {vl vu vs : Value} {Q : Value → Shared → Prop} (ht : IsTup s.heap t items) (hs : s.heap.IsSliceOf sl vl vu vs) (pl : IsPart vl none) (pu : IsPart vu none) (ps : IsPart vs (some (-1)))
    (hz : items.size ≤ sizeLine) (h : Q (.ref s.heap.objs.size) { s with heap := s.heap.push { cls := .type "tuple", data := .seq items.toList.reverse.toArray } }) : wpAny (model prog w) A (getItem (.ref t) (.ref sl)) Q E s := by
  have sz : sizeOk (.seq items.toList.reverse.toArray) := by
    show items.toList.reverse.toArray.size ≤ sizeLine
    simpa using hz
  have ty : s.TypeIs (.ref sl) "slice" := by
    obtain ⟨ob, h1, h2, _⟩ := hs
    exact ⟨ob, h1, h2⟩
  unfold getItem
  (try with_reducible refine wpAny_holding ?_)
  (first | refine wpAny_bind (wpAny_pure ?_) | skip)
  refine wpAny_bind (wpAny_sequenceKey ht.typeIs (by decide) (wpAny_bind (wpAny_callSpecial?_slot (name := Str.ofString "__getitem__") ht.typeIs PyProof.Rows.slot_tuple_getitem (wpAny_call_entry PyProof.Rows.slot_tuple_getitem ht.typeIs entry_tuple_getitem ?_ (args_tuple_getitem _ _)))))
  show wpAny _ _ (Builtin.Tuple.tupleItemsOf (.ref t) >>= _) _ _ s
  refine wpAny_bind (tupleItemsOf_ ht (wpAny_bind (wpAny_typeOf ty ?_)))
  rw [if_pos (by decide)]
  refine wpAny_bind (applied_back hs pl pu ps ?_)
  have no : ¬ ((((items.size : Int) - 1) == 0 && (-1 : Int) == 1 && items.size == items.size) = true) := by
    intro q
    rw [Bool.and_eq_true, Bool.and_eq_true] at q
    exact absurd q.1.2 (by decide)
  show wpAny _ _ (if ((((items.size : Int) - 1) == 0 && (-1 : Int) == 1 && items.size == items.size) = true) then _ else _) _ _ s
  rw [if_neg no, pick_back]
  first
    | exact wpAny_bind (m := Builtin.Tuple.tupleExact _) (wpAny_newObj_type (wpAny_pure ⟨_, rfl, wpAny_pure h⟩) sz)
    | exact wpAny_bind (m := Builtin.Tuple.tupleExact _) (wpAny_newObj_type (wpAny_bind (wpAny_pure (wpAny_pure ⟨_, rfl, wpAny_pure h⟩))) sz)
    | exact wpAny_bind (wpAny_bind (m := Builtin.Tuple.tupleExact _) (wpAny_newObj_type (wpAny_pure (wpAny_pure ⟨_, rfl, wpAny_pure h⟩)) sz))
    | exact wpAny_bind (wpAny_bind (m := Builtin.Tuple.tupleExact _) (wpAny_newObj_type (wpAny_pure ⟨_, rfl, wpAny_pure h⟩) sz))
end
/-! a whole tuple, by the step 1 -/
section
variable {prog : Program} {w : World} {A : Around} {E : Value → Shared → Prop} {s : Shared}
theorem applied_fwd {sl : Addr} {vl vu vs : Value} {n : Nat} {Q : Int × Int × Nat → Shared → Prop} (hs : s.heap.IsSliceOf sl vl vu vs) (pl : IsPart vl none) (pu : IsPart vu none) (ps : IsPart vs (some 1))
    (h : Q (0, 1, n) s) : wpAny (model prog w) A (Builtin.Slice.sliceApplied (.ref sl) (pure (n : Int))) Q E s := by
  obtain ⟨ob, h1, h2, h3⟩ := hs
  unfold Builtin.Slice.sliceApplied Builtin.Slice.sliceFields
  refine wpAny_bind (wpAny_bind (wpAny_field h1 h3 (x := vl) rfl (wpAny_bind (wpAny_field h1 h3 (x := vu) rfl (wpAny_bind (wpAny_field h1 h3 (x := vs) rfl (wpAny_pure (wpAny_bind (slicePart_ ps ?_)))))))))
  show wpAny (model prog w) A (if ((1 : Int) == 0) = true then _ else _) Q E s
  rw [if_neg (by decide)]
  refine wpAny_bind (slicePart_ pl (wpAny_bind (slicePart_ pu (wpAny_bind (wpAny_pure (wpAny_pure ?_))))))
  have e := places_gen 0 n
  rw [Nat.sub_zero] at e
  show Q (0, 1, Builtin.Slice.slicePlaces ((0 : Nat) : Int) (n : Int) 1) s
  rw [e]
  exact h
theorem tup_fwd {t sl : Addr} {items : Array Value} {vl vu vs : Value} {Q : Value → Shared → Prop} (ht : IsTup s.heap t items) (hs : s.heap.IsSliceOf sl vl vu vs) (pl : IsPart vl none) (pu : IsPart vu none) (ps : IsPart vs (some 1))
    (h : Q (.ref t) s) : wpAny (model prog w) A (getItem (.ref t) (.ref sl)) Q E s := by
  have ty : s.TypeIs (.ref sl) "slice" := by
    obtain ⟨ob, h1, h2, _⟩ := hs
    exact ⟨ob, h1, h2⟩
  unfold getItem
  (try with_reducible refine wpAny_holding ?_)
  (first | refine wpAny_bind (wpAny_pure ?_) | skip)
  refine wpAny_bind (wpAny_sequenceKey ht.typeIs (by decide) (wpAny_bind (wpAny_callSpecial?_slot (name := Str.ofString "__getitem__") ht.typeIs PyProof.Rows.slot_tuple_getitem (wpAny_call_entry PyProof.Rows.slot_tuple_getitem ht.typeIs entry_tuple_getitem ?_ (args_tuple_getitem _ _)))))
  show wpAny _ _ (Builtin.Tuple.tupleItemsOf (.ref t) >>= _) _ _ s
  refine wpAny_bind (tupleItemsOf_ ht (wpAny_bind (wpAny_typeOf ty ?_)))
  rw [if_pos (by decide)]
  refine wpAny_bind (applied_fwd hs pl pu ps ?_)
  have yes : (((0 : Int) == 0 && (1 : Int) == 1 && items.size == items.size) = true) := by simp
  show wpAny _ _ (if (((0 : Int) == 0 && (1 : Int) == 1 && items.size == items.size) = true) then _ else _) _ _ s
  rw [if_pos yes]
  refine wpAny_bind ?_
  show wpAny _ _ (typeOf (.ref t) >>= fun T => pure (T == .type "tuple")) _ _ s
  refine wpAny_bind (wpAny_typeOf ht.typeIs (wpAny_pure ?_))
  first
    | rw [if_pos (by decide)]
    | simp only [beq_self_eq_true, if_true]
  first
    | exact wpAny_bind (wpAny_rule (wpAny_pure ⟨_, rfl, wpAny_pure h⟩))
    | exact wpAny_bind (wpAny_rule (wpAny_bind (wpAny_pure (wpAny_pure ⟨_, rfl, wpAny_pure h⟩))))
end
/-- e[::st] -/
def qStep (K : PySem.W.Frag) (x : V) (Q : VK) (o : Option Int) (J : Hp) : Prop :=
  (o = some (-1) ∧ ((∃ a xs, x = .ref a ∧ SqT K J a xs ∧ NewT J xs.reverse Q) ∨ (∃ a xs, x = .ref a ∧ SqL K J a xs ∧ ∀ p, J p = none → Q (.ref p) (upd J p (.lst xs.reverse))))) ∨
  (o = some 1 ∧ ∃ a xs, x = .ref a ∧ SqT K J a xs ∧ Q (.ref a) J)
def tStep (K : PySem.W.Frag) (te ts : TE) : TE := fun σ H Q => te σ H fun x H1 => tPart ts σ H1 (qStep K x Q)
theorem pe_step {X : Cx} {e st : Expr} {te ts : TE} {p3 pos : Pos} (he : PE X e te) (hst : PE X st ts) : PE X (.Subscript e (.Slice none none (some st) p3) pos) (tStep X.K te ts) := by
  refine ⟨fun pins s σ H Q I h => Subscript_ (thn (he.run pins s σ H _ I h) fun v s1 ⟨x, H1, I1, r1, q1⟩ => ?_)⟩
  refine wpAny_Slice (thn (po_none.run pins s1 σ H1 (fun o J => o = none ∧ J = H1) I1 ⟨rfl, rfl⟩) fun vl s2 z2 => ?_)
  obtain ⟨l, H2, I2, pl, rfl, rfl⟩ := z2
  refine thn (po_none.run pins s2 σ H2 (fun o J => o = none ∧ J = H2) I2 ⟨rfl, rfl⟩) fun vu s3 z3 => ?_
  obtain ⟨u, H3, I3, pu, rfl, rfl⟩ := z3
  refine thn ((po_some hst).run pins s3 σ H3 (qStep X.K x Q) I3 q1) fun vs s4 z4 => ?_
  obtain ⟨o, H4, I4, ps, q⟩ := z4
  have I5 : Inv X pins σ H4 { s4 with heap := s4.heap.push { cls := .type "slice", data := .fields #[vl, vu, vs] } } := I4.kept (t' := s4.toks) fun b ob q => Heap.get?_push_of_some _ q
  have sp := Heap.IsSliceOf.new s4.heap vl vu vs
  rcases q with ⟨rfl, ⟨a, xs, rfl, hx, q⟩ | ⟨a, xs, rfl, hx, q⟩⟩ | ⟨rfl, a, xs, rfl, hx, q⟩
  · cases r1
    show wpAny (model X.prog X.w) X.A (subscriptTail e (.Slice none none (some st) p3) (.ref a) (.ref s4.heap.objs.size)) (EP X pins σ Q) X.xe { s4 with heap := s4.heap.push { cls := .type "slice", data := .fields #[vl, vu, vs] } }
    obtain ⟨its, r, ht, hz⟩ := I5.tuple hx
    refine tail_any (T := "tuple") (ops := [.ref a, .ref s4.heap.objs.size]) ht.typeIs (PyProof.Rows.slot_tuple_getitem.lookup) ?_ (by with_unfolding_all rfl)
    have hlen := r.length
    refine tup_back ht sp pl pu ps (by rw [List.size_toArray]; omega) ?_
    exact tup_push I5 (by rw [List.length_reverse]; exact hz) r.reverse q
  · cases r1
    show wpAny (model X.prog X.w) X.A (subscriptTail e (.Slice none none (some st) p3) (.ref a) (.ref s4.heap.objs.size)) (EP X pins σ Q) X.xe { s4 with heap := s4.heap.push { cls := .type "slice", data := .fields #[vl, vu, vs] } }
    obtain ⟨its, r, ht, hz⟩ := I5.list hx
    refine tail_any (T := "list") (ops := [.ref a, .ref s4.heap.objs.size]) ht.isList.typeIs (PySem.slot_list_getitem.lookup) ?_ (by with_unfolding_all rfl)
    have hlen := r.length
    refine wpAny_getItem_list_slice ht.isList sp pl pu ps (by decide) ?_ (by rw [List.size_toArray]; omega)
    rw [PySem.W.krv_pick]
    refine ⟨.ref _, _, I5.laid (t' := s4.toks) (o := .lst xs.reverse) (fun b ob q => Heap.get?_push_of_some _ q) (Nat.le_refl _) ?_, rfl, q _ (I5.hok.fresh (Nat.le_refl _))⟩
    exact ⟨by rw [List.length_reverse]; exact hz, _, 0, r.reverse, Heap.get?_push_size _ rfl⟩
  · cases r1
    show wpAny (model X.prog X.w) X.A (subscriptTail e (.Slice none none (some st) p3) (.ref a) (.ref s4.heap.objs.size)) (EP X pins σ Q) X.xe { s4 with heap := s4.heap.push { cls := .type "slice", data := .fields #[vl, vu, vs] } }
    obtain ⟨its, r, ht, hz⟩ := I5.tuple hx
    exact tail_any (T := "tuple") (ops := [.ref a, .ref s4.heap.objs.size]) ht.typeIs (PyProof.Rows.slot_tuple_getitem.lookup) (tup_fwd ht sp pl pu ps ⟨.ref a, _, I5, rfl, q⟩) (by with_unfolding_all rfl)
/-- e[::st]: st is 1 (of a tuple: itself) or -1 -/
def dStep (own : Bool) (a b : DE) : DE := fun e S => (a e S).bind fun u S1 => (b e S1).bind fun v S2 => match dr S2 u, v with
  | some (.tup l), .v (.int i) => if i = -1 then (Out.nt l.reverse).put own S2 else if i = 1 then .ok (.v (.tup l)) S2 else .no
  | some (.lst l), .v (.int i) => if i = -1 then (Out.nl l.reverse).put own S2 else .no
  | _, _ => .no
theorem ev_step {ec : Nat → Value} {X : Cx} {e st : Expr} {da db : DE} {own : Bool} {p3 pos : Pos} (ha : PEv ec X e da) (hb : PEv ec X st db) : PEv ec X (.Subscript e (.Slice none none (some st) p3) pos) (dStep own da db) :=
  ⟨fun pn xe Wx tk => (pe_step (ha.run pn xe Wx tk) (hb.run pn xe Wx tk)).imp fun σ H Q ⟨env, S, ι, B, R, E, h⟩ => by
    refine LE.then_ R E h fun u S1 v H1 ι1 G1 R1 E1 ru h1 => ?_
    refine LE.then_ R1 E1 h1 fun u2 S2 v2 H2 ι2 G2 R2 E2 ru2 h2 => ?_
    cases q : dr S2 u with
    | none => simp only [q] at h2; exact h2.elim
    | some w =>
      have r := RU.rt R2 (RU.go G2 ru) q
      simp only [q] at h2
      cases u2 with
      | o n => cases w <;> exact h2.elim
      | v w2 =>
        cases w2 with
        | int i =>
          cases w with
          | tup l =>
            have rr : Rp (fx ec X) H2 (Oq ι2 S2 B) (.tup l) v := r
            simp only at h2
            by_cases hi : i = -1
            · rw [if_pos hi] at h2
              subst hi
              obtain ⟨a, vs, rfl, h3, h4⟩ := rr.tup_inv
              exact ⟨-1, Rp.int_inv ru2, .inl ⟨rfl, .inl ⟨a, vs, rfl, h3.sq, (put_ok R2 h2).2 _ h4.reverse⟩⟩⟩
            · rw [if_neg hi] at h2
              by_cases hj : i = 1
              · rw [if_pos hj] at h2
                subst hj
                obtain ⟨a, vs, rfl, h3, h4⟩ := rr.tup_inv
                exact ⟨1, Rp.int_inv ru2, .inr ⟨rfl, a, vs, rfl, h3.sq, h2 _ H2 ι2 .refl R2 rr⟩⟩
              · rw [if_neg hj] at h2
                exact h2.elim
          | lst l =>
            simp only at h2
            by_cases hi : i = -1
            · rw [if_pos hi] at h2
              subst hi
              obtain ⟨a, vs, rfl, h3, h4⟩ := r
              exact ⟨-1, Rp.int_inv ru2, .inl ⟨rfl, .inr ⟨a, vs, rfl, .inl h3, fun p hp => (put_ok R2 h2) p _ hp h4.reverse⟩⟩⟩
            · rw [if_neg hi] at h2
              exact h2.elim
          | _ => exact h2.elim
        | _ => cases w <;> exact h2.elim⟩
end Bel

/-! The engine, fifteenth part: xs != [], recursion by fuel. -/
namespace Bel
open PySem PySem.Spec PyProof.Rows L2
/-! ### xs != [] -/
def rNeNil (K : PySem.W.Frag) : R2 := fun x y H Q => ∃ a b xs, x = .ref a ∧ y = .ref b ∧ SqL K H a xs ∧ SqL K H b [] ∧ Q (.bl (!xs.isEmpty)) H
theorem op_neNil {X : Cx} (hu : X.A.units < cLine) : OpR X (compareOp .NotEq) (rNeNil X.K) := by
  intro pins s σ H x y v u Q I rx ry h
  obtain ⟨a, b, xs, rfl, rfl, ha, hb, q⟩ := h
  cases rx
  cases ry
  obtain ⟨its, r, h1, _⟩ := I.list ha
  obtain ⟨its2, r2, h2, _⟩ := I.list hb
  cases r2
  cases xs with
  | nil =>
    cases r
    exact SeqAt.RcNeAt.lists (e := fun _ => true) h1.isList h2.isList rfl hu (fun j z _ => absurd z (Nat.not_lt_zero j)) X.prog X.w _ _ ⟨.bl false, H, I, rfl, q⟩
  | cons z zs =>
    refine SeqAt.RcNeAt.lists_lengths h1.isList h2.isList ?_ hu X.prog X.w _ _ ⟨.bl true, H, I, rfl, q⟩
    have hl := r.length
    rw [List.size_toArray, ← hl]
    rfl
def fNeNil : W → W → Option Out
  | .lst l, .lst [] => some (.val (.bl (!l.isEmpty)))
  | _, _ => none
theorem ow_neNil {F : Fx} : OpW F fNeNil (rNeNil F.K) := by
  intro H O x y w z o Q rx ry e q
  unfold fNeNil at e
  split at e
  · rename_i l
    cases some_inj e
    obtain ⟨a, vs, rfl, h1, r1⟩ := rx
    obtain ⟨b, us, rfl, h2, r2⟩ := ry
    have e2 := r2.nil_iff
    subst e2
    have e3 : vs.isEmpty = l.isEmpty := by
      have := r1.1
      cases l <;> cases vs <;> simp_all
    exact ⟨a, b, vs, rfl, rfl, .inl h1, .inl h2, by rw [e3]; exact q _ (.bl _)⟩
  · cases e
/-! ### recursion by fuel: at none nothing is promised -/
section
variable {P : Program} {w : World} {K : PySem.W.Frag} {mg : Str → Option Value} {base : Heap} {ec : Nat → Value} {fa : List He.Fa} {fn : List He.DefD} {kc : List Con'}
theorem Hd.zero (Z : Hd K mg fa fn kc) (i j : Nat) {x qual : Str} {params : Arguments} {body : List Stmt} {scope : Scope} {ps : List Str} {k n : Nat}
    (h : fn[i]? = some ⟨(x, none), x, qual, params, body, scope, [], []⟩) (hg : fa[j]? = some (.glo x)) (hn : ps.length = n)
    (hbi : ∀ (kV doc pm : Value) (an : Option Addr) (cdv ct : Value) (us : List Value), us.length = ps.length → bindArgs (PySem.W.fnOf x qual params body scope .none kV doc pm an cdv ct) ⟨us, []⟩ = pure (ps.zip us)) : Has P w K mg base ec x k n fun _ _ => .no := by
  subst hn
  obtain ⟨fd, F⟩ := Z.says.def_ i h
  refine ⟨He.ga K x, fd, ps, ⟨spD_len, fun A outer s H args us vs Q E hr he hb hv hs => ?_⟩, Z.gl x (Z.says.fact j hg), F.kp, F.bindsN hbi⟩
  obtain ⟨_, _, _, _, _, _, _, z⟩ := hs
  exact z.elim
end
end Bel

/-! The engine, sixteenth part: methods that write an own list. -/
namespace Bel
open PySem PySem.Spec PyProof.Rows L2
/-- f tells what the list becomes, what is given back -/
def OpMu (F : Fx) (f : List W → List W → Option (List W × W)) (r : V → List V → Hp → VK → Prop) : Prop := ∀ (H : Hp) (O : Addr → Prop) (a : Addr) (vs xs : List V) (l ws l' : List W) (w : W) (Q : VK), H a = some (.lst vs) → RpL F H O l vs → RpL F H O ws xs → f l ws = some (l', w) →
  (∀ vs' v, RpL F H O l' vs' → Rp F H O w v → Q v (upd H a (.lst vs'))) → r (.ref a) xs H Q
def dMut (f : List W → List W → Option (List W × W)) (o : DE) (a : DA) : DE := fun e S => (o e S).bind fun u S1 => match u with
  | .o n => match S1[n]? with
    | some (.lst _) => (a e S1).bind fun us S2 => match S2[n]?, allV us with
      | some (.lst l), some ws => match f l ws with
        | some (l', w) => .ok (.v w) (S2.set n (.lst l'))
        | none => .no
      | _, _ => .no
    | _ => .no
  | .v _ => .no
section
variable {ec : Nat → Value} {X : Cx} {e o : Expr} {es : List Expr} {da : DE} {das : DA} {apos cpos : Pos}
theorem mut_core {F : Fx} {Wx : WX} {σ : L2.St} {H : Hp} {ι : List Addr} {S : Store} {B : Addr → Prop} {f : List W → List W → Option (List W × W)} {r : V → List V → Hp → VK → Prop} {Q : VK} (hf : OpMu F f r) (R : RS F ι S B H) {n : Nat} {a : Addr} (ha : ι[n]? = some a) {us : List U} {xs : List V} (ru : RUs F H ι S B us xs)
    (h : PoE F Wx σ ι S B H (match S[n]?, allV us with
      | some (.lst l), some ws => match f l ws with
        | some (l', w) => .ok (.v w) (S.set n (.lst l'))
        | none => .no
      | _, _ => .no) Q) : r (.ref a) xs H Q := by
  cases e1 : S[n]? with
  | none => simp only [e1] at h; exact h.elim
  | some ob =>
    cases ob with
    | lst l =>
      cases e2 : allV us with
      | none => simp only [e1, e2] at h; exact h.elim
      | some ws =>
        simp only [e1, e2] at h
        cases e3 : f l ws with
        | none => simp only [e3] at h; exact h.elim
        | some p =>
          obtain ⟨l', w⟩ := p
          simp only [e3] at h
          obtain ⟨vs, h1, h2⟩ := R.lst e1 ha
          refine hf H _ a vs xs l ws l' w Q h1 h2 (allV_rp ru e2) e3 fun vs' v r1 r2 => ?_
          obtain ⟨R', G⟩ := R.write (ho := .lst vs') (o' := .lst l') e1 (fun z => nomatch z) ha ⟨vs', rfl, r1⟩
          exact h v _ ι G R' (Rp.go G r2)
    | _ => simp only [e1] at h; exact h.elim
theorem own_ty {F : Fx} {H : Hp} {ι : List Addr} {S : Store} {B : Addr → Prop} (R : RS F ι S B H) {n : Nat} {a : Addr} {l : List W} (ha : ι[n]? = some a) (e : S[n]? = some (.lst l)) : tyV F.K "list" (.ref a) H := by
  obtain ⟨vs, h1, _⟩ := R.lst e ha
  exact .inl ⟨rfl, vs, .inl (.inl h1)⟩
theorem ev_mut0 {id : String} {name : Str} {f : List W → List W → Option (List W × W)} {r : V → List V → Hp → VK → Prop} (slot : Slot "list" name id) (hty : typeOf (.builtin id) = pure (.type "method_descriptor")) (hm : ∀ pn xe, MtM (X.tr pn xe) id r)
    (hf : OpMu (fx ec X) f r) (ho : PEv ec X o da)
    (hbase : attributeBase o name X.env (eval o X.env) = eval o X.env := by rfl) (hline : (apos.endLine == cpos.line) = true := by rfl) :
    PEv ec X (.Call (.Attribute o name apos) [] [] cpos) (dMut f da dNil) :=
  ⟨fun pn xe Wx tk => (pe_bm0 (X := X.tr pn xe) F.plainAttrs_list slot hty (hm pn xe) (ho.run pn xe Wx tk) hbase hline).imp fun σ H Q ⟨env, S, ι, B, R, E, h⟩ => by
    refine LE.then_ R E h fun u S1 x H1 ι1 G1 R1 E1 ru h1 => ?_
    cases u with
    | v w => exact h1.elim
    | o n =>
      obtain ⟨a, ha, rfl⟩ := ru
      cases e1 : S1[n]? with
      | none => simp only [e1] at h1; exact h1.elim
      | some ob =>
        cases ob with
        | lst l =>
          simp only [e1, dNil, Re.bind_ok] at h1
          refine ⟨own_ty R1 ha e1, mut_core (Wx := Wx) (σ := σ) hf R1 ha .nil ?_⟩
          simp only [e1]
          exact h1
        | _ => simp only [e1] at h1; exact h1.elim⟩
theorem ev_mut {id : String} {name : Str} {f : List W → List W → Option (List W × W)} {r : V → List V → Hp → VK → Prop} (slot : Slot "list" name id) (hty : typeOf (.builtin id) = pure (.type "method_descriptor")) (hm : ∀ pn xe, MtM (X.tr pn xe) id r)
    (hf : OpMu (fx ec X) f r) (ho : PEv ec X o da) (ha : PAv ec X (e :: es) das)
    (hbase : attributeBase o name X.env (eval o X.env) = eval o X.env := by rfl)
    (hfew : ((backTo cpos (starEach (e :: es) X.env)).all (fun x => !x.1) && (backToKw cpos (keywordEach [] X.env)).all (fun x => x.1.isSome)
      && decide ((e :: es).length + ([] : List Keyword).length + (if ([] : List Keyword).isEmpty then 0 else 1) < 30)) = true := by rfl)
    (hline : (apos.endLine == cpos.line) = true := by rfl) (hs : starEach (e :: es) X.env = (false, eval e X.env) :: starEach es X.env := by rfl) (hplain : (backTo cpos (starEach es X.env)).any (·.1) = false := by rfl) :
    PEv ec X (.Call (.Attribute o name apos) (e :: es) [] cpos) (dMut f da das) :=
  ⟨fun pn xe Wx tk => (pe_bm (X := X.tr pn xe) F.plainAttrs_list slot hty (hm pn xe) (ho.run pn xe Wx tk) (ha.run pn xe Wx tk) hbase hfew hline hs hplain).imp fun σ H Q ⟨env, S, ι, B, R, E, h⟩ => by
    refine LE.then_ R E h fun u S1 x H1 ι1 G1 R1 E1 ru h1 => ?_
    cases u with
    | v w => exact h1.elim
    | o n =>
      cases e1 : S1[n]? with
      | none => simp only [e1] at h1; exact h1.elim
      | some ob =>
        cases ob with
        | lst l =>
          simp only [e1] at h1
          obtain ⟨a, ha1, rfl⟩ := ru
          refine ⟨own_ty R1 ha1 e1, LA.then_ R1 E1 h1 fun us S2 xs H2 ι2 G2 R2 E2 rus h2 => ?_⟩
          have ha2 : ι2[n]? = some a := by
            obtain ⟨t, rfl⟩ := G2.pre
            rw [List.getElem?_append_left (List.getElem?_eq_some_iff.mp ha1).1]
            exact ha1
          exact mut_core hf R2 ha2 rus h2
        | _ => simp only [e1] at h1; exact h1.elim⟩
end
/-! ### pop(), append(x) -/
def fPop : List W → List W → Option (List W × W)
  | l, [] => match l[l.length - 1]? with
    | some w => some (l.dropLast, w)
    | none => none
  | _, _ => none
theorem om_pop {F : Fx} : OpMu F fPop rPop := by
  intro H O a vs xs l ws l' w Q h1 r1 r2 e q
  unfold fPop at e
  split at e
  · cases e1 : l[l.length - 1]? with
    | none => simp only [e1] at e; cases e
    | some y =>
      simp only [e1] at e
      obtain ⟨rfl, rfl⟩ := Prod.mk.inj (some_inj e)
      have e2 := r2.nil_iff
      subst e2
      obtain ⟨v, h3, r3⟩ := r1.get e1
      exact ⟨a, vs, v, rfl, rfl, h1, by rw [← r1.1]; exact h3, q _ v r1.dropLast r3⟩
  · cases e
def fAppend : List W → List W → Option (List W × W)
  | l, [w] => if l.length < 16777216 then some (l ++ [w], .non) else none
  | _, _ => none
theorem om_append {F : Fx} : OpMu F fAppend rAppend := by
  intro H O a vs xs l ws l' w Q h1 r1 r2 e q
  unfold fAppend at e
  split at e
  · rename_i y
    split at e
    · rename_i hl
      obtain ⟨rfl, rfl⟩ := Prod.mk.inj (some_inj e)
      obtain ⟨v, vs', rfl, h3, r3⟩ := r2.cons_iff
      have e2 := r3.nil_iff
      subst e2
      exact ⟨a, vs, v, rfl, rfl, h1, by rw [sizeLine_is, ← r1.1]; exact hl, q _ .non (r1.append (.cons h3 .nil)) .non⟩
    · cases e
  · cases e
end Bel

/-! The engine, seventeenth part: written dicts with text keys as constants. -/
namespace Bel
open PySem PySem.Spec PyProof.Rows L2
def repD (K : PySem.W.Frag) : List DictEntry → List (List Nat × W) → Bool
  | [], [] => true
  | e :: es, p :: ps => (match e.key with
    | .str x _ => decide (x = (⟨p.1.toArray⟩ : Str))
    | _ => false) && (repB K 9 p.2 e.val && repD K es ps)
  | _, _ => false
theorem repD_ok {K : PySem.W.Frag} : ∀ (es : List DictEntry) (l : List (List Nat × W)), repD K es l = true → ∃ kvs : List (Str × V), l.length = kvs.length ∧
    (∀ (i : Nat) (w : List Nat × W) (v : Str × V), l[i]? = some w → kvs[i]? = some v → v.1 = ⟨w.1.toArray⟩) ∧
    (∀ (F : Fx), F.K = K → ∀ (H : Hp) (O : Addr → Prop) (i : Nat) (w : List Nat × W) (v : Str × V), l[i]? = some w → kvs[i]? = some v → Rp F H O w.2 v.2) ∧
    (∀ x : Str, match kvs.lookup x with
      | some v => ∃ e, es.find? (·.key.isStr x) = some e ∧ RelV v e.val
      | none => es.find? (·.key.isStr x) = none) ∧ es.any (·.refKey) = false
  | [], [], _ => ⟨[], rfl, fun i w v h => by simp at h, fun F _ H O i w v h => by simp at h, fun x => rfl, rfl⟩
  | [], _ :: _, h => by cases h
  | _ :: _, [], h => by cases h
  | e :: es, p :: ps, h => by
    obtain ⟨h1, h2⟩ := He.ba h
    obtain ⟨h3, h4⟩ := He.ba h2
    obtain ⟨kvs, k1, k2, k3, k4, k5⟩ := repD_ok es ps h4
    obtain ⟨v, r, q⟩ := repB_ok 9 p.2 e.val h3
    cases ek : e.key with
    | str y t =>
      rw [ek] at h1
      have ey : y = (⟨p.1.toArray⟩ : Str) := of_decide_eq_true h1
      refine ⟨(y, v) :: kvs, by simp [k1], fun i w u a b => ?_, fun F e H O i w u a b => ?_, fun x => ?_, ?_⟩
      · cases i with
        | zero => simp at a b; subst a b; exact ey
        | succ i => simp at a b; exact k2 i w u a b
      · cases i with
        | zero => simp at a b; subst a b; exact q F e H O
        | succ i => simp at a b; exact k3 F e H O i w u a b
      · by_cases hx : x = y
        · subst hx
          have e1 : ((x, v) :: kvs).lookup x = some v := by simp [List.lookup]
          rw [e1]
          exact ⟨e, by simp [List.find?, ek, Value.isStr], r⟩
        · have e1 : ((y, v) :: kvs).lookup x = kvs.lookup x := by
            have : (x == y) = false := by simpa using hx
            simp [List.lookup, this]
          have e2 : (e :: es).find? (·.key.isStr x) = es.find? (·.key.isStr x) := by
            have : e.key.isStr x = false := by
              rw [ek]
              have : (y == x) = false := by simpa using fun z => hx z.symm
              simpa [Value.isStr] using fun z => hx z.symm
            simp [List.find?, this]
          rw [e1, e2]
          exact k4 x
      · rw [List.any_cons, k5]
        simp [DictEntry.refKey, ek]
    | _ => rw [ek] at h1; cases h1
def kdB (K : PySem.W.Frag) (p : Str × List (List Nat × W)) : Bool := match K.lookup (He.ga K p.1) with
  | some ⟨_, _, .dict es _, _⟩ => repD K es.toList p.2
  | _ => false
/-- the module's name x stands for a written dict -/
def KonD (K : PySem.W.Frag) (mg : Str → Option Value) (w : World) (x : Str) (l : List (List Nat × W)) : Prop := ∃ a, mg x = some (.ref a) ∧ ∀ (F : Fx), F.K = K → F.w = w → ∀ (H : Hp) (O : Addr → Prop), Rp F H O (.kdc l) (.ref a)
theorem kdB_ok {K : PySem.W.Frag} {mg : Str → Option Value} {w : World} {p : Str × List (List Nat × W)} (hm : mg p.1 = some (.ref (He.ga K p.1))) (hd : ∃ es n, KDict K w (He.ga K p.1) es n) (c : kdB K p = true) : KonD K mg w p.1 p.2 := by
  obtain ⟨es, n, kd⟩ := hd
  refine ⟨_, hm, fun F eK ew H O => ?_⟩
  unfold kdB at c
  simp only [kd.at_] at c
  obtain ⟨kvs, k1, k2, k3, k4, k5⟩ := repD_ok es.toList p.2 c
  refine .kdc (kvs := kvs) ⟨⟨es, n, by rw [eK]; exact kd.at_, by rw [ew]; exact kd.lit, kd.low⟩, fun x => ?_⟩ k1 k2 fun i w v a b => k3 F eK H O i w v a b
  have z := k4 x
  have en : PySem.W.nsIn F.K (He.ga K p.1) x = match es.toList.find? (·.key.isStr x) with
      | some e => some (some e.val)
      | none => if es.toList.any (·.refKey) then none else some none := by
    unfold PySem.W.nsIn
    rw [eK, kd.at_]
    rfl
  cases q : kvs.lookup x with
  | some v =>
    rw [q] at z
    obtain ⟨e, h1, r⟩ := z
    rw [h1] at en
    exact ⟨_, en, r⟩
  | none =>
    rw [q] at z
    have z : es.toList.find? (·.key.isStr x) = none := z
    rw [z, k5] at en
    exact en
theorem KonD.kon {ec : Nat → Value} {X : Cx} {x : Str} {l : List (List Nat × W)} (h : KonD X.K X.mg X.w x l) : Kon ec X x (.kdc l) := by
  obtain ⟨a, h1, q⟩ := h
  exact ⟨.ref a, .ref a, h1, rfl, fun H O => q (fx ec X) rfl rfl H O⟩
end Bel

/-! The engine, eighteenth part: the head with written dicts, a law's end over it. -/
namespace Bel
open PySem PySem.Spec PyProof.Rows L2
abbrev Kd : Type := Str × List (List Nat × W)
/-- .. and of the module's dicts -/
structure HdW (K : PySem.W.Frag) (mg : Str → Option Value) (w : World) (fa : List He.Fa) (fn : List He.DefD) (kc : List Con') (kd : List Kd) : Prop extends Hd K mg fa fn kc where
  kdn : ∀ p ∈ kd, KonD K mg w p.1 p.2
theorem HdW.dic {K : PySem.W.Frag} {mg : Str → Option Value} {w : World} {fa : List He.Fa} {fn : List He.DefD} {kc : List Con'} {kd : List Kd} (Z : HdW K mg w fa fn kc kd) (i : Nat) {x : Str} {l : List (List Nat × W)} (h : kd[i]? = some (x, l) := by rfl) : KonD K mg w x l := Z.kdn (x, l) (List.mem_of_getElem? h)
def tabs (kd : List Kd) : List He.Tab := kd.map fun p => ((fun K => He.ga K p.1), p.2.map fun q => (⟨q.1.toArray⟩ : Str))
/-- what is looked at beside the facts -/
def exB (kc : List Con') (kd : List Kd) (K : PySem.W.Frag) : Bool := noLst K && (kc.all (konB K) && (kd.all (kdB K) && kd.all fun p => (He.Fa.glo p.1).ok K))
theorem law_endW {l : PySem.W.OpenLaw} {n k : Nat} {q : Program} {loose : List Str} {XP : (Str → Option Value) → Heap → Prop} {d : DefRec} {x y : Str} {fa : List He.Fa} {fn : List He.DefD} {kc : List Con'} {kd : List Kd} {m : Nat}
    (hn : l.most = some n) (hn2 : n ≤ sizeLine) (hdf : d.params.defaults = []) (hr : Room k callerA) (hx : d.name = x) (j : Nat) (hj : fa[j]? = some (.glo x)) (df : DF)
    (F : ∀ (w : World) (mg : Str → Option Value) (K : PySem.W.Frag), HdW K mg w fa fn kc kd → ∃ (ec : Nat → Value) (fd : FuncData), (∀ (s : Shared) (u : Value), BindsTo s fd ⟨[u], []⟩ [(y, u)]) ∧
      ∀ base : Heap, FnOk l.prog w K mg base (L2.CX l.prog w) k (He.ga K x) fd [y] (spD ⟨K, w, ec⟩ df 1))
    (L : ∀ ns : List Int, ns.length ≤ n → ∃ S', df [.o 0] [.scr (ns.map W.int)] = .ok (.v (.bl true)) S') :
    PySem.W.WalkO q loose XP (He.hookX m fa fn (tabs kd) [] (exB kc kd)).says l.row.toRowW d [] (fun f vs => PySem.call f vs) := by
  refine Att.attach_call hn hdf fun w s₀ s₁ mg mb ad o pm cd doc a vs ns G Y ho hd hcd hmg hobj hints hlen hg => ?_
  obtain ⟨K, KX, c⟩ := Y
  obtain ⟨z1, z⟩ := He.ba c.more
  obtain ⟨z2, z⟩ := He.ba z
  obtain ⟨z3, z4⟩ := He.ba z
  have Z0 : Hd K mg fa fn kc := ⟨c.t.d, fun x e => He.glo_ok KX G.T.g e, fun x e => He.free_ok KX G.T.g e, fun p hp => konB_ok KX G.T.g (List.all_eq_true.mp z2 p hp), z1⟩
  have Z : HdW K mg w fa fn kc kd := ⟨Z0, fun p hp => by
    obtain ⟨i, hi, e⟩ := List.mem_iff_getElem.mp hp
    have ht : (tabs kd)[i]? = some ((fun K => He.ga K p.1), p.2.map fun q => (⟨q.1.toArray⟩ : Str)) := by
      unfold tabs
      rw [List.getElem?_map, List.getElem?_eq_getElem hi, e]
      rfl
    exact kdB_ok (Z0.gl _ (List.all_eq_true.mp z4 p hp)) (c.t.tab i ht) (List.all_eq_true.mp z3 p hp)⟩
  obtain ⟨ec, fd, hb, hF⟩ := F w mg K Z
  have e := hmg.symm.trans (hx ▸ Z0.gl x (c.t.d.fact j hj))
  have ea : ad = He.ga K x := by
    injection e with e
    injection e with e
    rw [e, hx]
  subst ea
  exact law_call (sp := spD ⟨K, w, ec⟩ df 1) KX G.T.g G.T.b G.T.builtins G.T.nolimit hg hobj hints (Nat.le_trans hlen hn2) hr (fun base _ _ => hF base) hb (fun H hO hS => law_sp (F := ⟨K, w, ec⟩) z1 hO hS (L ns hlen)) fun H e s' => cx_none
end Bel

/-! The engine, part S: while with fuel. -/
namespace Bel
open PySem PySem.Spec PyProof.Rows L2
def dWhileN (n : Nat) (t : DT) (b : DS) : DS := fun e S => whN t b n e S
theorem PSv.weak {ec : Nat → Value} {X : Cx} {st : Stmt} {d d' : DS} (h : PSv ec X st d) (k : ∀ e S, d' e S = .no ∨ d' e S = d e S) : PSv ec X st d' :=
  ⟨fun pn xe Wx tk po => (h.run pn xe Wx tk po).imp fun D σ H ⟨env, S, ι, B, R, E, q⟩ => by
    refine ⟨env, S, ι, B, R, E, ?_⟩
    rcases k env S with z | z
    · rw [z] at q; exact q.elim
    · rw [← z]; exact q⟩
theorem sv_whileN {ec : Nat → Value} {X : Cx} {test : Expr} {body : List Stmt} {pos : Pos} {tc : DT} {ds : DS} {n : Nat} (ht : PTv ec X test tc) (hb : PSsv ec X body ds) : PSv ec X (.While test body [] pos) (dWhileN n tc ds) :=
  (sv_while ht hb).weak fun e S => by
    by_cases h : whN tc ds n e S = .no
    · exact .inl h
    · exact .inr (dWhile_of h).symm
end Bel

/-! shared mirrors -/
namespace Bel
open PySem PySem.Spec PyProof.Rows L2
def c_MOST_LETTERS : W := .int 6
def c_KEPT : W := .tup [.str [115, 101, 116], .str [106, 117, 109, 112], .str [115, 97, 121], .str [115, 116, 97, 114, 116], .str [119, 97, 105, 116], .str [119, 97, 116, 99, 104], .str [114, 105, 110, 103], .str [116, 114, 97, 112], .str [104, 111, 108, 100], .str [102, 114, 101, 101], .str [114, 101, 115, 116], .str [98, 97, 99, 107], .str [114, 101, 97, 100], .str [102, 114, 111, 110, 116], .str [111, 119, 110], .str [110, 101, 119], .str [117, 112], .str [99, 104, 105, 108, 100], .str [106, 111, 98], .str [102, 97, 108, 108], .str [112, 108, 97, 105, 110], .str [115, 99, 114, 105, 112, 116], .str [110, 111, 110, 101]]
def c_BELLS : W := .tup [.str [107, 105, 108, 108], .str [104, 97, 108, 116], .str [115, 116, 111, 112], .str [104, 97, 110, 103], .str [101, 110, 100], .str [119, 97, 107, 101], .str [103, 111], .str [100, 111, 110, 101]]
def c_LETTERS : W := .str [97, 98, 99, 100, 101, 102, 103, 104, 105, 106, 107, 108, 109, 110, 111, 112, 113, 114, 115, 116, 117, 118, 119, 120, 121, 122]
def c_MOST_WITHIN : W := .int 6
def c_MOST_NUMBER : W := .int 999
def d_SIGNS : List (List Nat × W) := [([112, 108, 117, 115], .str [32, 43, 32]), ([108, 101, 115, 115], .str [32, 60, 32]), ([115, 97, 109, 101], .str [32, 61, 32])]
def c_SIGNS : W := .kdc d_SIGNS
def g__law_state_b1 : DS := (dSeq (dAsg 5 (dBin false fMod (dBin false fMul (dBin false fAdd (dVar 2) (dBin false fMul (dC (.int 7919)) (dBin false fAdd (dBin false fAdd (dBin false fMul (dC (.int 40)) (dVar 1)) (dVar 4)) (dC (.int 1))))) (dC (.int 48271))) (dC (.int 2147483647))))
    (dAsg 3 (dBin false fAdd (dBin false fMul (dVar 3) (dC (.int 2147483629))) (dBin false fMod (dBin false fMul (dVar 5) (dBin false fAdd (dBin false fAdd (dVar 5) (dBin false fMul (dC (.int 2)) (dVar 4))) (dC (.int 1)))) (dC (.int 2147483629))))))
def g__law_state : DF := fnD 6
    (dSeq (dAsg 2 (dIf (dT (dBin false (fCmp fun i j => decide (i < j)) (dVar 1) (dCall false fLen (dCons (dVar 0) dNil)))) (dCall false fAbs (dCons (dBin false fIx (dVar 0) (dVar 1)) dNil)) (dC (.int 0))))
    (dSeq (dIfS (dT (dBin false (fCmp fun i j => decide (j ≤ i)) (dVar 2) (dBin false fPow (dC (.int 10)) (dC (.int 18))))) (dRet (dDisp true .nl (dCons (dBin false fSub (dVar 2) (dBin false fPow (dC (.int 10)) (dC (.int 18)))) dNil))) dNext)
    (dSeq (dAsg 3 (dC (.int 0)))
    (dSeq (dFor (dRng1 (dC (.int 14))) (tgN 4) g__law_state_b1)
    (dRet (dDisp true .nl (dCons (dVar 3) dNil)))))))
def g__law_next : DF := fnD 3
    (dSeq (dAsg 2 (dBin false fMod (dBin false fIx (dVar 0) (dC (.int 0))) (dVar 1)))
    (dSeq (dSetL (dVar 0) (dC (.int 0)) (dBin false fDiv (dBin false fIx (dVar 0) (dC (.int 0))) (dVar 1)))
    (dRet (dVar 2))))
def g__law_pick : DF := fnD 2
    (dRet (dBin false fIx (dVar 1) (dFn g__law_next 2 (dCons (dVar 0) (dCons (dCall false fLen (dCons (dVar 1) dNil)) dNil)))))
def g__law_term : Nat → DF
  | 0 => fun _ _ => .no
  | r + 1 => fnD 5
    (dSeq (dAsg 3 (dFn g__law_next 2 (dCons (dVar 0) (dCons (dC (.int 6)) dNil))))
    (dSeq (dIfS (dOr (dT (dBin false fEq (dVar 2) (dC (.int 1)))) (dT (dBin false (fCmp fun i j => decide (i < j)) (dVar 3) (dC (.int 2))))) (dSeq (dIfS (dT (dBin false fEq (dBin false fMod (dVar 3) (dC (.int 2))) (dC (.int 0)))) (dRet (dDisp false .nt (dCons (dC (.str [98, 111, 120])) (dCons (dFn g__law_pick 2 (dCons (dVar 0) (dCons (dVar 1) dNil))) dNil)))) dNext)
    (dRet (dDisp false .nt (dCons (dC (.str [110, 117, 109, 98, 101, 114])) (dCons (dFn g__law_pick 2 (dCons (dVar 0) (dCons (dDisp false .nl (dCons (dC (.int 0)) (dCons (dC (.int 1)) (dCons (dC (.int 9)) (dCons (dC (.int 10)) (dCons (dC (.int 99)) (dCons (dC (.int 100)) (dCons (dC (.int 500)) (dCons (dC (.int 998)) (dCons (dC (.int 999)) (dCons (dFn g__law_next 2 (dCons (dVar 0) (dCons (dC (.int 1000)) dNil))) dNil))))))))))) dNil))) dNil))))) dNext)
    (dSeq (dAsg 4 (dFn (g__law_term r) 3 (dCons (dVar 0) (dCons (dVar 1) (dCons (dBin false fSub (dVar 2) (dC (.int 1))) dNil)))))
    (dRet (dDisp false .nt (dCons (dBin false fIx (dDisp false .nl (dCons (dC (.str [112, 108, 117, 115])) (dCons (dC (.str [108, 101, 115, 115])) (dCons (dC (.str [115, 97, 109, 101])) (dCons (dC (.str [112, 108, 117, 115])) dNil))))) (dBin false fSub (dVar 3) (dC (.int 2)))) (dCons (dVar 4) (dCons (dFn (g__law_term r) 3 (dCons (dVar 0) (dCons (dVar 1) (dCons (dBin false fSub (dVar 2) (dC (.int 1))) dNil)))) dNil))))))))
def g__law_chain_b1 : DS := (dSeq (dAsg 5 (dDisp false .nt (dCons (dVar 3) (dCons (dFn (g__law_term 8) 3 (dCons (dVar 0) (dCons (dVar 1) (dCons (dC (.int 1)) dNil)))) dNil))))
    (dSeq (dAsg 6 (dFn g__law_pick 2 (dCons (dVar 0) (dCons (dDisp false .nl (dCons (dC (.str [112, 108, 117, 115])) (dCons (dC (.str [108, 101, 115, 115])) (dCons (dC (.str [115, 97, 109, 101])) dNil)))) dNil))))
    (dAsg 3 (dBin false fAdd (dDisp false .nt (dCons (dVar 6) dNil)) (dStep false (dVar 5) (dBin false fIx (dDisp false .nl (dCons (dC (.int 1)) (dCons (dNeg (dC (.int 1))) dNil))) (dFn g__law_next 2 (dCons (dVar 0) (dCons (dC (.int 2)) dNil)))))))))
def g__law_chain : DF := fnD 7
    (dSeq (dAsg 3 (dFn (g__law_term 8) 3 (dCons (dVar 0) (dCons (dVar 1) (dCons (dC (.int 1)) dNil)))))
    (dSeq (dFor (dRng1 (dBin false fSub (dVar 2) (dC (.int 1)))) (tgN 4) g__law_chain_b1)
    (dRet (dVar 3))))
def g__law_drawn : DF := fnD 3
    (dSeq (dAsg 2 (dBin false fAdd (dC (.int 1)) (dFn g__law_next 2 (dCons (dVar 0) (dCons (dC (.int 6)) dNil)))))
    (dSeq (dIfS (dT (dBin false fEq (dFn g__law_next 2 (dCons (dVar 0) (dCons (dC (.int 2)) dNil))) (dC (.int 0)))) (dRet (dFn g__law_chain 3 (dCons (dVar 0) (dCons (dVar 1) (dCons (dVar 2) dNil))))) dNext)
    (dRet (dFn (g__law_term 8) 3 (dCons (dVar 0) (dCons (dVar 1) (dCons (dVar 2) dNil)))))))
def g__law_kept : DF := fnD 1
    (dSeq (dAsg 0 (dDisp false .nl (dCons (dC (.str [115, 101, 116])) (dCons (dC (.str [106, 117, 109, 112])) (dCons (dC (.str [115, 97, 121])) (dCons (dC (.str [115, 116, 97, 114, 116])) (dCons (dC (.str [119, 97, 105, 116])) (dCons (dC (.str [119, 97, 116, 99, 104])) (dCons (dC (.str [114, 105, 110, 103])) (dCons (dC (.str [116, 114, 97, 112])) (dCons (dC (.str [104, 111, 108, 100])) (dCons (dC (.str [102, 114, 101, 101])) (dCons (dC (.str [114, 101, 115, 116])) (dCons (dC (.str [98, 97, 99, 107])) (dCons (dC (.str [114, 101, 97, 100])) dNil)))))))))))))))
    (dSeq (dAsg 0 (dBin false fAdd (dVar 0) (dDisp false .nl (dCons (dC (.str [102, 114, 111, 110, 116])) (dCons (dC (.str [111, 119, 110])) (dCons (dC (.str [110, 101, 119])) (dCons (dC (.str [117, 112])) (dCons (dC (.str [99, 104, 105, 108, 100])) (dCons (dC (.str [106, 111, 98])) (dCons (dC (.str [102, 97, 108, 108])) (dCons (dC (.str [112, 108, 97, 105, 110])) (dCons (dC (.str [115, 99, 114, 105, 112, 116])) (dCons (dC (.str [110, 111, 110, 101])) dNil)))))))))))))
    (dRet (dBin false fAdd (dVar 0) (dDisp false .nl (dCons (dC (.str [107, 105, 108, 108])) (dCons (dC (.str [104, 97, 108, 116])) (dCons (dC (.str [115, 116, 111, 112])) (dCons (dC (.str [104, 97, 110, 103])) (dCons (dC (.str [101, 110, 100])) (dCons (dC (.str [119, 97, 107, 101])) (dCons (dC (.str [103, 111])) (dCons (dC (.str [100, 111, 110, 101])) dNil)))))))))))))
def g__law_name_e1 : DE := (dFn g__law_pick 2 (dCons (dVar 0) (dCons (dVar 4) dNil)))
def g__law_name : DF := fnD 6
    (dSeq (dAsg 1 (dFn g__law_pick 2 (dCons (dVar 0) (dCons (dFn g__law_kept 0 dNil) dNil))))
    (dSeq (dAsg 2 (dFn g__law_next 2 (dCons (dVar 0) (dCons (dC (.int 6)) dNil))))
    (dSeq (dAsg 3 (dBin false fIx (dDisp false .nl (dCons (dSl false (dVar 1) (dPart (dC (.int 1))) dNoPart) (dCons (dSl false (dVar 1) dNoPart (dPart (dNeg (dC (.int 1))))) (dCons (dBin false fAdd (dVar 1) (dC (.str [115]))) (dCons (dRevS (dVar 1)) (dCons (dC (.str [])) (dCons (dC (.str [])) dNil))))))) (dVar 2)))
    (dSeq (dIfS (dOr (dT (dBin false fInO (dVar 3) (dFn g__law_kept 0 dNil))) (dNot (dT (dChain (fCmp fun i j => decide (i ≤ j)) (fCmp fun i j => decide (i ≤ j)) (dC (.int 1)) (dCall false fLen (dCons (dVar 3) dNil)) (dC (.int 6)))))) (dSeq (dAsg 4 (dC (.str [97, 98, 99, 100, 101, 102, 103, 104, 105, 106, 107, 108, 109, 110, 111, 112, 113, 114, 115, 116, 117, 118, 119, 120, 121, 122])))
    (dAsg 3 (dMeth false isStr fJoin (dC (.str [])) (dCons (dLc false (dRng1 (dBin false fAdd (dC (.int 1)) (dFn g__law_next 2 (dCons (dVar 0) (dCons (dC (.int 6)) dNil))))) (tgN 5) dYes g__law_name_e1 [5]) dNil)))) dNext)
    (dRet (dIf (dT (dBin false fInO (dVar 3) (dFn g__law_kept 0 dNil))) (dBin false fAdd (dC (.str [113])) (dSl false (dVar 3) (dPart (dC (.int 1))) dNoPart)) (dVar 3)))))))
def g_is_number : DF := fnD 2
    (dRet ((dAndV (dIsT isInt (dVar 0)) (dAndV (dNotV (dIsT isBl (dVar 0))) (dChain (fCmp fun i j => decide (i ≤ j)) (fCmp fun i j => decide (i ≤ j)) (dC (.int 0)) (dVar 0) (dVar 1))))))
def g_is_name_e1 : DE := (dBin false fInO (dVar 1) (dC c_LETTERS))
def g_is_name : DF := fnD 2
    (dSeq (dIfS (dOr (dNot (dT (dIsT isStr (dVar 0)))) (dOr (dNot (dT (dChain (fCmp fun i j => decide (i ≤ j)) (fCmp fun i j => decide (i ≤ j)) (dC (.int 1)) (dCall false fLen (dCons (dVar 0) dNil)) (dC c_MOST_LETTERS)))) (dOr (dT (dBin false fInO (dVar 0) (dC c_KEPT))) (dT (dBin false fInO (dVar 0) (dC c_BELLS)))))) (dRet (dC (.bl false))) dNext)
    (dRet (dCall false fAll (dCons (dLc false (dItS (dVar 0)) (tgN 1) dYes g_is_name_e1 [1]) dNil))))
def g_stands_so_e1 (rec : DF) : DE := (dFn rec 2 (dCons (dVar 2) (dCons (dBin false fAdd (dVar 1) (dC (.int 1))) dNil)))
def g_stands_so : Nat → DF
  | 0 => fun _ _ => .no
  | r + 1 => fnD 3
    (dSeq (dIfS (dOr (dT (dBin false (fCmp fun i j => decide (j < i)) (dVar 1) (dC c_MOST_WITHIN))) (dOr (dNot (dT (dIsT isTup (dVar 0)))) (dOr (dT (dBin false fEq (dCall false fLen (dCons (dVar 0) dNil)) (dC (.int 0)))) (dNot (dT (dIsT isStr (dBin false fIx (dVar 0) (dC (.int 0))))))))) (dRet (dC (.bl false))) dNext)
    (dSeq (dIfS (dT (dBin false fEq (dBin false fIx (dVar 0) (dC (.int 0))) (dC (.str [110, 117, 109, 98, 101, 114])))) (dRet ((dAndV (dBin false fEq (dCall false fLen (dCons (dVar 0) dNil)) (dC (.int 2))) (dFn g_is_number 2 (dCons (dBin false fIx (dVar 0) (dC (.int 1))) (dCons (dC c_MOST_NUMBER) dNil)))))) dNext)
    (dSeq (dIfS (dT (dBin false fEq (dBin false fIx (dVar 0) (dC (.int 0))) (dC (.str [98, 111, 120])))) (dRet ((dAndV (dBin false fEq (dCall false fLen (dCons (dVar 0) dNil)) (dC (.int 2))) (dFn g_is_name 1 (dCons (dBin false fIx (dVar 0) (dC (.int 1))) dNil))))) dNext)
    (dRet ((dAndV (dBin false fInO (dBin false fIx (dVar 0) (dC (.int 0))) (dC c_SIGNS)) (dAndV (dBin false fEq (dCall false fLen (dCons (dVar 0) dNil)) (dC (.int 3))) (dCall false fAll (dCons (dLc false (dItT (dSl false (dVar 0) (dPart (dC (.int 1))) dNoPart)) (tgN 2) dYes (g_stands_so_e1 (g_stands_so r)) [2]) dNil)))))))))
def g_is_term : DF := fnD 1
    (dRet (dFn (g_stands_so 8) 2 (dCons (dVar 0) (dCons (dC (.int 1)) dNil))))
def g__law_nested_b1 : DS := (dAsg 1 (dBin false fIx (dDisp false .nl (dCons (dDisp false .nt (dCons (dC (.str [112, 108, 117, 115])) (dCons (dVar 1) (dCons (dDisp false .nt (dCons (dC (.str [110, 117, 109, 98, 101, 114])) (dCons (dC (.int 1)) dNil))) dNil)))) (dCons (dDisp false .nt (dCons (dC (.str [115, 97, 109, 101])) (dCons (dDisp false .nt (dCons (dC (.str [110, 117, 109, 98, 101, 114])) (dCons (dC (.int 0)) dNil))) (dCons (dVar 1) dNil)))) dNil))) (dBin false fMod (dVar 2) (dC (.int 2)))))
def g__law_nested : DF := fnD 3
    (dSeq (dAsg 1 (dDisp false .nt (dCons (dC (.str [98, 111, 120])) (dCons (dC (.str [120])) dNil))))
    (dSeq (dFor (dRng1 (dBin false fSub (dVar 0) (dC (.int 1)))) (tgN 2) g__law_nested_b1)
    (dRet (dVar 1))))
def g__law_is_name_t1 : DT := (dT (dBin false fNotInO (dVar 1) (dC (.str [97, 98, 99, 100, 101, 102, 103, 104, 105, 106, 107, 108, 109, 110, 111, 112, 113, 114, 115, 116, 117, 118, 119, 120, 121, 122]))))
def g__law_is_name : DF := fnD 2
    (dSeq (dIfS (dOr (dNot (dT (dIsT isStr (dVar 0)))) (dOr (dT (dBin false fEq (dCall false fLen (dCons (dVar 0) dNil)) (dC (.int 0)))) (dOr (dT (dBin false (fCmp fun i j => decide (j < i)) (dCall false fLen (dCons (dVar 0) dNil)) (dC (.int 6)))) (dT (dBin false fInO (dVar 0) (dFn g__law_kept 0 dNil)))))) (dRet (dC (.bl false))) dNext)
    (dRet (dBin false fEq (dLc false (dItS (dVar 0)) (tgN 1) g__law_is_name_t1 (dVar 1) [1]) (dDisp false .nl dNil))))
def g__law_is_term_b1 : DS := (dSeq (dAsgT (tgT 2 (tgs1 (tgN 2) (tgs1 (tgN 3) tgs0))) (dMut fPop (dVar 1) dNil))
    (dSeq (dIfS (dOr (dT (dBin false (fCmp fun i j => decide (j < i)) (dVar 3) (dC (.int 6)))) (dOr (dNot (dT (dIsT isTup (dVar 2)))) (dOr (dT (dBin false (fCmp fun i j => decide (i < j)) (dCall false fLen (dCons (dVar 2) dNil)) (dC (.int 2)))) (dNot (dT (dIsT isStr (dBin false fIx (dVar 2) (dC (.int 0))))))))) (dRet (dC (.bl false))) dNext)
    (dIfS (dT (dBin false fEq (dBin false fIx (dVar 2) (dC (.int 0))) (dC (.str [110, 117, 109, 98, 101, 114])))) (dIfS (dOr (dT (dBin false fNe (dCall false fLen (dCons (dVar 2) dNil)) (dC (.int 2)))) (dOr (dT (dIsT isBl (dBin false fIx (dVar 2) (dC (.int 1))))) (dOr (dNot (dT (dIsT isInt (dBin false fIx (dVar 2) (dC (.int 1)))))) (dNot (dT (dChain (fCmp fun i j => decide (i ≤ j)) (fCmp fun i j => decide (i ≤ j)) (dC (.int 0)) (dBin false fIx (dVar 2) (dC (.int 1))) (dC (.int 999)))))))) (dRet (dC (.bl false))) dNext) (dIfS (dT (dBin false fEq (dBin false fIx (dVar 2) (dC (.int 0))) (dC (.str [98, 111, 120])))) (dIfS (dOr (dT (dBin false fNe (dCall false fLen (dCons (dVar 2) dNil)) (dC (.int 2)))) (dNot (dT (dFn g__law_is_name 1 (dCons (dBin false fIx (dVar 2) (dC (.int 1))) dNil))))) (dRet (dC (.bl false))) dNext) (dIfS (dOr (dT (dBin false fNotInO (dBin false fIx (dVar 2) (dC (.int 0))) (dDisp false .nt (dCons (dC (.str [112, 108, 117, 115])) (dCons (dC (.str [108, 101, 115, 115])) (dCons (dC (.str [115, 97, 109, 101])) dNil)))))) (dT (dBin false fNe (dCall false fLen (dCons (dVar 2) dNil)) (dC (.int 3))))) (dRet (dC (.bl false))) (dAsg 1 (dBin true fAdd (dVar 1) (dDisp false .nl (dCons (dDisp false .nt (dCons (dBin false fIx (dVar 2) (dC (.int 1))) (dCons (dBin false fAdd (dVar 3) (dC (.int 1))) dNil))) (dCons (dDisp false .nt (dCons (dBin false fIx (dVar 2) (dC (.int 2))) (dCons (dBin false fAdd (dVar 3) (dC (.int 1))) dNil))) dNil))))))))))
def g__law_is_term : DF := fnD 4
    (dSeq (dAsg 1 (dDisp true .nl (dCons (dDisp false .nt (dCons (dVar 0) (dCons (dC (.int 1)) dNil))) dNil)))
    (dSeq (dWhileN 2000 (dT (dBin false fNeNil (dVar 1) (dDisp false .nl dNil))) g__law_is_term_b1)
    (dRet (dC (.bl true)))))
end Bel

/-! The engine, part U: rules for reckoning. -/
namespace Bel
open PySem PySem.Spec PyProof.Rows L2
@[simp] theorem dVar_ap (i : Nat) (e : Env') (S : Store) : dVar i e S = match e[i]? with
  | some (some u) => .ok u S
  | _ => .no := rfl
@[simp] theorem dC_ap (w : W) (e : Env') (S : Store) : dC w e S = .ok (.v w) S := rfl
@[simp] theorem dBin_ap (own : Bool) (f : W → W → Option Out) (a b : DE) (e : Env') (S : Store) : dBin own f a b e S = (a e S).bind fun u S1 => (b e S1).bind fun v S2 => match dr S2 u, dr S2 v with
  | some x, some y => putO own (f x y) S2
  | _, _ => .no := rfl
@[simp] theorem dT_ap (d : DE) (e : Env') (S : Store) : dT d e S = (d e S).bind fun u S1 => match u with
  | .v (.bl k) => .ok k S1
  | _ => .no := rfl
@[simp] theorem dAnd_ap (a b : DT) (e : Env') (S : Store) : dAnd a b e S = (a e S).bind fun k S1 => if k = true then b e S1 else .ok false S1 := rfl
@[simp] theorem dOr_ap (a b : DT) (e : Env') (S : Store) : dOr a b e S = (a e S).bind fun k S1 => if k = true then .ok true S1 else b e S1 := rfl
@[simp] theorem dNot_ap (a : DT) (e : Env') (S : Store) : dNot a e S = (a e S).bind fun k S1 => .ok (!k) S1 := rfl
@[simp] theorem dAndV_ap (a b : DE) (e : Env') (S : Store) : dAndV a b e S = (a e S).bind fun u S1 => match u with
  | .v (.bl k) => if k = true then b e S1 else .ok (.v (.bl false)) S1
  | _ => .no := rfl
@[simp] theorem dOrV_ap (a b : DE) (e : Env') (S : Store) : dOrV a b e S = (a e S).bind fun u S1 => match u with
  | .v (.bl k) => if k = true then .ok (.v (.bl true)) S1 else b e S1
  | _ => .no := rfl
@[simp] theorem dNotV_ap (a : DE) (e : Env') (S : Store) : dNotV a e S = (a e S).bind fun u S1 => match u with
  | .v (.bl k) => .ok (.v (.bl (!k))) S1
  | _ => .no := rfl
@[simp] theorem dIf_ap (c : DT) (a b : DE) (e : Env') (S : Store) : dIf c a b e S = (c e S).bind fun k S1 => if k = true then a e S1 else b e S1 := rfl
@[simp] theorem dNeg_ap (a : DE) (e : Env') (S : Store) : dNeg a e S = (a e S).bind fun u S1 => match u with
  | .v (.int i) => .ok (.v (.int (-i))) S1
  | _ => .no := rfl
@[simp] theorem dNil_ap (e : Env') (S : Store) : dNil e S = .ok [] S := rfl
@[simp] theorem dCons_ap (a : DE) (r : DA) (e : Env') (S : Store) : dCons a r e S = (a e S).bind fun u S1 => (r e S1).bind fun us S2 => .ok (u :: us) S2 := rfl
@[simp] theorem dDisp_ap (own : Bool) (mk : List W → Out) (a : DA) (e : Env') (S : Store) : dDisp own mk a e S = (a e S).bind fun us S1 => putO own (fDisp mk us) S1 := rfl
@[simp] theorem dNoPart_ap (e : Env') (S : Store) : dNoPart e S = .ok none S := rfl
@[simp] theorem dPart_ap (d : DE) (e : Env') (S : Store) : dPart d e S = (d e S).bind fun u S1 => match u with
  | .v (.int i) => .ok (some i) S1
  | _ => .no := rfl
@[simp] theorem dSl_ap (own : Bool) (a : DE) (lo hi : DO) (e : Env') (S : Store) : dSl own a lo hi e S = (a e S).bind fun u S1 => (lo e S1).bind fun l S2 => (hi e S2).bind fun h S3 => match dr S3 u with
  | some w => putO own (fSl w l h) S3
  | none => .no := rfl
@[simp] theorem dCall_ap (own : Bool) (f : List W → Option Out) (a : DA) (e : Env') (S : Store) : dCall own f a e S = (a e S).bind fun us S1 => match drs S1 us with
  | some ws => putO own (f ws) S1
  | none => .no := rfl
@[simp] theorem dIsT_ap (q : W → Bool) (a : DE) (e : Env') (S : Store) : dIsT q a e S = (a e S).bind fun u S1 => match dr S1 u with
  | some w => if isExc w = true then .no else .ok (.v (.bl (q w))) S1
  | none => .no := rfl
@[simp] theorem dMeth_ap (own : Bool) (q : W → Bool) (f : W → List W → Option Out) (o : DE) (a : DA) (e : Env') (S : Store) : dMeth own q f o a e S = (o e S).bind fun u S1 => match dr S1 u with
  | some w => if q w = true then (a e S1).bind fun us S2 => match dr S2 u, drs S2 us with
      | some w', some ws => putO own (f w' ws) S2
      | _, _ => .no
    else .no
  | none => .no := rfl
@[simp] theorem dNext_ap (e : Env') (S : Store) : dNext e S = .ok (.nx e) S := rfl
@[simp] theorem dSeq_ap (a b : DS) (e : Env') (S : Store) : dSeq a b e S = (a e S).bind b := rfl
@[simp] theorem dBreak_ap (e : Env') (S : Store) : dBreak e S = .ok (.bk e) S := rfl
@[simp] theorem dCont_ap (e : Env') (S : Store) : dCont e S = .ok (.ct e) S := rfl
@[simp] theorem dFrzV_ap (i : Nat) (e : Env') (S : Store) : dFrzV i e S = match e[i]? with
  | some (some u) => (frz S u).st e fun w S' => .ok (.nx (e.set i (some w))) S'
  | _ => .no := rfl
@[simp] theorem dRet_ap (d : DE) (e : Env') (S : Store) : dRet d e S = (d e S).st e fun u S1 => .ok (.rt u) S1 := rfl
@[simp] theorem dRetF_ap (d : DE) (e : Env') (S : Store) : dRetF d e S = (d e S).st e fun u S1 => (frz S1 u).st e fun w S2 => .ok (.rt w) S2 := rfl
@[simp] theorem dRetN_ap (e : Env') (S : Store) : dRetN e S = .ok (.rt (.v .non)) S := rfl
@[simp] theorem dAsg_ap (i : Nat) (d : DE) (e : Env') (S : Store) : dAsg i d e S = (d e S).st e fun u S1 => .ok (.nx (e.set i (some u))) S1 := rfl
@[simp] theorem dDrop_ap (d : DE) (e : Env') (S : Store) : dDrop d e S = (d e S).st e fun _ S1 => .ok (.nx e) S1 := rfl
@[simp] theorem dIfS_ap (c : DT) (a b : DS) (e : Env') (S : Store) : dIfS c a b e S = (c e S).st e fun k S1 => if k = true then a e S1 else b e S1 := rfl
@[simp] theorem dSetL_ap (o i v : DE) (e : Env') (S : Store) : dSetL o i v e S = (v e S).st e fun uv S1 => (o e S1).st e fun uo S2 => (i e S2).st e fun ui S3 => match uv, uo, ui with
  | .v w, .o n, .v (.int k) => match S3[n]? with
    | some (.lst l) => match ixN l.length k with
      | some j => .ok (.nx e) (S3.set n (.lst (l.set j w)))
      | none => .no
    | _ => .no
  | _, _, _ => .no := rfl
@[simp] theorem dSetD_ap (o i v : DE) (e : Env') (S : Store) : dSetD o i v e S = (v e S).st e fun uv S1 => (o e S1).st e fun uo S2 => (i e S2).st e fun ui S3 => match uv, uo, ui with
  | .v w, .o n, .v k => match S3[n]? with
    | some (.dct l) => if isKey k = true ∧ l.length < 16777216 then .ok (.nx e) (S3.set n (.dct (putW k w l))) else .no
    | _ => .no
  | _, _, _ => .no := rfl
@[simp] theorem dAsgT_ap (t : W → Env' → Option Env') (d : DE) (e : Env') (S : Store) : dAsgT t d e S = (d e S).st e fun u S1 => match u with
  | .v w => match t w e with
    | some e' => .ok (.nx e') S1
    | none => .no
  | .o _ => .no := rfl
@[simp] theorem dPar_ap (i j : Nat) (a : DA) (e : Env') (S : Store) : dPar i j a e S = (a e S).st e fun us S1 => match us with
  | [u, v] => .ok (.nx ((e.set i (some u)).set j (some v))) S1
  | _ => .no := rfl
@[simp] theorem dItems_ap (d : DE) (e : Env') (S : Store) : dItems d e S = (d e S).bind fun u S1 => match u with
  | .v (.lst l) => .ok l S1
  | .v (.tup l) => .ok l S1
  | _ => .no := rfl
@[simp] theorem dItL_ap (d : DE) (e : Env') (S : Store) : dItL d e S = (d e S).bind fun u S1 => match u with
  | .v (.lst l) => .ok l S1
  | _ => .no := rfl
@[simp] theorem dItT_ap (d : DE) (e : Env') (S : Store) : dItT d e S = (d e S).bind fun u S1 => match u with
  | .v (.tup l) => .ok l S1
  | _ => .no := rfl
@[simp] theorem dItS_ap (d : DE) (e : Env') (S : Store) : dItS d e S = (d e S).bind fun u S1 => match u with
  | .v (.str x) => .ok (x.map fun c => .str [c]) S1
  | _ => .no := rfl
@[simp] theorem dRng1_ap (d : DE) (e : Env') (S : Store) : dRng1 d e S = (d e S).bind fun u S1 => match u with
  | .v (.int n) => if n < 2 ^ 62 ∧ -(2 ^ 62) ≤ n then .ok ((List.range n.toNat).map fun i => .int (Int.ofNat i)) S1 else .no
  | _ => .no := rfl
@[simp] theorem dRng2_ap (a b : DE) (e : Env') (S : Store) : dRng2 a b e S = (a e S).bind fun u S1 => (b e S1).bind fun v S2 => match u, v with
  | .v (.int i), .v (.int j) => if -(2 ^ 62) ≤ i ∧ i < 2 ^ 62 ∧ -(2 ^ 62) ≤ j ∧ j < 2 ^ 62 then .ok ((List.range (j - i).toNat).map fun k => .int (i + Int.ofNat k)) S2 else .no
  | _, _ => .no := rfl
@[simp] theorem dFor_ap (src : DI) (t : W → Env' → Option Env') (body : DS) (e : Env') (S : Store) : dFor src t body e S = (src e S).st e fun ws S1 => dLoop t body ws e S1 := rfl
@[simp] theorem dYes_ap (e : Env') (S : Store) : dYes e S = .ok true S := rfl
@[simp] theorem dLc_ap (own : Bool) (src : DI) (t : W → Env' → Option Env') (tt : DT) (te : DE) (vs : List Nat) (e : Env') (S : Store) : dLc own src t tt te vs e S = (src e S).bind fun ws S1 =>
  if ws.length ≤ 16777216 then (lcL t tt te (wipeE e vs) ws S1).bindX fun xs S2 => (Out.nl xs).put own S2 else .no := rfl
@[simp] theorem dFn_ap (f : DF) (n : Nat) (a : DA) (e : Env') (S : Store) : dFn f n a e S = (a e S).bind fun us S1 => if us.length = n then f us S1 else .no := rfl
@[simp] theorem dRevS_ap (d : DE) (e : Env') (S : Store) : dRevS d e S = (d e S).bind fun u S1 => match dr S1 u with
  | some (.str x) => .ok (.v (.str x.reverse)) S1
  | _ => .no := rfl
@[simp] theorem dStep_ap (own : Bool) (a b : DE) (e : Env') (S : Store) : dStep own a b e S = (a e S).bind fun u S1 => (b e S1).bind fun v S2 => match dr S2 u, v with
  | some (.tup l), .v (.int i) => if i = -1 then (Out.nt l.reverse).put own S2 else if i = 1 then .ok (.v (.tup l)) S2 else .no
  | some (.lst l), .v (.int i) => if i = -1 then (Out.nl l.reverse).put own S2 else .no
  | _, _ => .no := rfl
@[simp] theorem dMut_ap (f : List W → List W → Option (List W × W)) (o : DE) (a : DA) (e : Env') (S : Store) : dMut f o a e S = (o e S).bind fun u S1 => match u with
  | .o n => match S1[n]? with
    | some (.lst _) => (a e S1).bind fun us S2 => match S2[n]?, allV us with
      | some (.lst l), some ws => match f l ws with
        | some (l', w) => .ok (.v w) (S2.set n (.lst l'))
        | none => .no
      | _, _ => .no
    | _ => .no
  | .v _ => .no := rfl
def chn (o : Option Out) (A B : Unit → Re U) : Re U := match o with
  | some (.val (.bl b)) => if b = true then A () else B ()
  | _ => .no
@[simp] theorem chn_ap (b : Bool) (A B : Unit → Re U) : chn (some (.val (.bl b))) A B = if b = true then A () else B () := rfl
@[simp] theorem dChain_ap (f g : W → W → Option Out) (a b c : DE) (e : Env') (S : Store) : dChain f g a b c e S = (a e S).bind fun u S1 => (b e S1).bind fun v S2 => match dr S2 u, dr S2 v with
  | some x, some y => chn (f x y) (fun _ => (c e S2).bind fun w S3 => match dr S3 v, dr S3 w with
      | some y', some z => putO false (g y' z) S3
      | _, _ => .no) (fun _ => .ok (.v (.bl false)) S2)
  | _, _ => .no := by
  unfold dChain
  congr 1; funext u S1; congr 1; funext v S2
  cases dr S2 u with
  | none => rfl
  | some x => cases dr S2 v with
    | none => rfl
    | some y =>
      simp only
      cases f x y with
      | none => rfl
      | some o => cases o with
        | val w => cases w with
          | bl b => cases b <;> rfl
          | _ => rfl
        | _ => rfl
end Bel

/-! The engine, part V: reckoning. -/
namespace Bel
open PySem PySem.Spec PyProof.Rows L2
theorem Re.bind_congr {α β : Type} {r r' : Re α} {f : α → Store → Re β} (h : r = r') : r.bind f = r'.bind f := by rw [h]
theorem Re.bindX_congr {α β : Type} {r r' : Re α} {f : α → Store → Re β} (h : r = r') : r.bindX f = r'.bindX f := by rw [h]
theorem Rs.bind_congr {r r' : Rs} {f : Env' → Store → Rs} (h : r = r') : r.bind f = r'.bind f := by rw [h]
theorem Re.st_congr {α : Type} {r r' : Re α} {e : Env'} {f : α → Store → Rs} (h : r = r') : r.st e f = r'.st e f := by rw [h]
abbrev stt (n : Int) : Ob := .lst [.int n]
@[simp] theorem dr_v (S : Store) (w : W) : dr S (.v w) = some w := rfl
@[simp] theorem drs_nil (S : Store) : drs S [] = some [] := rfl
@[simp] theorem drs_cons (S : Store) (u : U) (r : List U) : drs S (u :: r) = match dr S u, drs S r with
    | some w, some ws => some (w :: ws)
    | _, _ => none := rfl
@[simp] theorem dr_set {S : Store} {k : Nat} {l : List W} (hk : k < S.length) : dr (S.set k (.lst l)) (.o k) = some (.lst l) := by simp [dr, hk]
@[simp] theorem allV_nil : allV [] = some [] := rfl
@[simp] theorem allV_cons (w : W) (r : List U) : allV (.v w :: r) = (allV r).map (w :: ·) := rfl
@[simp] theorem putO_some (own : Bool) (o : Out) (S : Store) : putO own (some o) S = o.put own S := rfl
@[simp] theorem put_val (own : Bool) (w : W) (S : Store) : (Out.val w).put own S = .ok (.v w) S := rfl
@[simp] theorem put_nt (own : Bool) (l : List W) (S : Store) : (Out.nt l).put own S = .ok (.v (.tup l)) S := by cases own <;> rfl
@[simp] theorem put_nl (l : List W) (S : Store) : (Out.nl l).put false S = .ok (.v (.lst l)) S := rfl
@[simp] theorem put_nd (l : List (W × W)) (S : Store) : (Out.nd l).put false S = .ok (.v (.dct l)) S := rfl
@[simp] theorem put_nlO (l : List W) (S : Store) : (Out.nl l).put true S = .ok (.o S.length) (S ++ [.lst l]) := rfl
@[simp] theorem put_ndO (l : List (W × W)) (S : Store) : (Out.nd l).put true S = .ok (.o S.length) (S ++ [.dct l]) := rfl
@[simp] theorem fDisp_ap (mk : List W → Out) (us : List U) : fDisp mk us = match allV us with
  | some ws => if ws.length ≤ 16777216 then some (mk ws) else none
  | none => none := rfl
@[simp] theorem tgN_ap (i : Nat) (w : W) (e : Env') : tgN i w e = some (e.set i (some (.v w))) := rfl
@[simp] theorem tgs0_ap (e : Env') : tgs0 [] e = some e := rfl
@[simp] theorem tgs1_ap (t : W → Env' → Option Env') (r : List W → Env' → Option Env') (w : W) (ws : List W) (e : Env') : tgs1 t r (w :: ws) e = (t w e).bind (r ws) := rfl
@[simp] theorem tgT_ap (n : Nat) (r : List W → Env' → Option Env') (ws : List W) (e : Env') : tgT n r (.tup ws) e = if ws.length = n then r ws e else none := rfl
@[simp] theorem fnD_ap (nl : Nat) (body : DS) (us : List U) (S : Store) : fnD nl body us S = match body (us.map some ++ List.replicate (nl - us.length) none) S with
  | .ok (.nx _) S' => fin S.length (.v .non) S'
  | .ok (.rt u) S' => fin S.length u S'
  | .ex c _ S' => .ex c (S'.take S.length)
  | _ => .no := rfl
@[simp] theorem isNon_non : isNon .non = true := rfl
@[simp] theorem isExc_non : isExc .non = false := rfl
@[simp] theorem isExc_bl (b : Bool) : isExc (.bl b) = false := rfl
@[simp] theorem isExc_int (b : Int) : isExc (.int b) = false := rfl
@[simp] theorem isExc_str (b : List Nat) : isExc (.str b) = false := rfl
@[simp] theorem isExc_tup (b : List W) : isExc (.tup b) = false := rfl
@[simp] theorem isExc_lst (b : List W) : isExc (.lst b) = false := rfl
@[simp] theorem isExc_dct (b : List (W × W)) : isExc (.dct b) = false := rfl
section
variable {S : Store} {k : Nat} {n m : Int} {o o' : Ob} {w : W}
theorem lt_of_st (h : S[k]? = some o) : k < S.length := (List.getElem?_eq_some_iff.mp h).1
theorem set_same (h : S[k]? = some o) : S.set k o = S := by
  apply List.ext_getElem?
  intro i
  rw [List.getElem?_set]
  split
  · rename_i e
    subst e
    rw [if_pos (lt_of_st h), h]
  · rfl
@[simp] theorem take_all : List.take S.length S = S := List.take_of_length_le (Nat.le_refl _)
@[simp] theorem take_set_self : List.take S.length (S.set k o) = S.set k o := List.take_of_length_le (by simp)
@[simp] theorem take_app {T : Store} : List.take S.length (S ++ T) = S := by simp
@[simp] theorem take_set_app {T : Store} : List.take S.length (S.set k o ++ T) = S.set k o := by
  rw [show S.length = (S.set k o).length by simp, List.take_left]
@[simp] theorem fin_v {j : Nat} {T : Store} : fin j (.v w) T = .ok (.v w) (T.take j) := rfl
theorem atW_in {α : Type} {l : List α} {i : Int} (h0 : 0 ≤ i) (h1 : i < l.length) : atW l i = l[i.toNat]? := by
  have e : ixN l.length i = some i.toNat := by
    unfold ixN
    rw [if_pos h0, if_pos h1]
  simp [atW, e]
/-- the item at a place -/
def pk (l : List W) (i : Int) : W := l[i.toNat]?.getD .non
theorem pk_mem {l : List W} {i : Int} (h0 : 0 ≤ i) (h1 : i < l.length) : pk l i ∈ l := by
  have hl : i.toNat < l.length := by omega
  simp [pk, hl]
theorem ix_pk {l : List W} {i : Int} (h0 : 0 ≤ i) (h1 : i < l.length) : fIx (.lst l) (.int i) = some (.val (pk l i)) := by
  have hl : i.toNat < l.length := by omega
  simp [fIx, atW_in h0 h1, pk, hl]
theorem ixT_pk {l : List W} {i : Int} (h0 : 0 ≤ i) (h1 : i < l.length) : fIx (.tup l) (.int i) = some (.val (pk l i)) := by
  have hl : i.toNat < l.length := by omega
  simp [fIx, atW_in h0 h1, pk, hl]
@[simp] theorem ix0_tup {a : W} {l : List W} : fIx (.tup (a :: l)) (.int 0) = some (.val a) := by
  rw [ixT_pk (by decide) (by simp)]; rfl
@[simp] theorem ix1_tup {a b : W} {l : List W} : fIx (.tup (a :: b :: l)) (.int 1) = some (.val b) := by
  rw [ixT_pk (by decide) (by simp; omega)]; rfl
@[simp] theorem ix2_tup {a b c : W} {l : List W} : fIx (.tup (a :: b :: c :: l)) (.int 2) = some (.val c) := by
  rw [ixT_pk (by decide) (by simp; omega)]; rfl
@[simp] theorem ix0_lst {a : W} {l : List W} : fIx (.lst (a :: l)) (.int 0) = some (.val a) := by
  rw [ix_pk (by decide) (by simp)]; rfl
@[simp] theorem ix1_lst {a b : W} {l : List W} : fIx (.lst (a :: b :: l)) (.int 1) = some (.val b) := by
  rw [ix_pk (by decide) (by simp; omega)]; rfl
end
/-! ### operations -/
section
variable {i j : Int} {x y : List Nat} {a b : Bool} {l : List W}
@[simp] theorem fAdd_int : fAdd (.int i) (.int j) = some (.val (.int (i + j))) := rfl
@[simp] theorem fSub_int : fSub (.int i) (.int j) = some (.val (.int (i - j))) := rfl
theorem fAdd_str (h : x.length + y.length ≤ 16777216) : fAdd (.str x) (.str y) = some (.val (.str (x ++ y))) := if_pos h
theorem fAdd_tup {l r : List W} (h : l.length + r.length ≤ 16777216) : fAdd (.tup l) (.tup r) = some (.nt (l ++ r)) := if_pos h
theorem fAdd_lst {l r : List W} (h : l.length + r.length ≤ 16777216) : fAdd (.lst l) (.lst r) = some (.nl (l ++ r)) := if_pos h
theorem fMod_int (h : 0 < j) : fMod (.int i) (.int j) = some (.val (.int (i % j))) := if_pos h
theorem fDiv_int (h : 0 < j) (h2 : j < 1073741824) : fDiv (.int i) (.int j) = some (.val (.int (i / j))) := if_pos ⟨h, h2⟩
@[simp] theorem fCmp_int {p : Int → Int → Bool} : fCmp p (.int i) (.int j) = some (.val (.bl (p i j))) := rfl
@[simp] theorem fLen_str : fLen [.str x] = some (.val (.int x.length)) := rfl
@[simp] theorem fLen_lst : fLen [.lst l] = some (.val (.int l.length)) := rfl
@[simp] theorem fLen_tup : fLen [.tup l] = some (.val (.int l.length)) := rfl
@[simp] theorem fLen_dct {l : List (W × W)} : fLen [.dct l] = some (.val (.int l.length)) := rfl
@[simp] theorem fIs_bl : fIs (.bl a) (.bl b) = some (.val (.bl (a == b))) := rfl
@[simp] theorem fIsNot_bl : fIsNot (.bl a) (.bl b) = some (.val (.bl (!(a == b)))) := rfl
@[simp] theorem fIs_non {w : W} : fIs w .non = some (.val (.bl (isNon w))) := rfl
@[simp] theorem fIsNot_non {w : W} : fIsNot w .non = some (.val (.bl (!isNon w))) := rfl
@[simp] theorem fSl_str {lo hi : Option Int} : fSl (.str x) lo hi = some (.val (.str (cutL x lo hi))) := rfl
@[simp] theorem fSl_tup {lo hi : Option Int} : fSl (.tup l) lo hi = some (.nt (cutL l lo hi)) := rfl
@[simp] theorem fSl_lst {lo hi : Option Int} : fSl (.lst l) lo hi = some (.nl (cutL l lo hi)) := rfl
@[simp] theorem fList_tup : fList [.tup l] = some (.nl l) := rfl
@[simp] theorem fList_lst : fList [.lst l] = some (.nl l) := rfl
@[simp] theorem fTuple_tup : fTuple [.tup l] = some (.nt l) := rfl
@[simp] theorem fTuple_lst : fTuple [.lst l] = some (.nt l) := rfl
@[simp] theorem fInt_bl : fInt [.bl a] = some (.val (.int (b2n a))) := rfl
@[simp] theorem fInt_int : fInt [.int i] = some (.val (.int i)) := rfl
@[simp] theorem isStr_str : isStr (.str x) = true := rfl
@[simp] theorem isStr_non : isStr .non = false := rfl
@[simp] theorem isStr_int : isStr (.int i) = false := rfl
@[simp] theorem isStr_bl : isStr (.bl a) = false := rfl
@[simp] theorem isStr_tup : isStr (.tup l) = false := rfl
@[simp] theorem isStr_lst : isStr (.lst l) = false := rfl
@[simp] theorem isStr_dct {l : List (W × W)} : isStr (.dct l) = false := rfl
@[simp] theorem isTup_str : isTup (.str x) = false := rfl
@[simp] theorem isTup_non : isTup .non = false := rfl
@[simp] theorem isTup_int : isTup (.int i) = false := rfl
@[simp] theorem isTup_bl : isTup (.bl a) = false := rfl
@[simp] theorem isTup_tup : isTup (.tup l) = true := rfl
@[simp] theorem isTup_lst : isTup (.lst l) = false := rfl
@[simp] theorem isTup_dct {l : List (W × W)} : isTup (.dct l) = false := rfl
@[simp] theorem isInt_str : isInt (.str x) = false := rfl
@[simp] theorem isInt_non : isInt .non = false := rfl
@[simp] theorem isInt_int : isInt (.int i) = true := rfl
@[simp] theorem isInt_bl : isInt (.bl a) = true := rfl
@[simp] theorem isInt_tup : isInt (.tup l) = false := rfl
@[simp] theorem isInt_lst : isInt (.lst l) = false := rfl
@[simp] theorem isInt_dct {l : List (W × W)} : isInt (.dct l) = false := rfl
@[simp] theorem isBl_str : isBl (.str x) = false := rfl
@[simp] theorem isBl_non : isBl .non = false := rfl
@[simp] theorem isBl_int : isBl (.int i) = false := rfl
@[simp] theorem isBl_bl : isBl (.bl a) = true := rfl
@[simp] theorem isBl_tup : isBl (.tup l) = false := rfl
@[simp] theorem isBl_lst : isBl (.lst l) = false := rfl
@[simp] theorem isBl_dct {l : List (W × W)} : isBl (.dct l) = false := rfl
@[simp] theorem isLst_str : isLst (.str x) = false := rfl
@[simp] theorem isLst_non : isLst .non = false := rfl
@[simp] theorem isLst_int : isLst (.int i) = false := rfl
@[simp] theorem isLst_bl : isLst (.bl a) = false := rfl
@[simp] theorem isLst_tup : isLst (.tup l) = false := rfl
@[simp] theorem isLst_lst : isLst (.lst l) = true := rfl
@[simp] theorem isLst_dct {l : List (W × W)} : isLst (.dct l) = false := rfl
@[simp] theorem isDct_str : isDct (.str x) = false := rfl
@[simp] theorem isDct_non : isDct .non = false := rfl
@[simp] theorem isDct_int : isDct (.int i) = false := rfl
@[simp] theorem isDct_bl : isDct (.bl a) = false := rfl
@[simp] theorem isDct_tup : isDct (.tup l) = false := rfl
@[simp] theorem isDct_lst : isDct (.lst l) = false := rfl
@[simp] theorem isDct_dct {l : List (W × W)} : isDct (.dct l) = true := rfl
theorem mul_ok (h : (-(2 ^ 64) < i ∧ i < 2 ^ 64) ∨ (-(2 ^ 64) < j ∧ j < 2 ^ 64)) : fMul (.int i) (.int j) = some (.val (.int (i * j))) := if_pos h
@[simp] theorem eq_int : fEq (.int i) (.int j) = some (.val (.bl (decide (i = j)))) := by
  have h : (i == j) = decide (i = j) := by
    by_cases e : i = j
    · subst e; simp
    · simp [e]
  simp [fEq, shp, toD, PyData.eqv, h]
@[simp] theorem ne_int : fNe (.int i) (.int j) = some (.val (.bl (!decide (i = j)))) := by
  have h : (i == j) = decide (i = j) := by
    by_cases e : i = j
    · subst e; simp
    · simp [e]
  simp [fNe, shp, toD, PyData.eqv, h]
@[simp] theorem eqD_str : eqD (.str x) (.str y) = decide (x = y) := by
  have h : eqD (.str x) (.str y) = ((⟨x.toArray⟩ : Str) == (⟨y.toArray⟩ : Str)) := by
    simp [eqD, toD, PyData.eqv]
  rw [h]
  by_cases e : x = y
  · subst e; simp
  · rw [decide_eq_false e]
    apply beq_eq_false_iff_ne.mpr
    intro z
    injection z with z
    exact e (by simpa using z)
theorem fEq_is (h1 : shp 64 w = true) (h2 : shp 64 v = true) : fEq w v = some (.val (.bl (eqD w v))) := if_pos ⟨h1, h2⟩
theorem fNe_is (h1 : shp 64 w = true) (h2 : shp 64 v = true) : fNe w v = some (.val (.bl (!eqD w v))) := if_pos ⟨h1, h2⟩
@[simp] theorem eq_str : fEq (.str x) (.str y) = some (.val (.bl (decide (x = y)))) := by rw [fEq_is rfl rfl, eqD_str]
@[simp] theorem ne_str : fNe (.str x) (.str y) = some (.val (.bl (!decide (x = y)))) := by rw [fNe_is rfl rfl, eqD_str]
@[simp] theorem ne_bl : fNe (.bl a) (.bl b) = some (.val (.bl (!(a == b)))) := by
  simp [fNe, shp, toD, PyData.eqv]
@[simp] theorem eq_bl : fEq (.bl a) (.bl b) = some (.val (.bl (a == b))) := by
  simp [fEq, shp, toD, PyData.eqv]
@[simp] theorem fNeNil_ap : fNeNil (.lst l) (.lst []) = some (.val (.bl (!l.isEmpty))) := rfl
end
theorem any_str (l : List (List Nat)) (x : List Nat) : ((l.map W.str).any fun y => eqD y (.str x)) = decide (x ∈ l) := by
  induction l with
  | nil => simp
  | cons a r ih =>
    rw [List.map_cons, List.any_cons, ih, eqD_str]
    by_cases e : a = x
    · subst e; simp
    · have : x ≠ a := fun z => e z.symm
      simp [e, this]
theorem in_tup (l : List (List Nat)) (x : List Nat) : fInO (.str x) (.tup (l.map W.str)) = some (.val (.bl (decide (x ∈ l)))) := by
  have h : (l.map W.str).all isFlat = true := by simp [isFlat]
  simp only [fInO, fIn, isFlat, h, and_self, if_true, any_str, Option.map_some]
theorem notin_tup (l : List (List Nat)) (x : List Nat) : fNotInO (.str x) (.tup (l.map W.str)) = some (.val (.bl (!decide (x ∈ l)))) := by
  have h : (l.map W.str).all isFlat = true := by simp [isFlat]
  simp only [fNotInO, fIn, isFlat, h, and_self, if_true, any_str, Option.map_some]
theorem shps_str (n : Nat) (l : List (List Nat)) : shps (n + 1) (l.map W.str) = true := by
  induction l with
  | nil => rfl
  | cons a r ih => rw [List.map_cons, shps, ih]; rfl
theorem in_lst (l : List (List Nat)) (x : List Nat) : fInO (.str x) (.lst (l.map W.str)) = some (.val (.bl (decide (x ∈ l)))) := by
  have h : shps 63 (l.map W.str) = true := shps_str 62 l
  have h2 : shp 64 (.str x) = true := rfl
  simp only [fInO, fIn, h, h2, and_self, if_true, any_str, Option.map_some]
@[simp] theorem in_sign (c : Nat) (x : List Nat) : fInO (.str [c]) (.str x) = some (.val (.bl (decide (c ∈ x)))) := rfl
@[simp] theorem notin_sign (c : Nat) (x : List Nat) : fNotInO (.str [c]) (.str x) = some (.val (.bl (!decide (c ∈ x)))) := rfl
@[simp] theorem in_kdc (k : List Nat) (l : List (List Nat × W)) : fInO (.str k) (.kdc l) = some (.val (.bl (l.lookup k).isSome)) := rfl
@[simp] theorem notin_kdc (k : List Nat) (l : List (List Nat × W)) : fNotInO (.str k) (.kdc l) = some (.val (.bl (!(l.lookup k).isSome))) := rfl
@[simp] theorem ix_kdc (k : List Nat) (l : List (List Nat × W)) : fIx (.kdc l) (.str k) = (l.lookup k).map .val := rfl
theorem bools_map {α : Type} (f : α → Bool) (l : List α) : bools (l.map fun c => W.bl (f c)) = some (l.map f) := by
  induction l with
  | nil => rfl
  | cons a r ih => simp [bools, ih]
theorem fAll_map {α : Type} (f : α → Bool) (l : List α) : fAll [.lst (l.map fun c => W.bl (f c))] = some (.val (.bl (l.all f))) := by
  simp [fAll, bools_map, List.all_map, Function.comp_def]
theorem fAny_map {α : Type} (f : α → Bool) (l : List α) : fAny [.lst (l.map fun c => W.bl (f c))] = some (.val (.bl (l.any f))) := by
  simp [fAny, bools_map, List.any_map, Function.comp_def]
theorem lcL_nil {t : W → Env' → Option Env'} {tt : DT} {te : DE} {env : Env'} {S : Store} : lcL t tt te env [] S = .ok [] S := rfl
/-- a comprehension that writes nothing -/
theorem lcL_pure {t : W → Env' → Option Env'} {tt : DT} {te : DE} {env : Env'} {S : Store} (p : W → Bool) (g : W → W) : ∀ (ws : List W), (∀ w ∈ ws, ∃ e1, t w env = some e1 ∧ tt e1 S = .ok (p w) S ∧ (p w = true → te e1 S = .ok (.v (g w)) S)) → lcL t tt te env ws S = .ok ((ws.filter p).map g) S
  | [], _ => rfl
  | w :: r, h => by
    obtain ⟨e1, h1, h2, h3⟩ := h w List.mem_cons_self
    have ih := lcL_pure p g r fun w hw => h w (List.mem_cons_of_mem _ hw)
    rw [lcL_cons, h1]
    simp only [h2, Re.bindX_ok]
    cases q : p w with
    | true => simp [h3 q, ih, List.filter_cons, q]
    | false => simp [ih, List.filter_cons, q]
/-- .. without a test, over mapped items -/
theorem lcL_map {α : Type} {t : W → Env' → Option Env'} {te : DE} {env : Env'} {S : Store} (f : α → W) (g : α → W) : ∀ (xs : List α), (∀ x ∈ xs, ∃ e1, t (f x) env = some e1 ∧ te e1 S = .ok (.v (g x)) S) → lcL t dYes te env (xs.map f) S = .ok (xs.map g) S
  | [], _ => rfl
  | w :: r, h => by
    obtain ⟨e1, h1, h2⟩ := h w List.mem_cons_self
    have ih := lcL_map (t := t) (te := te) (env := env) (S := S) f g r fun w hw => h w (List.mem_cons_of_mem _ hw)
    rw [List.map_cons, lcL_cons, h1]
    simp [h2, ih]
/-- .. that goes on with a state, by a relation -/
theorem lcL_rel {t : W → Env' → Option Env'} {te : DE} {env : Env'} (I : Store → Prop) (P : W → Prop) : ∀ (ws : List W) (S : Store), I S → (∀ w ∈ ws, ∀ S, I S → ∃ e1 x S', t w env = some e1 ∧ te e1 S = .ok (.v x) S' ∧ I S' ∧ P x) →
    ∃ xs S', lcL t dYes te env ws S = .ok xs S' ∧ I S' ∧ xs.length = ws.length ∧ ∀ x ∈ xs, P x
  | [], S, h, _ => ⟨[], S, rfl, h, rfl, fun _ z => nomatch z⟩
  | w :: r, S, h, k => by
    obtain ⟨e1, x, S1, h1, h2, h3, h4⟩ := k w List.mem_cons_self S h
    obtain ⟨xs, S2, q1, q2, q3, q4⟩ := lcL_rel I P r S1 h3 fun w hw => k w (List.mem_cons_of_mem _ hw)
    refine ⟨x :: xs, S2, ?_, q2, by simp [q3], fun y hy => ?_⟩
    · rw [lcL_cons, h1]
      simp [h2, q1]
    · rcases List.mem_cons.mp hy with rfl | z
      · exact h4
      · exact q4 y z
@[simp] theorem dLoop_nil {t : W → Env' → Option Env'} {body : DS} {e : Env'} {S : Store} : dLoop t body [] e S = .ok (.nx e) S := rfl
theorem dLoop_cons {t : W → Env' → Option Env'} {body : DS} {w : W} {r : List W} {e : Env'} {S : Store} : dLoop t body (w :: r) e S = match t w e with
    | none => .no
    | some e1 => match body e1 S with
      | .ok (.nx e2) S2 => dLoop t body r e2 S2
      | .ok (.ct e2) S2 => dLoop t body r e2 S2
      | .ok (.bk e2) S2 => .ok (.nx e2) S2
      | r => r := rfl
/-- a loop by an invariant of frame and store -/
theorem dLoop_inv {t : W → Env' → Option Env'} {body : DS} (I : Env' → Store → Prop) : ∀ (ws : List W) (e : Env') (S : Store), I e S → (∀ w ∈ ws, ∀ e S, I e S → ∃ e1 e2 S', t w e = some e1 ∧ body e1 S = .ok (.nx e2) S' ∧ I e2 S') → ∃ e' S', dLoop t body ws e S = .ok (.nx e') S' ∧ I e' S'
  | [], e, S, h, _ => ⟨e, S, rfl, h⟩
  | w :: r, e, S, h, k => by
    obtain ⟨e1, e2, S1, h1, h2, h3⟩ := k w List.mem_cons_self e S h
    obtain ⟨e', S', q1, q2⟩ := dLoop_inv I r e2 S1 h3 fun w hw => k w (List.mem_cons_of_mem _ hw)
    exact ⟨e', S', by rw [dLoop_cons, h1]; simp [h2, q1], q2⟩
theorem rng_ok {d : DE} {e : Env'} {S S1 : Store} {i : Int} (h : d e S = .ok (.v (.int i)) S1) (h0 : -1000000000 ≤ i) (h1 : i ≤ 1000000000) : dRng1 d e S = .ok ((List.range i.toNat).map fun (j : Nat) => W.int (j : Int)) S1 := by
  have b1 : i < 2 ^ 62 := Int.lt_of_le_of_lt h1 (by decide +kernel)
  have b2 : -(2 ^ 62) ≤ i := Int.le_trans (by decide +kernel) h0
  unfold dRng1
  simp only [h, Re.bind_ok]
  rw [if_pos ⟨b1, b2⟩]
  rfl
/-- the first turns of a loop that a law makes -/
theorem for_rng {d : DE} {e : Env'} {S S1 : Store} {i : Int} {t : W → Env' → Option Env'} {b : DS} (h : d e S = .ok (.v (.int i)) S1) (h0 : -1000000000 ≤ i) (h1 : i ≤ 1000000000) : dFor (dRng1 d) t b e S = dLoop t b ((List.range i.toNat).map fun (j : Nat) => W.int (j : Int)) e S1 := by
  unfold dFor
  rw [rng_ok h h0 h1]
  rfl
theorem cut_sub {α : Type} (x : List α) (lo hi : Option Int) : (∀ c ∈ cutL x lo hi, c ∈ x) ∧ (cutL x lo hi).length ≤ x.length := by
  refine ⟨fun c hc => List.mem_of_mem_drop (List.mem_of_mem_take hc), ?_⟩
  unfold cutL
  rw [List.length_take, List.length_drop]
  omega
end Bel

/-! Draws and names. -/
namespace Bel
open PySem PySem.Spec PyProof.Rows L2
section
variable {S : Store} {k : Nat} {n m : Int}
theorem next_w (hk : k < S.length) (h0 : 0 < m) (h1 : m < 1073741824) : g__law_next [.o k, .v (.int m)] (S.set k (stt n)) = .ok (.v (.int (n % m))) (S.set k (stt (n / m))) := by
  simp [g__law_next, hk, fMod_int h0, fDiv_int h0 h1, ixN]
theorem pickL_w (hk : k < S.length) {l : List W} (h0 : l ≠ []) (h1 : l.length < 1073741824) : g__law_pick [.o k, .v (.lst l)] (S.set k (stt n)) = .ok (.v (pk l (n % l.length))) (S.set k (stt (n / l.length))) := by
  have hp : 0 < l.length := List.length_pos_iff.mpr h0
  have e := next_w (n := n) (m := l.length) hk (by omega) (by omega)
  simp [g__law_pick, e, ix_pk (l := l) (Int.emod_nonneg n (by omega : (l.length : Int) ≠ 0)) (Int.emod_lt_of_pos n (by omega))]
theorem pickT_w (hk : k < S.length) {l : List W} (h0 : l ≠ []) (h1 : l.length < 1073741824) : g__law_pick [.o k, .v (.tup l)] (S.set k (stt n)) = .ok (.v (pk l (n % l.length))) (S.set k (stt (n / l.length))) := by
  have hp : 0 < l.length := List.length_pos_iff.mpr h0
  have e := next_w (n := n) (m := l.length) hk (by omega) (by omega)
  simp [g__law_pick, e, ixT_pk (l := l) (Int.emod_nonneg n (by omega : (l.length : Int) ≠ 0)) (Int.emod_lt_of_pos n (by omega))]
theorem pick_mem {l : List W} (h0 : l ≠ []) : pk l (n % l.length) ∈ l := by
  have hp : 0 < l.length := List.length_pos_iff.mpr h0
  exact pk_mem (Int.emod_nonneg n (by omega)) (Int.emod_lt_of_pos n (by omega))
theorem pickL (hk : k < S.length) {l : List W} (h0 : l ≠ []) (h1 : l.length < 1073741824) : ∃ w n', w ∈ l ∧ g__law_pick [.o k, .v (.lst l)] (S.set k (stt n)) = .ok (.v w) (S.set k (stt n')) := ⟨_, _, pick_mem h0, pickL_w hk h0 h1⟩
theorem pickS (hk : k < S.length) {l : List Nat} (h0 : l ≠ []) (h1 : l.length < 1073741824) : ∃ c n', c ∈ l ∧ g__law_pick [.o k, .v (.str l)] (S.set k (stt n)) = .ok (.v (.str [c])) (S.set k (stt n')) := by
  have hp : 0 < l.length := List.length_pos_iff.mpr h0
  have e := next_w (n := n) (m := l.length) hk (by omega) (by omega)
  have i0 := Int.emod_nonneg n (by omega : (l.length : Int) ≠ 0)
  have i1 := Int.emod_lt_of_pos n (by omega : (0 : Int) < l.length)
  have hl : (n % (l.length : Int)).toNat < l.length := by omega
  refine ⟨l[(n % (l.length : Int)).toNat], n / l.length, List.getElem_mem hl, ?_⟩
  simp [g__law_pick, e, fIx, atW_in i0 i1, hl]
end
/-! ### the words -/
def keptw : List (List Nat) := [[115, 101, 116], [106, 117, 109, 112], [115, 97, 121], [115, 116, 97, 114, 116], [119, 97, 105, 116], [119, 97, 116, 99, 104], [114, 105, 110, 103], [116, 114, 97, 112], [104, 111, 108, 100], [102, 114, 101, 101], [114, 101, 115, 116], [98, 97, 99, 107], [114, 101, 97, 100], [102, 114, 111, 110, 116], [111, 119, 110], [110, 101, 119], [117, 112], [99, 104, 105, 108, 100], [106, 111, 98], [102, 97, 108, 108], [112, 108, 97, 105, 110], [115, 99, 114, 105, 112, 116], [110, 111, 110, 101]]
def bellw : List (List Nat) := [[107, 105, 108, 108], [104, 97, 108, 116], [115, 116, 111, 112], [104, 97, 110, 103], [101, 110, 100], [119, 97, 107, 101], [103, 111], [100, 111, 110, 101]]
def abc : List Nat := [97, 98, 99, 100, 101, 102, 103, 104, 105, 106, 107, 108, 109, 110, 111, 112, 113, 114, 115, 116, 117, 118, 119, 120, 121, 122]
def words : List (List Nat) := keptw ++ bellw
theorem c_kept : c_KEPT = .tup (keptw.map W.str) := rfl
theorem c_bells : c_BELLS = .tup (bellw.map W.str) := rfl
theorem c_letters : c_LETTERS = .str abc := rfl
theorem abc_is : ([97, 98, 99, 100, 101, 102, 103, 104, 105, 106, 107, 108, 109, 110, 111, 112, 113, 114, 115, 116, 117, 118, 119, 120, 121, 122] : List Nat) = abc := rfl
theorem abc_len : abc.length < 1073741824 := by decide
theorem abc_ne : abc ≠ [] := by decide
theorem kept_ne : words.map W.str ≠ [] := by decide
theorem kept_len : (words.map W.str).length < 1073741824 := by decide
theorem kept_is {S : Store} : g__law_kept [] S = .ok (.v (.lst (words.map W.str))) S := by
  unfold g__law_kept fnD
  show fin S.length (.v (.lst (words.map W.str))) S = _
  simp
def nm (x : List Nat) : Bool := decide (1 ≤ x.length ∧ x.length ≤ 6 ∧ x ∉ words) && x.all fun c => decide (c ∈ abc)
theorem nm_len {x : List Nat} (h : nm x = true) : 1 ≤ x.length ∧ x.length ≤ 6 := by
  unfold nm at h
  simp at h
  omega
theorem nm_abc {x : List Nat} (h : nm x = true) : ∀ c ∈ x, c ∈ abc := by
  unfold nm at h
  simp at h
  exact h.2
theorem is_name_other {S : Store} {w : W} (h : isStr w = false) (h2 : isExc w = false) : g_is_name [.v w] S = .ok (.v (.bl false)) S := by
  simp [g_is_name, h, h2]
theorem is_name_str {S : Store} {x : List Nat} : g_is_name [.v (.str x)] S = .ok (.v (.bl (nm x))) S := by
  have z := lcL_map (t := tgN 1) (te := g_is_name_e1) (env := wipeE [some (.v (.str x)), none] [1]) (S := S) (fun c : Nat => W.str [c]) (fun c => .bl (decide (c ∈ abc))) x (fun c hc => ⟨_, rfl, by simp [g_is_name_e1, wipeE, c_letters]⟩)
  simp [g_is_name, c_kept, c_bells, in_tup, c_MOST_LETTERS]
  by_cases h1 : 1 ≤ x.length
  · by_cases h2 : x.length ≤ 6
    · have i1 : (1 : Int) ≤ (x.length : Int) := by omega
      have i2 : (x.length : Int) ≤ 6 := by omega
      by_cases h3 : x ∈ keptw
      · have h5 : x ∈ words := List.mem_append_left _ h3
        simp [i1, i2, h3, h5, nm]
      · by_cases h4 : x ∈ bellw
        · have h5 : x ∈ words := List.mem_append_right _ h4
          simp [i1, i2, h3, h4, h5, nm]
        · have h5 : x ∉ words := fun z => (List.mem_append.mp z).elim h3 h4
          have hl : x.length ≤ 16777216 := by omega
          simp [i1, i2, h3, h4, hl, z, fAll_map, nm, h1, h2, h5]
    · have i1 : (1 : Int) ≤ (x.length : Int) := by omega
      have i2 : ¬ (x.length : Int) ≤ 6 := by omega
      simp [i1, i2, nm, h2]
  · have i1 : ¬ (1 : Int) ≤ (x.length : Int) := by omega
    simp [i1, nm, h1]
@[simp] theorem isEmpty_strs (l : List (List Nat)) : (l.map W.str).isEmpty = l.isEmpty := by cases l <;> rfl
theorem eq_nil (l : List (List Nat)) : fEq (.lst (l.map W.str)) (.lst []) = some (.val (.bl l.isEmpty)) := by
  have h1 : shp 64 (.lst (l.map W.str)) = true := shps_str 62 l
  have h2 : shp 64 (.lst []) = true := rfl
  unfold fEq
  rw [if_pos ⟨h1, h2⟩]
  cases l with
  | nil => simp [toD, toDs, PyData.eqv, PyData.eqvAll]
  | cons a r => simp [toD, toDs, PyData.eqv, PyData.eqvAll]
theorem lname_other {S : Store} {w : W} (h : isStr w = false) (h2 : isExc w = false) : g__law_is_name [.v w] S = .ok (.v (.bl false)) S := by
  simp [g__law_is_name, h, h2]
theorem lname_str {S : Store} {x : List Nat} : g__law_is_name [.v (.str x)] S = .ok (.v (.bl (nm x))) S := by
  have z := lcL_pure (t := tgN 1) (tt := g__law_is_name_t1) (te := dVar 1) (env := wipeE [some (.v (.str x)), none] [1]) (S := S) (fun w => match w with | .str [c] => !decide (c ∈ abc) | _ => true) id (x.map fun c => W.str [c]) (fun w hw => by
      obtain ⟨c, hc, rfl⟩ := List.mem_map.mp hw
      exact ⟨_, rfl, by simp [g__law_is_name_t1, wipeE, abc_is], fun _ => rfl⟩)
  have z2 : List.map id (List.filter (fun w => match w with | .str [c] => !decide (c ∈ abc) | _ => true) (x.map fun c => W.str [c])) = ((x.filter fun c => !decide (c ∈ abc)).map fun c => [c]).map W.str := by
    simp [List.filter_map, Function.comp_def]
  rw [z2] at z
  simp [g__law_is_name, kept_is, in_lst]
  by_cases h1 : x = []
  · subst h1
    simp [nm]
  · have hp : 0 < x.length := List.length_pos_iff.mpr h1
    by_cases h2 : x.length ≤ 6
    · have i2 : ¬ ((6 : Int) < x.length) := by omega
      have i3 : 1 ≤ x.length := by omega
      by_cases h3 : x ∈ words
      · simp [h1, i2, h3, nm]
      · have hl : x.length ≤ 16777216 := by omega
        simp only [List.map_map] at z
        have en := eq_nil ((x.filter fun c => !decide (c ∈ abc)).map fun c => [c])
        simp only [List.map_map] at en
        have ea : ((x.filter fun c => !decide (c ∈ abc)).map fun c => [c]).isEmpty = nm x := by
          unfold nm
          rw [decide_eq_true ⟨i3, h2, h3⟩, Bool.true_and, Bool.eq_iff_iff]
          simp
        simp [h1, i2, h3, hl, z, en, ea]
    · have i2 : ((6 : Int) < x.length) := by omega
      simp [h1, i2, nm, h2]
/-! ### names drawn -/
theorem txts_one (xs : List Nat) : txts (xs.map fun c => W.str [c]) = some (xs.map fun c => [c]) := by
  induction xs with
  | nil => rfl
  | cons a r ih => simp [txts, ih]
theorem joinL_one (xs : List Nat) : TL.joinL [] (xs.map fun c => [c]) = xs := by
  induction xs with
  | nil => rfl
  | cons a r ih =>
    cases r with
    | nil => rfl
    | cons b q => simpa [TL.joinL] using ih
theorem join_one {xs : List Nat} (h : xs.length ≤ 16777216) : fJoin (.str []) [.lst (xs.map fun c => .str [c])] = some (.val (.str xs)) := by
  have e : ((xs.map fun c => [c]).map List.length).sum = xs.length := by
    clear h
    induction xs with
    | nil => rfl
    | cons a r ih => rw [List.map_cons, List.map_cons, List.sum_cons, ih]; simp; omega
  unfold fJoin
  simp only [txts_one, e, joinL_one]
  rw [if_pos (by simpa using h)]
theorem abc_words : ∀ a ∈ words, (a.all fun c => decide (c ∈ abc)) = true ∧ 1 ≤ a.length ∧ a.length ≤ 6 := by decide +kernel
theorem no_q : ∀ a ∈ words, a.head? ≠ some 113 := by decide +kernel
section
variable {S : Store} {k : Nat} {n m : Int}
/-- signs drawn into a text -/
theorem draw_signs {l : List Nat} {t : W → Env' → Option Env'} {te : DE} {env : Env'} (hte : ∀ (w : W) (n : Int), ∃ e1, t w env = some e1 ∧ ∃ c n', c ∈ l ∧ te e1 (S.set k (stt n)) = .ok (.v (.str [c])) (S.set k (stt n'))) :
    ∀ (ws : List W) (n : Int), ∃ (xs : List Nat) (n' : Int), lcL t dYes te env ws (S.set k (stt n)) = .ok (xs.map fun c => .str [c]) (S.set k (stt n')) ∧ xs.length = ws.length ∧ ∀ c ∈ xs, c ∈ l
  | [], n => ⟨[], n, rfl, rfl, fun _ z => nomatch z⟩
  | w :: r, n => by
    obtain ⟨e1, h1, c, n1, hc, h2⟩ := hte w n
    obtain ⟨xs, n2, h3, h4, h5⟩ := draw_signs hte r n1
    refine ⟨c :: xs, n2, ?_, by simp [h4], fun d hd => ?_⟩
    · rw [lcL_cons, h1]
      simp [h2, h3]
    · rcases List.mem_cons.mp hd with rfl | z
      · exact hc
      · exact h5 d z
theorem name_end {f : List Nat} (g1 : 1 ≤ f.length) (g2 : f.length ≤ 6) (hg : ∀ c ∈ f, c ∈ abc) : nm (if f ∈ words then 113 :: cutL f (some 1) none else f) = true := by
  by_cases hw : f ∈ words
  · rw [if_pos hw]
    have hq : (113 :: cutL f (some 1) none) ∉ words := fun z => no_q _ z rfl
    have hl : (cutL f (some 1) none).length = f.length - 1 := by
      simp [cutL, HT.sIx]
      omega
    have hm := (cut_sub f (some 1) none).1
    unfold nm
    rw [decide_eq_true ⟨by simp, by simp only [List.length_cons]; omega, hq⟩, Bool.true_and]
    simp only [List.all_cons, Bool.and_eq_true, List.all_eq_true, decide_eq_true_eq]
    exact ⟨by decide, fun c hc => hg c (hm c hc)⟩
  · rw [if_neg hw]
    unfold nm
    rw [decide_eq_true ⟨g1, g2, hw⟩, Bool.true_and]
    simpa using hg
theorem six_ix {a b c d e f : W} {r : Int} (h0 : 0 ≤ r) (h1 : r < 6) : ∃ w, w ∈ [a, b, c, d, e, f] ∧ fIx (.lst [a, b, c, d, e, f]) (.int r) = some (.val w) :=
  ⟨_, pk_mem h0 (by simpa using h1), ix_pk h0 (by simpa using h1)⟩
theorem name_w (hk : k < S.length) : ∃ x n', g__law_name [.o k] (S.set k (stt n)) = .ok (.v (.str x)) (S.set k (stt n')) ∧ nm x = true := by
  obtain ⟨w, n1, hw, e1⟩ := pickL (n := n) hk kept_ne kept_len
  obtain ⟨a, ha, rfl⟩ := List.mem_map.mp hw
  have N := fun n => next_w (n := n) (m := 6) hk (by decide) (by decide)
  obtain ⟨aw1, aw2, aw3⟩ := abc_words a ha
  obtain ⟨w, hw, e3⟩ := six_ix (a := .str (cutL a (some 1) none)) (b := .str (cutL a none (some (-1)))) (c := .str (a ++ [115])) (d := .str a.reverse) (e := .str []) (f := .str []) (Int.emod_nonneg n1 (by decide : (6 : Int) ≠ 0)) (Int.emod_lt_of_pos n1 (by decide))
  obtain ⟨f, rfl, hf⟩ : ∃ f, w = .str f ∧ ∀ c ∈ f, c ∈ abc := by
    have al : ∀ c ∈ a, c ∈ abc := by simpa using aw1
    have c1 := cut_sub a (some 1) none
    have c2 := cut_sub a none (some (-1))
    simp only [List.mem_cons, List.not_mem_nil, or_false] at hw
    rcases hw with rfl | rfl | rfl | rfl | rfl | rfl
    · exact ⟨_, rfl, fun c hc => al c (c1.1 c hc)⟩
    · exact ⟨_, rfl, fun c hc => al c (c2.1 c hc)⟩
    · refine ⟨_, rfl, fun c hc => ?_⟩
      rcases List.mem_append.mp hc with z | z
      · exact al c z
      · simp at z; subst z; decide
    · exact ⟨_, rfl, fun c hc => al c (List.mem_reverse.mp hc)⟩
    · exact ⟨_, rfl, fun c hc => by simp at hc⟩
    · exact ⟨_, rfl, fun c hc => by simp at hc⟩
  have alen : a.length + 1 ≤ 16777216 := by omega
  simp [g__law_name, kept_is, e1, N, fAdd_str, alen, e3, in_lst]
  by_cases hc : f ∈ words ∨ ¬ (1 ≤ f.length ∧ f.length ≤ 6)
  · obtain ⟨xs, n2, e5, e6, e7⟩ := draw_signs (S := S) (k := k) (l := abc) (t := tgN 5) (te := g__law_name_e1) (env := wipeE [some (.o k), some (.v (.str a)), some (.v (.int (n1 % 6))), some (.v (.str f)), some (.v (.str abc)), none] [5]) (fun w n => by
      obtain ⟨c, n', hc, e⟩ := pickS (n := n) hk abc_ne abc_len
      exact ⟨_, rfl, c, n', hc, by simp [g__law_name_e1, wipeE, e]⟩) ((List.range (1 + n1 / 6 % 6).toNat).map fun (i : Nat) => W.int (i : Int)) (n1 / 6 / 6)
    simp only [List.length_map, List.length_range] at e6
    have r0 := Int.emod_nonneg (n1 / 6) (by decide : (6 : Int) ≠ 0)
    have r1 := Int.emod_lt_of_pos (n1 / 6) (by decide : (0 : Int) < 6)
    have hj := join_one (xs := xs) (by omega)
    have hl : (1 + n1 / 6 % 6).toNat ≤ 16777216 := by omega
    have b1 : 1 + n1 / 6 % 6 < 4611686018427387904 := by omega
    have b2 : -4611686018427387904 ≤ 1 + n1 / 6 % 6 := by omega
    refine ⟨if xs ∈ words then 113 :: cutL xs (some 1) none else xs, ⟨n2, ?_⟩, name_end (by omega) (by omega) e7⟩
    rw [abc_is]
    have l3 := (cut_sub xs (some 1) none).2
    have l4 : 1 + (cutL xs (some 1) none).length ≤ 16777216 := by omega
    have done : ((1 : Int) ≤ f.length → (f.length : Int) ≤ 6 → f ∈ words) := fun h1 h2 => hc.elim id fun z => absurd ⟨by omega, by omega⟩ z
    by_cases hx : xs ∈ words
    · by_cases hw : f ∈ words
      · simp [hw, N, b1, b2, hl, e5, hj, kept_is, in_lst, hx, l4, fAdd_str]
      · by_cases h1 : (1 : Int) ≤ f.length
        · have h2 : ¬ (f.length : Int) ≤ 6 := fun z => hw (done h1 z)
          simp [hw, h1, h2, N, b1, b2, hl, e5, hj, kept_is, in_lst, hx, l4, fAdd_str]
        · simp [hw, h1, N, b1, b2, hl, e5, hj, kept_is, in_lst, hx, l4, fAdd_str]
    · by_cases hw : f ∈ words
      · simp [hw, N, b1, b2, hl, e5, hj, kept_is, in_lst, hx]
      · by_cases h1 : (1 : Int) ≤ f.length
        · have h2 : ¬ (f.length : Int) ≤ 6 := fun z => hw (done h1 z)
          simp [hw, h1, h2, N, b1, b2, hl, e5, hj, kept_is, in_lst, hx]
        · simp [hw, h1, N, b1, b2, hl, e5, hj, kept_is, in_lst, hx]
  · obtain ⟨h1, h2⟩ := not_or.mp hc
    obtain ⟨h2, h3⟩ := Decidable.not_not.mp h2
    have i2 : (1 : Int) ≤ f.length := by omega
    have i3 : (f.length : Int) ≤ 6 := by omega
    refine ⟨f, ⟨n1 / 6, ?_⟩, ?_⟩
    · simp [h1, i2, i3, kept_is, in_lst]
    · have z := name_end h2 h3 hf
      rw [if_neg h1] at z
      exact z
theorem st_loop {i : Nat} {j c : Int} : ∀ (ws : List W), (∀ w ∈ ws, ∃ z : Int, w = .int z) → ∀ (f : Int) (a b : Option U), ∃ (f' : Int) (a' b' : Option U),
    dLoop (tgN 4) g__law_state_b1 ws [some (.o i), some (.v (.int j)), some (.v (.int c)), some (.v (.int f)), a, b] S = .ok (.nx [some (.o i), some (.v (.int j)), some (.v (.int c)), some (.v (.int f')), a', b']) S
  | [], _, f, a, b => ⟨f, a, b, rfl⟩
  | w :: r, h, f, a, b => by
    obtain ⟨z, rfl⟩ := h w List.mem_cons_self
    have m1 : fMul (.int 40) (.int j) = _ := mul_ok (.inl (by decide))
    have m2 : fMul (.int 7919) (.int (40 * j + z + 1)) = _ := mul_ok (.inl (by decide))
    have m3 : fMul (.int (c + 7919 * (40 * j + z + 1))) (.int 48271) = _ := mul_ok (.inr (by decide))
    have m4 : fMul (.int f) (.int 2147483629) = _ := mul_ok (.inr (by decide))
    have m5 : fMul (.int 2) (.int z) = _ := mul_ok (.inl (by decide))
    generalize hq : (c + 7919 * (40 * j + z + 1)) * 48271 % 2147483647 = q at *
    have q0 : 0 ≤ q := by rw [← hq]; exact Int.emod_nonneg _ (by decide)
    have q1 : q < 2147483647 := by rw [← hq]; exact Int.emod_lt_of_pos _ (by decide)
    have m6 : fMul (.int q) (.int (q + 2 * z + 1)) = _ := mul_ok (.inl ⟨by omega, by omega⟩)
    obtain ⟨f', a', b', e⟩ := st_loop r (fun w hw => h w (List.mem_cons_of_mem _ hw)) (f * 2147483629 + q * (q + 2 * z + 1) % 2147483629) (some (.v (.int z))) (some (.v (.int q)))
    refine ⟨f', a', b', ?_⟩
    rw [← e]
    simp [dLoop_cons, g__law_state_b1, m1, m2, m3, m4, m5, m6, fMod_int, hq]
theorem fin_own {o : Ob} : fin S.length (.o S.length) (S ++ [o]) = .ok (.o S.length) (S ++ [o]) := by
  simp [fin]
theorem state_is {i : Nat} {j : Int} {ns : List Int} (hS : S[i]? = some (.scr (ns.map W.int))) (h0 : 0 ≤ j) : ∃ n, g__law_state [.o i, .v (.int j)] S = .ok (.o S.length) (S ++ [stt n]) := by
  have hd : dr S (.o i) = some (.lst (ns.map W.int)) := by simp [dr, hS]
  have hp : fPow (.int 10) (.int 18) = some (.val (.int 1000000000000000000)) := rfl
  have lp := fun c => st_loop (S := S) (i := i) (j := j) (c := c) ((List.range 14).map fun (i : Nat) => W.int (i : Int)) (fun w hw => by
      obtain ⟨z, _, rfl⟩ := List.mem_map.mp hw
      exact ⟨_, rfl⟩) 0 none none
  by_cases hj : j < ns.length
  · have hl : j.toNat < ns.length := by omega
    have e := ix_pk (l := ns.map W.int) h0 (by simpa using hj)
    have e2 : pk (ns.map W.int) j = .int ns[j.toNat] := by simp [pk, hl]
    rw [e2] at e
    have ea : fAbs [.int ns[j.toNat]] = some (.val (.int (if ns[j.toNat] < 0 then -ns[j.toNat] else ns[j.toNat]))) := rfl
    generalize (if ns[j.toNat] < 0 then -ns[j.toNat] else ns[j.toNat]) = c at ea
    by_cases hb : (1000000000000000000 : Int) ≤ c
    · exact ⟨c - 1000000000000000000, by simp [g__law_state, hd, hj, e, ea, hp, hb, fin_own]⟩
    · obtain ⟨f, a, b, el⟩ := lp c
      exact ⟨f, by simp [g__law_state, hd, hj, e, ea, hp, hb, el, fin_own]⟩
  · obtain ⟨f, a, b, el⟩ := lp 0
    exact ⟨f, by simp [g__law_state, hd, hj, hp, el, fin_own]⟩
/-- the state at k, in the form in which the draws are told -/
theorem app_set {n : Int} : S ++ [stt n] = (S ++ [stt 0]).set S.length (stt n) := by simp
end
end Bel

/-! Terms. -/
namespace Bel
open PySem PySem.Spec PyProof.Rows L2
abbrev tNum : List Nat := [110, 117, 109, 98, 101, 114]
abbrev tBox : List Nat := [98, 111, 120]
abbrev tPlus : List Nat := [112, 108, 117, 115]
abbrev tLess : List Nat := [108, 101, 115, 115]
abbrev tSame : List Nat := [115, 97, 109, 101]
def signw : List (List Nat) := [tPlus, tLess, tSame]
mutual
/-- no error in it -/
def neW : W → Bool
  | .exc _ => false
  | .tdc _ => false
  | .tup l => neWs l
  | _ => true
def neWs : List W → Bool
  | [] => true
  | w :: r => neW w && neWs r
end
@[simp] theorem neW_tup (l : List W) : neW (.tup l) = neWs l := by simp [neW]
@[simp] theorem neW_str (l : List Nat) : neW (.str l) = true := by simp [neW]
@[simp] theorem neW_int (i : Int) : neW (.int i) = true := by simp [neW]
@[simp] theorem neW_bl (i : Bool) : neW (.bl i) = true := by simp [neW]
@[simp] theorem neW_non : neW .non = true := by simp [neW]
@[simp] theorem neW_lst (l : List W) : neW (.lst l) = true := by simp [neW]
@[simp] theorem neW_dct (l : List (W × W)) : neW (.dct l) = true := by simp [neW]
@[simp] theorem neWs_nil : neWs [] = true := by simp [neWs]
@[simp] theorem neWs_cons (w : W) (r : List W) : neWs (w :: r) = (neW w && neWs r) := by simp [neWs]
theorem neWs_iff {l : List W} : neWs l = true ↔ ∀ w ∈ l, neW w = true := by
  induction l with
  | nil => simp
  | cons a r ih => simp [ih]
theorem neWs_app {l r : List W} : neWs (l ++ r) = (neWs l && neWs r) := by
  induction l with
  | nil => simp
  | cons a q ih => simp [ih, Bool.and_assoc]
theorem ne_exc {w : W} (h : neW w = true) : isExc w = false := by
  cases w with
  | exc c => simp [neW] at h
  | tdc l => simp [neW] at h
  | _ => rfl
def isnum (w : W) (m : Int) : Bool := match w with
  | .int i => decide (0 ≤ i ∧ i ≤ m)
  | _ => false
def isnm (w : W) : Bool := match w with
  | .str x => nm x
  | _ => false
def l1 (p : W → Bool) : List W → Bool
  | [a] => p a
  | _ => false
def l2 (p : W → Bool) : List W → Bool
  | [a, b] => p a && p b
  | _ => false
@[simp] theorem l1_0 (p : W → Bool) : l1 p [] = false := rfl
@[simp] theorem l1_1 (p : W → Bool) (a : W) : l1 p [a] = p a := rfl
@[simp] theorem l1_2 (p : W → Bool) (a b : W) (l : List W) : l1 p (a :: b :: l) = false := rfl
@[simp] theorem l2_0 (p : W → Bool) : l2 p [] = false := rfl
@[simp] theorem l2_1 (p : W → Bool) (a : W) : l2 p [a] = false := rfl
@[simp] theorem l2_2 (p : W → Bool) (a b : W) : l2 p [a, b] = (p a && p b) := rfl
@[simp] theorem l2_3 (p : W → Bool) (a b c : W) (l : List W) : l2 p (a :: b :: c :: l) = false := rfl
/-- a reckoning, so deep at most -/
def tm : Nat → W → Bool
  | 0, _ => false
  | d + 1, .tup (.str s :: l) => if s = tNum then l1 (fun a => isnum a 999) l else if s = tBox then l1 isnm l else if s ∈ signw then l2 (tm d) l else false
  | _ + 1, _ => false
@[simp] theorem tm_0 (w : W) : tm 0 w = false := rfl
@[simp] theorem tm_s (d : Nat) (s : List Nat) (l : List W) : tm (d + 1) (.tup (.str s :: l)) = if s = tNum then l1 (fun a => isnum a 999) l else if s = tBox then l1 isnm l else if s ∈ signw then l2 (tm d) l else false := rfl
theorem tm_o {d : Nat} {w : W} (h : ∀ s l, w ≠ .tup (.str s :: l)) : tm d w = false := by
  cases d with
  | zero => rfl
  | succ d =>
    unfold tm
    split
    · rfl
    · exact absurd rfl (h _ _)
    · rfl
section
variable {S : Store}
theorem is_number_w {w : W} {m : Int} (h : isExc w = false) : g_is_number [.v w, .v (.int m)] S = .ok (.v (.bl (isnum w m))) S := by
  cases w with
  | int i =>
    by_cases h0 : 0 ≤ i <;> simp [g_is_number, isnum, h0]
  | bl b => simp [g_is_number, isnum]
  | exc c => cases h
  | tdc l => cases h
  | kdc l => simp [g_is_number, isnum, isInt, isExc]
  | _ => simp [g_is_number, isnum]
theorem is_name_w {w : W} (h : isExc w = false) : g_is_name [.v w] S = .ok (.v (.bl (isnm w))) S := by
  cases w with
  | str x => exact is_name_str
  | _ => exact is_name_other rfl h
theorem lname_w {w : W} (h : isExc w = false) : g__law_is_name [.v w] S = .ok (.v (.bl (isnm w))) S := by
  cases w with
  | str x => exact lname_str
  | _ => exact lname_other rfl h
theorem signs_look (s : List Nat) : (d_SIGNS.lookup s).isSome = decide (s ∈ signw) := by
  by_cases h1 : s = tPlus
  · subst h1; rfl
  by_cases h2 : s = tLess
  · subst h2; rfl
  by_cases h3 : s = tSame
  · subst h3; rfl
  have n1 : (s == tPlus) = false := by simpa using h1
  have n2 : (s == tLess) = false := by simpa using h2
  have n3 : (s == tSame) = false := by simpa using h3
  simp [d_SIGNS, List.lookup, n1, n2, n3, signw, h1, h2, h3]
theorem in_signs (s : List Nat) : fInO (.str s) c_SIGNS = some (.val (.bl (decide (s ∈ signw)))) := by
  rw [c_SIGNS, in_kdc, signs_look]
theorem cut1 {α : Type} (a : α) (l : List α) : cutL (a :: l) (some 1) none = l := by
  simp [cutL, HT.sIx]
theorem stands_w : ∀ (d r : Nat) (w : W) (i : Int), d + 1 ≤ r → i = 7 - d → neW w = true → g_stands_so r [.v w, .v (.int i)] S = .ok (.v (.bl (tm d w))) S
  | d, 0, w, i, h, _, _ => by omega
  | d, r + 1, w, i, h, hi, hw => by
    have hx := ne_exc hw
    cases d with
    | zero =>
      have h6 : (6 : Int) < i := by omega
      simp [g_stands_so, c_MOST_WITHIN, h6]
    | succ d =>
      have h6 : ¬ (6 : Int) < i := by omega
      have IH := fun (w : W) (hw : neW w = true) => stands_w d r w (i + 1) (by omega) (by omega) hw
      by_cases ht : isTup w = true
      · obtain ⟨l, rfl⟩ : ∃ l, w = .tup l := by cases w <;> simp [isTup] at ht; exact ⟨_, rfl⟩
        cases l with
        | nil => simp [g_stands_so, c_MOST_WITHIN, h6, tm_o]
        | cons x l =>
          simp at hw
          have hx := ne_exc hw.1
          by_cases hs : isStr x = true
          · obtain ⟨s, rfl⟩ : ∃ s, x = .str s := by cases x <;> simp [isStr] at hs; exact ⟨_, rfl⟩
            have len0 : ¬ (l.length : Int) + 1 = 0 := by omega
            by_cases h1 : s = tNum
            · subst h1
              match l, hw with
              | [], _ => simp [g_stands_so, c_MOST_WITHIN, h6]
              | [a], hw => simp at hw; simp [g_stands_so, c_MOST_WITHIN, h6, c_MOST_NUMBER, is_number_w (ne_exc hw)]
              | a :: b :: q, _ =>
                have e : ¬ (q.length : Int) + 1 + 1 + 1 = 2 := by omega
                have e0 : ¬ (q.length : Int) + 1 + 1 + 1 = 0 := by omega
                simp [g_stands_so, c_MOST_WITHIN, h6, e, e0]
            · by_cases h2 : s = tBox
              · subst h2
                match l, hw with
                | [], _ => simp [g_stands_so, c_MOST_WITHIN, h6]
                | [a], hw => simp at hw; simp [g_stands_so, c_MOST_WITHIN, h6, is_name_w (ne_exc hw)]
                | a :: b :: q, _ =>
                  have e : ¬ (q.length : Int) + 1 + 1 + 1 = 2 := by omega
                  have e0 : ¬ (q.length : Int) + 1 + 1 + 1 = 0 := by omega
                  simp [g_stands_so, c_MOST_WITHIN, h6, e, e0]
              · by_cases h3 : s ∈ signw
                · match l, hw with
                  | [], _ => simp [g_stands_so, c_MOST_WITHIN, h6, h1, h2, h3, in_signs]
                  | [a], _ => simp [g_stands_so, c_MOST_WITHIN, h6, h1, h2, h3, in_signs]
                  | [a, b], hw =>
                    simp at hw
                    have ez := lcL_map (t := tgN 2) (te := g_stands_so_e1 (g_stands_so r)) (env := wipeE [some (.v (.tup [.str s, a, b])), some (.v (.int i)), none] [2]) (S := S) id (fun w => .bl (tm d w)) [a, b] (fun x hx => ⟨_, rfl, by
                      have hn : neW x = true := by
                        simp at hx
                        rcases hx with rfl | rfl
                        · exact hw.1
                        · exact hw.2
                      simp [g_stands_so_e1, wipeE, IH x hn]⟩)
                    have ea := fAll_map (tm d) [a, b]
                    simp only [List.map_cons, List.map_nil, id] at ez ea
                    simp [g_stands_so, c_MOST_WITHIN, h6, h1, h2, h3, in_signs, cut1, ez, ea]
                  | a :: b :: c :: q, _ =>
                    have e : ¬ (q.length : Int) + 1 + 1 + 1 + 1 = 3 := by omega
                    have e0 : ¬ (q.length : Int) + 1 + 1 + 1 + 1 = 0 := by omega
                    simp [g_stands_so, c_MOST_WITHIN, h6, h1, h2, h3, in_signs, e, e0]
                · simp [g_stands_so, c_MOST_WITHIN, h6, h1, h2, h3, in_signs, len0]
          · have e := tm_o (d := d + 1) (w := .tup (x :: l)) (fun s l' z => by injection z with z; injection z with z; subst z; exact hs rfl)
            have len0 : ¬ (l.length : Int) + 1 = 0 := by omega
            simp [g_stands_so, c_MOST_WITHIN, h6, hx, hs, e, len0]
      · have e := tm_o (d := d + 1) (w := w) (fun s l z => by subst z; exact ht rfl)
        simp [g_stands_so, c_MOST_WITHIN, h6, hx, ht, e]
end
end Bel

/-! Terms drawn. -/
namespace Bel
open PySem PySem.Spec PyProof.Rows L2
theorem tm_mono : ∀ {d e : Nat} {w : W}, d ≤ e → tm d w = true → tm e w = true
  | 0, _, _, _, h => by simp at h
  | d + 1, 0, _, hl, _ => by omega
  | d + 1, e + 1, w, hl, h => by
    by_cases hh : ∃ s l, w = .tup (.str s :: l)
    · obtain ⟨s, l, rfl⟩ := hh
      by_cases h1 : s = tNum
      · simpa [h1] using h
      by_cases h2 : s = tBox
      · simpa [h2] using h
      by_cases h3 : s ∈ signw
      · simp only [tm_s, h1, h2, h3, if_true, if_false] at h ⊢
        match l, h with
        | [a, b], h =>
          simp at h ⊢
          exact ⟨tm_mono (by omega) h.1, tm_mono (by omega) h.2⟩
        | [], h => simp at h
        | [a], h => simp at h
        | a :: b :: c :: q, h => simp at h
      · simp [h1, h2, h3] at h
    · rw [tm_o (fun s l z => hh ⟨s, l, z⟩)] at h
      cases h
theorem tm_num {d : Nat} {i : Int} (h0 : 0 ≤ i) (h1 : i ≤ 999) : tm (d + 1) (.tup [.str tNum, .int i]) = true := by simp [isnum, h0, h1]
theorem tm_box {d : Nat} {x : List Nat} (h : nm x = true) : tm (d + 1) (.tup [.str tBox, .str x]) = true := by simp [isnm, h]
theorem tm_bin {d : Nat} {s : List Nat} {a b : W} (hs : s ∈ signw) (ha : tm d a = true) (hb : tm d b = true) : tm (d + 1) (.tup [.str s, a, b]) = true := by
  have h1 : s ≠ tNum := fun z => by subst z; revert hs; decide
  have h2 : s ≠ tBox := fun z => by subst z; revert hs; decide
  simp [h1, h2, hs, ha, hb]
theorem isnm_str {w : W} (h : isnm w = true) : ∃ x, w = .str x ∧ nm x = true := by
  cases w with
  | str x => exact ⟨x, rfl, h⟩
  | _ => cases h
theorem isnum_int {w : W} {m : Int} (h : isnum w m = true) : ∃ i, w = .int i ∧ 0 ≤ i ∧ i ≤ m := by
  cases w with
  | int i => exact ⟨i, rfl, by simpa [isnum] using h⟩
  | _ => cases h
/-- what a reckoning is made of -/
theorem tm_cases {d : Nat} {w : W} (h : tm (d + 1) w = true) : (∃ i, w = .tup [.str tNum, .int i] ∧ 0 ≤ i ∧ i ≤ 999) ∨ (∃ x, w = .tup [.str tBox, .str x] ∧ nm x = true) ∨ ∃ s a b, w = .tup [.str s, a, b] ∧ s ∈ signw ∧ tm d a = true ∧ tm d b = true := by
  by_cases hh : ∃ s l, w = .tup (.str s :: l)
  · obtain ⟨s, l, rfl⟩ := hh
    simp only [tm_s] at h
    split at h
    · rename_i e
      subst e
      match l, h with
      | [a], h => obtain ⟨i, rfl, h0, h1⟩ := isnum_int h; exact .inl ⟨i, rfl, h0, h1⟩
      | [], h => simp at h
      | a :: b :: q, h => simp at h
    split at h
    · rename_i e
      subst e
      match l, h with
      | [a], h => obtain ⟨x, rfl, h0⟩ := isnm_str h; exact .inr (.inl ⟨x, rfl, h0⟩)
      | [], h => simp at h
      | a :: b :: q, h => simp at h
    split at h
    · rename_i e
      match l, h with
      | [a, b], h => simp at h; exact .inr (.inr ⟨s, a, b, rfl, e, h.1, h.2⟩)
      | [], h => simp at h
      | [a], h => simp at h
      | a :: b :: c :: q, h => simp at h
    · cases h
  · rw [tm_o (fun s l z => hh ⟨s, l, z⟩)] at h
    cases h
theorem tm_ne : ∀ {d : Nat} {w : W}, tm d w = true → neW w = true
  | 0, _, h => by simp at h
  | d + 1, w, h => by
    rcases tm_cases h with ⟨i, rfl, _⟩ | ⟨x, rfl, _⟩ | ⟨s, a, b, rfl, _, ha, hb⟩
    · simp
    · simp
    · simp [tm_ne ha, tm_ne hb]
section
variable {S : Store} {k : Nat} {n m : Int}
theorem rem_lt {n m : Int} (h : 0 < m) : 0 ≤ n % m ∧ n % m < m := ⟨Int.emod_nonneg n (by omega), Int.emod_lt_of_pos n h⟩
theorem term_w (hk : k < S.length) {l : List W} (l0 : l ≠ []) (l1 : l.length < 1073741824) (hl : ∀ w ∈ l, isnm w = true) : ∀ (d r : Nat) (n : Int), 1 ≤ d → d ≤ r → ∃ t n', g__law_term r [.o k, .v (.lst l), .v (.int d)] (S.set k (stt n)) = .ok (.v t) (S.set k (stt n')) ∧ tm d t = true
  | d, 0, n, h, h2 => by omega
  | 0, r + 1, n, h, h2 => by omega
  | d + 1, r + 1, n, h, h2 => by
    have N := fun n => next_w (n := n) (m := 6) hk (by decide) (by decide)
    have N2 := fun n => next_w (n := n) (m := 1000) hk (by decide) (by decide)
    obtain ⟨r0, r1⟩ := rem_lt (n := n) (m := 6) (by decide)
    have N := N n
    generalize n % 6 = y at *
    by_cases hc : d = 0 ∨ y < 2
    · have hc' : ¬ (d = 0) → y < 2 := fun z => hc.elim (fun y => absurd y z) id
      by_cases he : y % 2 = 0
      · have P := pickL_w (n := n / 6) hk l0 l1
        obtain ⟨x, ex, hx⟩ := isnm_str (hl _ (pick_mem (n := n / 6) l0))
        rw [ex] at P
        by_cases hd : d = 0
        · subst hd; exact ⟨_, _, (by simp [g__law_term, N, fMod_int, he, P]; rfl), tm_box hx⟩
        · exact ⟨_, _, (by simp [g__law_term, N, hd, hc' hd, fMod_int, he, P]; rfl), tm_box hx⟩
      · obtain ⟨w, n', hw, P⟩ := pickL (n := n / 6 / 1000) hk (l := [.int 0, .int 1, .int 9, .int 10, .int 99, .int 100, .int 500, .int 998, .int 999, .int (n / 6 % 1000)]) (by simp) (by simp)
        obtain ⟨q0, q1⟩ := rem_lt (n := n / 6) (m := 1000) (by decide)
        obtain ⟨i, rfl, h0, h1⟩ : ∃ i, w = .int i ∧ 0 ≤ i ∧ i ≤ 999 := by
          simp only [List.mem_cons, List.not_mem_nil, or_false] at hw
          rcases hw with rfl | rfl | rfl | rfl | rfl | rfl | rfl | rfl | rfl | rfl <;> exact ⟨_, rfl, by omega, by omega⟩
        by_cases hd : d = 0
        · subst hd; exact ⟨_, _, (by simp [g__law_term, N, N2, fMod_int, he, P]; rfl), tm_num h0 h1⟩
        · exact ⟨_, _, (by simp [g__law_term, N, N2, hd, hc' hd, fMod_int, he, P]; rfl), tm_num h0 h1⟩
    · have hd : ¬ d = 0 := fun z => hc (.inl z)
      have hw2 : ¬ y < 2 := fun z => hc (.inr z)
      obtain ⟨a, n1, e1, h1⟩ := term_w hk l0 l1 hl d r (n / 6) (by omega) (by omega)
      obtain ⟨b, n2, e2, h3⟩ := term_w hk l0 l1 hl d r n1 (by omega) (by omega)
      have ei := ix_pk (l := [.str tPlus, .str tLess, .str tSame, .str tPlus]) (i := y - 2) (by omega) (by simp; omega)
      have em := pk_mem (l := [.str tPlus, .str tLess, .str tSame, .str tPlus]) (i := y - 2) (by omega) (by simp; omega)
      obtain ⟨s, es, hs⟩ : ∃ s, pk [.str tPlus, .str tLess, .str tSame, .str tPlus] (y - 2) = .str s ∧ s ∈ signw := by
        simp only [List.mem_cons, List.not_mem_nil, or_false] at em
        rcases em with e | e | e | e <;> exact ⟨_, e, by decide⟩
      rw [es] at ei
      have ed : ((d : Int) + 1 - 1) = d := by omega
      have hd1 : ¬ ((d : Int) + 1 = 1) := by omega
      exact ⟨_, _, (by simp [g__law_term, N, hd1, hw2, ed, e1, e2, ei]; rfl), tm_bin hs h1 h3⟩
theorem cut_rev (a b : W) : (Out.nt [a, b].reverse) = .nt [b, a] := rfl
theorem chain_loop (hk : k < S.length) {l : List W} (l0 : l ≠ []) (l1 : l.length < 1073741824) (hl : ∀ w ∈ l, isnm w = true) {x2 : Option U} : ∀ (ws : List W) (d : Nat) (t : W) (n : Int) (x4 x5 x6 : Option U), tm d t = true → 1 ≤ d → d + ws.length ≤ 7 → ∃ t' n' y4 y5 y6,
    dLoop (tgN 4) g__law_chain_b1 ws [some (.o k), some (.v (.lst l)), x2, some (.v t), x4, x5, x6] (S.set k (stt n)) = .ok (.nx [some (.o k), some (.v (.lst l)), x2, some (.v t'), y4, y5, y6]) (S.set k (stt n')) ∧ tm (d + ws.length) t' = true
  | [], d, t, n, x4, x5, x6, h, h1, h2 => ⟨t, n, x4, x5, x6, rfl, h⟩
  | w :: r, d, t, n, x4, x5, x6, h, h1, h2 => by
    obtain ⟨o, n1, e1, ho⟩ := term_w hk l0 l1 hl 1 8 n (by decide) (by decide)
    have ho := tm_mono h1 ho
    obtain ⟨sg, n2, hs, e2⟩ := pickL (n := n1) hk (l := [.str tPlus, .str tLess, .str tSame]) (by simp) (by simp)
    obtain ⟨s, rfl, hsg⟩ : ∃ s, sg = .str s ∧ s ∈ signw := by
      simp only [List.mem_cons, List.not_mem_nil, or_false] at hs
      rcases hs with e | e | e <;> exact ⟨_, e, by decide⟩
    have N := next_w (n := n2) (m := 2) hk (by decide) (by decide)
    obtain ⟨r0, r1⟩ := rem_lt (n := n2) (m := 2) (by decide)
    generalize n2 % 2 = y at *
    have e3 : ((1 : Nat) : Int) = 1 := rfl
    rw [e3] at e1
    simp only [List.length_cons] at h2
    obtain rfl | rfl : y = 0 ∨ y = 1 := by omega
    · obtain ⟨t', n', y4, y5, y6, e, h'⟩ := chain_loop hk l0 l1 hl r (d + 1) (.tup [.str s, t, o]) (n2 / 2) (some (.v w)) (some (.v (.tup [t, o]))) (some (.v (.str s))) (tm_bin hsg h ho) (by omega) (by omega)
      refine ⟨t', n', y4, y5, y6, ?_, by rw [List.length_cons, Nat.add_comm r.length, ← Nat.add_assoc]; exact h'⟩
      rw [← e]
      simp [dLoop_cons, g__law_chain_b1, e1, e2, N, fAdd_tup]
    · obtain ⟨t', n', y4, y5, y6, e, h'⟩ := chain_loop hk l0 l1 hl r (d + 1) (.tup [.str s, o, t]) (n2 / 2) (some (.v w)) (some (.v (.tup [t, o]))) (some (.v (.str s))) (tm_bin hsg ho h) (by omega) (by omega)
      refine ⟨t', n', y4, y5, y6, ?_, by rw [List.length_cons, Nat.add_comm r.length, ← Nat.add_assoc]; exact h'⟩
      rw [← e]
      simp [dLoop_cons, g__law_chain_b1, e1, e2, N, fAdd_tup]
theorem chain_w (hk : k < S.length) {l : List W} (l0 : l ≠ []) (l1 : l.length < 1073741824) (hl : ∀ w ∈ l, isnm w = true) {d : Nat} (h1 : 1 ≤ d) (h2 : d ≤ 6) : ∃ t n', g__law_chain [.o k, .v (.lst l), .v (.int d)] (S.set k (stt n)) = .ok (.v t) (S.set k (stt n')) ∧ tm d t = true := by
  obtain ⟨o, n1, e1, ho⟩ := term_w hk l0 l1 hl 1 8 n (by decide) (by decide)
  have e3 : ((1 : Nat) : Int) = 1 := rfl
  rw [e3] at e1
  obtain ⟨t', n', y4, y5, y6, e, h'⟩ := chain_loop hk l0 l1 hl (x2 := some (.v (.int d))) ((List.range (d - 1)).map fun (i : Nat) => W.int (i : Int)) 1 o n1 none none none ho (by decide) (by simp; omega)
  simp only [List.length_map, List.length_range] at h'
  rw [show 1 + (d - 1) = d by omega] at h'
  have f := for_rng (d := dBin false fSub (dVar 2) (dC (.int 1))) (e := [some (.o k), some (.v (.lst l)), some (.v (.int d)), some (.v o), none, none, none]) (S := S.set k (stt n1)) (S1 := S.set k (stt n1)) (i := (d : Int) - 1) (t := tgN 4) (b := g__law_chain_b1) (by simp) (by omega) (by omega)
  rw [show ((d : Int) - 1).toNat = d - 1 by omega, e] at f
  refine ⟨t', n', ?_, h'⟩
  simp only [dFor_ap, dRng1_ap, dBin_ap, dVar_ap, dC_ap] at f
  simp [g__law_chain, e1]
  simp at f
  simp [f]
theorem drawn_w (hk : k < S.length) {l : List W} (l0 : l ≠ []) (l1 : l.length < 1073741824) (hl : ∀ w ∈ l, isnm w = true) : ∃ t n', g__law_drawn [.o k, .v (.lst l)] (S.set k (stt n)) = .ok (.v t) (S.set k (stt n')) ∧ tm 6 t = true := by
  have N := next_w (n := n) (m := 6) hk (by decide) (by decide)
  have N2 := next_w (n := n / 6) (m := 2) hk (by decide) (by decide)
  obtain ⟨r0, r1⟩ := rem_lt (n := n) (m := 6) (by decide)
  obtain ⟨q0, q1⟩ := rem_lt (n := n / 6) (m := 2) (by decide)
  generalize n % 6 = y at *
  obtain ⟨d, hd⟩ : ∃ d : Nat, 1 + y = d := ⟨(1 + y).toNat, by omega⟩
  by_cases h : n / 6 % 2 = 0
  · obtain ⟨t, n', e, ht⟩ := chain_w (n := n / 6 / 2) hk l0 l1 hl (d := d) (by omega) (by omega)
    exact ⟨t, n', (by simp [g__law_drawn, N, N2, hd, h, e]), tm_mono (by omega) ht⟩
  · obtain ⟨t, n', e, ht⟩ := term_w hk l0 l1 hl d 8 (n / 6 / 2) (by omega) (by omega)
    exact ⟨t, n', (by simp [g__law_drawn, N, N2, hd, h, e]), tm_mono (by omega) ht⟩
end
end Bel

/-! Terms looked at by a row of what is left. -/
namespace Bel
open PySem PySem.Spec PyProof.Rows L2
theorem fPop_app {l : List W} {w : W} : fPop (l ++ [w]) [] = some (l, w) := by
  simp [fPop]
def cst : Nat → Nat
  | 0 => 1
  | d + 1 => 2 * cst d + 1
theorem cst_pos : ∀ d, 1 ≤ cst d
  | 0 => by decide
  | d + 1 => by unfold cst; omega
def csts (st : List (W × Nat)) : Nat := (st.map fun p => cst p.2).sum
theorem csts_len : ∀ st : List (W × Nat), st.length ≤ csts st
  | [] => by simp [csts]
  | p :: r => by
    have := csts_len r
    have := cst_pos p.2
    simp [csts] at *
    omega
def prw (p : W × Nat) : W := .tup [p.1, .int (7 - p.2)]
theorem notin_signs (s : List Nat) : fNotInO (.str s) (.tup [.str tPlus, .str tLess, .str tSame]) = some (.val (.bl (!decide (s ∈ signw)))) := notin_tup signw s
theorem whN_succ {t : DT} {b : DS} {n : Nat} {e : Env'} {S : Store} : whN t b (n + 1) e S = (t e S).st e fun k S1 => if k = true then (match b e S1 with
      | .ok (.nx e2) S2 => whN t b n e2 S2
      | .ok (.ct e2) S2 => whN t b n e2 S2
      | .ok (.bk e2) S2 => .ok (.nx e2) S2
      | r => r) else .ok (.nx e) S1 := rfl
theorem lt_turn {T : Store} {k : Nat} {l : List W} {w : W} {d : Nat} {x0 x2 x3 : Option U} (h5 : T[k]? = some (.lst (l ++ [prw (w, d)]))) (hw : neW w = true) (hd6 : d ≤ 6) (hl : l.length ≤ 5000) :
    (tm d w = true ∧ g__law_is_term_b1 [x0, some (.o k), x2, x3] T = .ok (.nx [x0, some (.o k), some (.v w), some (.v (.int (7 - d)))]) (T.set k (.lst l))) ∨
    (tm d w = false ∧ g__law_is_term_b1 [x0, some (.o k), x2, x3] T = .ok (.rt (.v (.bl false))) (T.set k (.lst l))) ∨
    (∃ a b d', d = d' + 1 ∧ tm d w = (tm d' a && tm d' b) ∧ neW a = true ∧ neW b = true ∧ g__law_is_term_b1 [x0, some (.o k), x2, x3] T = .ok (.nx [x0, some (.o T.length), some (.v w), some (.v (.int (7 - d)))]) (T.set k (.lst l) ++ [.lst (l ++ [prw (a, d'), prw (b, d')])])) := by
  have hk : k < T.length := lt_of_st h5
  have hx := ne_exc hw
  unfold prw at h5
  simp only at h5
  cases d with
  | zero =>
    refine .inr (.inl ⟨rfl, ?_⟩)
    simp [g__law_is_term_b1, h5, fPop_app]
  | succ d =>
    have h6 : ¬ (6 : Int) < 7 - ((d + 1 : Nat) : Int) := by omega
    generalize hi : (7 - ((d + 1 : Nat) : Int)) = i at *
    have hlen : l.length + 2 ≤ 16777216 := by omega
    by_cases ht : isTup w = true
    · obtain ⟨q, rfl⟩ : ∃ l, w = .tup l := by cases w <;> simp [isTup] at ht; exact ⟨_, rfl⟩
      cases q with
      | nil => exact .inr (.inl ⟨tm_o (by simp), by simp [g__law_is_term_b1, h5, fPop_app, h6]⟩)
      | cons x q =>
        simp at hw
        have hx := ne_exc hw.1
        by_cases hs : isStr x = true
        · obtain ⟨s, rfl⟩ : ∃ s, x = .str s := by cases x <;> simp [isStr] at hs; exact ⟨_, rfl⟩
          match q, hw with
          | [], _ =>
            refine .inr (.inl ⟨by simp, by simp [g__law_is_term_b1, h5, fPop_app, h6]⟩)
          | [a], hw =>
            simp at hw
            have ha := ne_exc hw
            by_cases h1 : s = tNum
            · subst h1
              cases a with
              | int j =>
                by_cases j0 : 0 ≤ j
                · by_cases j1 : j ≤ 999
                  · exact .inl ⟨by simp [isnum, j0, j1], by simp [g__law_is_term_b1, h5, fPop_app, h6, j0, j1]⟩
                  · exact .inr (.inl ⟨by simp [isnum, j0, j1], by simp [g__law_is_term_b1, h5, fPop_app, h6, j0, j1]⟩)
                · exact .inr (.inl ⟨by simp [isnum, j0], by simp [g__law_is_term_b1, h5, fPop_app, h6, j0]⟩)
              | exc c => cases ha
              | tdc c => cases ha
              | kdc c => exact .inr (.inl ⟨by simp [isnum], by simp [g__law_is_term_b1, h5, fPop_app, h6, isBl, isInt, isExc]⟩)
              | _ => exact .inr (.inl ⟨by simp [isnum], by simp [g__law_is_term_b1, h5, fPop_app, h6]⟩)
            · by_cases h2 : s = tBox
              · subst h2
                cases hn : isnm a with
                | true => exact .inl ⟨by simp [hn], by simp [g__law_is_term_b1, h5, fPop_app, h6, lname_w ha, hn]⟩
                | false => exact .inr (.inl ⟨by simp [hn], by simp [g__law_is_term_b1, h5, fPop_app, h6, lname_w ha, hn]⟩)
              · refine .inr (.inl ⟨by simp [h1, h2], ?_⟩)
                by_cases h3 : s ∈ signw <;> simp [g__law_is_term_b1, h5, fPop_app, h6, h1, h2, h3, notin_signs]
          | [a, b], hw =>
            simp at hw
            by_cases h1 : s = tNum
            · subst h1
              exact .inr (.inl ⟨by simp, by simp [g__law_is_term_b1, h5, fPop_app, h6]⟩)
            · by_cases h2 : s = tBox
              · subst h2
                exact .inr (.inl ⟨by simp, by simp [g__law_is_term_b1, h5, fPop_app, h6]⟩)
              · by_cases h3 : s ∈ signw
                · refine .inr (.inr ⟨a, b, d, rfl, by simp [h1, h2, h3], hw.1, hw.2, ?_⟩)
                  have e : (7 : Int) - d = i + 1 := by omega
                  have hd : dr (T.set k (.lst l)) (.o k) = some (.lst l) := dr_set hk
                  simp [g__law_is_term_b1, h5, fPop_app, h6, h1, h2, h3, notin_signs, prw, e, hd, fAdd_lst, hlen]
                · exact .inr (.inl ⟨by simp [h1, h2, h3], by simp [g__law_is_term_b1, h5, fPop_app, h6, h1, h2, h3, notin_signs]⟩)
          | a :: b :: c :: q, _ =>
            have e1 : ¬ ((q.length : Int) + 1 + 1 + 1 + 1 < 2) := by omega
            have e2 : ¬ ((q.length : Int) + 1 + 1 + 1 + 1 = 2) := by omega
            have e3 : ¬ ((q.length : Int) + 1 + 1 + 1 + 1 = 3) := by omega
            refine .inr (.inl ⟨by simp, ?_⟩)
            by_cases h1 : s = tNum
            · subst h1; simp [g__law_is_term_b1, h5, fPop_app, h6, e1, e2]
            · by_cases h2 : s = tBox
              · subst h2; simp [g__law_is_term_b1, h5, fPop_app, h6, e1, e2]
              · by_cases h3 : s ∈ signw <;> simp [g__law_is_term_b1, h5, fPop_app, h6, h1, h2, h3, notin_signs, e1, e3]
        · have e := tm_o (d := d + 1) (w := .tup (x :: q)) (fun s l' z => by injection z with z; injection z with z; subst z; exact hs rfl)
          refine .inr (.inl ⟨e, ?_⟩)
          by_cases hq : (q.length : Int) + 1 < 2 <;> simp [g__law_is_term_b1, h5, fPop_app, h6, hx, hs, hq]
    · have e := tm_o (d := d + 1) (w := w) (fun s l z => by subst z; exact ht rfl)
      exact .inr (.inl ⟨e, by simp [g__law_is_term_b1, h5, fPop_app, h6, hx, ht]⟩)
theorem lt_loop : ∀ (N : Nat) (st : List (W × Nat)) (n : Nat) (L : Nat) (T : Store) (k : Nat) (x0 x2 x3 : Option U), csts st ≤ N → N < n → N ≤ 2000 → (∀ p ∈ st, neW p.1 = true ∧ p.2 ≤ 6) → T[k]? = some (.lst (st.reverse.map prw)) → L ≤ k →
    ∃ T' e', T'.take L = T.take L ∧ whN (dT (dBin false fNeNil (dVar 1) (dDisp false .nl dNil))) g__law_is_term_b1 n [x0, some (.o k), x2, x3] T = cond (st.all (fun p => tm p.2 p.1)) (.ok (.nx e') T') (.ok (.rt (.v (.bl false))) T')
  | N, _, 0, _, _, _, _, _, _, _, h, _, _, _, _ => by omega
  | N, [], n + 1, L, T, k, x0, x2, x3, h1, h2, h3, h4, h5, h6 => by
    refine ⟨T, [x0, some (.o k), x2, x3], rfl, ?_⟩
    have hd : dr T (.o k) = some (.lst []) := by simp [dr, h5]
    rw [whN_succ]
    simp [hd]
  | 0, p :: st, n + 1, L, T, k, x0, x2, x3, h1, h2, h3, h4, h5, h6 => by
    have := cst_pos p.2
    simp [csts] at h1
    omega
  | N + 1, (w, d) :: st, n + 1, L, T, k, x0, x2, x3, h1, h2, h3, h4, h5, h6 => by
    have hcs : cst d + csts st ≤ N + 1 := by simpa [csts] using h1
    have hk : k < T.length := lt_of_st h5
    have h5' : T[k]? = some (.lst (st.reverse.map prw ++ [prw (w, d)])) := by simpa using h5
    have hd : dr T (.o k) = some (.lst (st.reverse.map prw ++ [prw (w, d)])) := by simp [dr, h5']
    obtain ⟨hw, hd6⟩ := h4 (w, d) List.mem_cons_self
    simp only at hw hd6
    have h4' := fun p hp => h4 p (List.mem_cons_of_mem _ hp)
    have ht : List.take L (T.set k (.lst (st.reverse.map prw))) = List.take L T := by
      rw [List.take_set_of_le h6]
    have hne : (st.reverse.map prw ++ [prw (w, d)]).isEmpty = false := by simp
    have hlen := csts_len st
    rw [whN_succ]
    simp only [dT_ap, dBin_ap, dVar_ap, List.getElem?_cons_succ, List.getElem?_cons_zero, Re.bind_ok, dDisp_ap, dNil_ap, fDisp_ap, allV_nil, List.length_nil, hd]
    rcases lt_turn (x0 := x0) (x2 := x2) (x3 := x3) h5' hw hd6 (by simp; omega) with ⟨e1, e2⟩ | ⟨e1, e2⟩ | ⟨a, b, d', rfl, e1, na, nb, e2⟩
    · obtain ⟨T', e', q1, q2⟩ := lt_loop N st n L (T.set k (.lst (st.reverse.map prw))) k x0 (some (.v w)) (some (.v (.int (7 - d)))) (by have := cst_pos d; omega) (by omega) (by omega) h4' (by simp [hk]) h6
      refine ⟨T', e', q1.trans ht, ?_⟩
      simp [hd, e2, -List.map_reverse]
      rw [q2]
      simp [e1]
    · exact ⟨T.set k (.lst (st.reverse.map prw)), [], ht, by simp [hd, e2, e1]⟩
    · have ht2 : List.take L (T.set k (.lst (st.reverse.map prw)) ++ [.lst (st.reverse.map prw ++ [prw (a, d'), prw (b, d')])]) = List.take L T := by
        rw [List.take_append_of_le_length (by simp; omega), ht]
      obtain ⟨T', e', q1, q2⟩ := lt_loop N ((b, d') :: (a, d') :: st) n L (T.set k (.lst (st.reverse.map prw)) ++ [.lst (st.reverse.map prw ++ [prw (a, d'), prw (b, d')])]) T.length x0 (some (.v w)) (some (.v (.int (7 - (d' + 1 : Nat)))))
        (by simp [csts, cst] at hcs ⊢; omega) (by omega) (by omega) (fun p hp => by
          rcases List.mem_cons.mp hp with rfl | hp
          · exact ⟨nb, by simp; omega⟩
          rcases List.mem_cons.mp hp with rfl | hp
          · exact ⟨na, by simp; omega⟩
          exact h4' p hp) (by rw [List.getElem?_append_right (by simp)]; simp) (by omega)
      refine ⟨T', e', q1.trans ht2, ?_⟩
      simp [hd, e2, -List.map_reverse]
      simp [-List.map_reverse] at q2
      rw [q2]
      simp [e1, Bool.and_comm, Bool.and_left_comm, Bool.and_assoc]
theorem lterm_w {S : Store} {w : W} (hw : neW w = true) : g__law_is_term [.v w] S = .ok (.v (.bl (tm 6 w))) S := by
  obtain ⟨T', e', q1, q2⟩ := lt_loop 127 [(w, 6)] 2000 S.length (S ++ [.lst [prw (w, 6)]]) S.length (some (.v w)) none none (by simp [csts, cst]) (by decide) (by decide) (fun p hp => by
    simp at hp; subst hp; exact ⟨hw, by simp⟩) (by simp) (Nat.le_refl _)
  have e : dWhileN 2000 (dT (dBin false fNeNil (dVar 1) (dDisp false .nl dNil))) g__law_is_term_b1 [some (.v w), some (.o S.length), none, none] (S ++ [.lst [prw (w, 6)]]) = _ := q2
  simp only [prw] at e
  simp at q1
  cases h : tm 6 w with
  | true =>
    simp [h] at e
    simp [g__law_is_term, e, q1]
  | false =>
    simp [h] at e
    simp [g__law_is_term, e, q1]
end Bel

/-! Terms within one another. -/
namespace Bel
open PySem PySem.Spec PyProof.Rows L2
/-- a loop over a range, its frame and store told turn by turn -/
theorem dLoop_rng' {i : Nat} {body : DS} (f : Nat → Env') (g : Nat → Store) : ∀ (c a : Nat), (∀ j, a ≤ j → j < a + c → body ((f j).set i (some (.v (.int j)))) (g j) = .ok (.nx (f (j + 1))) (g (j + 1))) → dLoop (tgN i) body ((List.range' a c).map fun (j : Nat) => W.int (j : Int)) (f a) (g a) = .ok (.nx (f (a + c))) (g (a + c))
  | 0, a, _ => rfl
  | c + 1, a, h => by
    rw [List.range'_succ, List.map_cons, dLoop_cons, tgN_ap]
    simp only [h a (Nat.le_refl _) (by omega)]
    rw [dLoop_rng' f g c (a + 1) fun j h1 h2 => h j (by omega) (by omega)]
    rw [show a + 1 + c = a + (c + 1) by omega]
theorem dLoop_rng {i : Nat} {body : DS} (f : Nat → Env') (g : Nat → Store) (c : Nat) (h : ∀ j, j < c → body ((f j).set i (some (.v (.int j)))) (g j) = .ok (.nx (f (j + 1))) (g (j + 1))) : dLoop (tgN i) body ((List.range c).map fun (j : Nat) => W.int (j : Int)) (f 0) (g 0) = .ok (.nx (f c)) (g c) := by
  have z := dLoop_rng' (i := i) (body := body) f g c 0 fun j _ h2 => h j (by omega)
  rw [← List.range_eq_range', Nat.zero_add] at z
  exact z
def nst : Nat → W
  | 0 => .tup [.str tBox, .str [120]]
  | j + 1 => if j % 2 = 0 then .tup [.str tPlus, nst j, .tup [.str tNum, .int 1]] else .tup [.str tSame, .tup [.str tNum, .int 0], nst j]
theorem nst_ne : ∀ j, neW (nst j) = true
  | 0 => by simp [nst]
  | j + 1 => by
    have := nst_ne j
    unfold nst
    split <;> simp [this]
theorem nested_w {S : Store} {m : Nat} (h1 : 1 ≤ m) (h2 : m ≤ 1000) : g__law_nested [.v (.int m)] S = .ok (.v (nst (m - 1))) S := by
  have lp := dLoop_rng (i := 2) (body := g__law_nested_b1) (fun j => [some (.v (.int m)), some (.v (nst j)), if j = 0 then none else some (.v (.int ((j : Int) - 1)))]) (fun _ => S) (m - 1) (fun j hj => by
    have e : ((j : Int) + 1 - 1) = j := by omega
    rcases Nat.mod_two_eq_zero_or_one j with h | h
    · have h' : (j : Int) % 2 = 0 := by omega
      simp [g__law_nested_b1, fMod_int, h', nst, h, e]
    · have h' : (j : Int) % 2 = 1 := by omega
      simp [g__law_nested_b1, fMod_int, h', nst, h, e])
  simp [nst] at lp
  have r := for_rng (d := dBin false fSub (dVar 0) (dC (.int 1))) (e := [some (.v (.int m)), some (.v (nst 0)), none]) (S := S) (S1 := S) (i := (m : Int) - 1) (t := tgN 2) (b := g__law_nested_b1) (by simp) (by omega) (by omega)
  rw [show ((m : Int) - 1).toNat = m - 1 by omega] at r
  simp only [nst] at r
  rw [lp] at r
  simp at r
  simp [g__law_nested, r]
end Bel

/-! The engine, part Y: what is under way (guards) is known, too. -/
namespace Bel
open PySem PySem.Spec PyProof.Rows L2 LamX
structure RoomG (k : Nat) (A : Around) : Prop where
  r : Room k A
  g : A.guards = some []
theorem RoomG.mono {j k : Nat} {A : Around} (h : RoomG k A) (l : j ≤ k) : RoomG j A := ⟨h.r.mono l, h.g⟩
theorem RoomG.down {k : Nat} {A : Around} {e : Env} (h : RoomG (k + 1) A) : RoomG k (A.deeper e) := ⟨h.r.deeper e, h.g⟩
structure FnG (P : Program) (w : World) (K : PySem.W.Frag) (mg : Str → Option Value) (base : Heap) (k : Nat) (f : Addr) (fd : FuncData) (ps : List Str) (sp : Sp) : Prop where
  len : ∀ xs H Q E, sp xs H Q E → xs.length = ps.length
  go : ∀ (A : Around) (fs : List Env) (s : Shared) (H : Hp) (as : Args) (us : List Value) (xs : List V) (Q : VK) (E : XK), RoomG k A → Env0 P w K mg base A fs s H → BindsTo s fd as (ps.zip us) → Vals xs us → sp xs H Q E →
    codeAny (model P w) A (.call (.ref f) as) (CR (L2.CX P w) fs P w H s Q E) s
theorem FnG.mono {P : Program} {w : World} {K : PySem.W.Frag} {mg : Str → Option Value} {base : Heap} {j k : Nat} {f : Addr} {fd : FuncData} {ps : List Str} {sp : Sp} (F : FnG P w K mg base j f fd ps sp) (h : j ≤ k) : FnG P w K mg base k f fd ps sp :=
  ⟨F.len, fun A fs s H as us xs Q E r => F.go A fs s H as us xs Q E (r.mono h)⟩
section
variable {P : Program} {w : World} {K : PySem.W.Frag} {mg : Str → Option Value} {base : Heap} {ec : Nat → Value}
/-- the rule for a def -/
theorem defG {x qual : Str} {params : Arguments} {body : List Stmt} {scope : Scope} {dvs : List V} {kws : List (Str × V)} {f : Addr} {fd : FuncData} {N ps : List Str} {k n nl : Nat} {d : DS} (Fn : FunD K x qual params body scope dvs kws f fd) (Sc : FnScope N ps scope) (hn : ps.length = n) (hnl : N.length = nl)
    (hb : ∀ (cdv : Value) (A : Around) (fs : List Env) (s : Shared) (H : Hp) (E : XK), RoomG k (A.deeper (envOfC qual scope s.heap.objs.size f cdv)) →
      PSsv ec (cxOf (L2.CX P w) P w K mg base N qual scope f cdv A fs s H E) body d) : FnG P w K mg base (k + 1) f fd ps (spD ⟨K, w, ec⟩ (fnD nl d) n) := by
  subst hn hnl
  refine ⟨spD_len, fun A fs s H as us xs Q E r e0 bi rv h => ?_⟩
  obtain ⟨oc, od, dV, kV, doc, pm, an, cdv, ct, osl, rfl, lk, hcd, _, _⟩ := Fn.ex
  refine run_ofS (CX := L2.CX P w) lk hcd Sc r.r e0 bi rv (spD_len _ _ _ _ h) fun _ => ?_
  refine ⟨LS ⟨K, w, ec⟩ (fun cls d _ H => E cls d H) d, (hb cdv A fs s H E r.down).run [] _ _ (takes_of rfl rfl rfl rfl) (passes_of rfl), ?_⟩
  obtain ⟨us, St, ι, B, R, rr, hl, h⟩ := h
  refine ⟨_, St, ι, B, R, rr.begin_ N, ?_⟩
  unfold fnD at h
  cases e : d (us.map some ++ List.replicate (N.length - us.length) none) St with
  | no => rw [e] at h; exact h
  | ex c e1 S1 =>
    rw [e] at h
    intro σ' H' ι' G R' E'
    obtain ⟨R2, G2⟩ := cut_go R R' G
    exact h H' ι G2 R2
  | ok fl S1 =>
    rw [e] at h
    cases fl with
    | bk e1 => exact h.elim
    | ct e1 => exact h.elim
    | nx e1 =>
      intro σ' H' ι' G R' E'
      simp only at h
      cases e2 : fin St.length (.v .non) S1 with
      | ok u2 S2 =>
        rw [e2] at h
        obtain ⟨ι2, R2, G2, r2⟩ := fin_ok R R' G (u := .v .non) (v := .non) .non e2
        exact h _ H' ι2 G2 R2 r2
      | ex c S2 => cases e2
      | no => rw [e2] at h; exact h.elim
    | rt u =>
      intro v H' ι' G R' ru
      simp only at h
      cases e2 : fin St.length u S1 with
      | ok u2 S2 =>
        rw [e2] at h
        obtain ⟨ι2, R2, G2, r2⟩ := fin_ok R R' G ru e2
        exact h _ H' ι2 G2 R2 r2
      | ex c S2 =>
        unfold fin at e2
        split at e2
        · cases e2
        · split at e2
          · cases e2
          · split at e2 <;> cases e2
      | no => rw [e2] at h; exact h.elim
end
/-! ### calls -/
theorem call_G {X : Cx} {pins : List (Addr × Obj)} {σ : L2.St} {H : Hp} {s : Shared} {Q : VK} {E : L2.St → XK} {us : List Value} {xs : List V} {k : Nat} {f : Addr} {fd : FuncData} {ps : List Str} {sp : Sp} (F : FnG X.prog X.w X.K X.mg X.base k f fd ps sp) (hr : RoomG k X.A) (hb : Binds X.K fd ps []) (hx : PassesAt (L2.CX X.prog X.w) X σ (E σ))
    (I : Inv X pins σ H s) (rv : Vals xs us) (h : sp xs H Q (E σ)) : wpAny (model X.prog X.w) X.A (PySem.call (.ref f) us) (EP X pins σ Q) X.xe s := by
  have hl : us.length = ps.length := rv.length.symm.trans (F.len _ _ _ _ h)
  have bi := hb s us I.kIn (by simpa using hl)
  simp only [List.append_nil] at bi
  apply wpAny_call
  apply codeAny_mono (F.go X.A X.stack s H ⟨us, []⟩ us xs Q (E σ) hr I.env0 bi rv h)
  intro r s' hq
  match r, hq with
  | .error e, hq => exact hx pins H s e s' I hq
  | .ok (.ret u), hq => exact I.after hq
  | .ok .next, hq => cases hq
  | .ok .brk, hq => cases hq
  | .ok .cont, hq => cases hq
def HasG (P : Program) (w : World) (K : PySem.W.Frag) (mg : Str → Option Value) (base : Heap) (ec : Nat → Value) (x : Str) (k n : Nat) (d : DF) : Prop :=
  ∃ (f : Addr) (fd : FuncData) (ps : List Str), FnG P w K mg base k f fd ps (spD ⟨K, w, ec⟩ d n) ∧ mg x = some (.ref f) ∧ PySem.W.keepIn K (.ref f) = true ∧ Binds K fd ps []
theorem HasG.mono {P : Program} {w : World} {K : PySem.W.Frag} {mg : Str → Option Value} {base : Heap} {ec : Nat → Value} {x : Str} {j k n : Nat} {d : DF} (h : HasG P w K mg base ec x j n d) (hk : j ≤ k) : HasG P w K mg base ec x k n d := by
  obtain ⟨f, fd, ps, h1, h2⟩ := h
  exact ⟨f, fd, ps, h1.mono hk, h2⟩
section
variable {ec : Nat → Value} {X : Cx} {e : Expr} {es : List Expr} {pos p : Pos} {das : DA} {df : DF} {n k : Nat} {x : Str}
theorem ev_fnG (h : HasG X.prog X.w X.K X.mg X.base ec x k n df) (hr : RoomG k X.A) (hg : Gl X x) (ha : PAv ec X (e :: es) das)
    (hdb : (x == ("__debug__" : Str)) = false := by decide) (he : starEach (e :: es) X.env = (false, eval e X.env) :: starEach es X.env := by rfl) (hpl : (backTo pos (starEach es X.env)).any (·.1) = false := by rfl) : PEv ec X (.Call (.Name x p) (e :: es) [] pos) (dFn df n das) := by
  obtain ⟨f, fd, ps, F, hm, hk, hb⟩ := h
  refine ⟨fun pn xe Wx tk => PE.imp (t := tCallS (spD (fx ec X) df n) (WE Wx) (LA (fx ec X) Wx das)) ⟨fun pins s σ H Q I h => ?_⟩ fun σ H Q h => fn_reads h⟩
  apply wpAny_Call_Name_kw
  apply ld_glob (X := X.tr pn xe) I hg hm _ hdb
  apply PySem.W.callWith_K (h₀ := X.base) I.ok.mod.kin hk _ he hpl
  apply thn ((ha.run pn xe Wx tk).run pos pins s σ H _ I h)
  rintro us s1 ⟨xs, H1, I1, r, q⟩
  exact ⟨I1.kIn, call_G (X := X.tr pn xe) F hr hb (passAt tk σ) I1 r q⟩
theorem ev_fnG0 (h : HasG X.prog X.w X.K X.mg X.base ec x k 0 df) (hr : RoomG k X.A) (hg : Gl X x) (hdb : (x == ("__debug__" : Str)) = false := by decide) : PEv ec X (.Call (.Name x p) [] [] pos) (dFn df 0 dNil) := by
  obtain ⟨f, fd, ps, F, hm, hk, hb⟩ := h
  refine ⟨fun pn xe Wx tk => PE.imp (t := tCallS (spD (fx ec X) df 0) (WE Wx) tNil) ⟨fun pins s σ H Q I h => ?_⟩ fun σ H Q h => ?_⟩
  · refine wpAny_Call_Name_kw (ld_glob (X := X.tr pn xe) I hg hm ?_ hdb)
    exact PySem.W.callWith_K0 I.kIn hk (call_G (X := X.tr pn xe) (us := []) F hr hb (passAt tk σ) I .nil h)
  · obtain ⟨env, S, ι, B, R, E, h⟩ := h
    refine ⟨[], S, ι, B, R, .nil, rfl, ?_⟩
    simp only [dFn, dNil, Re.bind_ok, List.length_nil, if_true] at h
    cases e1 : df [] S with
    | ok u S' => rw [e1] at h; exact h
    | ex c S' => rw [e1] at h; exact h
    | no => rw [e1] at h; exact h
end
/-! ### defs by name -/
section
variable {P : Program} {w : World} {K : PySem.W.Frag} {mg : Str → Option Value} {base : Heap} {ec : Nat → Value} {fa : List He.Fa} {fn : List He.DefD} {kc : List Con'}
theorem Hd.defG_ (Z : Hd K mg fa fn kc) (i j : Nat) {x qual : Str} {params : Arguments} {body : List Stmt} {scope : Scope} {N ps : List Str} {k n nl : Nat} {d : DS}
    (h : fn[i]? = some ⟨(x, none), x, qual, params, body, scope, [], []⟩) (hg : fa[j]? = some (.glo x)) (Sc : FnScope N ps scope) (hn : ps.length = n) (hnl : N.length = nl)
    (hbi : ∀ (kV doc pm : Value) (an : Option Addr) (cdv ct : Value) (us : List Value), us.length = ps.length → bindArgs (PySem.W.fnOf x qual params body scope .none kV doc pm an cdv ct) ⟨us, []⟩ = pure (ps.zip us))
    (hb : ∀ (f : Addr) (cdv : Value) (A : Around) (fs : List Env) (s : Shared) (H : Hp) (E : XK), RoomG k (A.deeper (envOfC qual scope s.heap.objs.size f cdv)) →
      PSsv ec (cxOf (L2.CX P w) P w K mg base N qual scope f cdv A fs s H E) body d) : HasG P w K mg base ec x (k + 1) n (fnD nl d) := by
  obtain ⟨fd, F⟩ := Z.says.def_ i h
  exact ⟨He.ga K x, fd, ps, defG (P := P) (w := w) (mg := mg) (base := base) F Sc hn hnl fun cdv A fs s H E hr => hb _ cdv A fs s H E hr, Z.gl x (Z.says.fact j hg), F.kp, F.bindsN hbi⟩
theorem Hd.zeroG (Z : Hd K mg fa fn kc) (i j : Nat) {x qual : Str} {params : Arguments} {body : List Stmt} {scope : Scope} {ps : List Str} {k n : Nat}
    (h : fn[i]? = some ⟨(x, none), x, qual, params, body, scope, [], []⟩) (hg : fa[j]? = some (.glo x)) (hn : ps.length = n)
    (hbi : ∀ (kV doc pm : Value) (an : Option Addr) (cdv ct : Value) (us : List Value), us.length = ps.length → bindArgs (PySem.W.fnOf x qual params body scope .none kV doc pm an cdv ct) ⟨us, []⟩ = pure (ps.zip us)) : HasG P w K mg base ec x k n fun _ _ => .no := by
  subst hn
  obtain ⟨fd, F⟩ := Z.says.def_ i h
  exact ⟨He.ga K x, fd, ps, ⟨spD_len, fun _ _ _ _ _ _ _ _ _ _ _ _ _ hs => by
    obtain ⟨_, _, _, _, _, _, _, z⟩ := hs
    exact z.elim⟩, Z.gl x (Z.says.fact j hg), F.kp, F.bindsN hbi⟩
theorem Hd.lawG_ (Z : Hd K mg fa fn kc) (i : Nat) {x y qual : Str} {params : Arguments} {body : List Stmt} {scope : Scope} {N : List Str} {k nl : Nat} {d : DS}
    (h : fn[i]? = some ⟨(x, none), x, qual, params, body, scope, [], []⟩) (Sc : FnScope N [y] scope) (hnl : N.length = nl)
    (hbi : ∀ (kV doc pm : Value) (an : Option Addr) (cdv ct : Value) (us : List Value), us.length = [y].length → bindArgs (PySem.W.fnOf x qual params body scope .none kV doc pm an cdv ct) ⟨us, []⟩ = pure ([y].zip us))
    (hb : ∀ (base : Heap) (f : Addr) (cdv : Value) (A : Around) (fs : List Env) (s : Shared) (H : Hp) (E : XK), RoomG k (A.deeper (envOfC qual scope s.heap.objs.size f cdv)) →
      PSsv ec (cxOf (L2.CX P w) P w K mg base N qual scope f cdv A fs s H E) body d) :
    ∃ fd, (∀ (s : Shared) (u : Value), BindsTo s fd ⟨[u], []⟩ [(y, u)]) ∧ ∀ base : Heap, FnG P w K mg base (k + 1) (He.ga K x) fd [y] (spD ⟨K, w, ec⟩ (fnD nl d) 1) := by
  obtain ⟨fd, F⟩ := Z.says.def_ i h
  exact ⟨fd, fun s u => F.bindsA hbi s [u] rfl, fun base => defG (P := P) (w := w) (mg := mg) (base := base) F Sc rfl hnl fun cdv A fs s H E hr => hb base _ cdv A fs s H E hr⟩
end
/-! ### a law's end -/
/-- the script alone is told: at b, as the list it is -/
def oneH (b : Addr) (o : Obj) (ns : List Int) : Hp := fun c => if c = b then some (.frz o (.lst (ns.map V.int))) else none
theorem oneH_at {b : Addr} {o : Obj} {ns : List Int} : oneH b o ns b = some (.frz o (.lst (ns.map V.int))) := if_pos rfl
theorem oneH_some {b c : Addr} {o : Obj} {ns : List Int} {u : HO} (h : oneH b o ns c = some u) : c = b ∧ u = .frz o (.lst (ns.map V.int)) := by
  unfold oneH at h
  by_cases e : c = b
  · rw [if_pos e] at h
    exact ⟨e, (Option.some.inj h).symm⟩
  · rw [if_neg e] at h
    cases h
/-- what the head's end asks: from the promise of the law's def at the caller -/
theorem lawG {P : Program} {w : World} {K : PySem.W.Frag} {mg mb : Str → Option Value} {k : Nat} {fa b : Addr} {fd : FuncData} {y : Str} {sp : Sp} {t : Shared} {its : List Value} {ns : List Int}
    (KX : K.In t.heap) (gm : t.heap.Ns mainGlobals mg) (gb : t.heap.Ns builtinsNs mb) (bb : ∀ x : Str, x ≠ "__name__" → mb x = bootBuiltins x) (nl : t.heap.NoLimit) (ng : t.gens = #[])
    (hb : t.heap.get? b = some { cls := .type "list", data := .seq its.toArray }) (hi : IntsAre its ns) (hl : ns.length ≤ sizeLine) (hr : RoomG k callerA) (hno : ∀ o, K.lookup b = some o → False)
    (F : ∀ base : Heap, FnG P w K mg base k fa fd [y] sp) (bi : ∀ (s : Shared) (u : Value), BindsTo s fd ⟨[u], []⟩ [(y, u)])
    (hsp : ∀ H : Hp, Only H → SqL K H b (ns.map V.int) → sp [.ref b] H (fun v _ => v = .bl true) fun _ _ _ => False) :
    codeAny (model P w) callerA (.call (.ref fa) ⟨[.ref b], []⟩) (fun r s' => r = .ok (.ret (.bool true)) ∧ OldK t.heap s'.heap ∧ s'.os = t.os ∧ AllBare s'.gens) t := by
  let ob : Obj := { cls := .type "list", data := .seq its.toArray }
  let H : Hp := oneH b ob ns
  have none_of : ∀ {c : Addr}, c ≠ b → H c = none := fun {c} hc => if_neg hc
  have low : ∀ {c : Addr} {o : Obj}, t.heap.get? c = some o → c ≠ b → (hidT t.heap H).get? c = some o := fun h hc => hidT_get h (none_of hc)
  have ne_dict : ∀ {c : Addr} {o : Obj} {es : Array DictEntry} {ep : Nat}, t.heap.get? c = some o → o.data = .dict es ep → c ≠ b := by
    rintro c o es ep h1 h2 rfl
    rw [hb] at h1
    obtain rfl := Option.some.inj h1
    cases h2
  have lowNs : ∀ {c : Addr} {m : Str → Option Value}, t.heap.Ns c m → (hidT t.heap H).Ns c m := by
    rintro c m ⟨o, es, ep, h1, h2, h3⟩
    exact ⟨o, es, ep, low h1 (ne_dict h1 h2), h2, h3⟩
  have lowK : K.In (hidT t.heap H) := fun c o h => low (KX c o h) fun z => hno o (z ▸ h)
  have tells : HOk P w H t.heap := by
    intro c u h
    obtain ⟨rfl, rfl⟩ := oneH_some h
    exact ⟨hb, by rw [List.length_map]; exact hl, its, _, vals_ints hi, hb⟩
  have only : Only H := fun c => by
    by_cases hc : c = b
    · exact .inr ⟨ob, _, by rw [hc]; exact oneH_at⟩
    · exact .inl (none_of hc)
  have md : Mod K mg (hidT t.heap H) := by
    obtain ⟨mc, c1, c2⟩ := nl
    exact ⟨lowK, lowNs gm, ⟨mb, lowNs gb, bb⟩, ⟨mc, lowNs c1, c2⟩⟩
  have env : Env0 P w K mg (hidT t.heap H) callerA [] t H :=
    { frames := rfl, mod := md, bs := fun c o h => of_hidT h, bsz := Nat.le_of_eq (hidT_size _ _), funs := trivial, frf := fun c h => absurd (show c ∈ ([] : List Addr) from h) List.not_mem_nil, hok := tells, bare := .of_eq ng }
  have call := (F (hidT t.heap H)).go callerA [] t H ⟨[.ref b], []⟩ [.ref b] [.ref b] (fun v _ => v = .bl true) (fun _ _ _ => False) hr env (bi t _) (.cons rfl .nil) (hsp H only (.inl (.inr ⟨ob, oneH_at⟩)))
  apply codeAny_mono call
  intro r s' h
  match r, h with
  | .error e, h => exact (cx_none h).elim
  | .ok .next, h => cases h
  | .ok .brk, h => cases h
  | .ok .cont, h => cases h
  | .ok (.ret u), h =>
    obtain ⟨v, H2, os, bare, un, hk2, rv, rfl⟩ := h
    obtain rfl : u = Value.bool true := rv
    refine ⟨rfl, OldK.of_keep fun c o ho => ?_, os, bare⟩
    by_cases hc : c = b
    · subst hc
      have z := un.frzs c ob _ oneH_at
      obtain ⟨e2, _⟩ := hk2 c _ z
      rw [hb] at ho
      rw [← Option.some.inj ho]
      exact e2
    · exact un.keep c o ho (none_of hc) (fun z => absurd (show c ∈ ([] : List Addr) from z) List.not_mem_nil) List.not_mem_nil
end Bel

/-! The engine, part X: repr, str, int of texts, dict displays, get, copies, +=. -/
namespace Bel
open PySem PySem.Spec PyProof.Rows L2
/-! ### nothing is promised -/
def dNoS : DS := fun _ _ => .no
def dNoE : DE := fun _ _ => .no
section
variable {ec : Nat → Value} {X : Cx} {e a b o : Expr} {st : Stmt} {pos p : Pos} {da db do_ : DE}
theorem sv_no : PSv ec X st dNoS := ⟨fun pn xe Wx tk po => ⟨fun pins s σ H D I ⟨_, _, _, _, _, _, q⟩ => q.elim⟩⟩
theorem ev_no : PEv ec X e dNoE := ⟨fun pn xe Wx tk => ⟨fun pins s σ H Q I ⟨_, _, _, _, _, _, q⟩ => q.elim⟩⟩
/-! ### x += e -/
def dAug (i : Nat) (f : W → W → Option Out) (d : DE) : DS := fun e S => match e[i]? with
  | some (some (.v x)) => (d e S).st e fun v S1 => match dr S1 v with
    | some y => (match f x y with
      | some (.val z) => .ok (.nx (e.set i (some (.v z)))) S1
      | _ => .no)
    | none => .no
  | _ => .no
theorem sv_aug {i : Nat} {x : Str} {op : Operator} {f : W → W → Option Out} {r : R2} {pos' : Pos} (hN : X.N.Nodup) (hi : X.N[i]? = some x) (hx : Loc X.env.scope x) (ho : ∀ pn xe, OpR (X.tr pn xe) (inplaceOp op) r) (hf : OpW (fx ec X) f r) (he : PEv ec X e da)
    (hfn : X.fn x = true ∨ X.env.scope.names.lookup x = some .local := by first | exact .inl rfl | exact .inr rfl) : PSv ec X (.AugAssign (.Name x pos') op e pos) (dAug i f da) :=
  ⟨fun pn xe Wx tk po => (ps_aug (X := X.tr pn xe) (te := LE (fx ec X) Wx da) (ti := r) hN hi hx (he.run pn xe Wx tk) (fun pins s σ H x y v u Q I rx ry h => ho pn xe pins s σ H x y v u Q I rx ry h) hfn).imp fun D σ H ⟨env, S, ι, B, R, E, h⟩ => by
    unfold dAug at h
    split at h
    · rename_i x e1
      obtain ⟨vx, h1, rx⟩ := E.get i _ e1
      refine ⟨vx, h1, LE.thenS R E h fun u S1 v H1 ι1 G1 R1 E1 ru h2 => ?_⟩
      have rx1 : RU (fx ec X) H1 ι1 S1 B (.v x) vx := RU.go G1 rx
      cases e2 : dr S1 u with
      | none => simp only [e2] at h2; exact h2.elim
      | some y =>
        simp only [e2] at h2
        split at h2
        · rename_i z e3
          exact hf H1 _ vx v x y (.val z) _ (RU.rt R1 rx1 rfl) (RU.rt R1 ru e2) e3 fun v2 r2 => h2 _ H1 ι1 .refl R1 (E1.set i (u := .v z) r2)
        · exact h2.elim
    · exact h.elim⟩
theorem ow_addI {F : Fx} : OpW F (fun x y => match x, y with
    | .int i, .int j => some (.val (.int (i + j)))
    | _, _ => none) (rI0 fun i j => .int (i + j)) := by
  intro H O x y w z o Q rx ry e q
  simp only at e
  split at e
  · obtain rfl := Rp.int_inv rx
    obtain rfl := Rp.int_inv ry
    cases some_inj e
    exact ⟨_, _, rfl, rfl, q _ (.int _)⟩
  · cases e
def fAddI (x y : W) : Option Out := match x, y with
    | .int i, .int j => some (.val (.int (i + j)))
    | _, _ => none
/-! ### repr of lists, tuples -/
theorem call_reprD (hu : X.A.units + 70 < cLine) (hg : X.A.guards = some []) : CallR X (.builtin "repr") (fun xs H Q => ∃ (a : Addr) (d : PyData), xs = [V.ref a] ∧ Dp X.K H (.ref a) d ∧ d.canLay0 = true ∧ d.depth ≤ 64 ∧ d.showable = true ∧ d.shown.length ≤ sizeLine ∧ Q (.str d.shown) H) := by
  intro pins s σ H xs us Q I r h
  obtain ⟨a, d, rfl, hd, hl, h64, hs, hz, q⟩ := h
  obtain ⟨u, rfl, rx⟩ := vals1 r
  cases rx
  obtain ⟨as, rd⟩ := Dp.reads I d _ _ hd rfl
  exact repr_of_reads' rd hs (PyData.noDict_hsm (PyData.hasDict_of_canLay d hl)) hg (by omega) (fun _ _ h => h) (fun h' u tk hk => ⟨.str _, H, I.kept hk, ⟨u, rfl⟩, q⟩) hz
/-- the text of data -/
def shownL (w : W) : List Nat := (toD w).shown.cps.toList
def isSq : W → Bool
  | .tup _ => true
  | .lst _ => true
  | _ => false
def fRepr : List W → Option Out
  | [w] => if isSq w = true ∧ shp 64 w = true ∧ (toD w).showable = true ∧ (shownL w).length ≤ 16777216 ∧ (shownL w).all okCp = true then some (.val (.str (shownL w))) else none
  | _ => none
theorem oc_repr {F : Fx} : OpC F fRepr (fun xs H Q => ∃ (a : Addr) (d : PyData), xs = [V.ref a] ∧ Dp F.K H (.ref a) d ∧ d.canLay0 = true ∧ d.depth ≤ 64 ∧ d.showable = true ∧ d.shown.length ≤ sizeLine ∧ Q (.str d.shown) H) := by
  refine oc1 (fun ws o e => ?_) fun H O x w o Q r e q => ?_
  · unfold fRepr at e
    split at e <;> first | exact ⟨_, rfl⟩ | cases e
  · simp only [fRepr] at e
    split at e
    · rename_i hc
      obtain ⟨h1, h2, h3, h4, h5⟩ := hc
      cases some_inj e
      obtain ⟨a, rfl⟩ : ∃ a, x = .ref a := by
        cases w with
        | tup l => obtain ⟨a, _, e, _⟩ := Rp.tup_inv r; exact ⟨a, e⟩
        | lst l => obtain ⟨a, _, e, _⟩ := r; exact ⟨a, e⟩
        | _ => cases h1
      obtain ⟨d1, d2⟩ := rt_dp 64 h2 r
      have hs : (toD w).shown = ⟨(shownL w).toArray⟩ := by unfold shownL; simp
      refine ⟨a, toD w, rfl, d1, d2, shp_depth 64 w h2, h3, ?_, ?_⟩
      · rw [hs, sizeLine_is]
        simpa [Str.length] using h4
      · rw [hs]
        exact q _ (.str _ (by rw [sizeLine_is]; exact h4) h5)
    · cases e
/-! ### str(number), str(text), int(text) -/
def digL (i : Int) : List Nat := (Str.ofString (toString i)).cps.toList
def fStr : List W → Option Out
  | [.int i] => if i.natAbs.log2 < 1920 ∧ (digL i).length ≤ 16777216 ∧ (digL i).all okCp = true then some (.val (.str (digL i))) else none
  | [.str x] => some (.val (.str x))
  | _ => none
theorem oc_str {F : Fx} : OpC F fStr (fun xs H Q => (∃ i : Int, xs = [V.int i] ∧ i.natAbs.log2 < 1920 ∧ Q (.str (toString i)) H) ∨ ∃ a, xs = [V.str a] ∧ Q (.str a) H) := by
  refine oc1 (fun ws o e => ?_) fun H O x w o Q r e q => ?_
  · unfold fStr at e
    split at e <;> first | exact ⟨_, rfl⟩ | cases e
  · cases w with
    | int i =>
      simp only [fStr] at e
      split at e
      · rename_i hc
        cases some_inj e
        obtain rfl := Rp.int_inv r
        refine .inl ⟨i, rfl, hc.1, ?_⟩
        have hs : (Str.ofString (toString i)) = ⟨(digL i).toArray⟩ := by unfold digL; simp
        show Q (.str (Str.ofString (toString i))) H
        rw [hs]
        exact q _ (.str _ (by rw [sizeLine_is]; exact hc.2.1) hc.2.2)
      · cases e
    | str y =>
      cases some_inj e
      obtain ⟨rfl, _⟩ := Rp.str_inv r
      exact .inr ⟨_, rfl, q _ r⟩
    | _ => cases e
def fIntW : List W → Option Out
  | [.int i] => some (.val (.int i))
  | [.bl b] => some (.val (.int (b2n b)))
  | [.str x] => match PySem.intText? (mkS x) with
    | some n => if x.length ≤ 640 then some (.val (.int n)) else none
    | none => none
  | _ => none
theorem oc_intW {F : Fx} : OpC F fIntW (fun xs H Q => ((∃ i, xs = [.int i] ∧ Q (.int i) H) ∨ ∃ k, xs = [.bl k] ∧ Q (.int (if k then 1 else 0)) H) ∨ ∃ a n, xs = [V.str a] ∧ PySem.intText? a = some n ∧ a.length ≤ 640 ∧ Q (.int n) H) := by
  refine oc1 (fun ws o e => ?_) fun H O x w o Q r e q => ?_
  · unfold fIntW at e
    split at e <;> first | exact ⟨_, rfl⟩ | cases e
  · cases w with
    | int i =>
      cases some_inj e
      obtain rfl := Rp.int_inv r
      exact .inl (.inl ⟨i, rfl, q _ (.int _)⟩)
    | bl i =>
      cases some_inj e
      obtain rfl := Rp.bl_inv r
      exact .inl (.inr ⟨i, rfl, q _ (.int _)⟩)
    | str y =>
      simp only [fIntW] at e
      obtain ⟨rfl, _⟩ := Rp.str_inv r
      split at e
      · rename_i n hn
        split at e
        · rename_i hl
          cases some_inj e
          exact .inr ⟨_, n, rfl, hn, by simpa [Str.length] using hl, q _ (.int _)⟩
        · cases e
      · cases e
    | _ => cases e
/-! ### dict(d) -/
def fDict : List W → Option Out
  | [.dct l] => some (.nd l)
  | _ => none
theorem oc_dict {F : Fx} : OpC F fDict (fun xs H Q => ∃ (a : Addr) (kvs : List (Key × V)), xs = [.ref a] ∧ Rd H a (.dK kvs) ∧ ∀ p, H p = none → Q (.ref p) (upd H p (.dK kvs))) := by
  refine oc1 (fun ws o e => ?_) fun H O x w o Q r e q => ?_
  · unfold fDict at e
    split at e <;> first | exact ⟨_, rfl⟩ | cases e
  · cases w with
    | dct l =>
      cases some_inj e
      obtain ⟨a, kvs, rfl, h1, q1⟩ := r
      exact ⟨a, kvs, rfl, h1, fun p hp => q p kvs hp q1⟩
    | _ => cases e
/-! ### startswith, endswith, find, split -/
def fStarts : W → List W → Option Out
  | .str x, [.str y] => some (.val (.bl (Txt.startswith (mkS x) (mkS y))))
  | _, _ => none
theorem om_starts {F : Fx} : OpM F fStarts (fun x xs H Q => ∃ a b, x = .str a ∧ xs = [.str b] ∧ Q (.bl (Txt.startswith a b)) H) := by
  intro H O x xs w ws o Q rx rs e q
  unfold fStarts at e
  split at e
  · cases some_inj e
    obtain ⟨rfl, _⟩ := Rp.str_inv rx
    cases rs with
    | cons r1 r2 =>
      cases r2
      obtain ⟨rfl, _⟩ := Rp.str_inv r1
      exact ⟨_, _, rfl, rfl, q _ (.bl _)⟩
  · cases e
def fEnds : W → List W → Option Out
  | .str x, [.str y] => some (.val (.bl (Txt.endswith (mkS x) (mkS y))))
  | _, _ => none
theorem om_ends {F : Fx} : OpM F fEnds (fun x xs H Q => ∃ a b, x = .str a ∧ xs = [.str b] ∧ Q (.bl (Txt.endswith a b)) H) := by
  intro H O x xs w ws o Q rx rs e q
  unfold fEnds at e
  split at e
  · cases some_inj e
    obtain ⟨rfl, _⟩ := Rp.str_inv rx
    cases rs with
    | cons r1 r2 =>
      cases r2
      obtain ⟨rfl, _⟩ := Rp.str_inv r1
      exact ⟨_, _, rfl, rfl, q _ (.bl _)⟩
  · cases e
/-! ### d.get(k), d.get(k, x) -/
def fGet : W → W → W → Option Out
  | .dct l, k, w => if isKey k = true then some (.val ((lookD k l).getD w)) else none
  | _, _, _ => none
def dGet2 (d k x : DE) : DE := fun e S => (d e S).bind fun u S1 => match dr S1 u with
  | some (.dct _) => (k e S1).bind fun y S2 => (x e S2).bind fun z S3 => match dr S3 u, y, z with
    | some (.dct l), .v y, .v z => putO false (fGet (.dct l) y z) S3
    | _, _, _ => .no
  | _ => .no
def dGet1 (d k : DE) : DE := fun e S => (d e S).bind fun u S1 => match dr S1 u with
  | some (.dct _) => (k e S1).bind fun y S2 => match dr S2 u, y with
    | some (.dct l), .v y => putO false (fGet (.dct l) y .non) S2
    | _, _ => .no
  | _ => .no
theorem get_core {F : Fx} {H : Hp} {O : Addr → Prop} {l : List (W × W)} {v vy vz : V} {y z : W} {o : Out} {Q : VK} (r : RT F H O (.dct l) v) (ry : Rp F H O y vy) (rz : Rp F H O z vz) (e : fGet (.dct l) y z = some o) (q : PuQ F H O o Q) :
    ∃ a, v = .ref a ∧ ∃ ov, DGet H a vy ov ∧ Q (ov.getD vz) H := by
  simp only [fGet] at e
  split at e
  · rename_i hk
    cases some_inj e
    obtain ⟨a, kvs, rfl, h1, q1⟩ := r
    obtain ⟨κ, hκ, rfl⟩ := isKey_k hk ry
    refine ⟨a, rfl, valV kvs κ, dget_rd h1, ?_⟩
    rcases look_rp q1 hκ with ⟨e1, e2⟩ | ⟨w', v', e1, e2, rr⟩
    · rw [e1] at q; rw [e2]; exact q _ rz
    · rw [e1] at q; rw [e2]; exact q _ rr
  · cases e
theorem rt_isD {F : Fx} {H : Hp} {O : Addr → Prop} {l : List (W × W)} {v : V} (r : RT F H O (.dct l) v) : ∃ a, v = .ref a ∧ IsD H a := by
  obtain ⟨a, kvs, rfl, h1, _⟩ := r
  exact ⟨a, rfl, .inl ⟨kvs, h1⟩⟩
theorem ev_get2 {k x : Expr} {dk dx : DE} {apos cpos : Pos} (hu : X.A.units + 65 < cLine) (ho : PEv ec X o do_) (hk : PEv ec X k dk) (hx : PEv ec X x dx) (m : ∀ pn xe, M2 (X.tr pn xe) o "get" apos k x cpos) : PEv ec X (.Call (.Attribute o "get" apos) [k, x] [] cpos) (dGet2 do_ dk dx) :=
  ⟨fun pn xe Wx tk => (pe_dget2 (X := X.tr pn xe) (by show X.A.units + 1 < cLine; omega) (ho.run pn xe Wx tk) (hk.run pn xe Wx tk) (hx.run pn xe Wx tk) (m pn xe)).imp fun σ H Q ⟨env, S, ι, B, R, E, h⟩ => by
    refine LE.then_ R E h fun u S1 v H1 ι1 G1 R1 E1 ru h1 => ?_
    split at h1
    · rename_i l0 e1
      obtain ⟨a, rfl, hd⟩ := rt_isD (RU.rt R1 ru e1)
      refine ⟨a, rfl, hd, LE.then_ R1 E1 h1 fun u2 S2 v2 H2 ι2 G2 R2 E2 ru2 h2 => LE.then_ R2 E2 h2 fun u3 S3 v3 H3 ι3 G3 R3 E3 ru3 h3 => ?_⟩
      split at h3
      · rename_i l y z e3
        obtain ⟨o', he, q⟩ := putO_ok R3 h3
        obtain ⟨a', ea, ov, g1, g2⟩ := get_core (RU.rt R3 (RU.go G3 (RU.go G2 ru)) e3) (RU.go G3 ru2) ru3 he q
        cases ea
        exact ⟨ov, g1, g2⟩
      · exact h3.elim
    · exact h1.elim⟩
theorem ev_get1 {k : Expr} {dk : DE} {apos cpos : Pos} (hu : X.A.units + 65 < cLine) (ho : PEv ec X o do_) (hk : PEv ec X k dk) (m : ∀ pn xe, M1 (X.tr pn xe) o "get" apos k cpos) : PEv ec X (.Call (.Attribute o "get" apos) [k] [] cpos) (dGet1 do_ dk) :=
  ⟨fun pn xe Wx tk => (pe_dget1 (X := X.tr pn xe) (by show X.A.units + 1 < cLine; omega) (ho.run pn xe Wx tk) (hk.run pn xe Wx tk) (m pn xe)).imp fun σ H Q ⟨env, S, ι, B, R, E, h⟩ => by
    refine LE.then_ R E h fun u S1 v H1 ι1 G1 R1 E1 ru h1 => ?_
    split at h1
    · rename_i l0 e1
      obtain ⟨a, rfl, hd⟩ := rt_isD (RU.rt R1 ru e1)
      refine ⟨a, rfl, hd, LE.then_ R1 E1 h1 fun u2 S2 v2 H2 ι2 G2 R2 E2 ru2 h2 => ?_⟩
      split at h2
      · rename_i l y e3
        obtain ⟨o', he, q⟩ := putO_ok R2 h2
        obtain ⟨a', ea, ov, g1, g2⟩ := get_core (RU.rt R2 (RU.go G2 ru) e3) ru2 .non he q
        cases ea
        exact ⟨ov, g1, g2⟩
      · exact h2.elim
    · exact h1.elim⟩
/-! ### {k: v, ..} -/
def dPrs : List (DE × DE) → Env' → Store → Re (List (W × W))
  | [], _, S => .ok [] S
  | (k, v) :: r, e, S => (k e S).bindX fun u S1 => (v e S1).bindX fun z S2 => match u, z with
    | .v a, .v b => if isKey a = true then (dPrs r e S2).bindX fun l S3 => .ok ((a, b) :: l) S3 else .no
    | _, _ => .no
def mrgW (acc l : List (W × W)) : List (W × W) := l.foldl (fun acc p => putW p.1 p.2 acc) acc
def dDct (own : Bool) (ps : List (DE × DE)) : DE := fun e S => (dPrs ps e S).bindX fun l S1 => (Out.nd (mrgW [] l)).put own S1
end
theorem mrg_rp {F : Fx} {H : Hp} {O : Addr → Prop} : ∀ {l : List (W × W)} {more : List (Key × V)} {acc : List (W × W)} {kvs : List (Key × V)}, RpD F H O l more → RpD F H O acc kvs → RpD F H O (mrgW acc l) (mergeK kvs more) := by
  intro l
  induction l with
  | nil => intro more acc kvs r q; rw [r.nil_iff]; exact q
  | cons p l ih =>
    intro more acc kvs r q
    obtain ⟨κ, v, more', rfl, h1, h2, r'⟩ := r.cons_iff
    have z := ih (more := more') r' (put_rp q h1 h2)
    exact z
/-- a hidden dict comes out, as a plain value, or owned -/
theorem RS.showD {F : Fx} {H : Hp} {ι : List Addr} {S : Store} {B : Addr → Prop} {D : Addr} (R : RS F ι S (hidB B D) H) (nB : ¬ B D) {own : Bool} {l : List (W × W)} {kvs : List (Key × V)} (hD : H D = some (.dK kvs)) (r : RpD F H (Oq ι S (hidB B D)) l kvs) {u : U} {S' : Store} (h : (Out.nd l).put own S = .ok u S') :
    ∃ ι', RS F ι' S' B H ∧ (∀ a, Ow ι' S' a → Ow ι S a ∨ a = D) ∧ (∃ t, ι' = ι ++ t) ∧ RU F H ι' S' B u (.ref D) := by
  have nD : D ∉ ι := (R.hid D (.inr rfl)).2
  have nO : ¬ Oq ι S B D := fun z => by
    rcases z with ⟨n, o, h1, h2, h3⟩ | z
    · exact nD (List.mem_of_getElem? h3)
    · exact nB z
  have lessD : ∀ {O' O : Addr → Prop} {l : List (W × W)} {kvs : List (Key × V)}, (∀ b, O' b → O b) → RpD F H O l kvs → RpD F H O' l kvs := fun sub r => ⟨r.1, fun i w v h1 h2 => (r.2.1 i w v h1 h2).less sub, fun i w v h1 h2 => (r.2.2 i w v h1 h2).less sub⟩
  have R0 : RS F ι S B H := ⟨R.len, R.nd, fun n o a h1 h2 => (R.ob n o a h1 h2).less fun b => oq_less, fun a hb => R.hid a (.inl hb)⟩
  cases own with
  | false =>
    cases h
    exact ⟨ι, R0, fun _ z => .inl z, ⟨[], by simp⟩, .mkDct ⟨.inl hD, nO⟩ (lessD (fun b => oq_less) r)⟩
  | true =>
    cases h
    have hd : Ob.dct l ≠ Ob.dead := by simp
    have sub : ∀ b, Oq (ι ++ [D]) (S ++ [.dct l]) B b → Oq ι S (hidB B D) b := fun b z => by
      rcases z with z | z
      · rcases (ow_push R.len hd).mp z with z | z
        · exact .inl z
        · exact .inr (.inr z)
      · exact .inr (.inl z)
    refine ⟨ι ++ [D], ⟨by simp [R.len], ?_, fun n q a h1 h2 => ?_, fun a hb => ?_⟩, fun a z => (ow_push R.len hd).mp z, ⟨[D], rfl⟩, D, by rw [← R.len]; simp, rfl⟩
    · rw [List.nodup_append]
      refine ⟨R.nd, by simp, fun x hx y hy e => ?_⟩
      simp at hy
      subst hy
      subst e
      exact nD hx
    · by_cases hn : n < S.length
      · rw [List.getElem?_append_left hn] at h1
        rw [List.getElem?_append_left (by rw [R.len]; exact hn)] at h2
        exact (R.ob n q a h1 h2).less sub
      · rw [List.getElem?_append_right (by omega)] at h1
        rw [List.getElem?_append_right (by rw [R.len]; omega)] at h2
        obtain ⟨h4, h5⟩ := List.getElem?_eq_some_iff.mp h1
        obtain ⟨h6, h7⟩ := List.getElem?_eq_some_iff.mp h2
        simp at h5 h7
        subst h5
        subst h7
        exact ⟨kvs, hD, lessD sub r⟩
    · refine ⟨(R.hid a (.inl hb)).1, fun z => ?_⟩
      rcases List.mem_append.mp z with z | z
      · exact (R.hid a (.inl hb)).2 z
      · simp at z; subst z; exact nB hb
/-- the pairs, told one by one -/
inductive PPv (ec : Nat → Value) (X : Cx) (pos : Pos) : List (Option Expr) → List Expr → List (DE × DE) → Prop where
  | nil : PPv ec X pos [] [] []
  | cons {k v : Expr} {ks : List (Option Expr)} {vs : List Expr} {dk dv : DE} {r : List (DE × DE)} (hk : PEv ec X k dk) (hv : PEv ec X v dv) (hr : PPv ec X pos ks vs r) : PPv ec X pos (some k :: ks) (v :: vs) ((dk, dv) :: r)
def trsOf (F : Fx) (Wx : WX) (ps : List (DE × DE)) : List (TE × TE) := ps.map fun p => (LE F Wx p.1, LE F Wx p.2)
theorem PPv.run {ec : Nat → Value} {X : Cx} {pos : Pos} {ks : List (Option Expr)} {vs : List Expr} {ps : List (DE × DE)} (h : PPv ec X pos ks vs ps) {pn : List (Addr × Obj)} {xe : Value → Shared → Prop} {Wx : WX} (tk : Takes (X.tr pn xe) Wx) : PPs (X.tr pn xe) pos ks vs (trsOf (fx ec X) Wx ps) := by
  induction h with
  | nil => exact pps_nil
  | cons hk hv hr ih => exact pps_cons (hk.run pn xe Wx tk) (hv.run pn xe Wx tk) ih
theorem prs_reads {F : Fx} {Wx : WX} {σ : L2.St} {env : Env'} {B : Addr → Prop} : ∀ {ps : List (DE × DE)} {H : Hp} {ι : List Addr} {S : Store} {Q : List (V × V) → Hp → Prop}, RS F ι S B H → ER F H ι S B env σ →
    (match dPrs ps env S with
      | .ok l S' => ∀ (kvs : List (Key × V)) (H' : Hp) (ι' : List Addr), Go ι S H ι' S' H' → RS F ι' S' B H' → ER F H' ι' S' B env σ → RpD F H' (Oq ι' S' B) l kvs → l.length = ps.length → Q (kvs.map fun kv => (kV kv.1, kv.2)) H'
      | _ => False) → tPairs (trsOf F Wx ps) σ H Q
  | [], H, ι, S, Q, R, E, h => h [] H ι .refl R E .nil rfl
  | (dk, dv) :: r, H, ι, S, Q, R, E, h => by
    refine ⟨env, S, ι, B, R, E, ?_⟩
    unfold dPrs at h
    cases e1 : dk env S with
    | no => rw [e1] at h; exact h.elim
    | ex c S1 => rw [e1] at h; exact h.elim
    | ok u S1 =>
      rw [e1] at h
      simp only [Re.bindX_ok] at h
      show PoE F Wx σ ι S B H (dk env S) _
      rw [e1]
      intro x H1 ι1 G1 R1 ru
      refine ⟨env, S1, ι1, B, R1, E.go G1, ?_⟩
      cases e2 : dv env S1 with
      | no => rw [e2] at h; exact h.elim
      | ex c S2 => rw [e2] at h; exact h.elim
      | ok z S2 =>
        rw [e2] at h
        simp only [Re.bindX_ok] at h
        show PoE F Wx σ ι1 S1 B H1 (dv env S1) _
        rw [e2]
        intro y H2 ι2 G2 R2 rz
        have G12 := G1.trans G2
        cases u with
        | o n => exact h.elim
        | v a =>
          cases z with
          | o n => exact h.elim
          | v b =>
            simp only at h
            by_cases hk : isKey a = true
            · rw [if_pos hk] at h
              refine prs_reads (ps := r) R2 (E.go G12) ?_
              cases e3 : dPrs r env S2 with
              | no => rw [e3] at h; exact h
              | ex c S3 => rw [e3] at h; exact h
              | ok l S3 =>
                rw [e3] at h
                simp only [Re.bindX_ok] at h
                intro kvs H3 ι3 G3 R3 E3 rl hl
                have ra : RU F H3 ι3 S3 B (.v a) x := RU.go G3 (RU.go G2 ru)
                obtain ⟨κ, hκ, rfl⟩ := isKey_k hk ra
                exact h ((κ, y) :: kvs) H3 ι3 (G12.trans G3) R3 E3 (.cons ra (RU.go G3 rz) rl) (by simp [hl])
            · rw [if_neg hk] at h; exact h.elim
theorem ev_dct {ec : Nat → Value} {X : Cx} {pos : Pos} {ks : List (Option Expr)} {vs : List Expr} {ps : List (DE × DE)} {own : Bool} (h : PPv ec X pos ks vs ps) (hall : ks.all (·.isSome) = true) (hl : ks.length = vs.length) (h0 : ks ≠ []) (h15 : ks.length ≤ 15) (hp : ps.length ≤ 15) : PEv ec X (.Dict ks vs pos) (dDct own ps) :=
  ⟨fun pn xe Wx tk => (pe_disp (X := X.tr pn xe) (h.run tk) hall hl h0 h15).imp fun σ H Q ⟨env, S, ι, B, R, E, h⟩ => by
    intro p hp0
    have nB : ¬ B p := fun z => by
      obtain ⟨⟨y, e⟩, _⟩ := R.hid p z
      rw [hp0] at e; cases e
    obtain ⟨R2, E2, P2⟩ := R.hide hp0 (.dK [])
    have Ep : ER (fx ec X) (upd H p (.dK [])) ι S (hidB B p) env σ := ⟨E.len, fun i u hu => by
      obtain ⟨v, h1, r⟩ := E.get i u hu
      refine ⟨v, h1, ?_⟩
      cases u with
      | v w => exact Rp.ext E2 P2 r
      | o n => exact r⟩
    unfold dDct at h
    refine prs_reads R2 Ep ?_
    cases e1 : dPrs ps env S with
    | no => rw [e1] at h; exact h.elim
    | ex c S1 => rw [e1] at h; exact h.elim
    | ok l S1 =>
      rw [e1] at h
      simp only [Re.bindX_ok] at h
      intro kvs H' ι' G' R' E' rl hlen
      have nO : ¬ Ow ι S p := fun ⟨n, o, _, _, h3⟩ => (R2.hid p (.inr rfl)).2 (List.mem_of_getElem? h3)
      have Dp' : H' p = some (.dK []) := G'.ext p _ upd_same nO
      refine ⟨Dp', kvs, rfl, by rw [← rl.1, hlen]; exact hp, ?_⟩
      obtain ⟨R4, x4⟩ := R'.hidW (.dK (mergeK [] kvs))
      have P4 : Own (Oq ι' S1 (hidB B p)) (Oq ι' S1 (hidB B p)) H' := fun _ z => .inl z
      have rl4 : RpD (fx ec X) (upd H' p (.dK (mergeK [] kvs))) (Oq ι' S1 (hidB B p)) (mrgW [] l) (mergeK [] kvs) := mrg_rp (rl.ext x4 P4) .nil
      cases e2 : (Out.nd (mrgW [] l)).put own S1 with
      | no => rw [e2] at h; exact h.elim
      | ex c S2 => cases own <;> cases e2
      | ok u S2 =>
        rw [e2] at h
        obtain ⟨ι2, R5, ow, pre, ru⟩ := R4.showD nB upd_same rl4 e2
        refine h (.ref p) _ ι2 ⟨fun a ho ha n => ?_, fun a z => ?_, ?_⟩ R5 ru
        · have hap : a ≠ p := fun z => by rw [z, hp0] at ha; cases ha
          rw [upd_ne hap]
          exact G'.ext a ho (by rw [upd_ne hap]; exact ha) n
        · rcases ow a z with z | rfl
          · rcases G'.own a z with q | q
            · exact .inl q
            · by_cases hap : a = p
              · rw [hap]; exact .inr hp0
              · rw [upd_ne hap] at q; exact .inr q
          · exact .inr hp0
        · obtain ⟨t, rfl⟩ := G'.pre
          obtain ⟨t2, rfl⟩ := pre
          exact ⟨t ++ t2, by simp⟩⟩
end Bel

/-! The engine, part Z: errors: raised, caught, kept, looked at. -/
namespace Bel
open PySem PySem.Spec PyProof.Rows L2
/-- an object that nobody tells yet, new since the entry, is told from now on -/
theorem tracked {X : Cx} {ps : List (Addr × Obj)} {σ : L2.St} {H : Hp} {t : Shared} {a : Addr} {o : HO} (J : Inv X ps σ H t) (hn : H a = none) (h0 : X.s_0.heap.get? a = none) (hok : ObjOk X.prog X.w (upd H a o) t.heap a o) (nL : a ≠ X.env.locals) (nC : ∀ x c, X.env.cells.lookup x = some c → c ≠ a) (nP : ∀ p ∈ X.pn ++ ps, p.1 ≠ a) : Inv X ps σ (upd H a o) t where
  ok := J.ok
  os := J.os
  bare := J.bare
  base := ⟨J.base.keep, J.base.slot, fun b u hb h1 h2 => by
      have : b ≠ a := fun z => by rw [z, h0] at hb; cases hb
      rw [upd_ne this]; exact J.base.free b u hb h1 h2, J.base.there,
    fun b xs h => by
      have z := J.base.tups b xs h
      rw [upd_ne (ne_of_none z hn)]; exact z,
    fun b u xs h => by
      have z := J.base.frzs b u xs h
      rw [upd_ne (ne_of_none z hn)]; exact z,
    fun b q h => by
      obtain ⟨m, z⟩ := J.base.tbls b q h
      exact ⟨m, by rw [upd_ne (ne_of_none z hn)]; exact z⟩⟩
  loc := J.loc
  cell := J.cell
  free := by rw [upd_ne (Ne.symm nL)]; exact J.free
  freeC := fun x c h => by rw [upd_ne (nC x c h)]; exact J.freeC x c h
  pin := fun p hp => by
    obtain ⟨q1, q2, q3⟩ := J.pin p hp
    exact ⟨q1, by rw [upd_ne (nP p hp)]; exact q2, q3⟩
  hok := fun b u h => by
    by_cases hb : b = a
    · subst hb
      rw [upd_same] at h
      cases h
      exact hok
    · rw [upd_ne hb] at h
      exact (J.hok b u h).stay (fun _ _ _ q => q) (fun c q => by rw [upd_ne (ne_of_none q hn)]; exact q) fun c xs q => by rw [upd_ne (ne_of_none q hn)]; exact q
  len := J.len
/-- what `except C as n: m = n' asks of an error of the body: slot j is m's, slot i n's -/
def wKeep (K : PySem.W.Frag) (c : Value) (i j : Nat) (Wo : WX) (D : Ends) : WX := fun cls d σ H =>
  ∃ b, PySem.W.exmOne K cls c = some b ∧ (b = true → d = none ∧ ∀ a, H a = none → D.nx ((σ.set j (some (.ref a))).set i none) (upd H a (ExV cls a))) ∧ (b = false → Wo cls d σ H)
section
variable {X : Cx} {x n m : Str} {c : Value} {i j : Nat} {body : List Stmt} {np pm pn' pa pos pos' : Pos} {tb : WX → TS} {Wo : WX}
theorem ps_try_keep (hst : X.stack = X.env :: X.outer) (hfr : X.env.frame = some X.env.locals) (nd : X.N.Nodup) (hi : X.N[i]? = some n) (li : X.env.kindOf n = some .local) (hj : X.N[j]? = some m) (lj : X.env.kindOf m = some .local) (hij : i ≠ j) (hc : Names X x c) (tk : Takes X Wo)
    (hb : ∀ (W : WX) (pn : List (Addr × Obj)) (xe : Value → Shared → Prop), Takes (X.tr pn xe) W → PassesOwn (model X.prog X.w) X.A X.env xe → PSs (X.tr pn xe) body (tb W)) (hex : X.ex = []) (hdb : (n == ("__debug__" : Str)) = false) (hcd : (n == ("__classdict__" : Str)) = false) :
    PS X (.Try body [.ExceptHandler (some (.Name x np)) (some n) [.Assign [.Name m pm] (.Name n pn') pa] pos'] [] [] pos) (fun D σ H => tb (wKeep X.K c i j Wo D) D σ H) := by
  refine ⟨fun pins s σ H D I h => ?_⟩
  have ok := I.ok
  have frs_ : X.A.frames = some (X.env :: X.outer) := by rw [← hst]; exact ok.frames
  let hd : ExceptHandler := .ExceptHandler (some (.Name x np)) (some n) [.Assign [.Name m pm] (.Name n pn') pa] pos'
  let fly : Value → Shared → Prop := fun e t1 => wpAny (model X.prog X.w) X.A (noteFrame e X.env) (fun _ t2 => wpAny (model X.prog X.w) X.A (setFlight e none) (fun _ t3 => wpAny (model X.prog X.w) X.A (handleBy e X.env [hd]) (SP X pins D) X.xe t3) X.xe t2) X.xe t1
  refine wpAny_Try_except ?_
  have takes : Takes (X.tr (X.pn ++ pins) fly) (wKeep X.K c i j Wo D) := by
    rintro u t ⟨a, B, sI, ps, σ1, H1, cls, d, rfl, J0, nb, up, sky, na, os, ag, b, hb1, yes, no⟩
    have J : Inv X pins σ1 H1 sI := J0.ofTry ok
    have sky1 : Sky B (X.env :: X.outer) a (Zc cls d) X.env.locals t.heap := by rw [← hst]; exact sky
    show wpAny (model X.prog X.w) X.A (noteFrame (.ref a) X.env) _ _ t
    refine Sky.land Zc.steady frs_ hfr sky1 fun h3 f3 u3 => ?_
    have J3 : Inv X pins σ1 H1 { t with heap := h3 } := J.landed nb f3.1 (up.trans u3) os ag
    obtain ⟨oe, vs, g3, z3, d3⟩ := f3.there
    have off : ∀ {q : Heap} {o : Obj} {fs : Array Value}, q.FunFrames B (X.env :: X.outer) → q.get? a = some o → o.data = .fields fs → a ∉ frs (X.env :: X.outer) := by
      intro q o fs ff e1 e2 hm
      obtain ⟨_, o2, e3, k⟩ := ff.mem hm
      rw [e1] at e3
      cases e3
      exact k _ e2
    have offS := off f3.2.2.1 g3 d3
    have nL : a ≠ X.env.locals := fun z => offS (List.mem_filterMap.mpr ⟨X.env, List.mem_cons_self, by rw [hfr, z]⟩)
    have nF : a ∉ X.fs := fun hm => by
      obtain ⟨e, he, q⟩ := List.mem_filterMap.mp hm
      exact offS (List.mem_filterMap.mpr ⟨e, List.mem_cons_of_mem _ he, q⟩)
    have offT : a ∉ frs X.stack := by rw [hst]; exact offS
    have ground : B.get? a = none := f3.2.1
    -- the error is newer than the entry
    have newer : X.s_0.heap.get? a = none := by
      cases e0 : X.s_0.heap.get? a with
      | none => rfl
      | some o0 =>
        exfalso
        obtain ⟨o1, e1⟩ := J.base.there a o0 e0 (by rw [hex]; exact List.not_mem_nil)
        have z := nb a o1 e1 offT
        rw [ground] at z
        cases z
    have offP : ∀ p ∈ X.pn ++ pins, p.1 ≠ a := by
      rintro p hp rfl
      obtain ⟨e1, _⟩ := J.pin p hp
      have z := nb _ _ e1 offT
      rw [ground] at z
      cases z
    -- told, once its suite is through
    have tell : ∀ {t7 : Shared} {σ7 : L2.St} {oe7 : Obj} {fs7 : Array Value}, Inv X pins σ7 H1 t7 → t7.heap.get? a = some oe7 → Zc cls none oe7 → oe7.data = .fields fs7 → Inv X pins σ7 (upd H1 a (ExV cls a)) t7 := by
      intro t7 σ7 oe7 fs7 J7 e7 z7 d7
      refine tracked J7 na newer ⟨⟨oe7, fs7, e7, z7, d7⟩, ⟨oe7, e7⟩, ?_⟩ nL (fun y k hk z => ?_) offP
      · rintro q1 q2 ⟨o, v, e, r⟩ k
        exact ⟨o, v, k o e, r⟩
      · subst z
        obtain ⟨v, o, e1, e2⟩ := J7.cell y k hk
        rw [e7] at e1
        cases e1
        rw [d7] at e2
        cases e2
    have S3 := J3.suite g3 d3 na nL nF
    refine wpAny_handleBy_cons (codeAny_handlers_test ?_) (fun q => nomatch q)
    have lt : PySem.W.Looks (model X.prog X.w) h3 (typeOf (.ref a)) cls := fun A' Q' E' s' k q => wpAny_typeOf_ref (k _ _ g3) (by rw [z3.1]; exact q)
    have lm := PySem.W.exm_one (M := model X.prog X.w) J3.kIn lt hb1
    have class_ : ∀ {Q E : Value → Shared → Prop}, Q c { t with heap := h3 } → wpAny (model X.prog X.w) (X.A.mark (some (.ref a))) (eval (.Name x np) X.env) Q E { t with heap := h3 } := by
      intro Q E q
      obtain ⟨hg, hdbg, hm | ⟨hm, hv, hnn⟩⟩ := hc
      · exact ld_glob (X := X.suite a ((a, oe) :: (X.pn ++ pins))) S3 hg hm q hdbg
      · exact ld_blt (X := X.suite a ((a, oe) :: (X.pn ++ pins))) S3 hg hm hv q hnn hdbg
    refine class_ (lm.here ?_)
    match b, yes, no with
    | true, yes, _ =>
      obtain ⟨rfl, yes2⟩ := yes rfl
      refine codeAny_handlers_suite_as ?_
      refine HandSPX.lands_againZ f3 fun h4 f4 u4 => ?_
      have J4 : Inv X pins σ1 H1 { t with heap := h4 } := J.landed nb f4.1 ((up.trans u3).trans u4) os ag
      obtain ⟨oe4, vs4, g4, z4, d4⟩ := f4.there
      have S4 := J4.suite g4 d4 na nL nF
      let XS := X.suite a ((a, oe4) :: (X.pn ++ pins))
      refine store_ok (X := XS) (v := .ref a) S4 nd hi (.inl li) rfl (fun t5 S5 => ?_) (.inr li)
      have run : PSs XS [.Assign [.Name m pm] (.Name n pn') pa] _ := pss_one (ps_set (X := XS) (i := j) nd hj (.inl lj) (pe_var (X := XS) hi (.inl li) hdb hcd) rfl (.inr lj))
      let D5 : Ends := { nx := fun σ' H' => σ' = (σ1.set i (some (.ref a))).set j (some (.ref a)) ∧ H' = H1, rt := fun _ _ => False, bk := fun _ _ => False, ct := fun _ _ => False }
      have slot : (σ1.set i (some (V.ref a)))[i]? = some (some (.ref a)) := by
        have hl : i < σ1.length := by rw [J4.len]; exact (List.getElem?_eq_some_iff.mp hi).1
        rw [List.getElem?_set_self hl]
      refine wpAny_mono (run.run [] t5 _ H1 D5 S5 ⟨.ref a, slot, rfl, rfl⟩) (fun f t6 q6 => ?_) (fun _ _ z => z.elim)
      match f, q6 with
      | .next, q6 =>
        obtain ⟨σ6, H6, S6, rfl, rfl⟩ := q6
        obtain ⟨e6, _, _, _, c6⟩ := S6.pin (a, oe4) (List.mem_append.mpr (.inl List.mem_cons_self))
        have J6 : Inv X pins ((σ1.set i (some (.ref a))).set j (some (.ref a))) H6 t6 := S6.unsuite ok
        have J6' : Inv X ((a, oe4) :: pins) ((σ1.set i (some (.ref a))).set j (some (.ref a))) H6 t6 := J6.pins_of fun p hp => by
          rcases List.mem_cons.mp hp with rfl | hp
          · exact ⟨e6, na, nL, nF, c6⟩
          · exact J6.pin p (List.mem_append_right _ hp)
        refine gone_ok J6' nd hi li fun t7 J7 => ?_
        obtain ⟨e7, _⟩ := J7.pin (a, oe4) (List.mem_append_right _ List.mem_cons_self)
        have J7' : Inv X pins (((σ1.set i (some (.ref a))).set j (some (.ref a))).set i none) H6 t7 := J7.pins_of fun p hp => J7.pin p (List.mem_append_right _ (List.mem_cons_of_mem _ hp))
        have hs2 : ((σ1.set i (some (V.ref a))).set j (some (.ref a))).set i none = (σ1.set j (some (.ref a))).set i none := by
          rw [List.set_comm _ _ (Ne.symm hij), List.set_set, List.set_comm _ _ hij]
        rw [hs2] at J7'
        exact ⟨_, _, tell J7' e7 z4 d4, yes2 a na⟩
      | .brk, q6 => obtain ⟨_, _, _, q⟩ := q6; exact q.elim
      | .cont, q6 => obtain ⟨_, _, _, q⟩ := q6; exact q.elim
      | .ret u, q6 => obtain ⟨_, _, _, _, _, q⟩ := q6; exact q.elim
    | false, _, no =>
      show wpAny _ X.A (handleBy (.ref a) X.env []) _ _ _
      refine wpAny_handleBy_nil ?_
      obtain ⟨_, _, _, oe5, fs5, T, oT, ts, e5, _, dd5, t5, _⟩ := id f3
      unfold PySem.passOn
      refine wpAny_bind (wpAny_field e5 dd5 t5 ?_)
      rw [if_neg (show ¬ ((Value.ref T == Value.none) = true) from by simp)]
      have out : wpAny (model X.prog X.w) X.A (setFlight (.ref a) X.env.frame) (fun _ t6 => wpAny (model X.prog X.w) X.A (throw (.ref a) : Sem Flow) (SP X pins D) X.xe t6) X.xe { t with heap := h3 } := by
        rw [hfr]
        refine HandSPX.setFlight_upZ f3 fun h4 hh4 u4 => wpAny_throw (tk _ _ ?_)
        exact ⟨a, B, sI, pins, σ1, H1, cls, d, rfl, J, nb, (up.trans u3).trans u4, .inr (.inr (by rw [hst]; exact hh4)), na, os, ag, no rfl⟩
      first
        | exact wpAny_bind (wpAny_pure (wpAny_bind out))
        | exact wpAny_bind out
  refine wpAny_mono ((hb (wKeep X.K c i j Wo D) (X.pn ++ pins) fly takes PassesOwn.looking).run [] s σ H D (I.toTry _) h) (fun f t1 q1 => ?_) (fun e t1 he => he)
  match f, q1 with
  | .next, ⟨σ1, H1, J1, q⟩ => exact wpAny_execs_nil ⟨σ1, H1, J1.ofTry ok, q⟩
  | .brk, ⟨σ1, H1, J1, q⟩ => exact ⟨σ1, H1, J1.ofTry ok, q⟩
  | .cont, ⟨σ1, H1, J1, q⟩ => exact ⟨σ1, H1, J1.ofTry ok, q⟩
  | .ret u, ⟨v, σ1, H1, J1, r, q⟩ => exact ⟨v, σ1, H1, J1.ofTry ok, r, q⟩
end
/-! ### the errors of the program, numbered -/
def errs : List Str := ["NoTerm", "NoBook", "NoText", "NoYard", "NoTask", "NoStep", "NoRecord", "NoJob", "TooMany", "YardError"]
def ern (c : Nat) : Str := errs.getD c "YardError"
theorem ern_mem (c : Nat) : ern c ∈ errs := by
  unfold ern
  rw [List.getD_eq_getElem?_getD]
  cases e : errs[c]? with
  | none => decide +kernel
  | some x => exact List.mem_of_getElem? e
def ecG (K : PySem.W.Frag) (c : Nat) : Value := .ref (He.ga K (ern c))
def excCB (K : PySem.W.Frag) (D : Addr) : Bool :=
  decide (PySem.W.findIn K (.ref D) "__getattribute__" = some (some (.builtin "BaseException.__getattribute__"))) && (decide (PySem.W.findIn K (.ref D) "__getattr__" = some none) && (decide (PySem.W.subIn K (.ref D) (.type "BaseException") = some true) &&
  (PySem.W.hasDictIn K D && (decide (PySem.W.findIn K (.ref D) "__class__" = some (some (.builtin "object.__class__"))) && (decide (PySem.W.specialIn K (.builtin "object.__class__") "__get__" = some (some (.builtin "getset_descriptor.__get__"))) &&
  (decide (PySem.W.takesIn K (.builtin "object.__class__") = some true) && decide (PySem.W.mroIn K D (.type "object") = some true)))))))
theorem excCB_ok {K : PySem.W.Frag} {D : Addr} (h : excCB K D = true) : ExcC K D := by
  obtain ⟨h1, h⟩ := He.ba h
  obtain ⟨h2, h⟩ := He.ba h
  obtain ⟨h3, h⟩ := He.ba h
  obtain ⟨h4, h⟩ := He.ba h
  obtain ⟨h5, h⟩ := He.ba h
  obtain ⟨h6, h⟩ := He.ba h
  obtain ⟨h7, h8⟩ := He.ba h
  exact ⟨of_decide_eq_true h1, of_decide_eq_true h2, of_decide_eq_true h3, h4, of_decide_eq_true h5, of_decide_eq_true h6, of_decide_eq_true h7, of_decide_eq_true h8⟩
def errB (K : PySem.W.Frag) : Bool := errs.all fun x => (He.Fa.glo x).ok K && ((He.Fa.exc x).ok K && (excCB K (He.ga K x) && (decide (PySem.W.exmOne K (.ref (He.ga K x)) (.ref (He.ga K "YardError")) = some true) &&
  (decide (PySem.W.kitOne K (.ref (He.ga K x)) (.type "ValueError") = some true) && errs.all fun y => decide (PySem.W.kitOne K (.ref (He.ga K x)) (.ref (He.ga K y)) = some (decide (x = y) || decide (y = "YardError")))))))
/-- what is known of the errors -/
structure Errs (K : PySem.W.Frag) (mg : Str → Option Value) : Prop where
  at_ : ∀ x ∈ errs, mg x = some (.ref (He.ga K x)) ∧ (He.Fa.exc x).ok K = true ∧ ExcC K (He.ga K x) ∧ PySem.W.exmOne K (.ref (He.ga K x)) (.ref (He.ga K "YardError")) = some true ∧ PySem.W.kitOne K (.ref (He.ga K x)) (.type "ValueError") = some true ∧
    ∀ y ∈ errs, PySem.W.kitOne K (.ref (He.ga K x)) (.ref (He.ga K y)) = some (decide (x = y) || decide (y = "YardError"))
theorem errB_ok {K : PySem.W.Frag} {mg : Str → Option Value} (gl : ∀ x, (He.Fa.glo x).ok K = true → mg x = some (.ref (He.ga K x))) (h : errB K = true) : Errs K mg := ⟨fun x hx => by
  have z := List.all_eq_true.mp h x hx
  obtain ⟨z1, z⟩ := He.ba z
  obtain ⟨z2, z⟩ := He.ba z
  obtain ⟨z3, z⟩ := He.ba z
  obtain ⟨z4, z⟩ := He.ba z
  obtain ⟨z5, z⟩ := He.ba z
  exact ⟨gl x z1, z2, excCB_ok z3, of_decide_eq_true z4, of_decide_eq_true z5, fun y hy => of_decide_eq_true (List.all_eq_true.mp z y hy)⟩⟩
section
variable {X : Cx} {e a : Expr} {da : DE} {ds : DS} {body : List Stmt} {p pos : Pos}
/-- raise C('..') -/
def dRaise (c : Nat) : DS := fun e S => .ex c e S
theorem sv_raise {ec : Nat → Value} {c : Nat} {x m : Str} {j : Nat} {p2 p3 : Pos} (hec : ec = ecG X.K) (G : Errs X.K X.mg) (hc : X.calm = true) (hx : ern c = x) (hg : Gl X x) (hdb : (x == ("__debug__" : Str)) = false := by decide) : PSv ec X (.Raise (some (.Call (.Name x p) [.Constant (.str m) j p2] [] p3)) none pos) (dRaise c) := by
  subst hec
  subst hx
  obtain ⟨g1, g2, _⟩ := G.at_ (ern c) (ern_mem c)
  obtain ⟨q1, q2, q3, q4⟩ := He.exc_ok g2
  exact ⟨fun pn xe Wx tk po => (ps_raise (X := X.tr pn xe) (W := Wx) hc tk (pmk_own (X := X.tr pn xe) PySem.F.excBase_ValueError q1 g1 q2 (raises_own q3 q4) hg hdb)).imp fun D σ H ⟨env, S, ι, B, R, E, h⟩ => h σ H ι .refl R E⟩
/-- try: .. except YardError as n: m = n -/
def dTryK (i j : Nat) (body : DS) : DS := fun e S => match body e S with
  | .ex c e' S' => .ok (.nx ((e'.set j (some (.v (.exc c)))).set i none)) S'
  | r => r
theorem sv_tryK {ec : Nat → Value} {n m : Str} {i j : Nat} {np pm pn' pa pos' : Pos} (hec : ec = ecG X.K) (G : Errs X.K X.mg) (hst : X.stack = X.env :: X.outer) (hfr : X.env.frame = some X.env.locals) (nd : X.N.Nodup) (hi : X.N[i]? = some n) (li : X.env.kindOf n = some .local) (hj : X.N[j]? = some m) (lj : X.env.kindOf m = some .local) (hij : i ≠ j)
    (hg : Gl X "YardError") (hex : X.ex = []) (hb : PSsv ec X body ds) (hdb : (n == ("__debug__" : Str)) = false := by decide) (hcd : (n == ("__classdict__" : Str)) = false := by decide) :
    PSv ec X (.Try body [.ExceptHandler (some (.Name "YardError" np)) (some n) [.Assign [.Name m pm] (.Name n pn') pa] pos'] [] [] pos) (dTryK i j ds) := by
  subst hec
  refine ⟨fun pn xe Wx tk po => (ps_try_keep (X := X.tr pn xe) (tb := fun W => LS (fx (ecG X.K) X) W ds) hst hfr nd hi li hj lj hij (c := .ref (He.ga X.K "YardError")) ⟨hg, by decide, .inl (G.at_ "YardError" (by decide +kernel)).1⟩ tk (fun W pn2 xe2 tk2 po2 => hb.run pn2 xe2 W tk2 po2) hex hdb hcd).imp fun D σ H ⟨env, S, ι, B, R, E, h⟩ => ?_⟩
  refine ⟨env, S, ι, B, R, E, ?_⟩
  unfold dTryK at h
  cases e1 : ds env S with
  | no => rw [e1] at h; exact h
  | ok f S1 =>
    rw [e1] at h
    cases f <;> exact h
  | ex c e2 S1 =>
    rw [e1] at h
    intro σ' H' ι' G' R' E'
    refine ⟨true, (G.at_ (ern c) (ern_mem c)).2.2.2.1, fun _ => ⟨rfl, fun a ha => ?_⟩, fun z => nomatch z⟩
    obtain ⟨R2, G2, n2⟩ := R'.fresh (ExV (ecG X.K c) a) ha
    have rx : RU (fx (ecG X.K) X) (upd H' a (ExV (ecG X.K c) a)) ι' S1 B (.v (.exc c)) (.ref a) := .exc upd_same n2
    exact h _ _ ι' (G'.trans G2) R2 (((E'.go G2).set j rx).unset i)
/-- isinstance(e, C), C an error of the program, or ValueError; e an error -/
def dIsC (q : Nat → Bool) (a : DE) : DE := fun e S => (a e S).bind fun u S1 => match u with
  | .v (.exc c) => .ok (.v (.bl (q c))) S1
  | _ => .no
theorem call_isX : CallR X (.builtin "isinstance") (fun xs H Q => ∃ (D b : Addr) (c : V) (cv : Value) (r : Bool), ExcC X.K D ∧ xs = [.ref b, c] ∧ H b = some (ExV (.ref D) b) ∧ (∀ u, RelV c u → u = cv) ∧ PySem.W.kitOne X.K (.ref D) cv = some r ∧ Q (.bl r) H) := by
  intro pins s σ H xs us Q I r h
  obtain ⟨D, b, c, cv, r2, C, rfl, hb, hcv, e, q⟩ := h
  obtain ⟨u1, u2, rfl, r1, r3⟩ := vals2 r
  cases r1
  have ec := hcv _ r3
  subst ec
  obtain ⟨⟨oe, vs, e1, z, e2⟩, _⟩ := (show ObjOk X.prog X.w H s.heap b (ExV (.ref D) b) from I.hok b _ hb)
  have J : PySem.W.InstAt s.heap b oe D none := by
    obtain ⟨oc, od, oda, osl⟩ := oe
    obtain ⟨z1, z2⟩ := z
    dsimp only at z1 z2 e2
    subst z1 z2 e2
    exact ⟨e1, rfl, rfl, trivial⟩
  exact PySem.W.kia_one (PySem.W.handS_kitx_exc C.hg C.hk C.hs C.hd C.ha C.hn C.ht C.hm) I.kIn J e (fun z => nomatch z) fun tk => ⟨.bl r2, H, I.kept (t' := tk) fun _ _ z => z, rfl, q⟩
def errIs (k c : Nat) : Bool := decide (ern c = ern k)
theorem Rp.exc_inv {F : Fx} {H : Hp} {O : Addr → Prop} {c : Nat} {v : V} (r : Rp F H O (.exc c) v) : ∃ b, v = .ref b ∧ H b = some (ExV (F.ec c) b) := by
  cases r with
  | exc h hn => exact ⟨_, rfl, h⟩
theorem isC_core {F : Fx} {Wx : WX} {σ : L2.St} {H : Hp} {Q : VK} {q : Nat → Bool} {cv : V} {cu : Value} (hF : F.ec = ecG F.K) (hu : ∀ u, RelV cv u → u = cu) (hk : ∀ c, ExcC F.K (He.ga F.K (ern c)) ∧ PySem.W.kitOne F.K (.ref (He.ga F.K (ern c))) cu = some (q c)) (h : LE F Wx (dIsC q da) σ H Q) :
    LE F Wx da σ H fun v H1 => ∃ (D b : Addr) (c : V) (u : Value) (r : Bool), ExcC F.K D ∧ [v, cv] = [.ref b, c] ∧ H1 b = some (ExV (.ref D) b) ∧ (∀ w, RelV c w → w = u) ∧ PySem.W.kitOne F.K (.ref D) u = some r ∧ Q (.bl r) H1 := by
  obtain ⟨env, S, ι, B, R, E, h⟩ := h
  refine LE.then_ R E h fun u S1 v H1 ι1 G1 R1 E1 ru h1 => ?_
  split at h1
  · rename_i c
    obtain ⟨b, rfl, hb⟩ := Rp.exc_inv ru
    rw [hF] at hb
    exact ⟨_, b, cv, cu, q c, (hk c).1, rfl, hb, hu, (hk c).2, h1 _ H1 ι1 .refl R1 (.bl _)⟩
  · exact h1.elim
theorem ev_isC {ec : Nat → Value} {k : Nat} {y : Str} {p2 : Pos} (hec : ec = ecG X.K) (G : Errs X.K X.mg) (hy : ern k = y) (hny : decide (y = "YardError") = false) (ha : PEv ec X a da) (hg : Gl X "isinstance") (hm : X.mg "isinstance" = none) (hgy : Gl X y)
    (hdb : (y == ("__debug__" : Str)) = false := by decide)
    (h1 : starEach [a, .Name y p2] X.env = (false, eval a X.env) :: starEach [.Name y p2] X.env := by rfl) (h2 : starEach [.Name y p2] X.env = (false, eval (.Name y p2) X.env) :: starEach [] X.env := by rfl)
    (hpl : (backTo pos (starEach [.Name y p2] X.env)).any (·.1) = false := by rfl) : PEv ec X (.Call (.Name "isinstance" p) [a, .Name y p2] [] pos) (dIsC (errIs k) da) := by
  subst hec
  subst hy
  have gy := (G.at_ (ern k) (ern_mem k)).1
  exact ⟨fun pn xe Wx tk => (pe_callB (X := X.tr pn xe) call_isX hg hm boot_isinstance (pa_cons (ha.run pn xe Wx tk) (pa_cons (pe_glob (X := X.tr pn xe) (v := .ref (He.ga X.K (ern k))) hgy gy rfl hdb) pa_nil h2) h1) (by decide) (by decide) h1 hpl).imp
    fun σ H Q h => isC_core (F := fx (ecG X.K) X) rfl (fun u r => r) (fun c => ⟨(G.at_ _ (ern_mem c)).2.2.1, by
      have z := (G.at_ _ (ern_mem c)).2.2.2.2.2 (ern k) (ern_mem k)
      rw [hny, Bool.or_false] at z
      exact z⟩) h⟩
theorem ev_isVE {ec : Nat → Value} {p2 : Pos} (hec : ec = ecG X.K) (G : Errs X.K X.mg) (ha : PEv ec X a da) (hg : Gl X "isinstance") (hm : X.mg "isinstance" = none) (hgy : Gl X "ValueError") (hmy : X.mg "ValueError" = none) (hv : bootBuiltins "ValueError" = some (.type "ValueError"))
    (h1 : starEach [a, .Name "ValueError" p2] X.env = (false, eval a X.env) :: starEach [.Name "ValueError" p2] X.env := by rfl) (h2 : starEach [.Name "ValueError" p2] X.env = (false, eval (.Name "ValueError" p2) X.env) :: starEach [] X.env := by rfl)
    (hpl : (backTo pos (starEach [.Name "ValueError" p2] X.env)).any (·.1) = false := by rfl) : PEv ec X (.Call (.Name "isinstance" p) [a, .Name "ValueError" p2] [] pos) (dIsC (fun _ => true) da) := by
  subst hec
  exact ⟨fun pn xe Wx tk => (pe_callB (X := X.tr pn xe) call_isX hg hm boot_isinstance (pa_cons (ha.run pn xe Wx tk) (pa_cons (pe_bltn (X := X.tr pn xe) (v := .ty "ValueError") hgy hmy hv rfl (by decide) (by decide)) pa_nil h2) h1) (by decide) (by decide) h1 hpl).imp
    fun σ H Q h => isC_core (F := fx (ecG X.K) X) rfl (fun u r => r) (fun c => ⟨(G.at_ _ (ern_mem c)).2.2.1, (G.at_ _ (ern_mem c)).2.2.2.2.1⟩) h⟩
end
/-! ### a law's end with errors -/
structure HdE (K : PySem.W.Frag) (mg : Str → Option Value) (w : World) (fa : List He.Fa) (fn : List He.DefD) (kc : List Con') (kd : List Kd) (be : Bool) : Prop extends HdW K mg w fa fn kc kd where
  er : be = true → Errs K mg
def exE (kc : List Con') (kd : List Kd) (be : Bool) (K : PySem.W.Frag) : Bool := exB kc kd K && (!be || errB K)
end Bel

/-! The engine, part W: dicts: ==, update; walks over own dicts. -/
namespace Bel
open PySem PySem.Spec PyProof.Rows L2 PyProof.V
def sameP (p q : W × W) : Bool := eqK p.1 q.1 && (isFlat p.2 && isFlat q.2 && eqD p.2 q.2)
def sameD : List (W × W) → List (W × W) → Bool
  | [], [] => true
  | p :: l, q :: m => sameP p q && sameD l m
  | _, _ => false
theorem flat_of {F : Fx} {H : Hp} {O : Addr → Prop} {w : W} {v : V} {u : Value} (h : isFlat w = true) (r : Rp F H O w v) (ru : RelV v u) : Flat u (toD w) := by
  cases w with
  | non => rw [Rp.non_inv r] at ru; cases ru; exact fun h => by simp only [toD]; exact .none
  | bl b => rw [Rp.bl_inv r] at ru; cases ru; exact fun h => by simp only [toD]; exact .bool b
  | int i => rw [Rp.int_inv r] at ru; obtain ⟨t, rfl⟩ := ru; exact fun h => by simp only [toD]; exact .int i t
  | str x => rw [(Rp.str_inv r).1] at ru; obtain ⟨t, rfl⟩ := ru; exact fun h => by simp only [toD]; exact .str _ t
  | _ => cases h
theorem same_hits {F : Fx} {H : Hp} {O : Addr → Prop} {A : Around} {s : Shared} {kb : List (Key × Value)} (nd : (kb.map (·.1)).Nodup) : ∀ {l m : List (W × W)} {ka' kb' : List (Key × V)} {va vb : List (Key × Value)}, sameD l m = true → RpD F H O l ka' → RpD F H O m kb' → KV ka' va → KV kb' vb → (∀ p ∈ vb, p ∈ kb) → PySem.W.KeqHits A s kb va true ∧ va.length = vb.length
  | [], [], ka', kb', va, vb, _, r1, r2, k1, k2, _ => by
    rw [r1.nil_iff] at k1
    rw [r2.nil_iff] at k2
    cases k1
    cases k2
    exact ⟨.nil, rfl⟩
  | p :: l, q :: m, ka', kb', va, vb, h, r1, r2, k1, k2, hm => by
    obtain ⟨h1, h2⟩ := He.ba h
    obtain ⟨h3, h4⟩ := He.ba h1
    obtain ⟨h5, h6⟩ := He.ba h4
    obtain ⟨h7, h8⟩ := He.ba h5
    obtain ⟨κ1, v1, ka2, rfl, a1, a2, a3⟩ := r1.cons_iff
    obtain ⟨κ2, v2, kb2, rfl, b1, b2, b3⟩ := r2.cons_iff
    have k1' : Paired (fun (p : Key × V) (q : Key × Value) => p.1 = q.1 ∧ RelV p.2 q.2) ((κ1, v1) :: ka2) va := k1
    have k2' : Paired (fun (p : Key × V) (q : Key × Value) => p.1 = q.1 ∧ RelV p.2 q.2) ((κ2, v2) :: kb2) vb := k2
    cases k1' with
    | @cons _ y1 _ ya e1 t1 =>
      cases k2' with
      | @cons _ y2 _ yb e2 t2 =>
        obtain ⟨g1, l1⟩ := same_hits (A := A) (s := s) nd h2 a3 b3 t1 t2 fun p hp => hm p (List.mem_cons_of_mem _ hp)
        obtain ⟨c1, d1⟩ := y1
        obtain ⟨c2, d2⟩ := y2
        obtain ⟨rfl, f1⟩ := e1
        obtain ⟨rfl, f2⟩ := e2
        have hk : κ1 = κ2 := by
          have z := eqK_iff (key_of_rp a1) (key_of_rp b1)
          rw [h3] at z
          exact of_decide_eq_true z.symm
        subst hk
        have z := PySem.W.keq_flat (A := A) (s := s) (flat_of h7 a2 f1) (flat_of h8 b2 f2)
        rw [show PyData.eqv (toD p.2) (toD q.2) = true from h6] at z
        exact ⟨PySem.W.KeqHits.hit (e := true) (valueAt_of_mem nd (hm _ List.mem_cons_self)) z g1, by simp [l1]⟩
  | [], _ :: _, _, _, _, _, h, _, _, _, _, _ => nomatch h
  | _ :: _, [], _, _, _, _, h, _, _, _, _, _ => nomatch h
theorem ops_dict {X : Cx} {F : Fx} (hF : F.K = X.K) {pins : List (Addr × Obj)} {σ : L2.St} {H : Hp} {O : Addr → Prop} {s : Shared} (I : Inv X pins σ H s) {l m : List (W × W)} {x y : V} (hs : sameD l m = true) (rx : RT F H O (.dct l) x) (ry : RT F H O (.dct m) y) :
    ∃ (a b : Addr) (va vb : List (Key × Value)), x = .ref a ∧ y = .ref b ∧ (a == sysModules) = false ∧ (b == sysModules) = false ∧ s.heap.DictOf (mixKind X.prog X.w) a va ∧ s.heap.DictOf (mixKind X.prog X.w) b vb ∧ va.length = vb.length ∧ PySem.W.KeqHits X.A.in1 s vb va true := by
  obtain ⟨a, ka, rfl, h1, q1⟩ := rx
  obtain ⟨b, kb, rfl, h2, q2⟩ := ry
  obtain ⟨_, z1, va, k1, d1⟩ := dk_rd I.hok h1
  obtain ⟨_, z2, vb, k2, d2⟩ := dk_rd I.hok h2
  have nd : (vb.map (·.1)).Nodup := by
    obtain ⟨_, _, _, _, _, _, _, _, n⟩ := d2
    exact n
  obtain ⟨g, hl⟩ := same_hits (A := X.A.in1) (s := s) nd hs q1 q2 k1 k2 fun p hp => hp
  exact ⟨a, b, va, vb, rfl, rfl, z1, z2, d1, d2, hl, g⟩
def rDD (K : PySem.W.Frag) (neg : Bool) (F : Fx) : R2 := fun x y H Q => ∃ (O : Addr → Prop) (l m : List (W × W)), F.K = K ∧ sameD l m = true ∧ RT F H O (.dct l) x ∧ RT F H O (.dct m) y ∧ Q (.bl (!neg)) H
theorem op_eqDD {X : Cx} {F : Fx} (hu : X.A.units < cLine) : OpR X (compareOp .Eq) (rDD X.K false F) := by
  intro pins s σ H x y v u Q I rx ry h
  obtain ⟨O, l, m, hF, hs, r1, r2, q⟩ := h
  obtain ⟨a, b, va, vb, rfl, rfl, z1, z2, d1, d2, hl, g⟩ := ops_dict hF I hs r1 r2
  cases rx
  cases ry
  refine PySem.W.keq_eq z1 z2 d1 d2 hu (fun _ => g) ?_
  rw [hl]
  simp only [beq_self_eq_true, Bool.and_true]
  exact ⟨.bl true, H, I, rfl, q⟩
theorem op_neDD {X : Cx} {F : Fx} (hu : X.A.units < cLine) : OpR X (compareOp .NotEq) (rDD X.K true F) := by
  intro pins s σ H x y v u Q I rx ry h
  obtain ⟨O, l, m, hF, hs, r1, r2, q⟩ := h
  obtain ⟨a, b, va, vb, rfl, rfl, z1, z2, d1, d2, hl, g⟩ := ops_dict hF I hs r1 r2
  cases rx
  cases ry
  refine PySem.W.keq_ne z1 z2 d1 d2 hu (fun _ => g) ?_
  rw [hl]
  simp only [beq_self_eq_true, Bool.and_true, Bool.not_true]
  exact ⟨.bl false, H, I, rfl, q⟩
def fEqDD : W → W → Option Out
  | .dct l, .dct m => if sameD l m = true then some (.val (.bl true)) else none
  | _, _ => none
def fNeDD : W → W → Option Out
  | .dct l, .dct m => if sameD l m = true then some (.val (.bl false)) else none
  | _, _ => none
theorem ow_eqDD {F : Fx} : OpW F fEqDD (rDD F.K false F) := by
  intro H O x y w z o Q rx ry e q
  unfold fEqDD at e
  split at e
  · split at e
    · rename_i hs
      cases some_inj e
      exact ⟨O, _, _, rfl, hs, rx, ry, q _ (.bl _)⟩
    · cases e
  · cases e
theorem ow_neDD {F : Fx} : OpW F fNeDD (rDD F.K true F) := by
  intro H O x y w z o Q rx ry e q
  unfold fNeDD at e
  split at e
  · split at e
    · rename_i hs
      cases some_inj e
      exact ⟨O, _, _, rfl, hs, rx, ry, q _ (.bl _)⟩
    · cases e
  · cases e
/-! ### d.update(d2): d an own dict, d2 another dict -/
def notO (n : Nat) : U → Bool
  | .o k => !decide (k = n)
  | .v _ => true
def dUpd (o a : DE) : DE := fun e S => (o e S).bind fun u S1 => match u with
  | .o n => match S1[n]? with
    | some (.dct _) => (a e S1).bind fun v S2 => match S2[n]?, dr S2 v with
      | some (.dct l), some (.dct m) => if l.length + m.length ≤ 16777216 ∧ notO n v = true then .ok (.v .non) (S2.set n (.dct (mrgW l m))) else .no
      | _, _ => .no
    | _ => .no
  | .v _ => .no
theorem put_len {l : List (Key × V)} {k : Key} {v : V} : (putK l k v).length ≤ l.length + 1 := by
  unfold putK
  split
  · simp
  · simp
theorem mrg_len : ∀ {more kvs : List (Key × V)}, (mergeK kvs more).length ≤ kvs.length + more.length
  | [], kvs => by simp [mergeK]
  | p :: r, kvs => by
    have z := mrg_len (more := r) (kvs := putK kvs p.1 p.2)
    have y := put_len (l := kvs) (k := p.1) (v := p.2)
    show (mergeK (putK kvs p.1 p.2) r).length ≤ _
    simp only [List.length_cons]
    omega
def rUpd : V → List V → Hp → VK → Prop := fun x vs H Q => ∃ (a b : Addr) (kvs more : List (Key × V)), x = .ref a ∧ vs = [.ref b] ∧ a ≠ b ∧ H a = some (.dK kvs) ∧ Rd H b (.dK more) ∧ kvs.length + more.length ≤ sizeLine ∧ Q .non (upd H a (.dK (mergeK kvs more)))
theorem mt_upd {X : Cx} : MtR X "dict.update" rUpd := by
  intro pins s σ H x vs v us Q I rx rv h
  obtain ⟨a, b, kvs, more, rfl, rfl, hne, h1, h2, hz, q⟩ := h
  cases rx
  obtain ⟨u, rfl, ru⟩ := rv.one
  cases ru
  obtain ⟨za, sa, va, ka, da⟩ := dk_of I.hok h1
  obtain ⟨_, sb, vb, kb, db⟩ := dk_rd I.hok h2
  refine call_meetsIn PySem.F.slot_dict_update da.typeIs PySem.F.entry_dict_update (PySem.F.args_dict_update_2 _ _) (meets_dict_update (mixKind X.prog X.w) a b hne sb)
    ⟨va, vb, da, db, by rw [← Paired.length ka, ← Paired.length kb]; exact hz, fun h' d1 d2 hs => ?_⟩
  have he : ∃ o, h'.get? a = some o := by
    obtain ⟨o, _, _, ho, _⟩ := d1
    exact ⟨o, ho⟩
  exact ⟨.non, _, d_write (t' := s.toks) I (by rw [h1]; exact True.intro) hs he (dk_new (Nat.le_trans mrg_len hz) sa (KV.merge kb ka) d1), rfl, q⟩
section
variable {ec : Nat → Value} {X : Cx} {e o : Expr} {da db : DE} {apos cpos : Pos}
theorem ev_upd (ho : PEv ec X o da) (ha : PEv ec X e db)
    (hbase : attributeBase o "update" X.env (eval o X.env) = eval o X.env := by rfl)
    (hfew : ((backTo cpos (starEach [e] X.env)).all (fun x => !x.1) && (backToKw cpos (keywordEach [] X.env)).all (fun x => x.1.isSome)
      && decide (([e] : List Expr).length + ([] : List Keyword).length + (if ([] : List Keyword).isEmpty then 0 else 1) < 30)) = true := by rfl)
    (hline : (apos.endLine == cpos.line) = true := by rfl) (hs : starEach [e] X.env = (false, eval e X.env) :: starEach [] X.env := by rfl) (hplain : (backTo cpos (starEach [] X.env)).any (·.1) = false := by rfl) :
    PEv ec X (.Call (.Attribute o "update" apos) [e] [] cpos) (dUpd da db) :=
  ⟨fun pn xe Wx tk => (pe_bm (X := X.tr pn xe) F.plainAttrs_dict F.slot_dict_update F.type_dict_update (mt_upd (X := X.tr pn xe)) (ho.run pn xe Wx tk) ((av_cons ha av_nil hs).run pn xe Wx tk) hbase hfew hline hs hplain).imp fun σ H Q ⟨env, S, ι, B, R, E, h⟩ => by
    refine LE.then_ R E h fun u S1 x H1 ι1 G1 R1 E1 ru h1 => ?_
    split at h1
    · rename_i n
      obtain ⟨a, ha1, rfl⟩ := ru
      split at h1
      · rename_i l0 e1
        obtain ⟨kvs0, hH0, _⟩ := R1.dct e1 ha1
        refine ⟨.inr (.inr (.inl ⟨rfl, .inl ⟨kvs0, hH0⟩⟩)), ?_⟩
        show LA (fx ec X) Wx (dCons db dNil) σ H1 _
        refine ⟨env, S1, ι1, B, R1, E1, ?_⟩
        unfold dCons
        cases e2 : db env S1 with
        | no => rw [e2] at h1; exact h1
        | ex c S2 => rw [e2] at h1; exact h1
        | ok v S2 =>
          rw [e2] at h1
          simp only [Re.bind_ok, dNil] at h1 ⊢
          intro xs H2 ι2 G2 R2 rus
          cases rus with
          | cons rv rn =>
            cases rn
            have h2 := h1.go G2
            split at h2
            · rename_i l m e3 e4
              split at h2
              · rename_i hc
                have ha2 : ι2[n]? = some a := by
                  obtain ⟨t, rfl⟩ := G2.pre
                  rw [List.getElem?_append_left (List.getElem?_eq_some_iff.mp ha1).1]
                  exact ha1
                obtain ⟨kvs, hH, rl⟩ := R2.dct e3 ha2
                obtain ⟨b, more, rfl, hb, rm⟩ := RU.rt R2 rv e4
                have hne : a ≠ b := by
                  rintro rfl
                  cases v with
                  | o k =>
                    obtain ⟨a', ha', ea⟩ := rv
                    cases ea
                    have hk : k ≠ n := by simpa [notO] using hc.2
                    obtain ⟨q1, q2⟩ := List.getElem?_eq_some_iff.mp ha2
                    obtain ⟨q3, q4⟩ := List.getElem?_eq_some_iff.mp ha'
                    exact hk ((List.getElem_inj R2.nd).mp (q4.trans q2.symm))
                  | v w =>
                    cases e4
                    obtain ⟨a', kvs', ea, hf, _⟩ := Rp.dct_inv rv
                    cases ea
                    exact hf.2 (.inl ⟨n, _, e3, by simp, ha2⟩)
                obtain ⟨R3, G3⟩ := R2.write (o' := .dct (mrgW l m)) (ho := .dK (mergeK kvs more)) e3 (by simp) ha2 ⟨_, rfl, mrg_rp rm rl⟩
                exact ⟨a, b, kvs, more, rfl, rfl, hne, hH, hb, by rw [← rl.1, ← rm.1, sizeLine_is]; exact hc.1, h2 .non _ ι2 G3 R3 .non⟩
              · exact h2.elim
            · exact h2.elim
      · exact h1.elim
    · exact h1.elim⟩
end
/-! ### for x in [a, b, ..], the items values or own objects -/
def dLoopU (i : Nat) (body : DS) : List U → DS
  | [], e, S => .ok (.nx e) S
  | u :: r, e, S => match body (e.set i (some u)) S with
    | .ok (.nx e2) S2 => dLoopU i body r e2 S2
    | .ok (.ct e2) S2 => dLoopU i body r e2 S2
    | .ok (.bk e2) S2 => .ok (.nx e2) S2
    | r => r
def dForU (a : DA) (i : Nat) (body : DS) : DS := fun e S => (a e S).st e fun us S1 => if us.length ≤ 16777216 then dLoopU i body us e S1 else .no
section
variable {ec : Nat → Value} {X : Cx} {es : List Expr} {das : DA} {ds : DS} {body : List Stmt} {p1 p2 pos : Pos}
theorem RUs.at {F : Fx} {H : Hp} {ι : List Addr} {S : Store} {B : Addr → Prop} {us : List U} {vs : List V} (r : RUs F H ι S B us vs) {i : Nat} {v : V} (h : vs[i]? = some v) : ∃ u, us[i]? = some u ∧ RU F H ι S B u v := by
  induction r generalizing i with
  | nil => simp at h
  | cons a t ih =>
    cases i with
    | zero => simp at h; subst h; exact ⟨_, rfl, a⟩
    | succ i => simpa using ih (by simpa using h)
theorem sv_forU {i : Nat} {x : Str} (hc : X.calm = true) (hN : X.N.Nodup) (hi : X.N[i]? = some x) (hx : Loc X.env.scope x) (ha : PAv ec X es das) (hb : PSsv ec X body ds)
    (hf : X.fn x = true ∨ X.env.scope.names.lookup x = some .local := by first | exact .inl rfl | exact .inr rfl)
    (hs : ∀ x, foldedSetIterable (.List es p2) X.env x = pure x := by intro _; rfl) : PSv ec X (.For (.Name x p1) (.List es p2) body [] pos) (dForU das i ds) := by
  refine ⟨fun pn xe Wx tk po => (ps_for (X := X.tr pn xe) po hc (pi_list (pe_lst (ha.run pn xe Wx tk))) (pg_name (X := X.tr pn xe) hN hi hx hf) (hb.run pn xe Wx tk po) hs).imp fun D σ H ⟨env, S, ι, B, R, E, h⟩ => ?_⟩
  show LA (fx ec X) Wx das σ H _
  refine ⟨env, S, ι, B, R, E, ?_⟩
  unfold dForU at h
  cases ee : das env S with
  | no => rw [ee] at h; exact h
  | ex c S1 => rw [ee] at h; exact fun H1 ι1 G1 R1 => h σ H1 ι1 G1 R1 (E.go G1)
  | ok us S1 =>
    rw [ee] at h
    simp only [Re.st_ok] at h
    split at h
    · rename_i hlen
      intro vs H1 ι1 G1 R1 rus
      have hvl : us.length = vs.length := Paired.length rus
      refine ⟨by rw [sizeLine_is, ← hvl]; exact hlen, fun p hp => ?_⟩
      obtain ⟨R2, G2, n2⟩ := R1.fresh (.lst vs) hp
      have fl : FLst (upd H1 p (.lst vs)) (Oq ι1 S1 B) p vs := ⟨upd_same, n2⟩
      refine ⟨p, rfl, ⟨vs, fl.sq (F := fx ec X)⟩, ?_⟩
      refine for_it (walk_list (K := X.K) (a := p) (xs := vs)) (fun k σ' H' => ∃ (env' : Env') (S' : Store) (ι' : List Addr), Go ι1 S1 (upd H1 p (.lst vs)) ι' S' H' ∧ RS (fx ec X) ι' S' B H' ∧ ER (fx ec X) H' ι' S' B env' σ' ∧ PoS (fx ec X) Wx ι' S' B H' (dLoopU i ds (us.drop k) env' S') D)
        ⟨env, S1, ι1, .refl, R2, (E.go G1).go G2, by rw [List.drop_zero]; exact h.go (G1.trans G2)⟩ (fun k σ' H' _ ⟨_, _, _, G', _, _, _⟩ => (fl.ext G'.lo.1 G'.lo.2).sq (F := fx ec X)) ?_ ?_
      · rintro k y σ' H' H3 hk ⟨env', S', ι', G', R', E', h'⟩ ⟨rfl, hy⟩
        obtain ⟨u, hu, ru⟩ := RUs.at rus hy
        have ru' : RU (fx ec X) H3 ι' S' B u y := RU.go G' (RU.go G2 ru)
        have hd : us.drop k = u :: us.drop (k + 1) := by
          obtain ⟨h1, h2⟩ := List.getElem?_eq_some_iff.mp hu
          rw [← h2]
          exact List.drop_eq_getElem_cons h1
        rw [hd] at h'
        unfold dLoopU at h'
        show LS (fx ec X) Wx ds _ (σ'.set i (some y)) H3
        refine ⟨env'.set i (some u), S', ι', B, R', E'.set i ru', ?_⟩
        cases e2 : ds (env'.set i (some u)) S' with
        | no => simp only [e2] at h'; exact h'
        | ex c e3 S3 => simp only [e2] at h'; exact h'
        | ok f S3 =>
          cases f with
          | nx e3 =>
            simp only [e2] at h'
            exact fun σ3 H3 ι3 G3 R3 E3 => ⟨e3, S3, ι3, G'.trans G3, R3, E3, h'.go G3⟩
          | ct e3 =>
            simp only [e2] at h'
            exact fun σ3 H3 ι3 G3 R3 E3 => ⟨e3, S3, ι3, G'.trans G3, R3, E3, h'.go G3⟩
          | bk e3 => simp only [e2] at h'; exact h'
          | rt u => simp only [e2] at h'; exact h'
      · rintro σ' H' ⟨env', S', ι', G', R', E', h'⟩
        rw [← hvl, List.drop_length] at h'
        exact h' σ' H' ι' .refl R' E'
    · exact h.elim
end
/-! ### a law's end -/
theorem law_endE {l : PySem.W.OpenLaw} {n k : Nat} {q : Program} {loose : List Str} {XP : (Str → Option Value) → Heap → Prop} {d : DefRec} {x y : Str} {fa : List He.Fa} {fn : List He.DefD} {kc : List Con'} {kd : List Kd} {be : Bool} {m : Nat}
    (hn : l.most = some n) (hn2 : n ≤ sizeLine) (hdf : d.params.defaults = []) (hr : Room k callerA) (hx : d.name = x) (j : Nat) (hj : fa[j]? = some (.glo x)) (df : DF)
    (F : ∀ (w : World) (mg : Str → Option Value) (K : PySem.W.Frag), HdE K mg w fa fn kc kd be → ∃ (ec : Nat → Value) (fd : FuncData), (∀ (s : Shared) (u : Value), BindsTo s fd ⟨[u], []⟩ [(y, u)]) ∧
      ∀ base : Heap, FnG l.prog w K mg base k (He.ga K x) fd [y] (spD ⟨K, w, ec⟩ df 1))
    (L : ∀ ns : List Int, ns.length ≤ n → ∃ S', df [.o 0] [.scr (ns.map W.int)] = .ok (.v (.bl true)) S') :
    PySem.W.WalkO q loose XP (He.hookX m fa fn (tabs kd) [] (exE kc kd be)).says l.row.toRowW d [] (fun f vs => PySem.call f vs) := by
  refine Att.attach_call hn hdf fun w s₀ s₁ mg mb ad o pm cd doc a vs ns G Y ho hd hcd hmg hobj hints hlen hg => ?_
  obtain ⟨K, KX, c⟩ := Y
  obtain ⟨z0, ze⟩ := He.ba c.more
  obtain ⟨z1, z⟩ := He.ba z0
  obtain ⟨z2, z⟩ := He.ba z
  obtain ⟨z3, z4⟩ := He.ba z
  have Z0 : Hd K mg fa fn kc := ⟨c.t.d, fun x e => He.glo_ok KX G.T.g e, fun x e => He.free_ok KX G.T.g e, fun p hp => konB_ok KX G.T.g (List.all_eq_true.mp z2 p hp), z1⟩
  have Z1 : HdW K mg w fa fn kc kd := ⟨Z0, fun p hp => by
    obtain ⟨i, hi, e⟩ := List.mem_iff_getElem.mp hp
    have ht : (tabs kd)[i]? = some ((fun K => He.ga K p.1), p.2.map fun q => (⟨q.1.toArray⟩ : Str)) := by
      unfold tabs
      rw [List.getElem?_map, List.getElem?_eq_getElem hi, e]
      rfl
    exact kdB_ok (Z0.gl _ (List.all_eq_true.mp z4 p hp)) (c.t.tab i ht) (List.all_eq_true.mp z3 p hp)⟩
  have Z : HdE K mg w fa fn kc kd be := ⟨Z1, fun hbe => by
    subst hbe
    exact errB_ok Z0.gl ze⟩
  obtain ⟨ec, fd, hb, hF⟩ := F w mg K Z
  have e := hmg.symm.trans (hx ▸ Z0.gl x (c.t.d.fact j hj))
  have ea : ad = He.ga K x := by
    injection e with e
    injection e with e
    rw [e, hx]
  subst ea
  have hno : ∀ o, K.lookup a = some o → False := fun o h => noLst_ok z1 h (by
    have := KX a o h
    rw [hobj] at this
    rw [← Option.some.inj this])
  exact lawG (sp := spD ⟨K, w, ec⟩ df 1) KX G.T.g G.T.b G.T.builtins G.T.nolimit hg hobj hints (Nat.le_trans hlen hn2) ⟨hr, rfl⟩ hno hF hb (fun H hO hS => law_sp (F := ⟨K, w, ec⟩) z1 hO hS (L ns hlen))
theorem r65 {k : Nat} {A : Around} (r : Room k A) : A.units + 65 < cLine := by have := r.un; omega
theorem r70 {k : Nat} {A : Around} (r : Room k A) : A.units + 70 < cLine := by have := r.un; omega
/-! ### a, b = a list -/
def tgL (n : Nat) (r : List W → Env' → Option Env') : W → Env' → Option Env'
  | .lst ws, e => if ws.length = n then r ws e else none
  | _, _ => none
section
variable {ec : Nat → Value} {X : Cx} {es : List Expr} {pos : Pos}
theorem gv_lst {gs : TGs} {ts : List W → Env' → Option Env'} {sls : List Nat} {k n : Nat} (hc : X.calm = true) (h : PGsv ec X es gs ts sls) (hn : (assignEach es X.env).length = n := by rfl) (hst : (assignEach es X.env).findIdx? (·.1) = none := by rfl) : PGv ec X (.Tuple es k pos) (gLst X.K n gs) (tgL n ts) sls := by
  obtain ⟨b1, b2⟩ := h
  refine ⟨fun pn xe => pg_lst (X := X.tr pn xe) hc (b1 pn xe) hn hst, fun w e e' h v σ H ι S B Q r E k => ?_⟩
  cases w with
  | lst ws =>
    simp only [tgL] at h
    split at h
    · rename_i hl
      obtain ⟨a, vs, rfl, h1, r1⟩ := r.lst_inv
      exact ⟨a, vs, rfl, FLst.sq (F := fx ec X) h1, by rw [← r1.1]; exact hl, b2 ws e e' h vs σ H ι S B Q r1 E k⟩
    · cases h
  | _ => cases h
end
end Bel

/-! The engine, part T: more rules for reckoning. -/
namespace Bel
open PySem PySem.Spec PyProof.Rows L2
@[simp] theorem dNoS_ap (e : Env') (S : Store) : dNoS e S = .no := rfl
@[simp] theorem dRaise_ap (c : Nat) (e : Env') (S : Store) : dRaise c e S = .ex c e S := rfl
@[simp] theorem dTryK_ap (i j : Nat) (body : DS) (e : Env') (S : Store) : dTryK i j body e S = match body e S with
  | .ex c e' S' => .ok (.nx ((e'.set j (some (.v (.exc c)))).set i none)) S'
  | r => r := rfl
@[simp] theorem dIsC_ap (q : Nat → Bool) (a : DE) (e : Env') (S : Store) : dIsC q a e S = (a e S).bind fun u S1 => match u with
  | .v (.exc c) => .ok (.v (.bl (q c))) S1
  | _ => .no := rfl
@[simp] theorem dUpd_ap (o a : DE) (e : Env') (S : Store) : dUpd o a e S = (o e S).bind fun u S1 => match u with
  | .o n => match S1[n]? with
    | some (.dct _) => (a e S1).bind fun v S2 => match S2[n]?, dr S2 v with
      | some (.dct l), some (.dct m) => if l.length + m.length ≤ 16777216 ∧ notO n v = true then .ok (.v .non) (S2.set n (.dct (mrgW l m))) else .no
      | _, _ => .no
    | _ => .no
  | .v _ => .no := rfl
@[simp] theorem dForU_ap (a : DA) (i : Nat) (body : DS) (e : Env') (S : Store) : dForU a i body e S = (a e S).st e fun us S1 => if us.length ≤ 16777216 then dLoopU i body us e S1 else .no := rfl
@[simp] theorem dAug_ap (i : Nat) (f : W → W → Option Out) (d : DE) (e : Env') (S : Store) : dAug i f d e S = match e[i]? with
  | some (some (.v x)) => (d e S).st e fun v S1 => match dr S1 v with
    | some y => (match f x y with
      | some (.val z) => .ok (.nx (e.set i (some (.v z)))) S1
      | _ => .no)
    | none => .no
  | _ => .no := rfl
@[simp] theorem dGet2_ap (d k x : DE) (e : Env') (S : Store) : dGet2 d k x e S = (d e S).bind fun u S1 => match dr S1 u with
  | some (.dct _) => (k e S1).bind fun y S2 => (x e S2).bind fun z S3 => match dr S3 u, y, z with
    | some (.dct l), .v y, .v z => putO false (fGet (.dct l) y z) S3
    | _, _, _ => .no
  | _ => .no := rfl
@[simp] theorem dGet1_ap (d k : DE) (e : Env') (S : Store) : dGet1 d k e S = (d e S).bind fun u S1 => match dr S1 u with
  | some (.dct _) => (k e S1).bind fun y S2 => match dr S2 u, y with
    | some (.dct l), .v y => putO false (fGet (.dct l) y .non) S2
    | _, _ => .no
  | _ => .no := rfl
@[simp] theorem dDct_ap (own : Bool) (ps : List (DE × DE)) (e : Env') (S : Store) : dDct own ps e S = (dPrs ps e S).bindX fun l S1 => (Out.nd (mrgW [] l)).put own S1 := rfl
@[simp] theorem dPrs_nil (e : Env') (S : Store) : dPrs [] e S = .ok [] S := rfl
@[simp] theorem dPrs_cons (k v : DE) (r : List (DE × DE)) (e : Env') (S : Store) : dPrs ((k, v) :: r) e S = (k e S).bindX fun u S1 => (v e S1).bindX fun z S2 => match u, z with
    | .v a, .v b => if isKey a = true then (dPrs r e S2).bindX fun l S3 => .ok ((a, b) :: l) S3 else .no
    | _, _ => .no := rfl
@[simp] theorem dLoopU_nil (i : Nat) (body : DS) (e : Env') (S : Store) : dLoopU i body [] e S = .ok (.nx e) S := rfl
theorem dLoopU_cons (i : Nat) (body : DS) (u : U) (r : List U) (e : Env') (S : Store) : dLoopU i body (u :: r) e S = match body (e.set i (some u)) S with
    | .ok (.nx e2) S2 => dLoopU i body r e2 S2
    | .ok (.ct e2) S2 => dLoopU i body r e2 S2
    | .ok (.bk e2) S2 => .ok (.nx e2) S2
    | r => r := rfl
@[simp] theorem tgL_ap (n : Nat) (r : List W → Env' → Option Env') (ws : List W) (e : Env') : tgL n r (.lst ws) e = if ws.length = n then r ws e else none := rfl
@[simp] theorem fAddI_int (i j : Int) : fAddI (.int i) (.int j) = some (.val (.int (i + j))) := rfl
@[simp] theorem fDict_dct (l : List (W × W)) : fDict [.dct l] = some (.nd l) := rfl
@[simp] theorem fStr_str (x : List Nat) : fStr [.str x] = some (.val (.str x)) := rfl
@[simp] theorem fIntW_bl (b : Bool) : fIntW [.bl b] = some (.val (.int (b2n b))) := rfl
@[simp] theorem fIntW_int (i : Int) : fIntW [.int i] = some (.val (.int i)) := rfl
@[simp] theorem isKey_str (x : List Nat) : isKey (.str x) = true := rfl
@[simp] theorem fGet_str (l : List (W × W)) (x : List Nat) (w : W) : fGet (.dct l) (.str x) w = some (.val ((lookD (.str x) l).getD w)) := rfl
end Bel

/-! The engine, part La: a lambda without parameters, made and tried. -/
namespace Bel
open PySem PySem.Spec PyProof.Rows L2 LamX
section
variable {F : Fx} {H : Hp} {ι : List Addr} {S : Store} {B : Addr → Prop}
/-- an own table grows -/
theorem RS.tblW (R : RS F ι S B H) {n : Nat} {x q : Str} {P : Addr} {ps ps' : Array Value} (h : S[n]? = some (.tbl x q)) (ha : ι[n]? = some P) (hP : H P = some (.tbl ps)) (ht : TriplesOk ps'.toList)
    (hc : ∀ (pos : Pos) (cv : Value), codeAmong pos ps'.toList = some cv → ∃ c, cv = .ref c ∧ H c = some (CodeO c q) ∧ ¬ Oq ι S B c) : RS F ι S B (upd H P (.tbl ps')) ∧ Go ι S H ι S (upd H P (.tbl ps')) := by
  have oa : Ow ι S P := ⟨n, _, h, by simp, ha⟩
  have G : Go ι S H ι S (upd H P (.tbl ps')) := ⟨fun y z hz nz => by rw [upd_ne (fun e => nz (by rw [e]; exact oa))]; exact hz, fun _ z => .inl z, [], by simp⟩
  refine ⟨⟨R.len, R.nd, fun m o b h1 h2 => ?_, fun b hb => ?_⟩, G⟩
  · by_cases hm : n = m
    · subst hm
      rw [ha] at h2
      cases h2
      rw [h] at h1
      cases h1
      obtain ⟨z1, _⟩ := show TblR F H (Oq ι S B) P x q from R.ob n _ P h ha
      refine ⟨z1, ps', upd_same, ht, fun pos cv hv => ?_⟩
      obtain ⟨c, e1, e2, e3⟩ := hc pos cv hv
      exact ⟨c, e1, by rw [upd_ne (fun e => e3 (.inl (by rw [e]; exact oa)))]; exact e2, e3⟩
    · have hne : b ≠ P := by
        rintro rfl
        obtain ⟨h4, h5⟩ := List.getElem?_eq_some_iff.mp ha
        obtain ⟨h6, h7⟩ := List.getElem?_eq_some_iff.mp h2
        exact hm ((List.getElem_inj R.nd).mp (h5.trans h7.symm))
      have z := R.ob m o b h1 h2
      cases o with
      | lst ws => obtain ⟨vs, e, r⟩ := z; exact ⟨vs, by rw [upd_ne hne]; exact e, r.go G⟩
      | dct ws => obtain ⟨vs, e, r⟩ := z; exact ⟨vs, by rw [upd_ne hne]; exact e, r.go G⟩
      | scr ws => obtain ⟨vs, y, e, d, r⟩ := z; exact ⟨vs, y, by rw [upd_ne hne]; exact e, d.imp (fun d => by rw [upd_ne hne]; exact d) fun ⟨o, d⟩ => ⟨o, by rw [upd_ne hne]; exact d⟩, r.go G⟩
      | tbl x q => exact TblR.ext z G.extq G.ownq fun _ e => by rw [upd_ne hne]; exact e
      | dead => obtain ⟨y, e⟩ := z; exact ⟨y, by rw [upd_ne hne]; exact e⟩
  · obtain ⟨⟨y, e⟩, nb⟩ := R.hid b hb
    exact ⟨⟨y, by rw [upd_ne (fun z => nb (by rw [z]; exact List.mem_of_getElem? ha))]; exact e⟩, nb⟩
end
/-- the maker: its code object, its table -/
def TbM (K : PySem.W.Frag) (mg : Str → Option Value) (base : Heap) (x : Str) : Prop := TabB base mg (He.cT K (x, none)).1 (He.cT K (x, none)).2
section
variable {X : Cx} {pins : List (Addr × Obj)} {σ : L2.St} {H : Hp} {s : Shared} {ec : Nat → Value} {ι : List Addr} {S : Store} {B : Addr → Prop}
/-- lambda: body, made -/
theorem lam_new {n : Nat} {x q : Str} {params : Arguments} {body : Expr} {scope : Scope} {pos : Pos} {E : Value → Shared → Prop} {Q : Value → Shared → Prop} (I : Inv X pins σ H s) (R : RS (fx ec X) ι S B H) (hS : S[n]? = some (.tbl x q))
    (TB : TbM X.K X.mg X.base x) (hcode : X.env.code = .ref (He.cT X.K (x, none)).1) (hq : X.env.qual ++ "<lambda>" = q) (hdef : defaultsOf params X.env = ([], [])) (hfree : ∀ y ∈ scope.names, y.2 = .free → ∃ c, X.env.cells.lookup y.1 = some c)
    (h : ∀ (f c' : Addr) (pm ctv : Value) (H1 : Hp) (s' : Shared), Inv X pins σ H1 s' → Go ι S H ι S H1 → RS (fx ec X) ι S B H1 →
      s'.heap.get? f = some (PySem.W.kla_obj "<lambda>" q params body scope (cloFrom X.env.cells scope.names []) pm c' ctv) → H1 f = none → f ∉ frs X.stack → H1 c' = some (CodeO c' q) → Q (.ref f) s') :
    wpAny (model X.prog X.w) X.A (eval (.Lambda params body scope pos) X.env) Q E s := by
  subst hq
  generalize hc : (He.cT X.K (x, none)).1 = c at *
  have hn : n < ι.length := by rw [R.len]; exact (List.getElem?_eq_some_iff.mp hS).1
  have ha : ι[n]? = some ι[n] := List.getElem?_eq_getElem hn
  generalize ι[n] = P at ha
  obtain ⟨z1, ps, hP, ht, hcs⟩ := show TblR (fx ec X) H (Oq ι S B) P x _ from R.ob n _ P hS ha
  have TB' : TabB X.base X.mg c P := by rw [z1, ← hc]; exact TB
  have fresh : ∀ f, s.heap.objs.size ≤ f → H f = none ∧ f ∉ frs X.stack := fun f hf => ⟨I.hok.fresh hf, fun z => by
    rcases List.mem_cons.mp (I.stkSub _ z) with e | e
    · have h1 := I.lt
      rw [← e] at h1
      exact Nat.lt_irrefl _ (Nat.lt_of_lt_of_le h1 hf)
    · exact I.nofs hf e⟩
  have hP' : s.heap.get? P = some { cls := .none, data := .fields ps } := I.hok P _ hP
  refine PySem.W.kla_eval hdef ?_
  cases hit : codeAmong pos ps.toList with
  | some cv =>
    obtain ⟨c', rfl, co, no⟩ := hcs pos cv hit
    refine PySem.W.kla_makeFunctionHit (mg := X.mg) (c := c) (P := P) (ps := ps) (closure_ok hfree) I.ok.glob (I.mod.glob.keeps I.bk) hcode (TB'.code.keeps I.bk) hP' ht hit (TB'.bm.keeps I.bk) fun ctv h' tk old big => ?_
    obtain ⟨f1, f2⟩ := fresh _ big
    exact h h'.objs.size c' ((X.mg "__name__").getD .none) ctv H _ (I.kept fun b o e => Heap.get?_push_of_some _ (old b o e)) .refl R (Heap.get?_push_size _ rfl) f1 f2 co
  | none =>
    refine PySem.W.kla_makeFunction (mg := X.mg) (c := c) (P := P) (ps := ps) (closure_ok hfree) I.ok.glob (I.mod.glob.keeps I.bk) hcode (TB'.code.keeps I.bk) hP' ht hit TB'.gP (TB'.bm.keeps I.bk) fun c' ctv h' tk old big small rec grown => ?_
    obtain ⟨c2, oc, vs, t, e2, hoc, hd, hv⟩ := rec
    cases e2
    have cN : H c' = none := (fresh c' big).1
    have PC : P ≠ c' := ne_of_none hP cN
    have I1 := inv_table (t' := tk) (more := #[rawInt pos.line, rawInt pos.col, .ref c']) (h' := h'.push (PySem.W.kla_obj "<lambda>" (X.env.qual ++ "<lambda>") params body scope (cloFrom X.env.cells scope.names []) ((X.mg "__name__").getD .none) c' ctv)) I hP
      (fun b o hb e => Heap.get?_push_of_some _ (old b o hb e)) (Heap.get?_push_of_some _ grown) big ⟨oc, vs, t, Heap.get?_push_of_some _ hoc, hd, hv⟩
    obtain ⟨R1, G1, n1⟩ := R.fresh (CodeO c' (X.env.qual ++ "<lambda>")) cN
    have eL : (ps ++ #[rawInt pos.line, rawInt pos.col, .ref c']).toList = ps.toList ++ [rawInt pos.line, rawInt pos.col, .ref c'] := by simp
    obtain ⟨R2, G2⟩ := R1.tblW (ps' := ps ++ #[rawInt pos.line, rawInt pos.col, .ref c']) hS ha (by rw [upd_ne PC]; exact hP) (by rw [eL]; exact PySem.TriplesOk_snoc _ _ _ _ ht) (fun p cv hv => by
      rw [eL] at hv
      rcases among_app _ ht hv with z | rfl
      · obtain ⟨c0, e1, e2, e3⟩ := hcs p cv z
        exact ⟨c0, e1, by rw [upd_ne (ne_of_none e2 cN)]; exact e2, e3⟩
      · exact ⟨c', rfl, upd_same, n1⟩)
    have eH : upd (upd H c' (CodeO c' (X.env.qual ++ "<lambda>"))) P (.tbl (ps ++ #[rawInt pos.line, rawInt pos.col, .ref c'])) = upd (upd H P (.tbl (ps ++ #[rawInt pos.line, rawInt pos.col, .ref c']))) c' (CodeO c' (X.env.qual ++ "<lambda>")) := by
      funext b
      by_cases b1 : b = P
      · rw [b1, upd_same, upd_ne PC, upd_same]
      · by_cases b2 : b = c'
        · rw [b2, upd_ne (Ne.symm PC), upd_same, upd_same]
        · rw [upd_ne b1, upd_ne b2, upd_ne b2, upd_ne b1]
    rw [eH] at R2 G2
    have up : s.heap.objs.size ≤ h'.objs.size := by omega
    obtain ⟨f1, f2⟩ := fresh _ up
    refine h h'.objs.size c' ((X.mg "__name__").getD .none) ctv _ _ I1 (G1.trans G2) R2 (Heap.get?_push_size _ rfl) ?_ f2 upd_same
    rw [upd_ne (Nat.ne_of_gt small), upd_ne (fun z => ne_of_none hP f1 z.symm)]
    exact f1
end
end Bel

/-! The engine, part Lb: what was made, called. -/
namespace Bel
open PySem PySem.Spec PyProof.Rows L2 LamX
/-- what the inner body asks, at the maker's frame -/
def InR (F : Fx) (W : XK) (d : DE) (σ : L2.St) (H : Hp) (Q : VK) : Prop := ∃ (env : Env') (S : Store) (ι : List Addr) (B : Addr → Prop), RS F ι S B H ∧ ER F H ι S B env σ ∧ PoE F (fun cls d _ H => W cls d H) σ ι S B H (d env S) Q
section
variable {X : Cx} {pins : List (Addr × Obj)} {σ : L2.St} {H HZ : Hp} {s s1 : Shared} {ec : Nat → Value} {d : DE} {k : Nat} {q : Str} {params : Arguments} {body : Expr} {scope : Scope} {pm ctv : Value} {f c' : Addr}
theorem lam_run {A : Around} {outer : List Env} {E : XK} {Q : VK} (I : Inv X pins σ H s) (L : LamS X.env.scope scope) (hq : X.env.qual ++ "<lambda>" = q) (e0 : Env0 X.prog X.w X.K X.mg X.base A outer s1 HZ) (un : Un (frs X.stack) [] H HZ s.heap s1.heap)
    (of1 : s1.heap.get? f = some (PySem.W.kla_obj "<lambda>" q params body scope (cloFrom X.env.cells scope.names []) pm c' ctv)) (hc : HZ c' = some (CodeO c' q))
    (hbind : bindArgs (PySem.W.kla_fn "<lambda>" q params body scope (cloFrom X.env.cells scope.names []) pm (.ref c') ctv) ⟨[], []⟩ = pure []) (hr : RoomG (k + 1) A)
    (hbody : ∀ (A : Around) (outer : List Env) (s : Shared) (H : Hp) (E : XK), RoomG k (A.deeper (lamEnv X scope s.heap.objs.size f c')) → PEv ec (lamCx X A outer s H E scope f c') body d)
    (h : InR (fx ec X) E d σ HZ Q) : codeAny (model X.prog X.w) A (.call (.ref f) ⟨[], []⟩) (CR (L2.CX X.prog X.w) outer X.prog X.w HZ s1 Q E) s1 := by
  subst hq
  obtain ⟨⟨oc, vs, t, g1, g2, g3⟩, _, _⟩ := e0.hok c' _ hc
  refine PySem.W.kla_callFunE hr.r.depth of1 rfl L.co L.gen rfl ⟨c', oc, vs, t, rfl, g1, g2, g3⟩ ?_
  rw [hbind]
  have lim : s1.heap.NoLimit := e0.mod.nolimit.keeps fun b o e => (e0.bs b o e).1
  refine wpAny_pure (wpAny_newFunctionEnv (fun y hy => (L.own y hy).2) (fun y hy => absurd hy List.not_mem_nil) (fun h₁ hns hsb => ⟨lim.fresh _ hsb, ?_⟩) L.kind)
  have kp : ∀ b o, s1.heap.get? b = some o → h₁.get? b = some o := fun b o e => hsb.extBut b o (Nat.ne_of_lt (Heap.lt_size e)) (Heap.get?_push_of_some _ e)
  have J : Inv (lamCx X A outer s1 HZ E scope f c') [] σ HZ { s1 with heap := h₁, toks := s1.toks + ([] : List (Str × Value)).length } := lam_start2 I L e0 hr.r.hd un hns kp
  have tk : Takes (lamCx X A outer s1 HZ E scope f c') (fun cls d _ H => E cls d H) := takes_of rfl rfl rfl rfl
  refine PySem.W.kla_codeExpr (wpAny_mono (((hbody A outer s1 HZ E hr.down).run [] (lamCx X A outer s1 HZ E scope f c').xe _ tk).run [] _ σ HZ Q J h) ?_ fun _ _ z => z)
  rintro v s2 ⟨w2, H2, J2, rv, q2⟩
  exact ⟨w2, H2, J2.os, J2.bare, J2.base, J2.hok, rv, q2⟩
/-- a(), in the def that was handed the lambda: entered at s from the maker's frame -/
theorem lam_call {Eg : XK} {Ng : List Str} {qg : Str} {sg : Scope} {g : Addr} {cdg : Value} {a : Str} {pn : List (Addr × Obj)} {xe : Value → Shared → Prop} {Wx : WX} {p1 p2 : Pos} {i : Nat}
    (I : Inv X pins σ H s) (L : LamS X.env.scope scope) (hq : X.env.qual ++ "<lambda>" = q) (hf : s.heap.get? f = some (PySem.W.kla_obj "<lambda>" q params body scope (cloFrom X.env.cells scope.names []) pm c' ctv)) (hn : H f = none) (hfr : f ∉ frs X.stack)
    (hbind : bindArgs (PySem.W.kla_fn "<lambda>" q params body scope (cloFrom X.env.cells scope.names []) pm (.ref c') ctv) ⟨[], []⟩ = pure []) (hr : RoomG (k + 1) (X.A.deeper (envOfC qg sg s.heap.objs.size g cdg)))
    (hbody : ∀ (A : Around) (outer : List Env) (s : Shared) (H : Hp) (E : XK), RoomG k (A.deeper (lamEnv X scope s.heap.objs.size f c')) → PEv ec (lamCx X A outer s H E scope f c') body d)
    (tk : Takes ((cxOf (L2.CX X.prog X.w) X.prog X.w X.K X.mg X.base Ng qg sg g cdg X.A X.stack s H Eg).tr pn xe) Wx) (hN : Ng[i]? = some a) (hv : Vis sg a) (hd : (a == ("__debug__" : Str)) = false := by decide) (hcd : (a == ("__classdict__" : Str)) = false := by decide) :
    PE ((cxOf (L2.CX X.prog X.w) X.prog X.w X.K X.mg X.base Ng qg sg g cdg X.A X.stack s H Eg).tr pn xe) (.Call (.Name a p1) [] [] p2)
      (fun σZ HZ Q => σZ[i]? = some (some (.ref f)) ∧ HZ c' = some (CodeO c' q) ∧ InR (fx ec X) (WE Wx σZ) d σ HZ Q) := by
  refine ⟨fun pinsZ sZ σZ HZ Q IZ h => ?_⟩
  obtain ⟨h1, h2, h3⟩ := h
  refine wpAny_Call_Name_kw (thn ((pe_var (pos := p1) (i := i) hN hv hd hcd).run pinsZ sZ σZ HZ (fun v H1 => v = .ref f ∧ H1 = HZ) IZ ⟨.ref f, h1, rfl, rfl⟩) ?_)
  rintro u s1 ⟨v, H1, I1, r1, rfl, rfl⟩
  obtain rfl : u = Value.ref f := r1
  have un : Un (frs X.stack) [] H H1 s.heap s1.heap := I1.base
  have of1 := un.keep f _ hf hn hfr (fun z => absurd (show f ∈ ([] : List Addr) from z) List.not_mem_nil)
  refine PySem.W.callWith_F0 ⟨_, _, _, _, of1⟩ (wpAny_call (codeAny_mono (lam_run (X := X) (A := X.A.deeper (envOfC qg sg s.heap.objs.size g cdg)) (outer := envOfC qg sg s.heap.objs.size g cdg :: X.stack) (E := WE Wx σZ) (Q := Q) I L hq I1.env0 un of1 h2 hbind hr hbody h3) ?_))
  intro r s2 hq2
  match r, hq2 with
  | .error e, hq2 => exact passAt tk σZ pinsZ H1 s1 e s2 I1 hq2
  | .ok (.ret u), hq2 => exact I1.after hq2
  | .ok .next, hq2 => cases hq2
  | .ok .brk, hq2 => cases hq2
  | .ok .cont, hq2 => cases hq2
end
end Bel

/-! The engine, part Lc: tried(lambda: body). -/
namespace Bel
open PySem PySem.Spec PyProof.Rows L2 LamX
def trd : Rs → Re U
  | .ok (.rt u) S => .ok u S
  | _ => .no
/-- tried(lambda: d), made in the def x at the table n; ret: what tried returns at the end -/
def dTried (n : Nat) (x q : Str) (ret : DS) (d : DE) : DE := fun e S => match S[n]? with
  | some (.tbl x' q') => if x' = x ∧ q' = q then (match d e S with
    | .ok u S1 => trd (ret [none, some u, some (.v .non), none] S1)
    | .ex c S1 => trd (ret [none, some (.v .non), some (.v (.exc c)), none] S1)
    | .no => .no) else .no
  | _ => .no
section
variable {X : Cx} {ret : DS} {d : DE} {k n : Nat} {mk q x qual : Str} {params lparams : Arguments} {body : Expr} {scope sg : Scope} {p lpos pos : Pos} {a fo ca er : Str} {p1 p2 p3 p4 p5 p6 p7 p8 p9 p10 p11 p12 p13 p14 lpos' pos' : Pos} {j1 j2 : Nat} {st4 : Stmt} {fa : List He.Fa} {fn : List He.DefD} {kc : List Con'}
theorem er_tried {F : Fx} {H : Hp} {ι : List Addr} {S : Store} {B : Addr → Prop} {u1 u2 : U} {v0 v1 v2 : V} {o : Option V} (r1 : RU F H ι S B u1 v1) (r2 : RU F H ι S B u2 v2) : ER F H ι S B [none, some u1, some u2, none] [some v0, some v1, some v2, o] :=
  ⟨rfl, fun i u h => by
    match i with
    | 0 => simp at h
    | 1 => simp at h; subst h; exact ⟨v1, rfl, r1⟩
    | 2 => simp at h; subst h; exact ⟨v2, rfl, r2⟩
    | 3 => simp at h
    | i + 4 => simp at h⟩
theorem ev_tried {ec : Nat → Value} (hec : ec = ecG X.K) (Z : Hd X.K X.mg fa fn kc) (G : Errs X.K X.mg) (i j : Nat) (hfn : fn[i]? = some ⟨(x, none), x, qual, params, [.Assign [.Name fo p1] (.Constant .none j1 p2) p3, .Assign [.Name ca p4] (.Constant .none j2 p5) p6,
      .Try [.Assign [.Name fo p7] (.Call (.Name a p8) [] [] p9) p10] [.ExceptHandler (some (.Name "YardError" p11)) (some er) [.Assign [.Name ca p12] (.Name er p13) p14] lpos'] [] [] pos', st4], sg, [], []⟩)
    (hfa : fa[j]? = some (.glo x)) (Sg : FnScope [a, fo, ca, er] [a] sg) (hr : RoomG (k + 2) X.A) (hg : Gl X x)
    (hbi : ∀ (kV doc pm : Value) (an : Option Addr) (cdv ct : Value) (us : List Value), us.length = [a].length → bindArgs (PySem.W.fnOf x qual params [.Assign [.Name fo p1] (.Constant .none j1 p2) p3, .Assign [.Name ca p4] (.Constant .none j2 p5) p6,
      .Try [.Assign [.Name fo p7] (.Call (.Name a p8) [] [] p9) p10] [.ExceptHandler (some (.Name "YardError" p11)) (some er) [.Assign [.Name ca p12] (.Name er p13) p14] lpos'] [] [] pos', st4] sg .none kV doc pm an cdv ct) ⟨us, []⟩ = pure ([a].zip us))
    (TB : TbM X.K X.mg X.base mk) (hcode : X.env.code = .ref (He.cT X.K (mk, none)).1) (hq : X.env.qual ++ "<lambda>" = q) (L : LamS X.env.scope scope) (hdef : defaultsOf lparams X.env = ([], []))
    (hbind : ∀ (q : Str) (cl : List (Str × Addr)) (pm cv ctv : Value), bindArgs (PySem.W.kla_fn "<lambda>" q lparams body scope cl pm cv ctv) ⟨[], []⟩ = pure [])
    (hbody : ∀ (A : Around) (outer : List Env) (s : Shared) (H : Hp) (E : XK) (f c' : Addr), RoomG k (A.deeper (lamEnv X scope s.heap.objs.size f c')) → PEv ec (lamCx X A outer s H E scope f c') body d)
    (hret : ∀ (g : Addr) (cdv : Value) (A : Around) (fs : List Env) (s : Shared) (H : Hp) (E : XK), RoomG (k + 1) (A.deeper (envOfC qual sg s.heap.objs.size g cdv)) → PSv ec (cxOf (L2.CX X.prog X.w) X.prog X.w X.K X.mg X.base [a, fo, ca, er] qual sg g cdv A fs s H E) st4 ret)
    (l1 : Loc sg fo) (l2 : Loc sg ca) (lf1 : sg.names.lookup fo = some .local) (lf2 : sg.names.lookup ca = some .local) (l3 : sg.names.lookup er = some .local) (va : Vis sg a) (gY : sg.names.lookup ("YardError" : Str) = some NameKind.globalImplicit)
    (hdb : (x == ("__debug__" : Str)) = false := by decide) (d1 : (a == ("__debug__" : Str)) = false := by decide) (d2 : (a == ("__classdict__" : Str)) = false := by decide) (d3 : (er == ("__debug__" : Str)) = false := by decide) (d4 : (er == ("__classdict__" : Str)) = false := by decide) :
    PEv ec X (.Call (.Name x p) [.Lambda lparams body scope lpos] [] pos) (dTried n mk q ret d) := by
  subst hec
  obtain ⟨fd, Fn⟩ := Z.says.def_ i hfn
  have hm := Z.gl x (Z.says.fact j hfa)
  have hb := Fn.bindsN hbi
  have hk := Fn.kp
  obtain ⟨oc, od, dV, kV, doc, pmv, an, cdv, ct, osl, rfl, lk, hcd, _, _⟩ := Fn.ex
  refine ⟨fun pn xe Wx tk => ⟨fun pins s σ H Q I h => ?_⟩⟩
  obtain ⟨env, S, ι, B, R, E, h⟩ := h
  unfold dTried at h
  split at h
  rotate_left
  · exact h.elim
  rename_i x' q' hS
  split at h
  rotate_left
  · exact h.elim
  rename_i hxq
  obtain ⟨rfl, rfl⟩ := hxq
  refine wpAny_Call_Name_kw (ld_glob (X := X.tr pn xe) I hg hm ?_ hdb)
  refine PySem.W.callWith_K (h₀ := X.base) I.ok.mod.kin hk ?_ (by rfl) (by rfl)
  show wpAny _ _ (spliced ((false, eval (.Lambda lparams body scope lpos) X.env) :: backTo pos (starEach [] X.env))) _ _ s
  refine Calls.spliced_cons (lam_new (X := X.tr pn xe) (ec := ecG X.K) I R hS TB hcode hq hdef (LamS.has (X := X.tr pn xe) L I.ok) fun f c' pm' ctv H1 s' I1 G1 R1 hf hfn hfr hco => ?_)
  refine Calls.spliced_nil ⟨I1.kIn, ?_⟩
  have E1 := E.go G1
  let E0 : XK := fun _ _ _ => False
  have rc : codeAny (model X.prog X.w) X.A (.call (.ref (He.ga X.K x)) ⟨[.ref f], []⟩) (CR (L2.CX X.prog X.w) X.stack X.prog X.w H1 s' Q E0) s' := by
    refine run_ofS (N := [a, fo, ca, er]) (ps := [a]) (us := [.ref f]) (vs := [.ref f]) lk hcd Sg (hr.r.mono (Nat.le_refl _)) I1.env0 (hb s' [.ref f] I1.kIn rfl) (.cons rfl .nil) rfl fun hr' => ?_
    have hr2 : RoomG (k + 1) (X.A.deeper (envOfC qual sg s'.heap.objs.size (He.ga X.K x) cdv)) := ⟨hr', hr.g⟩
    let Zc := cxOf (L2.CX X.prog X.w) X.prog X.w X.K X.mg X.base [a, fo, ca, er] qual sg (He.ga X.K x) cdv X.A X.stack s' H1 E0
    let Wo : WX := fun cls d _ H => E0 cls d H
    have tk0 : Takes Zc Wo := takes_of rfl rfl rfl rfl
    have po0 : PassesOwn (model Zc.prog Zc.w) Zc.A Zc.env Zc.xe := passes_of rfl
    have s1 : PS Zc (.Assign [.Name fo p1] (.Constant .none j1 p2) p3) _ := ps_set (i := 1) Sg.nd rfl l1 pe_non rfl (.inr lf1)
    have s2 : PS Zc (.Assign [.Name ca p4] (.Constant .none j2 p5) p6) _ := ps_set (i := 2) Sg.nd rfl l2 pe_non rfl (.inr lf2)
    have s3 := ps_try_keep (X := Zc) (i := 3) (j := 2) (n := er) (m := ca) (np := p11) (pm := p12) (pn' := p13) (pa := p14) (pos := pos') (pos' := lpos') (c := .ref (He.ga X.K "YardError")) (x := "YardError") (Wo := Wo)
      (tb := fun W D σZ HZ => σZ[0]? = some (some (.ref f)) ∧ HZ c' = some (CodeO c' _) ∧ InR (fx (ecG X.K) X) (WE W σZ) d σ HZ (fun v H' => D.nx (σZ.set 1 (some v)) H'))
      (body := [.Assign [.Name fo p7] (.Call (.Name a p8) [] [] p9) p10]) rfl rfl Sg.nd rfl l3 rfl lf2 (by decide) ⟨gY, by decide, .inl (G.at_ "YardError" (by decide +kernel)).1⟩ tk0
      (fun W pn2 xe2 tk2 po2 => pss_one (ps_set (X := Zc.tr pn2 xe2) (i := 1) Sg.nd rfl l1 (lam_call (X := X.tr pn xe) (i := 0) (ec := ecG X.K) I1 L hq hf hfn hfr (hbind _ _ _ _ _) hr2 (fun A outer s H E r => hbody A outer s H E f c' r) tk2 rfl va d1 d2) rfl (.inr lf1))) rfl d3 d4
    have s4 := (hret (He.ga X.K x) cdv X.A X.stack s' H1 E0 hr2).run Zc.pn Zc.xe Wo tk0 po0
    refine ⟨_, pss_cons s1 (pss_cons s2 (pss_cons s3 (pss_one s4))), ?_⟩
    let D0 : Ends := { nx := fun _ H' => Q .non H', rt := Q }
    -- from where tried's last row stands
    have last : ∀ {S1 : Store} {ι1 : List Addr} {H2 : Hp} {u1 u2 : U} {v1 v2 : V} {o : Option V}, Go ι S H ι1 S1 H2 → RS (fx (ecG X.K) X) ι1 S1 B H2 → RU (fx (ecG X.K) X) H2 ι1 S1 B u1 v1 → RU (fx (ecG X.K) X) H2 ι1 S1 B u2 v2 →
        PoE (fx (ecG X.K) X) Wx σ ι S B H (trd (ret [none, some u1, some u2, none] S1)) Q → LS (fx (ecG X.K) Zc) Wo ret D0 [some (.ref f), some v1, some v2, none] H2 := by
      intro S1 ι1 H2 u1 u2 v1 v2 o G2 R2 r1 r2 h2
      refine ⟨_, S1, ι1, B, R2, er_tried (u1 := u1) (u2 := u2) r1 r2, ?_⟩
      cases e : ret [none, some u1, some u2, none] S1 with
      | no => rw [e] at h2; exact h2.elim
      | ex c e1 S2 => rw [e] at h2; exact h2.elim
      | ok fl S2 =>
        rw [e] at h2
        cases fl with
        | rt u => exact fun v H3 ι3 G3 R3 r3 => h2 v H3 ι3 (G2.trans G3) R3 r3
        | nx e1 => exact h2.elim
        | bk e1 => exact h2.elim
        | ct e1 => exact h2.elim
    show _ ∧ _ ∧ _
    refine ⟨rfl, hco, env, S, ι, B, R1, E1, ?_⟩
    cases e : d env S with
    | no => rw [e] at h; exact h.elim
    | ok u S1 =>
      rw [e] at h
      exact fun v H2 ι2 G2 R2 r2 => last (u2 := .v .non) (o := none) (G1.trans G2) R2 r2 Rp.non h
    | ex c S1 =>
      rw [e] at h
      intro H2 ι2 G2 R2
      refine ⟨true, (G.at_ (ern c) (ern_mem c)).2.2.2.1, fun _ => ⟨rfl, fun b hb2 => ?_⟩, fun z => nomatch z⟩
      obtain ⟨R3, G3, n3⟩ := R2.fresh (ExV (ecG X.K c) b) hb2
      exact last (u1 := .v .non) (u2 := .v (.exc c)) (o := none) ((G1.trans G2).trans G3) R3 Rp.non (Rp.exc upd_same n3) h
  refine wpAny_call (codeAny_mono rc ?_)
  intro r s2 hq2
  match r, hq2 with
  | .error e, hq2 => 
    obtain ⟨_, _, _, _, _, _, _, _, _, _, _, _, z⟩ := hq2
    exact z.elim
  | .ok (.ret u), hq2 => exact I1.after hq2
  | .ok .next, hq2 => cases hq2
  | .ok .brk, hq2 => cases hq2
  | .ok .cont, hq2 => cases hq2
end
end Bel

/-! The engine, part Ld: defs that make inner code; a law's end with their tables. -/
namespace Bel
open PySem PySem.Spec PyProof.Rows L2 LamX
/-- the defs that make a lambda: all tables known -/
def TBs (K : PySem.W.Frag) (mg : Str → Option Value) (base : Heap) (tf : List Str) : Prop := ∀ x ∈ tf, TbM K mg base x
def tq (x : Str) : Str := x ++ ".<locals>." ++ "<lambda>"
section
variable {P : Program} {w : World} {K : PySem.W.Frag} {mg : Str → Option Value} {base : Heap} {ec : Nat → Value}
theorem defGc {x qual : Str} {params : Arguments} {body : List Stmt} {scope : Scope} {dvs : List V} {kws : List (Str × V)} {f : Addr} {fd : FuncData} {N ps : List Str} {k n nl : Nat} {d : DS} (Fn : FunD K x qual params body scope dvs kws f fd) (hf : f = He.fAd K (x, none)) (Sc : FnScope N ps scope) (hn : ps.length = n) (hnl : N.length = nl)
    (hb : ∀ (cdv : Value) (A : Around) (fs : List Env) (s : Shared) (H : Hp) (E : XK), cdv = .ref (He.cT K (x, none)).1 → RoomG k (A.deeper (envOfC qual scope s.heap.objs.size f cdv)) →
      PSsv ec (cxOf (L2.CX P w) P w K mg base N qual scope f cdv A fs s H E) body d) : FnG P w K mg base (k + 1) f fd ps (spD ⟨K, w, ec⟩ (fnD nl d) n) := by
  subst hn hnl
  refine ⟨spD_len, fun A fs s H as us xs Q E r e0 bi rv h => ?_⟩
  obtain ⟨oc, od, dV, kV, doc, pm, an, cdv, ct, osl, rfl, lk, hcd, _, _⟩ := Fn.ex
  have hc : cdv = .ref (He.cT K (x, none)).1 := by
    obtain ⟨c, rfl⟩ := He.codeIn_ref hcd
    rw [hf] at lk
    have z := He.codeOf_eq (p := (x, none)) lk (c := c) rfl
    show Value.ref c = .ref (He.codeOf K (x, none))
    rw [z]
  refine run_ofS (CX := L2.CX P w) lk hcd Sc r.r e0 bi rv (spD_len _ _ _ _ h) fun _ => ?_
  refine ⟨LS ⟨K, w, ec⟩ (fun cls d _ H => E cls d H) d, (hb cdv A fs s H E hc r.down).run [] _ _ (takes_of rfl rfl rfl rfl) (passes_of rfl), ?_⟩
  obtain ⟨us, St, ι, B, R, rr, hl, h⟩ := h
  refine ⟨_, St, ι, B, R, rr.begin_ N, ?_⟩
  unfold fnD at h
  cases e : d (us.map some ++ List.replicate (N.length - us.length) none) St with
  | no => rw [e] at h; exact h
  | ex c e1 S1 =>
    rw [e] at h
    intro σ' H' ι' G R' E'
    obtain ⟨R2, G2⟩ := cut_go R R' G
    exact h H' ι G2 R2
  | ok fl S1 =>
    rw [e] at h
    cases fl with
    | bk e1 => exact h.elim
    | ct e1 => exact h.elim
    | nx e1 =>
      intro σ' H' ι' G R' E'
      simp only at h
      cases e2 : fin St.length (.v .non) S1 with
      | ok u2 S2 =>
        rw [e2] at h
        obtain ⟨ι2, R2, G2, r2⟩ := fin_ok R R' G (u := .v .non) (v := .non) .non e2
        exact h _ H' ι2 G2 R2 r2
      | ex c S2 => cases e2
      | no => rw [e2] at h; exact h.elim
    | rt u =>
      intro v H' ι' G R' ru
      simp only at h
      cases e2 : fin St.length u S1 with
      | ok u2 S2 =>
        rw [e2] at h
        obtain ⟨ι2, R2, G2, r2⟩ := fin_ok R R' G ru e2
        exact h _ H' ι2 G2 R2 r2
      | ex c S2 =>
        unfold fin at e2
        split at e2
        · cases e2
        · split at e2
          · cases e2
          · split at e2 <;> cases e2
      | no => rw [e2] at h; exact h.elim
variable {fa : List He.Fa} {fn : List He.DefD} {kc : List Con'}
theorem Hd.defGc_ (Z : Hd K mg fa fn kc) (i j : Nat) {x qual : Str} {params : Arguments} {body : List Stmt} {scope : Scope} {N ps : List Str} {k n nl : Nat} {d : DS}
    (h : fn[i]? = some ⟨(x, none), x, qual, params, body, scope, [], []⟩) (hg : fa[j]? = some (.glo x)) (Sc : FnScope N ps scope) (hn : ps.length = n) (hnl : N.length = nl)
    (hbi : ∀ (kV doc pm : Value) (an : Option Addr) (cdv ct : Value) (us : List Value), us.length = ps.length → bindArgs (PySem.W.fnOf x qual params body scope .none kV doc pm an cdv ct) ⟨us, []⟩ = pure (ps.zip us))
    (hb : ∀ (f : Addr) (cdv : Value) (A : Around) (fs : List Env) (s : Shared) (H : Hp) (E : XK), cdv = .ref (He.cT K (x, none)).1 → RoomG k (A.deeper (envOfC qual scope s.heap.objs.size f cdv)) →
      PSsv ec (cxOf (L2.CX P w) P w K mg base N qual scope f cdv A fs s H E) body d) : HasG P w K mg base ec x (k + 1) n (fnD nl d) := by
  obtain ⟨fd, F⟩ := Z.says.def_ i h
  exact ⟨He.ga K x, fd, ps, defGc (P := P) (w := w) (mg := mg) (base := base) F rfl Sc hn hnl fun cdv A fs s H E hc hr => hb _ cdv A fs s H E hc hr, Z.gl x (Z.says.fact j hg), F.kp, F.bindsN hbi⟩
/-- the law's def, where tables are known -/
theorem Hd.lawGc_ (Z : Hd K mg fa fn kc) (i : Nat) {tf : List Str} {x y qual : Str} {params : Arguments} {body : List Stmt} {scope : Scope} {N : List Str} {k nl : Nat} {d : DS}
    (h : fn[i]? = some ⟨(x, none), x, qual, params, body, scope, [], []⟩) (Sc : FnScope N [y] scope) (hnl : N.length = nl)
    (hbi : ∀ (kV doc pm : Value) (an : Option Addr) (cdv ct : Value) (us : List Value), us.length = [y].length → bindArgs (PySem.W.fnOf x qual params body scope .none kV doc pm an cdv ct) ⟨us, []⟩ = pure ([y].zip us))
    (hb : ∀ (base : Heap) (f : Addr) (cdv : Value) (A : Around) (fs : List Env) (s : Shared) (H : Hp) (E : XK), TBs K mg base tf → cdv = .ref (He.cT K (x, none)).1 → RoomG k (A.deeper (envOfC qual scope s.heap.objs.size f cdv)) →
      PSsv ec (cxOf (L2.CX P w) P w K mg base N qual scope f cdv A fs s H E) body d) :
    ∃ fd, (∀ (s : Shared) (u : Value), BindsTo s fd ⟨[u], []⟩ [(y, u)]) ∧ ∀ base : Heap, TBs K mg base tf → FnG P w K mg base (k + 1) (He.ga K x) fd [y] (spD ⟨K, w, ec⟩ (fnD nl d) 1) := by
  obtain ⟨fd, F⟩ := Z.says.def_ i h
  exact ⟨fd, fun s u => F.bindsA hbi s [u] rfl, fun base TB => defGc (P := P) (w := w) (mg := mg) (base := base) F rfl Sc rfl hnl fun cdv A fs s H E hc hr => hb base _ cdv A fs s H E TB hc hr⟩
end
/-! ### the law's end -/
/-- the script and the empty tables are told -/
def tabH (b : Addr) (o : Obj) (ns : List Int) (Ps : List Addr) : Hp := fun c => if c = b then some (.frz o (.lst (ns.map V.int))) else if c ∈ Ps then some (.tbl #[]) else none
section
variable {b c : Addr} {o : Obj} {ns : List Int} {Ps : List Addr}
theorem tabH_at : tabH b o ns Ps b = some (.frz o (.lst (ns.map V.int))) := if_pos rfl
theorem tabH_tab (h : c ∈ Ps) (n : c ≠ b) : tabH b o ns Ps c = some (.tbl #[]) := (if_neg n).trans (if_pos h)
theorem tabH_out (n : c ≠ b) (h : c ∉ Ps) : tabH b o ns Ps c = none := (if_neg n).trans (if_neg h)
end
theorem law_spT {F : Fx} {df : DF} {tf : List Str} {b : Addr} {o : Obj} {ns : List Int} (nd : (tf.map fun x => (He.cT F.K (x, none)).2).Nodup) (nb : ∀ P ∈ tf.map fun x => (He.cT F.K (x, none)).2, P ≠ b)
    (h : ∃ S', df [.o 0] (.scr (ns.map W.int) :: tf.map fun x => .tbl x (tq x)) = .ok (.v (.bl true)) S') : spD F df 1 [.ref b] (tabH b o ns (tf.map fun x => (He.cT F.K (x, none)).2)) (fun v _ => v = .bl true) fun _ _ _ => False := by
  obtain ⟨S', h⟩ := h
  have rp : ∀ H O, RpL F H O (ns.map W.int) (ns.map V.int) := fun H O => by
    clear h
    induction ns with
    | nil => exact .nil
    | cons i r ih => exact .cons (.int i) ih
  refine ⟨[.o 0], .scr (ns.map W.int) :: tf.map fun x => .tbl x (tq x), b :: tf.map fun x => (He.cT F.K (x, none)).2, fun _ => False, ⟨by simp, List.nodup_cons.mpr ⟨fun z => nb _ z rfl, nd⟩, fun m ob a e1 e2 => ?_, fun _ z => z.elim⟩, .cons ⟨b, rfl, rfl⟩ .nil, rfl, ?_⟩
  · cases m with
    | zero =>
      simp at e1 e2
      subst e1 e2
      exact ⟨_, _, tabH_at, .inr ⟨o, tabH_at⟩, rp _ _⟩
    | succ m =>
      simp at e1 e2
      obtain ⟨x, h1, rfl⟩ := e1
      obtain ⟨x2, h2, rfl⟩ := e2
      rw [h1] at h2
      cases h2
      have hm : (He.cT F.K (x, none)).2 ∈ tf.map fun x => (He.cT F.K (x, none)).2 := List.mem_map.mpr ⟨x, List.mem_of_getElem? h1, rfl⟩
      exact ⟨rfl, #[], tabH_tab hm (nb _ hm), trivial, fun pos cv hc => by
        have z : codeAmong pos [] = some cv := hc
        simp [codeAmong] at z⟩
  · rw [h]
    intro v H' ι' G R r
    exact Rp.bl_inv r
theorem lawGT {P : Program} {w : World} {K : PySem.W.Frag} {mg mb : Str → Option Value} {k : Nat} {fa b : Addr} {fd : FuncData} {y : Str} {sp : Sp} {t : Shared} {its : List Value} {ns : List Int} {tf : List Str}
    (KX : K.In t.heap) (gm : t.heap.Ns mainGlobals mg) (gb : t.heap.Ns builtinsNs mb) (bb : ∀ x : Str, x ≠ "__name__" → mb x = bootBuiltins x) (nl : t.heap.NoLimit) (ng : t.gens = #[])
    (bmn : ∃ (bm : Addr) (ob : Obj), mg "__builtins__" = some (.ref bm) ∧ bm ≠ builtinsNs ∧ t.heap.get? bm = some ob ∧ ob.cls = .type "module" ∧ ob.dict = some builtinsNs ∧ ob.data = .plain)
    (hb : t.heap.get? b = some { cls := .type "list", data := .seq its.toArray }) (hi : IntsAre its ns) (hl : ns.length ≤ sizeLine) (hr : RoomG k callerA) (hno : ∀ o, K.lookup b = some o → False)
    (tc : ∀ x ∈ tf, PySem.W.codeHdIn K (He.cT K (x, none)).1 (He.cT K (x, none)).2 = true) (tn : ∀ x ∈ tf, K.lookup (He.cT K (x, none)).2 = none) (te : ∀ x ∈ tf, t.heap.get? (He.cT K (x, none)).2 = some { cls := .none, data := .fields #[] })
    (F : ∀ base : Heap, TBs K mg base tf → FnG P w K mg base k fa fd [y] sp) (bi : ∀ (s : Shared) (u : Value), BindsTo s fd ⟨[u], []⟩ [(y, u)])
    (hsp : ∀ o, (∀ P ∈ tf.map fun x => (He.cT K (x, none)).2, P ≠ b) → sp [.ref b] (tabH b o ns (tf.map fun x => (He.cT K (x, none)).2)) (fun v _ => v = .bl true) fun _ _ _ => False) :
    codeAny (model P w) callerA (.call (.ref fa) ⟨[.ref b], []⟩) (fun r s' => r = .ok (.ret (.bool true)) ∧ OldK t.heap s'.heap ∧ s'.os = t.os ∧ AllBare s'.gens) t := by
  let ob : Obj := { cls := .type "list", data := .seq its.toArray }
  let Ps : List Addr := tf.map fun x => (He.cT K (x, none)).2
  let H : Hp := tabH b ob ns Ps
  have isT : ∀ c ∈ Ps, t.heap.get? c = some { cls := .none, data := .fields #[] } ∧ K.lookup c = none := fun c hc => by
    obtain ⟨x, hx, rfl⟩ := List.mem_map.mp hc
    exact ⟨te x hx, tn x hx⟩
  have nT : ∀ c ∈ Ps, c ≠ b := fun c hc z => by
    have h1 := (isT c hc).1
    rw [z, hb] at h1
    cases h1
  have kind : ∀ {c : Addr} {u : HO}, H c = some u → (c = b ∧ u = .frz ob (.lst (ns.map V.int))) ∨ (c ∈ Ps ∧ u = .tbl #[]) := fun {c u} h => by
    by_cases e : c = b
    · subst e
      exact .inl ⟨rfl, (Option.some.inj (tabH_at.symm.trans h)).symm⟩
    · by_cases m : c ∈ Ps
      · exact .inr ⟨m, (Option.some.inj ((tabH_tab m e).symm.trans h)).symm⟩
      · exact absurd ((tabH_out e m).symm.trans h) (by simp)
  have low : ∀ {c : Addr} {o : Obj}, t.heap.get? c = some o → c ≠ b → c ∉ Ps → (hidT t.heap H).get? c = some o := fun h hc hp => hidT_get h (tabH_out hc hp)
  have apart : ∀ {c : Addr} {o : Obj}, t.heap.get? c = some o → (∀ vs n, o.data ≠ .seq vs n) → o.data ≠ .fields #[] → c ≠ b ∧ c ∉ Ps := fun {c o} h h1 h2 => by
    refine ⟨fun z => ?_, fun z => ?_⟩
    · rw [z, hb] at h
      cases h
      exact h1 _ _ rfl
    · rw [(isT c z).1] at h
      cases h
      exact h2 rfl
  have lowD : ∀ {c : Addr} {o : Obj}, t.heap.get? c = some o → (∀ vs n, o.data ≠ .seq vs n) → o.data ≠ .fields #[] → (hidT t.heap H).get? c = some o := fun h h1 h2 => low h (apart h h1 h2).1 (apart h h1 h2).2
  have lowNs : ∀ {c : Addr} {m : Str → Option Value}, t.heap.Ns c m → (hidT t.heap H).Ns c m := by
    rintro c m ⟨o, es, ep, h1, h2, h3⟩
    exact ⟨o, es, ep, lowD h1 (fun vs n z => by rw [h2] at z; cases z) (fun z => by rw [h2] at z; cases z), h2, h3⟩
  have lowK : K.In (hidT t.heap H) := fun c o h => low (KX c o h) (fun z => hno o (z ▸ h)) (fun z => by rw [(isT c z).2] at h; cases h)
  have tells : HOk P w H t.heap := by
    intro c u h
    rcases kind h with ⟨rfl, rfl⟩ | ⟨hc, rfl⟩
    · exact ⟨hb, by rw [List.length_map]; exact hl, its, _, vals_ints hi, hb⟩
    · exact (isT c hc).1
  have md : Mod K mg (hidT t.heap H) := by
    obtain ⟨mc, c1, c2⟩ := nl
    exact ⟨lowK, lowNs gm, ⟨mb, lowNs gb, bb⟩, ⟨mc, lowNs c1, c2⟩⟩
  have TB : TBs K mg (hidT t.heap H) tf := fun x hx => by
    have hP := te x hx
    refine NdefX.tabB_of_K lowK (tc x hx) ?_ fun z => ?_
    · obtain ⟨bm, o1, b1, b2, b3, b4, b5, b6⟩ := bmn
      have nG : bm ≠ mainGlobals := fun z => by
        obtain ⟨o, es, ep, e, hd, _⟩ := gm
        rw [z, e] at b3
        cases b3
        rw [hd] at b6
        cases b6
      have nP : bm ≠ (He.cT K (x, none)).2 := fun z => by
        rw [z, hP] at b3
        cases b3
        cases b6
      exact ⟨bm, o1, b1, b2, nG, nP, lowD b3 (fun vs n z => by rw [b6] at z; cases z) (fun z => by rw [b6] at z; cases z), b4, b5, b6⟩
    · obtain ⟨o, es, ep, e, hd, _⟩ := gm
      rw [z, hP] at e
      cases e
      cases hd
  have env : Env0 P w K mg (hidT t.heap H) callerA [] t H :=
    { frames := rfl, mod := md, bs := fun c o h => of_hidT h, bsz := Nat.le_of_eq (hidT_size _ _), funs := trivial, frf := fun c h => absurd (show c ∈ ([] : List Addr) from h) List.not_mem_nil, hok := tells, bare := .of_eq ng }
  have call := (F (hidT t.heap H) TB).go callerA [] t H ⟨[.ref b], []⟩ [.ref b] [.ref b] (fun v _ => v = .bl true) (fun _ _ _ => False) hr env (bi t _) (.cons rfl .nil) (hsp ob nT)
  apply codeAny_mono call
  intro r s' h
  match r, h with
  | .error e, h => exact (cx_none h).elim
  | .ok .next, h => cases h
  | .ok .brk, h => cases h
  | .ok .cont, h => cases h
  | .ok (.ret u), h =>
    obtain ⟨v, H2, os, bare, un, hk2, rv, rfl⟩ := h
    obtain rfl : u = Value.bool true := rv
    have rest : ∀ c o, c ∉ Ps → t.heap.get? c = some o → s'.heap.get? c = some o := fun c o hp ho => by
      by_cases hc : c = b
      · subst hc
        have z := un.frzs c ob _ tabH_at
        obtain ⟨e2, _⟩ := hk2 c _ z
        rw [hb] at ho
        rw [← Option.some.inj ho]
        exact e2
      · exact un.keep c o ho (tabH_out hc hp) (fun z => absurd (show c ∈ ([] : List Addr) from z) List.not_mem_nil) List.not_mem_nil
    have grown : ∀ c ∈ Ps, ∃ more : Array Value, s'.heap.get? c = some { cls := .none, data := .fields more } := fun c hc => by
      obtain ⟨more, z⟩ := un.tbls c #[] (tabH_tab hc (nT c hc))
      exact ⟨_, hk2 c _ z⟩
    refine ⟨rfl, ⟨fun c o ho => ?_, fun c o ho => ?_⟩, os, bare⟩
    · by_cases hp : c ∈ Ps
      · obtain ⟨more, hm⟩ := grown c hp
        obtain ⟨x, hx, rfl⟩ := List.mem_map.mp hp
        rw [te x hx] at ho
        cases ho
        exact .inr (.inl ⟨((PySem.W.codeHd_of_K KX (tc x hx)).tab (te x hx)).isCodeTable, rfl, #[], more, rfl, by rw [Array.empty_append]; exact hm⟩)
      · exact .inl (rest c o hp ho)
    · by_cases hp : c ∈ Ps
      · obtain ⟨more, hm⟩ := grown c hp
        exact ⟨_, hm⟩
      · exact ⟨o, rest c o hp ho⟩
def exT (tf : List Str) (kc : List Con') (kd : List Kd) (be : Bool) (K : PySem.W.Frag) : Bool := exE kc kd be K && decide ((tf.map fun x => (He.cT K (x, none)).2).Nodup)
def tfs (tf : List Str) : List He.Defn := tf.map fun x => (x, none)
theorem law_endT {l : PySem.W.OpenLaw} {n k : Nat} {q : Program} {loose : List Str} {XP : (Str → Option Value) → Heap → Prop} {d : DefRec} {x y : Str} {fa : List He.Fa} {fn : List He.DefD} {kc : List Con'} {kd : List Kd} {be : Bool} {m : Nat} {tf : List Str}
    (hn : l.most = some n) (hn2 : n ≤ sizeLine) (hdf : d.params.defaults = []) (hr : Room k callerA) (hx : d.name = x) (j : Nat) (hj : fa[j]? = some (.glo x)) (df : DF)
    (F : ∀ (w : World) (mg : Str → Option Value) (K : PySem.W.Frag), HdE K mg w fa fn kc kd be → ∃ (ec : Nat → Value) (fd : FuncData), (∀ (s : Shared) (u : Value), BindsTo s fd ⟨[u], []⟩ [(y, u)]) ∧
      ∀ base : Heap, TBs K mg base tf → FnG l.prog w K mg base k (He.ga K x) fd [y] (spD ⟨K, w, ec⟩ df 1))
    (L : ∀ ns : List Int, ns.length ≤ n → ∃ S', df [.o 0] (.scr (ns.map W.int) :: tf.map fun x => .tbl x (tq x)) = .ok (.v (.bl true)) S') :
    PySem.W.WalkO q loose XP (He.hookX m fa fn (tabs kd) (tfs tf) (exT tf kc kd be)).says l.row.toRowW d [] (fun f vs => PySem.call f vs) := by
  refine Att.attach_call hn hdf fun w s₀ s₁ mg mb ad o pm cd doc a vs ns G Y ho hd hcd hmg hobj hints hlen hg => ?_
  obtain ⟨K, KX, c⟩ := Y
  obtain ⟨zt, znd⟩ := He.ba c.more
  have nd := of_decide_eq_true znd
  obtain ⟨z0, ze⟩ := He.ba zt
  obtain ⟨z1, z⟩ := He.ba z0
  obtain ⟨z2, z⟩ := He.ba z
  obtain ⟨z3, z4⟩ := He.ba z
  have Z0 : Hd K mg fa fn kc := ⟨c.t.d, fun x e => He.glo_ok KX G.T.g e, fun x e => He.free_ok KX G.T.g e, fun p hp => konB_ok KX G.T.g (List.all_eq_true.mp z2 p hp), z1⟩
  have Z1 : HdW K mg w fa fn kc kd := ⟨Z0, fun p hp => by
    obtain ⟨i, hi, e⟩ := List.mem_iff_getElem.mp hp
    have ht : (tabs kd)[i]? = some ((fun K => He.ga K p.1), p.2.map fun q => (⟨q.1.toArray⟩ : Str)) := by
      unfold tabs
      rw [List.getElem?_map, List.getElem?_eq_getElem hi, e]
      rfl
    exact kdB_ok (Z0.gl _ (List.all_eq_true.mp z4 p hp)) (c.t.tab i ht) (List.all_eq_true.mp z3 p hp)⟩
  have Z : HdE K mg w fa fn kc kd be := ⟨Z1, fun hbe => by
    subst hbe
    exact errB_ok Z0.gl ze⟩
  obtain ⟨ec, fd, hb, hF⟩ := F w mg K Z
  have e := hmg.symm.trans (hx ▸ Z0.gl x (c.t.d.fact j hj))
  have ea : ad = He.ga K x := by
    injection e with e
    injection e with e
    rw [e, hx]
  subst ea
  have hno : ∀ o, K.lookup a = some o → False := fun o h => noLst_ok z1 h (by
    have := KX a o h
    rw [hobj] at this
    rw [← Option.some.inj this])
  have mem : ∀ x ∈ tf, (x, none) ∈ tfs tf := fun x hx => List.mem_map.mpr ⟨x, hx, rfl⟩
  exact lawGT (sp := spD ⟨K, w, ec⟩ df 1) KX G.T.g G.T.b G.T.builtins G.T.nolimit hg G.T.bmain hobj hints (Nat.le_trans hlen hn2) ⟨hr, rfl⟩ hno (fun x hx => c.hd _ (mem x hx)) (fun x hx => c.out _ (mem x hx)) (fun x hx => c.empty _ (mem x hx)) hF hb
    (fun o nb => law_spT (F := ⟨K, w, ec⟩) nd nb (L ns hlen))
end Bel

/-! The engine, part Le: index, count of lists. -/
namespace Bel
open PySem PySem.Spec PyProof.Rows L2
def rCountF (K : PySem.W.Frag) : V → List V → Hp → VK → Prop := fun x xs H Q => ∃ (a : Addr) (ys : List V) (y : V), x = V.ref a ∧ xs = [y] ∧ SqL K H a ys ∧ flatV y = true ∧ ys.all flatV = true ∧ Q (.int (ys.countP (fun z => eqV z y) : Nat)) H
theorem count_eqU {x : V} : ∀ {xs : List V} {us : List Value}, Vals xs us → xs.all flatV = true → us.countP (eqU x) = xs.countP fun y => eqV y x
  | _, _, .nil, _ => rfl
  | y :: xs, u :: us, .cons r t, f => by
    rw [List.all_cons, Bool.and_eq_true] at f
    rw [List.countP_cons, List.countP_cons, count_eqU t f.2, eqU_of r f.1]
theorem mt_countF {X : Cx} : MtR X "list.count" (rCountF X.K) := by
  intro pins s σ H x xs v us Q I rx rxs h
  obtain ⟨a, ys, y, rfl, rfl, hs, fy, fys, q⟩ := h
  cases rx
  obtain ⟨u, rfl, ru⟩ := rxs.one
  obtain ⟨its, rv, ⟨⟨cls, dd, data, sl⟩, n, ho, hc, hdn, hd⟩, hlen⟩ := I.list hs
  simp only at hc hd
  subst hc hd
  refine call_meets PySem.F.slot_list_count ⟨_, ho, rfl⟩ PySem.F.entry_list_count (PySem.F.args_list_count_2 _ _)
    (SeqAt.list_countAt a its.toArray n dd sl u (eqU y)) ⟨ho, fun z hz => mem_eqAt ru fy rv fys z (by simpa using hz), ?_⟩
  refine ⟨.int (ys.countP (fun z => eqV z y) : Nat), H, I.tok _, ⟨s.toks, ?_⟩, q⟩
  show Value.int ((its.toArray.toList.countP (eqU y) : Nat) : Int) s.toks = Value.int ((ys.countP (fun z => eqV z y) : Nat) : Int) s.toks
  rw [show its.toArray.toList = its by simp, count_eqU rv fys]
def fCountM : W → List W → Option Out
  | .lst l, [y] => if isFlat y = true ∧ l.all isFlat = true then some (.val (.int (l.countP fun z => eqD z y : Nat))) else none
  | _, _ => none
def fIndexM : W → List W → Option Out
  | .lst l, [y] => if isFlat y = true ∧ l.all isFlat = true then (l.findIdx? fun z => eqD z y).map fun j => .val (.int (j : Nat)) else none
  | _, _ => none
section
variable {F : Fx} {H : Hp} {O : Addr → Prop}
theorem flat_rt {w : W} {v : V} (h : isFlat w = true) (r : RT F H O w v) : Rp F H O w v := by
  cases w <;> first | exact r | cases h
theorem count_rp {y : W} {vy : V} (fy : isFlat y = true) (ry : Rp F H O y vy) : ∀ {l : List W} {vs : List V}, RpL F H O l vs → l.all isFlat = true → vs.countP (fun z => eqV z vy) = l.countP fun z => eqD z y
  | [], vs, r, _ => by rw [r.nil_iff]; rfl
  | w :: l, vs, r, f => by
    obtain ⟨v, vs', rfl, r1, r2⟩ := r.cons_iff
    rw [List.all_cons, Bool.and_eq_true] at f
    rw [List.countP_cons, List.countP_cons, count_rp fy ry r2 f.2, eqv_flat f.1 fy r1 ry]
theorem om_count : OpM F fCountM (rCountF F.K) := by
  intro H O x xs w ws o Q rx rs e q
  unfold fCountM at e
  split at e
  · rename_i l y
    split at e
    · rename_i hf
      cases some_inj e
      obtain ⟨a, vs, rfl, h1, r1⟩ := rx
      cases rs with
      | cons r2 r3 =>
        cases r3
        have ry := flat_rt hf.1 r2
        refine ⟨a, vs, _, rfl, rfl, .inl h1, flat_v hf.1 ry, flat_all r1 hf.2, ?_⟩
        rw [count_rp hf.1 ry r1 hf.2]
        exact q _ (.int _)
    · cases e
  · cases e
theorem om_index : OpM F fIndexM (rIndex F.K) := by
  intro H O x xs w ws o Q rx rs e q
  unfold fIndexM at e
  split at e
  · rename_i l y
    split at e
    · rename_i hf
      cases e1 : l.findIdx? fun z => eqD z y with
      | none => rw [e1] at e; cases e
      | some j =>
        rw [e1] at e
        cases some_inj e
        obtain ⟨a, vs, rfl, h1, r1⟩ := rx
        cases rs with
        | cons r2 r3 =>
          cases r3
          have ry := flat_rt hf.1 r2
          obtain ⟨hj, h3, h4⟩ := List.findIdx?_eq_some_iff_getElem.mp e1
          have hv : j < vs.length := by rw [← r1.1]; exact hj
          have at_ : ∀ m (hm : m < l.length) (hm' : m < vs.length), eqV vs[m] _ = eqD l[m] y := fun m hm hm' => eqv_flat (List.all_eq_true.mp hf.2 _ (List.getElem_mem hm)) hf.1 (r1.2 m _ _ (List.getElem?_eq_getElem hm) (List.getElem?_eq_getElem hm')) ry
          refine ⟨a, vs, _, j, vs[j], rfl, rfl, .inl h1, flat_v hf.1 ry, flat_all r1 hf.2, List.getElem?_eq_getElem hv, by rw [at_ j hj hv]; exact h3, fun m z hm hz => ?_, q _ (.int _)⟩
          obtain ⟨hm', rfl⟩ := List.getElem?_eq_some_iff.mp hz
          have := h4 m hm
          rw [at_ m (by omega) hm']
          simpa using this
    · cases e
  · cases e
end
end Bel

/-! The engine, part Lf: index of tuples of texts. -/
namespace Bel
open PySem PySem.Spec PyProof.Rows L2
def fIndexT : W → List W → Option Out
  | .tup l, [.str x] => match txts l with
    | some ps => (ps.findIdx? fun z => decide (z = x)).map fun j => .val (.int (j : Nat))
    | none => none
  | _, _ => none
theorem om_tindex {F : Fx} : OpM F fIndexT (fun x xs H Q => ∃ p, ∃ ys : List Str, ∃ z j, x = .ref p ∧ xs = [.str z] ∧ SqT F.K H p (ys.map V.str) ∧ ys[j]? = some z ∧ (∀ m, m < j → ys[m]? ≠ some z) ∧ Q (.int (j : Nat)) H) := by
  intro H O x xs w ws o Q rx rs e q
  unfold fIndexT at e
  split at e
  · rename_i l z
    cases e1 : txts l with
    | none => simp only [e1] at e; cases e
    | some ps =>
      simp only [e1] at e
      cases e2 : ps.findIdx? fun y => decide (y = z) with
      | none => rw [e2] at e; cases e
      | some j =>
        rw [e2] at e
        cases some_inj e
        obtain ⟨a, vs, rfl, h1, r1⟩ := Rp.tup_inv rx
        obtain ⟨rfl, _⟩ := txts_rp r1 e1
        cases rs with
        | cons r2 r3 =>
          cases r3
          obtain ⟨rfl, _⟩ := Rp.str_inv r2
          obtain ⟨hj, h3, h4⟩ := List.findIdx?_eq_some_iff_getElem.mp e2
          refine ⟨a, ps.map mkS, _, j, rfl, rfl, h1.sq, ?_, fun m hm z2 => ?_, q _ (.int _)⟩
          · rw [List.getElem?_map, List.getElem?_eq_getElem hj]
            simp at h3
            rw [h3]; rfl
          · rw [List.getElem?_map] at z2
            have hm2 : m < ps.length := by omega
            rw [List.getElem?_eq_getElem hm2] at z2
            have z3 : ps[m] = z := by
              have := Option.some.inj z2
              injection this with this
              simpa using this
            have := h4 m hm
            simp [z3] at this
  · cases e
/-- a method of a tuple of the module -/
theorem kon_tuple {ec : Nat → Value} {X : Cx} {x : Str} {l : List W} (h : Kon ec X x (.tup l)) : ∃ (v : V) (u : Value), X.mg x = some u ∧ RelV v u ∧ (∀ H O, Rp (fx ec X) H O (.tup l) v) ∧ ∀ H, tyV X.K "tuple" v H := by
  obtain ⟨v, u, hm, r, hr⟩ := h.ex
  refine ⟨v, u, hm, r, hr, fun H => ?_⟩
  obtain ⟨a, vs, rfl, h1, _⟩ := Rp.tup_inv (hr (fun _ => none) fun _ => False)
  rcases h1 with ⟨h1, _⟩ | ⟨o, its, n, h1, h2, h3, _⟩
  · obtain ⟨_, z, _⟩ := h1; cases z
  · exact .inr (.inl ⟨rfl, o, h1, h2, h3⟩)
section
variable {ec : Nat → Value} {X : Cx} {e : Expr} {es : List Expr} {das : DA} {p apos cpos : Pos}
theorem ev_methK {own : Bool} {id : String} {name x : Str} {l : List W} {f : W → List W → Option Out} {r : V → List V → Hp → VK → Prop} (pa : PlainAttrs "tuple") (slot : Slot "tuple" name id) (hty : typeOf (.builtin id) = pure (.type "method_descriptor")) (hm : ∀ pn xe, MtR (X.tr pn xe) id r)
    (hf : OpM (fx ec X) f r) (hg : Gl X x) (hk : Kon ec X x (.tup l)) (ha : PAv ec X (e :: es) das) (hdb : (x == ("__debug__" : Str)) = false := by decide)
    (hbase : attributeBase (.Name x p) name X.env (eval (.Name x p) X.env) = eval (.Name x p) X.env := by rfl)
    (hfew : ((backTo cpos (starEach (e :: es) X.env)).all (fun x => !x.1) && (backToKw cpos (keywordEach [] X.env)).all (fun x => x.1.isSome)
      && decide ((e :: es).length + ([] : List Keyword).length + (if ([] : List Keyword).isEmpty then 0 else 1) < 30)) = true := by rfl)
    (hline : (apos.endLine == cpos.line) = true := by rfl) (hs : starEach (e :: es) X.env = (false, eval e X.env) :: starEach es X.env := by rfl) (hplain : (backTo cpos (starEach es X.env)).any (·.1) = false := by rfl) :
    PEv ec X (.Call (.Attribute (.Name x p) name apos) (e :: es) [] cpos) (dMeth own isTup f (dC (.tup l)) das) := by
  obtain ⟨v, u, hmg, rv, hr, ty⟩ := kon_tuple hk
  refine ⟨fun pn xe Wx tk => (pe_bm (X := X.tr pn xe) pa slot hty (hm pn xe) (pe_glob (X := X.tr pn xe) hg hmg rv hdb) (ha.run pn xe Wx tk) hbase hfew hline hs hplain).imp fun σ H Q h => ?_⟩
  obtain ⟨env, S, ι, B, R, E, h⟩ := h
  have h1 : PoE (fx ec X) Wx σ ι S B H ((das env S).bind fun us S2 => match dr S2 (.v (.tup l)), drs S2 us with
      | some w', some ws => putO own (f w' ws) S2
      | _, _ => .no) Q := h
  refine ⟨ty H, LA.then_ R E h1 fun us S2 xs H2 ι2 G2 R2 E2 rus h2 => ?_⟩
  cases e3 : drs S2 us with
  | none => simp only [e3] at h2; exact h2.elim
  | some ws =>
    simp only [e3] at h2
    obtain ⟨o, he, q⟩ := putO_ok R2 h2
    exact hf H2 _ v xs (.tup l) ws o Q (hr H2 _) (drs_rt R2 rus e3) he q
end
end Bel

/-! The engine, part Ma: enumerate over a text. -/
namespace Bel
open PySem PySem.Spec PyProof.Rows L2
def IteS (x : Str) : It := ⟨fun i _ => i < x.cps.size, fun i H v H' => ∃ T c, v = .ref T ∧ H T = none ∧ (∃ o : Obj, o.dict = none ∧ H' = upd H T (TupO o [.int (i : Nat), .str ⟨#[c]⟩])) ∧ x.cps[i]? = some c, fun i _ => x.cps.size ≤ i⟩
theorem drawsS {P : Program} {w : World} {A : Around} (h : A.handled = none) (it : Addr) (x : Str) (t : Tok) :
    Draws P w A.in1 it [it] x.cps.size (fun i v => ∃ c u, x.cps[i]? = some c ∧ v = Value.str ⟨#[c]⟩ u) fun i h => h.IsStrIter it (strIterType x) x t i := by
  unfold strIterType
  split
  · exact Draws.strAscii (A := A.in1) h it x t
  · exact Draws.strWide (A := A.in1) h it x t
theorem turn_enumS {P : Program} {w : World} {K : PySem.W.Frag} {elts : List Expr} {kk : Nat} {tpos : Pos} (x : Str) (t : Tok) (e it : Addr) :
    Turn P w K (.Tuple elts kk tpos) (IteS x) [e, it] e fun i h => (∃ old, IsEnum h e it (i : Nat) old) ∧ h.IsStrIter it (strIterType x) x t i ∧ e ≠ it ∧ i ≤ x.cps.size where
  mem := List.mem_cons_self
  obj i h st b hb := by
    obtain ⟨⟨old, he⟩, ⟨o, ho, hc, hd⟩, _⟩ := st
    simp only [List.mem_cons, List.not_mem_nil, or_false] at hb
    rcases hb with rfl | rfl
    · exact ⟨_, he, fun v q => nomatch q⟩
    · exact ⟨o, ho, fun v q => by rw [hd] at q; cases q⟩
  keep i h h' st k := by
    obtain ⟨⟨old, he⟩, ⟨o, ho, hc, hd⟩, hne, hi⟩ := st
    exact ⟨⟨old, k e List.mem_cons_self _ he⟩, ⟨o, k it (by simp) o ho, hc, hd⟩, hne, hi⟩
  item X hP hw hK hc i pins s σ H E I hf st hg := by
    subst hP hw hK
    obtain ⟨⟨old, he⟩, hit, hne, hi⟩ := st
    have hel := Heap.lt_size he
    have hil : it < s.heap.objs.size := by obtain ⟨o, q, _⟩ := hit; exact Heap.lt_size q
    refine wpAny_pyNext_enum_itemD (drawsS (I.ok.hd hc) it x t) he hit hg hne (by simpa using hne) fun y h' tk hy ho hit' hT hsz hk => ?_
    obtain ⟨c, u, hx, rfl⟩ := hy
    refine ⟨_, rfl, wpAny_letOwnedTupleGo_enum ho fun h'' he' sb => ?_⟩
    have hT2 := (sb.2 s.heap.objs.size (Nat.ne_of_gt hel)).trans hT
    have I1 := Inv.turnedNew (t' := tk + 1) I (ch := [e, it]) (T := s.heap.objs.size) (ob := TupO { cls := .type "tuple", data := .seq #[.int (i : Nat) tk, .str ⟨#[c]⟩ u] } [.int (i : Nat), .str ⟨#[c]⟩])
      (h' := h'') (fun b ob hb q => by
        have h1 : b ≠ e := fun z => hb (by simp [z])
        have h2 : b ≠ it := fun z => hb (by simp [z])
        exact (sb.2 b h1).trans (hk b ob h1 h2 q)) hf (Nat.le_refl _)
      ⟨hT2, (show 2 ≤ sizeLine from by decide), [.int (i : Nat) tk, .str ⟨#[c]⟩ u], .cons ⟨tk, rfl⟩ (.cons ⟨u, rfl⟩ .nil), ⟨_, hT2, rfl, 0, rfl⟩⟩
    refine ⟨.ref s.heap.objs.size, _, I1, rfl, ⟨_, c, rfl, HOk.fresh I.hok (Nat.le_refl _), ⟨_, rfl, rfl⟩, hx⟩, ⟨⟨.str ⟨#[c]⟩ u, ?_⟩, ?_, hne, by have : i < x.cps.size := hg; omega⟩, fun b hb => ?_⟩
    · rw [show ((i + 1 : Nat) : Int) = (i : Nat) + 1 by omega]; exact he'
    · obtain ⟨o, q, r⟩ := hit'
      exact ⟨o, (sb.2 it (Ne.symm hne)).trans q, r⟩
    · have hb' : b < s.heap.objs.size := by
        simp only [List.mem_cons, List.not_mem_nil, or_false] at hb
        rcases hb with rfl | rfl
        · exact hel
        · exact hil
      rw [upd_ne (Nat.ne_of_lt hb')]
      exact (hf b hb).1
  done X hP hw hK hc i pins s σ H E I hf st hg := by
    subst hP hw hK
    obtain ⟨⟨old, he⟩, hit, hne, hi⟩ := st
    have hin : i = x.cps.size := Nat.le_antisymm hi hg
    subst hin
    obtain ⟨f0, f1, f2, f3, f4, f5⟩ := hf it (by simp)
    exact wpAny_pyNext_enum_endD (drawsS (I.ok.hd hc) it x t) he hit fun h' eb => ⟨rfl, Inv.turned I (fun b o hb q => eb b o hb q) f0 f1 f3 f4 f5⟩
  self A i s Q E st h := by
    obtain ⟨⟨old, he⟩, _⟩ := st
    exact wpAny_pyIter_enum he h
def iEnumS (ta : TA) : TI := fun σ H R => ta σ H fun vs H1 => ∃ x, vs = [V.str x] ∧ R (IteS x) H1
theorem pi_enumS {X : Cx} {e : Expr} {ta : TA} {p pos tpos : Pos} {elts : List Expr} {kk : Nat} (hg : Gl X "enumerate") (hm : X.mg "enumerate" = none) (ha : PA X [e] ta) (hs : starEach [e] X.env = [(false, eval e X.env)] := by rfl) :
    PI X (.Tuple elts kk tpos) (.Call (.Name "enumerate" p) [e] [] pos) (iEnumS ta) where
  run pins s σ H R I h := by
    refine Call_ (ld_blt I hg hm boot_enumerate (PyProof.Rows.callWith_type1 (thn (ha.run pos pins s σ H (fun vs H1 => ∃ x, vs = [V.str x] ∧ R (IteS x) H1) I h) fun us s1 x => ?_) (by rw [hs]; rfl) (by rfl)))
    obtain ⟨vs, H1, I1, r1, y, rfl, q⟩ := x
    cases r1 with
    | cons r rr =>
      cases rr
      obtain ⟨t, rfl⟩ := r
      refine call_enumerate_str fun h' he hit hsz hk => wpAny_pyIter_enum he ?_
      refine ⟨_, [s1.heap.objs.size + 1, s1.heap.objs.size], _, IteS y, H1, rfl, Inv.kept I1 hk, turn_enumS y t _ _, ⟨⟨_, he⟩, hit, Nat.succ_ne_self _, Nat.zero_le _⟩, fun b hb => ?_, q⟩
      have hle : s1.heap.objs.size ≤ b := by
        simp only [List.mem_cons, List.not_mem_nil, or_false] at hb
        rcases hb with rfl | rfl <;> omega
      exact Inv.fpOk I1 hle (HOk.fresh I1.hok hle)
theorem walk_enumS {x : Str} : Walk (IteS x) x.cps.size (fun _ => True) fun i H v H' => ∃ T c, v = .ref T ∧ H T = none ∧ (∃ o : Obj, o.dict = none ∧ H' = upd H T (TupO o [.int (i : Nat), .str ⟨#[c]⟩])) ∧ x.cps[i]? = some c :=
  ⟨fun _ _ h _ => h, fun _ _ => Nat.le_refl _, fun _ _ _ _ _ _ h => h⟩
def enumW (i : Nat) : List Nat → List W
  | [] => []
  | c :: r => .tup [.int (i : Nat), .str [c]] :: enumW (i + 1) r
theorem enumW_len : ∀ (x : List Nat) (i : Nat), (enumW i x).length = x.length
  | [], _ => rfl
  | c :: r, i => by simp [enumW, enumW_len r]
theorem enumW_get : ∀ (x : List Nat) (i j : Nat), (enumW i x)[j]? = x[j]?.map fun c => W.tup [.int ((i + j : Nat) : Int), .str [c]]
  | [], _, _ => rfl
  | c :: r, i, 0 => rfl
  | c :: r, i, j + 1 => by
    rw [show i + (j + 1) = (i + 1) + j by omega]
    simpa [enumW] using enumW_get r (i + 1) j
/-- enumerate(text) -/
def dEnS (d : DE) : DI := fun e S => (d e S).bind fun u S1 => match u with
  | .v (.str x) => .ok (enumW 0 x) S1
  | _ => .no
section
variable {ec : Nat → Value} {X : Cx} {e : Expr} {da : DE} {p pos tpos : Pos} {elts : List Expr} {kk : Nat}
theorem iv_enS (hg : Gl X "enumerate") (hm : X.mg "enumerate" = none) (h : PEv ec X e da) (h1 : starEach [e] X.env = (false, eval e X.env) :: starEach [] X.env := by rfl) (hs : starEach [e] X.env = [(false, eval e X.env)] := by rfl) : PIv ec X (.Tuple elts kk tpos) (.Call (.Name "enumerate" p) [e] [] pos) (dEnS da) :=
  ⟨fun pn xe Wx tk => (pi_enumS (X := X.tr pn xe) hg hm (pa_cons (h.run pn xe Wx tk) pa_nil h1) hs).imp fun σ H Q ⟨env, S, ι, B, R, E, h⟩ => LE.thenI R E h fun u S1 v H1 ι1 G1 R1 E1 ru h1 => by
    cases u with
    | o n => exact h1.elim
    | v w =>
      cases w with
      | str l =>
        obtain ⟨rfl, h2, h3⟩ := Rp.str_inv ru
        refine ⟨_, rfl, h1 _ H1 ι1 .refl R1 ⟨_, _, (by have := walk_enumS (x := (⟨l.toArray⟩ : Str)); rw [enumW_len]; exact this), fun ι2 S2 B2 H2 x o R2 => ⟨trivial, fun i y H3 w hw hy => ?_⟩⟩⟩
        obtain ⟨T, c, rfl, hT, ⟨ob, hd, rfl⟩, hc⟩ := hy
        have hc' : l[i]? = some c := by simpa using hc
        rw [enumW_get, hc'] at hw
        cases some_inj hw
        have hm : c ∈ l := List.mem_of_getElem? hc'
        have hcp := List.all_eq_true.mp h3 c hm
        obtain ⟨f1, f2, f3⟩ := R2.fresh (TupO ob [.int (i : Nat), .str ⟨#[c]⟩]) hT
        refine ⟨?_, f1, f2, fun y z hz => ?_⟩
        · rw [Nat.zero_add]
          exact Rp.mkTup (.inl ⟨⟨ob, upd_same, hd⟩, f3⟩) (.cons (.int _) (.cons (.str [c] one_line (by simp [hcp])) .nil))
        · rw [upd_ne (ne_of_none hz hT)]; exact hz
      | _ => exact h1.elim⟩
end
end Bel

/-! The engine, part Mb: a text times a number; reverse; pop with a default. -/
namespace Bel
open PySem PySem.Spec PyProof.Rows L2
theorem rep_size (x : Array Nat) : ∀ (n : Nat) (acc : Array Nat), ((List.replicate n x).foldl (fun a b => a ++ b) acc).toList = acc.toList ++ (List.replicate n x.toList).flatten
  | 0, acc => by simp
  | n + 1, acc => by
    rw [List.replicate_succ, List.foldl_cons, rep_size x n]
    simp [List.replicate_succ]
theorem rep_len (x : List Nat) : ∀ n, (List.replicate n x).flatten.length = x.length * n
  | 0 => rfl
  | n + 1 => by rw [List.replicate_succ, List.flatten_cons, List.length_append, rep_len x n, Nat.mul_succ]; omega
theorem op_repS {X : Cx} : OpR X (binaryOp .Mult) (fun x y H Q => ∃ (i : Str) (k : Int), x = .str i ∧ y = .int k ∧ 2 ≤ k ∧ k ≤ 100000 ∧ i.length ≠ 0 ∧ i.length * k.toNat ≤ sizeLine ∧ Q (.str ⟨((List.replicate k.toNat i.cps.toList).flatten).toArray⟩) H) := by
  intro pins s σ H x y v u Q I rx ry h
  obtain ⟨i, k, rfl, rfl, h2, hk, h0, hl, q⟩ := h
  obtain ⟨t, rfl⟩ := rx
  obtain ⟨t', rfl⟩ := ry
  have g1 : k ≥ -2 ^ 63 := Int.le_trans (by decide +kernel) h2
  have g2 : k < 2 ^ 63 := Int.lt_of_le_of_lt hk (by decide +kernel)
  have g3 : ¬ k < 1 := by omega
  have g4 : (k == 1 || i.length == 0) = false := by
    have : (k == 1) = false := beq_false_of_ne (by omega)
    rw [this]; simpa using h0
  have hs : sizeLine = 16777216 := sizeLine_is
  refine P.mul_str (by rw [Bool.or_eq_false_iff]; exact ⟨decide_eq_false (Int.not_lt.mpr g1), decide_eq_false (Int.not_le.mpr g2)⟩) (fun _ _ => ?_) (fun _ _ => ?_) ?_
  · have h5 : (i.length : Int) ≤ 16777216 := by
      have : i.length * 1 ≤ i.length * k.toNat := Nat.mul_le_mul_left _ (by omega)
      omega
    have h6 : (16777216 : Int) ≤ (2 ^ 63 - 1) / k := by
      apply Int.le_ediv_of_mul_le (by omega)
      have : (16777216 : Int) * k ≤ 16777216 * 100000 := Int.mul_le_mul_of_nonneg_left hk (by decide)
      exact Int.le_trans this (by decide +kernel)
    omega
  · unfold Builtin.Str.tooLong
    exact decide_eq_false (by omega)
  · rw [if_neg g3, if_neg (by rw [g4]; simp)]
    have e : (⟨(List.replicate k.toNat i.cps).foldl (fun x1 x2 => x1 ++ x2) #[]⟩ : Str) = ⟨((List.replicate k.toNat i.cps.toList).flatten).toArray⟩ := by
      have := rep_size i.cps k.toNat #[]
      simp only [List.nil_append] at this
      rw [← this]
    rw [e]
    refine ⟨?_, .str ⟨((List.replicate k.toNat i.cps.toList).flatten).toArray⟩, H, Inv.tok I _, ⟨_, rfl⟩, q⟩
    rw [str_len, rep_len]
    exact hl
def fMulS : W → W → Option Out
  | .str x, .int k => if 2 ≤ k ∧ k ≤ 100000 ∧ x.length ≠ 0 ∧ x.length * k.toNat ≤ 16777216 then some (.val (.str (List.replicate k.toNat x).flatten)) else none
  | _, _ => none
theorem ow_repS {F : Fx} : OpW F fMulS (fun x y H Q => ∃ (i : Str) (k : Int), x = .str i ∧ y = .int k ∧ 2 ≤ k ∧ k ≤ 100000 ∧ i.length ≠ 0 ∧ i.length * k.toNat ≤ sizeLine ∧ Q (.str ⟨((List.replicate k.toNat i.cps.toList).flatten).toArray⟩) H) := by
  intro H O x y w z o Q rx ry e q
  unfold fMulS at e
  split at e
  · rename_i a k
    split at e
    · rename_i hc
      obtain ⟨c1, c2, c3, c4⟩ := hc
      cases some_inj e
      obtain ⟨rfl, h1, h2⟩ := Rp.str_inv rx
      obtain rfl := Rp.int_inv ry
      refine ⟨_, k, rfl, rfl, c1, c2, by rw [str_len]; exact c3, by rw [str_len, sizeLine_is]; exact c4, ?_⟩
      refine q _ (.str _ (by rw [rep_len, sizeLine_is]; exact c4) ?_)
      rw [List.all_eq_true]
      intro c hc
      obtain ⟨l, hl, hc⟩ := List.mem_flatten.mp hc
      rw [(List.mem_replicate.mp hl).2] at hc
      exact List.all_eq_true.mp h2 c hc
    · cases e
  · cases e
def fReverse : List W → List W → Option (List W × W)
  | l, [] => some (l.reverse, .non)
  | _, _ => none
theorem om_reverse {F : Fx} : OpMu F fReverse rReverse := by
  intro H O a vs xs l ws l' w Q h1 r1 r2 e q
  unfold fReverse at e
  split at e
  · obtain ⟨rfl, rfl⟩ := Prod.mk.inj (some_inj e)
    have e2 := r2.nil_iff
    subst e2
    exact ⟨a, vs, rfl, rfl, h1, q _ .non r1.reverse .non⟩
  · cases e
/-! d.pop(k, x): d an own dict -/
def dropW (k : W) (l : List (W × W)) : List (W × W) := l.filter fun p => !eqK p.1 k
def dPop2 (o k x : DE) : DE := fun e S => (o e S).bind fun u S1 => match u with
  | .o n => match S1[n]? with
    | some (.dct _) => (k e S1).bind fun y S2 => (x e S2).bind fun z S3 => match S3[n]?, y, z with
      | some (.dct l), .v y, .v z => if isKey y = true then (match lookD y l with
        | some w => .ok (.v w) (S3.set n (.dct (dropW y l)))
        | none => .ok (.v z) S3) else .no
      | _, _, _ => .no
    | _ => .no
  | .v _ => .no
theorem drop_rp {F : Fx} {H : Hp} {O : Addr → Prop} {k : W} {κ : Key} (hk : keyK k = some κ) : ∀ {ws : List (W × W)} {kvs : List (Key × V)}, RpD F H O ws kvs → RpD F H O (dropW k ws) (dropK kvs κ) := by
  intro ws
  induction ws with
  | nil => intro kvs r; rw [r.nil_iff]; exact .nil
  | cons p ws ih =>
    intro kvs r
    obtain ⟨κ', v', kvs', rfl, h1, h2, r'⟩ := r.cons_iff
    unfold dropW dropK
    rw [List.filter_cons, List.filter_cons, eqK_iff (key_of_rp h1) hk]
    by_cases hc : κ' = κ
    · simp only [hc, decide_true, Bool.not_true, ne_eq, not_true_eq_false, decide_false]
      exact ih r'
    · simp only [hc, decide_false, Bool.not_false, ne_eq, not_false_eq_true, decide_true, if_true]
      exact .cons h1 h2 (ih r')
section
variable {ec : Nat → Value} {X : Cx} {o k x : Expr} {da db dc : DE} {apos cpos : Pos}
theorem ev_dpop2 (ho : PEv ec X o da) (hk : PEv ec X k db) (hx : PEv ec X x dc) (m : ∀ pn xe, M2 (X.tr pn xe) o "pop" apos k x cpos) : PEv ec X (.Call (.Attribute o "pop" apos) [k, x] [] cpos) (dPop2 da db dc) :=
  ⟨fun pn xe Wx tk => (pe_dpop2 (X := X.tr pn xe) (ho.run pn xe Wx tk) (hk.run pn xe Wx tk) (hx.run pn xe Wx tk) (m pn xe)).imp fun σ H Q ⟨env, S, ι, B, R, E, h⟩ => by
    refine LE.then_ R E h fun u S1 v H1 ι1 G1 R1 E1 ru h1 => ?_
    split at h1
    · rename_i n
      obtain ⟨a, ha1, rfl⟩ := ru
      split at h1
      · rename_i l0 e1
        obtain ⟨kvs0, hH0, _⟩ := R1.dct e1 ha1
        refine ⟨a, rfl, .inl ⟨kvs0, .inl hH0⟩, LE.then_ R1 E1 h1 fun u2 S2 v2 H2 ι2 G2 R2 E2 ru2 h2 => LE.then_ R2 E2 h2 fun u3 S3 v3 H3 ι3 G3 R3 E3 ru3 h3 => ?_⟩
        have ha3 : ι3[n]? = some a := by
          obtain ⟨t, rfl⟩ := G2.pre
          obtain ⟨t', rfl⟩ := G3.pre
          rw [List.getElem?_append_left (by rw [List.length_append]; have := (List.getElem?_eq_some_iff.mp ha1).1; omega), List.getElem?_append_left (List.getElem?_eq_some_iff.mp ha1).1]
          exact ha1
        split at h3
        · rename_i l y z e3
          split at h3
          · rename_i hkey
            obtain ⟨kvs, hH, rl⟩ := R3.dct e3 ha3
            have ry : Rp (fx ec X) H3 (Oq ι3 S3 B) y v2 := Rp.go G3 ru2
            obtain ⟨κ, hκ, rfl⟩ := isKey_k hkey ry
            refine ⟨kvs, κ, hH, rfl, ?_, ?_⟩
            · intro v hv
              rcases look_rp rl hκ with ⟨_, e⟩ | ⟨w, v', e4, e5, rv⟩
              · rw [e] at hv; cases hv
              · rw [hv] at e5
                cases some_inj e5
                simp only [e4] at h3
                obtain ⟨R', G'⟩ := R3.write (ho := .dK (dropK kvs κ)) (o' := .dct (dropW y l)) e3 (fun z => nomatch z) ha3 ⟨_, rfl, drop_rp hκ rl⟩
                exact h3 _ _ ι3 G' R' (Rp.go G' rv)
            · intro hv
              rcases look_rp rl hκ with ⟨e4, _⟩ | ⟨w, v', e4, e5, rv⟩
              · simp only [e4] at h3
                exact h3 _ _ ι3 .refl R3 ru3
              · rw [hv] at e5; cases e5
          · exact h3.elim
        · exact h3.elim
      · exact h1.elim
    · exact h1.elim⟩
end
end Bel

/-! The engine, part Tb: more rules for reckoning. -/
namespace Bel
open PySem PySem.Spec PyProof.Rows L2
@[simp] theorem dEnS_ap (d : DE) (e : Env') (S : Store) : dEnS d e S = (d e S).bind fun u S1 => match u with
  | .v (.str x) => .ok (enumW 0 x) S1
  | _ => .no := rfl
@[simp] theorem dPop2_ap (o k x : DE) (e : Env') (S : Store) : dPop2 o k x e S = (o e S).bind fun u S1 => match u with
  | .o n => match S1[n]? with
    | some (.dct _) => (k e S1).bind fun y S2 => (x e S2).bind fun z S3 => match S3[n]?, y, z with
      | some (.dct l), .v y, .v z => if isKey y = true then (match lookD y l with
        | some w => .ok (.v w) (S3.set n (.dct (dropW y l)))
        | none => .ok (.v z) S3) else .no
      | _, _, _ => .no
    | _ => .no
  | .v _ => .no := rfl
theorem fMulS_is {x : List Nat} {k : Int} (h1 : 2 ≤ k) (h2 : k ≤ 100000) (h3 : x.length ≠ 0) (h4 : x.length * k.toNat ≤ 16777216) : fMulS (.str x) (.int k) = some (.val (.str (List.replicate k.toNat x).flatten)) := if_pos ⟨h1, h2, h3, h4⟩
@[simp] theorem fReverse_ap (l : List W) : fReverse l [] = some (l.reverse, .non) := rfl
end Bel

/-! The engine, part Mc: repr of numbers, of texts. -/
namespace Bel
open PySem PySem.Spec PyProof.Rows L2
theorem call_repr_text {X : Cx} : CallR X (.builtin "repr") (fun xs H Q => ∃ a : Str, xs = [V.str a] ∧ (reprText a).length ≤ sizeLine ∧ Q (.str (reprText a)) H) := by
  intro pins s σ H xs us Q I r h
  obtain ⟨a, rfl, hz, q⟩ := h
  obtain ⟨u, rfl, rx⟩ := vals1 r
  obtain ⟨t, rfl⟩ := rx
  exact P.repr_of_str ⟨.str _, H, I.tok _, ⟨_, rfl⟩, q⟩ hz
def reprL (x : List Nat) : List Nat := (reprText (mkS x)).cps.toList
def fReprA : List W → Option Out
  | [.int i] => if i.natAbs.log2 < 1920 ∧ (digL i).length ≤ 16777216 ∧ (digL i).all okCp = true then some (.val (.str (digL i))) else none
  | [.str x] => if (reprL x).length ≤ 16777216 ∧ (reprL x).all okCp = true then some (.val (.str (reprL x))) else none
  | ws => fRepr ws
theorem oc_reprA {F : Fx} : OpC F fReprA (fun xs H Q => (∃ i : Int, xs = [V.int i] ∧ i.natAbs.log2 < 1920 ∧ Q (.str (Str.ofString (toString i))) H) ∨ (∃ a : Str, xs = [V.str a] ∧ (reprText a).length ≤ sizeLine ∧ Q (.str (reprText a)) H) ∨
    ∃ (a : Addr) (d : PyData), xs = [V.ref a] ∧ Dp F.K H (.ref a) d ∧ d.canLay0 = true ∧ d.depth ≤ 64 ∧ d.showable = true ∧ d.shown.length ≤ sizeLine ∧ Q (.str d.shown) H) := by
  refine oc1 (fun ws o e => ?_) fun H O x w o Q r e q => ?_
  · unfold fReprA at e
    split at e <;> first | exact ⟨_, rfl⟩ | skip
    unfold fRepr at e
    split at e <;> first | exact ⟨_, rfl⟩ | cases e
  · have rest : fRepr [w] = some o → _ := fun e => oc_repr (F := F) H O [x] [w] o Q (.cons r .nil) e q
    cases w with
    | int i =>
      simp only [fReprA] at e
      split at e
      · rename_i hc
        cases some_inj e
        obtain rfl := Rp.int_inv r
        refine .inl ⟨i, rfl, hc.1, ?_⟩
        have hs : (Str.ofString (toString i)) = ⟨(digL i).toArray⟩ := by unfold digL; simp
        rw [hs]
        exact q _ (.str _ (by rw [sizeLine_is]; exact hc.2.1) hc.2.2)
      · cases e
    | str y =>
      simp only [fReprA] at e
      split at e
      · rename_i hc
        cases some_inj e
        obtain ⟨rfl, _⟩ := Rp.str_inv r
        have hs : reprText ⟨y.toArray⟩ = ⟨(reprL y).toArray⟩ := by unfold reprL mkS; simp
        refine .inr (.inl ⟨_, rfl, ?_, ?_⟩)
        · rw [hs, sizeLine_is]
          simpa [Str.length] using hc.1
        · rw [hs]
          exact q _ (.str _ (by rw [sizeLine_is]; exact hc.1) hc.2)
      · cases e
    | _ => exact .inr (.inr (rest e))
end Bel

/-! The engine, part Na: loops over dicts that stay; calls that borrow an own dict. -/
namespace Bel
open PySem PySem.Spec PyProof.Rows L2
/-- what differs by a lock on the dict at d alone -/
structure Sw (d : Addr) (kvs : List (Key × V)) (H H' : Hp) : Prop where
  ne : ∀ a, a ≠ d → H' a = H a
  rd : Rd H d (.dK kvs)
  rd' : Rd H' d (.dK kvs)
section
variable {F : Fx} {H H' : Hp} {O : Addr → Prop} {d : Addr} {kvs : List (Key × V)}
theorem Sw.symm (s : Sw d kvs H H') : Sw d kvs H' H := ⟨fun a h => (s.ne a h).symm, s.rd', s.rd⟩
theorem Sw.at_ (s : Sw d kvs H H') {a : Addr} {y : HO} (h : H a = some y) (h1 : ∀ k, y ≠ .dK k) (h2 : ∀ o k, y ≠ .frz o (.dK k)) : H' a = some y := by
  by_cases hd : a = d
  · subst hd
    rcases s.rd with e | ⟨o, e⟩
    · rw [e] at h; cases h; exact absurd rfl (h1 _)
    · rw [e] at h; cases h; exact absurd rfl (h2 _ _)
  · rw [s.ne a hd]; exact h
theorem Sw.exT (s : Sw d kvs H H') {a : Addr} {vs : List V} (h : ExT H a vs) : ExT H' a vs := by
  obtain ⟨o, z, q⟩ := h
  exact ⟨o, s.at_ z (fun _ z => by unfold TupO at z; cases z) (fun _ _ z => by unfold TupO at z; injection z with _ z; cases z), q⟩
theorem Sw.rdL (s : Sw d kvs H H') {a : Addr} {vs : List V} (h : Rd H a (.lst vs)) : Rd H' a (.lst vs) := by
  rcases h with h | ⟨o, h⟩
  · exact .inl (s.at_ h (fun _ z => nomatch z) fun _ _ z => nomatch z)
  · exact .inr ⟨o, s.at_ h (fun _ z => nomatch z) fun _ _ z => by injection z with _ z; cases z⟩
theorem Sw.rdK (s : Sw d kvs H H') {a : Addr} {k : List (Key × V)} (h : Rd H a (.dK k)) : Rd H' a (.dK k) := by
  by_cases hd : a = d
  · subst hd
    have : k = kvs := by
      rcases h with h | ⟨o, h⟩ <;> rcases s.rd with e | ⟨o', e⟩
      · rw [e] at h; cases h; rfl
      · rw [e] at h; cases h
      · rw [e] at h; cases h
      · rw [e] at h; cases h; rfl
    subst this
    exact s.rd'
  · rcases h with h | ⟨o, h⟩
    · exact .inl (by rw [s.ne a hd]; exact h)
    · exact .inr ⟨o, by rw [s.ne a hd]; exact h⟩
theorem Rp.sw (s : Sw d kvs H H') {w : W} {v : V} (r : Rp F H O w v) : Rp F H' O w v := by
  induction r with
  | non => exact .non
  | bl b => exact .bl b
  | int i => exact .int i
  | str x h h2 => exact .str x h h2
  | tup h hl hs ih => exact .tup (Or.imp (fun h => And.intro (s.exT h.1) h.2) id h) hl ih
  | lst h hl hs ih => exact .lst ⟨s.at_ h.1 (fun _ z => nomatch z) (fun _ _ z => nomatch z), h.2⟩ hl ih
  | dct h hl hk hs ihk ihs => exact .dct ⟨s.rdK h.1, h.2⟩ hl ihk ihs
  | kdc h hl hk hs ihs => exact .kdc h hl hk ihs
  | tdc h hn hm hl hv hk hr hs ihs => exact .tdc (s.at_ h (fun _ z => by unfold TdO at z; cases z) fun _ _ z => by unfold TdO at z; cases z) hn hm hl hv (fun i w x h1 h2 => ⟨(hk i w x h1 h2).1, Or.imp (fun h => And.intro (s.exT h.1) h.2) id (hk i w x h1 h2).2⟩) hr ihs
  | exc h hn => exact .exc (s.at_ h (fun _ z => by unfold ExV at z; cases z) fun _ _ z => by unfold ExV at z; cases z) hn
theorem RpL.sw (s : Sw d kvs H H') {w : List W} {v : List V} (r : RpL F H O w v) : RpL F H' O w v := ⟨r.1, fun i w v h1 h2 => (r.2 i w v h1 h2).sw s⟩
theorem RpD.sw (s : Sw d kvs H H') {w : List (W × W)} {v : List (Key × V)} (r : RpD F H O w v) : RpD F H' O w v := ⟨r.1, fun i w v h1 h2 => (r.2.1 i w v h1 h2).sw s, fun i w v h1 h2 => (r.2.2 i w v h1 h2).sw s⟩
theorem ObR.sw (s : Sw d kvs H H') {a : Addr} {o : Ob} (hne : a ≠ d ∨ o = .dead) (r : ObR F H O a o) : ObR F H' O a o := by
  rcases hne with hne | rfl
  · have e0 := s.ne a hne
    cases o with
    | lst ws => obtain ⟨vs, e, r⟩ := r; exact ⟨vs, by rw [e0]; exact e, r.sw s⟩
    | dct ws => obtain ⟨vs, e, r⟩ := r; exact ⟨vs, by rw [e0]; exact e, r.sw s⟩
    | scr ws => obtain ⟨vs, y, e, q, r⟩ := r; exact ⟨vs, y, by rw [e0]; exact e, s.rdL q, r.sw s⟩
    | tbl x q =>
      obtain ⟨h1, ps, h3, h4, h5⟩ := r
      refine ⟨h1, ps, by rw [e0]; exact h3, h4, fun pos cv hc => ?_⟩
      obtain ⟨c, e1, e2, e3⟩ := h5 pos cv hc
      exact ⟨c, e1, s.at_ e2 (fun _ z => by unfold LamX.CodeO at z; cases z) (fun _ _ z => by unfold LamX.CodeO at z; cases z), e3⟩
    | dead => obtain ⟨y, e⟩ := r; exact ⟨y, by rw [e0]; exact e⟩
  · obtain ⟨y, e⟩ := r
    by_cases hd : a = d
    · subst hd
      rcases s.rd' with e | ⟨o, e⟩ <;> exact ⟨_, e⟩
    · exact ⟨y, by rw [s.ne a hd]; exact e⟩
end
section
variable {F : Fx} {H H' : Hp} {ι : List Addr} {S : Store} {B : Addr → Prop} {d : Addr} {kvs : List (Key × V)} {σ : L2.St}
theorem RS.sw (R : RS F ι S B H) (s : Sw d kvs H H') (nd : ¬ Oq ι S B d) : RS F ι S B H' := by
  refine ⟨R.len, R.nd, fun n o a h1 h2 => (R.ob n o a h1 h2).sw s ?_, fun a h => ?_⟩
  · by_cases hd : a = d
    · right
      subst hd
      exact Classical.byContradiction fun z => nd (.inl ⟨n, o, h1, z, h2⟩)
    · exact .inl hd
  · obtain ⟨⟨y, e⟩, n⟩ := R.hid a h
    have hne : a ≠ d := fun z => nd (.inr (by rw [← z]; exact h))
    exact ⟨⟨y, by rw [s.ne a hne]; exact e⟩, n⟩
theorem RU.sw (s : Sw d kvs H H') {u : U} {v : V} (r : RU F H ι S B u v) : RU F H' ι S B u v := by
  cases u with
  | v w => exact Rp.sw s r
  | o n => exact r
theorem ER.sw (s : Sw d kvs H H') {e : Env'} (r : ER F H ι S B e σ) : ER F H' ι S B e σ := ⟨r.len, fun i u h => let ⟨v, h1, h2⟩ := r.get i u h; ⟨v, h1, h2.sw s⟩⟩
/-- under the lock, and out of it -/
theorem Go.sw {ι' : List Addr} {S' : Store} {H1 H2 H3 : Hp} (G : Go ι S H1 ι' S' H2) (h1 : ∀ a, a ≠ d → H1 a = H a) (h3 : ∀ a, a ≠ d → H3 a = H2 a) (hd : H3 d = H d) (hs : ∃ y, H1 d = some y) : Go ι S H ι' S' H3 := by
  refine ⟨fun x y hx nx => ?_, fun x z => ?_, G.pre⟩
  · by_cases e : x = d
    · subst e; rw [hd]; exact hx
    · rw [h3 x e]; exact G.ext x y (by rw [h1 x e]; exact hx) nx
  · rcases G.own x z with q | q
    · exact .inl q
    · by_cases e : x = d
      · subst e; obtain ⟨y, hy⟩ := hs; rw [hy] at q; cases q
      · rw [h1 x e] at q; exact .inr q
end
/-! ### for over the keys, the pairs of a dict that stays -/
def keysW (l : List (W × W)) : List W := l.map (·.1)
def itemsW (l : List (W × W)) : List W := l.map fun p => .tup [p.1, p.2]
def dForD (mk : List (W × W) → List W) (i : Nat) (t : W → Env' → Option Env') (body : DS) : DS := fun e S => match e[i]? with
  | some (some (.v (.dct l))) => match dLoop t body (mk l) e S with
    | .ok f S' => .ok f S'
    | _ => .no
  | _ => .no
/-- the pairs of a locked dict, each with its object -/
def ItX (d : Addr) (o : Obj) (l : List (Key × V)) : It where
  go i H := H d = some (.frz o (.dK l)) ∧ i < l.length
  stop i H := H d = some (.frz o (.dK l)) ∧ l.length ≤ i
  yld i H v H' := ∃ (T : Addr) (q : Key × V) (ob : Obj), l[i]? = some q ∧ v = .ref T ∧ H T = none ∧ ob.dict = none ∧ H' = upd H T (TupO ob [kV q.1, q.2])
theorem turn_itX {P : Program} {w : World} {K : PySem.W.Frag} {elts : List Expr} {kk : Nat} {tpos : Pos} {d : Addr} {o : Obj} {es : Array DictEntry} {ep : Nat} {l : List (Key × V)} (it : Addr) (ho : o.data = .dict es ep) :
    Turn P w K (.Tuple elts kk tpos) (ItX d o l) [it] it fun i h => ∃ u v, IsItemIter h it d i l.length ep u v where
  mem := List.mem_singleton.mpr rfl
  obj i h st c hc := by
    cases List.mem_singleton.mp hc
    obtain ⟨u, v, z⟩ := st
    exact ⟨_, z, fun _ q => nomatch q⟩
  keep i h h' st k := by
    obtain ⟨u, v, z⟩ := st
    exact ⟨u, v, k it (List.mem_singleton.mpr rfl) _ z⟩
  item X hP hw hK hc i pins s σ H E I hf st hg := by
    subst hP hw hK
    obtain ⟨u, v, z⟩ := st
    obtain ⟨hd, hi⟩ := hg
    obtain ⟨_, _, _, es', ep', vs, h1, _, kv, hm⟩ := Inv.frzK I hd
    obtain ⟨rfl, rfl⟩ := dict_ep ho h1
    obtain ⟨x, hx, rx⟩ := kv_get (i := i) (k := l[i].1) (v := l[i].2) kv (List.getElem?_eq_getElem hi)
    rw [Paired.length kv] at z
    have lt := Heap.lt_size z
    refine wpAny_pyNext_items_item z hm hx fun key h' k1 k2 k3 k4 k5 => ⟨_, rfl, wpAny_letOwnedTupleGo_items (s := { s with heap := h' }) k2 fun h2 z2 sb => ?_⟩
    have at_ := (sb.2 s.heap.objs.size (Nat.ne_of_gt lt)).trans k3
    have J := Inv.turnedNew (t' := s.toks) (ch := [it]) (ob := TupO { cls := .type "tuple", data := .seq #[key, x] } [kV l[i].1, l[i].2]) I (fun c ob hc q => (sb.2 c fun e => hc (List.mem_singleton.mpr e)).trans (k5 c ob (fun e => hc (List.mem_singleton.mpr e)) q)) hf (Nat.le_refl _)
      ⟨at_, (show 2 ≤ sizeLine from by decide), [key, x], .cons (relV_key k1) (.cons rx .nil), ⟨_, at_, rfl, 0, rfl⟩⟩
    refine ⟨.ref s.heap.objs.size, _, J, rfl, ⟨_, l[i], _, List.getElem?_eq_getElem hi, rfl, HOk.fresh I.hok (Nat.le_refl _), rfl, rfl⟩, ⟨key, x, by rw [Paired.length kv]; exact z2⟩, fun c hc => ?_⟩
    cases List.mem_singleton.mp hc
    rw [upd_ne (Nat.ne_of_lt lt)]
    exact (hf it (List.mem_singleton.mpr rfl)).1
  done X hP hw hK hc i pins s σ H E I hf st hg := by
    subst hP hw hK
    obtain ⟨u, v, z⟩ := st
    obtain ⟨hd, hi⟩ := hg
    obtain ⟨_, _, _, es', ep', vs, h1, _, kv, hm⟩ := Inv.frzK I hd
    obtain ⟨rfl, rfl⟩ := dict_ep ho h1
    rw [Paired.length kv] at z hi
    obtain ⟨f0, f1, f2, f3, f4, f5⟩ := hf it (List.mem_singleton.mpr rfl)
    exact wpAny_pyNext_items_end (I.ok.hd hc) z hm (List.getElem?_eq_none hi) fun h' eb => ⟨rfl, Inv.turned (t' := s.toks) I (fun c ob hc q => eb c ob hc q) f0 f1 f3 f4 f5⟩
  self A i s Q E st h := by
    obtain ⟨_, _, z⟩ := st
    exact PySem.W.kcp_self z h
def iItX (td : TE) : TI := fun σ H R => td σ H fun x H1 => ∃ d o l, x = V.ref d ∧ H1 d = some (.frz o (.dK l)) ∧ R (ItX d o l) H1
theorem pi_itX {X : Cx} {e : Expr} {td : TE} {apos cpos tpos : Pos} {elts : List Expr} {kk : Nat} (he : PE X e td) (hbase : attributeBase e "items" X.env (eval e X.env) = eval e X.env := by rfl) (hline : (apos.endLine == cpos.line) = true := by rfl) :
    PI X (.Tuple elts kk tpos) (.Call (.Attribute e "items" apos) [] [] cpos) (iItX td) where
  run pins s σ H R I h := by
    refine wpAny_Call_method hbase rfl hline F.plainAttrs_dict F.slot_dict_items F.type_dict_items (thn (he.run pins s σ H _ I h) fun u s1 y => ?_)
    obtain ⟨_, H1, J, r, d, o, l, rfl, hd, q⟩ := y
    cases r
    obtain ⟨k1, _, _, es, ep, vs, k2, _, kv, hm⟩ := Inv.frzK J hd
    refine ⟨Heap.DictOf.typeIs hm.dictOf, Heap.MapOf.noDict (Heap.DictOf.mapOf hm.dictOf), ?_⟩
    have J2 := Inv.kept (t' := s1.toks) J fun c ob z => Heap.get?_push_of_some { cls := Value.type "dict_items", data := Data.fields #[Value.ref d] } z
    refine method_meetsIn F.slot_dict_items F.entry_dict_items rfl (PySem.evalArgs_none ⟨rfl, Heap.DictOf.typeIs hm.dictOf, F.args_dict_items_1 (Value.ref d), _, meets_dict_items (mixKind X.prog X.w) d k1, ⟨vs, hm.dictOf⟩, ?_⟩)
    refine wpAny_pyIter_items (knd := mixKind X.prog X.w) ⟨_, Heap.get?_push_size s1.heap rfl, rfl, rfl⟩ (hm.push _) (pi_one (tk := s1.toks) J2 _ (turn_itX _ k2) ⟨.none, .none, ?_⟩ q)
    rw [Paired.length kv]
    exact Heap.get?_push_size _ rfl
theorem walk_itX {d : Addr} {o : Obj} {l : List (Key × V)} : Walk (ItX d o l) l.length (fun H => H d = some (.frz o (.dK l))) (ItX d o l).yld where
  goes _ _ hi h := ⟨h, hi⟩
  stops _ h := ⟨h, Nat.le_refl _⟩
  yields _ _ _ _ _ _ y := y
/-- what walks a locked dict -/
def WkD (F : Fx) (mk : List (W × W) → List W) (J : Addr → Obj → List (Key × V) → It) : Prop := ∀ (d : Addr) (o : Obj) (kvs : List (Key × V)) (l : List (W × W)) (ι : List Addr) (S : Store) (B : Addr → Prop) (H : Hp),
  H d = some (.frz o (.dK kvs)) → ¬ Oq ι S B d → RpD F H (Oq ι S B) l kvs → WalkW F ι S B H (J d o kvs) (mk l)
theorem wkd_keys {F : Fx} : WkD F keysW Itk := by
  intro d o kvs l ι S B H hd nd r
  refine ⟨_, _, by have := walk_keys (d := d) (o := o) (kvs := kvs); unfold keysW; rw [List.length_map, r.1]; exact this, fun ι1 S1 B1 H1 x ow R1 => ⟨x d _ hd nd, fun i y H2 w hw hy => ?_⟩⟩
  obtain ⟨rfl, k, v, hk, rfl⟩ := hy
  unfold keysW at hw
  rw [List.getElem?_map] at hw
  cases e : l[i]? with
  | none => rw [e] at hw; cases hw
  | some p =>
    rw [e] at hw
    cases some_inj hw
    exact ⟨(r.2.1 i p (k, v) e hk).ext x ow, R1, .refl, fun _ _ z => z⟩
theorem wkd_items {F : Fx} : WkD F itemsW ItX := by
  intro d o kvs l ι S B H hd nd r
  refine ⟨_, _, by have := walk_itX (d := d) (o := o) (l := kvs); unfold itemsW; rw [List.length_map, r.1]; exact this, fun ι1 S1 B1 H1 x ow R1 => ⟨x d _ hd nd, fun i y H2 w hw hy => ?_⟩⟩
  obtain ⟨T, q, ob, hq, rfl, hT, ho, rfl⟩ := hy
  unfold itemsW at hw
  rw [List.getElem?_map] at hw
  cases e : l[i]? with
  | none => rw [e] at hw; cases hw
  | some p =>
    rw [e] at hw
    cases some_inj hw
    obtain ⟨f1, f2, f3⟩ := R1.fresh (TupO ob [kV q.1, q.2]) hT
    refine ⟨Rp.mkTup (.inl ⟨⟨ob, upd_same, ho⟩, f3⟩) (.cons (((r.2.1 i p q e hq).ext x ow).go f2) (.cons (((r.2.2 i p q e hq).ext x ow).go f2) .nil)), f1, f2, fun y z hz => ?_⟩
    rw [upd_ne (ne_of_none hz hT)]; exact hz
section
variable {F : Fx} {Wx : WX} {ι : List Addr} {S : Store} {B : Addr → Prop} {H : Hp} {d : Addr} {kvs : List (Key × V)} {od : Obj} {D : Ends}
/-- the ends under the lock -/
def lkE (d : Addr) (u : HO) (od : Obj) (D : Ends) : Ends := ⟨fun σ' H' => H' d = some (.frz od u) ∧ D.nx σ' (upd H' d u), fun v H' => H' d = some (.frz od u) ∧ D.rt v (upd H' d u), fun σ' H' => H' d = some (.frz od u) ∧ D.bk σ' (upd H' d u), fun σ' H' => H' d = some (.frz od u) ∧ D.ct σ' (upd H' d u)⟩
theorem PoS.lock (hd : H d = some (.dK kvs)) (nd : ¬ Oq ι S B d) {f : Fl} {S' : Store} (h : PoS F Wx ι S B H (.ok f S') D) : PoS F Wx ι S B (upd H d (.frz od (.dK kvs))) (.ok f S') (lkE d (.dK kvs) od D) := by
  have key : ∀ (H' : Hp) (ι' : List Addr), Go ι S (upd H d (.frz od (.dK kvs))) ι' S' H' → RS F ι' S' B H' → H' d = some (.frz od (.dK kvs)) ∧ Go ι S H ι' S' (upd H' d (.dK kvs)) ∧ RS F ι' S' B (upd H' d (.dK kvs)) ∧ Sw d kvs H' (upd H' d (.dK kvs)) := fun H' ι' G R => by
    have e1 : H' d = some (.frz od (.dK kvs)) := G.ext d _ upd_same fun z => nd (.inl z)
    have sw : Sw d kvs H' (upd H' d (.dK kvs)) := ⟨fun a h => upd_ne h, .inr ⟨od, e1⟩, .inl upd_same⟩
    have nd' : ¬ Oq ι' S' B d := fun z => by
      rcases G.ownq d z with q | q
      · exact nd q
      · rw [upd_same] at q; cases q
    exact ⟨e1, G.sw (fun a h => upd_ne h) (fun a h => upd_ne h) (by rw [upd_same, hd]) ⟨_, upd_same⟩, R.sw sw nd', sw⟩
  cases f with
  | nx e => exact fun σ' H' ι' G R E => let ⟨k1, k2, k3, k4⟩ := key H' ι' G R; ⟨k1, h σ' _ ι' k2 k3 (E.sw k4)⟩
  | bk e => exact fun σ' H' ι' G R E => let ⟨k1, k2, k3, k4⟩ := key H' ι' G R; ⟨k1, h σ' _ ι' k2 k3 (E.sw k4)⟩
  | ct e => exact fun σ' H' ι' G R E => let ⟨k1, k2, k3, k4⟩ := key H' ι' G R; ⟨k1, h σ' _ ι' k2 k3 (E.sw k4)⟩
  | rt u => exact fun v H' ι' G R r => let ⟨k1, k2, k3, k4⟩ := key H' ι' G R; ⟨k1, h v _ ι' k2 k3 (RU.sw k4 r)⟩
end
section
variable {ec : Nat → Value} {X : Cx} {tg iter : Expr} {body : List Stmt} {pos : Pos} {ds : DS}
/-- the turns of a loop -/
theorem for_turns {g : TG} {t : W → Env' → Option Env'} {sl : List Nat} {Wx : WX} {D : Ends} {σ : L2.St} {H : Hp} {ι : List Addr} {S : Store} {B : Addr → Prop} {env : Env'} {J : It} {ws : List W}
    (a2 : GSem (fx ec X) g t sl) (R : RS (fx ec X) ι S B H) (E : ER (fx ec X) H ι S B env σ) (h : PoS (fx ec X) Wx ι S B H (dLoop t ds ws env S) D) (hw : WalkW (fx ec X) ι S B H J ws) :
    ∃ Wn : Nat → Nat → L2.St → Hp → Prop, (∃ m, Wn 0 m σ H) ∧ ∀ (i m : Nat) (σ : L2.St) (H : Hp), Wn i m σ H → J.stop i H ∧ D.nx σ H ∨ J.go i H ∧ ∃ N, (∀ (σ' : L2.St) (H' : Hp), N σ' H' → ∃ m', m' < m ∧ Wn (i + 1) m' σ' H') ∧
      ∀ (x : V) (H' : Hp), J.yld i H x H' → g x σ H' fun σ2 H2 => LS (fx ec X) Wx ds ⟨N, D.rt, D.nx, N⟩ σ2 H2 := by
  obtain ⟨G, Y, wk, st⟩ := hw
  refine for_it wk (fun i σ' H' => ∃ (env' : Env') (S' : Store) (ι' : List Addr), Go ι S H ι' S' H' ∧ RS (fx ec X) ι' S' B H' ∧ ER (fx ec X) H' ι' S' B env' σ' ∧ PoS (fx ec X) Wx ι' S' B H' (dLoop t ds (ws.drop i) env' S') D)
    ⟨env, S, ι, .refl, R, E, by rw [List.drop_zero]; exact h⟩ (fun i σ' H' _ ⟨_, _, _, G', R', _, _⟩ => (st _ _ _ _ G'.lo.1 G'.lo.2 R').1) ?_ ?_
  · rintro i x σ' H' H2 hi ⟨env', S', ι', G', R', E', h'⟩ hy
    have hw : ws[i]? = some ws[i] := by simp [hi]
    obtain ⟨rx, R2, G2, _⟩ := (st _ _ _ _ G'.lo.1 G'.lo.2 R').2 i x H2 ws[i] hw hy
    have hd : ws.drop i = ws[i] :: ws.drop (i + 1) := List.drop_eq_getElem_cons hi
    rw [hd] at h'
    unfold dLoop at h'
    cases e1 : t ws[i] env' with
    | none => simp only [e1] at h'; exact h'.elim
    | some env1 =>
      simp only [e1] at h'
      refine a2 ws[i] env' env1 e1 x σ' H2 ι' S' B _ rx (E'.go G2) fun σ2 E2 _ => ?_
      refine ⟨env1, S', ι', B, R2, E2, ?_⟩
      have h2 := h'.go G2
      cases e2 : ds env1 S' with
      | no => simp only [e2] at h2; exact h2
      | ex c e3 S3 => simp only [e2] at h2; exact h2
      | ok f S3 =>
        cases f with
        | nx e3 =>
          simp only [e2] at h2
          exact fun σ3 H3 ι3 G3 R3 E3 => ⟨e3, S3, ι3, G'.trans (G2.trans G3), R3, E3, h2.go G3⟩
        | ct e3 =>
          simp only [e2] at h2
          exact fun σ3 H3 ι3 G3 R3 E3 => ⟨e3, S3, ι3, G'.trans (G2.trans G3), R3, E3, h2.go G3⟩
        | bk e3 => simp only [e2] at h2; exact h2
        | rt u => simp only [e2] at h2; exact h2
  · rintro σ' H' ⟨env', S', ι', G', R', E', h'⟩
    rw [List.drop_length] at h'
    exact h' σ' H' ι' .refl R' E'
theorem _root_.L2.PS.either {st : Stmt} {t t' : TS} (h : PS X st t) (h' : PS X st t') : PS X st (fun D σ H => t D σ H ∨ t' D σ H) := ⟨fun pins s σ H D I q => q.elim (h.run pins s σ H D I) (h'.run pins s σ H D I)⟩
theorem for_lock {g : TG} {t : W → Env' → Option Env'} {sl : List Nat} {mk : List (W × W) → List W} {J : Addr → Obj → List (Key × V) → It} {i : Nat} {wi : WX → TI} (hc : X.calm = true) (hw : WkD (fx ec X) mk J)
    (hi : ∀ pn xe Wx, Takes (X.tr pn xe) Wx → PI (X.tr pn xe) tg iter (wi Wx))
    (hJ : ∀ (Wx : WX) (σ : L2.St) (H : Hp) (d : Addr) (od : Obj) (kvs : List (Key × V)) (R : It → Hp → Prop), σ[i]? = some (some (.ref d)) → H d = some (.frz od (.dK kvs)) → R (J d od kvs) H → wi Wx σ H R)
    (hg : PGv ec X tg g t sl) (hb : PSsv ec X body ds) (hs : ∀ x, foldedSetIterable iter X.env x = pure x := by intro _; rfl) : PSv ec X (.For tg iter body [] pos) (dForD mk i t ds) := by
  obtain ⟨a1, a2⟩ := hg
  refine ⟨fun pn xe Wx tk po => ?_⟩
  have P := ps_for (X := X.tr pn xe) (pos := pos) po hc (hi pn xe Wx tk) (a1 pn xe) (hb.run pn xe Wx tk po) hs
  refine ((ps_lock P).either P).imp fun D σ H ⟨env, S, ι, B, R, E, h⟩ => ?_
  unfold dForD at h
  split at h
  · rename_i l ei
    obtain ⟨v, hv, rv⟩ := E.get i _ ei
    obtain ⟨d, kvs, rfl, ⟨hrd, nd⟩, rl⟩ := Rp.dct_inv rv
    split at h
    · rename_i f S' er
      rcases hrd with hd | ⟨od, hd⟩
      · left
        refine ⟨d, .dK kvs, hd, trivial, fun od => ?_⟩
        have sw : Sw d kvs H (upd H d (.frz od (.dK kvs))) := ⟨fun a h => upd_ne h, .inl hd, .inr ⟨od, upd_same⟩⟩
        refine hJ Wx σ _ d od kvs _ hv upd_same ?_
        have h' := PoS.lock (od := od) hd nd h
        rw [← er] at h'
        exact for_turns a2 (R.sw sw nd) (E.sw sw) h' (hw d od kvs l ι S B _ upd_same nd (rl.sw sw))
      · right
        refine hJ Wx σ _ d od kvs _ hv hd ?_
        rw [← er] at h
        exact for_turns a2 R E h (hw d od kvs l ι S B _ hd nd rl)
    · exact h.elim
  · exact h.elim
/-- for k in d -/
theorem sv_forK {g : TG} {t : W → Env' → Option Env'} {sl : List Nat} {i : Nat} {x : Str} {p : Pos} (hc : X.calm = true) (hN : X.N[i]? = some x) (hv : Vis X.env.scope x) (hg : PGv ec X tg g t sl) (hb : PSsv ec X body ds)
    (hd : (x == ("__debug__" : Str)) = false := by decide) (hcd : (x == ("__classdict__" : Str)) = false := by decide) (hs : ∀ y, foldedSetIterable (.Name x p) X.env y = pure y := by intro _; rfl) : PSv ec X (.For tg (.Name x p) body [] pos) (dForD keysW i t ds) :=
  for_lock (wi := fun _ => iKeys (tVar i)) hc wkd_keys (fun pn xe Wx tk => pi_keys (pe_var (X := X.tr pn xe) hN hv hd hcd)) (fun Wx σ H d od kvs R h1 h2 h3 => ⟨.ref d, h1, d, od, rfl, .inl ⟨kvs, h2, h3⟩⟩) hg hb hs
/-- for k, v in d.items() -/
theorem sv_forI {g : TG} {t : W → Env' → Option Env'} {sl : List Nat} {i : Nat} {x : Str} {p apos cpos tpos : Pos} {elts : List Expr} {kk : Nat} (hc : X.calm = true) (hN : X.N[i]? = some x) (hv : Vis X.env.scope x) (hg : PGv ec X (.Tuple elts kk tpos) g t sl) (hb : PSsv ec X body ds)
    (hd : (x == ("__debug__" : Str)) = false := by decide) (hcd : (x == ("__classdict__" : Str)) = false := by decide) (hline : (apos.endLine == cpos.line) = true := by rfl) (hbase : attributeBase (.Name x p) "items" X.env (eval (.Name x p) X.env) = eval (.Name x p) X.env := by rfl)
    (hs : ∀ y, foldedSetIterable (.Call (.Attribute (.Name x p) "items" apos) [] [] cpos) X.env y = pure y := by intro _; rfl) : PSv ec X (.For (.Tuple elts kk tpos) (.Call (.Attribute (.Name x p) "items" apos) [] [] cpos) body [] pos) (dForD itemsW i t ds) :=
  for_lock (wi := fun _ => iItX (tVar i)) hc wkd_items (fun pn xe Wx tk => pi_itX (pe_var (X := X.tr pn xe) hN hv hd hcd) hbase hline) (fun Wx σ H d od kvs R h1 h2 h3 => ⟨.ref d, h1, d, od, kvs, rfl, h2, h3⟩) hg hb hs
end
end Bel

/-! The engine, part Nc: zip of two things that are drawn from. -/
namespace Bel
open PySem PySem.Spec PyProof.Rows L2
theorem drawsT {P : Program} {w : World} {A : Around} (hh : A.handled = none) (it l : Addr) (hne : l ≠ it) (items : Array Value) :
    Draws P w A it [it, l] items.size (fun i v => items[i]? = some v) fun i h => h.IsTupleIter it l i ∧ h.IsTuple l items where
  live i h st := by obtain ⟨⟨o, h1, _⟩, _⟩ := st; exact ⟨o, h1⟩
  frame i h h' st k := by
    obtain ⟨⟨o, h1, h2, h3⟩, o2, h4, h5⟩ := st
    exact ⟨⟨o, k it (by simp) o h1, h2, h3⟩, o2, k l (by simp) o2 h4, h5⟩
  item i s Q E hi st hq := by
    obtain ⟨x, hx⟩ : ∃ x, items[i]? = some x := ⟨items[i], by simp [hi]⟩
    refine RZ.nextOf_tuple_item st.1 st.2 hx fun h' h1 sb => hq x h' s.toks hx ⟨h1, ?_⟩ sb
    obtain ⟨o2, h4, h5⟩ := st.2
    exact ⟨o2, (sb.2 l hne).trans h4, h5⟩
  done s Q E st hq := RZ.nextOf_tuple_end hh st.1 st.2 (by simp) fun h' e eb ho => hq h' e eb ho
/-- what is apart -/
structure ZApart (z TI TO i1 i2 : Addr) (fp1 fp2 : List Addr) : Prop where
  TIz : TI ≠ z
  TOz : TO ≠ z
  TITO : TI ≠ TO
  z1 : z ∉ fp1
  z2 : z ∉ fp2
  TO1 : TO ∉ fp1
  TO2 : TO ∉ fp2
  TIi1 : TI ≠ i1
  TIi2 : TI ≠ i2
  m1 : i1 ∈ fp1
  m2 : i2 ∈ fp2
  i12 : i1 ∉ fp2
  i21 : i2 ∉ fp1
theorem zipD_item {P : Program} {w : World} {A : Around} {E : Value → Shared → Prop} {s : Shared} {z TI TO i1 i2 : Addr} {fp1 fp2 : List Addr} {n1 n2 k : Nat} {P1 P2 : Nat → Value → Prop} {St1 St2 : Nat → Heap → Prop} {a b : Value} {Q : Value → Shared → Prop}
    (D1 : Draws P w A i1 fp1 n1 P1 St1) (D2 : Draws P w A i2 fp2 n2 P2 St2) (Z : ZApart z TI TO i1 i2 fp1 fp2) (hz : IsZip s.heap z TI TO Value.none) (hTI : IsPair s.heap TI (Value.ref i1) (Value.ref i2)) (hTO : IsPair s.heap TO a b)
    (s1 : St1 k s.heap) (s2 : St2 k s.heap) (l1 : k < n1) (l2 : k < n2)
    (hQ : ∀ (x y : Value) (h' : Heap) (tk : Nat), P1 k x → P2 k y → IsZip h' z TI TO (rawInt s.heap.objs.size) → IsPair h' TO x y → St1 (k + 1) h' → St2 (k + 1) h' → IsPair h' s.heap.objs.size x y → h'.objs.size = s.heap.objs.size + 1 →
      (∀ (c : Addr) (o : Obj), c ≠ z → c ≠ TO → c ≠ i1 → c ≠ i2 → s.heap.get? c = some o → h'.get? c = some o) → Q (Value.ref s.heap.objs.size) { s with heap := h', toks := tk }) :
    wpAny (model P w) A (Builtin.«zip.__next__» { pos := [Value.ref z] }) (fun fin s' => ∃ v, fin = Fin.done (Flow.ret v) ∧ Q v s') E s := by
  show wpAny (model P w) A (Bind.bind (field (Value.ref z) 2) _) _ E s
  refine wpAny_bind (wpAny_field hz rfl rfl (id (wpAny_bind (wpAny_field hz rfl rfl (wpAny_bind (wpAny_seqItems hTI rfl ?_))))))
  refine id (wpAny_bind (id (wpAny_bind (wpAny_field hz rfl rfl (wpAny_pure ?_)))))
  refine wpAny_bind (wpAny_rule (wpAny_bind (wpAny_field hz rfl rfl (wpAny_bind (wpAny_setField_rec hz (show 0 < 5 by decide) fun h1 hz1 sb1 => ?_)))))
  have t1 : IsPair h1 TO a b := (sb1.2 TO Z.TOz).trans hTO
  have d1 : St1 k h1 := D1.frame k s.heap h1 s1 fun c hc o q => (sb1.2 c fun e => Z.z1 (by rw [← e]; exact hc)).trans q
  have d2 : St2 k h1 := D2.frame k s.heap h1 s2 fun c hc o q => (sb1.2 c fun e => Z.z2 (by rw [← e]; exact hc)).trans q
  refine wpAny_bind ?_
  refine id (wpAny_bind (id (wpAny_bind (wpAny_onRaise ?_))))
  refine id (wpAny_bind (D1.item k _ _ _ l1 d1 fun x h2 tk2 px d1' sb2 => ?_))
  have ne1 : TO ≠ i1 := fun e => Z.TO1 (by rw [e]; exact Z.m1)
  have ne2 : TO ≠ i2 := fun e => Z.TO2 (by rw [e]; exact Z.m2)
  have z1 : z ≠ i1 := fun e => Z.z1 (by rw [e]; exact Z.m1)
  have z2 : z ≠ i2 := fun e => Z.z2 (by rw [e]; exact Z.m2)
  have t2 : IsPair h2 TO a b := (sb2.2 TO ne1).trans t1
  have hz2 := (sb2.2 z z1).trans hz1
  have d2' : St2 k h2 := D2.frame k h1 h2 d2 fun c hc o q => (sb2.2 c fun e => Z.i12 (by rw [← e]; exact hc)).trans q
  refine wpAny_pure (id (wpAny_bind (wpAny_seqItems t2 rfl (id (wpAny_bind (wpAny_updateSeq_pair t2 fun h3 t3 sb3 => id (wpAny_bind (wpAny_letGo (wpAny_pure ?_)))))))))
  have d1_3 : St1 (k + 1) h3 := D1.frame (k + 1) h2 h3 d1' fun c hc o q => (sb3.2 c fun e => Z.TO1 (by rw [← e]; exact hc)).trans q
  have d2_3 : St2 k h3 := D2.frame k h2 h3 d2' fun c hc o q => (sb3.2 c fun e => Z.TO2 (by rw [← e]; exact hc)).trans q
  have hz3 := (sb3.2 z (Ne.symm Z.TOz)).trans hz2
  refine id (wpAny_bind (id (wpAny_bind (wpAny_onRaise ?_))))
  refine id (wpAny_bind (D2.item k _ _ _ l2 d2_3 fun y h4 tk4 py d2_4 sb4 => ?_))
  have t4 : IsPair h4 TO x b := (sb4.2 TO ne2).trans t3
  have hz4 := (sb4.2 z z2).trans hz3
  have d1_4 : St1 (k + 1) h4 := D1.frame (k + 1) h3 h4 d1_3 fun c hc o q => (sb4.2 c fun e => Z.i21 (by rw [← e]; exact hc)).trans q
  refine wpAny_pure (id (wpAny_bind (wpAny_seqItems t4 rfl (id (wpAny_bind (wpAny_updateSeq_pair t4 fun h5 t5 sb5 => id (wpAny_bind (wpAny_letGo (wpAny_pure ?_)))))))))
  have t5' : IsPair h5 TO x y := t5
  have d1_5 : St1 (k + 1) h5 := D1.frame (k + 1) h4 h5 d1_4 fun c hc o q => (sb5.2 c fun e => Z.TO1 (by rw [← e]; exact hc)).trans q
  have d2_5 : St2 (k + 1) h5 := D2.frame (k + 1) h4 h5 d2_4 fun c hc o q => (sb5.2 c fun e => Z.TO2 (by rw [← e]; exact hc)).trans q
  have hz5 := (sb5.2 z (Ne.symm Z.TOz)).trans hz4
  refine wpAny_pure (id (wpAny_bind (wpAny_seqItems t5' rfl (id (wpAny_bind (wpAny_newTuple ?_ (show 2 ≤ sizeLine from by decide)))))))
  have hsz : h5.objs.size = s.heap.objs.size := by rw [sb5.1, sb4.1, sb3.1, sb2.1, sb1.1]
  have hz6 := Heap.get?_push_of_some { cls := Value.type "tuple", data := Data.seq [x, y].toArray } hz5
  refine id (wpAny_bind (id (wpAny_bind (wpAny_setField_rec hz6 (show 0 < 5 by decide) fun h7 hz7 sb7 => ?_))))
  refine wpAny_setField_rec hz7 (show 1 < 5 by decide) fun h8 hz8 sb8 => wpAny_pure ⟨_, rfl, ?_⟩
  have hlz : z < h5.objs.size := Heap.lt_size hz5
  have old : ∀ (c : Addr) (o : Obj), c ≠ z → h5.get? c = some o → h8.get? c = some o := fun c o hc q =>
    (sb8.2 c hc).trans ((sb7.2 c hc).trans (Heap.get?_push_of_some _ q))
  have oldS : ∀ (c : Addr), c ≠ z → ∀ (o : Obj), h5.get? c = some o → h8.get? c = some o := fun c hc o q => old c o hc q
  have hnew : h8.get? h5.objs.size = some { cls := Value.type "tuple", data := Data.seq #[x, y] } :=
    (sb8.2 _ (Nat.ne_of_gt hlz)).trans ((sb7.2 _ (Nat.ne_of_gt hlz)).trans (Heap.get?_push_size h5 rfl))
  have hz8' : IsZip h8 z TI TO (rawInt s.heap.objs.size) := by rw [← hsz]; exact hz8
  have hn8 : IsPair h8 s.heap.objs.size x y := by rw [← hsz]; exact hnew
  have hs8 : h8.objs.size = s.heap.objs.size + 1 := by rw [sb8.1, sb7.1, ← hsz]; simp [Heap.push]
  have hq := hQ x y h8 tk4 px py hz8' (old TO _ Z.TOz t5') (D1.frame (k + 1) h5 h8 d1_5 fun c hc o q => old c o (fun e => Z.z1 (by rw [← e]; exact hc)) q) (D2.frame (k + 1) h5 h8 d2_5 fun c hc o q => old c o (fun e => Z.z2 (by rw [← e]; exact hc)) q) hn8 hs8
    (fun c o cz cT c1 c2 q => old c o cz ((sb5.2 c cT).trans ((sb4.2 c c2).trans ((sb3.2 c cT).trans ((sb2.2 c c1).trans ((sb1.2 c cz).trans q))))))
  rw [← hsz] at hq
  exact hq
theorem zipD_end {P : Program} {w : World} {A : Around} {E : Value → Shared → Prop} {s : Shared} {z TI TO i1 i2 : Addr} {fp1 fp2 : List Addr} {n1 n2 k : Nat} {P1 P2 : Nat → Value → Prop} {St1 St2 : Nat → Heap → Prop} {a b : Value} {Q : PySem.Fin → Shared → Prop}
    (D1 : Draws P w A i1 fp1 n1 P1 St1) (D2 : Draws P w A i2 fp2 n2 P2 St2) (Z : ZApart z TI TO i1 i2 fp1 fp2) (hz : IsZip s.heap z TI TO Value.none) (hTI : IsPair s.heap TI (Value.ref i1) (Value.ref i2)) (hTO : IsPair s.heap TO a b)
    (s1 : St1 k s.heap) (s2 : St2 k s.heap) (hk : k = n1 ∨ (k < n1 ∧ k = n2))
    (hQ : ∀ (h' : Heap) (e : Addr) (tk : Nat), (∀ (c : Addr) (o : Obj), c ≠ z → c ≠ TO → c ≠ i1 → c ≠ i2 → s.heap.get? c = some o → h'.get? c = some o) → (∃ o, h'.get? e = some o ∧ o.cls = Value.type "StopIteration") → E (Value.ref e) { s with heap := h', toks := tk }) :
    wpAny (model P w) A (Builtin.«zip.__next__» { pos := [Value.ref z] }) Q E s := by
  show wpAny (model P w) A (Bind.bind (field (Value.ref z) 2) _) _ E s
  refine wpAny_bind (wpAny_field hz rfl rfl (id (wpAny_bind (wpAny_field hz rfl rfl (wpAny_bind (wpAny_seqItems hTI rfl ?_))))))
  refine id (wpAny_bind (id (wpAny_bind (wpAny_field hz rfl rfl (wpAny_pure ?_)))))
  refine wpAny_bind (wpAny_rule (wpAny_bind (wpAny_field hz rfl rfl (wpAny_bind (wpAny_setField_rec hz (show 0 < 5 by decide) fun h1 hz1 sb1 => ?_)))))
  have t1 : IsPair h1 TO a b := (sb1.2 TO Z.TOz).trans hTO
  have d1 : St1 k h1 := D1.frame k s.heap h1 s1 fun c hc o q => (sb1.2 c fun e => Z.z1 (by rw [← e]; exact hc)).trans q
  have d2 : St2 k h1 := D2.frame k s.heap h1 s2 fun c hc o q => (sb1.2 c fun e => Z.z2 (by rw [← e]; exact hc)).trans q
  have ne1 : TO ≠ i1 := fun e => Z.TO1 (by rw [e]; exact Z.m1)
  have ne2 : TO ≠ i2 := fun e => Z.TO2 (by rw [e]; exact Z.m2)
  have z1 : z ≠ i1 := fun e => Z.z1 (by rw [e]; exact Z.m1)
  have z2 : z ≠ i2 := fun e => Z.z2 (by rw [e]; exact Z.m2)
  refine wpAny_bind ?_
  refine id (wpAny_bind (id (wpAny_bind (wpAny_onRaise ?_))))
  rcases hk with rfl | ⟨l1, rfl⟩
  · refine id (wpAny_bind (D1.done _ _ _ d1 fun h2 e eb he => ?_))
    have hz2 := eb z _ z1 hz1
    refine wpAny_setField_rec hz2 (show 0 < 5 by decide) fun h3 hz3 sb3 => ?_
    obtain ⟨o, ho, hc⟩ := he
    have hez : e ≠ z := fun q => by rw [q, hz2] at ho; cases ho; simp at hc
    exact hQ h3 e _ (fun c o cz cT c1 c2 q => (sb3.2 c cz).trans (eb c o c1 ((sb1.2 c cz).trans q))) ⟨o, (sb3.2 e hez).trans ho, hc⟩
  · refine id (wpAny_bind (D1.item k _ _ _ l1 d1 fun x h2 tk2 px d1' sb2 => ?_))
    have t2 : IsPair h2 TO a b := (sb2.2 TO ne1).trans t1
    have hz2 := (sb2.2 z z1).trans hz1
    have d2' : St2 k h2 := D2.frame k h1 h2 d2 fun c hc o q => (sb2.2 c fun e => Z.i12 (by rw [← e]; exact hc)).trans q
    refine wpAny_pure (id (wpAny_bind (wpAny_seqItems t2 rfl (id (wpAny_bind (wpAny_updateSeq_pair t2 fun h3 t3 sb3 => id (wpAny_bind (wpAny_letGo (wpAny_pure ?_)))))))))
    have d2_3 : St2 k h3 := D2.frame k h2 h3 d2' fun c hc o q => (sb3.2 c fun e => Z.TO2 (by rw [← e]; exact hc)).trans q
    have hz3 := (sb3.2 z (Ne.symm Z.TOz)).trans hz2
    refine id (wpAny_bind (id (wpAny_bind (wpAny_onRaise ?_))))
    refine id (wpAny_bind (D2.done _ _ _ d2_3 fun h4 e eb he => ?_))
    have hz4 := eb z _ z2 hz3
    refine wpAny_setField_rec hz4 (show 0 < 5 by decide) fun h5 hz5 sb5 => ?_
    obtain ⟨o, ho, hc⟩ := he
    have hez : e ≠ z := fun q => by rw [q, hz4] at ho; cases ho; simp at hc
    exact hQ h5 e _ (fun c o cz cT c1 c2 q => (sb5.2 c cz).trans (eb c o c2 ((sb3.2 c cT).trans ((sb2.2 c c1).trans ((sb1.2 c cz).trans q))))) ⟨o, (sb5.2 e hez).trans ho, hc⟩
end Bel

/-! The engine, part Nd: zip of a list and a tuple. -/
namespace Bel
open PySem PySem.Spec PyProof.Rows L2
abbrev mzH1 (h : Heap) (l1 : Addr) : Heap := h.push { cls := Value.type "list_iterator", data := Data.fields #[Value.ref l1, Value.int 0 0] }
abbrev mzH2 (h : Heap) (l1 l2 : Addr) : Heap := (mzH1 h l1).push { cls := Value.type "tuple_iterator", data := Data.fields #[Value.ref l2, Value.int 0 0] }
abbrev mzH3 (h : Heap) (l1 l2 : Addr) : Heap := (mzH2 h l1 l2).push { cls := Value.type "tuple", data := Data.seq #[Value.ref h.objs.size, Value.ref (mzH1 h l1).objs.size] }
abbrev mzH4 (h : Heap) (l1 l2 : Addr) : Heap := (mzH3 h l1 l2).push { cls := Value.type "tuple", data := Data.seq #[Value.none, Value.none] }
abbrev mzH5 (h : Heap) (l1 l2 : Addr) : Heap := (mzH4 h l1 l2).push { cls := Value.type "zip", data := Data.fields #[Value.none, Value.bool false, Value.bool false, Value.ref (mzH2 h l1 l2).objs.size, Value.ref (mzH3 h l1 l2).objs.size] }
theorem meets_zipM_new (l1 l2 : Addr) (xs ys : Array Value) : Meets (Builtin.«zip.__new__» { pos := [Value.type "zip", Value.ref l1, Value.ref l2] }) fun _ R s =>
    s.heap.IsList l1 xs ∧ s.heap.IsTuple l2 ys ∧ R (Except.ok (Flow.ret (Value.ref (mzH4 s.heap l1 l2).objs.size))) { s with heap := mzH5 s.heap l1 l2 } :=
  Meets.of_wp fun prog w A R s h => by
    obtain ⟨hp, g, d, tk, os⟩ := s
    obtain ⟨hl1, hl2, h⟩ := h
    have hsub := sub_zip
    have hL2 := Heap.IsTuple.push hl2 { cls := Value.type "list_iterator", data := Data.fields #[Value.ref l1, Value.int 0 0] }
    refine id (wpAny_bind (id (wpAny_bind (id (wpAny_pure (wpAny_ite_false (by decide) (wpAny_bind (wpAny_of_eq hsub (wpAny_ite_false (by decide) (wpAny_pure (wpAny_ite_false (by rfl) ?_)))))))))))
    refine wpAny_bind (id (wpAny_bind (id (id (id (id (wpAny_bind (wpAny_bind (wpAny_holding (wpAny_pyIter_list hl1 (wpAny_pure ?_)))))))))))
    refine id (id (wpAny_bind (wpAny_bind (wpAny_holding (wpAny_pyIter_tuple hL2 (wpAny_pure ?_))))))
    refine id (id (wpAny_pure (wpAny_pure ?_)))
    refine wpAny_bind (wpAny_newTuple ?_ (show 2 ≤ sizeLine from by decide))
    refine wpAny_bind (wpAny_newTuple ?_ (show 2 ≤ sizeLine from by decide))
    refine wpAny_bind ?_
    unfold Builtin.SmallTypes.newRecord
    dsimp only
    unfold newObj
    refine wpAny_ite_false ?h1 ?h2
    case h1 => rfl
    case h2 => exact wpAny_bind (wpAny_alloc' (wpAny_pure (wpAny_pure ⟨_, rfl, h⟩)))
theorem call_zipM {P : Program} {w : World} {A : Around} {E : Value → Shared → Prop} {s : Shared} {l1 l2 : Addr} {xs ys : Array Value} {Q : Value → Shared → Prop} (hl1 : s.heap.IsList l1 xs) (hl2 : s.heap.IsTuple l2 ys)
    (h : ∀ h' : Heap, IsZip h' (s.heap.objs.size + 4) (s.heap.objs.size + 2) (s.heap.objs.size + 3) Value.none → IsPair h' (s.heap.objs.size + 2) (Value.ref s.heap.objs.size) (Value.ref (s.heap.objs.size + 1)) → IsPair h' (s.heap.objs.size + 3) Value.none Value.none →
      h'.IsListIter s.heap.objs.size l1 0 → h'.IsTupleIter (s.heap.objs.size + 1) l2 0 → h'.objs.size = s.heap.objs.size + 5 → (∀ (c : Addr) (o : Obj), s.heap.get? c = some o → h'.get? c = some o) → Q (Value.ref (s.heap.objs.size + 4)) { s with heap := h' }) :
    wpAny (model P w) A (call (Value.type "zip") [Value.ref l1, Value.ref l2]) Q E s := by
  refine callType_new F.called_zip (by decide) (F.typeCall_zip_2 (Value.ref l1) (Value.ref l2)) (F.newCall_zip_2 (Value.ref l1) (Value.ref l2)) (fun obj => F.args_object_init_3 obj (Value.ref l1) (Value.ref l2)) F.entry_zip_new (meets_zipM_new l1 l2 xs ys) ⟨hl1, hl2, ?_⟩
  have z1 : (mzH1 s.heap l1).objs.size = s.heap.objs.size + 1 := Heap.size_push _ _
  have z2 : (mzH2 s.heap l1 l2).objs.size = s.heap.objs.size + 2 := by rw [Heap.size_push, z1]
  have z3 : (mzH3 s.heap l1 l2).objs.size = s.heap.objs.size + 3 := by rw [Heap.size_push, z2]
  have z4 : (mzH4 s.heap l1 l2).objs.size = s.heap.objs.size + 4 := by rw [Heap.size_push, z3]
  have z5 : (mzH5 s.heap l1 l2).objs.size = s.heap.objs.size + 5 := by rw [Heap.size_push, z4]
  have g5 : (mzH5 s.heap l1 l2).get? (s.heap.objs.size + 4) = some { cls := Value.type "zip", data := Data.fields #[Value.none, Value.bool false, Value.bool false, Value.ref (mzH2 s.heap l1 l2).objs.size, Value.ref (mzH3 s.heap l1 l2).objs.size] } := by
    rw [← z4]; exact Heap.get?_push_size _ rfl
  have g4 : (mzH4 s.heap l1 l2).get? (s.heap.objs.size + 3) = some { cls := Value.type "tuple", data := Data.seq #[Value.none, Value.none] } := by
    rw [← z3]; exact Heap.get?_push_size _ rfl
  have g3 : (mzH3 s.heap l1 l2).get? (s.heap.objs.size + 2) = some { cls := Value.type "tuple", data := Data.seq #[Value.ref s.heap.objs.size, Value.ref (mzH1 s.heap l1).objs.size] } := by
    rw [← z2]; exact Heap.get?_push_size _ rfl
  have g2 : (mzH2 s.heap l1 l2).get? (s.heap.objs.size + 1) = some { cls := Value.type "tuple_iterator", data := Data.fields #[Value.ref l2, Value.int 0 0] } := by
    rw [← z1]; exact Heap.get?_push_size _ rfl
  have g1 : (mzH1 s.heap l1).get? s.heap.objs.size = some { cls := Value.type "list_iterator", data := Data.fields #[Value.ref l1, Value.int 0 0] } := Heap.get?_push_size _ rfl
  have up := fun {h : Heap} {c : Addr} {o : Obj} (o' : Obj) (e : h.get? c = some o) => Heap.get?_push_of_some o' e
  rw [z2, z3] at g5
  rw [z1] at g3
  have q := h _ g5 (up _ (up _ g3)) (up _ g4) ⟨_, up _ (up _ (up _ (up _ g1))), rfl, rfl⟩ ⟨_, up _ (up _ (up _ g2)), rfl, rfl⟩ z5 fun c o e => up _ (up _ (up _ (up _ (up _ e))))
  rw [← z4] at q
  exact ⟨⟨_, Heap.get?_push_size _ rfl, rfl⟩, q⟩
/-- what a list, a tuple give -/
theorem drL {P : Program} {w : World} {A : Around} (hh : A.handled = none) (it l : Addr) (hne : l ≠ it) (items : Array Value) : Draws P w A it [it, l] items.size (fun i v => items[i]? = some v) fun i h => h.IsListIter it l i ∧ h.IsList l items := Draws.list hh it l hne items
def YPx (xs ys : Nat → Option V) : Nat → Hp → V → Hp → Prop := fun i H v H' => ∃ (T : Addr) (x y : V) (ob : Obj), v = .ref T ∧ H T = none ∧ (ob.dict = none ∧ H' = upd H T (TupO ob [x, y])) ∧ xs i = some x ∧ ys i = some y
def ItzM (K : PySem.W.Frag) (a b : Addr) : It := ⟨fun i H => ∃ xs ys x y, SqL K H a xs ∧ SqT K H b ys ∧ xs[i]? = some x ∧ ys[i]? = some y,
  fun i H v H' => ∃ (T : Addr) (x y : V) (ob : Obj), v = V.ref T ∧ H T = none ∧ (ob.dict = none ∧ H' = upd H T (TupO ob [x, y])) ∧ (∀ xs, SqL K H a xs → xs[i]? = some x) ∧ ∀ ys, SqT K H b ys → ys[i]? = some y,
  fun i H => ∃ xs ys, SqL K H a xs ∧ SqT K H b ys ∧ (xs.length = i ∨ (i < xs.length ∧ ys.length = i))⟩
theorem pyNext_zipD_item {P : Program} {w : World} {A : Around} {E : Value → Shared → Prop} {s : Shared} {z TI TO i1 i2 : Addr} {fp1 fp2 : List Addr} {n1 n2 k : Nat} {P1 P2 : Nat → Value → Prop} {St1 St2 : Nat → Heap → Prop} {a b : Value} {Q : Option Value → Shared → Prop}
    (D1 : Draws P w A.in1 i1 fp1 n1 P1 St1) (D2 : Draws P w A.in1 i2 fp2 n2 P2 St2) (Z : ZApart z TI TO i1 i2 fp1 fp2) (hz : IsZip s.heap z TI TO Value.none) (hTI : IsPair s.heap TI (Value.ref i1) (Value.ref i2)) (hTO : IsPair s.heap TO a b)
    (s1 : St1 k s.heap) (s2 : St2 k s.heap) (l1 : k < n1) (l2 : k < n2)
    (hQ : ∀ (x y : Value) (h' : Heap) (tk : Nat), P1 k x → P2 k y → IsZip h' z TI TO (rawInt s.heap.objs.size) → IsPair h' TO x y → St1 (k + 1) h' → St2 (k + 1) h' → IsPair h' s.heap.objs.size x y → h'.objs.size = s.heap.objs.size + 1 →
      (∀ (c : Addr) (o : Obj), c ≠ z → c ≠ TO → c ≠ i1 → c ≠ i2 → s.heap.get? c = some o → h'.get? c = some o) → Q (some (Value.ref s.heap.objs.size)) { s with heap := h', toks := tk }) :
    wpAny (model P w) A (pyNext (Value.ref z)) Q E s := by
  have hT : s.TypeIs (Value.ref z) "zip" := ⟨_, hz, rfl⟩
  exact id (wpAny_bind (wpAny_attempt (wpAny_callSpecial?_slot hT F.slot_zip_next (wpAny_call_entry F.slot_zip_next hT F.entry_zip_next (zipD_item D1 D2 Z hz hTI hTO s1 s2 l1 l2 fun x y h' tk a1 a2 a3 a4 a5 a6 a7 a8 a9 => wpAny_pure (hQ x y h' tk a1 a2 a3 a4 a5 a6 a7 a8 a9)) (F.args_zip_next_1 (Value.ref z))))))
theorem pyNext_zipD_end {P : Program} {w : World} {A : Around} {E : Value → Shared → Prop} {s : Shared} {z TI TO i1 i2 : Addr} {fp1 fp2 : List Addr} {n1 n2 k : Nat} {P1 P2 : Nat → Value → Prop} {St1 St2 : Nat → Heap → Prop} {a b : Value} {Q : Option Value → Shared → Prop}
    (D1 : Draws P w A.in1 i1 fp1 n1 P1 St1) (D2 : Draws P w A.in1 i2 fp2 n2 P2 St2) (Z : ZApart z TI TO i1 i2 fp1 fp2) (hz : IsZip s.heap z TI TO Value.none) (hTI : IsPair s.heap TI (Value.ref i1) (Value.ref i2)) (hTO : IsPair s.heap TO a b)
    (s1 : St1 k s.heap) (s2 : St2 k s.heap) (hk : k = n1 ∨ (k < n1 ∧ k = n2))
    (hQ : ∀ (h' : Heap) (tk : Nat), (∀ (c : Addr) (o : Obj), c ≠ z → c ≠ TO → c ≠ i1 → c ≠ i2 → s.heap.get? c = some o → h'.get? c = some o) → Q none { s with heap := h', toks := tk }) :
    wpAny (model P w) A (pyNext (Value.ref z)) Q E s := by
  have hT : s.TypeIs (Value.ref z) "zip" := ⟨_, hz, rfl⟩
  refine id (wpAny_bind (wpAny_attempt (wpAny_callSpecial?_slot hT F.slot_zip_next (wpAny_call_entry F.slot_zip_next hT F.entry_zip_next (zipD_end D1 D2 Z hz hTI hTO s1 s2 hk fun h' e tk k1 he => ?_) (F.args_zip_next_1 (Value.ref z))))))
  obtain ⟨o, ho, hc⟩ := he
  exact wpAny_bind (wpAny_isInstance ⟨o, ho, hc⟩ isSubtype_stop (wpAny_pure (hQ h' tk k1)))
/-- what a zip of a list and a tuple needs apart -/
structure ZM (z TI TO i1 i2 a b : Addr) : Prop where
  za : ZApart z TI TO i1 i2 [i1, a] [i2, b]
  a1 : a ≠ i1
  b2 : b ≠ i2
theorem turn_zipM {P : Program} {w : World} {K : PySem.W.Frag} {elts : List Expr} {kk : Nat} {tpos : Pos} {a b z TI TO i1 i2 : Addr} (Z : ZM z TI TO i1 i2 a b) :
    Turn P w K (.Tuple elts kk tpos) (ItzM K a b) [z, TI, TO, i1, i2] z fun i h => IsZip h z TI TO Value.none ∧ IsPair h TI (Value.ref i1) (Value.ref i2) ∧ (∃ x y, IsPair h TO x y) ∧ h.IsListIter i1 a i ∧ h.IsTupleIter i2 b i where
  mem := List.mem_cons_self
  obj i h st c hc := by
    obtain ⟨hz, hTI, ⟨x, y, hTO⟩, ⟨o1, e1, _, d1⟩, ⟨o2, e2, _, d2⟩⟩ := st
    simp only [List.mem_cons, List.not_mem_nil, or_false] at hc
    rcases hc with rfl | rfl | rfl | rfl | rfl
    · exact ⟨_, hz, fun v q => nomatch q⟩
    · exact ⟨_, hTI, fun v q => nomatch q⟩
    · exact ⟨_, hTO, fun v q => nomatch q⟩
    · exact ⟨o1, e1, fun v q => by rw [d1] at q; cases q⟩
    · exact ⟨o2, e2, fun v q => by rw [d2] at q; cases q⟩
  keep i h h' st k := by
    obtain ⟨hz, hTI, ⟨x, y, hTO⟩, ⟨o1, e1, c1, d1⟩, ⟨o2, e2, c2, d2⟩⟩ := st
    exact ⟨k z (by simp) _ hz, k TI (by simp) _ hTI, ⟨x, y, k TO (by simp) _ hTO⟩, ⟨o1, k i1 (by simp) _ e1, c1, d1⟩, ⟨o2, k i2 (by simp) _ e2, c2, d2⟩⟩
  item X hP hw hK hc i pins s σ H E I hf st hg := by
    subst hP hw hK
    obtain ⟨hz, hTI, ⟨x0, y0, hTO⟩, it1, it2⟩ := st
    obtain ⟨xs, ys, x, y, hq1, hq2, hx, hy⟩ := hg
    obtain ⟨its1, rv1, p1, _⟩ := Inv.list I hq1
    obtain ⟨its2, rv2, p2⟩ := Inv.tuple I hq2
    obtain ⟨u1, hu1, ru1⟩ := Vals.get rv1 hx
    obtain ⟨u2, hu2, ru2⟩ := Vals.get rv2 hy
    have hh := I.ok.hd hc
    have L1 := PlainL.isList p1
    have T2 : s.heap.IsTuple b its2.toArray := p2.1
    have hhz := Heap.lt_size hz
    have l1 : i < its1.toArray.size := by simpa using (List.getElem?_eq_some_iff.mp hu1).1
    have l2 : i < its2.toArray.size := by simpa using (List.getElem?_eq_some_iff.mp hu2).1
    refine pyNext_zipD_item (Draws.list (A := X.A.in1) hh i1 a Z.a1 its1.toArray) (drawsT (A := X.A.in1) hh i2 b Z.b2 its2.toArray) Z.za hz hTI hTO ⟨it1, L1⟩ ⟨it2, T2⟩ l1 l2 fun x' y' h' tk px py hz' hTO' s1' s2' hn hsz hkeep => ?_
    have ex : x' = u1 := by
      have : its1[i]? = some x' := by simpa using px
      rw [hu1] at this; exact (Option.some.inj this).symm
    have ey : y' = u2 := by
      have : its2[i]? = some y' := by simpa using py
      rw [hu2] at this; exact (Option.some.inj this).symm
    subst ex ey
    refine ⟨_, rfl, wpAny_letOwnedTupleGo_zip hz' fun h'' hz'' sb => ?_⟩
    have hT2 := (sb.2 s.heap.objs.size (Nat.ne_of_gt hhz)).trans hn
    have I1 := Inv.turnedNew (t' := tk) I (ch := [z, TI, TO, i1, i2]) (T := s.heap.objs.size) (ob := TupO { cls := .type "tuple", data := .seq #[x', y'] } [x, y]) (h' := h'') (fun c ob hb q => by
        simp only [List.mem_cons, List.not_mem_nil, or_false, not_or] at hb
        obtain ⟨n1, n2, n3, n4, n5⟩ := hb
        exact (sb.2 c n1).trans (hkeep c ob n1 n3 n4 n5 q)) hf (Nat.le_refl _)
      ⟨hT2, (show 2 ≤ sizeLine from by decide), [x', y'], .cons ru1 (.cons ru2 .nil), ⟨_, hT2, rfl, 0, rfl⟩⟩
    refine ⟨.ref s.heap.objs.size, _, I1, rfl, ⟨_, x, y, _, rfl, HOk.fresh I.hok (Nat.le_refl _), ⟨rfl, rfl⟩, fun xs' h => by rw [Inv.list_inj I h hq1]; exact hx, fun ys' h => by rw [Inv.tuple_inj I h hq2]; exact hy⟩, ⟨hz'', ?_, ⟨x', y', (sb.2 TO Z.za.TOz).trans hTO'⟩, ?_, ?_⟩, fun c hb => ?_⟩
    · have e1 : TI ≠ z := Z.za.TIz
      exact (sb.2 TI e1).trans (hkeep TI _ e1 Z.za.TITO Z.za.TIi1 Z.za.TIi2 hTI)
    · obtain ⟨⟨o, q, r⟩, _⟩ := s1'
      exact ⟨o, (sb.2 i1 fun e => Z.za.z1 (by rw [← e]; exact Z.za.m1)).trans q, r⟩
    · obtain ⟨⟨o, q, r⟩, _⟩ := s2'
      exact ⟨o, (sb.2 i2 fun e => Z.za.z2 (by rw [← e]; exact Z.za.m2)).trans q, r⟩
    · have hb' : c < s.heap.objs.size := by
        simp only [List.mem_cons, List.not_mem_nil, or_false] at hb
        obtain ⟨o1, e1, _⟩ := it1
        obtain ⟨o2, e2, _⟩ := it2
        rcases hb with rfl | rfl | rfl | rfl | rfl
        · exact hhz
        · exact Heap.lt_size hTI
        · exact Heap.lt_size hTO
        · exact Heap.lt_size e1
        · exact Heap.lt_size e2
      rw [upd_ne (Nat.ne_of_lt hb')]
      exact (hf c hb).1
  done X hP hw hK hc i pins s σ H E I hf st hg := by
    subst hP hw hK
    obtain ⟨hz, hTI, ⟨x0, y0, hTO⟩, it1, it2⟩ := st
    obtain ⟨xs, ys, hq1, hq2, hend⟩ := hg
    obtain ⟨its1, rv1, p1, _⟩ := Inv.list I hq1
    obtain ⟨its2, rv2, p2⟩ := Inv.tuple I hq2
    have hh := I.ok.hd hc
    have L1 := PlainL.isList p1
    have T2 : s.heap.IsTuple b its2.toArray := p2.1
    have v1 := Vals.length rv1
    have v2 := Vals.length rv2
    refine pyNext_zipD_end (Draws.list (A := X.A.in1) hh i1 a Z.a1 its1.toArray) (drawsT (A := X.A.in1) hh i2 b Z.b2 its2.toArray) Z.za hz hTI hTO ⟨it1, L1⟩ ⟨it2, T2⟩ (by simp; omega) fun h' tk hk => ⟨rfl, ?_⟩
    exact Inv.turnedL (ch := [z, TI, TO, i1, i2]) I (fun c o hb q => by
      simp only [List.mem_cons, List.not_mem_nil, or_false, not_or] at hb
      obtain ⟨n1, n2, n3, n4, n5⟩ := hb
      exact hk c o n1 n3 n4 n5 q) hf
  self A i s Q E st h := wpAny_pyIter_zip st.1 h
def iZipM (K : PySem.W.Frag) (ta : TA) : TI := fun σ H R => ta σ H fun vs H1 => ∃ a b xs ys, vs = [V.ref a, V.ref b] ∧ SqL K H1 a xs ∧ SqT K H1 b ys ∧ R (ItzM K a b) H1
theorem pi_zipM {X : Cx} {e e2 : Expr} {ta : TA} {p pos tpos : Pos} {elts : List Expr} {kk : Nat} (hg : Gl X "zip") (hm : X.mg "zip" = none) (ha : PA X [e, e2] ta) (hs : starEach [e, e2] X.env = (false, eval e X.env) :: starEach [e2] X.env := by rfl)
    (hpl : (backTo pos (starEach [e2] X.env)).any (fun x => x.1) = false := by rfl) : PI X (.Tuple elts kk tpos) (.Call (.Name "zip" p) [e, e2] [] pos) (iZipM X.K ta) where
  run pins s σ H R I h := by
    refine Call_ (ld_blt I hg hm boot_zip (PyProof.Rows.callWith_type1 (thn (ha.run pos pins s σ H (fun vs H1 => ∃ a b xs ys, vs = [V.ref a, V.ref b] ∧ SqL X.K H1 a xs ∧ SqT X.K H1 b ys ∧ R (ItzM X.K a b) H1) I h) fun us s1 x => ?_) hs hpl))
    obtain ⟨vs, H1, I1, r1, a, b, xs, ys, rfl, hq1, hq2, q⟩ := x
    cases r1 with
    | cons r rr =>
      cases rr with
      | cons r2 rr =>
        cases rr
        cases r
        cases r2
        obtain ⟨its1, rv1, p1, _⟩ := Inv.list I1 hq1
        obtain ⟨its2, rv2, p2⟩ := Inv.tuple I1 hq2
        have L1 := PlainL.isList p1
        have T2 : s1.heap.IsTuple b its2.toArray := p2.1
        have la : a < s1.heap.objs.size := by obtain ⟨o, e, _⟩ := L1; exact Heap.lt_size e
        have lb : b < s1.heap.objs.size := by obtain ⟨o, e, _⟩ := T2; exact Heap.lt_size e
        refine call_zipM L1 T2 fun h' hz hTI hTO it1 it2 hsz hk => wpAny_pyIter_zip hz ?_
        have Z : ZM (s1.heap.objs.size + 4) (s1.heap.objs.size + 2) (s1.heap.objs.size + 3) s1.heap.objs.size (s1.heap.objs.size + 1) a b := by
          generalize s1.heap.objs.size = n at *
          have la : @LT.lt Nat _ a n := la
          have lb : @LT.lt Nat _ b n := lb
          refine ⟨⟨?_, ?_, ?_, ?_, ?_, ?_, ?_, ?_, ?_, ?_, ?_, ?_, ?_⟩, Nat.ne_of_lt la, Nat.ne_of_lt (Nat.lt_succ_of_lt lb)⟩ <;> (try simp only [List.mem_cons, List.not_mem_nil, or_false, not_or]) <;>
            first
            | exact (by omega : @Ne Nat _ _)
            | exact ⟨(by omega : @Ne Nat _ _), (by omega : @Ne Nat _ _)⟩
            | exact .inl rfl
            | simp
        refine ⟨_, [s1.heap.objs.size + 4, s1.heap.objs.size + 2, s1.heap.objs.size + 3, s1.heap.objs.size, s1.heap.objs.size + 1], _, ItzM X.K a b, H1, rfl, Inv.kept I1 hk, turn_zipM Z, ⟨hz, hTI, ⟨_, _, hTO⟩, it1, it2⟩, fun c hb => ?_, q⟩
        have hle : s1.heap.objs.size ≤ c := by
          simp only [List.mem_cons, List.not_mem_nil, or_false] at hb
          rcases hb with rfl | rfl | rfl | rfl | rfl <;> omega
        exact Inv.fpOk I1 hle (HOk.fresh I1.hok hle)
theorem walk_zipM {K : PySem.W.Frag} {a b : Addr} {xs ys : List V} : Walk (ItzM K a b) (min xs.length ys.length) (fun H => SqL K H a xs ∧ SqT K H b ys) (YPx (fun i => xs[i]?) fun i => ys[i]?) where
  goes i H hi h := ⟨xs, ys, xs[i], ys[i], h.1, h.2, by simp, by simp⟩
  stops H h := ⟨xs, ys, h.1, h.2, by omega⟩
  yields i H x H' hi h y := by
    obtain ⟨T, u, v, ob, rfl, hT, hH, h1, h2⟩ := y
    exact ⟨T, u, v, ob, rfl, hT, hH, h1 xs h.1, h2 ys h.2⟩
def ItzU (K : PySem.W.Frag) (a b : Addr) : It := ⟨fun i H => ∃ xs ys x y, SqT K H a xs ∧ SqT K H b ys ∧ xs[i]? = some x ∧ ys[i]? = some y,
  fun i H v H' => ∃ (T : Addr) (x y : V) (ob : Obj), v = V.ref T ∧ H T = none ∧ (ob.dict = none ∧ H' = upd H T (TupO ob [x, y])) ∧ (∀ xs, SqT K H a xs → xs[i]? = some x) ∧ ∀ ys, SqT K H b ys → ys[i]? = some y,
  fun i H => ∃ xs ys, SqT K H a xs ∧ SqT K H b ys ∧ (xs.length = i ∨ (i < xs.length ∧ ys.length = i))⟩
theorem turn_zipU {P : Program} {w : World} {K : PySem.W.Frag} {elts : List Expr} {kk : Nat} {tpos : Pos} {a b z TI TO i1 i2 : Addr} (Z : ZM z TI TO i1 i2 a b) :
    Turn P w K (.Tuple elts kk tpos) (ItzU K a b) [z, TI, TO, i1, i2] z fun i h => IsZip h z TI TO Value.none ∧ IsPair h TI (Value.ref i1) (Value.ref i2) ∧ (∃ x y, IsPair h TO x y) ∧ h.IsTupleIter i1 a i ∧ h.IsTupleIter i2 b i where
  mem := List.mem_cons_self
  obj i h st c hc := by
    obtain ⟨hz, hTI, ⟨x, y, hTO⟩, ⟨o1, e1, _, d1⟩, ⟨o2, e2, _, d2⟩⟩ := st
    simp only [List.mem_cons, List.not_mem_nil, or_false] at hc
    rcases hc with rfl | rfl | rfl | rfl | rfl
    · exact ⟨_, hz, fun v q => nomatch q⟩
    · exact ⟨_, hTI, fun v q => nomatch q⟩
    · exact ⟨_, hTO, fun v q => nomatch q⟩
    · exact ⟨o1, e1, fun v q => by rw [d1] at q; cases q⟩
    · exact ⟨o2, e2, fun v q => by rw [d2] at q; cases q⟩
  keep i h h' st k := by
    obtain ⟨hz, hTI, ⟨x, y, hTO⟩, ⟨o1, e1, c1, d1⟩, ⟨o2, e2, c2, d2⟩⟩ := st
    exact ⟨k z (by simp) _ hz, k TI (by simp) _ hTI, ⟨x, y, k TO (by simp) _ hTO⟩, ⟨o1, k i1 (by simp) _ e1, c1, d1⟩, ⟨o2, k i2 (by simp) _ e2, c2, d2⟩⟩
  item X hP hw hK hc i pins s σ H E I hf st hg := by
    subst hP hw hK
    obtain ⟨hz, hTI, ⟨x0, y0, hTO⟩, it1, it2⟩ := st
    obtain ⟨xs, ys, x, y, hq1, hq2, hx, hy⟩ := hg
    obtain ⟨its1, rv1, p1⟩ := Inv.tuple I hq1
    obtain ⟨its2, rv2, p2⟩ := Inv.tuple I hq2
    obtain ⟨u1, hu1, ru1⟩ := Vals.get rv1 hx
    obtain ⟨u2, hu2, ru2⟩ := Vals.get rv2 hy
    have hh := I.ok.hd hc
    have L1 : s.heap.IsTuple a its1.toArray := p1.1
    have T2 : s.heap.IsTuple b its2.toArray := p2.1
    have hhz := Heap.lt_size hz
    have l1 : i < its1.toArray.size := by simpa using (List.getElem?_eq_some_iff.mp hu1).1
    have l2 : i < its2.toArray.size := by simpa using (List.getElem?_eq_some_iff.mp hu2).1
    refine pyNext_zipD_item (drawsT (A := X.A.in1) hh i1 a Z.a1 its1.toArray) (drawsT (A := X.A.in1) hh i2 b Z.b2 its2.toArray) Z.za hz hTI hTO ⟨it1, L1⟩ ⟨it2, T2⟩ l1 l2 fun x' y' h' tk px py hz' hTO' s1' s2' hn hsz hkeep => ?_
    have ex : x' = u1 := by
      have : its1[i]? = some x' := by simpa using px
      rw [hu1] at this; exact (Option.some.inj this).symm
    have ey : y' = u2 := by
      have : its2[i]? = some y' := by simpa using py
      rw [hu2] at this; exact (Option.some.inj this).symm
    subst ex ey
    refine ⟨_, rfl, wpAny_letOwnedTupleGo_zip hz' fun h'' hz'' sb => ?_⟩
    have hT2 := (sb.2 s.heap.objs.size (Nat.ne_of_gt hhz)).trans hn
    have I1 := Inv.turnedNew (t' := tk) I (ch := [z, TI, TO, i1, i2]) (T := s.heap.objs.size) (ob := TupO { cls := .type "tuple", data := .seq #[x', y'] } [x, y]) (h' := h'') (fun c ob hb q => by
        simp only [List.mem_cons, List.not_mem_nil, or_false, not_or] at hb
        obtain ⟨n1, n2, n3, n4, n5⟩ := hb
        exact (sb.2 c n1).trans (hkeep c ob n1 n3 n4 n5 q)) hf (Nat.le_refl _)
      ⟨hT2, (show 2 ≤ sizeLine from by decide), [x', y'], .cons ru1 (.cons ru2 .nil), ⟨_, hT2, rfl, 0, rfl⟩⟩
    refine ⟨.ref s.heap.objs.size, _, I1, rfl, ⟨_, x, y, _, rfl, HOk.fresh I.hok (Nat.le_refl _), ⟨rfl, rfl⟩, fun xs' h => by rw [Inv.tuple_inj I h hq1]; exact hx, fun ys' h => by rw [Inv.tuple_inj I h hq2]; exact hy⟩, ⟨hz'', ?_, ⟨x', y', (sb.2 TO Z.za.TOz).trans hTO'⟩, ?_, ?_⟩, fun c hb => ?_⟩
    · have e1 : TI ≠ z := Z.za.TIz
      exact (sb.2 TI e1).trans (hkeep TI _ e1 Z.za.TITO Z.za.TIi1 Z.za.TIi2 hTI)
    · obtain ⟨⟨o, q, r⟩, _⟩ := s1'
      exact ⟨o, (sb.2 i1 fun e => Z.za.z1 (by rw [← e]; exact Z.za.m1)).trans q, r⟩
    · obtain ⟨⟨o, q, r⟩, _⟩ := s2'
      exact ⟨o, (sb.2 i2 fun e => Z.za.z2 (by rw [← e]; exact Z.za.m2)).trans q, r⟩
    · have hb' : c < s.heap.objs.size := by
        simp only [List.mem_cons, List.not_mem_nil, or_false] at hb
        obtain ⟨o1, e1, _⟩ := it1
        obtain ⟨o2, e2, _⟩ := it2
        rcases hb with rfl | rfl | rfl | rfl | rfl
        · exact hhz
        · exact Heap.lt_size hTI
        · exact Heap.lt_size hTO
        · exact Heap.lt_size e1
        · exact Heap.lt_size e2
      rw [upd_ne (Nat.ne_of_lt hb')]
      exact (hf c hb).1
  done X hP hw hK hc i pins s σ H E I hf st hg := by
    subst hP hw hK
    obtain ⟨hz, hTI, ⟨x0, y0, hTO⟩, it1, it2⟩ := st
    obtain ⟨xs, ys, hq1, hq2, hend⟩ := hg
    obtain ⟨its1, rv1, p1⟩ := Inv.tuple I hq1
    obtain ⟨its2, rv2, p2⟩ := Inv.tuple I hq2
    have hh := I.ok.hd hc
    have L1 : s.heap.IsTuple a its1.toArray := p1.1
    have T2 : s.heap.IsTuple b its2.toArray := p2.1
    have v1 := Vals.length rv1
    have v2 := Vals.length rv2
    refine pyNext_zipD_end (drawsT (A := X.A.in1) hh i1 a Z.a1 its1.toArray) (drawsT (A := X.A.in1) hh i2 b Z.b2 its2.toArray) Z.za hz hTI hTO ⟨it1, L1⟩ ⟨it2, T2⟩ (by simp; omega) fun h' tk hk => ⟨rfl, ?_⟩
    exact Inv.turnedL (ch := [z, TI, TO, i1, i2]) I (fun c o hb q => by
      simp only [List.mem_cons, List.not_mem_nil, or_false, not_or] at hb
      obtain ⟨n1, n2, n3, n4, n5⟩ := hb
      exact hk c o n1 n3 n4 n5 q) hf
  self A i s Q E st h := wpAny_pyIter_zip st.1 h
def iZipU (K : PySem.W.Frag) (ta : TA) : TI := fun σ H R => ta σ H fun vs H1 => ∃ a b xs ys, vs = [V.ref a, V.ref b] ∧ SqT K H1 a xs ∧ SqT K H1 b ys ∧ R (ItzU K a b) H1
theorem pi_zipU {X : Cx} {e e2 : Expr} {ta : TA} {p pos tpos : Pos} {elts : List Expr} {kk : Nat} (hg : Gl X "zip") (hm : X.mg "zip" = none) (ha : PA X [e, e2] ta) (hs : starEach [e, e2] X.env = (false, eval e X.env) :: starEach [e2] X.env := by rfl)
    (hpl : (backTo pos (starEach [e2] X.env)).any (fun x => x.1) = false := by rfl) : PI X (.Tuple elts kk tpos) (.Call (.Name "zip" p) [e, e2] [] pos) (iZipU X.K ta) where
  run pins s σ H R I h := by
    refine Call_ (ld_blt I hg hm boot_zip (PyProof.Rows.callWith_type1 (thn (ha.run pos pins s σ H (fun vs H1 => ∃ a b xs ys, vs = [V.ref a, V.ref b] ∧ SqT X.K H1 a xs ∧ SqT X.K H1 b ys ∧ R (ItzU X.K a b) H1) I h) fun us s1 x => ?_) hs hpl))
    obtain ⟨vs, H1, I1, r1, a, b, xs, ys, rfl, hq1, hq2, q⟩ := x
    cases r1 with
    | cons r rr =>
      cases rr with
      | cons r2 rr =>
        cases rr
        cases r
        cases r2
        obtain ⟨its1, rv1, p1⟩ := Inv.tuple I1 hq1
        obtain ⟨its2, rv2, p2⟩ := Inv.tuple I1 hq2
        have L1 : s1.heap.IsTuple a its1.toArray := p1.1
        have T2 : s1.heap.IsTuple b its2.toArray := p2.1
        have la : a < s1.heap.objs.size := by obtain ⟨o, e, _⟩ := L1; exact Heap.lt_size e
        have lb : b < s1.heap.objs.size := by obtain ⟨o, e, _⟩ := T2; exact Heap.lt_size e
        refine RZ.call_zipT L1 T2 fun h' hz hTI hTO it1 it2 hsz hk => wpAny_pyIter_zip hz ?_
        have Z : ZM (s1.heap.objs.size + 4) (s1.heap.objs.size + 2) (s1.heap.objs.size + 3) s1.heap.objs.size (s1.heap.objs.size + 1) a b := by
          generalize s1.heap.objs.size = n at *
          have la : @LT.lt Nat _ a n := la
          have lb : @LT.lt Nat _ b n := lb
          refine ⟨⟨?_, ?_, ?_, ?_, ?_, ?_, ?_, ?_, ?_, ?_, ?_, ?_, ?_⟩, Nat.ne_of_lt la, Nat.ne_of_lt (Nat.lt_succ_of_lt lb)⟩ <;> (try simp only [List.mem_cons, List.not_mem_nil, or_false, not_or]) <;>
            first
            | exact (by omega : @Ne Nat _ _)
            | exact ⟨(by omega : @Ne Nat _ _), (by omega : @Ne Nat _ _)⟩
            | exact .inl rfl
            | simp
        refine ⟨_, [s1.heap.objs.size + 4, s1.heap.objs.size + 2, s1.heap.objs.size + 3, s1.heap.objs.size, s1.heap.objs.size + 1], _, ItzU X.K a b, H1, rfl, Inv.kept I1 hk, turn_zipU Z, ⟨hz, hTI, ⟨_, _, hTO⟩, it1, it2⟩, fun c hb => ?_, q⟩
        have hle : s1.heap.objs.size ≤ c := by
          simp only [List.mem_cons, List.not_mem_nil, or_false] at hb
          rcases hb with rfl | rfl | rfl | rfl | rfl <;> omega
        exact Inv.fpOk I1 hle (HOk.fresh I1.hok hle)
theorem walk_zipU {K : PySem.W.Frag} {a b : Addr} {xs ys : List V} : Walk (ItzU K a b) (min xs.length ys.length) (fun H => SqT K H a xs ∧ SqT K H b ys) (YPx (fun i => xs[i]?) fun i => ys[i]?) where
  goes i H hi h := ⟨xs, ys, xs[i], ys[i], h.1, h.2, by simp, by simp⟩
  stops H h := ⟨xs, ys, h.1, h.2, by omega⟩
  yields i H x H' hi h y := by
    obtain ⟨T, u, v, ob, rfl, hT, hH, h1, h2⟩ := y
    exact ⟨T, u, v, ob, rfl, hT, hH, h1 xs h.1, h2 ys h.2⟩
def zipW (l m : List W) : List W := (l.zip m).map fun p => .tup [p.1, p.2]
theorem zipW_len (l m : List W) : (zipW l m).length = min l.length m.length := by simp [zipW]
theorem zipW_get {l m : List W} {i : Nat} {w : W} (h : (zipW l m)[i]? = some w) : ∃ a b, l[i]? = some a ∧ m[i]? = some b ∧ w = .tup [a, b] := by
  unfold zipW at h
  rw [List.getElem?_map] at h
  cases e : (l.zip m)[i]? with
  | none => rw [e] at h; cases h
  | some p =>
    rw [e] at h
    cases some_inj h
    obtain ⟨h1, h2⟩ := List.getElem?_zip_eq_some.mp e
    exact ⟨p.1, p.2, h1, h2, rfl⟩
/-- zip(list, tuple) -/
def dZipM (a b : DE) : DI := fun e S => (a e S).bind fun u S1 => (b e S1).bind fun v S2 => match u, v with
  | .v (.lst l), .v (.tup m) => .ok (zipW l m) S2
  | _, _ => .no
/-- zip(tuple, tuple) -/
def dZipT (a b : DE) : DI := fun e S => (a e S).bind fun u S1 => (b e S1).bind fun v S2 => match u, v with
  | .v (.tup l), .v (.tup m) => .ok (zipW l m) S2
  | _, _ => .no
section
variable {ec : Nat → Value} {X : Cx} {e e2 : Expr} {da db : DE} {p pos tpos : Pos} {elts : List Expr} {kk : Nat}
theorem pair_walk {F : Fx} {ι : List Addr} {S : Store} {B : Addr → Prop} {H : Hp} {J : It} {l m : List W} {xs ys : List V} {G : Hp → Prop} (wk : Walk J (min xs.length ys.length) G (YPx (fun i => xs[i]?) fun i => ys[i]?))
    (r1 : RpL F H (Oq ι S B) l xs) (r2 : RpL F H (Oq ι S B) m ys) (hG : ∀ (ι1 : List Addr) (S1 : Store) (B1 : Addr → Prop) (H1 : Hp), Ext (Oq ι S B) H H1 → Own (Oq ι S B) (Oq ι1 S1 B1) H → G H1) : WalkW F ι S B H J (zipW l m) := by
  refine ⟨_, _, by rw [zipW_len, r1.1, r2.1]; exact wk, fun ι1 S1 B1 H1 x o R1 => ⟨hG ι1 S1 B1 H1 x o, fun i y H2 w hw hy => ?_⟩⟩
  obtain ⟨T, a, b, ob, rfl, hT, ⟨ho, rfl⟩, ha, hb⟩ := hy
  obtain ⟨w1, w2, h1, h2, rfl⟩ := zipW_get hw
  obtain ⟨f1, f2, f3⟩ := R1.fresh (TupO ob [a, b]) hT
  refine ⟨Rp.mkTup (.inl ⟨⟨ob, upd_same, ho⟩, f3⟩) (.cons (((r1.2 i w1 a h1 ha).ext x o).go f2) (.cons (((r2.2 i w2 b h2 hb).ext x o).go f2) .nil)), f1, f2, fun y z hz => ?_⟩
  rw [upd_ne (ne_of_none hz hT)]; exact hz
theorem iv_zipM (hg : Gl X "zip") (hm : X.mg "zip" = none) (h : PEv ec X e da) (h2 : PEv ec X e2 db) (hs : starEach [e, e2] X.env = (false, eval e X.env) :: starEach [e2] X.env := by rfl) (hs2 : starEach [e2] X.env = (false, eval e2 X.env) :: starEach [] X.env := by rfl)
    (hpl : (backTo pos (starEach [e2] X.env)).any (fun x => x.1) = false := by rfl) : PIv ec X (.Tuple elts kk tpos) (.Call (.Name "zip" p) [e, e2] [] pos) (dZipM da db) :=
  ⟨fun pn xe Wx tk => (pi_zipM (X := X.tr pn xe) hg hm (pa_cons (h.run pn xe Wx tk) (pa_cons (h2.run pn xe Wx tk) pa_nil hs2) hs) hs hpl).imp fun σ H Q ⟨env, S, ι, B, R, E, h⟩ => LE.thenI R E h fun u S1 v H1 ι1 G1 R1 E1 ru h1 =>
    LE.thenI R1 E1 h1 fun u2 S2 v2 H2 ι2 G2 R2 E2 ru2 h2 => by
      have ru' := RU.go G2 ru
      split at h2
      · rename_i l m
        obtain ⟨a, xs, rfl, k1, r1⟩ := Rp.lst_inv ru'
        obtain ⟨b, ys, rfl, k2, r2⟩ := Rp.tup_inv ru2
        exact ⟨a, b, xs, ys, rfl, k1.sq (F := fx ec X), k2.sq (F := fx ec X), h2 _ H2 ι2 .refl R2 (pair_walk walk_zipM r1 r2 fun ι1 S1 B1 H1 x o => ⟨(k1.ext x o).sq (F := fx ec X), (k2.ext x o).sq (F := fx ec X)⟩)⟩
      · exact h2.elim⟩
theorem iv_zipT (hg : Gl X "zip") (hm : X.mg "zip" = none) (h : PEv ec X e da) (h2 : PEv ec X e2 db) (hs : starEach [e, e2] X.env = (false, eval e X.env) :: starEach [e2] X.env := by rfl) (hs2 : starEach [e2] X.env = (false, eval e2 X.env) :: starEach [] X.env := by rfl)
    (hpl : (backTo pos (starEach [e2] X.env)).any (fun x => x.1) = false := by rfl) : PIv ec X (.Tuple elts kk tpos) (.Call (.Name "zip" p) [e, e2] [] pos) (dZipT da db) :=
  ⟨fun pn xe Wx tk => (pi_zipU (X := X.tr pn xe) hg hm (pa_cons (h.run pn xe Wx tk) (pa_cons (h2.run pn xe Wx tk) pa_nil hs2) hs) hs hpl).imp fun σ H Q ⟨env, S, ι, B, R, E, h⟩ => LE.thenI R E h fun u S1 v H1 ι1 G1 R1 E1 ru h1 =>
    LE.thenI R1 E1 h1 fun u2 S2 v2 H2 ι2 G2 R2 E2 ru2 h2 => by
      have ru' := RU.go G2 ru
      split at h2
      · rename_i l m
        obtain ⟨a, xs, rfl, k1, r1⟩ := Rp.tup_inv ru'
        obtain ⟨b, ys, rfl, k2, r2⟩ := Rp.tup_inv ru2
        exact ⟨a, b, xs, ys, rfl, k1.sq (F := fx ec X), k2.sq (F := fx ec X), h2 _ H2 ι2 .refl R2 (pair_walk walk_zipU r1 r2 fun ι1 S1 B1 H1 x o => ⟨(k1.ext x o).sq (F := fx ec X), (k2.ext x o).sq (F := fx ec X)⟩)⟩
      · exact h2.elim⟩
end
end Bel

/-! The engine, part Ne: list(d.items()); calls that borrow; more methods. -/
namespace Bel
open PySem PySem.Spec PyProof.Rows L2
section
variable {F : Fx} {H H' : Hp} {ι : List Addr} {S : Store} {B : Addr → Prop}
theorem ext_all {O : Addr → Prop} (h : ∀ a y, H a = some y → H' a = some y) : Ext O H H' := fun a y e _ => h a y e
theorem ObR.all {O : Addr → Prop} {a : Addr} {o : Ob} (h : ∀ a y, H a = some y → H' a = some y) (r : ObR F H O a o) : ObR F H' O a o := by
  have E : Ext O H H' := ext_all h
  have P : Own O O H := fun _ z => .inl z
  cases o with
  | lst ws => obtain ⟨vs, e, r⟩ := r; exact ⟨vs, h _ _ e, r.ext E P⟩
  | dct ws => obtain ⟨vs, e, r⟩ := r; exact ⟨vs, h _ _ e, r.ext E P⟩
  | scr ws => obtain ⟨vs, y, e, d, r⟩ := r; exact ⟨vs, y, h _ _ e, d.imp (h _ _) fun ⟨o, d⟩ => ⟨o, h _ _ d⟩, r.ext E P⟩
  | tbl x q => exact TblR.ext r E P fun _ e => h _ _ e
  | dead => obtain ⟨y, e⟩ := r; exact ⟨y, h _ _ e⟩
theorem RS.all (R : RS F ι S B H) (h : ∀ a y, H a = some y → H' a = some y) : RS F ι S B H' ∧ Go ι S H ι S H' :=
  ⟨⟨R.len, R.nd, fun n o a h1 h2 => (R.ob n o a h1 h2).all h, fun a b => let ⟨⟨y, e⟩, n⟩ := R.hid a b; ⟨⟨y, h _ _ e⟩, n⟩⟩, ⟨ext_all h, fun _ z => .inl z, [], by simp⟩⟩
end
/-! ### list(d.items()) -/
def tLIt (te : TE) : TE := fun σ H Q => te σ H fun x H1 => ∃ (d : Addr) (kvs : List (Key × V)), x = V.ref d ∧ Rd H1 d (.dK kvs) ∧ kvs.length ≤ sizeLine ∧ ∀ (H' : Hp) (p : Addr) (ts : List Addr), (∀ b o, H1 b = some o → H' b = some o) → H1 p = none → (∀ t ∈ ts, H1 t = none) → p ∉ ts →
  H' p = some (.lst (ts.map V.ref)) → Paired (fun t (q : Key × V) => ExT H' t [kV q.1, q.2]) ts kvs → Q (V.ref p) H'
theorem dict_of {X : Cx} {pins : List (Addr × Obj)} {σ : L2.St} {H : Hp} {s : Shared} {d : Addr} {kvs : List (Key × V)} (I : L2.Inv X pins σ H s) (h : Rd H d (.dK kvs)) : (d == sysModules) = false ∧ ∃ vs, KV kvs vs ∧ Heap.DictOf (mixKind X.prog X.w) s.heap d vs := by
  rcases h with h | ⟨o, h⟩
  · exact (dk_of I.hok h).2
  · obtain ⟨h1, h2, h3, es, ep, vs, h4, h5, h6, o', es', e1, e2, e3, e4, e5, e6⟩ := Inv.frzK I h
    exact ⟨h1, vs, h6, o', es', ep, e1, e2, e3, e4, e5, e6⟩
theorem paired_of {α β : Type} {R : α → β → Prop} : ∀ {xs : List α} {ys : List β}, xs.length = ys.length → (∀ (i : Nat) x y, xs[i]? = some x → ys[i]? = some y → R x y) → Paired R xs ys
  | [], [], _, _ => .nil
  | x :: xs, y :: ys, e, h => .cons (h 0 x y rfl rfl) (paired_of (Nat.succ.inj e) fun i a b z1 z2 => h (i + 1) a b z1 z2)
/-- pairs laid, each with its object -/
def putX (g : Addr → Obj) : List Addr → List (Key × V) → Hp → Hp
  | a :: as, q :: r, H => putX g as r (upd H a (TupO (g a) [kV q.1, q.2]))
  | _, _, H => H
theorem putX_off {g : Addr → Obj} {b : Addr} : ∀ (as : List Addr) (l : List (Key × V)) (H : Hp), b ∉ as → putX g as l H b = H b
  | [], _, _, _ => rfl
  | _ :: _, [], _, _ => rfl
  | a :: as, q :: r, H, n => (putX_off as r _ fun z => n (.tail _ z)).trans (upd_ne fun z => n (z ▸ .head _))
theorem putX_at {g : Addr → Obj} : ∀ (as : List Addr) (l : List (Key × V)) (H : Hp), as.length = l.length → as.Nodup → Paired (fun t q => putX g as l H t = some (TupO (g t) [kV q.1, q.2])) as l
  | [], [], _, _, _ => .nil
  | a :: as, q :: r, H, e, n => by
    have n2 := List.nodup_cons.mp n
    exact .cons ((putX_off as r _ n2.1).trans upd_same) (putX_at as r _ (Nat.succ.inj e) n2.2)
theorem laidX {X : Cx} {pins : List (Addr × Obj)} {σ : L2.St} {H : Hp} {s : Shared} {h2 : Heap} {tk : Nat} {l : List (Key × V)} {vs : List (Key × Value)} {acc : Array Value} {c : Nat} {ts : List Addr} (I : L2.Inv X pins σ H s) (hz : l.length ≤ sizeLine) (kv : KV l vs)
    (hk : ∀ a o, s.heap.get? a = some o → h2.get? a = some o) (hS : h2.get? s.heap.objs.size = some { cls := .type "list", dict := none, data := .seq acc c, slots := #[] }) (hl : ts.length = vs.length) (hG : W.KdxG (mixKind X.prog X.w) vs s.heap.objs.size h2 ts) (hacc : acc.toList = ts.map Value.ref) :
    ∃ G : Hp, (∀ a o, H a = some o → G a = some o) ∧ H s.heap.objs.size = none ∧ (∀ t ∈ ts, H t = none) ∧ s.heap.objs.size ∉ ts ∧ G s.heap.objs.size = some (.lst (ts.map V.ref)) ∧ Paired (fun (t : Addr) (q : Key × V) => ExT G t [kV q.1, q.2]) ts l ∧ L2.Inv X pins σ G { s with heap := h2, toks := tk } := by
  have e0 : ts.length = l.length := hl.trans (Paired.length kv).symm
  have n0 : s.heap.objs.size ∉ ts := fun z => Nat.lt_irrefl _ (hG.above _ z)
  have nd : ts.Nodup := hG.rise.imp Nat.ne_of_lt
  have fr : ∀ t ∈ ts, H t = none := fun t z => HOk.fresh I.hok (Nat.le_of_lt (hG.above t z))
  have fS := HOk.fresh I.hok (Nat.le_refl s.heap.objs.size)
  have ob : ∀ (i : Nat) (t : Addr) (q : Key × V), ts[i]? = some t → l[i]? = some q → ∃ us, Vals [kV q.1, q.2] us ∧ h2.get? t = some { cls := .type "tuple", data := .seq us.toArray } := fun i t q z1 z2 => by
    obtain ⟨key, k, x, f1, f2, f3⟩ := hG.pairs i t z1
    obtain ⟨y, g1, g2, g3⟩ := LiI.paired_get kv z2
    rw [f1] at g1
    cases g1
    refine ⟨[key, x], .cons ?_ (.cons g3 .nil), f3⟩
    rw [g2]
    exact relV_key f2
  let g : Addr → Obj := fun t => (h2.get? t).getD { cls := .none, data := .fields #[] }
  have at_ := putX_at (g := g) ts l (upd H s.heap.objs.size (.lst (ts.map V.ref))) e0 nd
  have off : ∀ a, a ∉ ts → a ≠ s.heap.objs.size → putX g ts l (upd H s.heap.objs.size (.lst (ts.map V.ref))) a = H a := fun a z1 z2 => (putX_off ts l _ z1).trans (upd_ne z2)
  have eS : putX g ts l (upd H s.heap.objs.size (.lst (ts.map V.ref))) s.heap.objs.size = some (.lst (ts.map V.ref)) := (putX_off ts l _ n0).trans upd_same
  generalize putX g ts l (upd H s.heap.objs.size (.lst (ts.map V.ref))) = G at at_ off eS
  have kp : ∀ a u, H a = some u → G a = some u := fun a u e => (off a (fun z => by rw [fr a z] at e; cases e) fun z => by rw [z, fS] at e; cases e).trans e
  have gx : ∀ (i : Nat) (t : Addr) (q : Key × V), ts[i]? = some t → l[i]? = some q → ∃ us, Vals [kV q.1, q.2] us ∧ h2.get? t = some { cls := .type "tuple", data := .seq us.toArray } ∧ g t = { cls := .type "tuple", data := .seq us.toArray } := fun i t q z1 z2 => by
    obtain ⟨us, r, e⟩ := ob i t q z1 z2
    exact ⟨us, r, e, by show (h2.get? t).getD _ = _; rw [e]; rfl⟩
  refine ⟨G, kp, fS, fr, n0, eS, ?_, ?_⟩
  · refine paired_of e0 fun i t q z1 z2 => ?_
    obtain ⟨q', z3, z4⟩ := LiI.paired_get at_ z1
    rw [z2] at z3
    cases z3
    obtain ⟨us, _, _, e⟩ := gx i t q z1 z2
    exact ⟨g t, z4, by rw [e]⟩
  · refine Inv.call' (ch := []) I rfl ⟨fun a o q _ _ _ => hk a o q, fun a o q _ _ _ => ⟨o.slots, hk a o q⟩, fun a o q n _ => ?_, fun a o q _ => ⟨o, hk a o q⟩, fun a xs q => kp a _ q, fun a o u q => kp a _ q, fun a ps q => ⟨#[], by rw [kp a _ q, Array.append_empty]⟩⟩ (fun a u q => ?_) I.bare fun a z => nomatch z
    · have lt := Heap.lt_size q
      rw [off a (fun z => Nat.lt_asymm lt (hG.above a z)) (Nat.ne_of_lt lt)]
      exact n
    · by_cases ha : a ∈ ts
      · obtain ⟨i, q2, z1, z2, z3⟩ := LiI.paired_ix at_ ha
        rw [z3] at q
        cases q
        obtain ⟨us, r, e, e2⟩ := gx i a q2 z1 z2
        exact ⟨by rw [e2]; exact e, (show 2 ≤ sizeLine from by decide), us, r, ⟨_, e, rfl, 0, rfl⟩⟩
      · by_cases hb : a = s.heap.objs.size
        · subst hb
          rw [eS] at q
          cases q
          refine ⟨by rw [List.length_map, e0]; exact hz, acc.toList, c, ?_, hS⟩
          rw [hacc]
          exact LiI.vals_refs ts
        · rw [off a ha hb] at q
          exact ObjOk.stay (I.hok a u q) (fun d v _ y => hk d v y) (fun d y => kp d _ y) fun d xs y => kp d _ y
theorem pe_lit {X : Cx} {e : Expr} {te : TE} {p apos cpos pos : Pos} (hc : X.calm = true) (he : PE X e te) (hg : Gl X "list") (hm : X.mg "list" = none) (hv : bootBuiltins "list" = some (.type "list"))
    (hbase : attributeBase e "items" X.env (eval e X.env) = eval e X.env := by rfl) (hline : (apos.endLine == cpos.line) = true := by rfl) (hs : starEach [.Call (.Attribute e "items" apos) [] [] cpos] X.env = (false, eval (.Call (.Attribute e "items" apos) [] [] cpos) X.env) :: starEach [] X.env := by rfl) :
    PE X (.Call (.Name "list" p) [.Call (.Attribute e "items" apos) [] [] cpos] [] pos) (tLIt te) where
  run pins s σ H Q I hq := by
    refine wpAny_Call_Name_kw (ld_blt I hg hm hv (PyProof.Rows.callWith_type1 ?_ hs (by rfl)) (by decide) (by decide))
    rw [hs]
    refine Calls.spliced_cons (wpAny_Call_method hbase rfl hline F.plainAttrs_dict F.slot_dict_items F.type_dict_items (thn (he.run pins s σ H _ I hq) fun u s1 x => ?_))
    obtain ⟨x1, H1, I1, rx, d, kvs, rfl, hd, hz, q⟩ := x
    cases rx
    obtain ⟨hs0, vs, kv, hdo⟩ := dict_of I1 hd
    obtain ⟨ep, hat⟩ := Heap.DictOf.dictAt hdo
    have lk := Paired.length kv
    have I2 := Inv.kept (t' := s1.toks) I1 fun b ob q => Heap.get?_push_of_some { cls := Value.type "dict_items", data := Data.fields #[Value.ref d] } q
    refine ⟨Heap.DictOf.typeIs hdo, Heap.MapOf.noDict (Heap.DictOf.mapOf hdo), ?_⟩
    refine method_meetsIn F.slot_dict_items F.entry_dict_items rfl (PySem.evalArgs_none ⟨rfl, Heap.DictOf.typeIs hdo, F.args_dict_items_1 (Value.ref d), _, meets_dict_items (mixKind X.prog X.w) d hs0, ⟨vs, hdo⟩, ?_⟩)
    refine Calls.spliced_nil (W.kdx_call (I1.ok.hd hc) ⟨_, Heap.get?_push_size s1.1 rfl, rfl, rfl⟩ (Heap.DictAt.push hat _) (by omega) fun h' tk acc c as hk hS hl hG hacc => ?_)
    obtain ⟨H', k1, k2, k3, k4, k5, k6, J⟩ := laidX I2 hz kv hk hS hl hG hacc
    exact ⟨V.ref _, H', J, rfl, q H' _ as k1 k2 k3 k4 k5 k6⟩
theorem paired_get {α β : Type} {R : α → β → Prop} : ∀ {xs : List α} {ys : List β}, Paired R xs ys → ∀ {i : Nat} {x : α}, xs[i]? = some x → ∃ y, ys[i]? = some y ∧ R x y
  | _, _, .nil, _, _, h => by simp at h
  | _, _, .cons r t, 0, x, h => by simp at h; subst h; exact ⟨_, rfl, r⟩
  | _, _, .cons r t, i + 1, x, h => by
    obtain ⟨y, h1, h2⟩ := paired_get t (i := i) (by simpa using h)
    exact ⟨y, by simpa using h1, h2⟩
/-- list(d.items()), made plain -/
def dLIt (d : DE) : DE := fun e S => (d e S).bind fun u S1 => match dr S1 u with
  | some (.dct l) => if l.length ≤ 16777216 then .ok (.v (.lst (itemsW l))) S1 else .no
  | _ => .no
section
variable {ec : Nat → Value} {X : Cx} {e : Expr} {es : List Expr} {da : DE} {das : DA} {p apos cpos pos : Pos}
theorem ev_lit (hc : X.calm = true) (he : PEv ec X e da) (hg : Gl X "list") (hm : X.mg "list" = none) (hv : bootBuiltins "list" = some (.type "list"))
    (hbase : attributeBase e "items" X.env (eval e X.env) = eval e X.env := by rfl) (hline : (apos.endLine == cpos.line) = true := by rfl) (hs : starEach [.Call (.Attribute e "items" apos) [] [] cpos] X.env = (false, eval (.Call (.Attribute e "items" apos) [] [] cpos) X.env) :: starEach [] X.env := by rfl) :
    PEv ec X (.Call (.Name "list" p) [.Call (.Attribute e "items" apos) [] [] cpos] [] pos) (dLIt da) :=
  ⟨fun pn xe Wx tk => (pe_lit (X := X.tr pn xe) hc (he.run pn xe Wx tk) hg hm hv hbase hline hs).imp fun σ H Q ⟨env, S, ι, B, R, E, h⟩ => by
    refine LE.then_ R E h fun u S1 x H1 ι1 G1 R1 E1 ru h1 => ?_
    split at h1
    · rename_i l e1
      split at h1
      · rename_i hl
        obtain ⟨d, kvs, rfl, hd, rl⟩ := RU.rt R1 ru e1
        refine ⟨d, kvs, rfl, hd, by rw [← rl.1, sizeLine_is]; exact hl, fun H' pp ts k1 k2 k3 k4 k5 k6 => ?_⟩
        obtain ⟨R2, G2⟩ := R1.all k1
        refine h1 _ H' ι1 G2 R2 (Rp.mkLst ⟨k5, R1.free k2⟩ ⟨?_, fun i w v hw hv => ?_⟩)
        · have := Paired.length k6
          simp only [itemsW, List.length_map]
          rw [rl.1, this]
        · unfold itemsW at hw
          rw [List.getElem?_map] at hw hv
          cases e2 : l[i]? with
          | none => rw [e2] at hw; cases hw
          | some q =>
            rw [e2] at hw
            cases some_inj hw
            cases e3 : ts[i]? with
            | none => rw [e3] at hv; cases hv
            | some t =>
              rw [e3] at hv
              cases some_inj hv
              obtain ⟨kv, e4, e5⟩ := paired_get k6 e3
              have nt := k3 t (List.mem_of_getElem? e3)
              exact Rp.mkTup (.inl ⟨e5, R1.free nt⟩) (.cons (Rp.go G2 (rl.2.1 i q kv e2 e4)) (.cons (Rp.go G2 (rl.2.2 i q kv e2 e4)) .nil))
      · exact h1.elim
    · exact h1.elim⟩
end
end Bel

/-! The engine, part Nf: calls that borrow. -/
namespace Bel
open PySem PySem.Spec PyProof.Rows L2
/-- an own dict, lent -/
def bor (S : Store) : U → Option U
  | .v w => some (.v w)
  | .o n => match S[n]? with
    | some (.dct l) => some (.v (.dct l))
    | _ => none
def bors (S : Store) : List U → Option (List U)
  | [] => some []
  | u :: r => match bor S u, bors S r with
    | some x, some xs => some (x :: xs)
    | _, _ => none
def isPl : W → Bool
  | .non => true
  | .bl _ => true
  | .int _ => true
  | .str _ => true
  | _ => false
def dFnB (f : DF) (n : Nat) (a : DA) : DE := fun e S => (a e S).bind fun us S1 => if us.length = n then (match bors S1 us with
    | some ws => match f ws [] with
      | .ok (.v w) _ => if isPl w = true then .ok (.v w) S1 else .no
      | .ex c _ => .ex c S1
      | _ => .no
    | none => .no) else .no
section
variable {F : Fx} {H H' : Hp} {ι : List Addr} {S : Store} {B : Addr → Prop}
/-- what is hidden from the borrower -/
def lent (ι : List Addr) (S : Store) (B : Addr → Prop) (us : List U) : Addr → Prop := fun a => Oq ι S B a ∧ ∀ n, U.o n ∈ us → ι[n]? ≠ some a
theorem rs_lent (R : RS F ι S B H) (us : List U) : RS F [] [] (lent ι S B us) H := by
  refine ⟨rfl, .nil, fun n o a h => by simp at h, fun a h => ⟨?_, by simp⟩⟩
  rcases h.1 with z | z
  · exact R.tracked z
  · exact (R.hid a z).1
theorem oq_nil {B : Addr → Prop} {a : Addr} (h : Oq [] [] B a) : B a := by
  rcases h with ⟨n, o, h, _⟩ | h
  · simp at h
  · exact h
theorem bor_rp (R : RS F ι S B H) {us0 : List U} {u x : U} {v : V} (hu : u ∈ us0) (r : RU F H ι S B u v) (h : bor S u = some x) : RU F H [] [] (lent ι S B us0) x v := by
  have less : ∀ a, Oq [] [] (lent ι S B us0) a → Oq ι S B a := fun a z => (oq_nil z).1
  cases u with
  | v w => cases h; exact Rp.less less r
  | o n =>
    obtain ⟨a, ha, rfl⟩ := r
    simp only [bor] at h
    split at h
    · rename_i l e1
      cases h
      obtain ⟨kvs, hH, rl⟩ := R.dct e1 ha
      exact Rp.mkDct ⟨.inl hH, fun z => (oq_nil z).2 n hu ha⟩ (rl.less less)
    · cases h
theorem bors_rp (R : RS F ι S B H) {us0 : List U} : ∀ {us : List U} {vs : List V} {xs : List U}, (∀ u ∈ us, u ∈ us0) → RUs F H ι S B us vs → bors S us = some xs → RUs F H [] [] (lent ι S B us0) xs vs ∧ xs.length = us.length
  | _, _, _, _, .nil, h => by cases h; exact ⟨.nil, rfl⟩
  | u :: us, _, xs, hu, .cons r t, h => by
    unfold bors at h
    cases e1 : bor S u with
    | none => simp [e1] at h
    | some x =>
      cases e2 : bors S us with
      | none => simp [e1, e2] at h
      | some ys =>
        simp [e1, e2] at h
        subst h
        obtain ⟨q1, q2⟩ := bors_rp R (fun u hu' => hu u (List.mem_cons_of_mem _ hu')) t e2
        exact ⟨.cons (bor_rp R (hu u List.mem_cons_self) r e1) q1, by simp [q2]⟩
theorem pl_rp {O O' : Addr → Prop} {w : W} {v : V} (h : isPl w = true) (r : Rp F H O w v) : Rp F H O' w v := by
  cases r with
  | non => exact .non
  | bl b => exact .bl b
  | int i => exact .int i
  | str x h1 h2 => exact .str x h1 h2
  | _ => cases h
end
section
variable {ec : Nat → Value} {X : Cx} {e : Expr} {es : List Expr} {pos p : Pos} {das : DA} {df : DF} {n k : Nat} {x : Str}
theorem fnB_reads {F : Fx} {Wx : WX} {σ : L2.St} {H : Hp} {Q : VK} (h : LE F Wx (dFnB df n das) σ H Q) : tCallS (spD F df n) (WE Wx) (LA F Wx das) σ H Q := by
  obtain ⟨env, S, ι, B, R, E, h⟩ := h
  refine LA.then_ R E h fun us S1 xs H1 ι1 G1 R1 E1 ru h1 => ?_
  split at h1
  · rename_i hn
    split at h1
    · rename_i ws eb
      obtain ⟨q1, q2⟩ := bors_rp R1 (fun u hu => hu) ru eb
      refine ⟨ws, [], [], lent ι1 S1 B us, rs_lent R1 us, q1, q2.trans hn, ?_⟩
      have key : ∀ (H' : Hp) (ι' : List Addr) (S' : Store), Go [] [] H1 ι' S' H' → ∀ a y, H1 a = some y → H' a = some y := fun H' ι' S' G a y e => G.ext a y e fun ⟨m, o, z, _⟩ => by simp at z
      cases e1 : df ws [] with
      | ok u S' =>
        rw [e1] at h1
        cases u with
        | o m => exact h1.elim
        | v w =>
          simp only at h1
          split at h1
          · rename_i hp
            intro v H' ι' G R' r
            obtain ⟨R2, G2⟩ := R1.all (key H' ι' S' G)
            exact h1 v H' ι1 G2 R2 (pl_rp hp r)
          · exact h1.elim
      | ex c S' =>
        rw [e1] at h1
        intro H' ι' G R'
        obtain ⟨R2, G2⟩ := R1.all (key H' ι' S' G)
        exact h1 H' ι1 G2 R2
      | no => rw [e1] at h1; exact h1
    · exact h1.elim
  · exact h1.elim
theorem ev_fnB (h : HasG X.prog X.w X.K X.mg X.base ec x k n df) (hr : RoomG k X.A) (hg : Gl X x) (ha : PAv ec X (e :: es) das)
    (hdb : (x == ("__debug__" : Str)) = false := by decide) (he : starEach (e :: es) X.env = (false, eval e X.env) :: starEach es X.env := by rfl) (hpl : (backTo pos (starEach es X.env)).any (·.1) = false := by rfl) : PEv ec X (.Call (.Name x p) (e :: es) [] pos) (dFnB df n das) := by
  obtain ⟨f, fd, ps, F, hm, hk, hb⟩ := h
  refine ⟨fun pn xe Wx tk => PE.imp (t := tCallS (spD (fx ec X) df n) (WE Wx) (LA (fx ec X) Wx das)) ⟨fun pins s σ H Q I h => ?_⟩ fun σ H Q h => fnB_reads h⟩
  apply wpAny_Call_Name_kw
  apply ld_glob (X := X.tr pn xe) I hg hm _ hdb
  apply PySem.W.callWith_K (h₀ := X.base) I.ok.mod.kin hk _ he hpl
  apply thn ((ha.run pn xe Wx tk).run pos pins s σ H _ I h)
  rintro us s1 ⟨xs, H1, I1, r, q⟩
  exact ⟨I1.kIn, call_G (X := X.tr pn xe) F hr hb (passAt tk σ) I1 r q⟩
end
end Bel

/-! The engine, part Ng: split, find, extend, clear, sorted, dict of pairs, tuples told many times. -/
namespace Bel
open PySem PySem.Spec PyProof.Rows L2
def tls (l : List Str) : List (List Nat) := l.map fun s => s.cps.toList
def okTxt (z : List Nat) : Bool := decide (z.length ≤ 16777216) && z.all okCp
theorem strs_rp {F : Fx} {H : Hp} {O : Addr → Prop} : ∀ {l : List Str}, (tls l).all okTxt = true → RpL F H O ((tls l).map W.str) (l.map V.str)
  | [], _ => .nil
  | s :: r, h => by
    simp only [tls, List.map_cons, List.all_cons, Bool.and_eq_true, okTxt, decide_eq_true_eq] at h
    obtain ⟨⟨h1, h2⟩, h3⟩ := h
    have e : s = ⟨s.cps.toList.toArray⟩ := by simp
    have := strs_rp (F := F) (H := H) (O := O) (l := r) (by simpa [tls] using h3)
    refine .cons ?_ this
    show Rp F H O (.str s.cps.toList) (.str s)
    rw [e]
    exact .str _ (by rw [sizeLine_is]; exact h1) h2
def fSplit : W → List W → Option Out
  | .str x, [.str y] => if y.length ≠ 0 ∧ x.length + 2 ≤ 16777216 ∧ (tls (Txt.split (mkS x) (mkS y))).all okTxt = true then some (.nl ((tls (Txt.split (mkS x) (mkS y))).map W.str)) else none
  | _, _ => none
theorem om_split {F : Fx} : OpM F fSplit (fun x xs H Q => ∃ a b, x = .str a ∧ xs = [.str b] ∧ (b.length == 0) = false ∧ a.length + 2 ≤ sizeLine ∧ rNewStrs (Txt.split a b) H Q) := by
  intro H O x xs w ws o Q rx rs e q
  unfold fSplit at e
  split at e
  · rename_i a b
    split at e
    · rename_i hc
      obtain ⟨c1, c2, c3⟩ := hc
      cases some_inj e
      obtain ⟨rfl, _⟩ := Rp.str_inv rx
      cases rs with
      | cons r1 r2 =>
        cases r2
        obtain ⟨rfl, _⟩ := Rp.str_inv r1
        refine ⟨_, _, rfl, rfl, by rw [str_len]; simpa using c1, by rw [str_len, sizeLine_is]; exact c2, fun p hp => q p _ hp (strs_rp c3)⟩
    · cases e
  · cases e
def fFind : W → List W → Option Out
  | .str x, [.str y] => some (.val (.int (Txt.find (mkS x) (mkS y))))
  | .str x, [.str y, .int i] => some (.val (.int (Txt.find3 (mkS x) (mkS y) i)))
  | _, _ => none
theorem om_find {F : Fx} : OpM F fFind (fun x xs H Q => (∃ a b, x = .str a ∧ xs = [.str b] ∧ Q (.int (Txt.find a b)) H) ∨ ∃ (a b : Str) (i : Int), x = .str a ∧ xs = [.str b, .int i] ∧ Q (.int (Txt.find3 a b i)) H) := by
  intro H O x xs w ws o Q rx rs e q
  unfold fFind at e
  split at e
  · cases some_inj e
    obtain ⟨rfl, _⟩ := Rp.str_inv rx
    cases rs with
    | cons r1 r2 =>
      cases r2
      obtain ⟨rfl, _⟩ := Rp.str_inv r1
      exact .inl ⟨_, _, rfl, rfl, q _ (.int _)⟩
  · cases some_inj e
    obtain ⟨rfl, _⟩ := Rp.str_inv rx
    cases rs with
    | cons r1 r2 =>
      cases r2 with
      | cons r2 r3 =>
        cases r3
        obtain ⟨rfl, _⟩ := Rp.str_inv r1
        obtain rfl := Rp.int_inv r2
        exact .inr ⟨_, _, _, rfl, rfl, q _ (.int _)⟩
  · cases e
def fExtend : List W → List W → Option (List W × W)
  | l, [.lst m] => if l.length + m.length ≤ 16777216 then some (l ++ m, .non) else none
  | _, _ => none
theorem om_extend {F : Fx} : OpMu F fExtend rExtend := by
  intro H O a vs xs l ws l' w Q h1 r1 r2 e q
  unfold fExtend at e
  split at e
  · rename_i m
    split at e
    · rename_i hl
      obtain ⟨rfl, rfl⟩ := Prod.mk.inj (some_inj e)
      obtain ⟨v, vs', rfl, h3, r3⟩ := r2.cons_iff
      have e2 := r3.nil_iff
      subst e2
      obtain ⟨b, zs, rfl, h4, r4⟩ := Rp.lst_inv h3
      exact ⟨a, b, vs, zs, rfl, rfl, h1, h4.1, by rw [sizeLine_is, ← r1.1, ← r4.1]; exact hl, q _ .non (r1.append r4) .non⟩
    · cases e
  · cases e
/-! d.clear(): d an own dict -/
def dClr (o : DE) : DE := fun e S => (o e S).bind fun u S1 => match u with
  | .o n => match S1[n]? with
    | some (.dct _) => .ok (.v .non) (S1.set n (.dct []))
    | _ => .no
  | .v _ => .no
section
variable {ec : Nat → Value} {X : Cx} {e o : Expr} {da : DE} {apos cpos : Pos}
theorem ev_clr (ho : PEv ec X o da) (hbase : attributeBase o "clear" X.env (eval o X.env) = eval o X.env := by rfl) (hline : (apos.endLine == cpos.line) = true := by rfl) : PEv ec X (.Call (.Attribute o "clear" apos) [] [] cpos) (dClr da) :=
  ⟨fun pn xe Wx tk => (pe_bm0 (X := X.tr pn xe) F.plainAttrs_dict F.slot_dict_clear F.type_dict_clear (mtd_clear (X := X.tr pn xe)) (ho.run pn xe Wx tk) hbase hline).imp fun σ H Q ⟨env, S, ι, B, R, E, h⟩ => by
    refine LE.then_ R E h fun u S1 x H1 ι1 G1 R1 E1 ru h1 => ?_
    split at h1
    · rename_i n
      obtain ⟨a, ha1, rfl⟩ := ru
      split at h1
      · rename_i l e1
        obtain ⟨kvs, hH, rl⟩ := R1.dct e1 ha1
        refine ⟨.inr (.inr (.inl ⟨rfl, .inl ⟨kvs, hH⟩⟩)), a, kvs, rfl, rfl, hH, ?_⟩
        obtain ⟨R', G'⟩ := R1.write (ho := .dK []) (o' := .dct []) e1 (fun z => nomatch z) ha1 ⟨_, rfl, .nil⟩
        exact h1 _ _ ι1 G' R' .non
      · exact h1.elim
    · exact h1.elim⟩
end
/-! ### a tuple told many times -/
def fMulT : W → W → Option Out
  | .tup l, .int k => if l ≠ [] ∧ 2 ≤ k ∧ k ≤ 1000 ∧ l.length ≤ 1000 then some (.nt (List.replicate k.toNat l).flatten) else none
  | _, _ => none
theorem RpL.flat {F : Fx} {H : Hp} {O : Addr → Prop} {l : List W} {vs : List V} (r : RpL F H O l vs) : ∀ n, RpL F H O (List.replicate n l).flatten (List.replicate n vs).flatten
  | 0 => .nil
  | n + 1 => by
    rw [List.replicate_succ, List.replicate_succ, List.flatten_cons, List.flatten_cons]
    exact r.append (RpL.flat r n)
theorem ow_repT {F : Fx} : OpW F fMulT (rRepX F.K) := by
  intro H O x y w z o Q rx ry e q
  unfold fMulT at e
  split at e
  · rename_i l k
    split at e
    · rename_i hc
      obtain ⟨c1, c2, c3, c4⟩ := hc
      cases some_inj e
      obtain ⟨a, vs, rfl, h1, r1⟩ := Rp.tup_inv rx
      obtain rfl := Rp.int_inv ry
      refine ⟨a, k, vs, rfl, rfl, h1.sq, ?_, c2, c3, by rw [← r1.1]; exact c4, q.2 _ (r1.flat _)⟩
      rintro rfl
      exact c1 (List.length_eq_zero_iff.mp (by rw [r1.1]; rfl))
    · cases e
  · cases e
/-! ### dict([(k, v), ..]) -/
def pairsW : List W → Option (List (W × W))
  | [] => some []
  | .tup [k, v] :: r => if isKey k = true then (pairsW r).map ((k, v) :: ·) else none
  | _ => none
def fDictP : List W → Option Out
  | [.lst l] => (pairsW l).map fun ps => .nd (mrgW [] ps)
  | _ => none
theorem pairs_rp {F : Fx} {H : Hp} {O : Addr → Prop} : ∀ {l : List W} {vs : List V} {ps : List (W × W)}, RpL F H O l vs → pairsW l = some ps → ∃ (as : List Addr) (kvs : List (Key × V)), vs = as.map V.ref ∧ Paired (fun p (kv : Key × V) => SqT F.K H p [kV kv.1, kv.2]) as kvs ∧ RpD F H O ps kvs
  | [], vs, ps, r, h => by
    cases h
    rw [r.nil_iff]
    exact ⟨[], [], rfl, .nil, .nil⟩
  | w :: l, vs, ps, r, h => by
    unfold pairsW at h
    split at h
    · cases ‹_ :: _ = []›
    · rename_i k v r' heq
      cases heq
      split at h
      · rename_i hk
        cases e : pairsW l with
        | none => rw [e] at h; cases h
        | some qs =>
          rw [e] at h
          cases some_inj h
          obtain ⟨v0, vs', rfl, h3, r3⟩ := r.cons_iff
          obtain ⟨as, kvs, rfl, h4, h5⟩ := pairs_rp r3 e
          obtain ⟨a, us, rfl, h6, r6⟩ := Rp.tup_inv h3
          obtain ⟨u1, us1, rfl, h7, r7⟩ := r6.cons_iff
          obtain ⟨u2, us2, rfl, h8, r8⟩ := r7.cons_iff
          have := r8.nil_iff
          subst this
          obtain ⟨κ, _, rfl⟩ := isKey_k hk h7
          exact ⟨a :: as, (κ, u2) :: kvs, rfl, .cons h6.sq h4, .cons h7 h8 h5⟩
      · cases h
    · cases h
theorem oc_dictP {F : Fx} : OpC F fDictP (fun xs H Q => ∃ (a : Addr) (ps : List Addr) (kvs : List (Key × V)), xs = [.ref a] ∧ SqL F.K H a (ps.map V.ref) ∧ Paired (fun p (kv : Key × V) => SqT F.K H p [kV kv.1, kv.2]) ps kvs ∧ ∀ p, H p = none → Q (.ref p) (upd H p (.dK (mergeK [] kvs)))) := by
  refine oc1 (fun ws o e => ?_) fun H O x w o Q r e q => ?_
  · unfold fDictP at e
    split at e <;> first | exact ⟨_, rfl⟩ | cases e
  · cases w with
    | lst l =>
      simp only [fDictP] at e
      cases e1 : pairsW l with
      | none => rw [e1] at e; cases e
      | some ps =>
        rw [e1] at e
        cases some_inj e
        obtain ⟨a, vs, rfl, h1, r1⟩ := r
        obtain ⟨as, kvs, rfl, h2, h3⟩ := pairs_rp r1 e1
        exact ⟨a, as, kvs, rfl, .inl h1, h2, fun p hp => q p _ hp (mrg_rp h3 .nil)⟩
    | _ => cases e
/-! ### sorted texts -/
def leT (a b : List Nat) : Bool := decide (a ≤ b)
def srt (l : List (List Nat)) : List (List Nat) := l.mergeSort leT
theorem leT_trans (a b c : List Nat) (h : leT a b = true) (h' : leT b c = true) : leT a c = true := decide_eq_true (List.le_trans (of_decide_eq_true h) (of_decide_eq_true h'))
theorem leT_total (a b : List Nat) : (leT a b || leT b a) = true := by
  rcases List.le_total a b with h | h <;> simp [leT, h]
theorem srt_perm (l : List (List Nat)) : (srt l).Perm l := List.mergeSort_perm l leT
theorem rising_pw : ∀ (r : List Str) (p : Str), risingS p r = true → ((p :: r).map fun s => s.cps.toList).Pairwise fun a b => leT a b = true
  | [], p, _ => by simp
  | x :: r, p, h => by
    rw [risingS.eq_2, Bool.and_eq_true] at h
    have ih := rising_pw r x h.2
    have h1 : leT p.cps.toList x.cps.toList = true := by
      have := h.1
      rw [ltCps_eq] at this
      simp at this
      exact decide_eq_true (List.not_lt.mp (by simpa using this))
    rw [List.map_cons, List.pairwise_cons]
    refine ⟨fun b hb => ?_, ih⟩
    rw [List.map_cons] at hb
    rcases List.mem_cons.mp hb with rfl | hb
    · exact h1
    · rw [List.map_cons, List.pairwise_cons] at ih
      exact leT_trans _ _ _ h1 (ih.1 b hb)
theorem sorted_pw {ys : List Str} (h : sortedS ys = true) : (tls ys).Pairwise fun a b => leT a b = true := by
  cases ys with
  | nil => exact .nil
  | cons p r => exact rising_pw r p h
theorem srt_uni {ys : List Str} {ks : List (List Nat)} (hp : (tls ys).Perm ks) (h : sortedS ys = true) : tls ys = srt ks := by
  refine List.Perm.eq_of_pairwise (le := fun a b => leT a b = true) (fun a b _ _ h1 h2 => List.le_antisymm (of_decide_eq_true h1) (of_decide_eq_true h2)) (sorted_pw h) (List.pairwise_mergeSort leT_trans leT_total ks) (hp.trans (srt_perm ks).symm)
def fSorted : List W → Option Out
  | [.dct l] => match txts (l.map (·.1)) with
    | some ks => if ks.length < 64 ∧ ks.all okTxt = true then some (.nl ((srt ks).map W.str)) else none
    | none => none
  | [.lst l] => match txts l with
    | some ks => if ks.length < 64 ∧ ks.all okTxt = true then some (.nl ((srt ks).map W.str)) else none
    | none => none
  | _ => none
theorem srt_ok {ks : List (List Nat)} (h : ks.all okTxt = true) : (srt ks).all okTxt = true := List.all_eq_true.mpr fun x hx => List.all_eq_true.mp h x ((srt_perm ks).mem_iff.mp hx)
theorem tls_mk (ks : List (List Nat)) : tls (ks.map mkS) = ks := by
  unfold tls
  rw [List.map_map]
  conv => rhs; rw [← List.map_id ks]
  apply List.map_congr_left
  intro x _
  rfl
theorem srt_q {F : Fx} {H : Hp} {O : Addr → Prop} {ks : List (List Nat)} {Q : VK} (h : ks.all okTxt = true) (q : PuQ F H O (.nl ((srt ks).map W.str)) Q) : ∀ (ys : List Str) (p : Addr), ys.Perm (ks.map mkS) → sortedS ys = true → H p = none → Q (.ref p) (upd H p (.lst (ys.map V.str))) := fun ys p hp hs hn => by
  have h1 : (tls ys).Perm ks := by
    have := hp.map fun s : Str => s.cps.toList
    rw [show (ks.map mkS).map (fun s : Str => s.cps.toList) = ks from tls_mk ks] at this
    exact this
  have e := srt_uni h1 hs
  have r := strs_rp (F := F) (H := H) (O := O) (l := ys) (by rw [e]; exact srt_ok h)
  rw [e] at r
  exact q p _ hn r
theorem keysX_rp {F : Fx} {H : Hp} {O : Addr → Prop} {l : List (W × W)} {kvs : List (Key × V)} {ks : List (List Nat)} (r : RpD F H O l kvs) (e : txts (l.map (·.1)) = some ks) : kvs.map (·.1) = (ks.map mkS).map Sum.inr := by
  have r1 : RpL F H O (l.map (·.1)) (kvs.map fun kv => kV kv.1) := ⟨by simp [r.1], fun i w v hw hv => by
    rw [List.getElem?_map] at hw hv
    cases e1 : l[i]? with
    | none => rw [e1] at hw; cases hw
    | some p =>
      cases e2 : kvs[i]? with
      | none => rw [e2] at hv; cases hv
      | some q =>
        rw [e1] at hw; rw [e2] at hv
        cases some_inj hw
        cases some_inj hv
        exact r.2.1 i p q e1 e2⟩
  obtain ⟨h, _⟩ := txts_rp r1 e
  apply List.ext_getElem?
  intro i
  have := congrArg (fun x => x[i]?) h
  simp only [List.getElem?_map] at this ⊢
  cases e2 : kvs[i]? with
  | none => rw [e2] at this; cases e3 : ks[i]? with
    | none => rfl
    | some k => rw [e3] at this; cases this
  | some q =>
    rw [e2] at this
    cases e3 : ks[i]? with
    | none => rw [e3] at this; cases this
    | some k =>
      rw [e3] at this
      obtain ⟨q1, q2⟩ := q
      cases q1 with
      | inl i => cases some_inj this
      | inr x =>
        have := some_inj this
        injection this with this
        subst this
        rfl
theorem oc_sorted {F : Fx} : OpC F fSorted (fun xs H Q => (∃ (a : Addr) (kvs : List (Key × V)) (ks : List Str), xs = [.ref a] ∧ Rd H a (.dK kvs) ∧ kvs.map (·.1) = ks.map Sum.inr ∧ ks.length < 64 ∧ ∀ (ys : List Str) (p : Addr), ys.Perm ks → sortedS ys = true → H p = none → Q (.ref p) (upd H p (.lst (ys.map V.str)))) ∨ rSortedS F.K xs H Q) := by
  refine oc1 (fun ws o e => ?_) fun H O x w o Q r e q => ?_
  · unfold fSorted at e
    split at e <;> first | exact ⟨_, rfl⟩ | cases e
  · cases w with
    | dct l =>
      simp only [fSorted] at e
      split at e
      · rename_i ks e1
        split at e
        · rename_i hc
          cases some_inj e
          obtain ⟨a, kvs, rfl, h1, r1⟩ := r
          exact .inl ⟨a, kvs, ks.map mkS, rfl, h1, keysX_rp r1 e1, by simpa using hc.1, srt_q hc.2 q⟩
        · cases e
      · cases e
    | lst l =>
      simp only [fSorted] at e
      split at e
      · rename_i ks e1
        split at e
        · rename_i hc
          cases some_inj e
          obtain ⟨a, vs, rfl, h1, r1⟩ := r
          obtain ⟨rfl, _⟩ := txts_rp r1 e1
          exact .inr ⟨a, ks.map mkS, rfl, .inl h1, by simpa using hc.1, srt_q hc.2 q⟩
        · cases e
      · cases e
    | _ => cases e
end Bel

/-! The engine, part Tc: tuples as targets in comprehensions; more rules for reckoning. -/
namespace Bel
open PySem PySem.Spec PyProof.Rows L2
theorem gv_tupK {ec : Nat → Value} {X : Cx} {es : List Expr} {pos : Pos} {K : PySem.W.Frag} {gs : TGs} {ts : List W → Env' → Option Env'} {sls : List Nat} {k n : Nat} (hK : X.K = K) (hc : X.calm = true) (h : PGsv ec X es gs ts sls) (hn : (assignEach es X.env).length = n := by rfl) (hst : (assignEach es X.env).findIdx? (·.1) = none := by rfl) : PGv ec X (.Tuple es k pos) (gTup K n gs) (tgT n ts) sls := by
  subst hK
  exact gv_tup hc h hn hst
@[simp] theorem dForD_ap (mk : List (W × W) → List W) (i : Nat) (t : W → Env' → Option Env') (body : DS) (e : Env') (S : Store) : dForD mk i t body e S = match e[i]? with
  | some (some (.v (.dct l))) => match dLoop t body (mk l) e S with
    | .ok f S' => .ok f S'
    | _ => .no
  | _ => .no := rfl
@[simp] theorem dZipM_ap (a b : DE) (e : Env') (S : Store) : dZipM a b e S = (a e S).bind fun u S1 => (b e S1).bind fun v S2 => match u, v with
  | .v (.lst l), .v (.tup m) => .ok (zipW l m) S2
  | _, _ => .no := rfl
@[simp] theorem dZipT_ap (a b : DE) (e : Env') (S : Store) : dZipT a b e S = (a e S).bind fun u S1 => (b e S1).bind fun v S2 => match u, v with
  | .v (.tup l), .v (.tup m) => .ok (zipW l m) S2
  | _, _ => .no := rfl
@[simp] theorem dLIt_ap (d : DE) (e : Env') (S : Store) : dLIt d e S = (d e S).bind fun u S1 => match dr S1 u with
  | some (.dct l) => if l.length ≤ 16777216 then .ok (.v (.lst (itemsW l))) S1 else .no
  | _ => .no := rfl
@[simp] theorem dClr_ap (o : DE) (e : Env') (S : Store) : dClr o e S = (o e S).bind fun u S1 => match u with
  | .o n => match S1[n]? with
    | some (.dct _) => .ok (.v .non) (S1.set n (.dct []))
    | _ => .no
  | .v _ => .no := rfl
theorem dFnB_ap (f : DF) (n : Nat) (a : DA) (e : Env') (S : Store) : dFnB f n a e S = (a e S).bind fun us S1 => if us.length = n then (match bors S1 us with
    | some ws => match f ws [] with
      | .ok (.v w) _ => if isPl w = true then .ok (.v w) S1 else .no
      | .ex c _ => .ex c S1
      | _ => .no
    | none => .no) else .no := rfl
end Bel

/-! The engine, part Nh: a text times any number; a text in a text. -/
namespace Bel
open PySem PySem.Spec PyProof.Rows L2
def rRepS0 (x y : V) (H : Hp) (Q : VK) : Prop := ∃ (i : Str) (k : Int), x = .str i ∧ y = .int k ∧ 0 ≤ k ∧ k ≤ 100000 ∧ i.length * k.toNat ≤ sizeLine ∧ Q (.str ⟨((List.replicate k.toNat i.cps.toList).flatten).toArray⟩) H
theorem op_repS0 {X : Cx} : OpR X (binaryOp .Mult) rRepS0 := by
  intro pins s σ H x y v u Q I rx ry h
  obtain ⟨i, k, rfl, rfl, h2, hk, hl, q⟩ := h
  by_cases k0 : k = 0
  · subst k0
    obtain ⟨t, rfl⟩ := rx
    obtain ⟨t', rfl⟩ := ry
    refine P.mul_str_none (by decide) (by decide +kernel) ?_
    exact ⟨.str Str.empty, H, Inv.tok I _, ⟨_, rfl⟩, q⟩
  · by_cases kk : (k == 1 || i.length == 0) = true
    · obtain ⟨t, rfl⟩ := rx
      obtain ⟨t', rfl⟩ := ry
      have g1 : k ≥ -2 ^ 63 := Int.le_trans (by decide +kernel) h2
      have g2 : k < 2 ^ 63 := Int.lt_of_le_of_lt hk (by decide +kernel)
      have g3 : ¬ k < 1 := by omega
      refine P.mul_str (by rw [Bool.or_eq_false_iff]; exact ⟨decide_eq_false (Int.not_lt.mpr g1), decide_eq_false (Int.not_le.mpr g2)⟩) (fun _ z => by rw [kk] at z; cases z) (fun _ z => by rw [kk] at z; cases z) ?_
      rw [if_neg g3, if_pos kk]
      have e : (⟨((List.replicate k.toNat i.cps.toList).flatten).toArray⟩ : Str) = i := by
        rcases (by simpa using kk : k = 1 ∨ i.length = 0) with z | z
        · subst z; simp
        · have z' : i.cps.toList = [] := by
            have : i.cps.toList.length = 0 := by simpa [Str.length] using z
            exact List.length_eq_zero_iff.mp this
          have z2 : (List.replicate k.toNat i.cps.toList).flatten = [] := by
            rw [z']; simp
          rw [z2]
          obtain ⟨a⟩ := i
          simp at z'
          simp [z']
      rw [e] at q
      exact ⟨.str i, H, I, ⟨t, rfl⟩, q⟩
    · refine op_repS pins s σ H _ _ v u Q I rx ry ⟨i, k, rfl, rfl, ?_, hk, ?_, hl, q⟩
      · simp at kk; omega
      · simp at kk; exact kk.2
def fMulS0 : W → W → Option Out
  | .str x, .int k => if 0 ≤ k ∧ k ≤ 100000 ∧ x.length * k.toNat ≤ 16777216 then some (.val (.str (List.replicate k.toNat x).flatten)) else none
  | _, _ => none
theorem ow_repS0 {F : Fx} : OpW F fMulS0 rRepS0 := by
  intro H O x y w z o Q rx ry e q
  unfold fMulS0 at e
  split at e
  · rename_i a k
    split at e
    · rename_i hc
      obtain ⟨c1, c2, c4⟩ := hc
      cases some_inj e
      obtain ⟨rfl, h1, h2⟩ := Rp.str_inv rx
      obtain rfl := Rp.int_inv ry
      refine ⟨_, k, rfl, rfl, c1, c2, by rw [str_len, sizeLine_is]; exact c4, ?_⟩
      refine q _ (.str _ (by rw [rep_len, sizeLine_is]; exact c4) ?_)
      rw [List.all_eq_true]
      intro c hc
      obtain ⟨l, hl, hc⟩ := List.mem_flatten.mp hc
      rw [(List.mem_replicate.mp hl).2] at hc
      exact List.all_eq_true.mp h2 c hc
    · cases e
  · cases e
/-- x stands somewhere in y -/
def subL (x y : List Nat) : Bool := (List.range (y.length + 1)).any fun i => decide (i + x.length ≤ y.length) && ((y.drop i).take x.length == x)
theorem subL_is (x y : List Nat) : (!(Builtin.Str.occurrences ⟨y.toArray⟩ ⟨x.toArray⟩ 0 (⟨y.toArray⟩ : Str).length 1).isEmpty) = subL x y := by
  rw [Bool.eq_iff_iff, StrLaws.found_iff]
  unfold subL
  rw [List.any_eq_true]
  constructor
  · rintro ⟨i, h1, h2⟩
    rw [StrLaws.subAt_eq] at h2
    have h1' : i + x.length ≤ y.length := by simpa [Str.length] using h1
    refine ⟨i, List.mem_range.mpr (by omega), ?_⟩
    rw [decide_eq_true h1', Bool.true_and]
    simpa [Str.length] using h2
  · rintro ⟨i, _, h⟩
    rw [Bool.and_eq_true, decide_eq_true_iff] at h
    refine ⟨i, by simpa [Str.length] using h.1, ?_⟩
    rw [StrLaws.subAt_eq]
    simpa [Str.length] using h.2
theorem subL_iff {x y : List Nat} : subL x y = true ↔ ∃ a b, y = a ++ x ++ b := by
  unfold subL
  rw [List.any_eq_true]
  constructor
  · rintro ⟨i, _, h⟩
    rw [Bool.and_eq_true, decide_eq_true_iff, beq_iff_eq] at h
    refine ⟨y.take i, (y.drop i).drop x.length, ?_⟩
    conv => lhs; rw [← List.take_append_drop i y, ← List.take_append_drop x.length (y.drop i), h.2]
    simp
  · rintro ⟨a, b, rfl⟩
    refine ⟨a.length, List.mem_range.mpr (by simp; omega), ?_⟩
    rw [Bool.and_eq_true, decide_eq_true_iff, beq_iff_eq]
    rw [List.append_assoc, List.drop_left, List.take_left]
    exact ⟨by simp, rfl⟩
def fInS : W → W → Option Out
  | .str x, .str y => some (.val (.bl (subL x y)))
  | _, _ => none
theorem ow_inS {F : Fx} : OpW F fInS (fun x y H Q => ∃ i j, x = .str i ∧ y = .str j ∧ Q (.bl (!(Builtin.Str.occurrences j i 0 j.length 1).isEmpty)) H) := by
  intro H O x y w z o Q rx ry e q
  unfold fInS at e
  split at e
  · rename_i a b
    cases some_inj e
    obtain ⟨rfl, h1, h2⟩ := Rp.str_inv rx
    obtain ⟨rfl, h3, h4⟩ := Rp.str_inv ry
    refine ⟨_, _, rfl, rfl, ?_⟩
    rw [subL_is]
    exact q _ (.bl _)
  · cases e
end Bel

/-! The engine, part Ni: repr of truths, of None. -/
namespace Bel
open PySem PySem.Spec PyProof.Rows L2
def txTrue : List Nat := [84, 114, 117, 101]
def txFalse : List Nat := [70, 97, 108, 115, 101]
def txNone : List Nat := [78, 111, 110, 101]
def rReprB (xs : List V) (H : Hp) (Q : VK) : Prop := (∃ b : Bool, xs = [V.bl b] ∧ Q (.str (if b then "True" else "False")) H) ∨ (xs = [V.non] ∧ Q (.str "None") H)
theorem call_reprB {X : Cx} : CallR X (.builtin "repr") rReprB := by
  intro pins s σ H xs us Q I r h
  rcases h with ⟨b, rfl, q⟩ | ⟨rfl, q⟩
  · obtain ⟨u, rfl, rx⟩ := vals1 r
    obtain rfl := rx
    exact P.repr_of_bool ⟨.str _, H, I.tok _, ⟨_, rfl⟩, q⟩
  · obtain ⟨u, rfl, rx⟩ := vals1 r
    obtain rfl := rx
    exact P.repr_of_none ⟨.str _, H, I.tok _, ⟨_, rfl⟩, q⟩
def fReprB : List W → Option Out
  | [.bl b] => some (.val (.str (cond b txTrue txFalse)))
  | [.non] => some (.val (.str txNone))
  | ws => fReprA ws
theorem oc_reprB {F : Fx} : OpC F fReprB (fun xs H Q => rReprB xs H Q ∨ ((∃ i : Int, xs = [V.int i] ∧ i.natAbs.log2 < 1920 ∧ Q (.str (Str.ofString (toString i))) H) ∨ (∃ a : Str, xs = [V.str a] ∧ (reprText a).length ≤ sizeLine ∧ Q (.str (reprText a)) H) ∨
    ∃ (a : Addr) (d : PyData), xs = [V.ref a] ∧ Dp F.K H (.ref a) d ∧ d.canLay0 = true ∧ d.depth ≤ 64 ∧ d.showable = true ∧ d.shown.length ≤ sizeLine ∧ Q (.str d.shown) H)) := by
  have tx : (("True" : Str) = ⟨txTrue.toArray⟩) ∧ (("False" : Str) = ⟨txFalse.toArray⟩) ∧ (("None" : Str) = ⟨txNone.toArray⟩) := ⟨by decide +kernel, by decide +kernel, by decide +kernel⟩
  have sz : 5 ≤ sizeLine := by rw [sizeLine_is]; decide
  refine oc1 (fun ws o e => ?_) fun H O x w o Q r e q => ?_
  · unfold fReprB at e
    split at e <;> first | exact ⟨_, rfl⟩ | skip
    unfold fReprA at e
    split at e <;> first | exact ⟨_, rfl⟩ | skip
    unfold fRepr at e
    split at e <;> first | exact ⟨_, rfl⟩ | cases e
  · have rest : fReprA [w] = some o → _ := fun e => oc_reprA (F := F) H O [x] [w] o Q (.cons r .nil) e q
    cases w with
    | bl b =>
      simp only [fReprB] at e
      cases some_inj e
      cases r
      refine .inl (.inl ⟨b, rfl, ?_⟩)
      cases b
      · rw [if_neg (by decide), tx.2.1]
        exact q _ (.str _ sz (by decide))
      · rw [if_pos rfl, tx.1]
        exact q _ (.str _ (Nat.le_trans (by decide) sz) (by decide))
    | non =>
      simp only [fReprB] at e
      cases some_inj e
      cases r
      refine .inl (.inr ⟨rfl, ?_⟩)
      rw [tx.2.2]
      exact q _ (.str _ (Nat.le_trans (by decide) sz) (by decide))
    | _ => exact .inr (rest e)
end Bel

/-! The engine, part Nj: laws that know some of the errors alone. -/
namespace Bel
open PySem PySem.Spec PyProof.Rows L2
def errBS (es : List Str) (K : PySem.W.Frag) : Bool := es.all fun x => (He.Fa.glo x).ok K && (He.Fa.exc x).ok K
structure ErrsS (es : List Str) (K : PySem.W.Frag) (mg : Str → Option Value) : Prop where
  at_ : ∀ x ∈ es, mg x = some (.ref (He.ga K x)) ∧ (He.Fa.exc x).ok K = true
theorem errBS_ok {es : List Str} {K : PySem.W.Frag} {mg : Str → Option Value} (gl : ∀ x, (He.Fa.glo x).ok K = true → mg x = some (.ref (He.ga K x))) (h : errBS es K = true) : ErrsS es K mg := ⟨fun x hx => by
  obtain ⟨z1, z2⟩ := He.ba (List.all_eq_true.mp h x hx)
  exact ⟨gl x z1, z2⟩⟩
theorem sv_raiseS {X : Cx} {pos : Pos} {ec : Nat → Value} {c : Nat} {x m : Str} {j : Nat} {p p2 p3 : Pos} {es : List Str} (hec : ec = ecG X.K) (G : ErrsS es X.K X.mg) (hm : ern c ∈ es) (hc : X.calm = true) (hx : ern c = x) (hg : Gl X x) (hdb : (x == ("__debug__" : Str)) = false := by decide) : PSv ec X (.Raise (some (.Call (.Name x p) [.Constant (.str m) j p2] [] p3)) none pos) (dRaise c) := by
  subst hec
  subst hx
  obtain ⟨g1, g2⟩ := G.at_ (ern c) hm
  obtain ⟨q1, q2, q3, q4⟩ := He.exc_ok g2
  exact ⟨fun pn xe Wx tk po => (ps_raise (X := X.tr pn xe) (W := Wx) hc tk (pmk_own (X := X.tr pn xe) PySem.F.excBase_ValueError q1 g1 q2 (raises_own q3 q4) hg hdb)).imp fun D σ H ⟨env, S, ι, B, R, E, h⟩ => h σ H ι .refl R E⟩
structure HdS (K : PySem.W.Frag) (mg : Str → Option Value) (w : World) (fa : List He.Fa) (fn : List He.DefD) (kc : List Con') (kd : List Kd) (es : List Str) : Prop extends HdW K mg w fa fn kc kd where
  er : ErrsS es K mg
def exS (kc : List Con') (kd : List Kd) (es : List Str) (K : PySem.W.Frag) : Bool := exB kc kd K && errBS es K
theorem law_endS {l : PySem.W.OpenLaw} {n k : Nat} {q : Program} {loose : List Str} {XP : (Str → Option Value) → Heap → Prop} {d : DefRec} {x y : Str} {fa : List He.Fa} {fn : List He.DefD} {kc : List Con'} {kd : List Kd} {es : List Str} {m : Nat}
    (hn : l.most = some n) (hn2 : n ≤ sizeLine) (hdf : d.params.defaults = []) (hr : Room k callerA) (hx : d.name = x) (j : Nat) (hj : fa[j]? = some (.glo x)) (df : DF)
    (F : ∀ (w : World) (mg : Str → Option Value) (K : PySem.W.Frag), HdS K mg w fa fn kc kd es → ∃ (ec : Nat → Value) (fd : FuncData), (∀ (s : Shared) (u : Value), BindsTo s fd ⟨[u], []⟩ [(y, u)]) ∧
      ∀ base : Heap, FnG l.prog w K mg base k (He.ga K x) fd [y] (spD ⟨K, w, ec⟩ df 1))
    (L : ∀ ns : List Int, ns.length ≤ n → ∃ S', df [.o 0] [.scr (ns.map W.int)] = .ok (.v (.bl true)) S') :
    PySem.W.WalkO q loose XP (He.hookX m fa fn (tabs kd) [] (exS kc kd es)).says l.row.toRowW d [] (fun f vs => PySem.call f vs) := by
  refine Att.attach_call hn hdf fun w s₀ s₁ mg mb ad o pm cd doc a vs ns G Y ho hd hcd hmg hobj hints hlen hg => ?_
  obtain ⟨K, KX, c⟩ := Y
  obtain ⟨z0, ze⟩ := He.ba c.more
  obtain ⟨z1, z⟩ := He.ba z0
  obtain ⟨z2, z⟩ := He.ba z
  obtain ⟨z3, z4⟩ := He.ba z
  have Z0 : Hd K mg fa fn kc := ⟨c.t.d, fun x e => He.glo_ok KX G.T.g e, fun x e => He.free_ok KX G.T.g e, fun p hp => konB_ok KX G.T.g (List.all_eq_true.mp z2 p hp), z1⟩
  have Z1 : HdW K mg w fa fn kc kd := ⟨Z0, fun p hp => by
    obtain ⟨i, hi, e⟩ := List.mem_iff_getElem.mp hp
    have ht : (tabs kd)[i]? = some ((fun K => He.ga K p.1), p.2.map fun q => (⟨q.1.toArray⟩ : Str)) := by
      unfold tabs
      rw [List.getElem?_map, List.getElem?_eq_getElem hi, e]
      rfl
    exact kdB_ok (Z0.gl _ (List.all_eq_true.mp z4 p hp)) (c.t.tab i ht) (List.all_eq_true.mp z3 p hp)⟩
  have Z : HdS K mg w fa fn kc kd es := ⟨Z1, errBS_ok Z0.gl ze⟩
  obtain ⟨ec, fd, hb, hF⟩ := F w mg K Z
  have e := hmg.symm.trans (hx ▸ Z0.gl x (c.t.d.fact j hj))
  have ea : ad = He.ga K x := by
    injection e with e
    injection e with e
    rw [e, hx]
  subst ea
  have hno : ∀ o, K.lookup a = some o → False := fun o h => noLst_ok z1 h (by
    have := KX a o h
    rw [hobj] at this
    rw [← Option.some.inj this])
  exact lawG (sp := spD ⟨K, w, ec⟩ df 1) KX G.T.g G.T.b G.T.builtins G.T.nolimit hg hobj hints (Nat.le_trans hlen hn2) ⟨hr, rfl⟩ hno hF hb (fun H hO hS => law_sp (F := ⟨K, w, ec⟩) z1 hO hS (L ns hlen))
end Bel

/-! The engine, part Oa: dicts whose keys are tuples of numbers. -/
namespace Bel
open PySem PySem.Spec PyProof.Rows L2
/-- a row of numbers -/
def intsW : List W → Option (List Int)
  | [] => some []
  | .int i :: r => (intsW r).map (i :: ·)
  | _ => none
def lookT (ks : List Int) (l : List (List Int × W)) : Option W := (l.find? fun p => decide (p.1 = ks)).map (·.2)
section
variable {F : Fx} {H : Hp} {O : Addr → Prop}
theorem ints_rp : ∀ {l : List W} {vs : List V} {ks : List Int}, RpL F H O l vs → intsW l = some ks → vs = ks.map V.int
  | [], vs, ks, r, h => by
    cases h
    exact r.nil_iff
  | w :: l, vs, ks, r, h => by
    obtain ⟨v, vs', rfl, r1, r2⟩ := r.cons_iff
    cases w with
    | int i =>
      have h' : (intsW l).map (i :: ·) = some ks := h
      obtain ⟨k', e1, rfl⟩ := Option.map_eq_some_iff.mp h'
      rw [Rp.int_inv r1, ints_rp r2 e1]
      rfl
    | _ => cases h
theorem tup_ints {l : List W} {v : V} {ks : List Int} (r : Rp F H O (.tup l) v) (h : intsW l = some ks) : ∃ b, v = .ref b ∧ SqT F.K H b (ks.map V.int) ∧ FTup F H O b (ks.map V.int) := by
  obtain ⟨b, vs, rfl, f, q⟩ := r.tup_inv
  rw [ints_rp q h] at f
  exact ⟨b, rfl, f.sq, f⟩
/-- what stands behind a plain dict of this kind -/
structure TdR (F : Fx) (H : Hp) (O : Addr → Prop) (a : Addr) (xs : List (List Int × Addr × Value)) (vs : List V) (ws : List (List Int × W)) : Prop where
  at_ : H a = some (TdO F.w a xs)
  own : ¬ O a
  sm : (a == sysModules) = false
  l1 : ws.length = xs.length
  l2 : vs.length = xs.length
  keys : ∀ (i : Nat) (w : List Int × W) (x : List Int × Addr × Value), ws[i]? = some w → xs[i]? = some x → x.1 = w.1 ∧ FTup F H O x.2.1 (w.1.map V.int)
  rel : ∀ (i : Nat) (v : V) (x : List Int × Addr × Value), vs[i]? = some v → xs[i]? = some x → RelV v x.2.2
  vals : ∀ (i : Nat) (w : List Int × W) (v : V), ws[i]? = some w → vs[i]? = some v → Rp F H O w.2 v
theorem Rp.tdc_inv {ws : List (List Int × W)} {v : V} (r : Rp F H O (.tdc ws) v) : ∃ a xs vs, v = .ref a ∧ TdR F H O a xs vs ws := by
  cases r with
  | tdc h hn hm hl hv hk hr hs => exact ⟨_, _, _, rfl, h, hn, hm, hl, hv, hk, hr, hs⟩
variable {a : Addr} {xs : List (List Int × Addr × Value)} {vs : List V} {ws : List (List Int × W)}
theorem TdR.rp (T : TdR F H O a xs vs ws) : Rp F H O (.tdc ws) (.ref a) := .tdc T.at_ T.own T.sm T.l1 T.l2 T.keys T.rel T.vals
theorem TdR.sq (T : TdR F H O a xs vs ws) : ∀ x ∈ xs, SqT F.K H x.2.1 (x.1.map V.int) := fun x hx => by
  obtain ⟨i, hi⟩ := List.mem_iff_getElem?.mp hx
  obtain ⟨hlt, _⟩ := List.getElem?_eq_some_iff.mp hi
  have hlw : i < ws.length := by rw [T.l1]; exact hlt
  obtain ⟨e, f⟩ := T.keys i _ x (List.getElem?_eq_getElem hlw) hi
  rw [e]
  exact f.sq
/-- looked up -/
theorem find_par (k : List Int) : ∀ {ws : List (List Int × W)} {xs : List (List Int × Addr × Value)} {vs : List V}, ws.length = xs.length → vs.length = xs.length →
    (∀ (i : Nat) (w : List Int × W) (x : List Int × Addr × Value), ws[i]? = some w → xs[i]? = some x → x.1 = w.1) →
    (∀ (i : Nat) (v : V) (x : List Int × Addr × Value), vs[i]? = some v → xs[i]? = some x → RelV v x.2.2) →
    (∀ (i : Nat) (w : List Int × W) (v : V), ws[i]? = some w → vs[i]? = some v → Rp F H O w.2 v) →
    (atKey xs k = none ∧ lookT k ws = none) ∨ ∃ p w v, atKey xs k = some p ∧ lookT k ws = some w ∧ RelV v p.2 ∧ Rp F H O w v
  | [], [], _, _, _, _, _, _ => .inl ⟨rfl, rfl⟩
  | w :: ws, x :: xs, [], _, h2, _, _, _ => by simp at h2
  | w :: ws, x :: xs, v :: vs, h1, h2, hk, hr, hs => by
    have e0 := hk 0 w x rfl rfl
    unfold atKey lookT
    rw [List.find?_cons, List.find?_cons, e0]
    by_cases q : w.1 = k
    · rw [decide_eq_true q]
      exact .inr ⟨_, _, v, rfl, rfl, hr 0 v x rfl rfl, hs 0 w v rfl rfl⟩
    · rw [decide_eq_false q]
      exact find_par k (by simpa using h1) (by simpa using h2) (fun i a b p q => hk (i + 1) a b (by simpa using p) (by simpa using q)) (fun i a b p q => hr (i + 1) a b (by simpa using p) (by simpa using q)) (fun i a b p q => hs (i + 1) a b (by simpa using p) (by simpa using q))
theorem TdR.look (T : TdR F H O a xs vs ws) (k : List Int) : (atKey xs k = none ∧ lookT k ws = none) ∨ ∃ p w v, atKey xs k = some p ∧ lookT k ws = some w ∧ RelV v p.2 ∧ Rp F H O w v :=
  find_par k T.l1 T.l2 (fun i w x p q => (T.keys i w x p q).1) T.rel T.vals
end
section
variable {X : Cx} {pins : List (Addr × Obj)} {σ : L2.St} {H : Hp} {s : Shared} {a b : Addr} {xs : List (List Int × Addr × Value)} {ks : List Int}
theorem td_at (I : Inv X pins σ H s) (h : H a = some (TdO X.w a xs)) (hk : ∀ x ∈ xs, SqT X.K H x.2.1 (x.1.map V.int)) : s.heap.DictOfH (tupleKind (intKind X.prog X.w)) a xs := by
  obtain ⟨⟨o, es, ep, h1, h2, h3, h4, h5⟩, _⟩ := (show ObjOk X.prog X.w H s.heap a (TdO X.w a xs) from I.hok a _ h)
  exact ⟨o, es, ep, h1, h2, h3, h4 X.prog, fun x hx => I.isT (hk x hx), h5⟩
/-- a dict of this kind, a key, side by side -/
def TdK (K : PySem.W.Frag) (w : World) (H : Hp) (a b : Addr) (ks : List Int) (xs : List (List Int × Addr × Value)) : Prop :=
  SqT K H b (ks.map V.int) ∧ H a = some (TdO w a xs) ∧ (a == sysModules) = false ∧ ∀ x ∈ xs, SqT K H x.2.1 (x.1.map V.int)
def rInT (K : PySem.W.Frag) (w : World) (neg : Bool) : R2 := fun x y H Q => ∃ (b a : Addr) (ks : List Int) (xs : List (List Int × Addr × Value)), x = .ref b ∧ y = .ref a ∧ TdK K w H a b ks xs ∧ Q (.bl (if neg then !(atKey xs ks).isSome else (atKey xs ks).isSome)) H
theorem op_inT (hu : X.A.units + 65 < cLine) : OpR X (compareOp .In) (rInT X.K X.w false) := by
  intro pins s σ H x y v u Q I rx ry h
  obtain ⟨b, a, ks, xs, rfl, rfl, ⟨hb, ha, hm, hk⟩, q⟩ := h
  cases rx
  cases ry
  exact wpAny_in_heap (tupleKind_room_in1 (by omega)) (I.isT hb) hm (td_at I ha hk) ⟨.bl _, H, I.tok _, rfl, q⟩
theorem op_notInT (hu : X.A.units + 65 < cLine) : OpR X (compareOp .NotIn) (rInT X.K X.w true) := by
  intro pins s σ H x y v u Q I rx ry h
  obtain ⟨b, a, ks, xs, rfl, rfl, ⟨hb, ha, hm, hk⟩, q⟩ := h
  cases rx
  cases ry
  exact wpAny_notIn_heap (tupleKind_room_in1 (by omega)) (I.isT hb) hm (td_at I ha hk) ⟨.bl _, H, I.tok _, rfl, q⟩
def fInT : W → W → Option Out
  | .tup l, .tdc ws => (intsW l).map fun ks => .val (.bl (lookT ks ws).isSome)
  | _, _ => none
def fNotInT : W → W → Option Out
  | .tup l, .tdc ws => (intsW l).map fun ks => .val (.bl (!(lookT ks ws).isSome))
  | _, _ => none
theorem inT_core {F : Fx} {O : Addr → Prop} {neg : Bool} {l : List W} {ws : List (List Int × W)} {ks : List Int} {x y : V} {Q : VK} (rx : Rp F H O (.tup l) x) (ry : Rp F H O (.tdc ws) y) (h : intsW l = some ks)
    (q : Q (.bl (if neg then !(lookT ks ws).isSome else (lookT ks ws).isSome)) H) : rInT F.K F.w neg x y H Q := by
  obtain ⟨b, rfl, hb, _⟩ := tup_ints rx h
  obtain ⟨a, xs, vs, rfl, T⟩ := ry.tdc_inv
  refine ⟨b, a, ks, xs, rfl, rfl, ⟨hb, T.at_, T.sm, T.sq⟩, ?_⟩
  have e : (atKey xs ks).isSome = (lookT ks ws).isSome := by
    rcases T.look ks with ⟨e1, e2⟩ | ⟨p, w, v, e1, e2, _⟩ <;> rw [e1, e2] <;> rfl
  rw [e]
  exact q
theorem ow_inT {F : Fx} : OpW F fInT (rInT F.K F.w false) := by
  intro H O x y w z o Q rx ry e q
  unfold fInT at e
  split at e
  · obtain ⟨ks, h, rfl⟩ := Option.map_eq_some_iff.mp e
    exact inT_core rx ry h (q _ (.bl _))
  · cases e
theorem ow_notInT {F : Fx} : OpW F fNotInT (rInT F.K F.w true) := by
  intro H O x y w z o Q rx ry e q
  unfold fNotInT at e
  split at e
  · obtain ⟨ks, h, rfl⟩ := Option.map_eq_some_iff.mp e
    exact inT_core rx ry h (q _ (.bl _))
  · cases e
/-! ### an item -/
def rIxT (K : PySem.W.Frag) (w : World) : R2 := fun x y H Q => ∃ (b a : Addr) (ks : List Int) (xs : List (List Int × Addr × Value)) (p : Addr × Value) (v : V), x = .ref a ∧ y = .ref b ∧ TdK K w H a b ks xs ∧ atKey xs ks = some p ∧ RelV v p.2 ∧ Q v H
theorem ix_T (hu : X.A.units + 1 < cLine) : IxR X (rIxT X.K X.w) := by
  intro value slice pins s σ H x y v u Q I rx ry h hs
  obtain ⟨b, a, ks, xs, p, v', rfl, rfl, ⟨hb, ha, hm, hk⟩, hp, hv, q⟩ := h
  cases rx
  cases ry
  have dd := td_at I ha hk
  exact tail_any dd.typeIs slot_dict_getitem.lookup (wpAny_getItem_heap (tupleKind_room_in1 hu) (I.isT hb) dd hp ⟨v', H, I.tok _, hv, q⟩) hs
def fIxT : W → W → Option Out
  | .tdc ws, .tup l => (intsW l).bind fun ks => (lookT ks ws).map .val
  | _, _ => none
theorem ow_ixT {F : Fx} : OpW F fIxT (rIxT F.K F.w) := by
  intro H O x y w z o Q rx ry e q
  unfold fIxT at e
  split at e
  · rename_i ws l
    obtain ⟨ks, h, e⟩ := Option.bind_eq_some_iff.mp e
    obtain ⟨w', h2, rfl⟩ := Option.map_eq_some_iff.mp e
    obtain ⟨b, rfl, hb, _⟩ := tup_ints ry h
    obtain ⟨a, xs, vs, rfl, T⟩ := Rp.tdc_inv rx
    rcases T.look ks with ⟨e1, e2⟩ | ⟨p, w, v, e1, e2, e3, e4⟩
    · rw [h2] at e2; cases e2
    · rw [h2] at e2; cases e2
      exact ⟨b, a, ks, xs, p, v, rfl, rfl, ⟨hb, T.at_, T.sm, T.sq⟩, e1, e3, q _ e4⟩
  · cases e
end
section
variable {ec : Nat → Value} {X : Cx} {a b o k x : Expr} {da db dd dk dx : DE} {pos apos cpos : Pos}
theorem ev_ixT (hu : X.A.units + 65 < cLine) (ha : PEv ec X a da) (hb : PEv ec X b db) (hs : PlainIx b := by exact fun _ _ => rfl) : PEv ec X (.Subscript a b pos) (dBin false fIxT da db) :=
  ⟨fun pn xe Wx tk => (pe_ix (ix_T (X := X.tr pn xe) (by show X.A.units + 1 < cLine; omega)) (ha.run pn xe Wx tk) (hb.run pn xe Wx tk) hs).imp fun σ H Q h => bin_reads (F := fx ec X) ow_ixT h⟩
end
end Bel

/-! The engine, part Ob: get, len, dict of pairs, where keys are tuples of numbers. -/
namespace Bel
open PySem PySem.Spec PyProof.Rows L2
/-! ### len -/
def rLenTd (w : World) : List V → Hp → VK → Prop := fun vs H Q => ∃ (a : Addr) (xs : List (List Int × Addr × Value)), vs = [.ref a] ∧ H a = some (TdO w a xs) ∧ (a == sysModules) = false ∧ xs.length ≤ 16777216 ∧ Q (.int (xs.length : Nat)) H
section
variable {X : Cx} {pins : List (Addr × Obj)} {σ : L2.St} {H : Hp} {s : Shared} {a b : Addr} {xs : List (List Int × Addr × Value)} {ks : List Int}
theorem td_obj (I : Inv X pins σ H s) (h : H a = some (TdO X.w a xs)) : TdAt X.w a xs s.heap := (show ObjOk X.prog X.w H s.heap a (TdO X.w a xs) from I.hok a _ h).1
/-- its size, asked: the keys are not looked at -/
theorem td_len {A : Around} {E : Value → Shared → Prop} {Q : Value → Shared → Prop} (hm : (a == sysModules) = false) (D : s.heap.DictOfH (tupleKind (intKind X.prog X.w)) a xs) (hl : xs.length ≤ 16777216) (h : Q (.int xs.length (s.toks + 1)) { s with toks := s.toks + 1 + 1 }) :
    wpAny (model X.prog X.w) A (call (.builtin "len") [.ref a]) Q E s := call_len_dictH hm D (by omega) h
def rLenTk (K : PySem.W.Frag) (w : World) : List V → Hp → VK → Prop := fun vs H Q => ∃ (a : Addr) (xs : List (List Int × Addr × Value)), vs = [.ref a] ∧ H a = some (TdO w a xs) ∧ (a == sysModules) = false ∧ (∀ x ∈ xs, SqT K H x.2.1 (x.1.map V.int)) ∧ xs.length ≤ 16777216 ∧ Q (.int (xs.length : Nat)) H
theorem call_lenT : CallR X (.builtin "len") (rLenTk X.K X.w) := by
  intro pins s σ H vs us Q I r h
  obtain ⟨a, xs, rfl, ha, hm, hk, hl, q⟩ := h
  obtain ⟨u, rfl, rx⟩ := vals1 r
  cases rx
  exact td_len hm (td_at I ha hk) hl ⟨.int (xs.length : Nat), H, I.tok _, ⟨_, rfl⟩, q⟩
end
def fLenT : List W → Option Out
  | [.tdc ws] => if ws.length ≤ 16777216 then some (.val (.int (ws.length : Nat))) else none
  | _ => none
theorem oc_lenT {F : Fx} : OpC F fLenT (rLenTk F.K F.w) := by
  refine oc1 (fun ws o e => ?_) fun H O x w o Q r e q => ?_
  · unfold fLenT at e
    split at e <;> first | exact ⟨_, rfl⟩ | cases e
  · cases w with
    | tdc ws =>
      simp only [fLenT] at e
      split at e
      · rename_i hl
        cases some_inj e
        obtain ⟨a, xs, vs, rfl, T⟩ := Rp.tdc_inv r
        refine ⟨a, xs, rfl, T.at_, T.sm, T.sq, by rw [← T.l1]; exact hl, ?_⟩
        rw [← T.l1]
        exact q _ (.int _)
      · cases e
    | _ => cases e
/-! ### get -/
def tGetT2 (K : PySem.W.Frag) (w : World) (td ty tx : TE) : TE := fun σ H Q => td σ H fun x H1 => ∃ a xs0, x = .ref a ∧ H1 a = some (TdO w a xs0) ∧ (a == sysModules) = false ∧ ty σ H1 fun y H2 => tx σ H2 fun z H3 =>
  ∃ b ks xs, y = .ref b ∧ TdK K w H3 a b ks xs ∧ ((atKey xs ks = none ∧ Q z H3) ∨ ∃ p v, atKey xs ks = some p ∧ RelV v p.2 ∧ Q v H3)
def tGetT1 (K : PySem.W.Frag) (w : World) (td ty : TE) : TE := fun σ H Q => td σ H fun x H1 => ∃ a xs0, x = .ref a ∧ H1 a = some (TdO w a xs0) ∧ (a == sysModules) = false ∧ ty σ H1 fun y H2 =>
  ∃ b ks xs, y = .ref b ∧ TdK K w H2 a b ks xs ∧ ((atKey xs ks = none ∧ Q .non H2) ∨ ∃ p v, atKey xs ks = some p ∧ RelV v p.2 ∧ Q v H2)
section
variable {X : Cx} {o e f : Expr} {apos cpos : Pos} {td ty tx : TE}
theorem td_type {pins : List (Addr × Obj)} {σ : L2.St} {H : Hp} {s : Shared} {a : Addr} {xs : List (List Int × Addr × Value)} (I : Inv X pins σ H s) (h : H a = some (TdO X.w a xs)) :
    s.TypeIs (.ref a) "dict" ∧ ∀ b, Value.ref a = .ref b → ∃ ob, s.heap.get? b = some ob ∧ ob.dict = none := by
  obtain ⟨ob, _, _, h1, h2, _⟩ := td_obj I h
  refine ⟨⟨ob, h1, h2.1⟩, fun b q => ?_⟩
  cases q
  exact ⟨ob, h1, h2.2.1⟩
theorem pe_getT2 (hu : X.A.units + 1 < cLine) (ho : PE X o td) (he : PE X e ty) (hf : PE X f tx) (m : M2 X o "get" apos e f cpos) : PE X (.Call (.Attribute o "get" apos) [e, f] [] cpos) (tGetT2 X.K X.w td ty tx) := by
  constructor
  intro pins s σ H Q I h
  apply wpAny_Call_method m.base m.few m.line F.plainAttrs_dict F.slot_dict_get F.type_dict_get
  apply thn (ho.run pins s σ H _ I h)
  rintro u s1 ⟨x, H1, I1, rx, a, xs0, rfl, h0, hm, q1⟩
  cases rx
  obtain ⟨t1, t2⟩ := td_type I1 h0
  refine ⟨t1, t2, ?_⟩
  rw [m.trees]
  apply Calls.callWith_builtin rfl
  apply Calls.evalArgs_plain
  apply Calls.spliced_cons
  apply thn (he.run pins s1 σ H1 _ I1 q1)
  rintro iv s2 ⟨y, H2, I2, ry, q2⟩
  apply Calls.spliced_cons
  apply thn (hf.run pins s2 σ H2 _ I2 q2)
  rintro fv s3 ⟨z, H3, I3, rz, b, ks, xs, rfl, ⟨k1, k2, k3, k4⟩, q3⟩
  apply Calls.spliced_nil
  cases ry
  have D := td_at I3 k2 k4
  refine call_meetsIn F.slot_dict_get D.typeIs F.entry_dict_get (F.args_dict_get_3 _ _ _) (meetsH_dict_get_default (tupleKind (intKind X.prog X.w)) a b k3 fv) ⟨tupleKind_room_in1 hu, ks, xs, I3.isT k1, D, ?_⟩
  rcases q3 with ⟨e1, q⟩ | ⟨p, v, e1, e2, q⟩
  · rw [e1]
    exact ⟨z, H3, I3.tok _, rz, q⟩
  · rw [e1]
    exact ⟨v, H3, I3.tok _, e2, q⟩
theorem pe_getT1 (hu : X.A.units + 1 < cLine) (ho : PE X o td) (he : PE X e ty) (m : M1 X o "get" apos e cpos) : PE X (.Call (.Attribute o "get" apos) [e] [] cpos) (tGetT1 X.K X.w td ty) := by
  constructor
  intro pins s σ H Q I h
  apply wpAny_Call_method m.base m.few m.line F.plainAttrs_dict F.slot_dict_get F.type_dict_get
  apply thn (ho.run pins s σ H _ I h)
  rintro u s1 ⟨x, H1, I1, rx, a, xs0, rfl, h0, hm, q1⟩
  cases rx
  obtain ⟨t1, t2⟩ := td_type I1 h0
  refine ⟨t1, t2, ?_⟩
  rw [m.trees]
  apply Calls.callWith_builtin rfl
  apply Calls.evalArgs_plain
  apply Calls.spliced_cons
  apply thn (he.run pins s1 σ H1 _ I1 q1)
  rintro iv s2 ⟨y, H2, I2, ry, b, ks, xs, rfl, ⟨k1, k2, k3, k4⟩, q3⟩
  apply Calls.spliced_nil
  cases ry
  have D := td_at I2 k2 k4
  refine call_meetsIn F.slot_dict_get D.typeIs F.entry_dict_get (F.args_dict_get_2 _ _) (meetsH_dict_get (tupleKind (intKind X.prog X.w)) a b k3) ⟨tupleKind_room_in1 hu, ks, xs, I2.isT k1, D, ?_⟩
  rcases q3 with ⟨e1, q⟩ | ⟨p, v, e1, e2, q⟩
  · rw [e1]
    exact ⟨.non, H2, I2.tok _, rfl, q⟩
  · rw [e1]
    exact ⟨v, H2, I2.tok _, e2, q⟩
end
def dGetT2 (d k x : DE) : DE := fun e S => (d e S).bind fun u S1 => match u with
  | .v (.tdc ws) => (k e S1).bind fun y S2 => (x e S2).bind fun z S3 => match y, z with
    | .v (.tup l), .v z => match intsW l with
      | some ks => .ok (.v ((lookT ks ws).getD z)) S3
      | none => .no
    | _, _ => .no
  | _ => .no
def dGetT1 (d k : DE) : DE := fun e S => (d e S).bind fun u S1 => match u with
  | .v (.tdc ws) => (k e S1).bind fun y S2 => match y with
    | .v (.tup l) => match intsW l with
      | some ks => .ok (.v ((lookT ks ws).getD .non)) S2
      | none => .no
    | _ => .no
  | _ => .no
section
variable {ec : Nat → Value} {X : Cx} {o k x : Expr} {do_ dk dx : DE} {apos cpos : Pos}
theorem ev_getT2 (hu : X.A.units + 65 < cLine) (ho : PEv ec X o do_) (hk : PEv ec X k dk) (hx : PEv ec X x dx) (m : ∀ pn xe, M2 (X.tr pn xe) o "get" apos k x cpos) : PEv ec X (.Call (.Attribute o "get" apos) [k, x] [] cpos) (dGetT2 do_ dk dx) :=
  ⟨fun pn xe Wx tk => (pe_getT2 (X := X.tr pn xe) (by show X.A.units + 1 < cLine; omega) (ho.run pn xe Wx tk) (hk.run pn xe Wx tk) (hx.run pn xe Wx tk) (m pn xe)).imp fun σ H Q ⟨env, S, ι, B, R, E, h⟩ => by
    refine LE.then_ R E h fun u S1 v H1 ι1 G1 R1 E1 ru h1 => ?_
    split at h1
    · rename_i ws
      obtain ⟨a, xs, vs, rfl, T⟩ := Rp.tdc_inv ru
      refine ⟨a, xs, rfl, T.at_, T.sm, LE.then_ R1 E1 h1 fun u2 S2 v2 H2 ι2 G2 R2 E2 ru2 h2 => LE.then_ R2 E2 h2 fun u3 S3 v3 H3 ι3 G3 R3 E3 ru3 h3 => ?_⟩
      split at h3
      · rename_i l z
        split at h3
        · rename_i ks hks
          have r0 : Rp _ H3 _ (.tdc ws) (.ref a) := Rp.go G3 (Rp.go G2 (show Rp _ H1 _ (.tdc ws) (.ref a) from ru))
          obtain ⟨a', xs', vs', ea, T'⟩ := r0.tdc_inv
          cases ea
          obtain ⟨b, rfl, hb, _⟩ := tup_ints (Rp.go G3 (show Rp _ H2 _ (.tup l) v2 from ru2)) hks
          refine ⟨b, ks, xs', rfl, ⟨hb, T'.at_, T'.sm, T'.sq⟩, ?_⟩
          rcases T'.look ks with ⟨e1, e2⟩ | ⟨p, w, v, e1, e2, e3, e4⟩
          · rw [e2] at h3
            exact .inl ⟨e1, h3 _ H3 ι3 .refl R3 ru3⟩
          · rw [e2] at h3
            exact .inr ⟨p, v, e1, e3, h3 _ H3 ι3 .refl R3 e4⟩
        · exact h3.elim
      · exact h3.elim
    · exact h1.elim⟩
theorem ev_getT1 (hu : X.A.units + 65 < cLine) (ho : PEv ec X o do_) (hk : PEv ec X k dk) (m : ∀ pn xe, M1 (X.tr pn xe) o "get" apos k cpos) : PEv ec X (.Call (.Attribute o "get" apos) [k] [] cpos) (dGetT1 do_ dk) :=
  ⟨fun pn xe Wx tk => (pe_getT1 (X := X.tr pn xe) (by show X.A.units + 1 < cLine; omega) (ho.run pn xe Wx tk) (hk.run pn xe Wx tk) (m pn xe)).imp fun σ H Q ⟨env, S, ι, B, R, E, h⟩ => by
    refine LE.then_ R E h fun u S1 v H1 ι1 G1 R1 E1 ru h1 => ?_
    split at h1
    · rename_i ws
      obtain ⟨a, xs, vs, rfl, T⟩ := Rp.tdc_inv ru
      refine ⟨a, xs, rfl, T.at_, T.sm, LE.then_ R1 E1 h1 fun u2 S2 v2 H2 ι2 G2 R2 E2 ru2 h2 => ?_⟩
      split at h2
      · rename_i l
        split at h2
        · rename_i ks hks
          have r0 : Rp _ H2 _ (.tdc ws) (.ref a) := Rp.go G2 (show Rp _ H1 _ (.tdc ws) (.ref a) from ru)
          obtain ⟨a', xs', vs', ea, T'⟩ := r0.tdc_inv
          cases ea
          obtain ⟨b, rfl, hb, _⟩ := tup_ints (show Rp _ H2 _ (.tup l) v2 from ru2) hks
          refine ⟨b, ks, xs', rfl, ⟨hb, T'.at_, T'.sm, T'.sq⟩, ?_⟩
          rcases T'.look ks with ⟨e1, e2⟩ | ⟨p, w, v, e1, e2, e3, e4⟩
          · rw [e2] at h2
            exact .inl ⟨e1, h2 _ H2 ι2 .refl R2 .non⟩
          · rw [e2] at h2
            exact .inr ⟨p, v, e1, e3, h2 _ H2 ι2 .refl R2 e4⟩
        · exact h2.elim
      · exact h2.elim
    · exact h1.elim⟩
end
end Bel

/-! The engine, part Oc: dict(pairs), the keys tuples of numbers. -/
namespace Bel
open PySem PySem.Spec PyProof.Rows L2
/-! ### the mathematics of it -/
structure Zt where
  k : List Int
  b : Addr
  u : Value
  v : V
  w : W
def Zt.x (z : Zt) : List Int × Addr × Value := (z.k, z.b, z.u)
def Zt.p (z : Zt) : List Int × W := (z.k, z.w)
def putT (k : List Int) (w : W) (l : List (List Int × W)) : List (List Int × W) := if (lookT k l).isSome = true then l.map (fun p => if p.1 = k then (p.1, w) else p) else l ++ [(k, w)]
def mrgT (acc l : List (List Int × W)) : List (List Int × W) := l.foldl (fun acc p => putT p.1 p.2 acc) acc
def putZ (acc : List Zt) (z : Zt) : List Zt := if (acc.any fun y => decide (y.k = z.k)) = true then acc.map (fun y => if y.k = z.k then ⟨y.k, y.b, z.u, z.v, z.w⟩ else y) else acc ++ [z]
theorem any_x (k : List Int) : ∀ acc : List Zt, (atKey (acc.map Zt.x) k).isSome = acc.any fun y => decide (y.k = k)
  | [] => rfl
  | y :: acc => by
    have ih := any_x k acc
    unfold atKey at ih ⊢
    rw [List.map_cons, List.find?_cons, List.any_cons]
    show (Option.map _ (match decide (y.k = k) with | true => _ | false => _)).isSome = _
    by_cases q : y.k = k
    · rw [decide_eq_true q]; rfl
    · rw [decide_eq_false q]; exact ih
theorem any_p (k : List Int) : ∀ acc : List Zt, (lookT k (acc.map Zt.p)).isSome = acc.any fun y => decide (y.k = k)
  | [] => rfl
  | y :: acc => by
    have ih := any_p k acc
    unfold lookT at ih ⊢
    rw [List.map_cons, List.find?_cons, List.any_cons]
    show (Option.map _ (match decide (y.k = k) with | true => _ | false => _)).isSome = _
    by_cases q : y.k = k
    · rw [decide_eq_true q]; rfl
    · rw [decide_eq_false q]; exact ih
theorem stored_z (acc : List Zt) (z : Zt) : storedH (acc.map Zt.x) z.k z.b z.u = (putZ acc z).map Zt.x := by
  unfold storedH putZ
  rw [any_x]
  split
  · rw [List.map_map, List.map_map]
    refine List.map_congr_left fun y _ => ?_
    show (if y.k = z.k then (y.k, y.b, z.u) else Zt.x y) = Zt.x (if y.k = z.k then _ else y)
    split <;> rfl
  · rw [List.map_append]; rfl
theorem put_z (acc : List Zt) (z : Zt) : putT z.k z.w (acc.map Zt.p) = (putZ acc z).map Zt.p := by
  unfold putT putZ
  rw [any_p]
  split
  · rw [List.map_map, List.map_map]
    refine List.map_congr_left fun y _ => ?_
    show (if y.k = z.k then (y.k, z.w) else Zt.p y) = Zt.p (if y.k = z.k then _ else y)
    split <;> rfl
  · rw [List.map_append]; rfl
section
variable {F : Fx} {H : Hp} {O : Addr → Prop}
def GoodZ (F : Fx) (H : Hp) (O : Addr → Prop) (z : Zt) : Prop := FTup F H O z.b (z.k.map V.int) ∧ RelV z.v z.u ∧ Rp F H O z.w z.v
theorem putZ_good {acc : List Zt} {z : Zt} (h : ∀ y ∈ acc, GoodZ F H O y) (hz : GoodZ F H O z) : ∀ y ∈ putZ acc z, GoodZ F H O y := by
  intro y hy
  unfold putZ at hy
  split at hy
  · obtain ⟨q, hq, rfl⟩ := List.mem_map.mp hy
    split
    · exact ⟨(h q hq).1, hz.2⟩
    · exact h q hq
  · rcases List.mem_append.mp hy with hy | hy
    · exact h y hy
    · rw [List.mem_singleton.mp hy]; exact hz
theorem fold_z : ∀ (zs acc : List Zt), (∀ y ∈ acc, GoodZ F H O y) → (∀ z ∈ zs, GoodZ F H O z) → ∃ out : List Zt, storedAllH (acc.map Zt.x) (zs.map Zt.x) = out.map Zt.x ∧ mrgT (acc.map Zt.p) (zs.map Zt.p) = out.map Zt.p ∧ ∀ y ∈ out, GoodZ F H O y
  | [], acc, h, _ => ⟨acc, rfl, rfl, h⟩
  | z :: zs, acc, h, hz => by
    obtain ⟨out, e1, e2, e3⟩ := fold_z zs (putZ acc z) (putZ_good h (hz z (List.mem_cons_self ..))) fun y hy => hz y (List.mem_cons_of_mem _ hy)
    refine ⟨out, ?_, ?_, e3⟩
    · rw [← e1, ← stored_z]; rfl
    · rw [← e2, ← put_z]; rfl
theorem TdR.ofZ {a : Addr} {zs : List Zt} (h : H a = some (TdO F.w a (zs.map Zt.x))) (hn : ¬ O a) (hm : (a == sysModules) = false) (g : ∀ z ∈ zs, GoodZ F H O z) : TdR F H O a (zs.map Zt.x) (zs.map Zt.v) (zs.map Zt.p) := by
  have at_ : ∀ {α β : Type} {f : Zt → α} {g' : Zt → β} {i : Nat} {x : α} {y : β}, (zs.map f)[i]? = some x → (zs.map g')[i]? = some y → ∃ z ∈ zs, x = f z ∧ y = g' z := fun {α β f g' i x y} h1 h2 => by
    rw [List.getElem?_map] at h1 h2
    cases e : zs[i]? with
    | none => rw [e] at h1; cases h1
    | some z =>
      rw [e] at h1 h2
      cases h1; cases h2
      exact ⟨z, List.mem_of_getElem? e, rfl, rfl⟩
  refine ⟨h, hn, hm, by simp, by simp, fun i w x h1 h2 => ?_, fun i v x h1 h2 => ?_, fun i w v h1 h2 => ?_⟩
  · obtain ⟨z, hz, rfl, rfl⟩ := at_ h1 h2
    exact ⟨rfl, (g z hz).1⟩
  · obtain ⟨z, hz, rfl, rfl⟩ := at_ h1 h2
    exact (g z hz).2.1
  · obtain ⟨z, hz, rfl, rfl⟩ := at_ h1 h2
    exact (g z hz).2.2
end
end Bel

/-! The engine, part Od: dict(pairs), the call. -/
namespace Bel
open PySem PySem.Spec PyProof.Rows L2
/-- one pair of the row: where it stands, its key's numbers, where the key stands, its value -/
abbrev Pz := Addr × List Int × Addr × V
def mkX (zs : List Pz) (us : List Value) : List (List Int × Addr × Value) := (zs.zip us).map fun q => (q.1.2.1, q.1.2.2.1, q.2)
def PairOk (K : PySem.W.Frag) (H : Hp) (z : Pz) : Prop := SqT K H z.1 [.ref z.2.2.1, z.2.2.2] ∧ SqT K H z.2.2.1 (z.2.1.map V.int)
def rDictT (K : PySem.W.Frag) (w : World) : List V → Hp → VK → Prop := fun vs H Q => ∃ (l : Addr) (zs : List Pz), vs = [.ref l] ∧ SqL K H l (zs.map fun z => V.ref z.1) ∧ (∀ z ∈ zs, PairOk K H z) ∧
  ∀ (p : Addr) (us : List Value), H p = none → (p == sysModules) = false → us.length = zs.length → (∀ (i : Nat) (z : Pz) (u : Value), zs[i]? = some z → us[i]? = some u → RelV z.2.2.2 u) → Q (.ref p) (upd H p (TdO w p (storedAllH [] (mkX zs us))))
section
variable {X : Cx} {pins : List (Addr × Obj)} {σ : L2.St} {H : Hp} {s : Shared}
theorem vals_of (I : Inv X pins σ H s) : ∀ zs : List Pz, (∀ z ∈ zs, PairOk X.K H z) → ∃ us : List Value, us.length = zs.length ∧ ∀ (i : Nat) (z : Pz) (u : Value), zs[i]? = some z → us[i]? = some u → RelV z.2.2.2 u ∧ s.heap.IsTuple z.1 #[.ref z.2.2.1, u] ∧ IsTupleKey (intKind X.prog X.w) s.heap z.2.1 z.2.2.1
  | [], _ => ⟨[], rfl, fun i z u h => by simp at h⟩
  | z :: zs, h => by
    obtain ⟨us, h1, h2⟩ := vals_of I zs fun y hy => h y (List.mem_cons_of_mem _ hy)
    obtain ⟨k1, k2⟩ := h z (List.mem_cons_self ..)
    obtain ⟨its, r, tp, _⟩ := I.tuple k1
    obtain ⟨u1, u2, rfl, r1, r2⟩ := vals2 r
    cases r1
    refine ⟨u2 :: us, by simp [h1], fun i y u e1 e2 => ?_⟩
    cases i with
    | zero =>
      simp at e1 e2
      subst e1 e2
      exact ⟨r2, tp, I.isT k2⟩
    | succ i => exact h2 i y u (by simpa using e1) (by simpa using e2)
theorem zip_at {α β : Type} {l : List α} {m : List β} {i : Nat} {q : α × β} (h : (l.zip m)[i]? = some q) : l[i]? = some q.1 ∧ m[i]? = some q.2 := List.getElem?_zip_eq_some.mp h
theorem call_dictT (hc : X.calm = true) (hu : X.A.units + 65 < cLine) : CallR X (.type "dict") (rDictT X.K X.w) := by
  intro pins s σ H vs us0 Q I r h
  obtain ⟨l, zs, rfl, hl, hz, q⟩ := h
  obtain ⟨u, rfl, rx⟩ := vals1 r
  cases rx
  obtain ⟨its, rv, ⟨ol, n, e1, e2, e3, e4⟩, hsz⟩ := I.list hl
  obtain ⟨us, hlen, hus⟩ := vals_of I zs hz
  have ei : its = zs.map fun z => Value.ref z.1 := by
    have e : zs.map (fun z => V.ref z.1) = (zs.map (·.1)).map V.ref := by rw [List.map_map]; rfl
    rw [e] at rv
    rw [refs_at rv, List.map_map]
    rfl
  subst ei
  have zl : (zs.zip us).length = zs.length := by rw [List.length_zip, hlen, Nat.min_self]
  have xl : (mkX zs us).length = zs.length := by unfold mkX; rw [List.length_map, zl]
  have PA := PairArg.list (prog := X.prog) (w := X.w) l (zs.map fun z => Value.ref z.1).toArray (fun j => (zs.map (·.1)).getD j 0) ((zs.zip us).map fun q => (Value.ref q.1.2.2.1, q.2))
  have key : ∀ x ∈ mkX zs us, IsTupleKey (intKind X.prog X.w) s.heap x.1 x.2.1 := fun x hx => by
    obtain ⟨q, hq, rfl⟩ := List.mem_map.mp hx
    obtain ⟨i, hi⟩ := List.mem_iff_getElem?.mp hq
    obtain ⟨a1, a2⟩ := zip_at hi
    exact (hus i q.1 q.2 a1 a2).2.2
  refine call_dict_pairsH (knd := tupleKind (intKind X.prog X.w)) (ps := mkX zs us) PA (I.ok.hd hc) ?_ ⟨⟨ol, n, e1, e2, e3, e4⟩, ?_, ?_⟩ ⟨?_, ?_⟩ ?_ ?_ ?_
  · show X.A.units + 1 + 1 < cLine
    omega
  · simp [zl]
  · intro j kk vv hj
    rw [List.getElem?_map] at hj
    cases e : (zs.zip us)[j]? with
    | none => rw [e] at hj; cases hj
    | some q =>
      rw [e] at hj
      cases hj
      obtain ⟨a1, a2⟩ := zip_at e
      refine ⟨?_, .inl ?_⟩
      · simp [List.getD_eq_getElem?_getD, a1]
      · have := (hus j q.1 q.2 a1 a2).2.1
        simpa [List.getD_eq_getElem?_getD, a1] using this
  · rw [xl, List.length_map, zl]
  · intro i kk vv hj
    have hj' : ((zs.zip us).map fun q => (Value.ref q.1.2.2.1, q.2))[i]? = some (kk, vv) := hj
    rw [List.getElem?_map] at hj'
    cases e : (zs.zip us)[i]? with
    | none => rw [e] at hj'; cases hj'
    | some q =>
      rw [e] at hj'
      cases hj'
      exact ⟨q.1.2.1, q.1.2.2.1, by unfold mkX; rw [List.getElem?_map, e]; rfl, rfl⟩
  · intro h' hk x hx
    obtain ⟨o, items, m, k1, k2, k3, k4⟩ := key x hx
    exact ⟨o, items, m, hk _ _ (Nat.ne_of_lt (Heap.lt_size k1)) (by simp) k1, k2, k3, k4⟩
  · rw [List.length_map, zl]
    rw [List.length_map] at hsz
    exact hsz
  · intro h' tk hd hk
    have hm : (s.heap.objs.size == sysModules) = false := beq_eq_false_iff_ne.mpr (Nat.ne_of_gt I.big)
    obtain ⟨o, es, ep, k1, k2, k3, k4, _, k5⟩ := hd
    refine ⟨.ref s.heap.objs.size, upd H s.heap.objs.size (TdO X.w s.heap.objs.size (storedAllH [] (mkX zs us))), ?_, rfl, q _ us (I.hok.fresh (Nat.le_refl _)) hm hlen fun i z u a1 a2 => (hus i z u a1 a2).1⟩
    refine I.laid (t' := tk) (fun b y e => hk b y (by simp) e) (Nat.le_refl _) ?_
    show TdAt X.w s.heap.objs.size _ h' ∧ _ ∧ _
    refine ⟨⟨o, es, ep, k1, k2, k3, fun P => k4, k5⟩, ⟨o, k1⟩, fun g1 g2 z1 z2 => ?_⟩
    obtain ⟨o', es', ep', y1, y2⟩ := z1
    exact ⟨o', es', ep', z2 _ y1, y2⟩
end
/-! ### as the engine reads it -/
def pairsT : List W → Option (List (List Int × W))
  | [] => some []
  | .tup [.tup l, v] :: r => match intsW l, pairsT r with
    | some k, some ps => some ((k, v) :: ps)
    | _, _ => none
  | _ => none
def dDictT (d : DE) : DE := fun e S => (d e S).bind fun u S1 => match u with
  | .v (.lst l) => match pairsT l with
    | some ps => .ok (.v (.tdc (mrgT [] ps))) S1
    | none => .no
  | _ => .no
section
variable {F : Fx} {H : Hp} {O : Addr → Prop}
theorem pairsT_rp : ∀ {l : List W} {vs : List V} {ps : List (List Int × W)}, RpL F H O l vs → pairsT l = some ps → ∃ zs : List Pz, vs = zs.map (fun z => V.ref z.1) ∧ (∀ z ∈ zs, PairOk F.K H z) ∧ zs.length = ps.length ∧
    ∀ (i : Nat) (z : Pz) (p : List Int × W), zs[i]? = some z → ps[i]? = some p → z.2.1 = p.1 ∧ FTup F H O z.2.2.1 (z.2.1.map V.int) ∧ Rp F H O p.2 z.2.2.2
  | [], vs, ps, r, h => by
    cases h
    refine ⟨[], by rw [r.nil_iff]; rfl, (fun _ z => nomatch z), rfl, fun i z p h _ => ?_⟩
    simp at h
  | w :: l, vs, ps, r, h => by
    obtain ⟨v, vs', rfl, r1, r2⟩ := r.cons_iff
    unfold pairsT at h
    split at h
    · cases ‹_ = []›
    · rename_i lk wv rest heq
      injection heq with e1 e2
      subst e1 e2
      split at h
      · rename_i k qs hk hq
        cases h
        obtain ⟨zs, rfl, z1, z2, z3⟩ := pairsT_rp r2 hq
        obtain ⟨T, tv, rfl, ft, rt⟩ := r1.tup_inv
        obtain ⟨v1, t1, rfl, q1, q2⟩ := rt.cons_iff
        obtain ⟨v2, t2, rfl, q3, q4⟩ := q2.cons_iff
        have := q4.nil_iff
        subst this
        obtain ⟨b, rfl, sb, fb⟩ := tup_ints q1 hk
        refine ⟨(T, k, b, v2) :: zs, rfl, fun z hz => ?_, by simp [z2], fun i z p e1 e2 => ?_⟩
        · rcases List.mem_cons.mp hz with rfl | hz
          · exact ⟨ft.sq, sb⟩
          · exact z1 z hz
        · cases i with
          | zero =>
            simp at e1 e2
            subst e1 e2
            exact ⟨rfl, fb, q3⟩
          | succ i => exact z3 i z p (by simpa using e1) (by simpa using e2)
      · cases h
    · cases h
theorem mk_Z : ∀ (zs : List Pz) (us : List Value) (ps : List (List Int × W)), us.length = zs.length → zs.length = ps.length →
    (∀ (i : Nat) (z : Pz) (u : Value), zs[i]? = some z → us[i]? = some u → RelV z.2.2.2 u) →
    (∀ (i : Nat) (z : Pz) (p : List Int × W), zs[i]? = some z → ps[i]? = some p → z.2.1 = p.1 ∧ FTup F H O z.2.2.1 (z.2.1.map V.int) ∧ Rp F H O p.2 z.2.2.2) →
    ∃ Z : List Zt, mkX zs us = Z.map Zt.x ∧ ps = Z.map Zt.p ∧ ∀ z ∈ Z, GoodZ F H O z
  | [], _, [], _, _, _, _ => ⟨[], rfl, rfl, fun _ z => nomatch z⟩
  | z :: zs, u :: us, p :: ps, h1, h2, h3, h4 => by
    obtain ⟨Z, e1, e2, e3⟩ := mk_Z zs us ps (by simpa using h1) (by simpa using h2) (fun i a b q1 q2 => h3 (i + 1) a b (by simpa using q1) (by simpa using q2)) (fun i a b q1 q2 => h4 (i + 1) a b (by simpa using q1) (by simpa using q2))
    obtain ⟨g1, g2, g3⟩ := h4 0 z p rfl rfl
    have g4 := h3 0 z u rfl rfl
    obtain ⟨T, k, b, v⟩ := z
    obtain ⟨k', w⟩ := p
    simp only at g1 g2 g3 g4
    subst g1
    refine ⟨⟨k, b, u, v, w⟩ :: Z, ?_, ?_, fun y hy => ?_⟩
    · show (k, b, u) :: mkX zs us = _
      rw [e1]; rfl
    · rw [e2]; rfl
    · rcases List.mem_cons.mp hy with rfl | hy
      · exact ⟨g2, g4, g3⟩
      · exact e3 y hy
end
section
variable {ec : Nat → Value} {X : Cx} {e : Expr} {da : DE} {p pos : Pos}
theorem ev_dictT (hc : X.calm = true) (hu : X.A.units + 65 < cLine) (he : PEv ec X e da) (hg : Gl X "dict") (hm : X.mg "dict" = none) (hv : bootBuiltins "dict" = some (.type "dict"))
    (hs : starEach [e] X.env = (false, eval e X.env) :: starEach [] X.env := by rfl) : PEv ec X (.Call (.Name "dict" p) [e] [] pos) (dDictT da) :=
  ⟨fun pn xe Wx tk => (pe_callTy (X := X.tr pn xe) (call_dictT hc hu) hg hm hv (pa_cons (he.run pn xe Wx tk) pa_nil hs) (by decide) (by decide) hs rfl).imp fun σ H Q ⟨env, S, ι, B, R, E, h⟩ => by
    refine LE.then_ R E h fun u S1 v H1 ι1 G1 R1 E1 ru h1 => ?_
    split at h1
    · rename_i l
      split at h1
      · rename_i ps hps
        obtain ⟨a, vs, rfl, fl, rl⟩ := Rp.lst_inv ru
        obtain ⟨zs, rfl, z1, z2, z3⟩ := pairsT_rp rl hps
        refine ⟨a, zs, rfl, .inl (.inl fl.1), z1, fun q us hq hm hl hr => ?_⟩
        obtain ⟨R2, G2, n2⟩ := R1.fresh (TdO X.w q (storedAllH [] (mkX zs us))) hq
        obtain ⟨Z, e1, e2, e3⟩ := mk_Z zs us ps hl z2 hr z3
        obtain ⟨out, o1, o2, o3⟩ := fold_z Z [] (fun _ z => nomatch z) e3
        rw [← e1] at o1
        rw [← e2] at o2
        refine h1 _ _ ι1 G2 R2 ?_
        show Rp _ _ _ (.tdc (mrgT [] ps)) (.ref q)
        have o2' : mrgT [] ps = out.map Zt.p := o2
        rw [o2']
        refine (TdR.ofZ (zs := out) ?_ n2 hm fun z hz => ?_).rp
        · rw [upd_same]
          have o1' : storedAllH [] (mkX zs us) = out.map Zt.x := o1
          rw [o1']
        · obtain ⟨y1, y2, y3⟩ := o3 z hz
          exact ⟨y1.ext G2.extq G2.ownq, y2, Rp.go G2 y3⟩
      · exact h1.elim
    · exact h1.elim⟩
end
end Bel

/-! The engine, part Oe: less of rows and texts; sums; a list times a number; sorted rows; dict of a tuple of pairs. -/
namespace Bel
open PySem PySem.Spec PyProof.Rows L2
/-! ### < -/
def rLtG (K : PySem.W.Frag) : R2 := fun x y H Q => rI0 (fun i j => .bl (decide (i < j))) x y H Q ∨ ((∃ i j, x = .str i ∧ y = .str j ∧ Q (.bl (decide (i.cps.toList < j.cps.toList))) H) ∨ rLtT K x y H Q)
theorem op_ltG {X : Cx} (hu : X.A.units + 65 < cLine) : OpR X (compareOp .Lt) (rLtG X.K) := op_lt.or (op_lt_str.or (op_ltT (by omega)))
def fLtG : W → W → Option Out
  | .int i, .int j => some (.val (.bl (decide (i < j))))
  | .str x, .str y => some (.val (.bl (decide (x < y))))
  | .tup l, .tup m => match intsW l, intsW m with
    | some a, some b => some (.val (.bl (HT.lexLt a b)))
    | _, _ => none
  | _, _ => none
theorem ow_ltG {F : Fx} : OpW F fLtG (rLtG F.K) := by
  intro H O x y w z o Q rx ry e q
  unfold fLtG at e
  split at e
  · cases some_inj e
    obtain rfl := Rp.int_inv rx
    obtain rfl := Rp.int_inv ry
    exact .inl ⟨_, _, rfl, rfl, q _ (.bl _)⟩
  · rename_i a b
    cases some_inj e
    obtain ⟨rfl, _, _⟩ := Rp.str_inv rx
    obtain ⟨rfl, _, _⟩ := Rp.str_inv ry
    refine .inr (.inl ⟨_, _, rfl, rfl, ?_⟩)
    exact q _ (.bl _)
  · rename_i l m
    split at e
    · rename_i a b ha hb
      cases some_inj e
      obtain ⟨p, rfl, sp, _⟩ := tup_ints rx ha
      obtain ⟨r, rfl, sr, _⟩ := tup_ints ry hb
      exact .inr (.inr ⟨p, r, a, b, rfl, rfl, sp, sr, q _ (.bl _)⟩)
    · cases e
  · cases e
/-! ### sum -/
def fSum : List W → Option Out
  | [.lst l] => (intsW l).map fun ns => .val (.int ns.sum)
  | _ => none
theorem oc_sum {F : Fx} : OpC F fSum (rSum F.K) := by
  refine oc1 (fun ws o e => ?_) fun H O x w o Q r e q => ?_
  · unfold fSum at e
    split at e <;> first | exact ⟨_, rfl⟩ | cases e
  · cases w with
    | lst l =>
      obtain ⟨ns, hn, rfl⟩ := Option.map_eq_some_iff.mp (show (intsW l).map _ = some o from e)
      obtain ⟨a, vs, rfl, h1, rl⟩ := r
      have := ints_rp rl hn
      subst this
      exact ⟨a, ns, rfl, .inl h1, q _ (.int _)⟩
    | _ => cases e
/-! ### a list times a number -/
def dMulL (own : Bool) (a b : DE) : DE := fun e S => (a e S).bind fun u S1 => (b e S1).bind fun v S2 => match u, v with
  | .v (.lst l), .v (.int k) => if 0 ≤ k ∧ k ≤ 1000 ∧ l.length ≤ 1000 then (Out.nl (List.replicate k.toNat l).flatten).put own S2 else .no
  | _, _ => .no
def rRepP : R2 := fun x y H Q => ∃ l k xs, x = .ref l ∧ y = .int k ∧ H l = some (.lst xs) ∧ 0 ≤ k ∧ k ≤ 1000 ∧ xs.length ≤ 1000 ∧ ∀ p, H p = none → Q (.ref p) (upd H p (.lst (List.replicate k.toNat xs).flatten))
theorem op_mulL {X : Cx} : OpR X (binaryOp .Mult) rRepP := by
  intro pins s σ H x y v u Q I rx ry h
  obtain ⟨l, k, xs, rfl, rfl, hl, h0, h1, h2, q⟩ := h
  have b1 : -(2 ^ 63) ≤ k := Int.le_trans (by decide +kernel) h0
  have b2 : k < 2 ^ 63 := Int.lt_of_le_of_lt h1 (by decide +kernel)
  refine op_rep pins s σ H _ _ v u Q I rx ry ⟨l, k, xs, rfl, rfl, hl, b1, b2, ?_, q⟩
  have : xs.length * k.toNat ≤ 1000 * 1000 := Nat.mul_le_mul h2 (by omega)
  rw [sizeLine_is]
  omega
section
variable {ec : Nat → Value} {X : Cx} {a b e : Expr} {da db : DE} {p pos : Pos}
theorem ev_mulL {own : Bool} (ha : PEv ec X a da) (hb : PEv ec X b db) : PEv ec X (.BinOp a .Mult b pos) (dMulL own da db) :=
  ⟨fun pn xe Wx tk => (pe_op (X := X.tr pn xe) op_mulL (ha.run pn xe Wx tk) (hb.run pn xe Wx tk)).imp fun σ H Q ⟨env, S, ι, B, R, E, h⟩ => by
    refine LE.then_ R E h fun u S1 x H1 ι1 G1 R1 E1 ru h1 => LE.then_ R1 E1 h1 fun v S2 y H2 ι2 G2 R2 E2 rv h2 => ?_
    split at h2
    · rename_i l k
      split at h2
      · rename_i hc
        obtain rfl := Rp.int_inv rv
        obtain ⟨a', vs, rfl, f, rl⟩ := (Rp.go G2 (show Rp _ H1 _ (.lst l) x from ru)).lst_inv
        refine ⟨a', k, vs, rfl, rfl, f.1, hc.1, hc.2.1, by rw [← rl.1]; exact hc.2.2, fun q hq => ?_⟩
        exact put_ok R2 h2 q _ hq (rl.flat _)
      · exact h2.elim
    · exact h2.elim⟩
end
/-! ### sorted, of a row of numbers -/
section
variable {P : Program} {w : World} {A : Around} {E : Value → Shared → Prop} {s : Shared}
theorem sorted_row {l : Addr} {vs : List Value} {ns : List Int} {Q : Value → Shared → Prop} (hl : s.heap.IsTuple l vs.toArray) (hi : IntsAre vs ns) (hz : vs.length ≤ sizeLine)
    (h : ∀ (h' : Heap) (d : Addr) (out : List Value) (ns' : List Int) (n : Nat), IntsAre out ns' → ns'.Perm ns → ns'.Pairwise (· ≤ ·) → (∀ b o, s.heap.get? b = some o → h'.get? b = some o) → s.heap.get? d = none → h'.get? d = some (seqObj "list" out.toArray n) → Q (.ref d) { s with heap := h' }) :
    wpAny (model P w) A (call (.builtin "sorted") [.ref l]) Q E s := by
  obtain ⟨ol, ho, hc, n, hd⟩ := hl
  apply Calls.call_function_entry kind_sorted plain_sorted entry_sorted (args_sorted1 _)
  unfold Builtin.«sorted»
  apply wpAny_bind (m := checkCount "sorted" 1 1 _)
  apply wpAny_pure
  apply wpAny_bind
  refine wpAny_collect_seq l (.inr rfl) ho hc hd (fun h1 k1 => ?_) (by simpa using hz)
  apply wpAny_bind
  refine wpAny_newList ?_ (by simpa using hz)
  have at1 : (h1.push (seqObj "list" vs.toArray 0)).get? h1.objs.size = some (seqObj "list" vs.toArray 0) := Heap.get?_push_size _ rfl
  apply wpAny_bind
  apply wpAny_holding
  refine wpAny_call_entry slot_list_sort ⟨_, at1, rfl⟩ entry_list_sort (SrtO.list_sort_ord (vs := vs) (n := 0) SrtO.swo_int at1 hz (fun h2 => SrtO.ints_sortable hi h2) fun out p1 p2 => ⟨_, rfl, ?_⟩) (args_list_sort _)
  obtain ⟨y1, y2, y3⟩ := SrtO.ints_out hi p1 p2
  obtain ⟨m, at2⟩ := sortedHeap_at (out := out.toArray) at1
  apply wpAny_pure
  refine ⟨_, rfl, h _ h1.objs.size out _ m y1 y2 y3 (fun b o q => ?_) ?_ at2⟩
  · have k2 := k1 b o q
    have lt := Heap.lt_size k2
    rw [sortedHeap_old (Nat.ne_of_lt lt) (by rw [size_push']; exact Nat.lt_succ_of_lt lt)]
    exact Heap.get?_push_of_some _ k2
  · cases q : s.heap.get? h1.objs.size with
    | none => rfl
    | some o => exact absurd (Heap.lt_size (k1 _ o q)) (Nat.lt_irrefl _)
end
theorem ok_there {P : Program} {w : World} {H : Hp} {h : Heap} {a : Addr} {o : HO} (x : ObjOk P w H h a o) : ∃ u, h.get? a = some u := by
  cases o with
  | lst _ => exact let ⟨_, _, _, _, e⟩ := x; ⟨_, e⟩
  | tup _ => exact let ⟨_, _, _, o, e, _⟩ := x; ⟨o, e⟩
  | dK _ => exact let ⟨_, _, _, _, o, _, _, e, _⟩ := x; ⟨o, e⟩
  | dT _ => exact let ⟨_, _, _, _, o, _, _, e, _⟩ := x; ⟨o, e⟩
  | set _ _ => exact let ⟨o, _, _, _, e, _⟩ := x; ⟨o, e⟩
  | ins _ _ _ => exact let ⟨_, _, _, e, _⟩ := x; ⟨_, e⟩
  | own _ => exact x
  | xd _ => exact let ⟨_, ⟨_, _, _, e, _⟩, _⟩ := x; ⟨_, e⟩
  | rng _ _ => exact let ⟨_, _, _, e⟩ := x; ⟨_, e⟩
  | frz _ _ => exact ⟨_, x.1⟩
  | tbl _ => exact ⟨_, x⟩
  | met _ _ => exact ⟨_, x⟩
  | ext _ => exact x.2.1
def rSortR (K : PySem.W.Frag) : List V → Hp → VK → Prop := fun vs H Q => ∃ (a : Addr) (ns : List Int), vs = [V.ref a] ∧ SqT K H a (ns.map V.int) ∧ ∀ (ns' : List Int) (p : Addr), ns'.Perm ns → ns'.Pairwise (· ≤ ·) → H p = none → Q (.ref p) (upd H p (.lst (ns'.map V.int)))
theorem call_sortR {X : Cx} : CallR X (.builtin "sorted") (rSortR X.K) := by
  intro pins s σ H vs us Q I r h
  obtain ⟨a, ns, rfl, hs, q⟩ := h
  obtain ⟨its, rv, ⟨o, h1, h2, n, h3⟩, hz⟩ := I.tuple hs
  rw [Vals.ref1 r]
  have hl : its.length ≤ sizeLine := by rw [← rv.length]; exact hz
  refine sorted_row (vs := its) ⟨o, h1, h2, n, h3⟩ rv.ints hl fun h' d out ns' m y1 y2 y3 k nd hd => ?_
  have hn : H d = none := by
    cases e : H d with
    | none => rfl
    | some ho =>
      obtain ⟨ob, e2⟩ := ok_there (I.hok d ho e)
      rw [nd] at e2; cases e2
  have hlen : (ns'.map V.int).length ≤ sizeLine := by
    rw [List.length_map, y2.length_eq]
    rw [List.length_map] at hz
    exact hz
  exact ⟨.ref d, upd H d (.lst (ns'.map V.int)), I.laidN (t' := s.toks) k nd hn ⟨hlen, out, m, vals_of_ints y1, hd⟩, rfl, q ns' d y2 y3 hn⟩
def srtI (l : List Int) : List Int := l.mergeSort fun a b => decide (a ≤ b)
theorem srtI_unique {l m : List Int} (p : m.Perm l) (h : m.Pairwise (· ≤ ·)) : m = srtI l := by
  have q := List.mergeSort_perm l fun a b => decide (a ≤ b)
  have hs : (srtI l).Pairwise (· ≤ ·) := by
    have := List.pairwise_mergeSort (le := fun (a b : Int) => decide (a ≤ b)) (fun a b c h1 h2 => by simp at *; omega) (fun a b => by simp; omega) l
    exact this.imp fun h => by simpa using h
  exact List.Perm.eq_of_pairwise (fun a b _ _ h1 h2 => Int.le_antisymm h1 h2) h hs (p.trans q.symm)
def fSortI : List W → Option Out
  | [.tup l] => (intsW l).map fun ns => .nl ((srtI ns).map W.int)
  | [.lst l] => (intsW l).map fun ns => .nl ((srtI ns).map W.int)
  | _ => none
theorem ints_map {F : Fx} {H : Hp} {O : Addr → Prop} : ∀ ns : List Int, RpL F H O (ns.map W.int) (ns.map V.int)
  | [] => .nil
  | n :: ns => .cons (.int n) (ints_map ns)
theorem oc_sortI {F : Fx} : OpC F fSortI (fun xs H Q => rSortR F.K xs H Q ∨ rSortedI F.K xs H Q) := by
  refine oc1 (fun ws o e => ?_) fun H O x w o Q r e q => ?_
  · unfold fSortI at e
    split at e <;> first | exact ⟨_, rfl⟩ | cases e
  · cases w with
    | tup l =>
      obtain ⟨ns, hn, rfl⟩ := Option.map_eq_some_iff.mp (show (intsW l).map _ = some o from e)
      obtain ⟨a, rfl, sq, _⟩ := tup_ints r hn
      refine .inl ⟨a, ns, rfl, sq, fun ns' p h1 h2 hp => ?_⟩
      rw [srtI_unique h1 h2]
      exact q p _ hp (ints_map _)
    | lst l =>
      obtain ⟨ns, hn, rfl⟩ := Option.map_eq_some_iff.mp (show (intsW l).map _ = some o from e)
      obtain ⟨a, vs, rfl, h1, rl⟩ := r
      have := ints_rp rl hn
      subst this
      refine .inr ⟨a, ns, rfl, .inl h1, fun ns' p h1 h2 hp => ?_⟩
      rw [srtI_unique h1 h2]
      exact q p _ hp (ints_map _)
    | _ => cases e
end Bel

/-! The engine, part Of: dict(a tuple of pairs). -/
namespace Bel
open PySem PySem.Spec PyProof.Rows L2
def PlainT (K : PySem.W.Frag) (H : Hp) (a : Addr) (xs : List V) : Prop := ExT H a xs ∨ ∃ (o : Obj) (us : Array Value) (n : Nat), K.lookup a = some o ∧ o.cls = .type "tuple" ∧ o.dict = none ∧ o.data = .seq us n ∧ us.size ≤ sizeLine ∧ Vals xs us.toList
theorem FTup.plain {F : Fx} {H : Hp} {O : Addr → Prop} {a : Addr} {xs : List V} (h : FTup F H O a xs) : PlainT F.K H a xs := h.imp And.left id
theorem plain_at {X : Cx} {pins : List (Addr × Obj)} {σ : L2.St} {H : Hp} {s : Shared} {a : Addr} {xs : List V} (I : L2.Inv X pins σ H s) (h : PlainT X.K H a xs) : ∃ us : List Value, Vals xs us ∧ PlainSeq "tuple" s.heap a us.toArray ∧ xs.length ≤ sizeLine := by
  rcases h with ⟨o, h, hd⟩ | ⟨o, us, n, h1, h2, h3, h4, h5, h6⟩
  · obtain ⟨k1, k2, us, k3, o', k4, k5, k6⟩ := I.hok a _ h
    rw [k1] at k4
    cases k4
    obtain ⟨n, k6⟩ := k6
    exact ⟨us, k3, ⟨o, n, k1, k5, hd, k6⟩, k2⟩
  · exact ⟨us.toList, h6, ⟨o, n, I.kIn a o h1, h2, h3, by rw [Array.toArray_toList]; exact h4⟩, by rw [h6.length, Array.length_toList]; exact h5⟩
theorem pick {α : Type} : ∀ (n : Nat) {R : Nat → α → Prop}, (∀ j, j < n → ∃ u, R j u) → ∃ us : List α, us.length = n ∧ ∀ j u, us[j]? = some u → R j u
  | 0, _, _ => ⟨[], rfl, fun j u h => by simp at h⟩
  | n + 1, R, h => by
    obtain ⟨u, hu⟩ := h 0 (Nat.succ_pos n)
    obtain ⟨us, e, hus⟩ := pick n (R := fun j => R (j + 1)) fun j hj => h (j + 1) (Nat.succ_lt_succ hj)
    refine ⟨u :: us, by simp [e], fun j x hx => ?_⟩
    cases j with
    | zero => simp at hx; subst hx; exact hu
    | succ j => exact hus j x (by simpa using hx)
def rDictQ (K : PySem.W.Frag) : List V → Hp → VK → Prop := fun vs H Q => ∃ (a : Addr) (ps : List Addr) (l : List (Key × V)), vs = [.ref a] ∧ PlainT K H a (ps.map V.ref) ∧ Paired (fun p (q : Key × V) => SqT K H p [kV q.1, q.2]) ps l ∧ ∀ p, H p = none → Q (.ref p) (upd H p (.dK (mergeK [] l)))
theorem call_dictQ {X : Cx} (hc : X.calm = true) : CallR X (.type "dict") (rDictQ X.K) := by
  intro pins s σ H vs us0 Q I r h
  obtain ⟨a, ps, l, rfl, ha, hp, q⟩ := h
  obtain ⟨u, rfl, rx⟩ := vals1 r
  cases rx
  obtain ⟨us, rv, pl, hz⟩ := plain_at I ha
  rw [refs_at rv] at pl
  obtain ⟨prs, rel, hl, hpr⟩ := pairs_of I hp
  obtain ⟨ks, ek, hk⟩ := pick (α := Value) ps.length (R := fun j u => ∀ q, prs[j]? = some q → ∃ b, ps[j]? = some b ∧ IsTup s.heap b #[u, q.2] ∧ keyIs q.1 u = true) fun j hj => by
    have hj2 : j < prs.length := by rw [hl]; exact hj
    obtain ⟨b, u, e1, e2, e3⟩ := hpr j prs[j] (List.getElem?_eq_getElem hj2)
    refine ⟨u, fun q z => ?_⟩
    rw [List.getElem?_eq_getElem hj2] at z
    cases z
    exact ⟨b, e1, e2, e3⟩
  have le : (ks.zip (prs.map (·.2))).length = ps.length := by rw [List.length_zip, List.length_map, ek, hl, Nat.min_self]
  have PA := PairArg.tuple (prog := X.prog) (w := X.w) a (ps.map Value.ref).toArray (fun j => ps.getD j 0) (ks.zip (prs.map (·.2)))
  have at_ : ∀ (j : Nat) (k v : Value), (ks.zip (prs.map (·.2)))[j]? = some (k, v) → ∃ (q : Key × Value) (b : Addr), prs[j]? = some q ∧ q.2 = v ∧ ps[j]? = some b ∧ IsTup s.heap b #[k, v] ∧ keyIs q.1 k = true := fun j k v e => by
    obtain ⟨e1, e2⟩ := List.getElem?_zip_eq_some.mp e
    rw [List.getElem?_map] at e2
    cases e3 : prs[j]? with
    | none => rw [e3] at e2; cases e2
    | some q =>
      rw [e3] at e2
      cases e2
      obtain ⟨b, z1, z2, z3⟩ := hk j k e1 q e3
      exact ⟨q, b, rfl, rfl, z1, z2, z3⟩
  refine PySem.call_dict_pairs (knd := mixKind X.prog X.w) (kvs := prs) PA (I.ok.hd hc) ⟨pl, ?_, ?_⟩ ⟨?_, ?_⟩ ?_ ?_
  · simp [le]
  · intro j k v e
    obtain ⟨q, b, e1, rfl, e2, ⟨o, z1, z2, n, z3⟩, e4⟩ := at_ j k v e
    refine ⟨?_, .inl ?_⟩
    · simp [List.getD_eq_getElem?_getD, e2]
    · have ej : ps.getD j 0 = b := by rw [List.getD_eq_getElem?_getD, e2]; rfl
      show s.heap.IsTuple (ps.getD j 0) _
      rw [ej]
      exact ⟨o, z1, z2, n, z3⟩
  · rw [le, hl]
  · intro i k v e
    obtain ⟨q, b, e1, rfl, e2, e3, e4⟩ := at_ i k v e
    exact ⟨q.1, e1, e4⟩
  · rw [le]
    rw [List.length_map] at hz
    exact hz
  · intro h' tk hd hkeep
    have hm : (s.heap.objs.size == sysModules) = false := beq_eq_false_iff_ne.mpr (Nat.ne_of_gt I.big)
    have hlen : (mergeK [] l).length ≤ sizeLine := by
      have := length_mergeK l []
      rw [List.length_nil, Nat.zero_add, rel.length, hl] at this
      rw [List.length_map] at hz
      exact Nat.le_trans this hz
    refine ⟨.ref s.heap.objs.size, upd H s.heap.objs.size (.dK (mergeK [] l)), ?_, rfl, q _ (I.hok.fresh (Nat.le_refl _))⟩
    exact I.laid (t' := tk) (fun b y e => hkeep b y (by simp) e) (Nat.le_refl _) ⟨hlen, hm, merged [] prs, KV.merge rel .nil, hd⟩
/-- dict(rows) of a tuple of pairs -/
def fDictQ : List W → Option Out
  | [.tup l] => (pairsW l).map fun ps => .nd (mrgW [] ps)
  | _ => none
theorem oc_dictQ {F : Fx} : OpC F fDictQ (rDictQ F.K) := by
  refine oc1 (fun ws o e => ?_) fun H O x w o Q r e q => ?_
  · unfold fDictQ at e
    split at e <;> first | exact ⟨_, rfl⟩ | cases e
  · cases w with
    | tup l =>
      simp only [fDictQ] at e
      cases e1 : pairsW l with
      | none => rw [e1] at e; cases e
      | some ps =>
        rw [e1] at e
        cases some_inj e
        obtain ⟨a, vs, rfl, h1, r1⟩ := r.tup_inv
        obtain ⟨as, kvs, rfl, h2, h3⟩ := pairs_rp r1 e1
        exact ⟨a, as, kvs, rfl, h1.plain, h2, fun p hp => q p _ hp (mrg_rp h3 .nil)⟩
    | _ => cases e
end Bel

/-! The engine, part Og: o[i], x = e. -/
namespace Bel
open PySem PySem.Spec PyProof.Rows L2
def dSubT (o i : DE) (k : Nat) (d : DE) : DS := fun e S => (d e S).st e fun uv S1 => match uv with
  | .v (.tup [w, z]) => (o e S1).st e fun uo S2 => (i e S2).st e fun ui S3 => match uo, ui with
    | .o n, .v (.int j) => match S3[n]? with
      | some (.lst l) => match ixN l.length j with
        | some m => .ok (.nx (e.set k (some (.v z)))) (S3.set n (.lst (l.set m w)))
        | none => .no
      | _ => .no
    | _, _ => .no
  | _ => .no
section
variable {ec : Nat → Value} {X : Cx} {e o i : Expr} {da db dc : DE} {p px pt pos : Pos} {kt : Nat}
theorem sv_subT {k : Nat} {x : Str} (hc : X.calm = true) (hN : X.N.Nodup) (hk : X.N[k]? = some x) (hx : Loc X.env.scope x) (ho : PEv ec X o da) (hi : PEv ec X i db) (hv : PEv ec X e dc)
    (hf : X.fn x = true ∨ X.env.scope.names.lookup x = some .local := by first | exact .inl rfl | exact .inr rfl)
    (hs : swapsWithSole [.Tuple [.Subscript o i p, .Name x px] kt pt] e pos.line X.env = pure false := by rfl) (hw : swappedStores [.Tuple [.Subscript o i p, .Name x px] kt pt] e X.env = pure none := by rfl)
    (h1 : (assignEach [.Tuple [.Subscript o i p, .Name x px] kt pt] X.env).map (·.2) = [assign (.Tuple [.Subscript o i p, .Name x px] kt pt) X.env] := by rfl)
    (hs1 : (assignEach [.Subscript o i p, .Name x px] X.env).map (·.2) = assign (.Subscript o i p) X.env :: (assignEach [.Name x px] X.env).map (·.2) := by rfl)
    (hs2 : (assignEach [.Name x px] X.env).map (·.2) = assign (.Name x px) X.env :: (assignEach [] X.env).map (·.2) := by rfl)
    (hn : (assignEach [.Subscript o i p, .Name x px] X.env).length = 2 := by rfl) (hst : (assignEach [.Subscript o i p, .Name x px] X.env).findIdx? (·.1) = none := by rfl)
    (h2 : ∀ v, assign (.Subscript o i p) X.env v = (do
      let ov ← holding [v] (eval o X.env)
      let iv ← holding [v, ov] (eval i X.env)
      standAt p
      holding [v, ov, iv] (setItem ov iv v)
      release [v, ov, iv] []) := by intro _; rfl) : PSv ec X (.Assign [.Tuple [.Subscript o i p, .Name x px] kt pt] e pos) (dSubT da db k dc) :=
  ⟨fun pn xe Wx tk po => (ps_asg (X := X.tr pn xe) (hv.run pn xe Wx tk) (pg_tup (X := X.tr pn xe) hc (pgs_cons (X := X.tr pn xe) (pg_sub (ho.run pn xe Wx tk) (hi.run pn xe Wx tk) set_list h2) (pgs_cons (X := X.tr pn xe) (pg_name (X := X.tr pn xe) hN hk hx hf) pgs_nil hs2) hs1) hn hst) hs hw h1).imp fun D σ H ⟨env, S, ι, B, R, E, h⟩ =>
    LE.thenS R E h fun uv S1 v H1 ι1 G1 R1 E1 rv h1 => by
      split at h1
      · rename_i w z
        obtain ⟨a, vs, rfl, f1, r1⟩ := Rp.tup_inv rv
        obtain ⟨v1, t1, rfl, q1, q2⟩ := r1.cons_iff
        obtain ⟨v2, t2, rfl, q3, q4⟩ := q2.cons_iff
        have := q4.nil_iff
        subst this
        refine ⟨a, [v1, v2], rfl, f1.sq, rfl, v1, [v2], rfl, ?_⟩
        refine LE.thenS R1 E1 h1 fun uo S2 vo H2 ι2 G2 R2 E2 ro h2 => LE.thenS R2 E2 h2 fun ui S3 vi H3 ι3 G3 R3 E3 ri h3 => ?_
        have w3 := Rp.go G3 (Rp.go G2 q1)
        have z3 := Rp.go G3 (Rp.go G2 q3)
        have ro3 := RU.go G3 ro
        split at h3
        · rename_i n j
          obtain ⟨aa, ha, rfl⟩ := ro3
          split at h3
          · rename_i l e1
            obtain ⟨us, hH, rl⟩ := R3.lst e1 ha
            split at h3
            · rename_i m e2
              obtain ⟨R4, G4⟩ := R3.write (o' := .lst (l.set m w)) (ho := .lst (us.set m v1)) e1 (by simp) ha ⟨_, rfl, rl.set m w3⟩
              refine ⟨aa, us, j, m, rfl, Rp.int_inv ri, hH, by rw [← rl.1]; exact e2, v2, [], rfl, ?_⟩
              exact ⟨rfl, h3 _ _ ι3 G4 R4 ((E3.go G4).set k (u := .v z) (Rp.go G4 z3))⟩
            · exact h3.elim
          · exact h3.elim
        · exact h3.elim
      · exact h1.elim⟩
end
end Bel

/-! shared mirrors -/
namespace Bel
open PySem PySem.Spec PyProof.Rows L2
def c_MOST_NAMED : W := .int 29
def c_MOST_DEEP : W := .int 4
def c_SCRIPT : W := .int 2
def c_NAME : W := .int 0
def c_GROUP : W := .int 1
def c_UNTOLD : W := .int 6
def c_STARTED : W := .int 11
def c_HOW : W := .int 5
def c_FIRST_QUIET : W := .int 6
def c_FALLS : W := .int (-1)
def c_BY_BELLS : W := .tup [.int 100, .int 103, .int 104, .int 105]
def c_STOPPING : W := .tup [.int 1, .int 2]
def c_LAST_BELL : W := .int 7
def c_FIRST_SOFT : W := .int 2
def c_SAYS : W := .int 12
def c_WAYS : W := .int 10
def c_TRAPS : W := .int 9
def c_HELD : W := .int 8
def c_BELLS_yards : W := .int 7
def c_BOXES : W := .int 4
def c_PLACE : W := .int 3
def c_PARTS : W := .int 13
def c_MOST_OF_NONE : W := .int 30
def c_MOST_STARTED : W := .int 9
def g_is_between : DF := fnD 3
    (dRet ((dAndV (dIsT isInt (dVar 0)) (dAndV (dNotV (dIsT isBl (dVar 0))) (dChain (fCmp fun i j => decide (i ≤ j)) (fCmp fun i j => decide (i ≤ j)) (dVar 1) (dVar 0) (dVar 2))))))
def g_are_between_e1 : DE := (dFn g_is_between 3 (dCons (dVar 3) (dCons (dVar 1) (dCons (dVar 2) dNil))))
def g_are_between : DF := fnD 4
    (dRet ((dAndV (dIsT isTup (dVar 0)) (dCall false fAll (dCons (dLc false (dItT (dVar 0)) (tgN 3) dYes g_are_between_e1 [3]) dNil)))))
def g_is_task_name : DF := fnD 1
    (dRet ((dAndV (dFn g_are_between 3 (dCons (dVar 0) (dCons (dC (.int 0)) (dCons (dC c_MOST_NAMED) dNil)))) (dBin false (fCmp fun i j => decide (i ≤ j)) (dCall false fLen (dCons (dVar 0) dNil)) (dC c_MOST_DEEP)))))
def g_is_rising_e1 : DE := (dBin false fLtG (dBin false fIx (dVar 0) (dVar 1)) (dBin false fIx (dVar 0) (dBin false fAdd (dVar 1) (dC (.int 1)))))
def g_is_rising : DF := fnD 2
    (dRet (dCall false fAll (dCons (dLc false (dRng1 (dBin false fSub (dCall false fLen (dCons (dVar 0) dNil)) (dC (.int 1)))) (tgN 1) dYes g_is_rising_e1 [1]) dNil)))
def g_sisters_by_e1 : DE := (dBin false fAdd (dBin false fIx (dVar 1) (dC c_NAME)) (dDisp false .nt (dCons (dVar 4) dNil)))
def g_sisters_by_t2 : DT := (dAnd (dT (dBin false fInT (dVar 5) (dVar 2))) (dT (dBin false fEq (dBin false fIx (dBin false fIxT (dVar 2) (dVar 5)) (dC c_GROUP)) (dVar 5))))
def g_sisters_by : DF := fnD 6
    (dSeq (dIfS (dT (dBin false fNe (dBin false fIx (dVar 1) (dC c_SCRIPT)) (dC (.str [])))) (dRet (dDisp false .nl dNil)) dNext)
    (dSeq (dAsg 3 (dLc false (dRng1 (dBin false fIx (dBin false fIx (dVar 0) (dC c_NAME)) (dNeg (dC (.int 1))))) (tgN 4) dYes g_sisters_by_e1 [4]))
    (dRet (dLc false (dItL (dVar 3)) (tgN 5) g_sisters_by_t2 (dVar 5) [5]))))
def g_stands_right : DF := fnD 3
    (dSeq (dIfS (dT (dBin false fEq (dBin false fIx (dVar 0) (dC c_NAME)) (dDisp false .nt dNil))) (dRet ((dAndV (dBin false fEq (dBin false fIx (dVar 0) (dC c_GROUP)) (dDisp false .nt dNil)) (dNotV (dBin false fIx (dVar 0) (dC c_UNTOLD)))))) dNext)
    (dSeq (dAsg 2 (dGetT1 (dVar 1) (dSl false (dBin false fIx (dVar 0) (dC c_NAME)) dNoPart (dPart (dNeg (dC (.int 1)))))))
    (dSeq (dIfS (dOr (dT (dBin false fIs (dVar 2) (dC .non))) (dT (dBin false (fCmp fun i j => decide (j ≤ i)) (dBin false fIx (dBin false fIx (dVar 0) (dC c_NAME)) (dNeg (dC (.int 1)))) (dBin false fIx (dVar 2) (dC c_STARTED))))) (dRet (dC (.bl false))) dNext)
    (dSeq (dIfS (dT (dBin false fNotInO (dBin false fIx (dVar 0) (dC c_GROUP)) (dBin false fAdd (dDisp false .nl (dCons (dBin false fIx (dVar 0) (dC c_NAME)) (dCons (dBin false fIx (dVar 2) (dC c_GROUP)) dNil))) (dFn g_sisters_by 3 (dCons (dVar 0) (dCons (dVar 2) (dCons (dVar 1) dNil))))))) (dRet (dC (.bl false))) dNext)
    (dRet ((dOrV (dNotV (dBin false fIx (dVar 0) (dC c_UNTOLD))) ((dAndV (dBin false fNe (dBin false fIx (dBin false fIx (dVar 0) (dC c_HOW)) (dC (.int 0))) (dC (.str [114, 117, 110, 115]))) (dBin false fNe (dBin false fIx (dBin false fIx (dVar 2) (dC c_HOW)) (dC (.int 0))) (dC (.str [101, 110, 100, 101, 100]))))))))))))
def g_can_be_heard_yet_e1 : DE := (dBin false fNe (dGet2 (dVar 2) (dVar 3) (dIf (dT (dBin false (fCmp fun i j => decide (j ≤ i)) (dVar 3) (dC c_FIRST_QUIET))) (dC c_FALLS) (dC (.int 0)))) (dC c_FALLS))
def g_can_be_heard_yet : DF := fnD 4
    (dSeq (dAsg 2 (dCall false fDictQ (dCons (dVar 1) dNil)))
    (dRet (dCall false fAll (dCons (dLc false (dItT (dVar 0)) (tgN 3) dYes g_can_be_heard_yet_e1 [3]) dNil))))
def g_are_pairs_e1 : DE := ((dAndV (dIsT isTup (dVar 1)) (dBin false fEq (dCall false fLen (dCons (dVar 1) dNil)) (dC (.int 2)))))
def g_are_pairs : DF := fnD 2
    (dRet ((dAndV (dIsT isTup (dVar 0)) (dCall false fAll (dCons (dLc false (dItT (dVar 0)) (tgN 1) dYes g_are_pairs_e1 [1]) dNil)))))
def g_are_boxes_e1 : DE := ((dAndV (dFn g_is_name 1 (dCons (dBin false fIx (dVar 1) (dC (.int 0))) dNil)) (dFn g_is_between 3 (dCons (dBin false fIx (dVar 1) (dC (.int 1))) (dCons (dC (.int 1)) (dCons (dC c_MOST_NUMBER) dNil))))))
def g_are_boxes_e2 : DE := (dBin false fIx (dVar 1) (dC (.int 0)))
def g_are_boxes : DF := fnD 2
    (dSeq (dIfS (dOr (dNot (dT (dFn g_are_pairs 1 (dCons (dVar 0) dNil)))) (dNot (dT (dCall false fAll (dCons (dLc false (dItT (dVar 0)) (tgN 1) dYes g_are_boxes_e1 [1]) dNil))))) (dRet (dC (.bl false))) dNext)
    (dRet (dFn g_is_rising 1 (dCons (dLc false (dItT (dVar 0)) (tgN 1) dYes g_are_boxes_e2 [1]) dNil))))
def g_is_status : DF := fnD 1
    (dRet ((dOrV (dFn g_is_between 3 (dCons (dVar 0) (dCons (dC (.int 0)) (dCons (dC (.int 99)) dNil)))) ((dAndV (dFn g_is_between 3 (dCons (dVar 0) (dCons (dC (.int 100)) (dCons (dC (.int 105)) dNil)))) (dBin false fInO (dVar 0) (dC c_BY_BELLS)))))))
def g_is_how : DF := fnD 1
    (dSeq (dIfS (dOr (dNot (dT (dIsT isTup (dVar 0)))) (dOr (dT (dBin false fNotInO (dCall false fLen (dCons (dVar 0) dNil)) (dDisp false .nt (dCons (dC (.int 1)) (dCons (dC (.int 2)) dNil))))) (dNot (dT (dIsT isStr (dBin false fIx (dVar 0) (dC (.int 0)))))))) (dRet (dC (.bl false))) dNext)
    (dSeq (dIfS (dT (dBin false fEq (dCall false fLen (dCons (dVar 0) dNil)) (dC (.int 1)))) (dRet (dBin false fEq (dBin false fIx (dVar 0) (dC (.int 0))) (dC (.str [114, 117, 110, 115])))) dNext)
    (dSeq (dIfS (dT (dBin false fEq (dBin false fIx (dVar 0) (dC (.int 0))) (dC (.str [115, 116, 111, 112, 115])))) (dRet (dFn g_is_between 3 (dCons (dBin false fIx (dVar 0) (dC (.int 1))) (dCons (dBin false fIx (dC c_STOPPING) (dC (.int 0))) (dCons (dBin false fIx (dC c_STOPPING) (dC (.int 1))) dNil))))) dNext)
    (dRet ((dAndV (dBin false fEq (dBin false fIx (dVar 0) (dC (.int 0))) (dC (.str [101, 110, 100, 101, 100]))) (dFn g_is_status 1 (dCons (dBin false fIx (dVar 0) (dC (.int 1))) dNil))))))))
def g_are_bells : DF := fnD 2
    (dRet ((dAndV (dFn g_are_between 3 (dCons (dVar 0) (dCons (dVar 1) (dCons (dC c_LAST_BELL) dNil)))) (dFn g_is_rising 1 (dCons (dVar 0) dNil)))))
def g_are_traps_e1 : DE := (dFn g_is_between 3 (dCons (dBin false fIx (dVar 2) (dC (.int 1))) (dCons (dC c_FALLS) (dCons (dVar 1) dNil))))
def g_are_traps_e2 : DE := (dBin false fIx (dVar 2) (dC (.int 0)))
def g_are_traps : DF := fnD 3
    (dSeq (dIfS (dOr (dNot (dT (dFn g_are_pairs 1 (dCons (dVar 0) dNil)))) (dNot (dT (dCall false fAll (dCons (dLc false (dItT (dVar 0)) (tgN 2) dYes g_are_traps_e1 [2]) dNil))))) (dRet (dC (.bl false))) dNext)
    (dRet (dFn g_are_bells 2 (dCons (dCall false fTuple (dCons (dLc false (dItT (dVar 0)) (tgN 2) dYes g_are_traps_e2 [2]) dNil)) (dCons (dC c_FIRST_SOFT) dNil)))))
def g_are_ways_e1 : DE := (dFn g_is_between 3 (dCons (dBin false fIx (dVar 3) (dC (.int 0))) (dCons (dC (.int 0)) (dCons (dVar 1) dNil))))
def g_are_ways_e2 : DE := (dBin false fIx (dVar 3) (dC (.int 1)))
def g_are_ways : DF := fnD 4
    (dSeq (dIfS (dOr (dNot (dT (dFn g_are_pairs 1 (dCons (dVar 0) dNil)))) (dNot (dT (dCall false fAll (dCons (dLc false (dItT (dVar 0)) (tgN 3) dYes g_are_ways_e1 [3]) dNil))))) (dRet (dC (.bl false))) dNext)
    (dSeq (dAsg 2 (dCall false fTuple (dCons (dLc false (dItT (dVar 0)) (tgN 3) dYes g_are_ways_e2 [3]) dNil)))
    (dRet ((dAndV (dFn g_are_between 3 (dCons (dVar 2) (dCons (dC c_FIRST_SOFT) (dCons (dC c_LAST_BELL) dNil)))) (dFn g_is_rising 1 (dCons (dCall false fSortI (dCons (dVar 2) dNil)) dNil)))))))
def g_is_idle_e1 : DE := (dBin false fIx (dVar 0) (dVar 2))
def g_is_idle : DF := fnD 3
    (dSeq (dAsg 1 (dLc false (dItT (dDisp false .nt (dCons (dC c_BOXES) (dCons (dC c_BELLS_yards) (dCons (dC c_HELD) (dCons (dC c_TRAPS) (dCons (dC c_WAYS) (dCons (dC c_SAYS) dNil)))))))) (tgN 2) dYes g_is_idle_e1 [2]))
    (dRet ((dAndV (dBin false fEq (dBin false fIx (dVar 0) (dC c_PLACE)) (dC (.int 0))) (dAndV (dBin false fEq (dBin false fIx (dVar 0) (dC c_HOW)) (dDisp false .nt (dCons (dC (.str [114, 117, 110, 115])) dNil))) (dAndV (dBin false fIs (dBin false fIx (dVar 0) (dC c_UNTOLD)) (dC (.bl false))) (dBin false fEq (dVar 1) (dMulL false (dDisp false .nl (dCons (dDisp false .nt dNil) dNil)) (dC (.int 6))))))))))
def g_is_task : DF := fnD 4
    (dSeq (dIfS (dOr (dNot (dT (dIsT isTup (dVar 1)))) (dOr (dT (dBin false fNe (dCall false fLen (dCons (dVar 1) dNil)) (dC c_PARTS))) (dNot (dT (dIsT isStr (dBin false fIx (dVar 1) (dC c_SCRIPT))))))) (dRet (dC (.bl false))) dNext)
    (dSeq (dIfS (dOr (dNot (dT (dFn g_is_task_name 1 (dCons (dBin false fIx (dVar 1) (dC c_NAME)) dNil)))) (dOr (dNot (dT (dFn g_is_task_name 1 (dCons (dBin false fIx (dVar 1) (dC c_GROUP)) dNil)))) (dNot (dT (dIsT isBl (dBin false fIx (dVar 1) (dC c_UNTOLD))))))) (dRet (dC (.bl false))) dNext)
    (dSeq (dIfS (dAnd (dT (dBin false fNe (dBin false fIx (dVar 1) (dC c_SCRIPT)) (dC (.str [])))) (dT (dBin false fNotInO (dBin false fIx (dVar 1) (dC c_SCRIPT)) (dVar 0)))) (dRet (dC (.bl false))) dNext)
    (dSeq (dAsg 2 (dCall false fLen (dCons (dGet2 (dVar 0) (dBin false fIx (dVar 1) (dC c_SCRIPT)) (dDisp false .nt dNil)) dNil)))
    (dSeq (dIfS (dOr (dNot (dT (dFn g_is_between 3 (dCons (dBin false fIx (dVar 1) (dC c_PLACE)) (dCons (dC (.int 0)) (dCons (dVar 2) dNil)))))) (dOr (dNot (dT (dFn g_are_boxes 1 (dCons (dBin false fIx (dVar 1) (dC c_BOXES)) dNil)))) (dNot (dT (dFn g_is_how 1 (dCons (dBin false fIx (dVar 1) (dC c_HOW)) dNil)))))) (dRet (dC (.bl false))) dNext)
    (dSeq (dIfS (dOr (dNot (dT (dFn g_are_bells 2 (dCons (dBin false fIx (dVar 1) (dC c_BELLS_yards)) (dCons (dC (.int 0)) dNil))))) (dOr (dNot (dT (dFn g_are_bells 2 (dCons (dBin false fIx (dVar 1) (dC c_HELD)) (dCons (dC c_FIRST_SOFT) dNil))))) (dNot (dT (dFn g_are_traps 2 (dCons (dBin false fIx (dVar 1) (dC c_TRAPS)) (dCons (dVar 2) dNil))))))) (dRet (dC (.bl false))) dNext)
    (dSeq (dIfS (dOr (dNot (dT (dFn g_are_ways 2 (dCons (dBin false fIx (dVar 1) (dC c_WAYS)) (dCons (dVar 2) dNil))))) (dNot (dT (dFn g_are_between 3 (dCons (dBin false fIx (dVar 1) (dC c_SAYS)) (dCons (dC (.int 0)) (dCons (dC c_MOST_NUMBER) dNil))))))) (dRet (dC (.bl false))) dNext)
    (dSeq (dAsg 3 (dIf (dT (dBin false fEq (dBin false fIx (dVar 1) (dC c_SCRIPT)) (dC (.str [])))) (dC c_MOST_OF_NONE) (dC c_MOST_STARTED)))
    (dSeq (dIfS (dNot (dT (dFn g_is_between 3 (dCons (dBin false fIx (dVar 1) (dC c_STARTED)) (dCons (dC (.int 0)) (dCons (dIf (dT (dBin false (fCmp fun i j => decide (i < j)) (dCall false fLen (dCons (dBin false fIx (dVar 1) (dC c_NAME)) dNil)) (dC c_MOST_DEEP))) (dVar 3) (dC (.int 0))) dNil)))))) (dRet (dC (.bl false))) dNext)
    (dSeq (dIfS (dAnd (dT (dBin false fEq (dBin false fIx (dBin false fIx (dVar 1) (dC c_HOW)) (dC (.int 0))) (dC (.str [101, 110, 100, 101, 100])))) (dT (dBin false fNe (dDisp false .nt (dCons (dBin false fIx (dVar 1) (dC c_BELLS_yards)) (dCons (dBin false fIx (dVar 1) (dC c_HELD)) (dCons (dBin false fIx (dVar 1) (dC c_WAYS)) dNil)))) (dDisp false .nt (dCons (dDisp false .nt dNil) (dCons (dDisp false .nt dNil) (dCons (dDisp false .nt dNil) dNil))))))) (dRet (dC (.bl false))) dNext)
    (dRet ((dAndV (dFn g_can_be_heard_yet 2 (dCons (dBin false fIx (dVar 1) (dC c_BELLS_yards)) (dCons (dBin false fIx (dVar 1) (dC c_TRAPS)) dNil))) ((dOrV (dBin false fNe (dBin false fIx (dVar 1) (dC c_SCRIPT)) (dC (.str []))) (dFn g_is_idle 1 (dCons (dVar 1) dNil)))))))))))))))))
def g_is_yard_e1 : DE := (dFn g_is_task 2 (dCons (dVar 0) (dCons (dVar 3) dNil)))
def g_is_yard_e2 : DE := (dBin false fIx (dVar 3) (dC c_NAME))
def g_is_yard_e3 : DE := (dDisp false .nt (dCons (dBin false fIx (dVar 3) (dC c_NAME)) (dCons (dVar 3) dNil)))
def g_is_yard_e4 : DE := (dBin false fIx (dVar 3) (dC c_STARTED))
def g_is_yard_e5 : DE := (dFn g_stands_right 2 (dCons (dVar 3) (dCons (dVar 2) dNil)))
def g_is_yard_e6 : DE := (dBin false fIx (dVar 3) (dC c_GROUP))
def g_is_yard : DF := fnD 4
    (dSeq (dIfS (dOr (dNot (dT (dIsT isTup (dVar 1)))) (dOr (dT (dBin false fNe (dCall false fLen (dCons (dVar 1) dNil)) (dC (.int 3)))) (dNot (dT (dFn g_is_task_name 1 (dCons (dBin false fIx (dVar 1) (dC (.int 0))) dNil)))))) (dRet (dC (.bl false))) dNext)
    (dSeq (dIfS (dOr (dNot (dT (dFn g_are_between 3 (dCons (dBin false fIx (dVar 1) (dC (.int 1))) (dCons (dC (.int 0)) (dCons (dC c_MOST_NUMBER) dNil)))))) (dNot (dT (dIsT isTup (dBin false fIx (dVar 1) (dC (.int 2))))))) (dRet (dC (.bl false))) dNext)
    (dSeq (dIfS (dOr (dNot (dT (dCall false fAll (dCons (dLc false (dItT (dBin false fIx (dVar 1) (dC (.int 2)))) (tgN 3) dYes g_is_yard_e1 [3]) dNil)))) (dNot (dT (dFn g_is_rising 1 (dCons (dLc false (dItT (dBin false fIx (dVar 1) (dC (.int 2)))) (tgN 3) dYes g_is_yard_e2 [3]) dNil))))) (dRet (dC (.bl false))) dNext)
    (dSeq (dAsg 2 (dDictT (dLc false (dItT (dBin false fIx (dVar 1) (dC (.int 2)))) (tgN 3) dYes g_is_yard_e3 [3])))
    (dSeq (dIfS (dOr (dT (dBin false fNotInT (dDisp false .nt dNil) (dVar 2))) (dT (dBin false fNe (dCall false fLenT (dCons (dVar 2) dNil)) (dBin false fAdd (dC (.int 1)) (dCall false fSum (dCons (dLc false (dItT (dBin false fIx (dVar 1) (dC (.int 2)))) (tgN 3) dYes g_is_yard_e4 [3]) dNil)))))) (dRet (dC (.bl false))) dNext)
    (dRet ((dAndV (dCall false fAll (dCons (dLc false (dItT (dBin false fIx (dVar 1) (dC (.int 2)))) (tgN 3) dYes g_is_yard_e5 [3]) dNil)) (dBin false fInO (dBin false fIx (dVar 1) (dC (.int 0))) (dLc false (dItT (dBin false fIx (dVar 1) (dC (.int 2)))) (tgN 3) dYes g_is_yard_e6 [3]))))))))))
end Bel

/-! The engine, part Td: rules for reckoning with tuples as keys, rows, sums. -/
namespace Bel
open PySem PySem.Spec PyProof.Rows L2
@[simp] theorem dGetT1_ap (d k : DE) (e : Env') (S : Store) : dGetT1 d k e S = (d e S).bind fun u S1 => match u with
  | .v (.tdc ws) => (k e S1).bind fun y S2 => match y with
    | .v (.tup l) => match intsW l with
      | some ks => .ok (.v ((lookT ks ws).getD .non)) S2
      | none => .no
    | _ => .no
  | _ => .no := rfl
@[simp] theorem dDictT_ap (d : DE) (e : Env') (S : Store) : dDictT d e S = (d e S).bind fun u S1 => match u with
  | .v (.lst l) => match pairsT l with
    | some ps => .ok (.v (.tdc (mrgT [] ps))) S1
    | none => .no
  | _ => .no := rfl
@[simp] theorem dMulL_ap (own : Bool) (a b : DE) (e : Env') (S : Store) : dMulL own a b e S = (a e S).bind fun u S1 => (b e S1).bind fun v S2 => match u, v with
  | .v (.lst l), .v (.int k) => if 0 ≤ k ∧ k ≤ 1000 ∧ l.length ≤ 1000 then (Out.nl (List.replicate k.toNat l).flatten).put own S2 else .no
  | _, _ => .no := rfl
@[simp] theorem dSubT_ap (o i : DE) (k : Nat) (d : DE) (e : Env') (S : Store) : dSubT o i k d e S = (d e S).st e fun uv S1 => match uv with
  | .v (.tup [w, z]) => (o e S1).st e fun uo S2 => (i e S2).st e fun ui S3 => match uo, ui with
    | .o n, .v (.int j) => match S3[n]? with
      | some (.lst l) => match ixN l.length j with
        | some m => .ok (.nx (e.set k (some (.v z)))) (S3.set n (.lst (l.set m w)))
        | none => .no
      | _ => .no
    | _, _ => .no
  | _ => .no := rfl
/-- a row of numbers -/
def nrs (l : List Int) : List W := l.map W.int
@[simp] theorem intsW_ints : ∀ l : List Int, intsW (nrs l) = some l
  | [] => rfl
  | i :: l => by
    have := intsW_ints l
    unfold nrs at this ⊢
    rw [List.map_cons, intsW, this]
    rfl
@[simp] theorem ltG_int (i j : Int) : fLtG (.int i) (.int j) = some (.val (.bl (decide (i < j)))) := rfl
@[simp] theorem ltG_str (x y : List Nat) : fLtG (.str x) (.str y) = some (.val (.bl (decide (x < y)))) := rfl
@[simp] theorem ltG_tup (l m : List Int) : fLtG (.tup (nrs l)) (.tup (nrs m)) = some (.val (.bl (HT.lexLt l m))) := by
  simp [fLtG]
@[simp] theorem sum_ints (l : List Int) : fSum [.lst (nrs l)] = some (.val (.int l.sum)) := by
  simp [fSum]
@[simp] theorem inT_ints (l : List Int) (ws : List (List Int × W)) : fInT (.tup (nrs l)) (.tdc ws) = some (.val (.bl (lookT l ws).isSome)) := by
  simp [fInT]
@[simp] theorem notInT_ints (l : List Int) (ws : List (List Int × W)) : fNotInT (.tup (nrs l)) (.tdc ws) = some (.val (.bl (!(lookT l ws).isSome))) := by
  simp [fNotInT]
@[simp] theorem ixT_ints (l : List Int) (ws : List (List Int × W)) : fIxT (.tdc ws) (.tup (nrs l)) = (lookT l ws).map .val := by
  simp [fIxT]
@[simp] theorem lenT_is (ws : List (List Int × W)) : fLenT [.tdc ws] = if ws.length ≤ 16777216 then some (.val (.int ws.length)) else none := rfl
@[simp] theorem sortI_tup (l : List Int) : fSortI [.tup (nrs l)] = some (.nl (nrs (srtI l))) := by
  show (intsW (nrs l)).map _ = _
  rw [intsW_ints]
  rfl
end Bel

/-! Yards: what the small looks tell, of whatever is handed in. -/
namespace Bel
open PySem PySem.Spec PyProof.Rows L2
mutual
/-- no error, no dict of tuples in it; no tuple too long -/
def okW : W → Bool
  | .exc _ => false
  | .tdc _ => false
  | .tup l => decide (l.length ≤ 1000) && okWs l
  | _ => true
def okWs : List W → Bool
  | [] => true
  | w :: r => okW w && okWs r
end
@[simp] theorem okW_tup (l : List W) : okW (.tup l) = (decide (l.length ≤ 1000) && okWs l) := by rw [okW]
@[simp] theorem okW_int (i : Int) : okW (.int i) = true := by simp [okW]
@[simp] theorem okW_str (i : List Nat) : okW (.str i) = true := by simp [okW]
@[simp] theorem okW_bl (i : Bool) : okW (.bl i) = true := by simp [okW]
@[simp] theorem okW_non : okW .non = true := by simp [okW]
@[simp] theorem okWs_nil : okWs [] = true := by rw [okWs]
@[simp] theorem okWs_cons (w : W) (r : List W) : okWs (w :: r) = (okW w && okWs r) := by rw [okWs]
theorem okWs_iff {l : List W} : okWs l = true ↔ ∀ w ∈ l, okW w = true := by
  induction l with
  | nil => simp
  | cons a r ih => simp [ih]
theorem ok_exc {w : W} (h : okW w = true) : isExc w = false := by
  cases w with
  | exc c => simp [okW] at h
  | tdc l => simp [okW] at h
  | _ => rfl
theorem ok_tup {l : List W} (h : okW (.tup l) = true) : l.length ≤ 1000 ∧ ∀ w ∈ l, okW w = true := by
  rw [okW_tup, Bool.and_eq_true, decide_eq_true_eq, okWs_iff] at h
  exact h
/-- a number between -/
def btw (a b : Int) : W → Bool
  | .int i => decide (a ≤ i ∧ i ≤ b)
  | _ => false
def btws (a b : Int) : W → Bool
  | .tup l => l.all (btw a b)
  | _ => false
section
variable {S : Store}
theorem between_w {w : W} {a b : Int} (h : isExc w = false) : g_is_between [.v w, .v (.int a), .v (.int b)] S = .ok (.v (.bl (btw a b w))) S := by
  cases w with
  | int i => by_cases h0 : a ≤ i <;> simp [g_is_between, btw, h0]
  | bl b => simp [g_is_between, btw]
  | exc c => cases h
  | tdc l => cases h
  | kdc l => simp [g_is_between, btw, isInt, isExc]
  | _ => simp [g_is_between, btw]
/-- all of a comprehension over a tuple -/
theorem lcL_all {t : W → Env' → Option Env'} {te : DE} {env : Env'} {p : W → Bool} {l : List W} (h : ∀ w ∈ l, ∃ e1, t w env = some e1 ∧ te e1 S = .ok (.v (.bl (p w))) S) : lcL t dYes te env l S = .ok (l.map fun w => W.bl (p w)) S := by
  have := lcL_map (t := t) (te := te) (env := env) (S := S) (fun w : W => w) (fun w => W.bl (p w)) l h
  simpa using this
theorem betweens_w {w : W} {a b : Int} (h : okW w = true) : g_are_between [.v w, .v (.int a), .v (.int b)] S = .ok (.v (.bl (btws a b w))) S := by
  cases w with
  | tup l =>
    obtain ⟨hl, hw⟩ := ok_tup h
    have h2 : l.length ≤ 16777216 := by omega
    have hc : lcL (tgN 3) dYes g_are_between_e1 [some (.v (.tup l)), some (.v (.int a)), some (.v (.int b)), none] l S = .ok (l.map fun w => W.bl (btw a b w)) S :=
      lcL_all fun w z => ⟨_, rfl, by simp [g_are_between_e1, between_w (ok_exc (hw w z))]⟩
    simp [g_are_between, btws, h2, hc, wipeE, fAll_map]
  | exc c => simp [okW] at h
  | tdc c => simp [okW] at h
  | kdc l => simp [g_are_between, btws, isTup, isExc]
  | _ => simp [g_are_between, btws]
end
/-! ### rising -/
def rise {α : Type} (lt : α → α → Bool) : List α → Bool
  | a :: b :: r => lt a b && rise lt (b :: r)
  | _ => true
@[simp] theorem rise_nil {α : Type} (lt : α → α → Bool) : rise lt [] = true := rfl
@[simp] theorem rise_one {α : Type} (lt : α → α → Bool) (a : α) : rise lt [a] = true := rfl
@[simp] theorem rise_two {α : Type} (lt : α → α → Bool) (a b : α) (r : List α) : rise lt (a :: b :: r) = (lt a b && rise lt (b :: r)) := rfl
def ltAt {α : Type} (lt : α → α → Bool) (l : List α) (k : Nat) : Bool := match l[k]?, l[k + 1]? with
  | some a, some b => lt a b
  | _, _ => false
theorem rise_all {α : Type} (lt : α → α → Bool) : ∀ l : List α, (List.range (l.length - 1)).all (ltAt lt l) = rise lt l
  | [] => rfl
  | [a] => rfl
  | a :: b :: r => by
    have ih := rise_all lt (b :: r)
    rw [rise_two, ← ih]
    rw [show (a :: b :: r).length - 1 = ((b :: r).length - 1) + 1 by simp, List.range_succ_eq_map, List.all_cons, List.all_map]
    rfl
theorem rising_w {α : Type} {S : Store} (f : α → W) (lt : α → α → Bool) (hlt : ∀ a b, fLtG (f a) (f b) = some (.val (.bl (lt a b)))) (own : Bool) (l : List α) (hl : l.length ≤ 1000) :
    g_is_rising [.v (if own then .tup (l.map f) else .lst (l.map f))] S = .ok (.v (.bl (rise lt l))) S := by
  have key : ∀ w : W, (∀ i : Nat, i < l.length → fIx w (.int (i : Nat)) = (l[i]?).map fun a => .val (f a)) →
      lcL (tgN 1) dYes g_is_rising_e1 [some (.v w), none] ((List.range (l.length - 1)).map fun i : Nat => W.int (i : Int)) S = .ok ((List.range (l.length - 1)).map fun i => W.bl (ltAt lt l i)) S := fun w hw => by
    refine lcL_map (fun i : Nat => W.int (i : Int)) (fun i => W.bl (ltAt lt l i)) _ fun i hi => ⟨_, rfl, ?_⟩
    have hi : i < l.length - 1 := List.mem_range.mp hi
    have e1 := hw i (by omega)
    have e2 := hw (i + 1) (by omega)
    have a1 : l[i]? = some l[i] := List.getElem?_eq_getElem _
    have a2 : l[i + 1]? = some l[i + 1] := List.getElem?_eq_getElem _
    rw [a1] at e1
    rw [a2] at e2
    have e2' : fIx w (.int ((i : Int) + 1)) = some (.val (f l[i + 1])) := by simpa using e2
    have e1' : fIx w (.int (i : Int)) = some (.val (f l[i])) := by simpa using e1
    simp [g_is_rising_e1, e1', e2', hlt, ltAt, a1, a2]
  have b1 : ((l.length : Int) - 1) < 4611686018427387904 := by omega
  have b2 : -4611686018427387904 ≤ ((l.length : Int) - 1) := by omega
  have b3 : ((l.length : Int) - 1).toNat = l.length - 1 := by omega
  have b4 : l.length - 1 ≤ 16777216 := by omega
  have at_ : ∀ i : Nat, i < l.length → atW (l.map f) (i : Int) = (l[i]?).map f := fun i hi => by
    rw [atW_in (by omega) (by rw [List.length_map]; omega), List.getElem?_map]
    simp
  cases own with
  | true =>
    have k := key (.tup (l.map f)) fun i hi => by simp [fIx, at_ i hi, Option.map_map, Function.comp_def]
    simp [g_is_rising, b1, b2, b3, b4, k, wipeE, fAll_map, rise_all]
  | false =>
    have k := key (.lst (l.map f)) fun i hi => by simp [fIx, at_ i hi, Option.map_map, Function.comp_def]
    simp [g_is_rising, b1, b2, b3, b4, k, wipeE, fAll_map, rise_all]
end Bel

/-! Yards: names of tasks, pairs, boxes, bells, traps, ways. -/
namespace Bel
open PySem PySem.Spec PyProof.Rows L2
def ltI (a b : Int) : Bool := decide (a < b)
def ltX (a b : List Nat) : Bool := decide (a < b)
def strOf : W → List Nat
  | .str x => x
  | _ => []
def numOf : W → Int
  | .int i => i
  | _ => 0
theorem btw_num {a b : Int} {w : W} (h : btw a b w = true) : w = .int (numOf w) ∧ a ≤ numOf w ∧ numOf w ≤ b := by
  cases w with
  | int i => simp [btw] at h; exact ⟨rfl, h⟩
  | _ => cases h
theorem btws_num {a b : Int} : ∀ {l : List W}, l.all (btw a b) = true → l = nrs (l.map numOf)
  | [], _ => rfl
  | w :: r, h => by
    rw [List.all_cons, Bool.and_eq_true] at h
    have := btws_num h.2
    unfold nrs at this ⊢
    rw [List.map_cons, List.map_cons, ← this, ← (btw_num h.1).1]
theorem nm_str {w : W} (h : isnm w = true) : w = .str (strOf w) ∧ nm (strOf w) = true := by
  cases w with
  | str x => exact ⟨rfl, h⟩
  | _ => cases h
/-! pairs -/
def prs : List W → Option (List (W × W))
  | [] => some []
  | .tup [a, b] :: r => (prs r).map ((a, b) :: ·)
  | _ => none
def isPr : W → Bool
  | .tup [_, _] => true
  | _ => false
abbrev prW (p : W × W) : W := .tup [p.1, p.2]
theorem prs_is : ∀ {l : List W} {ps : List (W × W)}, prs l = some ps → l = ps.map prW
  | [], ps, h => by cases h; rfl
  | w :: r, ps, h => by
    unfold prs at h
    split at h
    · cases ‹_ = []›
    · rename_i a b r' e
      cases e
      obtain ⟨qs, h1, rfl⟩ := Option.map_eq_some_iff.mp h
      rw [prs_is h1]
      rfl
    · cases h
theorem prs_not {w : W} {r : List W} (h : isPr w = false) : prs (w :: r) = none := by
  cases w with
  | tup m =>
    match m, h with
    | [], _ => rfl
    | [a], _ => rfl
    | a :: b :: c :: q, _ => rfl
  | _ => rfl
theorem prs_all : ∀ l : List W, l.all isPr = (prs l).isSome
  | [] => rfl
  | w :: r => by
    have ih := prs_all r
    rw [List.all_cons, ih]
    cases h : isPr w with
    | false => rw [prs_not h]; rfl
    | true =>
      obtain ⟨a, b, rfl⟩ : ∃ a b, w = .tup [a, b] := by
        unfold isPr at h
        split at h
        · exact ⟨_, _, rfl⟩
        · cases h
      show _ = (Option.map _ (prs r)).isSome
      simp
def prsW : W → Option (List (W × W))
  | .tup l => prs l
  | _ => none
theorem prsW_is {w : W} {ps : List (W × W)} (h : prsW w = some ps) : w = .tup (ps.map prW) := by
  cases w with
  | tup l => rw [prs_is (show prs l = some ps from h)]
  | _ => cases h
theorem okW_prs {ps : List (W × W)} (h : okW (.tup (ps.map prW)) = true) : ps.length ≤ 1000 ∧ ∀ p ∈ ps, okW p.1 = true ∧ okW p.2 = true := by
  obtain ⟨h1, h2⟩ := ok_tup h
  rw [List.length_map] at h1
  refine ⟨h1, fun p hp => ?_⟩
  have := h2 (prW p) (List.mem_map_of_mem hp)
  simpa [prW] using this
section
variable {S : Store}
theorem pairs_w {w : W} (h : okW w = true) : g_are_pairs [.v w] S = .ok (.v (.bl (prsW w).isSome)) S := by
  cases w with
  | tup l =>
    obtain ⟨hl, hw⟩ := ok_tup h
    have h2 : l.length ≤ 16777216 := by omega
    have hc : lcL (tgN 1) dYes g_are_pairs_e1 [some (.v (.tup l)), none] l S = .ok (l.map fun w => W.bl (isPr w)) S := by
      refine lcL_all fun w z => ⟨_, rfl, ?_⟩
      have hx := ok_exc (hw w z)
      cases w with
      | tup m =>
        match m with
        | [] => simp [g_are_pairs_e1, isPr]
        | [a] => simp [g_are_pairs_e1, isPr]
        | [a, b] => simp [g_are_pairs_e1, isPr]
        | a :: b :: c :: q =>
          have : ¬ ((q.length : Int) + 1 + 1 + 1 = 2) := by omega
          simp [g_are_pairs_e1, isPr, this]
      | exc c => cases hx
      | tdc c => cases hx
      | kdc c => simp [g_are_pairs_e1, isPr, isTup, isExc]
      | _ => simp [g_are_pairs_e1, isPr]
    simp [g_are_pairs, prsW, h2, hc, wipeE, fAll_map, ← prs_all]
  | exc c => simp [okW] at h
  | tdc c => simp [okW] at h
  | kdc l => simp [g_are_pairs, prsW, isTup, isExc]
  | _ => simp [g_are_pairs, prsW]
/-! names of tasks -/
def tnW : W → Bool
  | .tup l => l.all (btw 0 29) && decide (l.length ≤ 4)
  | _ => false
theorem task_name_w {w : W} (h : okW w = true) : g_is_task_name [.v w] S = .ok (.v (.bl (tnW w))) S := by
  have e := betweens_w (S := S) (a := 0) (b := 29) h
  cases w with
  | tup l =>
    have e2 : ((l.length : Int) ≤ 4) ↔ l.length ≤ 4 := by omega
    cases hb : l.all (btw 0 29) <;> simp [g_is_task_name, c_MOST_NAMED, c_MOST_DEEP, e, btws, hb, tnW, e2]
  | exc c => simp [okW] at h
  | tdc c => simp [okW] at h
  | _ => simp [g_is_task_name, c_MOST_NAMED, c_MOST_DEEP, e, btws, tnW]
/-! boxes -/
def boxOk (p : W × W) : Bool := isnm p.1 && btw 1 999 p.2
def boxesW (w : W) : Bool := match prsW w with
  | some ps => ps.all boxOk && rise ltX (ps.map fun p => strOf p.1)
  | none => false
theorem boxes_w {w : W} (h : okW w = true) : g_are_boxes [.v w] S = .ok (.v (.bl (boxesW w))) S := by
  have e0 := pairs_w (S := S) h
  cases hp : prsW w with
  | none => simp [g_are_boxes, e0, hp, boxesW]
  | some ps =>
    have ew := prsW_is hp
    rw [hp] at e0
    subst ew
    obtain ⟨hl, hk⟩ := okW_prs h
    have h2 : ps.length ≤ 16777216 := by omega
    have c1 : lcL (tgN 1) dYes g_are_boxes_e1 [some (.v (.tup (ps.map prW))), none] (ps.map prW) S = .ok (ps.map fun p => W.bl (boxOk p)) S := by
      refine lcL_map prW (fun p => W.bl (boxOk p)) ps fun p hm => ⟨_, rfl, ?_⟩
      obtain ⟨k1, k2⟩ := hk p hm
      cases hn : isnm p.1 <;> simp [g_are_boxes_e1, is_name_w (ok_exc k1), between_w (ok_exc k2), boxOk, hn, c_MOST_NUMBER]
    cases ha : ps.all boxOk with
    | false => simp [g_are_boxes, e0, h2, c1, wipeE, fAll_map, ha, boxesW, hp]
    | true =>
      have c2 : lcL (tgN 1) dYes g_are_boxes_e2 [some (.v (.tup (ps.map prW))), none] (ps.map prW) S = .ok (ps.map fun p => W.str (strOf p.1)) S := by
        refine lcL_map prW (fun p => W.str (strOf p.1)) ps fun p hm => ⟨_, rfl, ?_⟩
        have := List.all_eq_true.mp ha p hm
        unfold boxOk at this
        rw [Bool.and_eq_true] at this
        have e1 := (nm_str this.1).1
        simp [g_are_boxes_e2, ← e1]
      have hr := rising_w (S := S) W.str ltX (fun a b => rfl) false (ps.map fun p => strOf p.1) (by simpa using hl)
      rw [List.map_map] at hr
      have hr : g_is_rising [.v (.lst (ps.map fun p => W.str (strOf p.1)))] S = _ := hr
      simp [g_are_boxes, e0, h2, c1, c2, wipeE, fAll_map, ha, boxesW, hp, hr]
/-! rows of bells -/
def bellsW (a : Int) : W → Bool
  | .tup l => l.all (btw a 7) && rise ltI (l.map numOf)
  | _ => false
theorem bells_w {w : W} {a : Int} (h : okW w = true) : g_are_bells [.v w, .v (.int a)] S = .ok (.v (.bl (bellsW a w))) S := by
  have e := betweens_w (S := S) (a := a) (b := 7) h
  cases w with
  | tup l =>
    obtain ⟨hl, _⟩ := ok_tup h
    cases hb : l.all (btw a 7) with
    | false => simp [g_are_bells, c_LAST_BELL, e, btws, hb, bellsW]
    | true =>
      have hr := rising_w (S := S) W.int ltI (fun a b => rfl) true (l.map numOf) (by simpa using hl)
      have en := btws_num hb
      unfold nrs at en
      rw [if_pos rfl, ← en] at hr
      simp [g_are_bells, c_LAST_BELL, e, btws, hb, bellsW, hr]
  | exc c => simp [okW] at h
  | tdc c => simp [okW] at h
  | _ => simp [g_are_bells, c_LAST_BELL, e, btws, bellsW]
end
end Bel

/-! Yards: traps, ways, what can be heard, standings. -/
namespace Bel
open PySem PySem.Spec PyProof.Rows L2
def trapsW (last : Int) (w : W) : Bool := match prsW w with
  | some ps => ps.all (fun p => btw (-1) last p.2) && ((ps.map (·.1)).all (btw 2 7) && rise ltI (ps.map fun p => numOf p.1))
  | none => false
def waysW (last : Int) (w : W) : Bool := match prsW w with
  | some ps => ps.all (fun p => btw 0 last p.1) && ((ps.map (·.2)).all (btw 2 7) && rise ltI (srtI (ps.map fun p => numOf p.2)))
  | none => false
theorem srtI_len (l : List Int) : (srtI l).length = l.length := (List.mergeSort_perm l _).length_eq
section
variable {S : Store} {last : Int}
theorem traps_w {w : W} (h : okW w = true) : g_are_traps [.v w, .v (.int last)] S = .ok (.v (.bl (trapsW last w))) S := by
  have e0 := pairs_w (S := S) h
  cases hp : prsW w with
  | none => simp [g_are_traps, e0, hp, trapsW]
  | some ps =>
    have ew := prsW_is hp
    rw [hp] at e0
    subst ew
    obtain ⟨hl, hk⟩ := okW_prs h
    have h2 : ps.length ≤ 16777216 := by omega
    have c1 : lcL (tgN 2) dYes g_are_traps_e1 [some (.v (.tup (ps.map prW))), some (.v (.int last)), none] (ps.map prW) S = .ok (ps.map fun p => W.bl (btw (-1) last p.2)) S :=
      lcL_map prW (fun p => W.bl (btw (-1) last p.2)) ps fun p hm => ⟨_, rfl, by simp [g_are_traps_e1, between_w (ok_exc (hk p hm).2), c_FALLS]⟩
    have c2 : lcL (tgN 2) dYes g_are_traps_e2 [some (.v (.tup (ps.map prW))), some (.v (.int last)), none] (ps.map prW) S = .ok (ps.map fun p => p.1) S :=
      lcL_map prW (fun p => p.1) ps fun p hm => ⟨_, rfl, by simp [g_are_traps_e2]⟩
    have hb := bells_w (S := S) (a := 2) (w := .tup (ps.map fun p => p.1)) (by
      rw [okW_tup, Bool.and_eq_true, decide_eq_true_eq, List.length_map, okWs_iff]
      refine ⟨hl, fun w hw => ?_⟩
      obtain ⟨p, hm, rfl⟩ := List.mem_map.mp hw
      exact (hk p hm).1)
    simp only [bellsW, List.map_map] at hb
    cases ha : ps.all (fun p => btw (-1) last p.2) with
    | false => simp [g_are_traps, e0, h2, c1, wipeE, fAll_map, ha, trapsW, hp]
    | true =>
      simp [g_are_traps, e0, h2, c1, c2, wipeE, fAll_map, ha, trapsW, hp, c_FIRST_SOFT, hb]
      rfl
theorem ways_w {w : W} (h : okW w = true) : g_are_ways [.v w, .v (.int last)] S = .ok (.v (.bl (waysW last w))) S := by
  have e0 := pairs_w (S := S) h
  cases hp : prsW w with
  | none => simp [g_are_ways, e0, hp, waysW]
  | some ps =>
    have ew := prsW_is hp
    rw [hp] at e0
    subst ew
    obtain ⟨hl, hk⟩ := okW_prs h
    have h2 : ps.length ≤ 16777216 := by omega
    have c1 : lcL (tgN 3) dYes g_are_ways_e1 [some (.v (.tup (ps.map prW))), some (.v (.int last)), none, none] (ps.map prW) S = .ok (ps.map fun p => W.bl (btw 0 last p.1)) S :=
      lcL_map prW (fun p => W.bl (btw 0 last p.1)) ps fun p hm => ⟨_, rfl, by simp [g_are_ways_e1, between_w (ok_exc (hk p hm).1)]⟩
    have c2 : lcL (tgN 3) dYes g_are_ways_e2 [some (.v (.tup (ps.map prW))), some (.v (.int last)), none, none] (ps.map prW) S = .ok (ps.map fun p => p.2) S :=
      lcL_map prW (fun p => p.2) ps fun p hm => ⟨_, rfl, by simp [g_are_ways_e2]⟩
    have ok2 : okW (.tup (ps.map fun p => p.2)) = true := by
      rw [okW_tup, Bool.and_eq_true, decide_eq_true_eq, List.length_map, okWs_iff]
      refine ⟨hl, fun w hw => ?_⟩
      obtain ⟨p, hm, rfl⟩ := List.mem_map.mp hw
      exact (hk p hm).2
    have hb := betweens_w (S := S) (a := 2) (b := 7) ok2
    cases ha : ps.all (fun p => btw 0 last p.1) with
    | false => simp [g_are_ways, e0, h2, c1, wipeE, fAll_map, ha, waysW, hp]
    | true =>
      cases hc : (ps.map fun p => p.2).all (btw 2 7) with
      | false =>
        have hc' : (ps.all ((btw 2 7) ∘ fun p => p.2)) = false := by rw [← List.all_map]; exact hc
        simp only [btws, hc] at hb
        simp [g_are_ways, e0, h2, c1, c2, wipeE, fAll_map, ha, waysW, hp, c_FIRST_SOFT, c_LAST_BELL, hb, hc']
      | true =>
        have hc' : (ps.all ((btw 2 7) ∘ fun p => p.2)) = true := by rw [← List.all_map]; exact hc
        have hr := rising_w (S := S) W.int ltI (fun a b => rfl) false (srtI (ps.map fun p => numOf p.2)) (by rw [srtI_len, List.length_map]; exact hl)
        have hr : g_is_rising [.v (.lst (nrs (srtI (ps.map fun p => numOf p.2))))] S = _ := hr
        have en := btws_num hc
        rw [List.map_map] at en
        have hs := sortI_tup (ps.map fun p => numOf p.2)
        have en : (ps.map fun p => p.2) = nrs (ps.map fun p => numOf p.2) := en
        simp only [btws, hc] at hb
        rw [← en] at hs
        simp [g_are_ways, e0, h2, c1, c2, wipeE, fAll_map, ha, waysW, hp, c_FIRST_SOFT, c_LAST_BELL, hb, hc', hs, hr]
/-! standings -/
def stat : W → Bool
  | .int i => decide (0 ≤ i ∧ i ≤ 99) || decide (i = 100 ∨ i = 103 ∨ i = 104 ∨ i = 105)
  | _ => false
theorem status_w {w : W} (h : isExc w = false) : g_is_status [.v w] S = .ok (.v (.bl (stat w))) S := by
  have e1 := between_w (S := S) (a := 0) (b := 99) h
  have e2 := between_w (S := S) (a := 100) (b := 105) h
  cases w with
  | int i =>
    have e3 : fInO (.int i) c_BY_BELLS = some (.val (.bl (decide (i = 100 ∨ i = 103 ∨ i = 104 ∨ i = 105)))) := by
      have q : ∀ j : Int, eqD (.int j) (.int i) = decide (j = i) := fun j => by
        have := @eq_int j i
        rw [fEq_is rfl rfl] at this
        simpa using this
      show ((if isFlat (.int i) = true ∧ [W.int 100, .int 103, .int 104, .int 105].all isFlat = true then some ([W.int 100, .int 103, .int 104, .int 105].any fun y => eqD y (.int i)) else none).map _) = _
      rw [if_pos ⟨rfl, rfl⟩]
      simp only [List.any_cons, List.any_nil, q, Bool.or_false, Option.map_some]
      congr 3
      rw [Bool.eq_iff_iff]
      simp only [Bool.or_eq_true, decide_eq_true_eq]
      omega
    simp only [btw] at e1 e2
    by_cases h1 : 0 ≤ i ∧ i ≤ 99
    · simp [g_is_status, e1, stat, h1]
    · by_cases h2 : 100 ≤ i ∧ i ≤ 105
      · simp [g_is_status, e1, e2, e3, stat, h1, h2]
      · have h3 : ¬ (i = 100 ∨ i = 103 ∨ i = 104 ∨ i = 105) := by omega
        simp [g_is_status, e1, e2, stat, h1, h2, h3]
  | exc c => cases h
  | tdc c => cases h
  | _ => simp only [btw] at e1 e2; simp [g_is_status, e1, e2, stat]
end
end Bel

/-! Yards: how a task stands, what it can still hear, idle ones. -/
namespace Bel
open PySem PySem.Spec PyProof.Rows L2
abbrev tRuns : List Nat := [114, 117, 110, 115]
abbrev tStops : List Nat := [115, 116, 111, 112, 115]
abbrev tEnded : List Nat := [101, 110, 100, 101, 100]
def howW : W → Bool
  | .tup [.str x] => decide (x = tRuns)
  | .tup [.str x, v] => if x = tStops then btw 1 2 v else decide (x = tEnded) && stat v
  | _ => false
theorem eqI (i j : Int) : eqD (.int i) (.int j) = decide (i = j) := by
  have h := @eq_int i j
  rw [fEq_is rfl rfl] at h
  simpa using h
theorem not12 {i : Int} : fNotInO (.int i) (.tup [.int 1, .int 2]) = some (.val (.bl (!decide (i = 1 ∨ i = 2)))) := by
  show ((if isFlat (.int i) = true ∧ [W.int 1, .int 2].all isFlat = true then some ([W.int 1, .int 2].any fun y => eqD y (.int i)) else none).map _) = _
  rw [if_pos ⟨rfl, rfl⟩]
  simp only [List.any_cons, List.any_nil, eqI, Bool.or_false, Option.map_some]
  congr 4
  rw [Bool.eq_iff_iff]
  simp only [Bool.or_eq_true, decide_eq_true_eq]
  omega
section
variable {S : Store}
theorem how_w {w : W} (h : okW w = true) : g_is_how [.v w] S = .ok (.v (.bl (howW w))) S := by
  cases w with
  | tup l =>
    obtain ⟨hl, hw⟩ := ok_tup h
    match l with
    | [] => simp [g_is_how, not12, howW]
    | [a] =>
      have ha := ok_exc (hw a (by simp))
      cases a with
      | str x => simp [g_is_how, not12, howW]
      | exc c => cases ha
      | tdc c => cases ha
      | kdc c => simp [g_is_how, not12, howW, isStr, isExc]
      | _ => simp [g_is_how, not12, howW]
    | [a, v] =>
      have ha := ok_exc (hw a (by simp))
      have hv := ok_exc (hw v (by simp))
      cases a with
      | str x =>
        by_cases h1 : x = tStops
        · subst h1
          simp [g_is_how, not12, howW, between_w hv, c_STOPPING]
        · by_cases h2 : x = tEnded
          · subst h2
            simp [g_is_how, not12, howW, status_w hv]
          · simp [g_is_how, not12, howW, h1, h2]
      | exc c => cases ha
      | tdc c => cases ha
      | kdc c => simp [g_is_how, not12, howW, isStr, isExc]
      | _ => simp [g_is_how, not12, howW]
    | a :: b :: c :: q =>
      have n : ¬ ((q.length : Int) + 1 + 1 + 1 = 1 ∨ (q.length : Int) + 1 + 1 + 1 = 2) := by omega
      have e : howW (.tup (a :: b :: c :: q)) = false := by
        unfold howW
        split <;> simp_all
      simp [g_is_how, not12, n, e]
  | exc c => simp [okW] at h
  | tdc c => simp [okW] at h
  | kdc l => simp [g_is_how, howW, isTup, isExc]
  | _ => simp [g_is_how, howW]
end
/-! what can be heard yet -/
def lookI (b : Int) (ts : List (Int × Int)) : Option Int := (ts.find? fun p => decide (p.1 = b)).map (·.2)
def heardB (bs : List Int) (ts : List (Int × Int)) : Bool := bs.all fun b => !decide ((lookI b ts).getD (if 6 ≤ b then -1 else 0) = -1)
abbrev iw (p : Int × Int) : W × W := (.int p.1, .int p.2)
abbrev it (p : Int × Int) : W := .tup [.int p.1, .int p.2]
theorem put_new {k v : Int} {acc : List (Int × Int)} (h : k ∉ acc.map (·.1)) : putW (.int k) (.int v) (acc.map iw) = (acc ++ [(k, v)]).map iw := by
  unfold putW
  have : ((acc.map iw).any fun p => eqK p.1 (.int k)) = false := by
    rw [List.any_map, List.any_eq_false]
    intro p hp
    simp only [Function.comp, eqK, decide_eq_true_eq]
    intro z
    exact h (z ▸ List.mem_map_of_mem hp)
  rw [this]
  simp
theorem mrg_int : ∀ (l acc : List (Int × Int)), ((acc ++ l).map (·.1)).Nodup → mrgW (acc.map iw) (l.map iw) = (acc ++ l).map iw
  | [], acc, _ => by simp [mrgW]
  | (k, v) :: l, acc, h => by
    have hk : k ∉ acc.map (·.1) := by
      rw [List.map_append, List.map_cons, List.nodup_append] at h
      intro z
      exact h.2.2 k z k (by simp) rfl
    show mrgW (putW (.int k) (.int v) (acc.map iw)) (l.map iw) = _
    rw [put_new hk, mrg_int l (acc ++ [(k, v)]) (by simpa using h)]
    simp
theorem pairs_it : ∀ ts : List (Int × Int), pairsW (ts.map it) = some (ts.map iw)
  | [] => rfl
  | p :: ts => by
    show (if isKey (.int p.1) = true then (pairsW (ts.map it)).map ((W.int p.1, W.int p.2) :: ·) else none) = _
    rw [pairs_it ts]
    rfl
theorem rise_lt : ∀ {l : List Int}, rise ltI l = true → l.Pairwise (· < ·)
  | [], _ => .nil
  | [a], _ => by simp
  | a :: b :: r, h => by
    rw [rise_two, Bool.and_eq_true] at h
    have ih := rise_lt h.2
    have ab : a < b := of_decide_eq_true h.1
    refine List.pairwise_cons.mpr ⟨fun x hx => ?_, ih⟩
    rcases List.mem_cons.mp hx with rfl | hx
    · exact ab
    · exact Int.lt_trans ab ((List.pairwise_cons.mp ih).1 x hx)
theorem rise_nd {l : List Int} (h : rise ltI l = true) : l.Nodup := (rise_lt h).imp fun z => Int.ne_of_lt z
theorem look_iw (b : Int) : ∀ ts : List (Int × Int), lookD (.int b) (ts.map iw) = (lookI b ts).map W.int
  | [] => rfl
  | p :: ts => by
    have ih := look_iw b ts
    unfold lookD lookI at ih ⊢
    rw [List.map_cons, List.find?_cons, List.find?_cons]
    by_cases e : p.1 = b
    · simp [eqK, e]
    · have e1 : eqK (W.int p.1) (.int b) = false := by simp [eqK, e]
      simp only [e1, decide_eq_false e]
      exact ih
theorem heard_w {S : Store} {bs : List Int} {ts : List (Int × Int)} (hb : bs.length ≤ 1000) (hn : (ts.map (·.1)).Nodup) :
    g_can_be_heard_yet [.v (.tup (nrs bs)), .v (.tup (ts.map it))] S = .ok (.v (.bl (heardB bs ts))) S := by
  have h2 : bs.length ≤ 16777216 := by omega
  have e0 : fDictQ [.tup (ts.map it)] = some (.nd (ts.map iw)) := by
    have := mrg_int ts [] (by simpa using hn)
    show (pairsW (ts.map it)).map _ = _
    rw [pairs_it]
    show some (Out.nd (mrgW [] (ts.map iw))) = _
    rw [show ([] : List (W × W)) = ([] : List (Int × Int)).map iw from rfl, this]
    rfl
  have c1 : lcL (tgN 3) dYes g_can_be_heard_yet_e1 [some (.v (.tup (nrs bs))), some (.v (.tup (ts.map it))), some (.v (.dct (ts.map iw))), none] (nrs bs) S = .ok (bs.map fun b => W.bl (!decide ((lookI b ts).getD (if 6 ≤ b then -1 else 0) = -1))) S := by
    refine lcL_map W.int (fun b => W.bl (!decide ((lookI b ts).getD (if 6 ≤ b then -1 else 0) = -1))) bs fun b _ => ⟨_, rfl, ?_⟩
    have g : ∀ z, fGet (.dct (ts.map iw)) (.int b) z = some (.val (((lookI b ts).map W.int).getD z)) := fun z => by
      show some (Out.val ((lookD (.int b) (ts.map iw)).getD z)) = _
      rw [look_iw]
    by_cases h6 : 6 ≤ b
    · cases hl : lookI b ts <;> simp [g_can_be_heard_yet_e1, c_FIRST_QUIET, c_FALLS, h6, g, hl]
    · cases hl : lookI b ts <;> simp [g_can_be_heard_yet_e1, c_FIRST_QUIET, c_FALLS, h6, g, hl]
  have l1 : (nrs bs).length = bs.length := List.length_map ..
  simp [g_can_be_heard_yet, e0, l1, h2, c1, wipeE, fAll_map, heardB]
end Bel

/-! Yards: idle tasks, tasks. -/
namespace Bel
open PySem PySem.Spec PyProof.Rows L2
section
variable {n g s p b h u q d t y k a : W}
theorem x13_0 : fIx (.tup [n, g, s, p, b, h, u, q, d, t, y, k, a]) (.int 0) = some (.val n) := by rw [ixT_pk (by decide) (by simp)]; rfl
theorem x13_1 : fIx (.tup [n, g, s, p, b, h, u, q, d, t, y, k, a]) (.int 1) = some (.val g) := by rw [ixT_pk (by decide) (by simp)]; rfl
theorem x13_2 : fIx (.tup [n, g, s, p, b, h, u, q, d, t, y, k, a]) (.int 2) = some (.val s) := by rw [ixT_pk (by decide) (by simp)]; rfl
theorem x13_3 : fIx (.tup [n, g, s, p, b, h, u, q, d, t, y, k, a]) (.int 3) = some (.val p) := by rw [ixT_pk (by decide) (by simp)]; rfl
theorem x13_4 : fIx (.tup [n, g, s, p, b, h, u, q, d, t, y, k, a]) (.int 4) = some (.val b) := by rw [ixT_pk (by decide) (by simp)]; rfl
theorem x13_5 : fIx (.tup [n, g, s, p, b, h, u, q, d, t, y, k, a]) (.int 5) = some (.val h) := by rw [ixT_pk (by decide) (by simp)]; rfl
theorem x13_6 : fIx (.tup [n, g, s, p, b, h, u, q, d, t, y, k, a]) (.int 6) = some (.val u) := by rw [ixT_pk (by decide) (by simp)]; rfl
theorem x13_7 : fIx (.tup [n, g, s, p, b, h, u, q, d, t, y, k, a]) (.int 7) = some (.val q) := by rw [ixT_pk (by decide) (by simp)]; rfl
theorem x13_8 : fIx (.tup [n, g, s, p, b, h, u, q, d, t, y, k, a]) (.int 8) = some (.val d) := by rw [ixT_pk (by decide) (by simp)]; rfl
theorem x13_9 : fIx (.tup [n, g, s, p, b, h, u, q, d, t, y, k, a]) (.int 9) = some (.val t) := by rw [ixT_pk (by decide) (by simp)]; rfl
theorem x13_10 : fIx (.tup [n, g, s, p, b, h, u, q, d, t, y, k, a]) (.int 10) = some (.val y) := by rw [ixT_pk (by decide) (by simp)]; rfl
theorem x13_11 : fIx (.tup [n, g, s, p, b, h, u, q, d, t, y, k, a]) (.int 11) = some (.val k) := by rw [ixT_pk (by decide) (by simp)]; rfl
theorem x13_12 : fIx (.tup [n, g, s, p, b, h, u, q, d, t, y, k, a]) (.int 12) = some (.val a) := by rw [ixT_pk (by decide) (by simp)]; rfl
end
def emp : W → Bool
  | .tup [] => true
  | _ => false
def runsB : W → Bool
  | .tup [.str x] => decide (x = tRuns)
  | _ => false
def endedB : W → Bool
  | .tup (.str x :: _) => decide (x = tEnded)
  | _ => false
theorem how_cases {w : W} (h : howW w = true) : w = .tup [.str tRuns] ∨ (∃ i, w = .tup [.str tStops, .int i]) ∨ ∃ i, w = .tup [.str tEnded, .int i] := by
  unfold howW at h
  split at h
  · exact .inl (by rw [of_decide_eq_true h])
  · rename_i x v
    split at h
    · rename_i hx
      subst hx
      exact .inr (.inl ⟨numOf v, by rw [← (btw_num h).1]⟩)
    · rw [Bool.and_eq_true] at h
      have h1 := of_decide_eq_true h.1
      subst h1
      cases v with
      | int i => exact .inr (.inr ⟨i, rfl⟩)
      | _ => cases h.2
  · cases h
theorem eqD_lc (x : W) (l : List W) (z : W) (m : List W) : eqD (.lst (x :: l)) (.lst (z :: m)) = (eqD x z && eqD (.lst l) (.lst m)) := rfl
theorem eqD_tc (x : W) (l : List W) (z : W) (m : List W) : eqD (.tup (x :: l)) (.tup (z :: m)) = (eqD x z && eqD (.tup l) (.tup m)) := rfl
theorem eqD_emp {w : W} (h : isTup w = true) : eqD w (.tup []) = emp w := by
  cases w with
  | tup l => cases l <;> rfl
  | _ => cases h
theorem eqD_runs {w : W} (h : howW w = true) : eqD w (.tup [.str tRuns]) = runsB w ∧ shp 64 w = true := by
  rcases how_cases h with rfl | ⟨i, rfl⟩ | ⟨i, rfl⟩
  · exact ⟨rfl, rfl⟩
  · exact ⟨by rw [eqD_tc, eqD_str]; rfl, rfl⟩
  · exact ⟨by rw [eqD_tc, eqD_str]; rfl, rfl⟩
theorem shps_of {m : Nat} {l : List W} (h : ∀ w ∈ l, shp m w = true) : shps m l = true := by
  induction l with
  | nil => simp [shps]
  | cons x r ih => simp only [shps, Bool.and_eq_true]; exact ⟨h x (by simp), ih fun w hw => h w (by simp [hw])⟩
/-- what a part may be to be held against another -/
structure Flt (w : W) : Prop where
  tup : isTup w = true
  shp : ∀ m, 2 ≤ m → shp m w = true
theorem flt_ints {lo hi : Int} {l : List W} (h : l.all (btw lo hi) = true) : Flt (.tup l) := by
  refine ⟨rfl, fun m hm => ?_⟩
  obtain ⟨m, rfl⟩ : ∃ j, m = j + 1 := ⟨m - 1, by omega⟩
  show shps m l = true
  refine shps_of fun w hw => ?_
  rw [(btw_num (List.all_eq_true.mp h w hw)).1]
  cases m <;> rfl
theorem flt_prs {ps : List (W × W)} (h : ∀ p ∈ ps, (∀ m, shp m p.1 = true) ∧ ∀ m, shp m p.2 = true) : Flt (.tup (ps.map prW)) := by
  refine ⟨rfl, fun m hm => ?_⟩
  obtain ⟨m, rfl⟩ : ∃ j, m = j + 2 := ⟨m - 2, by omega⟩
  show shps (m + 1) _ = true
  refine shps_of fun w hw => ?_
  obtain ⟨p, hp, rfl⟩ := List.mem_map.mp hw
  show shps m [p.1, p.2] = true
  exact shps_of fun w hw => by
    rcases List.mem_cons.mp hw with rfl | hw
    · exact (h p hp).1 m
    · rcases List.mem_cons.mp hw with rfl | hw
      · exact (h p hp).2 m
      · cases hw
theorem shp_btw {lo hi : Int} {w : W} (h : btw lo hi w = true) (m : Nat) : shp m w = true := by
  rw [(btw_num h).1]
  cases m <;> rfl
theorem shp_nm {w : W} (h : isnm w = true) (m : Nat) : shp m w = true := by
  rw [(nm_str h).1]
  cases m <;> rfl
theorem flt_bells {lo : Int} {w : W} (h : bellsW lo w = true) : Flt w := by
  cases w with
  | tup l =>
    rw [bellsW, Bool.and_eq_true] at h
    exact flt_ints h.1
  | _ => cases h
theorem flt_btws {lo hi : Int} {w : W} (h : btws lo hi w = true) : Flt w := by
  cases w with
  | tup l => exact flt_ints h
  | _ => cases h
theorem flt_boxes {w : W} (h : boxesW w = true) : Flt w := by
  unfold boxesW at h
  split at h
  · rename_i ps hp
    rw [prsW_is hp]
    rw [Bool.and_eq_true] at h
    refine flt_prs fun p hm => ?_
    have := List.all_eq_true.mp h.1 p hm
    rw [boxOk, Bool.and_eq_true] at this
    exact ⟨shp_nm this.1, shp_btw this.2⟩
  · cases h
theorem flt_traps {last : Int} {w : W} (h : trapsW last w = true) : Flt w := by
  unfold trapsW at h
  split at h
  · rename_i ps hp
    rw [prsW_is hp]
    rw [Bool.and_eq_true, Bool.and_eq_true] at h
    refine flt_prs fun p hm => ?_
    exact ⟨shp_btw (List.all_eq_true.mp h.2.1 p.1 (List.mem_map_of_mem hm)), shp_btw (List.all_eq_true.mp h.1 p hm)⟩
  · cases h
theorem flt_ways {last : Int} {w : W} (h : waysW last w = true) : Flt w := by
  unfold waysW at h
  split at h
  · rename_i ps hp
    rw [prsW_is hp]
    rw [Bool.and_eq_true, Bool.and_eq_true] at h
    refine flt_prs fun p hm => ?_
    exact ⟨shp_btw (List.all_eq_true.mp h.1 p hm), shp_btw (List.all_eq_true.mp h.2.1 p.2 (List.mem_map_of_mem hm))⟩
  · cases h
def idleB (p : Int) (h : W) (u : Bool) (six : List W) : Bool := decide (p = 0) && (runsB h && (!u && six.all emp))
section
variable {S : Store} {n g s b h q d t y k a : W} {p : Int} {u : Bool}
theorem idle_w (hb : Flt b) (hh : howW h = true) (hq : Flt q) (hd : Flt d) (ht : Flt t) (hy : Flt y) (ha : Flt a) :
    g_is_idle [.v (.tup [n, g, s, .int p, b, h, .bl u, q, d, t, y, k, a])] S = .ok (.v (.bl (idleB p h u [b, q, d, t, y, a]))) S := by
  have ml : (List.replicate (Int.toNat 6) [W.tup []]).flatten = [.tup [], .tup [], .tup [], .tup [], .tup [], .tup []] := rfl
  have c1 : lcL (tgN 2) dYes g_is_idle_e1 [some (.v (.tup [n, g, s, .int p, b, h, .bl u, q, d, t, y, k, a])), none, none] [.int 4, .int 7, .int 8, .int 9, .int 10, .int 12] S = .ok [b, q, d, t, y, a] S := by
    simp [lcL_cons, lcL_nil, g_is_idle_e1, x13_4, x13_7, x13_8, x13_9, x13_10, x13_12]
  have e1 : fEq (.lst [b, q, d, t, y, a]) (.lst [.tup [], .tup [], .tup [], .tup [], .tup [], .tup []]) = some (.val (.bl ([b, q, d, t, y, a].all emp))) := by
    have sh : shps 63 [b, q, d, t, y, a] = true := by
      refine shps_of fun w hw => ?_
      simp only [List.mem_cons, List.not_mem_nil, or_false] at hw
      rcases hw with rfl | rfl | rfl | rfl | rfl | rfl
      · exact hb.shp _ (by decide)
      · exact hq.shp _ (by decide)
      · exact hd.shp _ (by decide)
      · exact ht.shp _ (by decide)
      · exact hy.shp _ (by decide)
      · exact ha.shp _ (by decide)
    have sh2 : shp 64 (.lst [b, q, d, t, y, a]) = true := sh
    rw [fEq_is sh2 rfl]
    simp only [eqD_lc, eqD_emp hb.tup, eqD_emp hq.tup, eqD_emp hd.tup, eqD_emp ht.tup, eqD_emp hy.tup, eqD_emp ha.tup, List.all_cons, List.all_nil]
    rfl
  obtain ⟨r1, r2⟩ := eqD_runs hh
  have e2 : fEq h (.tup [.str tRuns]) = some (.val (.bl (runsB h))) := by rw [fEq_is r2 rfl, r1]
  by_cases hp : p = 0
  · subst hp
    cases hr : runsB h with
    | false => simp [g_is_idle, c_BOXES, c_BELLS_yards, c_HELD, c_TRAPS, c_WAYS, c_SAYS, c_PLACE, c_HOW, c_UNTOLD, c1, ml, wipeE, x13_3, x13_5, x13_6, e1, e2, idleB, hr]
    | true => cases u <;> simp [g_is_idle, c_BOXES, c_BELLS_yards, c_HELD, c_TRAPS, c_WAYS, c_SAYS, c_PLACE, c_HOW, c_UNTOLD, c1, ml, wipeE, x13_3, x13_5, x13_6, e1, e2, idleB, hr]
  · simp [g_is_idle, c_BOXES, c_BELLS_yards, c_HELD, c_TRAPS, c_WAYS, c_SAYS, c_PLACE, c_HOW, c_UNTOLD, c1, ml, wipeE, x13_3, x13_5, x13_6, e1, e2, idleB, hp]
end
end Bel

/-! Yards: tasks. -/
namespace Bel
open PySem PySem.Spec PyProof.Rows L2
theorem chk {c : DT} {rest : DS} {e : Env'} {S : Store} {x : Bool} (h : c e S = .ok x S) : dSeq (dIfS c (dRet (dC (.bl false))) dNext) rest e S = if x = true then .ok (.rt (.v (.bl false))) S else rest e S := by
  cases x <;> simp [h]
theorem asg_ {i : Nat} {d : DE} {rest : DS} {e : Env'} {S : Store} {w : W} (E : Env') (h : d e S = .ok (.v w) S) (hE : e.set i (some (.v w)) = E) : dSeq (dAsg i d) rest e S = rest E S := by
  subst hE
  simp [h]
theorem fnD_rt {m : Nat} {body : DS} {us : List U} {S : Store} {w : W} (E : Env') (hE : us.map some ++ List.replicate (m - us.length) none = E) (h : body E S = .ok (.rt (.v w)) S) : fnD m body us S = .ok (.v w) S := by
  subst hE
  simp [h]
def wlen : W → Nat
  | .tup l => l.length
  | _ => 0
def bellsOf : W → List Int
  | .tup l => l.map numOf
  | _ => []
def trapsOf (w : W) : List (Int × Int) := match prsW w with
  | some ps => ps.map fun p => (numOf p.1, numOf p.2)
  | none => []
theorem bells_form {lo : Int} {w : W} (h : bellsW lo w = true) (hk : okW w = true) : w = .tup (nrs (bellsOf w)) ∧ (bellsOf w).length ≤ 1000 := by
  cases w with
  | tup l =>
    rw [bellsW, Bool.and_eq_true] at h
    refine ⟨?_, by simpa [bellsOf] using (ok_tup hk).1⟩
    exact congrArg W.tup (btws_num h.1)
  | _ => cases h
theorem traps_form {last : Int} {w : W} (h : trapsW last w = true) : w = .tup ((trapsOf w).map it) ∧ ((trapsOf w).map (·.1)).Nodup := by
  unfold trapsW at h
  split at h
  · rename_i ps hp
    rw [Bool.and_eq_true, Bool.and_eq_true] at h
    have e : trapsOf w = ps.map fun p => (numOf p.1, numOf p.2) := by unfold trapsOf; rw [hp]
    rw [e]
    refine ⟨?_, ?_⟩
    · rw [prsW_is hp, List.map_map]
      refine congrArg W.tup (List.map_congr_left fun p hm => ?_)
      have h1 := (btw_num (List.all_eq_true.mp h.2.1 p.1 (List.mem_map_of_mem hm))).1
      have h2 := (btw_num (List.all_eq_true.mp h.1 p hm)).1
      show W.tup [p.1, p.2] = .tup [.int (numOf p.1), .int (numOf p.2)]
      rw [← h1, ← h2]
    · rw [List.map_map]
      exact rise_nd h.2.2
  · cases h
abbrev Yb := List (List Nat × List W)
abbrev bw (p : List Nat × List W) : W × W := (.str p.1, .tup p.2)
theorem look_bw (x : List Nat) : ∀ l : Yb, lookD (.str x) (l.map bw) = (l.lookup x).map W.tup
  | [] => rfl
  | p :: r => by
    have ih := look_bw x r
    unfold lookD at ih ⊢
    rw [List.map_cons, List.find?_cons, List.lookup_cons]
    by_cases e : x = p.1
    · subst e
      simp [eqK]
    · have e1 : eqK (.str p.1) (.str x) = false := by simp only [eqK, decide_eq_false_iff_not]; exact fun z => e z.symm
      have e2 : (x == p.1) = false := by simpa using e
      simp only [e1, e2]
      exact ih
def lastB (B : Yb) (s : List Nat) : Int := (((B.lookup s).getD []).length : Nat)
/-- a task, part by part -/
def taskB (B : Yb) (n g : W) (s : List Nat) (p b h : W) (u : Bool) (q d t y k a : W) : Bool :=
  tnW n && (tnW g && ((decide (s = []) || (B.lookup s).isSome) && (btw 0 (lastB B s) p && (boxesW b && (howW h && (bellsW 0 q && (bellsW 2 d && (trapsW (lastB B s) t && (waysW (lastB B s) y && (btws 0 999 a &&
    (btw 0 (if wlen n < 4 then (if s = [] then 30 else 9) else 0) k && (!(endedB h && !(emp q && (emp d && emp y))) && (heardB (bellsOf q) (trapsOf t) && (!decide (s = []) || idleB (numOf p) h u [b, q, d, t, y, a]))))))))))))))
def taskW (B : Yb) : W → Bool
  | .tup [n, g, .str s, p, b, h, .bl u, q, d, t, y, k, a] => taskB B n g s p b h u q d t y k a
  | _ => false
section
variable {S : Store} {B : Yb} {n g p b h q d t y k a : W} {s : List Nat} {u : Bool}
theorem ended_ne (hq : Flt q) (hd : Flt d) (hy : Flt y) : fNe (.tup [q, d, y]) (.tup [.tup [], .tup [], .tup []]) = some (.val (.bl (!(emp q && (emp d && emp y))))) := by
  have sh : shps 63 [q, d, y] = true := by
    refine shps_of fun w hw => ?_
    simp only [List.mem_cons, List.not_mem_nil, or_false] at hw
    rcases hw with rfl | rfl | rfl
    · exact hq.shp _ (by decide)
    · exact hd.shp _ (by decide)
    · exact hy.shp _ (by decide)
  have sh2 : shp 64 (.tup [q, d, y]) = true := sh
  rw [fNe_is sh2 rfl]
  simp only [eqD_tc, eqD_emp hq.tup, eqD_emp hd.tup, eqD_emp hy.tup]
  have : eqD (.tup []) (.tup []) = true := rfl
  rw [this, Bool.and_true]
theorem how0 (hh : howW h = true) : ∃ x, fIx h (.int 0) = some (.val (.str x)) ∧ endedB h = decide (x = tEnded) := by
  rcases how_cases hh with rfl | ⟨i, rfl⟩ | ⟨i, rfl⟩
  · exact ⟨_, ix0_tup, rfl⟩
  · exact ⟨_, ix0_tup, rfl⟩
  · exact ⟨_, ix0_tup, rfl⟩
theorem task13 (hk : okW (.tup [n, g, .str s, p, b, h, .bl u, q, d, t, y, k, a]) = true) : g_is_task [.v (.dct (B.map bw)), .v (.tup [n, g, .str s, p, b, h, .bl u, q, d, t, y, k, a])] S = .ok (.v (.bl (taskB B n g s p b h u q d t y k a))) S := by
  have ok : ∀ w ∈ [n, g, .str s, p, b, h, .bl u, q, d, t, y, k, a], okW w = true := (ok_tup hk).2
  have on := ok n (by simp)
  have og := ok g (by simp)
  have op := ok p (by simp)
  have ob := ok b (by simp)
  have oh := ok h (by simp)
  have oq := ok q (by simp)
  have od := ok d (by simp)
  have ot := ok t (by simp)
  have oy := ok y (by simp)
  have ok' := ok k (by simp)
  have oa := ok a (by simp)
  have lk := look_bw s B
  refine fnD_rt [some (.v (.dct (B.map bw))), some (.v (.tup [n, g, .str s, p, b, h, .bl u, q, d, t, y, k, a])), none, none] rfl ?_
  refine (chk (x := false) (by simp [c_PARTS, c_SCRIPT, x13_2])).trans ?_
  rw [if_neg (by decide)]
  refine (chk (x := !(tnW n && tnW g)) (by cases h1 : tnW n <;> cases h2 : tnW g <;> simp [c_NAME, c_GROUP, c_UNTOLD, x13_0, x13_1, x13_6, task_name_w on, task_name_w og, h1, h2])).trans ?_
  unfold taskB
  cases h1 : tnW n with
  | false => rfl
  | true =>
  cases h2 : tnW g with
  | false => rfl
  | true =>
  rw [if_neg (by decide)]
  refine (chk (x := !(decide (s = []) || (B.lookup s).isSome)) ?_).trans ?_
  · have e : fNotInO (.str s) (.dct (B.map bw)) = some (.val (.bl (!(B.lookup s).isSome))) := by
      show some (Out.val (.bl (!(lookD (.str s) (B.map bw)).isSome))) = _
      rw [lk, Option.isSome_map]
    by_cases hs : s = [] <;> simp [c_SCRIPT, x13_2, hs, e]
  cases h3 : (decide (s = []) || (B.lookup s).isSome) with
  | false => rfl
  | true =>
  rw [if_neg (by decide)]
  refine (asg_ (hE := rfl) (E := [some (.v (.dct (B.map bw))), some (.v (.tup [n, g, .str s, p, b, h, .bl u, q, d, t, y, k, a])), some (.v (.int (lastB B s))), none]) (w := .int (lastB B s)) ?_).trans ?_
  · have e : (lookD (.str s) (B.map bw)).getD (.tup []) = .tup ((B.lookup s).getD []) := by
      rw [lk]
      cases B.lookup s <;> rfl
    simp [c_SCRIPT, x13_2, e, lastB]
  refine (chk (x := !(btw 0 (lastB B s) p && (boxesW b && howW h))) (by cases z1 : btw 0 (lastB B s) p <;> cases z2 : boxesW b <;> cases z3 : howW h <;> simp [c_PLACE, c_BOXES, c_HOW, x13_3, x13_4, x13_5, between_w (ok_exc op), boxes_w ob, how_w oh, z1, z2, z3])).trans ?_
  cases h4 : btw 0 (lastB B s) p with
  | false => rfl
  | true =>
  cases h5 : boxesW b with
  | false => rfl
  | true =>
  cases h6 : howW h with
  | false => rfl
  | true =>
  rw [if_neg (by decide)]
  refine (chk (x := !(bellsW 0 q && (bellsW 2 d && trapsW (lastB B s) t))) (by cases z1 : bellsW 0 q <;> cases z2 : bellsW 2 d <;> cases z3 : trapsW (lastB B s) t <;> simp [c_BELLS_yards, c_HELD, c_TRAPS, c_FIRST_SOFT, x13_7, x13_8, x13_9, bells_w oq, bells_w od, traps_w ot, z1, z2, z3])).trans ?_
  cases h7 : bellsW 0 q with
  | false => rfl
  | true =>
  cases h8 : bellsW 2 d with
  | false => rfl
  | true =>
  cases h9 : trapsW (lastB B s) t with
  | false => rfl
  | true =>
  rw [if_neg (by decide)]
  refine (chk (x := !(waysW (lastB B s) y && btws 0 999 a)) (by cases z1 : waysW (lastB B s) y <;> cases z2 : btws 0 999 a <;> simp [c_WAYS, c_SAYS, c_MOST_NUMBER, x13_10, x13_12, ways_w oy, betweens_w oa, z1, z2])).trans ?_
  cases h10 : waysW (lastB B s) y with
  | false => rfl
  | true =>
  cases h11 : btws 0 999 a with
  | false => rfl
  | true =>
  rw [if_neg (by decide)]
  refine (asg_ (hE := rfl) (E := [some (.v (.dct (B.map bw))), some (.v (.tup [n, g, .str s, p, b, h, .bl u, q, d, t, y, k, a])), some (.v (.int (lastB B s))), some (.v (.int (if s = [] then 30 else 9)))]) (w := .int (if s = [] then 30 else 9)) (by by_cases hs : s = [] <;> simp [c_SCRIPT, c_MOST_OF_NONE, c_MOST_STARTED, x13_2, hs])).trans ?_
  refine (chk (x := !(btw 0 (if wlen n < 4 then (if s = [] then 30 else 9) else 0) k)) ?_).trans ?_
  · have en : fLen [n] = some (.val (.int (wlen n : Nat))) := by
      cases n with
      | tup l => rfl
      | _ => cases h1
    have e4 : ((wlen n : Int) < 4) ↔ wlen n < 4 := by omega
    by_cases hn : wlen n < 4 <;> simp [c_STARTED, c_NAME, c_MOST_DEEP, x13_0, x13_11, en, e4, hn, between_w (ok_exc ok')]
  cases h12 : btw 0 (if wlen n < 4 then (if s = [] then 30 else 9) else 0) k with
  | false => rfl
  | true =>
  rw [if_neg (by decide)]
  have fq := flt_bells h7
  have fd := flt_bells h8
  have ft := flt_traps h9
  have fy := flt_ways h10
  obtain ⟨x0, e0, e1⟩ := how0 h6
  refine (chk (x := endedB h && !(emp q && (emp d && emp y))) (by by_cases hx : x0 = tEnded <;> simp [c_HOW, c_BELLS_yards, c_HELD, c_WAYS, x13_5, x13_7, x13_8, x13_10, e0, e1, hx, ended_ne fq fd fy])).trans ?_
  cases h13 : (endedB h && !(emp q && (emp d && emp y))) with
  | true => rfl
  | false =>
  rw [if_neg (by decide)]
  obtain ⟨b1, b2⟩ := bells_form h7 oq
  obtain ⟨t1, t2⟩ := traps_form h9
  have hw := heard_w (S := S) b2 t2
  rw [← b1, ← t1] at hw
  have ip := (btw_num h4).1
  have hi := idle_w (S := S) (n := n) (g := g) (s := .str s) (b := b) (h := h) (q := q) (d := d) (t := t) (y := y) (k := k) (a := a) (p := numOf p) (u := u) (flt_boxes h5) h6 fq fd ft fy (flt_btws h11)
  rw [← ip] at hi
  cases hr : heardB (bellsOf q) (trapsOf t) with
  | false => simp [c_BELLS_yards, c_TRAPS, x13_7, x13_9, hw, hr]
  | true =>
    by_cases hs : s = [] <;> simp [c_BELLS_yards, c_TRAPS, c_SCRIPT, x13_2, x13_7, x13_9, hw, hr, hs, hi]
    · subst hs; simp [hi]
end
end Bel

/-! Yards: tasks of any kind; parts of a task. -/
namespace Bel
open PySem PySem.Spec PyProof.Rows L2
theorem taskW_len {B : Yb} {l : List W} (h : l.length ≠ 13) : taskW B (.tup l) = false := by
  unfold taskW
  split
  · rename_i e
    cases e
    exact absurd rfl h
  · rfl
theorem taskW_str {B : Yb} {n g s p b h u q d t y k a : W} (hs : isStr s = false) : taskW B (.tup [n, g, s, p, b, h, u, q, d, t, y, k, a]) = false := by
  cases s with
  | str x => cases hs
  | _ => rfl
theorem taskW_bl {B : Yb} {n g p b h u q d t y k a : W} {s : List Nat} (hu : isBl u = false) : taskW B (.tup [n, g, .str s, p, b, h, u, q, d, t, y, k, a]) = false := by
  cases u with
  | bl x => cases hu
  | _ => rfl
section
variable {S : Store} {B : Yb}
theorem task_w {w : W} (hk : okW w = true) : g_is_task [.v (.dct (B.map bw)), .v w] S = .ok (.v (.bl (taskW B w))) S := by
  cases w with
  | tup l =>
    obtain ⟨hl, ok⟩ := ok_tup hk
    by_cases h13 : l.length = 13
    · match l, h13 with
      | [n, g, s, p, b, h, u, q, d, t, y, k, a], _ =>
        have os := ok_exc (ok s (by simp))
        have ou := ok_exc (ok u (by simp))
        have on := ok n (by simp)
        have og := ok g (by simp)
        cases hs : isStr s with
        | false =>
          rw [taskW_str hs]
          refine fnD_rt [some (.v (.dct (B.map bw))), some (.v (.tup [n, g, s, p, b, h, u, q, d, t, y, k, a])), none, none] rfl ?_
          refine (chk (x := true) (by simp [c_PARTS, c_SCRIPT, x13_2, hs, os])).trans ?_
          rw [if_pos rfl]
        | true =>
          cases s with
          | str x =>
            cases hu : isBl u with
            | false =>
              rw [taskW_bl hu]
              refine fnD_rt [some (.v (.dct (B.map bw))), some (.v (.tup [n, g, .str x, p, b, h, u, q, d, t, y, k, a])), none, none] rfl ?_
              refine (chk (x := false) (by simp [c_PARTS, c_SCRIPT, x13_2])).trans ?_
              rw [if_neg (by decide)]
              refine (chk (x := true) (by cases h1 : tnW n <;> cases h2 : tnW g <;> simp [c_NAME, c_GROUP, c_UNTOLD, x13_0, x13_1, x13_6, task_name_w on, task_name_w og, h1, h2, hu, ou])).trans ?_
              rw [if_pos rfl]
            | true =>
              cases u with
              | bl v => exact task13 hk
              | _ => cases hu
          | _ => cases hs
    · rw [taskW_len h13]
      have e : ¬ ((l.length : Int) = 13) := by omega
      refine fnD_rt [some (.v (.dct (B.map bw))), some (.v (.tup l)), none, none] rfl ?_
      refine (chk (x := true) (by simp [c_PARTS, e])).trans ?_
      rw [if_pos rfl]
  | exc c => simp [okW] at hk
  | tdc c => simp [okW] at hk
  | kdc l =>
    refine fnD_rt [some (.v (.dct (B.map bw))), some (.v (.kdc l)), none, none] rfl ?_
    refine (chk (x := true) (by simp [isTup, isExc])).trans ?_
    rw [if_pos rfl]; rfl
  | _ =>
    refine fnD_rt [some (.v (.dct (B.map bw))), some (.v _), none, none] rfl ?_
    refine (chk (x := true) (by simp)).trans ?_
    rw [if_pos rfl]; rfl
end
/-! parts -/
def numsOf : W → List Int
  | .tup l => l.map numOf
  | _ => []
/-- a task's parts -/
structure Tp where
  name : List Int
  group : List Int
  script : List Nat
  how : W
  untold : Bool
  started : Int
  w : W
/-- w is a task with these parts -/
structure IsTp (w : W) (T : Tp) : Prop where
  ww : T.w = w
  nm : fIx w (.int 0) = some (.val (.tup (nrs T.name)))
  gr : fIx w (.int 1) = some (.val (.tup (nrs T.group)))
  sc : fIx w (.int 2) = some (.val (.str T.script))
  hw : fIx w (.int 5) = some (.val T.how)
  un : fIx w (.int 6) = some (.val (.bl T.untold))
  st : fIx w (.int 11) = some (.val (.int T.started))
  h0 : ∃ x, fIx T.how (.int 0) = some (.val (.str x)) ∧ (endedB T.how = decide (x = tEnded)) ∧ runsB T.how = decide (x = tRuns)
  nl : T.name.length ≤ 4 ∧ ∀ i ∈ T.name, 0 ≤ i ∧ i ≤ 29
  gl : T.group.length ≤ 4 ∧ ∀ i ∈ T.group, 0 ≤ i ∧ i ≤ 29
  sb : 0 ≤ T.started ∧ T.started ≤ 30
  ex : isExc w = false
theorem tn_form {w : W} (h : tnW w = true) : w = .tup (nrs (numsOf w)) ∧ (numsOf w).length ≤ 4 ∧ ∀ i ∈ numsOf w, 0 ≤ i ∧ i ≤ 29 := by
  cases w with
  | tup l =>
    rw [tnW, Bool.and_eq_true, decide_eq_true_eq] at h
    refine ⟨congrArg W.tup (btws_num h.1), by simpa [numsOf] using h.2, fun i hi => ?_⟩
    obtain ⟨w, hw, rfl⟩ := List.mem_map.mp hi
    exact (btw_num (List.all_eq_true.mp h.1 w hw)).2
  | _ => cases h
theorem how0' {h : W} (hh : howW h = true) : ∃ x, fIx h (.int 0) = some (.val (.str x)) ∧ (endedB h = decide (x = tEnded)) ∧ runsB h = decide (x = tRuns) := by
  rcases how_cases hh with rfl | ⟨i, rfl⟩ | ⟨i, rfl⟩
  · exact ⟨_, ix0_tup, rfl, rfl⟩
  · exact ⟨_, ix0_tup, rfl, rfl⟩
  · exact ⟨_, ix0_tup, rfl, rfl⟩
/-- the parts of what is a task -/
def tpOf : W → Tp
  | .tup [n, g, .str s, p, b, h, .bl u, q, d, t, y, k, a] => ⟨numsOf n, numsOf g, s, h, u, numOf k, .tup [n, g, .str s, p, b, h, .bl u, q, d, t, y, k, a]⟩
  | w => ⟨[], [], [], .non, false, 0, w⟩
theorem tp_of {B : Yb} {w : W} (h : taskW B w = true) : IsTp w (tpOf w) := by
  unfold taskW at h
  split at h
  · rename_i n g s p b hh u q d t y k a
    unfold taskB at h
    simp only [Bool.and_eq_true] at h
    obtain ⟨h1, h2, h3, h4, h5, h6, h7, h8, h9, h10, h11, h12, h13, h14, h15⟩ := h
    obtain ⟨n1, n2, n3⟩ := tn_form h1
    obtain ⟨g1, g2, g3⟩ := tn_form h2
    obtain ⟨k1, k2, k3⟩ := btw_num h12
    refine ⟨rfl, ?_, ?_, x13_2, x13_5, x13_6, ?_, how0' h6, ⟨n2, n3⟩, ⟨g2, g3⟩, ⟨k2, ?_⟩, rfl⟩
    · rw [x13_0]
      show some (Out.val n) = some (Out.val (.tup (nrs (numsOf n))))
      rw [← n1]
    · rw [x13_1]
      show some (Out.val g) = some (Out.val (.tup (nrs (numsOf g))))
      rw [← g1]
    · rw [x13_11]
      show some (Out.val k) = some (Out.val (.int (numOf k)))
      rw [← k1]
    · show numOf k ≤ 30
      refine Int.le_trans k3 ?_
      split
      · split <;> decide
      · decide
  · cases h
end Bel

/-! Yards: a task among the others. -/
namespace Bel
open PySem PySem.Spec PyProof.Rows L2
abbrev tn (l : List Int) : W := .tup (nrs l)
theorem nrs_len (l : List Int) : (nrs l).length = l.length := List.length_map ..
theorem eqD_nrs : ∀ l m : List Int, eqD (tn l) (tn m) = decide (l = m)
  | [], [] => rfl
  | [], _ :: _ => rfl
  | _ :: _, [] => rfl
  | a :: l, b :: m => by
    have ih := eqD_nrs l m
    show eqD (.tup (.int a :: nrs l)) (.tup (.int b :: nrs m)) = _
    rw [eqD_tc, eqI, ih, Bool.eq_iff_iff]
    simp
theorem shp_nrs (l : List Int) (m : Nat) (h : 1 ≤ m) : shp m (tn l) = true := by
  obtain ⟨m, rfl⟩ : ∃ j, m = j + 1 := ⟨m - 1, by omega⟩
  show shps m (nrs l) = true
  refine shps_of fun w hw => ?_
  obtain ⟨i, _, rfl⟩ := List.mem_map.mp hw
  cases m <;> rfl
theorem fEq_nrs (l m : List Int) : fEq (tn l) (tn m) = some (.val (.bl (decide (l = m)))) := by
  rw [fEq_is (shp_nrs l 64 (by decide)) (shp_nrs m 64 (by decide)), eqD_nrs]
theorem fEq_nil (l : List Int) : fEq (tn l) (.tup []) = some (.val (.bl (decide (l = [])))) := fEq_nrs l []
theorem in_nrs (g : List Int) (L : List (List Int)) : fIn (tn g) (.lst (L.map tn)) = some (decide (g ∈ L)) := by
  show (if shp 64 (tn g) = true ∧ shps 63 (L.map tn) = true then some ((L.map tn).any fun y => eqD y (tn g)) else none) = _
  rw [if_pos ⟨shp_nrs g 64 (by decide), shps_of fun w hw => by obtain ⟨l, _, rfl⟩ := List.mem_map.mp hw; exact shp_nrs l 63 (by decide)⟩]
  congr 1
  rw [List.any_map, Bool.eq_iff_iff]
  simp only [List.any_eq_true, Function.comp, eqD_nrs, decide_eq_true_eq]
  constructor
  · rintro ⟨x, hx, rfl⟩; exact hx
  · exact fun h => ⟨g, h, rfl⟩
theorem notIn_nrs (g : List Int) (L : List (List Int)) : fNotInO (tn g) (.lst (L.map tn)) = some (.val (.bl (!decide (g ∈ L)))) := by
  unfold fNotInO
  rw [in_nrs]; rfl
theorem inO_nrs (g : List Int) (L : List (List Int)) : fInO (tn g) (.lst (L.map tn)) = some (.val (.bl (decide (g ∈ L)))) := by
  unfold fInO
  rw [in_nrs]; rfl
def lastI (l : List Int) : Int := l.getLastD 0
theorem ix_last {l : List Int} (h : l ≠ []) : fIx (tn l) (.int (-1)) = some (.val (.int (lastI l))) := by
  have e : atW (nrs l) (-1) = some (.int (lastI l)) := by
    obtain ⟨r, a, rfl⟩ : ∃ r a, l = r ++ [a] := ⟨l.dropLast, l.getLast h, (List.dropLast_concat_getLast h).symm⟩
    unfold atW ixN nrs lastI
    have h1 : (1 : Int) ≤ r.length + 1 := by omega
    have h2 : (-1 + ((r.length : Int) + 1)).toNat = r.length := by omega
    simp [h1, h2]
  show (atW (nrs l) (-1)).map Out.val = _
  rw [e]; rfl
theorem cut_last (l : List Int) : cutL (nrs l) none (some (-1)) = nrs l.dropLast := by
  unfold nrs
  rw [List.map_dropLast, List.dropLast_eq_take]
  simp [cutL, HT.sIx]
  omega
/-- a comprehension with a test, over mapped items -/
theorem lcL_mapf {α : Type} {t : W → Env' → Option Env'} {tt : DT} {te : DE} {env : Env'} {S : Store} (f : α → W) (p : α → Bool) (g : α → W) : ∀ xs : List α, (∀ x ∈ xs, ∃ e1, t (f x) env = some e1 ∧ tt e1 S = .ok (p x) S ∧ (p x = true → te e1 S = .ok (.v (g x)) S)) → lcL t tt te env (xs.map f) S = .ok ((xs.filter p).map g) S
  | [], _ => rfl
  | x :: r, h => by
    obtain ⟨e1, h1, h2, h3⟩ := h x List.mem_cons_self
    have ih := lcL_mapf (t := t) (tt := tt) (te := te) (env := env) (S := S) f p g r fun w hw => h w (List.mem_cons_of_mem _ hw)
    rw [List.map_cons, lcL_cons, h1]
    simp only [h2, Re.bindX_ok]
    cases q : p x with
    | true => simp [h3 q, ih, List.filter_cons, q]
    | false => simp [ih, List.filter_cons, q]
def findT (Ts : List Tp) (k : List Int) : Option Tp := Ts.find? fun T => decide (T.name = k)
abbrev knW (Ts : List Tp) : List (List Int × W) := Ts.map fun T => (T.name, T.w)
theorem look_kn (Ts : List Tp) (k : List Int) : lookT k (knW Ts) = (findT Ts k).map (·.w) := by
  unfold lookT findT knW
  rw [List.find?_map]
  cases h : Ts.find? ((fun p : List Int × W => decide (p.1 = k)) ∘ fun T : Tp => (T.name, T.w)) with
  | none =>
    have h' : (Ts.find? fun T => decide (T.name = k)) = none := h
    rw [h']; rfl
  | some T =>
    have h' : (Ts.find? fun T => decide (T.name = k)) = some T := h
    rw [h']; rfl
def sisP (Ts : List Tp) (nm : List Int) : Bool := match findT Ts nm with
  | some U => decide (U.group = nm)
  | none => false
def sisB (Ts : List Tp) (T st : Tp) : List (List Int) := if st.script = [] then ((List.range (lastI T.name).toNat).map fun i : Nat => st.name ++ [(i : Int)]).filter (sisP Ts) else []
theorem find_mem {Ts : List Tp} {k : List Int} {T : Tp} (h : findT Ts k = some T) : T ∈ Ts ∧ T.name = k := ⟨List.mem_of_find?_eq_some h, by simpa using List.find?_some h⟩
section
variable {S : Store} {Ts : List Tp} {T st : Tp}
theorem sisters_w (hT : IsTp T.w T) (hs : IsTp st.w st) (hall : ∀ U ∈ Ts, IsTp U.w U) (hn : T.name ≠ []) : g_sisters_by [.v T.w, .v st.w, .v (.tdc (knW Ts))] S = .ok (.v (.lst ((sisB Ts T st).map tn))) S := by
  have el := ix_last hn
  have lb : 0 ≤ lastI T.name ∧ lastI T.name ≤ 29 := by
    refine hT.nl.2 _ ?_
    obtain ⟨r, a, e⟩ : ∃ r a, T.name = r ++ [a] := ⟨T.name.dropLast, T.name.getLast hn, (List.dropLast_concat_getLast hn).symm⟩
    rw [e]
    simp [lastI]
  generalize hL : lastI T.name = L at *
  have b1 : L < 4611686018427387904 := by omega
  have b2 : -4611686018427387904 ≤ L := by omega
  have b3 : L.toNat ≤ 16777216 := by omega
  by_cases hsc : st.script = []
  · have c1 : ∀ x3 : Option U, lcL (tgN 4) dYes g_sisters_by_e1 [some (.v T.w), some (.v st.w), some (.v (.tdc (knW Ts))), x3, none, none] ((List.range L.toNat).map fun i : Nat => W.int (i : Int)) S = .ok ((List.range L.toNat).map fun i : Nat => tn (st.name ++ [(i : Int)])) S := fun x3 => by
      refine lcL_map (fun i : Nat => W.int (i : Int)) (fun i : Nat => tn (st.name ++ [(i : Int)])) _ fun i _ => ⟨_, rfl, ?_⟩
      have ea : fAdd (tn st.name) (.tup [.int (i : Int)]) = some (.nt (nrs (st.name ++ [(i : Int)]))) := by
        rw [fAdd_tup (by rw [nrs_len]; have := hs.nl.1; simp; omega)]
        simp [nrs]
      simp [g_sisters_by_e1, c_NAME, hs.nm, ea]
    have c2 : lcL (tgN 5) g_sisters_by_t2 (dVar 5) [some (.v T.w), some (.v st.w), some (.v (.tdc (knW Ts))), some (.v (.lst ((List.range L.toNat).map fun i : Nat => tn (st.name ++ [(i : Int)])))), none, none] (((List.range L.toNat).map fun i : Nat => st.name ++ [(i : Int)]).map tn) S =
        .ok ((((List.range L.toNat).map fun i : Nat => st.name ++ [(i : Int)]).filter (sisP Ts)).map tn) S := by
      refine lcL_mapf tn (sisP Ts) tn _ fun nm _ => ⟨_, rfl, ?_, fun _ => by simp⟩
      cases hf : findT Ts nm with
      | none => simp [g_sisters_by_t2, look_kn, hf, sisP]
      | some U =>
        have hU := hall U (find_mem hf).1
        simp [g_sisters_by_t2, look_kn, hf, sisP, c_GROUP, hU.gr, fEq_nrs]
    rw [List.map_map] at c2
    have c2' : lcL (tgN 5) g_sisters_by_t2 (dVar 5) [some (.v T.w), some (.v st.w), some (.v (.tdc (knW Ts))), some (.v (.lst ((List.range L.toNat).map fun i : Nat => tn (st.name ++ [(i : Int)])))), none, none] ((List.range L.toNat).map fun i : Nat => tn (st.name ++ [(i : Int)])) S =
        .ok ((((List.range L.toNat).map fun i : Nat => st.name ++ [(i : Int)]).filter (sisP Ts)).map tn) S := c2
    simp [g_sisters_by, c_SCRIPT, c_NAME, hs.sc, hT.nm, hsc, el, b1, b2, b3, c1, c2', wipeE, sisB, hL]
  · simp [g_sisters_by, c_SCRIPT, hs.sc, hsc, sisB]
end
end Bel

/-! Yards: where a task stands. -/
namespace Bel
open PySem PySem.Spec PyProof.Rows L2
def standsB (Ts : List Tp) (T : Tp) : Bool := if T.name = [] then decide (T.group = []) && !T.untold else match findT Ts T.name.dropLast with
  | none => false
  | some st => !decide (st.started ≤ lastI T.name) && (decide (T.group ∈ [T.name, st.group] ++ sisB Ts T st) && (!T.untold || (!runsB T.how && !endedB st.how)))
theorem tp_non {w : W} {T : Tp} (h : IsTp w T) : isNon w = false := by
  cases w with
  | non => have := h.sc; cases this
  | _ => rfl
section
variable {S : Store} {Ts : List Tp} {T : Tp}
theorem stands_rt (hT : IsTp T.w T) (hall : ∀ U ∈ Ts, IsTp U.w U) : g_stands_right [.v T.w, .v (.tdc (knW Ts))] S = .ok (.v (.bl (standsB Ts T))) S := by
  by_cases hn : T.name = []
  · have e1 : fEq (.tup (nrs T.name)) (.tup []) = some (.val (.bl true)) := by rw [fEq_nil]; simp [hn]
    have sb : standsB Ts T = (decide (T.group = []) && !T.untold) := by unfold standsB; rw [if_pos hn]
    have e2 : fEq (.tup (nrs T.group)) (.tup []) = some (.val (.bl (decide (T.group = [])))) := fEq_nil _
    rw [sb]
    cases hg : decide (T.group = []) with
    | false =>
      rw [hg] at e2
      simp [g_stands_right, c_NAME, c_GROUP, c_UNTOLD, hT.nm, hT.gr, hT.un, e1, e2]
    | true =>
      rw [hg] at e2
      cases hu : T.untold <;> simp [g_stands_right, c_NAME, c_GROUP, c_UNTOLD, hT.nm, hT.gr, hT.un, e1, e2, hu]
  · have e1 : fEq (.tup (nrs T.name)) (.tup []) = some (.val (.bl false)) := by rw [fEq_nil]; simp [hn]
    have el := ix_last hn
    have ec := cut_last T.name
    cases hf : findT Ts T.name.dropLast with
    | none => simp [g_stands_right, c_NAME, hT.nm, e1, ec, look_kn, hf, standsB, hn]
    | some st =>
      have hs := hall st (find_mem hf).1
      by_cases hl : st.started ≤ lastI T.name
      · simp [g_stands_right, c_NAME, c_STARTED, hT.nm, e1, el, ec, look_kn, hf, standsB, hn, tp_non hs, hs.st, hl]
      · have es := sisters_w (S := S) hT hs hall hn
        have sl : (sisB Ts T st).length ≤ 29 := by
          have lb : lastI T.name ≤ 29 := by
            refine (hT.nl.2 _ ?_).2
            obtain ⟨r, a, e⟩ : ∃ r a, T.name = r ++ [a] := ⟨T.name.dropLast, T.name.getLast hn, (List.dropLast_concat_getLast hn).symm⟩
            rw [e]
            simp [lastI]
          unfold sisB
          split
          · refine Nat.le_trans (List.length_filter_le _ _) ?_
            rw [List.length_map, List.length_range]
            omega
          · exact Nat.zero_le _
        have ea : fAdd (.lst [tn T.name, tn st.group]) (.lst ((sisB Ts T st).map tn)) = some (.nl (([T.name, st.group] ++ sisB Ts T st).map tn)) := by
          rw [fAdd_lst (by rw [List.length_map]; simp; omega)]
          simp
        have ei := notIn_nrs T.group ([T.name, st.group] ++ sisB Ts T st)
        have st0 : standsB Ts T = (!decide (st.started ≤ lastI T.name) && (decide (T.group ∈ [T.name, st.group] ++ sisB Ts T st) && (!T.untold || (!runsB T.how && !endedB st.how)))) := by
          unfold standsB
          rw [if_neg hn, hf]
        rw [st0]
        generalize ([T.name, st.group] ++ sisB Ts T st) = L at ea ei
        have ei' : fNotInO (.tup (nrs T.group)) (.lst (L.map tn)) = some (.val (.bl (!decide (T.group ∈ L)))) := ei
        obtain ⟨x, x1, x2, x3⟩ := hT.h0
        obtain ⟨z, z1, z2, z3⟩ := hs.h0
        rw [x3, z2]
        by_cases hm : T.group ∈ L
        · cases hu : T.untold with
          | false => simp [g_stands_right, c_NAME, c_GROUP, c_UNTOLD, c_STARTED, hT.nm, hT.gr, hT.un, e1, el, ec, look_kn, hf, tp_non hs, hs.nm, hs.gr, hs.st, hl, es, ea, ei', hm, hu]
          | true =>
            by_cases hx : x = tRuns <;> simp [g_stands_right, c_NAME, c_GROUP, c_UNTOLD, c_STARTED, c_HOW, hT.nm, hT.gr, hT.un, hT.hw, e1, el, ec, look_kn, hf, tp_non hs, hs.nm, hs.gr, hs.st, hs.hw, hl, es, ea, ei', hm, hu, x1, z1, hx]
        · simp [g_stands_right, c_NAME, c_GROUP, c_UNTOLD, c_STARTED, hT.nm, hT.gr, hT.un, e1, el, ec, look_kn, hf, tp_non hs, hs.nm, hs.gr, hs.st, hl, es, ea, ei', hm]
end
end Bel

/-! Yards. -/
namespace Bel
open PySem PySem.Spec PyProof.Rows L2
theorem lexLt_irr : ∀ l : List Int, HT.lexLt l l = false
  | [] => rfl
  | a :: l => by rw [HT.lexLt_cons, if_pos rfl, lexLt_irr l]
theorem lexLt_tr : ∀ {l m r : List Int}, HT.lexLt l m = true → HT.lexLt m r = true → HT.lexLt l r = true
  | [], [], _, h, _ => by rw [HT.lexLt_nil_nil] at h; cases h
  | [], b :: m, [], _, h => by rw [HT.lexLt_cons_nil] at h; cases h
  | [], b :: m, c :: r, _, _ => rfl
  | a :: l, [], _, h, _ => by rw [HT.lexLt_cons_nil] at h; cases h
  | a :: l, b :: m, [], _, h => by rw [HT.lexLt_cons_nil] at h; cases h
  | a :: l, b :: m, c :: r, h, h2 => by
    rw [HT.lexLt_cons] at h h2 ⊢
    by_cases e1 : a = b
    · subst e1
      rw [if_pos rfl] at h
      by_cases e2 : a = c
      · rw [if_pos e2] at h2 ⊢
        exact lexLt_tr h h2
      · rw [if_neg e2] at h2 ⊢
        exact h2
    · rw [if_neg e1] at h
      have h := of_decide_eq_true h
      by_cases e2 : b = c
      · subst e2
        rw [if_neg e1]
        exact decide_eq_true h
      · rw [if_neg e2] at h2
        have h2 := of_decide_eq_true h2
        rw [if_neg (by omega)]
        exact decide_eq_true (by omega)
theorem rise_pw : ∀ {L : List (List Int)}, rise HT.lexLt L = true → L.Pairwise fun a b => HT.lexLt a b = true
  | [], _ => .nil
  | [a], _ => by simp
  | a :: b :: r, h => by
    rw [rise_two, Bool.and_eq_true] at h
    have ih := rise_pw h.2
    refine List.pairwise_cons.mpr ⟨fun x hx => ?_, ih⟩
    rcases List.mem_cons.mp hx with rfl | hx
    · exact h.1
    · exact lexLt_tr h.1 ((List.pairwise_cons.mp ih).1 x hx)
theorem rise_ndL {L : List (List Int)} (h : rise HT.lexLt L = true) : L.Nodup := (rise_pw h).imp fun {a b} z e => by
  subst e
  rw [lexLt_irr] at z
  cases z
theorem put_nw {k : List Int} {w : W} {acc : List (List Int × W)} (h : k ∉ acc.map (·.1)) : putT k w acc = acc ++ [(k, w)] := by
  unfold putT
  have : lookT k acc = none := by
    unfold lookT
    rw [List.find?_eq_none.mpr fun p hp => by
      simp only [decide_eq_true_eq]
      intro z
      exact h (z ▸ List.mem_map_of_mem hp)]
    rfl
  rw [this]
  simp
theorem mrg_nd : ∀ (l acc : List (List Int × W)), ((acc ++ l).map (·.1)).Nodup → mrgT acc l = acc ++ l
  | [], acc, _ => by simp [mrgT]
  | (k, v) :: l, acc, h => by
    have hk : k ∉ acc.map (·.1) := by
      rw [List.map_append, List.map_cons, List.nodup_append] at h
      intro z
      exact h.2.2 k z k (by simp) rfl
    show mrgT (putT k v acc) l = _
    rw [put_nw hk, mrg_nd l (acc ++ [(k, v)]) (by simpa using h)]
    simp
theorem pairs_kn : ∀ Ts : List Tp, pairsT (Ts.map fun T => .tup [tn T.name, T.w]) = some (knW Ts)
  | [] => rfl
  | T :: Ts => by
    rw [List.map_cons, pairsT, pairs_kn Ts, intsW_ints]
    rfl
/-- a yard, with its tasks' parts -/
def yardB (Ts : List Tp) (f : List Int) : Bool := rise HT.lexLt (Ts.map (·.name)) && (((findT Ts []).isSome && decide ((Ts.length : Int) = 1 + (Ts.map (·.started)).sum)) && (Ts.all (standsB Ts) && decide (f ∈ Ts.map (·.group))))
def yardW (B : Yb) : W → Bool
  | .tup [f, y, .tup ts] => tnW f && (btws 0 999 y && (ts.all (taskW B) && yardB (ts.map tpOf) (numsOf f)))
  | _ => false
section
variable {S : Store} {B : Yb} {f y : W} {ts : List W}
theorem yard3 (hk : okW (.tup [f, y, .tup ts]) = true) : g_is_yard [.v (.dct (B.map bw)), .v (.tup [f, y, .tup ts])] S = .ok (.v (.bl (tnW f && (btws 0 999 y && (ts.all (taskW B) && yardB (ts.map tpOf) (numsOf f)))))) S := by
  have ok : ∀ w ∈ [f, y, .tup ts], okW w = true := (ok_tup hk).2
  have of_ := ok f (by simp)
  have oy := ok y (by simp)
  have ot := ok (.tup ts) (by simp)
  obtain ⟨hl, ow⟩ := ok_tup ot
  have h2 : ts.length ≤ 16777216 := by omega
  refine fnD_rt [some (.v (.dct (B.map bw))), some (.v (.tup [f, y, .tup ts])), none, none] rfl ?_
  refine (chk (x := !tnW f) (by cases z : tnW f <;> simp [task_name_w of_, z])).trans ?_
  cases h1 : tnW f with
  | false => rfl
  | true =>
  rw [if_neg (by decide)]
  refine (chk (x := !btws 0 999 y) (by cases z : btws 0 999 y <;> simp [c_MOST_NUMBER, betweens_w oy, z])).trans ?_
  cases h3 : btws 0 999 y with
  | false => rfl
  | true =>
  rw [if_neg (by decide)]
  have c1 : lcL (tgN 3) dYes g_is_yard_e1 [some (.v (.dct (B.map bw))), some (.v (.tup [f, y, .tup ts])), none, none] ts S = .ok (ts.map fun w => W.bl (taskW B w)) S :=
    lcL_all fun w z => ⟨_, rfl, by simp [g_is_yard_e1, task_w (ow w z)]⟩
  by_cases h4 : ts.all (taskW B) = true
  · have tp : ∀ w ∈ ts, IsTp w (tpOf w) := fun w hw => tp_of (List.all_eq_true.mp h4 w hw)
    generalize hTs : ts.map tpOf = Ts
    have ets : ts = Ts.map (·.w) := by
      rw [← hTs, List.map_map]
      have : ts.map (fun w => w) = ts.map ((fun T : Tp => T.w) ∘ tpOf) := List.map_congr_left fun w hw => ((tp w hw).ww).symm
      rw [← this]; simp
    have hall : ∀ T ∈ Ts, IsTp T.w T := fun T hT => by
      rw [← hTs] at hT
      obtain ⟨w, hw, rfl⟩ := List.mem_map.mp hT
      have := tp w hw
      rw [this.ww]; exact this
    have lT : Ts.length = ts.length := by rw [← hTs, List.length_map]
    have c2 : lcL (tgN 3) dYes g_is_yard_e2 [some (.v (.dct (B.map bw))), some (.v (.tup [f, y, .tup ts])), none, none] (Ts.map (·.w)) S = .ok (Ts.map fun T => tn T.name) S :=
      lcL_map (fun T : Tp => T.w) (fun T => tn T.name) Ts fun T hT => ⟨_, rfl, by simp [g_is_yard_e2, c_NAME, (hall T hT).nm]⟩
    rw [← ets] at c2
    have hr := rising_w (S := S) tn HT.lexLt (fun a b => ltG_tup a b) false (Ts.map (·.name)) (by rw [List.length_map, lT]; exact hl)
    rw [List.map_map] at hr
    have hr : g_is_rising [.v (.lst (Ts.map fun T => tn T.name))] S = _ := hr
    refine (chk (x := !rise HT.lexLt (Ts.map (·.name))) (by simp [h2, c1, c2, wipeE, fAll_map, h4, hr])).trans ?_
    rw [h4]
    unfold yardB
    cases h5 : rise HT.lexLt (Ts.map (·.name)) with
    | false => rfl
    | true =>
    rw [if_neg (by decide)]
    have nd := rise_ndL h5
    have c3 : lcL (tgN 3) dYes g_is_yard_e3 [some (.v (.dct (B.map bw))), some (.v (.tup [f, y, .tup ts])), none, none] (Ts.map (·.w)) S = .ok (Ts.map fun T => .tup [tn T.name, T.w]) S :=
      lcL_map (fun T : Tp => T.w) (fun T => .tup [tn T.name, T.w]) Ts fun T hT => ⟨_, rfl, by simp [g_is_yard_e3, c_NAME, (hall T hT).nm]⟩
    rw [← ets] at c3
    have ek : mrgT [] (knW Ts) = knW Ts := mrg_nd (knW Ts) [] (by rw [List.nil_append, List.map_map]; exact nd)
    refine (asg_ (hE := rfl) (E := [some (.v (.dct (B.map bw))), some (.v (.tup [f, y, .tup ts])), some (.v (.tdc (knW Ts))), none]) (w := .tdc (knW Ts)) (by simp [h2, c3, wipeE, pairs_kn, ek])).trans ?_
    have c4 : ∀ x, lcL (tgN 3) dYes g_is_yard_e4 [some (.v (.dct (B.map bw))), some (.v (.tup [f, y, .tup ts])), x, none] (Ts.map (·.w)) S = .ok (nrs (Ts.map (·.started))) S := fun x => by
      have := lcL_map (t := tgN 3) (te := g_is_yard_e4) (env := [some (.v (.dct (B.map bw))), some (.v (.tup [f, y, .tup ts])), x, none]) (S := S) (fun T : Tp => T.w) (fun T => W.int T.started) Ts fun T hT => ⟨_, rfl, by simp [g_is_yard_e4, c_STARTED, (hall T hT).st]⟩
      rw [this]
      unfold nrs
      rw [List.map_map]; rfl
    have c5 : lcL (tgN 3) dYes g_is_yard_e5 [some (.v (.dct (B.map bw))), some (.v (.tup [f, y, .tup ts])), some (.v (.tdc (knW Ts))), none] (Ts.map (·.w)) S = .ok (Ts.map fun T => W.bl (standsB Ts T)) S :=
      lcL_map (fun T : Tp => T.w) (fun T => W.bl (standsB Ts T)) Ts fun T hT => ⟨_, rfl, by simp [g_is_yard_e5, stands_rt (hall T hT) hall]⟩
    have c6 : lcL (tgN 3) dYes g_is_yard_e6 [some (.v (.dct (B.map bw))), some (.v (.tup [f, y, .tup ts])), some (.v (.tdc (knW Ts))), none] (Ts.map (·.w)) S = .ok ((Ts.map (·.group)).map tn) S := by
      have := lcL_map (t := tgN 3) (te := g_is_yard_e6) (env := [some (.v (.dct (B.map bw))), some (.v (.tup [f, y, .tup ts])), some (.v (.tdc (knW Ts))), none]) (S := S) (fun T : Tp => T.w) (fun T => tn T.group) Ts fun T hT => ⟨_, rfl, by simp [g_is_yard_e6, c_GROUP, (hall T hT).gr]⟩
      rw [this, List.map_map]; rfl
    have c4 := c4 (some (.v (.tdc (knW Ts))))
    rw [← ets] at c4 c5 c6
    have e0 : fNotInT (.tup []) (.tdc (knW Ts)) = some (.val (.bl (!(findT Ts []).isSome))) := by
      have := notInT_ints [] (knW Ts)
      rw [look_kn, Option.isSome_map] at this
      exact this
    have l3 : (knW Ts).length ≤ 16777216 := by rw [List.length_map, lT]; exact h2
    have l4 : (knW Ts).length = Ts.length := List.length_map ..
    have l5 : Ts.length ≤ 16777216 := by rw [lT]; exact h2
    refine (chk (x := !((findT Ts []).isSome && decide ((Ts.length : Int) = 1 + (Ts.map (·.started)).sum))) (by cases z : (findT Ts []).isSome <;> simp [e0, z, l3, l4, l5, h2, c4, wipeE])).trans ?_
    cases h6 : ((findT Ts []).isSome && decide ((Ts.length : Int) = 1 + (Ts.map (·.started)).sum)) with
    | false => rfl
    | true =>
    rw [if_neg (by decide)]
    have ef := (tn_form h1).1
    have ei := inO_nrs (numsOf f) (Ts.map (·.group))
    have ei : fInO (.tup (nrs (numsOf f))) (.lst ((Ts.map (·.group)).map tn)) = _ := ei
    rw [← ef] at ei
    generalize Ts.map (·.group) = G at c6 ei ⊢
    cases h7 : Ts.all (standsB Ts) with
    | false => simp [h2, c5, wipeE, fAll_map, h7]
    | true => simp [h2, c5, c6, wipeE, fAll_map, h7, ei]
  · have h4 : ts.all (taskW B) = false := by simpa using h4
    refine (chk (x := true) (by simp [h2, c1, wipeE, fAll_map, h4])).trans ?_
    rw [h4]; rfl
end
end Bel

/-! Yards: is_yard of whatever is handed in. -/
namespace Bel
open PySem PySem.Spec PyProof.Rows L2
theorem yardW_len {B : Yb} {l : List W} (h : l.length ≠ 3) : yardW B (.tup l) = false := by
  unfold yardW
  split
  · rename_i e
    cases e
    exact absurd rfl h
  · rfl
theorem yardW_tup {B : Yb} {f y t : W} (h : isTup t = false) : yardW B (.tup [f, y, t]) = false := by
  cases t with
  | tup l => cases h
  | _ => rfl
section
variable {S : Store} {B : Yb}
theorem yard_w {w : W} (hk : okW w = true) : g_is_yard [.v (.dct (B.map bw)), .v w] S = .ok (.v (.bl (yardW B w))) S := by
  cases w with
  | tup l =>
    obtain ⟨hl, ok⟩ := ok_tup hk
    by_cases h3 : l.length = 3
    · match l, h3 with
      | [f, y, t], _ =>
        have of_ := ok f (by simp)
        have oy := ok y (by simp)
        have ot := ok_exc (ok t (by simp))
        cases ht : isTup t with
        | true =>
          cases t with
          | tup ts => exact yard3 hk
          | _ => cases ht
        | false =>
          rw [yardW_tup ht]
          refine fnD_rt [some (.v (.dct (B.map bw))), some (.v (.tup [f, y, t])), none, none] rfl ?_
          refine (chk (x := !tnW f) (by cases z : tnW f <;> simp [task_name_w of_, z])).trans ?_
          cases h1 : tnW f with
          | false => rfl
          | true =>
          rw [if_neg (by decide)]
          refine (chk (x := true) (by cases z : btws 0 999 y <;> simp [c_MOST_NUMBER, betweens_w oy, z, ht, ot])).trans ?_
          rw [if_pos rfl]
    · rw [yardW_len h3]
      have e : ¬ ((l.length : Int) = 3) := by omega
      refine fnD_rt [some (.v (.dct (B.map bw))), some (.v (.tup l)), none, none] rfl ?_
      refine (chk (x := true) (by simp [e])).trans ?_
      rw [if_pos rfl]
  | exc c => simp [okW] at hk
  | tdc c => simp [okW] at hk
  | kdc l =>
    refine fnD_rt [some (.v (.dct (B.map bw))), some (.v (.kdc l)), none, none] rfl ?_
    refine (chk (x := true) (by simp [isTup, isExc])).trans ?_
    rw [if_pos rfl]; rfl
  | _ =>
    refine fnD_rt [some (.v (.dct (B.map bw))), some (.v _), none, none] rfl ?_
    refine (chk (x := true) (by simp)).trans ?_
    rw [if_pos rfl]; rfl
end
end Bel

/-! The engine, part Oh: sorted(rows), by their first parts, tuples of numbers, no two alike. -/
namespace Bel
open PySem PySem.Spec PyProof.Rows L2
section
variable {P : Program} {w : World} {A : Around} {s : Shared}
/-- an object that starts with a tuple of these numbers -/
def RowAt (P : Program) (w : World) (h : Heap) (v : Value) (ks : List Int) : Prop := ∃ (a b : Addr) (o : Obj) (us : List Value) (n : Nat), v = .ref a ∧ h.get? a = some o ∧ o.cls = .type "tuple" ∧ o.data = .seq (Value.ref b :: us).toArray n ∧ IsTupleKey (intKind P w) h ks b ∧ ∃ its : List Value, IsTup h b its.toArray ∧ IntsAre its ks
theorem RowAt.keeps {h h' : Heap} {v : Value} {ks : List Int} (x : RowAt P w h v ks) (k : ∀ b o, h.get? b = some o → o.cls = .type "tuple" → h'.get? b = some o) : RowAt P w h' v ks := by
  obtain ⟨a, b, o, us, n, e, h1, h2, h3, ⟨o2, i2, n2, g1, g2, g3, g4⟩, its, ⟨o3, f1, f2, n3, f3⟩, hi⟩ := x
  exact ⟨a, b, o, us, n, e, k a o h1 h2, h2, h3, ⟨o2, i2, n2, k b o2 g1 g2, g2, g3, g4⟩, its, ⟨o3, k b o3 f1 f2, f2, n3, f3⟩, hi⟩
theorem lexLt_irr' : ∀ l : List Int, HT.lexLt l l = false
  | [] => rfl
  | a :: l => by rw [HT.lexLt_cons, if_pos rfl, lexLt_irr' l]
theorem eq_self {E : Value → Shared → Prop} {v : Value} {Q : Bool → Shared → Prop} (h : Q true s) : wpAny (model P w) A (eqBool v v) Q E s := by
  unfold eqBool
  refine wpAny_holding ?_
  show wpAny _ _ (if (v == v) = true then _ else _) Q E s
  rw [if_pos (by simp)]
  exact wpAny_bind (wpAny_rule (wpAny_pure h))
theorem kat_self {b : Bool} {Q : Bool → Shared → Prop} (h : Q false s) : ∀ (l : List Value) (i : Nat), PySem.W.KatLex P w A b false Q (l.zip l) i s
  | [], _ => PySem.W.kat_nil h
  | v :: l, i => PySem.W.kat_cons (eq_self (PySem.W.kat_yes (kat_self h l (i + 1))))
theorem row_cmp {vs : List Value} {k : Value → List Int} (hu : A.units < cLine) (hv : ∀ v ∈ vs, RowAt P w s.heap v (k v)) (inj : ∀ v ∈ vs, ∀ u ∈ vs, k v = k u → v = u) :
    SrtO.Cmp P w A s (tuples' false) (fun p => p.1 ∈ vs) (SrtO.lt2 fun v u => HT.lexLt (k v) (k u)) := by
  intro p q hp hq
  have h1 := hv p.1 hp
  have h2 := hv q.1 hq
  have h3 := inj p.1 hp q.1 hq
  show wpAny (model P w) A (keyLt' (tuples' false) p.1 q.1) (fun r s' => s' = s ∧ r = HT.lexLt (k p.1) (k q.1)) (fun _ _ => False) s
  obtain ⟨a, b, o, us, n, e, ho, hc, hd, hk, its, ht, hi⟩ := h1
  obtain ⟨a', b', o', us', n', e', ho', hc', hd', hk', its', ht', hi'⟩ := h2
  rw [e, e'] at h3
  rw [e] at hk hi
  rw [e'] at hk' hi'
  rw [e, e']
  refine PySem.W.kat_lt ho hd ho' hd' ?_
  refine PySem.W.kat_cons (wpAny_eqBool_tuple hu hk hk' ?_)
  refine PySem.W.kat_go (fun z => ?_) (fun z => ?_)
  · have z := of_decide_eq_true z
    have ev := h3 z
    injection ev with ea
    subst ea
    rw [ho] at ho'
    cases ho'
    rw [hd] at hd'
    injection hd' with hd' _
    have hd' : Value.ref b :: us = Value.ref b' :: us' := by simpa using hd'
    cases hd'
    refine PySem.W.kat_yes ?_
    have f : decide ((Value.ref b :: us).toArray.size < (Value.ref b :: us).toArray.size) = false := decide_eq_false (Nat.lt_irrefl _)
    rw [f]
    exact kat_self ⟨rfl, (lexLt_irr' _).symm⟩ us 1
  · exact PySem.W.kat_no (PySem.W.kat_one _ _ (HT.lt_tupInts ht ht' (by simpa using hi) (by simpa using hi') hu ⟨rfl, rfl⟩))
theorem row_firsts : ∀ {vs : List Value} {k : Value → List Int}, (∀ v ∈ vs, RowAt P w s.heap v (k v)) → ∃ fs : List Value, PySem.W.KatTups s.heap vs fs ∧ fs.length = vs.length ∧ ∀ f ∈ fs, ∃ (b : Addr) (o : Obj), f = .ref b ∧ s.heap.get? b = some o ∧ o.cls = .type "tuple"
  | [], _, _ => ⟨[], PySem.W.KatTups.nil, rfl, fun _ z => nomatch z⟩
  | v :: vs, k, h => by
    obtain ⟨fs, h1, h2, h3⟩ := row_firsts (vs := vs) (k := k) fun u hu => h u (List.mem_cons_of_mem _ hu)
    obtain ⟨a, b, o, us, n, rfl, ho, hc, hd, hk, its, ⟨o3, f1, f2, f3⟩, hi⟩ := h v List.mem_cons_self
    refine ⟨.ref b :: fs, PySem.W.KatTups.cons ho hc hd (by simp) h1, by simp [h2], fun f hf => ?_⟩
    rcases List.mem_cons.mp hf with rfl | hf
    · exact ⟨b, o3, rfl, f1, f2⟩
    · exact h3 f hf
theorem row_sortable {a : Addr} {vs : List Value} {k : Value → List Int} (h0 : 0 < vs.length) (hu : A.units < cLine) (hv : ∀ v ∈ vs, RowAt P w s.heap v (k v)) (inj : ∀ v ∈ vs, ∀ u ∈ vs, k v = k u → v = u) (ha : ∀ o, s.heap.get? a = some o → o.cls ≠ .type "tuple") :
    SrtO.SortableO P w A s a vs fun v u => HT.lexLt (k v) (k u) := by
  intro h' keep
  have hv' : ∀ v ∈ vs, RowAt P w h' v (k v) := fun v hm => (hv v hm).keeps fun b o e c => keep b o (fun z => by subst z; exact ha o e c) e
  obtain ⟨fs, h1, h2, h3⟩ := row_firsts (s := { s with heap := h' }) hv'
  refine ⟨tuples' false, fun Q E hq => ?_, row_cmp (s := { s with heap := h' }) hu hv' inj⟩
  refine PySem.W.kat_kind (T := .type "tuple") h1 (by omega) (fun f hm => ?_) (by rfl) ?_
  · obtain ⟨b, o, rfl, g1, g2⟩ := h3 f hm
    rw [← g2]
    exact (PySem.W.Looks.ld g1).andThen .now
  · have e : (Value.type "tuple" != Value.type "tuple") = false := by first | decide +kernel | rfl
    rw [e]
    exact hq
theorem sorted_rows {E : Value → Shared → Prop} {l : Addr} {vs : List Value} {k : Value → List Int} {Q : Value → Shared → Prop} (hu : A.units + 64 < cLine) (hl : s.heap.IsList l vs.toArray) (hz : vs.length ≤ sizeLine) (hv : ∀ v ∈ vs, RowAt P w s.heap v (k v)) (inj : ∀ v ∈ vs, ∀ u ∈ vs, k v = k u → v = u)
    (h : ∀ (h' : Heap) (d : Addr) (out : List Value), SrtO.Srtd (fun v u => HT.lexLt (k v) (k u)) out → SrtO.Stb (fun v u => HT.lexLt (k v) (k u)) out vs → (∀ b o, s.heap.get? b = some o → h'.get? b = some o) → s.heap.objs.size ≤ d → (∃ n, h'.get? d = some (seqObj "list" out.toArray n)) → Q (.ref d) { s with heap := h' }) :
    wpAny (model P w) A (call (.builtin "sorted") [.ref l]) Q E s := by
  refine SrtO.sorted_ord (NtL.swo_lexL k) hl hz (fun h2 h1 a ha kk => ?_) fun out hs hb => h _ _ out hs hb (fun b o e => sortedAll_old e) (Nat.le_succ _) (sortedAll_at s.heap vs out.toArray)
  refine row_sortable (s := { s with heap := h1 }) (by omega) (by show A.units + 1 + 1 < cLine; omega) (fun v hm => (hv v hm).keeps fun b o e _ => (kk b o e).2) inj fun o e c => ?_
  have e' : some o = some (seqObj "list" vs.toArray 0) := e.symm.trans ha
  cases e'
  exact absurd (Value.type.inj c) (by decide)
end
/-- sorted(rows) -/
def rSortN (K : PySem.W.Frag) : List V → Hp → VK → Prop := fun vs H Q => ∃ (a : Addr) (xs : List V) (k : V → List Int), vs = [V.ref a] ∧ SqL K H a xs ∧ (∀ x ∈ xs, ∃ (t b : Addr) (r : List V), x = V.ref t ∧ SqT K H t (.ref b :: r) ∧ SqT K H b ((k x).map V.int)) ∧ (∀ x ∈ xs, ∀ y ∈ xs, k x = k y → x = y) ∧
  ∀ ys p, ys.Perm xs → ys.Pairwise (fun x y => HT.lexLt (k y) (k x) = false) → H p = none → Q (.ref p) (upd H p (.lst ys))
theorem call_sortN {X : Cx} (hu : X.A.units + 65 < cLine) : CallR X (.builtin "sorted") (rSortN X.K) := by
  intro pins s σ H vs us Q I r h
  obtain ⟨a, xs, k, rfl, hs, hx, inj, q⟩ := h
  obtain ⟨its, rv, hl, hz⟩ := I.list hs
  obtain ⟨u, rfl, ru⟩ := vals1 r
  obtain rfl : u = Value.ref a := ru
  obtain ⟨e1, e2⟩ := refs_back rv fun x m => by
    obtain ⟨t, _, _, e, _⟩ := hx x m
    exact ⟨t, e⟩
  have mem : ∀ v ∈ its, backV v ∈ xs := fun v hv => by rw [e1]; exact List.mem_map_of_mem hv
  refine sorted_rows (k := fun u => k (backV u)) (by omega) hl.isList (by rw [← rv.length]; exact hz) (fun v hv => ?_) (fun v hv u hu z => ?_) fun h' d out h1 h2 kp hd hn => ?_
  · obtain ⟨t, b, rr, e, st, sb⟩ := hx _ (mem v hv)
    obtain ⟨t0, rfl⟩ := e2 v hv
    cases e
    obtain ⟨us, r1, ⟨o, g1, g2, n, g3⟩, _⟩ := I.tuple st
    cases r1 with
    | cons q1 q2 =>
      cases q1
      obtain ⟨is, r2, tp, _⟩ := I.tuple sb
      exact ⟨t, b, o, _, n, rfl, g1, g2, g3, I.isT sb, is, tp, by simpa using intsAre_of r2⟩
  · have := inj _ (mem v hv) _ (mem u hu) z
    obtain ⟨t, rfl⟩ := e2 v hv
    obtain ⟨t2, rfl⟩ := e2 u hu
    cases this
    rfl
  · have h3 : ∀ u ∈ out, ∃ a, u = Value.ref a := fun u hu => e2 u (h2.perm.mem_iff.mp hu)
    obtain ⟨n, hn⟩ := hn
    have pm : (out.map backV).Perm xs := by rw [e1]; exact h2.perm.map _
    refine ⟨.ref d, upd H d (.lst (out.map backV)), I.laid (t' := s.toks) kp hd ⟨?_, out, n, vals_back h3, hn⟩, rfl, q _ d pm ?_ (I.hok.fresh hd)⟩
    · rw [pm.length_eq]; exact hz
    · exact List.pairwise_map.mpr h1
end Bel

/-! The engine, part Oi: sorted(rows), as the engine reads it. -/
namespace Bel
open PySem PySem.Spec PyProof.Rows L2
def rSortZ (K : PySem.W.Frag) : List V → Hp → VK → Prop := fun vs H Q => ∃ (a : Addr) (ts : List (List Int × V)), vs = [V.ref a] ∧ SqL K H a (ts.map (·.2)) ∧ (∀ z ∈ ts, ∃ (p b : Addr) (r : List V), z.2 = V.ref p ∧ SqT K H p (.ref b :: r) ∧ SqT K H b (z.1.map V.int)) ∧ (ts.map (·.1)).Nodup ∧
  ∀ (ts' : List (List Int × V)) (p : Addr), ts'.Perm ts → ts'.Pairwise (fun x y => HT.lexLt y.1 x.1 = false) → H p = none → Q (.ref p) (upd H p (.lst (ts'.map (·.2))))
theorem int_inj : ∀ {l m : List Int}, l.map V.int = m.map V.int → l = m
  | [], [], _ => rfl
  | [], _ :: _, h => by cases h
  | _ :: _, [], h => by cases h
  | a :: l, b :: m, h => by
    injection h with h1 h2
    injection h1 with h1
    rw [h1, int_inj h2]
theorem call_sortZ {X : Cx} (hu : X.A.units + 65 < cLine) : CallR X (.builtin "sorted") (rSortZ X.K) := by
  intro pins s σ H vs us Q I r h
  obtain ⟨a, ts, rfl, hs, hz, nd, q⟩ := h
  have key : ∀ z ∈ ts, ∀ z' ∈ ts, z.2 = z'.2 → z.1 = z'.1 := fun z h1 z' h2 e => by
    obtain ⟨p, b, r, e1, s1, s2⟩ := hz z h1
    obtain ⟨p', b', r', e1', s1', s2'⟩ := hz z' h2
    rw [e1, e1'] at e
    cases e
    have := Inv.tuple_inj I s1 s1'
    injection this with e2 _
    injection e2 with e2
    subst e2
    exact int_inj (Inv.tuple_inj I s2 s2')
  classical
  let k : V → List Int := fun x => if h : ∃ z, z ∈ ts ∧ z.2 = x then (Classical.choose h).1 else []
  have hk : ∀ z ∈ ts, k z.2 = z.1 := fun z h1 => by
    have h : ∃ y, y ∈ ts ∧ y.2 = z.2 := ⟨z, h1, rfl⟩
    show (if h : ∃ y, y ∈ ts ∧ y.2 = z.2 then (Classical.choose h).1 else []) = z.1
    rw [dif_pos h]
    exact key _ (Classical.choose_spec h).1 z h1 (Classical.choose_spec h).2
  have back : ts.map (fun z => (k z.2, z.2)) = ts := by
    conv => rhs; rw [← List.map_id ts]
    exact List.map_congr_left fun z h1 => by rw [hk z h1]; rfl
  refine call_sortN hu pins s σ H _ us Q I r ⟨a, ts.map (·.2), k, rfl, hs, fun x hx => ?_, fun x hx y hy e => ?_, fun ys p pm pw hp => ?_⟩
  · obtain ⟨z, h1, rfl⟩ := List.mem_map.mp hx
    obtain ⟨p, b, r, e1, s1, s2⟩ := hz z h1
    exact ⟨p, b, r, e1, s1, by rw [hk z h1]; exact s2⟩
  · obtain ⟨z, h1, rfl⟩ := List.mem_map.mp hx
    obtain ⟨z', h2, rfl⟩ := List.mem_map.mp hy
    rw [hk z h1, hk z' h2] at e
    have pw : ts.Pairwise fun u v => u.1 ≠ v.1 := List.pairwise_map.mp nd
    have : z = z' := by
      by_cases hne : z = z'
      · exact hne
      · rcases List.pairwise_iff_getElem.mp pw with pw'
        obtain ⟨i, hi, rfl⟩ := List.mem_iff_getElem.mp h1
        obtain ⟨j, hj, rfl⟩ := List.mem_iff_getElem.mp h2
        rcases Nat.lt_trichotomy i j with l | l | l
        · exact absurd e (pw' i j hi hj l)
        · subst l; rfl
        · exact absurd e.symm (pw' j i hj hi l)
    rw [this]
  · have h1 := q (ys.map fun y => (k y, y)) p (by
      have := pm.map fun y => (k y, y)
      rw [List.map_map] at this
      have e2 : ts.map ((fun y => (k y, y)) ∘ fun z : List Int × V => z.2) = ts := back
      rw [e2] at this
      exact this) (List.pairwise_map.mpr pw) hp
    rw [List.map_map] at h1
    have e3 : ys.map ((fun z : List Int × V => z.2) ∘ fun y => (k y, y)) = ys := by
      show ys.map (fun y => y) = ys
      simp
    rw [e3] at h1
    exact h1
/-! ### as the engine reads it -/
def keyedW : List W → Option (List (List Int × W))
  | [] => some []
  | .tup (.tup l :: q) :: r => match intsW l, keyedW r with
    | some k, some zs => some ((k, .tup (.tup l :: q)) :: zs)
    | _, _ => none
  | _ => none
def leZ {α : Type} (x y : List Int × α) : Bool := !HT.lexLt y.1 x.1
def srtZ (zs : List (List Int × W)) : List (List Int × W) := zs.mergeSort leZ
def fSortN : List W → Option Out
  | [.lst l] => (keyedW l).bind fun zs => if (zs.map (·.1)).Nodup then some (.nl ((srtZ zs).map (·.2))) else none
  | _ => none
theorem leZ_tr {α : Type} (x y z : List Int × α) (h1 : leZ x y = true) (h2 : leZ y z = true) : leZ x z = true := by
  unfold leZ at h1 h2 ⊢
  simp only [Bool.not_eq_true'] at h1 h2 ⊢
  exact (NtL.swo_lexL (fun u : List Int => u)).tr x.1 y.1 z.1 h1 h2
theorem lex_tri : ∀ l m : List Int, HT.lexLt l m = false → HT.lexLt m l = false → l = m
  | [], [], _, _ => rfl
  | [], _ :: _, h, _ => by cases h
  | _ :: _, [], _, h => by cases h
  | a :: l, b :: m, h1, h2 => by
    rw [HT.lexLt_cons] at h1 h2
    by_cases e : a = b
    · subst e
      rw [if_pos rfl] at h1 h2
      rw [lex_tri l m h1 h2]
    · rw [if_neg e] at h1
      rw [if_neg fun z => e z.symm] at h2
      have h1 := of_decide_eq_false h1
      have h2 := of_decide_eq_false h2
      omega
theorem leZ_tot {α : Type} (x y : List Int × α) : (leZ x y || leZ y x) = true := by
  unfold leZ
  cases h : HT.lexLt y.1 x.1 with
  | false => rfl
  | true =>
    have := (NtL.swo_lexL (fun u : List Int => u)).asym y.1 x.1 h
    have this : HT.lexLt x.1 y.1 = false := this
    rw [this]; rfl
/-- a row: its numbers, itself, its value -/
abbrev Tz := List Int × W × V
def kw (t : Tz) : List Int × W := (t.1, t.2.1)
def kv (t : Tz) : List Int × V := (t.1, t.2.2)
theorem keyed_rp {F : Fx} {H : Hp} {O : Addr → Prop} : ∀ {l : List W} {vs : List V} {zs : List (List Int × W)}, RpL F H O l vs → keyedW l = some zs → ∃ T : List Tz, zs = T.map kw ∧ vs = T.map (fun t => t.2.2) ∧ l = T.map (fun t => t.2.1) ∧ (∀ t ∈ T, Rp F H O t.2.1 t.2.2 ∧ ∃ (p b : Addr) (r : List V), t.2.2 = V.ref p ∧ SqT F.K H p (.ref b :: r) ∧ SqT F.K H b (t.1.map V.int))
  | [], vs, zs, r, h => by
    cases h
    exact ⟨[], rfl, by rw [r.nil_iff]; rfl, rfl, fun _ z => nomatch z⟩
  | w :: l, vs, zs, r, h => by
    obtain ⟨v, vs', rfl, r1, r2⟩ := r.cons_iff
    unfold keyedW at h
    split at h
    · cases ‹_ = []›
    · rename_i lk q rest heq
      injection heq with e1 e2
      subst e1 e2
      split at h
      · rename_i k zs' hk hz
        cases h
        obtain ⟨T, rfl, rfl, rfl, hT⟩ := keyed_rp r2 hz
        obtain ⟨p, us, rfl, f1, rr⟩ := Rp.tup_inv r1
        obtain ⟨u1, us', rfl, q1, _⟩ := rr.cons_iff
        obtain ⟨b, rfl, sb, _⟩ := tup_ints q1 hk
        refine ⟨(k, _, V.ref p) :: T, rfl, rfl, rfl, fun t ht => ?_⟩
        rcases List.mem_cons.mp ht with rfl | ht
        · exact ⟨r1, p, b, us', rfl, f1.sq, sb⟩
        · exact hT t ht
      · cases h
    · cases h
theorem sort_kv {T : List Tz} {ts' : List (List Int × V)} (nd : (T.map fun t => t.1).Nodup) (pm : ts'.Perm (T.map kv)) (pw : ts'.Pairwise fun x y => HT.lexLt y.1 x.1 = false) : ts' = (T.mergeSort fun x y => leZ (kw x) (kw y)).map kv ∧ srtZ (T.map kw) = (T.mergeSort fun x y => leZ (kw x) (kw y)).map kw := by
  have p2 := List.mergeSort_perm T fun x y => leZ (kw x) (kw y)
  have s2 : (T.mergeSort fun x y => leZ (kw x) (kw y)).Pairwise fun x y => leZ (kw x) (kw y) = true := List.pairwise_mergeSort (le := fun x y => leZ (kw x) (kw y)) (fun x y z h1 h2 => leZ_tr (kw x) (kw y) (kw z) h1 h2) (fun x y => leZ_tot (kw x) (kw y)) T
  constructor
  · have nd2 : ((T.map kv).map (·.1)).Nodup := by rw [List.map_map]; exact nd
    have inj : ∀ x ∈ ts', ∀ y ∈ ts', x.1 = y.1 → x = y := fun x hx y hy e => by
      have pw := List.pairwise_map.mp nd2
      obtain ⟨i, hi, rfl⟩ := List.mem_iff_getElem.mp (pm.mem_iff.mp hx)
      obtain ⟨j, hj, rfl⟩ := List.mem_iff_getElem.mp (pm.mem_iff.mp hy)
      have pw' := List.pairwise_iff_getElem.mp pw
      rcases Nat.lt_trichotomy i j with l | l | l
      · exact absurd e (pw' i j hi hj l)
      · subst l; rfl
      · exact absurd e.symm (pw' j i hj hi l)
    have pm2 : ts'.Perm ((T.mergeSort fun x y => leZ (kw x) (kw y)).map kv) := pm.trans (p2.map kv).symm
    refine List.Perm.eq_of_pairwise (le := fun x y => HT.lexLt y.1 x.1 = false) (fun x y hx hy h1 h2 => inj x hx y (pm2.mem_iff.mpr hy) (lex_tri _ _ h2 h1)) pw (List.pairwise_map.mpr (s2.imp fun {x y} z => ?_)) pm2
    show HT.lexLt (kw y).1 (kw x).1 = false
    unfold leZ at z
    simpa using z
  · exact (List.map_mergeSort (r := fun x y => leZ (kw x) (kw y)) (s := leZ) (f := kw) (l := T) fun x _ y _ => rfl).symm
theorem oc_sortN {F : Fx} : OpC F fSortN (rSortZ F.K) := by
  refine oc1 (fun ws o e => ?_) fun H O x w o Q r e q => ?_
  · unfold fSortN at e
    split at e <;> first | exact ⟨_, rfl⟩ | cases e
  · cases w with
    | lst l =>
      obtain ⟨zs, hz, e⟩ := Option.bind_eq_some_iff.mp (show (keyedW l).bind _ = some o from e)
      split at e
      · rename_i nd
        cases some_inj e
        obtain ⟨a, vs, rfl, h1, rl⟩ := r
        obtain ⟨T, rfl, rfl, rfl, hT⟩ := keyed_rp rl hz
        have nd1 : (T.map fun t => t.1).Nodup := by rw [List.map_map] at nd; exact nd
        refine ⟨a, T.map kv, rfl, .inl (by rw [List.map_map]; exact h1), fun z hz => ?_, by rw [List.map_map]; exact nd1, fun ts' p pm pw hp => ?_⟩
        · obtain ⟨t, ht, rfl⟩ := List.mem_map.mp hz
          exact (hT t ht).2
        · obtain ⟨e1, e2⟩ := sort_kv nd1 pm pw
          rw [e1, List.map_map]
          rw [e2, List.map_map] at q
          have mem : ∀ t ∈ T.mergeSort fun x y => leZ (kw x) (kw y), t ∈ T := fun t ht => (List.mergeSort_perm T _).mem_iff.mp ht
          generalize (T.mergeSort fun x y => leZ (kw x) (kw y)) = U at q mem ⊢
          refine q p _ hp ⟨by simp, fun i w v hw hv => ?_⟩
          rw [List.getElem?_map] at hw hv
          cases hU : U[i]? with
          | none => rw [hU] at hw; cases hw
          | some t =>
            rw [hU] at hw hv
            cases some_inj hw
            cases some_inj hv
            exact (hT t (mem t (List.mem_of_getElem? hU))).1
      · cases e
    | _ => cases e
end Bel

/-! The engine, part Oj: [f, g, h][i](x), three defs of the module. -/
namespace Bel
open PySem PySem.Spec PyProof.Rows L2
def dPick3 (f g h : DF) (i : DE) (das : DA) : DE := fun e S => (i e S).bind fun u S1 => match u with
  | .v (.int z) => if z = 0 then dFn f 1 das e S1 else if z = 1 then dFn g 1 das e S1 else if z = 2 then dFn h 1 das e S1 else .no
  | _ => .no
section
variable {ec : Nat → Value} {X : Cx} {ie a : Expr} {di : DE} {das : DA} {p0 p1 p2 lp sp pos : Pos}
theorem ev_pick3 {x0 x1 x2 : Str} {k0 k1 k2 : Nat} {d0 d1 d2 : DF} (h0 : HasG X.prog X.w X.K X.mg X.base ec x0 k0 1 d0) (h1 : HasG X.prog X.w X.K X.mg X.base ec x1 k1 1 d1) (h2 : HasG X.prog X.w X.K X.mg X.base ec x2 k2 1 d2)
    (r0 : RoomG k0 X.A) (r1 : RoomG k1 X.A) (r2 : RoomG k2 X.A) (g0 : Gl X x0) (g1 : Gl X x1) (g2 : Gl X x2) (hi : PEv ec X ie di) (ha : PAv ec X [a] das)
    (b0 : (x0 == ("__debug__" : Str)) = false := by decide) (b1 : (x1 == ("__debug__" : Str)) = false := by decide) (b2 : (x2 == ("__debug__" : Str)) = false := by decide)
    (q0 : starEach [.Name x0 p0, .Name x1 p1, .Name x2 p2] X.env = (false, eval (.Name x0 p0) X.env) :: starEach [.Name x1 p1, .Name x2 p2] X.env := by rfl)
    (q1 : starEach [.Name x1 p1, .Name x2 p2] X.env = (false, eval (.Name x1 p1) X.env) :: starEach [.Name x2 p2] X.env := by rfl) (q2 : starEach [.Name x2 p2] X.env = (false, eval (.Name x2 p2) X.env) :: starEach [] X.env := by rfl)
    (hs : PlainIx ie := by exact fun _ _ => rfl) (he : starEach [a] X.env = (false, eval a X.env) :: starEach [] X.env := by rfl)
    (ht : eval (.Call (.Subscript (.List [.Name x0 p0, .Name x1 p1, .Name x2 p2] lp) ie sp) [a] [] pos) X.env = (do callWith pos (← eval (.Subscript (.List [.Name x0 p0, .Name x1 p1, .Name x2 p2] lp) ie sp) X.env) [] (backTo pos (starEach [a] X.env)) (backToKw pos (keywordEach [] X.env))) := by rfl) :
    PEv ec X (.Call (.Subscript (.List [.Name x0 p0, .Name x1 p1, .Name x2 p2] lp) ie sp) [a] [] pos) (dPick3 d0 d1 d2 di das) := by
  obtain ⟨f0, fd0, ps0, F0, m0, kk0, bb0⟩ := h0
  obtain ⟨f1, fd1, ps1, F1, m1, kk1, bb1⟩ := h1
  obtain ⟨f2, fd2, ps2, F2, m2, kk2, bb2⟩ := h2
  refine ⟨fun pn xe Wx tk => ⟨fun pins s σ H Q I h => ?_⟩⟩
  obtain ⟨env, S, ι, B, R, E, h⟩ := h
  have PL := pe_ix (X := X.tr pn xe) (ix_list (X := X.tr pn xe)) (pe_lst (X := X.tr pn xe) (pos := lp) (pa_cons (X := X.tr pn xe) (pe_glob (X := X.tr pn xe) (v := .ref f0) (pos := p0) g0 m0 rfl b0) (pa_cons (X := X.tr pn xe) (pe_glob (X := X.tr pn xe) (v := .ref f1) (pos := p1) g1 m1 rfl b1) (pa_cons (X := X.tr pn xe) (pe_glob (X := X.tr pn xe) (v := .ref f2) (pos := p2) g2 m2 rfl b2) pa_nil q2) q1) q0)) (hi.run pn xe Wx tk) (pos := sp) hs
  let Qf : VK := fun y H1 => (y = .ref f0 ∧ LE (fx ec X) Wx (dFn d0 1 das) σ H1 Q) ∨ (y = .ref f1 ∧ LE (fx ec X) Wx (dFn d1 1 das) σ H1 Q) ∨ (y = .ref f2 ∧ LE (fx ec X) Wx (dFn d2 1 das) σ H1 Q)
  have run : ∀ {f : Addr} {fd : FuncData} {ps : List Str} {k : Nat} {d : DF} {s1 : Shared} {H1 : Hp}, FnG X.prog X.w X.K X.mg X.base k f fd ps (spD ⟨X.K, X.w, ec⟩ d 1) → RoomG k X.A → PySem.W.keepIn X.K (.ref f) = true → Binds X.K fd ps [] → L2.Inv (X.tr pn xe) pins σ H1 s1 → LE (fx ec X) Wx (dFn d 1 das) σ H1 Q →
      wpAny (model X.prog X.w) X.A (callWith pos (.ref f) [] (backTo pos (starEach [a] X.env)) []) (EP (X.tr pn xe) pins σ Q) (X.tr pn xe).xe s1 := fun F hr hk hb I1 q => by
    apply PySem.W.callWith_K (h₀ := X.base) I1.ok.mod.kin hk _ he (by rfl)
    apply thn ((ha.run pn xe Wx tk).run pos pins _ σ _ _ I1 (fn_reads q))
    rintro us s2 ⟨xs, H2, I2, r, q2⟩
    exact ⟨I2.kIn, call_G (X := X.tr pn xe) F hr hb (passAt tk σ) I2 r q2⟩
  refine Call_ (thn (PL.run pins s σ H Qf I ?_) fun u s1 q => ?_) ht
  · refine ⟨by rw [sizeLine_is]; simp, fun p hp => ?_⟩
    obtain ⟨R1, G1, n1⟩ := R.fresh (.lst [.ref f0, .ref f1, .ref f2]) hp
    refine LE.then_ R1 (E.go G1) (h.go G1) fun u S1 v H2 ι2 G2 R2 E2 ru h2 => ?_
    split at h2
    · rename_i z
      have hz := Rp.int_inv ru
      have at_ : H2 p = some (.lst [.ref f0, .ref f1, .ref f2]) := G2.ext p _ upd_same fun y => n1 (.inl y)
      split at h2
      · rename_i e; subst e
        exact ⟨p, _, 0, .ref f0, rfl, hz, .inl (.inl at_), rfl, .inl ⟨rfl, env, S1, ι2, B, R2, E2, h2⟩⟩
      · split at h2
        · rename_i e; subst e
          exact ⟨p, _, 1, .ref f1, rfl, hz, .inl (.inl at_), rfl, .inr (.inl ⟨rfl, env, S1, ι2, B, R2, E2, h2⟩)⟩
        · split at h2
          · rename_i e; subst e
            exact ⟨p, _, 2, .ref f2, rfl, hz, .inl (.inl at_), rfl, .inr (.inr ⟨rfl, env, S1, ι2, B, R2, E2, h2⟩)⟩
          · exact h2.elim
    · exact h2.elim
  · obtain ⟨y, H1, I1, ry, q⟩ := q
    rcases q with ⟨rfl, q⟩ | ⟨rfl, q⟩ | ⟨rfl, q⟩
    · cases ry; exact run F0 r0 kk0 bb0 I1 q
    · cases ry; exact run F1 r1 kk1 bb1 I1 q
    · cases ry; exact run F2 r2 kk2 bb2 I1 q
end
end Bel

/-! the law's mirrors -/
namespace BelLaw
open PySem PySem.Spec PyProof.Rows L2 Bel
def c_BELLS_words : W := .tup [.str [107, 105, 108, 108], .str [104, 97, 108, 116], .str [115, 116, 111, 112], .str [104, 97, 110, 103], .str [101, 110, 100], .str [119, 97, 107, 101], .str [103, 111], .str [100, 111, 110, 101]]
def m__law_task : DF := fnD 6
    (dRet (dDisp false .nt (dCons (dVar 0) (dCons (dVar 1) (dCons (dVar 2) (dCons (dVar 3) (dCons (dDisp false .nt dNil) (dCons (dVar 4) (dCons (dC (.bl false)) (dCons (dDisp false .nt dNil) (dCons (dDisp false .nt dNil) (dCons (dDisp false .nt dNil) (dCons (dDisp false .nt dNil) (dCons (dVar 5) (dCons (dDisp false .nt dNil) dNil)))))))))))))))
def m__law_with : DF := fnD 4
    (dSeq (dAsg 3 (dFn m__law_task 6 (dCons (dDisp false .nt dNil) (dCons (dDisp false .nt dNil) (dCons (dC (.str [109, 105, 100])) (dCons (dC (.int 0)) (dCons (dDisp false .nt (dCons (dC (.str [114, 117, 110, 115])) dNil)) (dCons (dC (.int 0)) dNil))))))))
    (dRet (dDisp false .nt (dCons (dDisp false .nt dNil) (dCons (dDisp false .nt dNil) (dCons (dDisp false .nt (dCons (dBin false fAdd (dBin false fAdd (dSl false (dVar 3) dNoPart (dPart (dVar 0))) (dDisp false .nt (dCons (dVar 1) dNil))) (dSl false (dVar 3) (dPart (dBin false fAdd (dVar 0) (dC (.int 1)))) dNoPart)) dNil)) dNil))))))
def m__law_number : DF := fnD 5
    (dSeq (dAsg 2 (dFn g__law_pick 2 (dCons (dVar 0) (dCons (dDisp false .nl (dCons (dC (.int 0)) (dCons (dC (.int 1)) (dCons (dC (.int 2)) (dCons (dC (.int 5)) (dCons (dC (.int 6)) (dCons (dC (.int 7)) (dCons (dC (.int 8)) (dCons (dC (.int 9)) (dCons (dC (.int 98)) (dCons (dC (.int 99)) (dCons (dC (.int 100)) (dCons (dC (.int 101)) (dCons (dC (.int 102)) (dCons (dC (.int 103)) (dCons (dC (.int 104)) (dCons (dC (.int 105)) (dCons (dC (.int 106)) (dCons (dC (.int 107)) (dCons (dC (.int 998)) (dCons (dC (.int 999)) (dCons (dC (.int 1000)) dNil)))))))))))))))))))))) dNil))))
    (dSeq (dAsg 3 (dFn g__law_next 2 (dCons (dVar 0) (dCons (dC (.int 9)) dNil))))
    (dSeq (dIfS (dT (dBin false fEq (dVar 3) (dC (.int 0)))) (dRet (dDisp false .nt (dCons (dFn m__law_with 3 (dCons (dC (.int 5)) (dCons (dDisp false .nt (dCons (dC (.str [101, 110, 100, 101, 100])) (dCons (dVar 2) dNil))) (dCons (dVar 1) dNil)))) (dCons ((dOrV (dBin false (fCmp fun i j => decide (i < j)) (dVar 2) (dC (.int 101))) (dBin false fInO (dVar 2) (dDisp false .nt (dCons (dC (.int 103)) (dCons (dC (.int 104)) (dCons (dC (.int 105)) dNil))))))) dNil)))) dNext)
    (dSeq (dIfS (dT (dBin false fEq (dVar 3) (dC (.int 1)))) (dRet (dDisp false .nt (dCons (dFn m__law_with 3 (dCons (dC (.int 12)) (dCons (dDisp false .nt (dCons (dVar 2) (dCons (dC (.int 0)) dNil))) (dCons (dVar 1) dNil)))) (dCons (dBin false (fCmp fun i j => decide (i < j)) (dVar 2) (dC (.int 1000))) dNil)))) dNext)
    (dSeq (dIfS (dT (dBin false fEq (dVar 3) (dC (.int 2)))) (dRet (dDisp false .nt (dCons (dFn m__law_with 3 (dCons (dC (.int 4)) (dCons (dDisp false .nt (dCons (dDisp false .nt (dCons (dC (.str [120])) (dCons (dVar 2) dNil))) dNil)) (dCons (dVar 1) dNil)))) (dCons (dChain (fCmp fun i j => decide (i < j)) (fCmp fun i j => decide (i < j)) (dC (.int 0)) (dVar 2) (dC (.int 1000))) dNil)))) dNext)
    (dSeq (dIfS (dT (dBin false fEq (dVar 3) (dC (.int 3)))) (dRet (dDisp false .nt (dCons (dDisp false .nt (dCons (dDisp false .nt dNil) (dCons (dDisp false .nt (dCons (dVar 2) dNil)) (dCons (dBin false fIx (dFn m__law_with 3 (dCons (dC (.int 3)) (dCons (dC (.int 0)) (dCons (dVar 1) dNil)))) (dC (.int 2))) dNil)))) (dCons (dBin false (fCmp fun i j => decide (i < j)) (dVar 2) (dC (.int 1000))) dNil)))) dNext)
    (dSeq (dIfS (dT (dBin false fEq (dVar 3) (dC (.int 4)))) (dRet (dDisp false .nt (dCons (dFn m__law_with 3 (dCons (dC (.int 7)) (dCons (dDisp false .nt (dCons (dVar 2) dNil)) (dCons (dVar 1) dNil)))) (dCons (dBin false (fCmp fun i j => decide (i < j)) (dVar 2) (dC (.int 6))) dNil)))) dNext)
    (dSeq (dIfS (dT (dBin false fEq (dVar 3) (dC (.int 5)))) (dRet (dDisp false .nt (dCons (dFn m__law_with 3 (dCons (dC (.int 8)) (dCons (dDisp false .nt (dCons (dVar 2) dNil)) (dCons (dVar 1) dNil)))) (dCons (dChain (fCmp fun i j => decide (i < j)) (fCmp fun i j => decide (i < j)) (dC (.int 1)) (dVar 2) (dC (.int 8))) dNil)))) dNext)
    (dSeq (dIfS (dT (dBin false fEq (dVar 3) (dC (.int 6)))) (dSeq (dAsg 4 (dFn g__law_pick 2 (dCons (dVar 0) (dCons (dDisp false .nl (dCons (dNeg (dC (.int 2))) (dCons (dNeg (dC (.int 1))) (dCons (dC (.int 0)) (dCons (dVar 1) (dCons (dBin false fAdd (dVar 1) (dC (.int 1))) dNil)))))) dNil))))
    (dRet (dDisp false .nt (dCons (dFn m__law_with 3 (dCons (dC (.int 9)) (dCons (dDisp false .nt (dCons (dDisp false .nt (dCons (dVar 2) (dCons (dVar 4) dNil))) dNil)) (dCons (dVar 1) dNil)))) (dCons ((dAndV (dChain (fCmp fun i j => decide (i < j)) (fCmp fun i j => decide (i < j)) (dC (.int 1)) (dVar 2) (dC (.int 8))) (dChain (fCmp fun i j => decide (i ≤ j)) (fCmp fun i j => decide (i ≤ j)) (dNeg (dC (.int 1))) (dVar 4) (dVar 1)))) dNil))))) dNext)
    (dSeq (dIfS (dT (dBin false fEq (dVar 3) (dC (.int 7)))) (dSeq (dAsg 4 (dFn g__law_pick 2 (dCons (dVar 0) (dCons (dDisp false .nl (dCons (dNeg (dC (.int 1))) (dCons (dC (.int 0)) (dCons (dVar 1) (dCons (dBin false fAdd (dVar 1) (dC (.int 1))) dNil))))) dNil))))
    (dRet (dDisp false .nt (dCons (dFn m__law_with 3 (dCons (dC (.int 10)) (dCons (dDisp false .nt (dCons (dDisp false .nt (dCons (dVar 4) (dCons (dVar 2) dNil))) dNil)) (dCons (dVar 1) dNil)))) (dCons ((dAndV (dChain (fCmp fun i j => decide (i < j)) (fCmp fun i j => decide (i < j)) (dC (.int 1)) (dVar 2) (dC (.int 8))) (dChain (fCmp fun i j => decide (i ≤ j)) (fCmp fun i j => decide (i ≤ j)) (dC (.int 0)) (dVar 4) (dVar 1)))) dNil))))) dNext)
    (dSeq (dAsg 4 (dFn g__law_pick 2 (dCons (dVar 0) (dCons (dDisp false .nl (dCons (dNeg (dC (.int 1))) (dCons (dC (.int 0)) (dCons (dVar 1) (dCons (dBin false fAdd (dVar 1) (dC (.int 1))) dNil))))) dNil))))
    (dRet (dDisp false .nt (dCons (dFn m__law_with 3 (dCons (dC (.int 3)) (dCons (dVar 4) (dCons (dVar 1) dNil)))) (dCons (dChain (fCmp fun i j => decide (i ≤ j)) (fCmp fun i j => decide (i ≤ j)) (dC (.int 0)) (dVar 4) (dVar 1)) dNil)))))))))))))))
def m__law_wide_e1 : DE := (dFn m__law_task 6 (dCons (dDisp false .nt (dCons (dVar 5) dNil)) (dCons (dBin false fIx (dDisp false .nl (dCons (dDisp false .nt dNil) (dCons (dDisp false .nt (dCons (dVar 5) dNil)) dNil))) (dFn g__law_next 2 (dCons (dVar 0) (dCons (dC (.int 2)) dNil)))) (dCons (dC (.str [109, 105, 100])) (dCons (dC (.int 0)) (dCons (dDisp false .nt (dCons (dC (.str [114, 117, 110, 115])) dNil)) (dCons (dC (.int 0)) dNil)))))))
def m__law_wide : DF := fnD 6
    (dSeq (dAsg 1 (dFn g__law_next 2 (dCons (dVar 0) (dCons (dC (.int 33)) dNil))))
    (dSeq (dAsg 2 (dFn g__law_pick 2 (dCons (dVar 0) (dCons (dDisp false .nl (dCons (dC (.str [109, 105, 100])) (dCons (dC (.str [])) dNil))) dNil))))
    (dSeq (dAsg 3 (dLc false (dRng1 (dVar 1)) (tgN 5) dYes m__law_wide_e1 [5]))
    (dSeq (dAsg 4 (dDisp false .nt (dCons (dDisp false .nt dNil) (dCons (dDisp false .nt dNil) (dCons (dCall false fTuple (dCons (dBin false fAdd (dDisp false .nl (dCons (dFn m__law_task 6 (dCons (dDisp false .nt dNil) (dCons (dDisp false .nt dNil) (dCons (dVar 2) (dCons (dC (.int 0)) (dCons (dDisp false .nt (dCons (dC (.str [114, 117, 110, 115])) dNil)) (dCons (dVar 1) dNil))))))) dNil)) (dVar 3)) dNil)) dNil)))))
    (dRet (dDisp false .nt (dCons (dVar 4) (dCons (dBin false (fCmp fun i j => decide (i ≤ j)) (dVar 1) (dBin false fIx (dDisp false .nl (dCons (dC (.int 9)) (dCons (dC (.int 30)) dNil))) (dCall false fIntW (dCons (dBin false fEq (dVar 2) (dC (.str []))) dNil)))) dNil))))))))
def m__law_deep_e1 : DE := (dFn m__law_task 6 (dCons (dBin false fAdd (dVar 5) (dDisp false .nt (dCons (dVar 7) dNil))) (dCons (dDisp false .nt dNil) (dCons (dC (.str [109, 105, 100])) (dCons (dC (.int 0)) (dCons (dDisp false .nt (dCons (dC (.str [114, 117, 110, 115])) dNil)) (dCons (dC (.int 0)) dNil)))))))
def m__law_deep_t2 : DT := (dT (dBin false (fCmp fun i j => decide (i < j)) (dVar 4) (dVar 1)))
def m__law_deep_b3 : DS := (dSeq (dAsg 5 (dCall false fTuple (dCons (dMulL false (dDisp false .nl (dCons (dVar 2) dNil)) (dVar 4)) dNil)))
    (dSeq (dAsg 6 (dLc false (dRng1 (dVar 2)) (tgN 7) m__law_deep_t2 m__law_deep_e1 [7]))
    (dAsg 3 (dBin false fAdd (dBin false fAdd (dVar 3) (dDisp false .nl (dCons (dFn m__law_task 6 (dCons (dVar 5) (dCons (dDisp false .nt dNil) (dCons (dC (.str [109, 105, 100])) (dCons (dC (.int 0)) (dCons (dDisp false .nt (dCons (dC (.str [114, 117, 110, 115])) dNil)) (dCons (dBin false fMul (dBin false fAdd (dVar 2) (dC (.int 1))) (dCall false fIntW (dCons (dBin false (fCmp fun i j => decide (i < j)) (dVar 4) (dVar 1)) dNil))) dNil))))))) dNil))) (dVar 6)))))
def m__law_deep : DF := fnD 8
    (dSeq (dAsg 1 (dFn g__law_next 2 (dCons (dVar 0) (dCons (dC (.int 6)) dNil))))
    (dSeq (dAsg 2 (dFn g__law_next 2 (dCons (dVar 0) (dCons (dC (.int 9)) dNil))))
    (dSeq (dAsg 3 (dDisp false .nl dNil))
    (dSeq (dFor (dRng1 (dBin false fAdd (dVar 1) (dC (.int 1)))) (tgN 4) m__law_deep_b3)
    (dRet (dDisp false .nt (dCons (dDisp false .nt (dCons (dDisp false .nt dNil) (dCons (dDisp false .nt dNil) (dCons (dCall false fTuple (dCons (dCall false fSortN (dCons (dVar 3) dNil)) dNil)) dNil)))) (dCons (dBin false (fCmp fun i j => decide (i < j)) (dVar 1) (dC (.int 5))) dNil))))))))
def m__law_sisters_e1 : DE := (dFn g__law_pick 2 (dCons (dVar 0) (dCons (dVar 2) dNil)))
def m__law_sisters_e2 : DE := (dFn m__law_task 6 (dCons (dDisp false .nt (dCons (dVar 6) dNil)) (dCons (dBin false fIx (dVar 3) (dVar 6)) (dCons (dC (.str [109, 105, 100])) (dCons (dC (.int 0)) (dCons (dDisp false .nt (dCons (dC (.str [114, 117, 110, 115])) dNil)) (dCons (dC (.int 0)) dNil)))))))
def m__law_sisters_e3 : DE := (dDisp false .nt (dCons (dVar 8) dNil))
def m__law_sisters_t4 : DT := (dAnd (dT (dBin false fEq (dBin false fIx (dVar 3) (dVar 8)) (dDisp false .nt (dCons (dVar 8) dNil)))) (dT (dBin false fEq (dVar 1) (dC (.str [])))))
def m__law_sisters_b5 : DS := (dSeq (dAsg 7 (dLc false (dRng1 (dVar 6)) (tgN 8) m__law_sisters_t4 m__law_sisters_e3 [8]))
    (dAsg 5 ((dAndV (dVar 5) (dBin false fInO (dBin false fIx (dVar 3) (dVar 6)) (dBin false fAdd (dDisp false .nl (dCons (dDisp false .nt dNil) (dCons (dDisp false .nt (dCons (dVar 6) dNil)) dNil))) (dVar 7)))))))
def m__law_sisters : DF := fnD 9
    (dSeq (dAsg 1 (dFn g__law_pick 2 (dCons (dVar 0) (dCons (dDisp false .nl (dCons (dC (.str [109, 105, 100])) (dCons (dC (.str [])) dNil))) dNil))))
    (dSeq (dAsg 2 (dDisp false .nl (dCons (dDisp false .nt dNil) (dCons (dDisp false .nt (dCons (dC (.int 0)) dNil)) (dCons (dDisp false .nt (dCons (dC (.int 1)) dNil)) (dCons (dDisp false .nt (dCons (dC (.int 2)) dNil)) (dCons (dDisp false .nt (dCons (dC (.int 3)) dNil)) (dCons (dDisp false .nt (dCons (dC (.int 0)) (dCons (dC (.int 0)) dNil))) (dCons (dDisp false .nt (dCons (dC (.int 2)) (dCons (dC (.int 2)) dNil))) dNil)))))))))
    (dSeq (dAsg 3 (dLc false (dRng1 (dC (.int 3))) (tgN 6) dYes m__law_sisters_e1 [6]))
    (dSeq (dAsg 4 (dLc false (dRng1 (dC (.int 3))) (tgN 6) dYes m__law_sisters_e2 [6]))
    (dSeq (dAsg 5 (dC (.bl true)))
    (dSeq (dFor (dRng1 (dC (.int 3))) (tgN 6) m__law_sisters_b5)
    (dRet (dDisp false .nt (dCons (dDisp false .nt (dCons (dDisp false .nt dNil) (dCons (dDisp false .nt dNil) (dCons (dCall false fTuple (dCons (dBin false fAdd (dDisp false .nl (dCons (dFn m__law_task 6 (dCons (dDisp false .nt dNil) (dCons (dDisp false .nt dNil) (dCons (dVar 1) (dCons (dC (.int 0)) (dCons (dDisp false .nt (dCons (dC (.str [114, 117, 110, 115])) dNil)) (dCons (dC (.int 3)) dNil))))))) dNil)) (dVar 4)) dNil)) dNil)))) (dCons (dVar 5) dNil))))))))))
def m_law_b1 : DS := (dSeq (dAsg 2 (dFn g__law_state 2 (dCons (dVar 0) (dCons (dVar 1) dNil))))
    (dSeq (dAsg 3 (dFn g__law_pick 2 (dCons (dVar 2) (dCons (dDisp false .nl (dCons (dC (.int 0)) (dCons (dC (.int 1)) (dCons (dC (.int 2)) (dCons (dC (.int 5)) (dCons (dC (.int 29)) (dCons (dC (.int 30)) dNil))))))) dNil))))
    (dSeq (dAsg 4 (dDct false (((dC (.str [109, 105, 100])), (dCall false fTuple (dCons (dMulL false (dDisp false .nl (dCons (dDisp false .nt (dCons (dC (.str [114, 101, 115, 116])) dNil)) dNil)) (dVar 3)) dNil))) :: [])))
    (dSeq (dAsg 5 (dFn g__law_next 2 (dCons (dVar 2) (dCons (dC (.int 6)) dNil))))
    (dSeq (dIfS (dT (dBin false (fCmp fun i j => decide (i < j)) (dVar 5) (dC (.int 3)))) (dAsgT (tgT 2 (tgs1 (tgN 7) (tgs1 (tgN 8) tgs0))) (dPick3 m__law_wide m__law_deep m__law_sisters (dVar 5) (dCons (dVar 2) dNil))) (dAsgT (tgT 2 (tgs1 (tgN 7) (tgs1 (tgN 8) tgs0))) (dFn m__law_number 2 (dCons (dVar 2) (dCons (dVar 3) dNil)))))
    (dSeq (dAsg 6 (dFn g_is_yard 2 (dCons (dVar 4) (dCons (dVar 7) dNil))))
    (dIfS (dOr (dNot (dT (dIsT isBl (dVar 6)))) (dT (dBin false fNe (dVar 6) (dVar 8)))) (dRet (dC (.bl false))) dNext)))))))
def m_law : DF := fnD 9
    (dSeq (dFor (dRng1 (dC (.int 16))) (tgN 1) m_law_b1)
    (dRet (dC (.bl true))))
end BelLaw

/-! Yards: what can be reckoned out by decide; plain tasks; drawn comprehensions. -/
namespace Bel
open PySem PySem.Spec PyProof.Rows L2
def insI (x : Int) : List Int → List Int
  | [] => [x]
  | y :: r => if x ≤ y then x :: y :: r else y :: insI x r
def isrt : List Int → List Int
  | [] => []
  | x :: r => insI x (isrt r)
theorem insI_perm (x : Int) : ∀ l, (insI x l).Perm (x :: l)
  | [] => .refl _
  | y :: r => by
    unfold insI
    split
    · exact .refl _
    · exact ((insI_perm x r).cons y).trans (.swap ..)
theorem isrt_perm : ∀ l, (isrt l).Perm l
  | [] => .refl _
  | x :: r => (insI_perm x (isrt r)).trans ((isrt_perm r).cons x)
theorem insI_sorted (x : Int) : ∀ l : List Int, l.Pairwise (· ≤ ·) → (insI x l).Pairwise (· ≤ ·)
  | [], _ => by simp [insI]
  | y :: r, h => by
    unfold insI
    obtain ⟨h1, h2⟩ := List.pairwise_cons.mp h
    split
    · rename_i hx
      refine List.pairwise_cons.mpr ⟨fun z hz => ?_, h⟩
      rcases List.mem_cons.mp hz with rfl | hz
      · exact hx
      · exact Int.le_trans hx (h1 z hz)
    · rename_i hx
      refine List.pairwise_cons.mpr ⟨fun z hz => ?_, insI_sorted x r h2⟩
      rcases List.mem_cons.mp ((insI_perm x r).mem_iff.mp hz) with rfl | hz
      · omega
      · exact h1 z hz
theorem isrt_sorted : ∀ l : List Int, (isrt l).Pairwise (· ≤ ·)
  | [] => .nil
  | x :: r => insI_sorted x _ (isrt_sorted r)
theorem srtI_is (l : List Int) : srtI l = isrt l := (srtI_unique (isrt_perm l) (isrt_sorted l)).symm
def waysC (last : Int) (w : W) : Bool := match prsW w with
  | some ps => ps.all (fun p => btw 0 last p.1) && ((ps.map (·.2)).all (btw 2 7) && rise ltI (isrt (ps.map fun p => numOf p.2)))
  | none => false
theorem waysW_is (last : Int) (w : W) : waysW last w = waysC last w := by
  unfold waysW waysC
  cases prsW w with
  | none => rfl
  | some ps => simp [srtI_is]
def taskBC (B : Yb) (n g : W) (s : List Nat) (p b h : W) (u : Bool) (q d t y k a : W) : Bool :=
  tnW n && (tnW g && ((decide (s = []) || (B.lookup s).isSome) && (btw 0 (lastB B s) p && (boxesW b && (howW h && (bellsW 0 q && (bellsW 2 d && (trapsW (lastB B s) t && (waysC (lastB B s) y && (btws 0 999 a &&
    (btw 0 (if wlen n < 4 then (if s = [] then 30 else 9) else 0) k && (!(endedB h && !(emp q && (emp d && emp y))) && (heardB (bellsOf q) (trapsOf t) && (!decide (s = []) || idleB (numOf p) h u [b, q, d, t, y, a]))))))))))))))
theorem taskB_is : taskB = taskBC := by
  funext B n g s p b h u q d t y k a
  unfold taskB taskBC
  rw [waysW_is]
def taskWC (B : Yb) : W → Bool
  | .tup [n, g, .str s, p, b, h, .bl u, q, d, t, y, k, a] => taskBC B n g s p b h u q d t y k a
  | _ => false
theorem taskW_is (B : Yb) (w : W) : taskW B w = taskWC B w := by
  unfold taskW taskWC
  rw [taskB_is]
  all_goals
    split
    · rfl
    · rename_i h
      split
      · exact absurd rfl (h _ _ _ _ _ _ _ _ _ _ _ _ _)
      · rfl
def yardWC (B : Yb) : W → Bool
  | .tup [f, y, .tup ts] => tnW f && (btws 0 999 y && (ts.all (taskWC B) && yardB (ts.map tpOf) (numsOf f)))
  | _ => false
theorem yardW_is (B : Yb) (w : W) : yardW B w = yardWC B w := by
  unfold yardW yardWC
  have e : taskW B = taskWC B := funext (taskW_is B)
  rw [e]
  all_goals
    split
    · rfl
    · rename_i h
      split
      · exact absurd rfl (h _ _ _)
      · rfl
/-! plain tasks -/
structure Pt where
  name : List Int
  group : List Int
  script : List Nat
  st : Int
def Pt.w (p : Pt) : W := .tup [tn p.name, tn p.group, .str p.script, .int 0, .tup [], .tup [.str tRuns], .bl false, .tup [], .tup [], .tup [], .tup [], .int p.st, .tup []]
def Pt.tp (p : Pt) : Tp := ⟨p.name, p.group, p.script, .tup [.str tRuns], false, p.st, p.w⟩
def Pt.ok (p : Pt) : Bool := tnW (tn p.name) && (tnW (tn p.group) && btw 0 (if p.name.length < 4 then (if p.script = [] then 30 else 9) else 0) (.int p.st))
theorem numsOf_tn (l : List Int) : numsOf (tn l) = l := by
  unfold numsOf
  simp [nrs, List.map_map, Function.comp_def, numOf]
theorem Pt.tpOf (p : Pt) : tpOf p.w = p.tp := by
  show Tp.mk (numsOf (tn p.name)) (numsOf (tn p.group)) _ _ _ (numOf (.int p.st)) _ = _
  rw [numsOf_tn, numsOf_tn]
  rfl
theorem Pt.task {B : Yb} {p : Pt} (h : p.script = [] ∨ (B.lookup p.script).isSome = true) : taskW B p.w = p.ok := by
  have h1 : (decide (p.script = []) || (B.lookup p.script).isSome) = true := by
    rcases h with h | h <;> simp [h]
  have h2 : btw 0 (lastB B p.script) (.int 0) = true := by
    unfold lastB btw
    rw [decide_eq_true_eq]
    omega
  have h3 : waysW (lastB B p.script) (.tup []) = true := by rw [waysW_is]; rfl
  have h4 : trapsW (lastB B p.script) (.tup []) = true := rfl
  have h5 : wlen (tn p.name) = p.name.length := by simp [wlen, nrs]
  show taskB B (tn p.name) (tn p.group) p.script (.int 0) (.tup []) (.tup [.str tRuns]) false (.tup []) (.tup []) (.tup []) (.tup []) (.int p.st) (.tup []) = _
  unfold taskB Pt.ok
  rw [h1, h2, h3, h4, h5]
  have c1 : boxesW (.tup []) = true := rfl
  have c2 : howW (.tup [.str tRuns]) = true := rfl
  have c3 : bellsW 0 (.tup []) = true := rfl
  have c4 : bellsW 2 (.tup []) = true := rfl
  have c5 : btws 0 999 (.tup []) = true := rfl
  have c6 : endedB (.tup [.str tRuns]) = false := rfl
  have c7 : heardB (bellsOf (.tup [])) (trapsOf (.tup [])) = true := rfl
  have c8 : idleB (numOf (.int 0)) (.tup [.str tRuns]) false [.tup [], .tup [], .tup [], .tup [], .tup [], .tup []] = true := rfl
  rw [c1, c2, c3, c4, c5, c6, c7, c8]
  simp
theorem Pt.yard {B : Yb} {L : List Pt} (h : ∀ p ∈ L, p.script = [] ∨ (B.lookup p.script).isSome = true) : yardW B (.tup [.tup [], .tup [], .tup (L.map Pt.w)]) = (L.all Pt.ok && yardB (L.map Pt.tp) []) := by
  show (tnW (.tup []) && (btws 0 999 (.tup []) && ((L.map Pt.w).all (taskW B) && yardB ((L.map Pt.w).map Bel.tpOf) (numsOf (.tup []))))) = _
  have c1 : tnW (.tup []) = true := rfl
  have c2 : btws 0 999 (.tup []) = true := rfl
  have c3 : numsOf (.tup []) = [] := rfl
  have e1 : (L.map Pt.w).all (taskW B) = L.all Pt.ok := by
    rw [List.all_map, Bool.eq_iff_iff, List.all_eq_true, List.all_eq_true]
    exact ⟨fun q p hp => by rw [← Pt.task (h p hp)]; exact q p hp, fun q p hp => by show taskW B p.w = true; rw [Pt.task (h p hp)]; exact q p hp⟩
  have e2 : (L.map Pt.w).map Bel.tpOf = L.map Pt.tp := by
    rw [List.map_map]
    exact List.map_congr_left fun p _ => Pt.tpOf p
  rw [c1, c2, c3, e1, e2]
  rfl
theorem okW_tn {l : List Int} (h : l.length ≤ 1000) : okW (tn l) = true := by
  rw [okW_tup, Bool.and_eq_true, decide_eq_true_eq, nrs_len, okWs_iff]
  refine ⟨h, fun w hw => ?_⟩
  obtain ⟨i, _, rfl⟩ := List.mem_map.mp hw
  simp
theorem Pt.okW {p : Pt} (h1 : p.name.length ≤ 1000) (h2 : p.group.length ≤ 1000) : okW p.w = true := by
  have k1 := okW_tn h1
  have k2 := okW_tn h2
  unfold Pt.w
  simp [k1, k2]
/-! drawn comprehensions -/
/-- a comprehension, each part of which is drawn -/
theorem lcL_dr {S : Store} {k : Nat} {β : Type} {t : W → Env' → Option Env'} {te : DE} {env : Env'} (src val : β → W) : ∀ (ws : List W), (∀ w ∈ ws, ∀ n, ∃ e1, t w env = some e1 ∧ ∃ b n', src b = w ∧ te e1 (S.set k (stt n)) = .ok (.v (val b)) (S.set k (stt n'))) →
    ∀ n, ∃ (bs : List β) (n' : Int), bs.map src = ws ∧ lcL t dYes te env ws (S.set k (stt n)) = .ok (bs.map val) (S.set k (stt n'))
  | [], _, n => ⟨[], n, rfl, rfl⟩
  | w :: r, h, n => by
    obtain ⟨e1, h1, b, n1, h2, h3⟩ := h w List.mem_cons_self n
    obtain ⟨bs, n2, h4, h5⟩ := lcL_dr src val r (fun w hw => h w (List.mem_cons_of_mem _ hw)) n1
    refine ⟨b :: bs, n2, by rw [List.map_cons, h2, h4], ?_⟩
    rw [lcL_cons, h1]
    simp [h3, h5]
theorem rise_of_pw {α : Type} {lt : α → α → Bool} : ∀ {l : List α}, l.Pairwise (fun a b => lt a b = true) → rise lt l = true
  | [], _ => rfl
  | [_], _ => rfl
  | a :: b :: r, h => by
    obtain ⟨h1, h2⟩ := List.pairwise_cons.mp h
    rw [rise_two, h1 b List.mem_cons_self, rise_of_pw h2]; rfl
/-! sorted of what rises -/
theorem keyed_pt : ∀ L : List Pt, keyedW (L.map Pt.w) = some (L.map fun p => (p.name, p.w))
  | [] => rfl
  | p :: L => by
    have ih := keyed_pt L
    rw [List.map_cons]
    unfold Pt.w
    unfold keyedW
    rw [intsW_ints]
    have e : (List.map (fun p : Pt => W.tup [tn p.name, tn p.group, .str p.script, .int 0, .tup [], .tup [.str tRuns], .bl false, .tup [], .tup [], .tup [], .tup [], .int p.st, .tup []]) L) = L.map Pt.w := rfl
    rw [e, ih]
    rfl
theorem leZ_of_lt {α : Type} {x y : List Int × α} (h : HT.lexLt x.1 y.1 = true) : leZ x y = true := by
  unfold leZ
  rw [(NtL.swo_lexL (fun u : List Int => u)).asym x.1 y.1 h]; rfl
theorem srtZ_rise {l : List (List Int × W)} (h : (l.map (·.1)).Pairwise fun a b => HT.lexLt a b = true) : srtZ l = l :=
  List.mergeSort_of_pairwise ((List.pairwise_map.mp h).imp fun {a b} z => leZ_of_lt z)
theorem sortN_pt {L : List Pt} (h : rise HT.lexLt (L.map (·.name)) = true) : fSortN [.lst (L.map Pt.w)] = some (.nl (L.map Pt.w)) := by
  have pw := rise_pw h
  have nd := rise_ndL h
  have e : (L.map fun p => (p.name, p.w)).map (·.1) = L.map (·.name) := by rw [List.map_map]; rfl
  show (keyedW (L.map Pt.w)).bind _ = _
  rw [keyed_pt]
  show (if ((L.map fun p => (p.name, p.w)).map (·.1)).Nodup then _ else _) = _
  rw [e, if_pos nd, srtZ_rise (by rw [e]; exact pw), List.map_map]
  rfl
end Bel

namespace BelLaw
open PySem PySem.Spec PyProof.Rows L2 Bel
abbrev mid : List Nat := [109, 105, 100]
abbrev restW : W := .tup [.str [114, 101, 115, 116]]
def bk (z : Nat) : Yb := [(mid, List.replicate z restW)]
abbrev runW : W := .tup [.str tRuns]
theorem task_is {S : Store} {n g s p h k : W} : m__law_task [.v n, .v g, .v s, .v p, .v h, .v k] S = .ok (.v (.tup [n, g, s, p, .tup [], h, .bl false, .tup [], .tup [], .tup [], .tup [], k, .tup []])) S := by
  simp [m__law_task]
/-! one part otherwise -/
def oneL : List W := [.tup [], .tup [], .str mid, .int 0, .tup [], runW, .bl false, .tup [], .tup [], .tup [], .tup [], .int 0, .tup []]
def yW (l : List W) : W := .tup [.tup [], .tup [], .tup [.tup l]]
theorem with_w {S : Store} {p : Int} {t z : W} (L : List W) (h1 : (cutL oneL none (some p)).length ≤ 100 := by decide) (h2 : (cutL oneL (some (p + 1)) none).length ≤ 100 := by decide) (h : (cutL oneL none (some p) ++ [t]) ++ cutL oneL (some (p + 1)) none = L := by rfl) : m__law_with [.v (.int p), .v t, .v z] S = .ok (.v (yW L)) S := by
  have a1 : fAdd (.tup (cutL oneL none (some p))) (.tup [t]) = some (.nt (cutL oneL none (some p) ++ [t])) := fAdd_tup (by simp; omega)
  have a2 : fAdd (.tup (cutL oneL none (some p) ++ [t])) (.tup (cutL oneL (some (p + 1)) none)) = some (.nt L) := by rw [fAdd_tup (by simp; omega), h]
  have e : m__law_task [.v (.tup []), .v (.tup []), .v (.str mid), .v (.int 0), .v runW, .v (.int 0)] S = .ok (.v (.tup oneL)) S := task_is
  clear h1 h2 h
  generalize oneL = l at a1 a2 e
  simp [m__law_with, e, a1, a2, yW]
abbrev sizes : List Nat := [0, 1, 2, 5, 29, 30]
abbrev numsI : List Int := [0, 1, 2, 5, 6, 7, 8, 9, 98, 99, 100, 101, 102, 103, 104, 105, 106, 107, 998, 999, 1000]
def L5 (t : W) : List W := [.tup [], .tup [], .str mid, .int 0, .tup [], t, .bl false, .tup [], .tup [], .tup [], .tup [], .int 0, .tup []]
def L12 (t : W) : List W := [.tup [], .tup [], .str mid, .int 0, .tup [], runW, .bl false, .tup [], .tup [], .tup [], .tup [], .int 0, t]
def L4 (t : W) : List W := [.tup [], .tup [], .str mid, .int 0, t, runW, .bl false, .tup [], .tup [], .tup [], .tup [], .int 0, .tup []]
def L3 (t : W) : List W := [.tup [], .tup [], .str mid, t, .tup [], runW, .bl false, .tup [], .tup [], .tup [], .tup [], .int 0, .tup []]
def L7 (t : W) : List W := [.tup [], .tup [], .str mid, .int 0, .tup [], runW, .bl false, t, .tup [], .tup [], .tup [], .int 0, .tup []]
def L8 (t : W) : List W := [.tup [], .tup [], .str mid, .int 0, .tup [], runW, .bl false, .tup [], t, .tup [], .tup [], .int 0, .tup []]
def L9 (t : W) : List W := [.tup [], .tup [], .str mid, .int 0, .tup [], runW, .bl false, .tup [], .tup [], t, .tup [], .int 0, .tup []]
def L10 (t : W) : List W := [.tup [], .tup [], .str mid, .int 0, .tup [], runW, .bl false, .tup [], .tup [], .tup [], t, .int 0, .tup []]
def goodB : W → Bool → Nat → Bool := fun t g z => (yardWC (bk z) t == g)
theorem p0 : ∀ z ∈ sizes, ∀ r ∈ numsI, yardWC (bk z) (yW (L5 (.tup [.str tEnded, .int r]))) = (decide (r < 101) || decide (r = 103 ∨ r = 104 ∨ r = 105)) := by decide +kernel
theorem p1 : ∀ z ∈ sizes, ∀ r ∈ numsI, yardWC (bk z) (yW (L12 (.tup [.int r, .int 0]))) = decide (r < 1000) := by decide +kernel
theorem p2 : ∀ z ∈ sizes, ∀ r ∈ numsI, yardWC (bk z) (yW (L4 (.tup [.tup [.str [120], .int r]]))) = (decide (0 < r) && decide (r < 1000)) := by decide +kernel
theorem p3 : ∀ z ∈ sizes, ∀ r ∈ numsI, yardWC (bk z) (.tup [.tup [], .tup [.int r], .tup [.tup oneL]]) = decide (r < 1000) := by decide +kernel
theorem p4 : ∀ z ∈ sizes, ∀ r ∈ numsI, yardWC (bk z) (yW (L7 (.tup [.int r]))) = decide (r < 6) := by decide +kernel
theorem p5 : ∀ z ∈ sizes, ∀ r ∈ numsI, yardWC (bk z) (yW (L8 (.tup [.int r]))) = (decide (1 < r) && decide (r < 8)) := by decide +kernel
theorem p6 : ∀ z ∈ sizes, ∀ r ∈ numsI, ∀ p ∈ [-2, -1, 0, (z : Int), (z : Int) + 1], yardWC (bk z) (yW (L9 (.tup [.tup [.int r, .int p]]))) = ((decide (1 < r) && decide (r < 8)) && (decide (-1 ≤ p) && decide (p ≤ (z : Int)))) := by decide +kernel
theorem p7 : ∀ z ∈ sizes, ∀ r ∈ numsI, ∀ p ∈ [-1, 0, (z : Int), (z : Int) + 1], yardWC (bk z) (yW (L10 (.tup [.tup [.int p, .int r]]))) = ((decide (1 < r) && decide (r < 8)) && (decide (0 ≤ p) && decide (p ≤ (z : Int)))) := by decide +kernel
theorem p8 : ∀ z ∈ sizes, ∀ p ∈ [-1, 0, (z : Int), (z : Int) + 1], yardWC (bk z) (yW (L3 (.int p))) = (decide (0 ≤ p) && decide (p ≤ (z : Int))) := by decide +kernel
theorem in345 {i : Int} : fInO (.int i) (.tup [.int 103, .int 104, .int 105]) = some (.val (.bl (decide (i = 103 ∨ i = 104 ∨ i = 105)))) := by
  show ((if isFlat (.int i) = true ∧ [W.int 103, .int 104, .int 105].all isFlat = true then some ([W.int 103, .int 104, .int 105].any fun y => eqD y (.int i)) else none).map _) = _
  rw [if_pos ⟨rfl, rfl⟩]
  simp only [List.any_cons, List.any_nil, eqI, Bool.or_false, Option.map_some]
  congr 3
  rw [Bool.eq_iff_iff]
  simp only [Bool.or_eq_true, decide_eq_true_eq]
  omega
section
variable {S : Store} {k : Nat} {m : Int} {z : Nat}
theorem number_st (hk : k < S.length) (hz : z ∈ sizes) : ∃ t g m', m__law_number [.o k, .v (.int (z : Nat))] (S.set k (stt m)) = .ok (.v (.tup [t, .bl g])) (S.set k (stt m')) ∧ okW t = true ∧ yardWC (bk z) t = g := by
  obtain ⟨w, m1, hw, e1⟩ := pickL (S := S) (n := m) hk (l := numsI.map W.int) (by decide) (by decide)
  obtain ⟨r, hr, rfl⟩ := List.mem_map.mp hw
  simp only [numsI, List.map_cons, List.map_nil] at e1
  have N := next_w (S := S) (n := m1) (m := 9) hk (by decide) (by decide)
  obtain ⟨a0, a1⟩ := Bel.rem_lt (n := m1) (m := 9) (by decide)
  generalize m1 % 9 = q at *
  generalize m1 / 9 = m2 at *
  obtain rfl | rfl | rfl | rfl | rfl | rfl | rfl | rfl | rfl : q = 0 ∨ q = 1 ∨ q = 2 ∨ q = 3 ∨ q = 4 ∨ q = 5 ∨ q = 6 ∨ q = 7 ∨ q = 8 := by omega
  · refine ⟨_, _, m2, ?_, ?_, p0 z hz r hr⟩
    · have w := with_w (S := S.set k (stt m2)) (p := 5) (t := .tup [.str tEnded, .int r]) (z := .int z) (L5 _)
      by_cases h : r < 101 <;> simp [m__law_number, e1, N, w, h, in345]
    · simp [yW, L5]
  · refine ⟨_, _, m2, ?_, ?_, p1 z hz r hr⟩
    · have w := with_w (S := S.set k (stt m2)) (p := 12) (t := .tup [.int r, .int 0]) (z := .int z) (L12 _)
      simp [m__law_number, e1, N, w]
    · simp [yW, L12]
  · refine ⟨_, _, m2, ?_, ?_, p2 z hz r hr⟩
    · have w := with_w (S := S.set k (stt m2)) (p := 4) (t := .tup [.tup [.str [120], .int r]]) (z := .int z) (L4 _)
      by_cases h : 0 < r <;> simp [m__law_number, e1, N, w, h]
    · simp [yW, L4]
  · refine ⟨_, _, m2, ?_, ?_, p3 z hz r hr⟩
    · have w := with_w (S := S.set k (stt m2)) (p := 3) (t := .int 0) (z := .int z) oneL
      simp [m__law_number, e1, N, w, yW]
    · simp [oneL]
  · refine ⟨_, _, m2, ?_, ?_, p4 z hz r hr⟩
    · have w := with_w (S := S.set k (stt m2)) (p := 7) (t := .tup [.int r]) (z := .int z) (L7 _)
      simp [m__law_number, e1, N, w]
    · simp [yW, L7]
  · refine ⟨_, _, m2, ?_, ?_, p5 z hz r hr⟩
    · have w := with_w (S := S.set k (stt m2)) (p := 8) (t := .tup [.int r]) (z := .int z) (L8 _)
      by_cases h : 1 < r <;> simp [m__law_number, e1, N, w, h]
    · simp [yW, L8]
  · obtain ⟨w3, m3, hw3, e3⟩ := pickL (S := S) (n := m2) hk (l := [-2, -1, 0, (z : Int), (z : Int) + 1].map W.int) (by simp) (by simp)
    obtain ⟨p, hp, rfl⟩ := List.mem_map.mp hw3
    simp only [List.map_cons, List.map_nil] at e3
    refine ⟨_, _, m3, ?_, ?_, p6 z hz r hr p hp⟩
    · have w := with_w (S := S.set k (stt m3)) (p := 9) (t := .tup [.tup [.int r, .int p]]) (z := .int z) (L9 _)
      by_cases h : 1 < r <;> by_cases h1 : r < 8 <;> by_cases h2 : -1 ≤ p <;> simp [m__law_number, e1, N, e3, w, h, h1, h2]
    · simp [yW, L9]
  · obtain ⟨w3, m3, hw3, e3⟩ := pickL (S := S) (n := m2) hk (l := [-1, 0, (z : Int), (z : Int) + 1].map W.int) (by simp) (by simp)
    obtain ⟨p, hp, rfl⟩ := List.mem_map.mp hw3
    simp only [List.map_cons, List.map_nil] at e3
    refine ⟨_, _, m3, ?_, ?_, p7 z hz r hr p hp⟩
    · have w := with_w (S := S.set k (stt m3)) (p := 10) (t := .tup [.tup [.int p, .int r]]) (z := .int z) (L10 _)
      by_cases h : 1 < r <;> by_cases h1 : r < 8 <;> by_cases h2 : 0 ≤ p <;> simp [m__law_number, e1, N, e3, w, h, h1, h2]
    · simp [yW, L10]
  · obtain ⟨w3, m3, hw3, e3⟩ := pickL (S := S) (n := m2) hk (l := [-1, 0, (z : Int), (z : Int) + 1].map W.int) (by simp) (by simp)
    obtain ⟨p, hp, rfl⟩ := List.mem_map.mp hw3
    simp only [List.map_cons, List.map_nil] at e3
    refine ⟨_, _, m3, ?_, ?_, p8 z hz p hp⟩
    · have w := with_w (S := S.set k (stt m3)) (p := 3) (t := .int p) (z := .int z) (L3 _)
      by_cases h2 : 0 ≤ p <;> simp [m__law_number, e1, N, e3, w, h2]
    · simp [yW, L3]
end
end BelLaw

namespace BelLaw
open PySem PySem.Spec PyProof.Rows L2 Bel
theorem look_mid (z : Nat) : ((bk z).lookup mid).isSome = true := by
  unfold bk
  rw [List.lookup_cons, beq_self_eq_true]; rfl
/-! a starter with so many children -/
def kid (p : Nat × Bool) : Pt := ⟨[(p.1 : Int)], if p.2 = true then [(p.1 : Int)] else [], mid, 0⟩
def root (s : List Nat) (m : Int) : Pt := ⟨[], [], s, m⟩
def goodW (M : Nat) (s : List Nat) : Bool := decide ((M : Int) ≤ if s = [] then 30 else 9)
theorem wide_yard {z M : Nat} {s : List Nat} {ks : List (Nat × Bool)} (hs : s = mid ∨ s = []) (hk : ks.map (·.1) = List.range M) : yardW (bk z) (.tup [.tup [], .tup [], .tup ((root s M :: ks.map kid).map Pt.w)]) = goodW M s := by
  have hM : ks.length = M := by rw [← List.length_map (f := (·.1)), hk, List.length_range]
  have hl : ∀ p ∈ ks, p.1 < M := fun p hp => by
    have : p.1 ∈ ks.map (·.1) := List.mem_map_of_mem hp
    rw [hk] at this
    exact List.mem_range.mp this
  rw [Pt.yard (fun p hp => by
    rcases List.mem_cons.mp hp with rfl | hp
    · rcases hs with rfl | rfl
      · exact .inr (look_mid z)
      · exact .inl rfl
    · obtain ⟨q, _, rfl⟩ := List.mem_map.mp hp
      exact .inr (look_mid z))]
  have r1 : (root s M).ok = goodW M s := by
    show (tnW (.tup []) && (tnW (.tup []) && btw 0 (if (0 : Nat) < 4 then (if s = [] then 30 else 9) else 0) (.int M))) = _
    have c1 : tnW (.tup []) = true := rfl
    rw [c1, if_pos (by decide)]
    unfold goodW btw
    rw [Bool.true_and, Bool.true_and, Bool.eq_iff_iff, decide_eq_true_eq, decide_eq_true_eq]
    omega
  rw [List.all_cons, r1]
  cases hg : goodW M s with
  | false => rfl
  | true =>
    have hM30 : (M : Int) ≤ 30 := by
      unfold goodW at hg
      have := of_decide_eq_true hg
      split at this <;> omega
    have k1 : (ks.map kid).all Pt.ok = true := by
      rw [List.all_eq_true]
      intro p hp
      obtain ⟨q, hq, rfl⟩ := List.mem_map.mp hp
      have := hl q hq
      have t1 : tnW (tn [(q.1 : Int)]) = true := by
        simp [tnW, nrs, btw]
        omega
      have t2 : tnW (tn (kid q).group) = true := by
        unfold kid
        cases q.2
        · rfl
        · exact t1
      show (tnW (tn [(q.1 : Int)]) && (tnW (tn (kid q).group) && btw 0 (if (1 : Nat) < 4 then (if mid = [] then 30 else 9) else 0) (.int 0))) = true
      rw [t1, t2]; rfl
    rw [k1]
    simp only [Bool.true_and]
    have f0 : findT ((root s M :: ks.map kid).map Pt.tp) [] = some (root s M).tp := rfl
    have nm : ((root s M :: ks.map kid).map Pt.tp).map (·.name) = [] :: (List.range M).map fun i : Nat => [(i : Int)] := by
      rw [← hk, List.map_cons, List.map_cons, List.map_map, List.map_map, List.map_map]; rfl
    have ri : rise HT.lexLt (([] : List Int) :: (List.range M).map fun i : Nat => [(i : Int)]) = true := by
      refine rise_of_pw (List.pairwise_cons.mpr ⟨fun x hx => ?_, List.pairwise_map.mpr (List.pairwise_lt_range.imp fun {a b} h => ?_)⟩)
      · obtain ⟨i, _, rfl⟩ := List.mem_map.mp hx
        rfl
      · rw [HT.lexLt_cons, if_neg (by omega), decide_eq_true_eq]; omega
    have su : (((root s M :: ks.map kid).map Pt.tp).map (·.started)).sum = (M : Int) := by
      rw [List.map_cons, List.map_cons, List.sum_cons]
      have : ((ks.map kid).map Pt.tp).map (·.started) = List.replicate ks.length 0 := by
        rw [List.map_map, List.map_map]
        clear hk hM hl nm k1 f0
        induction ks with
        | nil => rfl
        | cons a r ih => rw [List.map_cons, ih]; rfl
      rw [this]
      have z0 : ∀ j : Nat, (List.replicate j (0 : Int)).sum = 0 := fun j => by
        induction j with
        | zero => rfl
        | succ j ih => rw [List.replicate_succ, List.sum_cons, ih]; rfl
      rw [z0]
      show (M : Int) + 0 = M
      omega
    have st : ((root s M :: ks.map kid).map Pt.tp).all (standsB ((root s M :: ks.map kid).map Pt.tp)) = true := by
      rw [List.all_eq_true]
      intro T hT
      obtain ⟨p, hp, rfl⟩ := List.mem_map.mp hT
      rcases List.mem_cons.mp hp with rfl | hp
      · rfl
      · obtain ⟨q, hq, rfl⟩ := List.mem_map.mp hp
        have := hl q hq
        unfold standsB
        rw [if_neg (by show ¬ [(q.1 : Int)] = []; simp)]
        have e1 : (kid q).tp.name.dropLast = [] := rfl
        rw [e1, f0]
        show (!decide ((M : Int) ≤ (q.1 : Int)) && (decide ((kid q).group ∈ [[(q.1 : Int)], []] ++ _) && (!false || _))) = true
        have d1 : decide ((M : Int) ≤ (q.1 : Int)) = false := decide_eq_false (by omega)
        have d2 : (kid q).group ∈ [[(q.1 : Int)], []] := by
          unfold kid
          cases q.2
          · exact List.mem_cons_of_mem _ List.mem_cons_self
          · exact List.mem_cons_self
        rw [d1, decide_eq_true (List.mem_append_left _ d2)]; rfl
    unfold yardB
    rw [nm, ri, f0, su, st]
    have l1 : ((root s M :: ks.map kid).map Pt.tp).length = M + 1 := by simp [hM]
    rw [l1]
    have m1 : ([] : List Int) ∈ ((root s M :: ks.map kid).map Pt.tp).map (·.group) := List.mem_cons_self
    rw [decide_eq_true m1]
    simp
    omega
section
variable {S : Store} {k : Nat} {m : Int}
theorem wide_st (hk : k < S.length) (z : Nat) : ∃ t g m', m__law_wide [.o k] (S.set k (stt m)) = .ok (.v (.tup [t, .bl g])) (S.set k (stt m')) ∧ okW t = true ∧ yardW (bk z) t = g := by
  have N := next_w (S := S) (n := m) (m := 33) hk (by decide) (by decide)
  obtain ⟨a0, a1⟩ := Bel.rem_lt (n := m) (m := 33) (by decide)
  generalize m % 33 = mi at *
  generalize m / 33 = m1 at *
  obtain ⟨M, hM⟩ : ∃ M : Nat, mi.toNat = M := ⟨_, rfl⟩
  have hMi : (M : Int) = mi := by omega
  obtain ⟨w, m2, hw, e1⟩ := pickL (S := S) (n := m1) hk (l := [.str mid, .str []]) (by decide) (by decide)
  obtain ⟨s, hs, rfl⟩ : ∃ s, (s = mid ∨ s = []) ∧ w = .str s := by
    rcases List.mem_cons.mp hw with rfl | hw
    · exact ⟨_, .inl rfl, rfl⟩
    · rcases List.mem_cons.mp hw with rfl | hw
      · exact ⟨_, .inr rfl, rfl⟩
      · cases hw
  obtain ⟨ks, m3, h1, h2⟩ := lcL_dr (S := S) (k := k) (β := Nat × Bool) (t := tgN 5) (te := m__law_wide_e1) (env := [some (.o k), some (.v (.int mi)), some (.v (.str s)), none, none, none]) (fun p => .int p.1) (fun p => (kid p).w) ((List.range M).map fun i : Nat => W.int (i : Int)) (fun w hw n => by
    obtain ⟨i, hi, rfl⟩ := List.mem_map.mp hw
    have N2 := next_w (S := S) (n := n) (m := 2) hk (by decide) (by decide)
    obtain ⟨b0, b1⟩ := Bel.rem_lt (n := n) (m := 2) (by decide)
    generalize n % 2 = q at *
    refine ⟨_, rfl, (i, decide (q = 1)), n / 2, rfl, ?_⟩
    obtain rfl | rfl : q = 0 ∨ q = 1 := by omega
    · simp [m__law_wide_e1, N2, task_is, kid, Pt.w, nrs]
    · simp [m__law_wide_e1, N2, task_is, kid, Pt.w, nrs]) m2
  have h1' : ks.map (·.1) = List.range M := by
    have : (ks.map (·.1)).map (fun i : Nat => W.int (i : Int)) = (List.range M).map fun i : Nat => W.int (i : Int) := by rw [List.map_map]; exact h1
    refine List.map_inj_right (f := fun i : Nat => W.int (i : Int)) (fun a b e => ?_) |>.mp this
    injection e with e
    omega
  have hl : ks.length = M := by rw [← List.length_map (f := (·.1)), h1', List.length_range]
  have yw := wide_yard (z := z) hs h1'
  rw [hMi] at yw
  refine ⟨.tup [.tup [], .tup [], .tup ((root s mi :: ks.map kid).map Pt.w)], goodW M s, m3, ?_, ?_, yw⟩
  · have ml : M ≤ 16777216 := by omega
    have b1 : mi < 4611686018427387904 := Int.lt_of_lt_of_le a1 (by decide +kernel)
    have b2 : -4611686018427387904 ≤ mi := Int.le_trans (by decide +kernel) a0
    have b3 : ks.length + 1 ≤ 16777216 := by omega
    have er : (root s mi).w = .tup [.tup [], .tup [], .str s, .int 0, .tup [], runW, .bl false, .tup [], .tup [], .tup [], .tup [], .int mi, .tup []] := rfl
    have a : fAdd (.lst [(root s mi).w]) (.lst (ks.map fun p => (kid p).w)) = some (.nl ((root s mi :: ks.map kid).map Pt.w)) := by
      rw [fAdd_lst (by simp; omega), List.map_cons, List.map_map]; rfl
    rw [er] at a
    rcases hs with rfl | rfl
    · simp [m__law_wide, N, e1, wipeE, h2, ml, b1, b2, task_is, a, goodW, b2n, hM, hMi]
    · simp [m__law_wide, N, e1, wipeE, h2, ml, b1, b2, task_is, a, goodW, b2n, hM, hMi]
  · rw [okW_tup]
    have : ∀ p ∈ root s mi :: ks.map kid, okW p.w = true := fun p hp => by
      rcases List.mem_cons.mp hp with rfl | hp
      · exact Pt.okW (by show 0 ≤ 1000; decide) (by show 0 ≤ 1000; decide)
      · obtain ⟨q, _, rfl⟩ := List.mem_map.mp hp
        refine Pt.okW (by show 1 ≤ 1000; decide) ?_
        unfold kid
        cases q.2 <;> simp
    have h3 : okW (.tup ((root s mi :: ks.map kid).map Pt.w)) = true := by
      rw [okW_tup, Bool.and_eq_true, decide_eq_true_eq, okWs_iff]
      refine ⟨by simp [hl]; omega, fun w hw => ?_⟩
      obtain ⟨p, hp, rfl⟩ := List.mem_map.mp hw
      exact this p hp
    generalize (root s mi :: ks.map kid).map Pt.w = LL at h3 ⊢
    simp only [okWs_cons, okWs_nil, h3, okW_tup]
    rfl
end
end BelLaw

namespace BelLaw
open PySem PySem.Spec PyProof.Rows L2 Bel
def m__law_with_k1 : DS := (dRet (dDisp false .nt (dCons (dDisp false .nt dNil) (dCons (dDisp false .nt dNil) (dCons (dDisp false .nt (dCons (dBin false fAdd (dBin false fAdd (dSl false (dVar 3) dNoPart (dPart (dVar 0))) (dDisp false .nt (dCons (dVar 1) dNil))) (dSl false (dVar 3) (dPart (dBin false fAdd (dVar 0) (dC (.int 1)))) dNoPart)) dNil)) dNil)))))
def m__law_with_k0 : DS := dSeq (dAsg 3 (dFn m__law_task 6 (dCons (dDisp false .nt dNil) (dCons (dDisp false .nt dNil) (dCons (dC (.str [109, 105, 100])) (dCons (dC (.int 0)) (dCons (dDisp false .nt (dCons (dC (.str [114, 117, 110, 115])) dNil)) (dCons (dC (.int 0)) dNil)))))))) m__law_with_k1
theorem m__law_with_is : m__law_with = fnD 4 m__law_with_k0 := rfl
theorem m__law_with_k0_ap (e : Env') (S : Store) : m__law_with_k0 e S = ((dAsg 3 (dFn m__law_task 6 (dCons (dDisp false .nt dNil) (dCons (dDisp false .nt dNil) (dCons (dC (.str [109, 105, 100])) (dCons (dC (.int 0)) (dCons (dDisp false .nt (dCons (dC (.str [114, 117, 110, 115])) dNil)) (dCons (dC (.int 0)) dNil)))))))) e S).bind m__law_with_k1 := rfl
theorem m__law_with_k1_ap (e : Env') (S : Store) : m__law_with_k1 e S = (dRet (dDisp false .nt (dCons (dDisp false .nt dNil) (dCons (dDisp false .nt dNil) (dCons (dDisp false .nt (dCons (dBin false fAdd (dBin false fAdd (dSl false (dVar 3) dNoPart (dPart (dVar 0))) (dDisp false .nt (dCons (dVar 1) dNil))) (dSl false (dVar 3) (dPart (dBin false fAdd (dVar 0) (dC (.int 1)))) dNoPart)) dNil)) dNil))))) e S := rfl
def m__law_number_k11 : DS := (dRet (dDisp false .nt (dCons (dFn m__law_with 3 (dCons (dC (.int 3)) (dCons (dVar 4) (dCons (dVar 1) dNil)))) (dCons (dChain (fCmp fun i j => decide (i ≤ j)) (fCmp fun i j => decide (i ≤ j)) (dC (.int 0)) (dVar 4) (dVar 1)) dNil))))
def m__law_number_k10 : DS := dSeq (dAsg 4 (dFn g__law_pick 2 (dCons (dVar 0) (dCons (dDisp false .nl (dCons (dNeg (dC (.int 1))) (dCons (dC (.int 0)) (dCons (dVar 1) (dCons (dBin false fAdd (dVar 1) (dC (.int 1))) dNil))))) dNil)))) m__law_number_k11
def m__law_number_k9 : DS := dSeq (dIfS (dT (dBin false fEq (dVar 3) (dC (.int 7)))) (dSeq (dAsg 4 (dFn g__law_pick 2 (dCons (dVar 0) (dCons (dDisp false .nl (dCons (dNeg (dC (.int 1))) (dCons (dC (.int 0)) (dCons (dVar 1) (dCons (dBin false fAdd (dVar 1) (dC (.int 1))) dNil))))) dNil))))
    (dRet (dDisp false .nt (dCons (dFn m__law_with 3 (dCons (dC (.int 10)) (dCons (dDisp false .nt (dCons (dDisp false .nt (dCons (dVar 4) (dCons (dVar 2) dNil))) dNil)) (dCons (dVar 1) dNil)))) (dCons ((dAndV (dChain (fCmp fun i j => decide (i < j)) (fCmp fun i j => decide (i < j)) (dC (.int 1)) (dVar 2) (dC (.int 8))) (dChain (fCmp fun i j => decide (i ≤ j)) (fCmp fun i j => decide (i ≤ j)) (dC (.int 0)) (dVar 4) (dVar 1)))) dNil))))) dNext) m__law_number_k10
def m__law_number_k8 : DS := dSeq (dIfS (dT (dBin false fEq (dVar 3) (dC (.int 6)))) (dSeq (dAsg 4 (dFn g__law_pick 2 (dCons (dVar 0) (dCons (dDisp false .nl (dCons (dNeg (dC (.int 2))) (dCons (dNeg (dC (.int 1))) (dCons (dC (.int 0)) (dCons (dVar 1) (dCons (dBin false fAdd (dVar 1) (dC (.int 1))) dNil)))))) dNil))))
    (dRet (dDisp false .nt (dCons (dFn m__law_with 3 (dCons (dC (.int 9)) (dCons (dDisp false .nt (dCons (dDisp false .nt (dCons (dVar 2) (dCons (dVar 4) dNil))) dNil)) (dCons (dVar 1) dNil)))) (dCons ((dAndV (dChain (fCmp fun i j => decide (i < j)) (fCmp fun i j => decide (i < j)) (dC (.int 1)) (dVar 2) (dC (.int 8))) (dChain (fCmp fun i j => decide (i ≤ j)) (fCmp fun i j => decide (i ≤ j)) (dNeg (dC (.int 1))) (dVar 4) (dVar 1)))) dNil))))) dNext) m__law_number_k9
def m__law_number_k7 : DS := dSeq (dIfS (dT (dBin false fEq (dVar 3) (dC (.int 5)))) (dRet (dDisp false .nt (dCons (dFn m__law_with 3 (dCons (dC (.int 8)) (dCons (dDisp false .nt (dCons (dVar 2) dNil)) (dCons (dVar 1) dNil)))) (dCons (dChain (fCmp fun i j => decide (i < j)) (fCmp fun i j => decide (i < j)) (dC (.int 1)) (dVar 2) (dC (.int 8))) dNil)))) dNext) m__law_number_k8
def m__law_number_k6 : DS := dSeq (dIfS (dT (dBin false fEq (dVar 3) (dC (.int 4)))) (dRet (dDisp false .nt (dCons (dFn m__law_with 3 (dCons (dC (.int 7)) (dCons (dDisp false .nt (dCons (dVar 2) dNil)) (dCons (dVar 1) dNil)))) (dCons (dBin false (fCmp fun i j => decide (i < j)) (dVar 2) (dC (.int 6))) dNil)))) dNext) m__law_number_k7
def m__law_number_k5 : DS := dSeq (dIfS (dT (dBin false fEq (dVar 3) (dC (.int 3)))) (dRet (dDisp false .nt (dCons (dDisp false .nt (dCons (dDisp false .nt dNil) (dCons (dDisp false .nt (dCons (dVar 2) dNil)) (dCons (dBin false fIx (dFn m__law_with 3 (dCons (dC (.int 3)) (dCons (dC (.int 0)) (dCons (dVar 1) dNil)))) (dC (.int 2))) dNil)))) (dCons (dBin false (fCmp fun i j => decide (i < j)) (dVar 2) (dC (.int 1000))) dNil)))) dNext) m__law_number_k6
def m__law_number_k4 : DS := dSeq (dIfS (dT (dBin false fEq (dVar 3) (dC (.int 2)))) (dRet (dDisp false .nt (dCons (dFn m__law_with 3 (dCons (dC (.int 4)) (dCons (dDisp false .nt (dCons (dDisp false .nt (dCons (dC (.str [120])) (dCons (dVar 2) dNil))) dNil)) (dCons (dVar 1) dNil)))) (dCons (dChain (fCmp fun i j => decide (i < j)) (fCmp fun i j => decide (i < j)) (dC (.int 0)) (dVar 2) (dC (.int 1000))) dNil)))) dNext) m__law_number_k5
def m__law_number_k3 : DS := dSeq (dIfS (dT (dBin false fEq (dVar 3) (dC (.int 1)))) (dRet (dDisp false .nt (dCons (dFn m__law_with 3 (dCons (dC (.int 12)) (dCons (dDisp false .nt (dCons (dVar 2) (dCons (dC (.int 0)) dNil))) (dCons (dVar 1) dNil)))) (dCons (dBin false (fCmp fun i j => decide (i < j)) (dVar 2) (dC (.int 1000))) dNil)))) dNext) m__law_number_k4
def m__law_number_k2 : DS := dSeq (dIfS (dT (dBin false fEq (dVar 3) (dC (.int 0)))) (dRet (dDisp false .nt (dCons (dFn m__law_with 3 (dCons (dC (.int 5)) (dCons (dDisp false .nt (dCons (dC (.str [101, 110, 100, 101, 100])) (dCons (dVar 2) dNil))) (dCons (dVar 1) dNil)))) (dCons ((dOrV (dBin false (fCmp fun i j => decide (i < j)) (dVar 2) (dC (.int 101))) (dBin false fInO (dVar 2) (dDisp false .nt (dCons (dC (.int 103)) (dCons (dC (.int 104)) (dCons (dC (.int 105)) dNil))))))) dNil)))) dNext) m__law_number_k3
def m__law_number_k1 : DS := dSeq (dAsg 3 (dFn g__law_next 2 (dCons (dVar 0) (dCons (dC (.int 9)) dNil)))) m__law_number_k2
def m__law_number_k0 : DS := dSeq (dAsg 2 (dFn g__law_pick 2 (dCons (dVar 0) (dCons (dDisp false .nl (dCons (dC (.int 0)) (dCons (dC (.int 1)) (dCons (dC (.int 2)) (dCons (dC (.int 5)) (dCons (dC (.int 6)) (dCons (dC (.int 7)) (dCons (dC (.int 8)) (dCons (dC (.int 9)) (dCons (dC (.int 98)) (dCons (dC (.int 99)) (dCons (dC (.int 100)) (dCons (dC (.int 101)) (dCons (dC (.int 102)) (dCons (dC (.int 103)) (dCons (dC (.int 104)) (dCons (dC (.int 105)) (dCons (dC (.int 106)) (dCons (dC (.int 107)) (dCons (dC (.int 998)) (dCons (dC (.int 999)) (dCons (dC (.int 1000)) dNil)))))))))))))))))))))) dNil)))) m__law_number_k1
theorem m__law_number_is : m__law_number = fnD 5 m__law_number_k0 := rfl
theorem m__law_number_k0_ap (e : Env') (S : Store) : m__law_number_k0 e S = ((dAsg 2 (dFn g__law_pick 2 (dCons (dVar 0) (dCons (dDisp false .nl (dCons (dC (.int 0)) (dCons (dC (.int 1)) (dCons (dC (.int 2)) (dCons (dC (.int 5)) (dCons (dC (.int 6)) (dCons (dC (.int 7)) (dCons (dC (.int 8)) (dCons (dC (.int 9)) (dCons (dC (.int 98)) (dCons (dC (.int 99)) (dCons (dC (.int 100)) (dCons (dC (.int 101)) (dCons (dC (.int 102)) (dCons (dC (.int 103)) (dCons (dC (.int 104)) (dCons (dC (.int 105)) (dCons (dC (.int 106)) (dCons (dC (.int 107)) (dCons (dC (.int 998)) (dCons (dC (.int 999)) (dCons (dC (.int 1000)) dNil)))))))))))))))))))))) dNil)))) e S).bind m__law_number_k1 := rfl
theorem m__law_number_k1_ap (e : Env') (S : Store) : m__law_number_k1 e S = ((dAsg 3 (dFn g__law_next 2 (dCons (dVar 0) (dCons (dC (.int 9)) dNil)))) e S).bind m__law_number_k2 := rfl
theorem m__law_number_k2_ap (e : Env') (S : Store) : m__law_number_k2 e S = ((dIfS (dT (dBin false fEq (dVar 3) (dC (.int 0)))) (dRet (dDisp false .nt (dCons (dFn m__law_with 3 (dCons (dC (.int 5)) (dCons (dDisp false .nt (dCons (dC (.str [101, 110, 100, 101, 100])) (dCons (dVar 2) dNil))) (dCons (dVar 1) dNil)))) (dCons ((dOrV (dBin false (fCmp fun i j => decide (i < j)) (dVar 2) (dC (.int 101))) (dBin false fInO (dVar 2) (dDisp false .nt (dCons (dC (.int 103)) (dCons (dC (.int 104)) (dCons (dC (.int 105)) dNil))))))) dNil)))) dNext) e S).bind m__law_number_k3 := rfl
theorem m__law_number_k3_ap (e : Env') (S : Store) : m__law_number_k3 e S = ((dIfS (dT (dBin false fEq (dVar 3) (dC (.int 1)))) (dRet (dDisp false .nt (dCons (dFn m__law_with 3 (dCons (dC (.int 12)) (dCons (dDisp false .nt (dCons (dVar 2) (dCons (dC (.int 0)) dNil))) (dCons (dVar 1) dNil)))) (dCons (dBin false (fCmp fun i j => decide (i < j)) (dVar 2) (dC (.int 1000))) dNil)))) dNext) e S).bind m__law_number_k4 := rfl
theorem m__law_number_k4_ap (e : Env') (S : Store) : m__law_number_k4 e S = ((dIfS (dT (dBin false fEq (dVar 3) (dC (.int 2)))) (dRet (dDisp false .nt (dCons (dFn m__law_with 3 (dCons (dC (.int 4)) (dCons (dDisp false .nt (dCons (dDisp false .nt (dCons (dC (.str [120])) (dCons (dVar 2) dNil))) dNil)) (dCons (dVar 1) dNil)))) (dCons (dChain (fCmp fun i j => decide (i < j)) (fCmp fun i j => decide (i < j)) (dC (.int 0)) (dVar 2) (dC (.int 1000))) dNil)))) dNext) e S).bind m__law_number_k5 := rfl
theorem m__law_number_k5_ap (e : Env') (S : Store) : m__law_number_k5 e S = ((dIfS (dT (dBin false fEq (dVar 3) (dC (.int 3)))) (dRet (dDisp false .nt (dCons (dDisp false .nt (dCons (dDisp false .nt dNil) (dCons (dDisp false .nt (dCons (dVar 2) dNil)) (dCons (dBin false fIx (dFn m__law_with 3 (dCons (dC (.int 3)) (dCons (dC (.int 0)) (dCons (dVar 1) dNil)))) (dC (.int 2))) dNil)))) (dCons (dBin false (fCmp fun i j => decide (i < j)) (dVar 2) (dC (.int 1000))) dNil)))) dNext) e S).bind m__law_number_k6 := rfl
theorem m__law_number_k6_ap (e : Env') (S : Store) : m__law_number_k6 e S = ((dIfS (dT (dBin false fEq (dVar 3) (dC (.int 4)))) (dRet (dDisp false .nt (dCons (dFn m__law_with 3 (dCons (dC (.int 7)) (dCons (dDisp false .nt (dCons (dVar 2) dNil)) (dCons (dVar 1) dNil)))) (dCons (dBin false (fCmp fun i j => decide (i < j)) (dVar 2) (dC (.int 6))) dNil)))) dNext) e S).bind m__law_number_k7 := rfl
theorem m__law_number_k7_ap (e : Env') (S : Store) : m__law_number_k7 e S = ((dIfS (dT (dBin false fEq (dVar 3) (dC (.int 5)))) (dRet (dDisp false .nt (dCons (dFn m__law_with 3 (dCons (dC (.int 8)) (dCons (dDisp false .nt (dCons (dVar 2) dNil)) (dCons (dVar 1) dNil)))) (dCons (dChain (fCmp fun i j => decide (i < j)) (fCmp fun i j => decide (i < j)) (dC (.int 1)) (dVar 2) (dC (.int 8))) dNil)))) dNext) e S).bind m__law_number_k8 := rfl
theorem m__law_number_k8_ap (e : Env') (S : Store) : m__law_number_k8 e S = ((dIfS (dT (dBin false fEq (dVar 3) (dC (.int 6)))) (dSeq (dAsg 4 (dFn g__law_pick 2 (dCons (dVar 0) (dCons (dDisp false .nl (dCons (dNeg (dC (.int 2))) (dCons (dNeg (dC (.int 1))) (dCons (dC (.int 0)) (dCons (dVar 1) (dCons (dBin false fAdd (dVar 1) (dC (.int 1))) dNil)))))) dNil))))
    (dRet (dDisp false .nt (dCons (dFn m__law_with 3 (dCons (dC (.int 9)) (dCons (dDisp false .nt (dCons (dDisp false .nt (dCons (dVar 2) (dCons (dVar 4) dNil))) dNil)) (dCons (dVar 1) dNil)))) (dCons ((dAndV (dChain (fCmp fun i j => decide (i < j)) (fCmp fun i j => decide (i < j)) (dC (.int 1)) (dVar 2) (dC (.int 8))) (dChain (fCmp fun i j => decide (i ≤ j)) (fCmp fun i j => decide (i ≤ j)) (dNeg (dC (.int 1))) (dVar 4) (dVar 1)))) dNil))))) dNext) e S).bind m__law_number_k9 := rfl
theorem m__law_number_k9_ap (e : Env') (S : Store) : m__law_number_k9 e S = ((dIfS (dT (dBin false fEq (dVar 3) (dC (.int 7)))) (dSeq (dAsg 4 (dFn g__law_pick 2 (dCons (dVar 0) (dCons (dDisp false .nl (dCons (dNeg (dC (.int 1))) (dCons (dC (.int 0)) (dCons (dVar 1) (dCons (dBin false fAdd (dVar 1) (dC (.int 1))) dNil))))) dNil))))
    (dRet (dDisp false .nt (dCons (dFn m__law_with 3 (dCons (dC (.int 10)) (dCons (dDisp false .nt (dCons (dDisp false .nt (dCons (dVar 4) (dCons (dVar 2) dNil))) dNil)) (dCons (dVar 1) dNil)))) (dCons ((dAndV (dChain (fCmp fun i j => decide (i < j)) (fCmp fun i j => decide (i < j)) (dC (.int 1)) (dVar 2) (dC (.int 8))) (dChain (fCmp fun i j => decide (i ≤ j)) (fCmp fun i j => decide (i ≤ j)) (dC (.int 0)) (dVar 4) (dVar 1)))) dNil))))) dNext) e S).bind m__law_number_k10 := rfl
theorem m__law_number_k10_ap (e : Env') (S : Store) : m__law_number_k10 e S = ((dAsg 4 (dFn g__law_pick 2 (dCons (dVar 0) (dCons (dDisp false .nl (dCons (dNeg (dC (.int 1))) (dCons (dC (.int 0)) (dCons (dVar 1) (dCons (dBin false fAdd (dVar 1) (dC (.int 1))) dNil))))) dNil)))) e S).bind m__law_number_k11 := rfl
theorem m__law_number_k11_ap (e : Env') (S : Store) : m__law_number_k11 e S = (dRet (dDisp false .nt (dCons (dFn m__law_with 3 (dCons (dC (.int 3)) (dCons (dVar 4) (dCons (dVar 1) dNil)))) (dCons (dChain (fCmp fun i j => decide (i ≤ j)) (fCmp fun i j => decide (i ≤ j)) (dC (.int 0)) (dVar 4) (dVar 1)) dNil)))) e S := rfl
def m__law_wide_k4 : DS := (dRet (dDisp false .nt (dCons (dVar 4) (dCons (dBin false (fCmp fun i j => decide (i ≤ j)) (dVar 1) (dBin false fIx (dDisp false .nl (dCons (dC (.int 9)) (dCons (dC (.int 30)) dNil))) (dCall false fIntW (dCons (dBin false fEq (dVar 2) (dC (.str []))) dNil)))) dNil))))
def m__law_wide_k3 : DS := dSeq (dAsg 4 (dDisp false .nt (dCons (dDisp false .nt dNil) (dCons (dDisp false .nt dNil) (dCons (dCall false fTuple (dCons (dBin false fAdd (dDisp false .nl (dCons (dFn m__law_task 6 (dCons (dDisp false .nt dNil) (dCons (dDisp false .nt dNil) (dCons (dVar 2) (dCons (dC (.int 0)) (dCons (dDisp false .nt (dCons (dC (.str [114, 117, 110, 115])) dNil)) (dCons (dVar 1) dNil))))))) dNil)) (dVar 3)) dNil)) dNil))))) m__law_wide_k4
def m__law_wide_k2 : DS := dSeq (dAsg 3 (dLc false (dRng1 (dVar 1)) (tgN 5) dYes m__law_wide_e1 [5])) m__law_wide_k3
def m__law_wide_k1 : DS := dSeq (dAsg 2 (dFn g__law_pick 2 (dCons (dVar 0) (dCons (dDisp false .nl (dCons (dC (.str [109, 105, 100])) (dCons (dC (.str [])) dNil))) dNil)))) m__law_wide_k2
def m__law_wide_k0 : DS := dSeq (dAsg 1 (dFn g__law_next 2 (dCons (dVar 0) (dCons (dC (.int 33)) dNil)))) m__law_wide_k1
theorem m__law_wide_is : m__law_wide = fnD 6 m__law_wide_k0 := rfl
theorem m__law_wide_k0_ap (e : Env') (S : Store) : m__law_wide_k0 e S = ((dAsg 1 (dFn g__law_next 2 (dCons (dVar 0) (dCons (dC (.int 33)) dNil)))) e S).bind m__law_wide_k1 := rfl
theorem m__law_wide_k1_ap (e : Env') (S : Store) : m__law_wide_k1 e S = ((dAsg 2 (dFn g__law_pick 2 (dCons (dVar 0) (dCons (dDisp false .nl (dCons (dC (.str [109, 105, 100])) (dCons (dC (.str [])) dNil))) dNil)))) e S).bind m__law_wide_k2 := rfl
theorem m__law_wide_k2_ap (e : Env') (S : Store) : m__law_wide_k2 e S = ((dAsg 3 (dLc false (dRng1 (dVar 1)) (tgN 5) dYes m__law_wide_e1 [5])) e S).bind m__law_wide_k3 := rfl
theorem m__law_wide_k3_ap (e : Env') (S : Store) : m__law_wide_k3 e S = ((dAsg 4 (dDisp false .nt (dCons (dDisp false .nt dNil) (dCons (dDisp false .nt dNil) (dCons (dCall false fTuple (dCons (dBin false fAdd (dDisp false .nl (dCons (dFn m__law_task 6 (dCons (dDisp false .nt dNil) (dCons (dDisp false .nt dNil) (dCons (dVar 2) (dCons (dC (.int 0)) (dCons (dDisp false .nt (dCons (dC (.str [114, 117, 110, 115])) dNil)) (dCons (dVar 1) dNil))))))) dNil)) (dVar 3)) dNil)) dNil))))) e S).bind m__law_wide_k4 := rfl
theorem m__law_wide_k4_ap (e : Env') (S : Store) : m__law_wide_k4 e S = (dRet (dDisp false .nt (dCons (dVar 4) (dCons (dBin false (fCmp fun i j => decide (i ≤ j)) (dVar 1) (dBin false fIx (dDisp false .nl (dCons (dC (.int 9)) (dCons (dC (.int 30)) dNil))) (dCall false fIntW (dCons (dBin false fEq (dVar 2) (dC (.str []))) dNil)))) dNil)))) e S := rfl
def m__law_deep_b3_k2 : DS := (dAsg 3 (dBin false fAdd (dBin false fAdd (dVar 3) (dDisp false .nl (dCons (dFn m__law_task 6 (dCons (dVar 5) (dCons (dDisp false .nt dNil) (dCons (dC (.str [109, 105, 100])) (dCons (dC (.int 0)) (dCons (dDisp false .nt (dCons (dC (.str [114, 117, 110, 115])) dNil)) (dCons (dBin false fMul (dBin false fAdd (dVar 2) (dC (.int 1))) (dCall false fIntW (dCons (dBin false (fCmp fun i j => decide (i < j)) (dVar 4) (dVar 1)) dNil))) dNil))))))) dNil))) (dVar 6)))
def m__law_deep_b3_k1 : DS := dSeq (dAsg 6 (dLc false (dRng1 (dVar 2)) (tgN 7) m__law_deep_t2 m__law_deep_e1 [7])) m__law_deep_b3_k2
def m__law_deep_b3_k0 : DS := dSeq (dAsg 5 (dCall false fTuple (dCons (dMulL false (dDisp false .nl (dCons (dVar 2) dNil)) (dVar 4)) dNil))) m__law_deep_b3_k1
theorem m__law_deep_b3_is : m__law_deep_b3 = m__law_deep_b3_k0 := rfl
theorem m__law_deep_b3_k0_ap (e : Env') (S : Store) : m__law_deep_b3_k0 e S = ((dAsg 5 (dCall false fTuple (dCons (dMulL false (dDisp false .nl (dCons (dVar 2) dNil)) (dVar 4)) dNil))) e S).bind m__law_deep_b3_k1 := rfl
theorem m__law_deep_b3_k1_ap (e : Env') (S : Store) : m__law_deep_b3_k1 e S = ((dAsg 6 (dLc false (dRng1 (dVar 2)) (tgN 7) m__law_deep_t2 m__law_deep_e1 [7])) e S).bind m__law_deep_b3_k2 := rfl
theorem m__law_deep_b3_k2_ap (e : Env') (S : Store) : m__law_deep_b3_k2 e S = (dAsg 3 (dBin false fAdd (dBin false fAdd (dVar 3) (dDisp false .nl (dCons (dFn m__law_task 6 (dCons (dVar 5) (dCons (dDisp false .nt dNil) (dCons (dC (.str [109, 105, 100])) (dCons (dC (.int 0)) (dCons (dDisp false .nt (dCons (dC (.str [114, 117, 110, 115])) dNil)) (dCons (dBin false fMul (dBin false fAdd (dVar 2) (dC (.int 1))) (dCall false fIntW (dCons (dBin false (fCmp fun i j => decide (i < j)) (dVar 4) (dVar 1)) dNil))) dNil))))))) dNil))) (dVar 6))) e S := rfl
def m__law_deep_k4 : DS := (dRet (dDisp false .nt (dCons (dDisp false .nt (dCons (dDisp false .nt dNil) (dCons (dDisp false .nt dNil) (dCons (dCall false fTuple (dCons (dCall false fSortN (dCons (dVar 3) dNil)) dNil)) dNil)))) (dCons (dBin false (fCmp fun i j => decide (i < j)) (dVar 1) (dC (.int 5))) dNil))))
def m__law_deep_k3 : DS := dSeq (dFor (dRng1 (dBin false fAdd (dVar 1) (dC (.int 1)))) (tgN 4) m__law_deep_b3) m__law_deep_k4
def m__law_deep_k2 : DS := dSeq (dAsg 3 (dDisp false .nl dNil)) m__law_deep_k3
def m__law_deep_k1 : DS := dSeq (dAsg 2 (dFn g__law_next 2 (dCons (dVar 0) (dCons (dC (.int 9)) dNil)))) m__law_deep_k2
def m__law_deep_k0 : DS := dSeq (dAsg 1 (dFn g__law_next 2 (dCons (dVar 0) (dCons (dC (.int 6)) dNil)))) m__law_deep_k1
theorem m__law_deep_is : m__law_deep = fnD 8 m__law_deep_k0 := rfl
theorem m__law_deep_k0_ap (e : Env') (S : Store) : m__law_deep_k0 e S = ((dAsg 1 (dFn g__law_next 2 (dCons (dVar 0) (dCons (dC (.int 6)) dNil)))) e S).bind m__law_deep_k1 := rfl
theorem m__law_deep_k1_ap (e : Env') (S : Store) : m__law_deep_k1 e S = ((dAsg 2 (dFn g__law_next 2 (dCons (dVar 0) (dCons (dC (.int 9)) dNil)))) e S).bind m__law_deep_k2 := rfl
theorem m__law_deep_k2_ap (e : Env') (S : Store) : m__law_deep_k2 e S = ((dAsg 3 (dDisp false .nl dNil)) e S).bind m__law_deep_k3 := rfl
theorem m__law_deep_k3_ap (e : Env') (S : Store) : m__law_deep_k3 e S = ((dFor (dRng1 (dBin false fAdd (dVar 1) (dC (.int 1)))) (tgN 4) m__law_deep_b3) e S).bind m__law_deep_k4 := rfl
theorem m__law_deep_k4_ap (e : Env') (S : Store) : m__law_deep_k4 e S = (dRet (dDisp false .nt (dCons (dDisp false .nt (dCons (dDisp false .nt dNil) (dCons (dDisp false .nt dNil) (dCons (dCall false fTuple (dCons (dCall false fSortN (dCons (dVar 3) dNil)) dNil)) dNil)))) (dCons (dBin false (fCmp fun i j => decide (i < j)) (dVar 1) (dC (.int 5))) dNil)))) e S := rfl
def m__law_sisters_b5_k1 : DS := (dAsg 5 ((dAndV (dVar 5) (dBin false fInO (dBin false fIx (dVar 3) (dVar 6)) (dBin false fAdd (dDisp false .nl (dCons (dDisp false .nt dNil) (dCons (dDisp false .nt (dCons (dVar 6) dNil)) dNil))) (dVar 7))))))
def m__law_sisters_b5_k0 : DS := dSeq (dAsg 7 (dLc false (dRng1 (dVar 6)) (tgN 8) m__law_sisters_t4 m__law_sisters_e3 [8])) m__law_sisters_b5_k1
theorem m__law_sisters_b5_is : m__law_sisters_b5 = m__law_sisters_b5_k0 := rfl
theorem m__law_sisters_b5_k0_ap (e : Env') (S : Store) : m__law_sisters_b5_k0 e S = ((dAsg 7 (dLc false (dRng1 (dVar 6)) (tgN 8) m__law_sisters_t4 m__law_sisters_e3 [8])) e S).bind m__law_sisters_b5_k1 := rfl
theorem m__law_sisters_b5_k1_ap (e : Env') (S : Store) : m__law_sisters_b5_k1 e S = (dAsg 5 ((dAndV (dVar 5) (dBin false fInO (dBin false fIx (dVar 3) (dVar 6)) (dBin false fAdd (dDisp false .nl (dCons (dDisp false .nt dNil) (dCons (dDisp false .nt (dCons (dVar 6) dNil)) dNil))) (dVar 7)))))) e S := rfl
def m__law_sisters_k6 : DS := (dRet (dDisp false .nt (dCons (dDisp false .nt (dCons (dDisp false .nt dNil) (dCons (dDisp false .nt dNil) (dCons (dCall false fTuple (dCons (dBin false fAdd (dDisp false .nl (dCons (dFn m__law_task 6 (dCons (dDisp false .nt dNil) (dCons (dDisp false .nt dNil) (dCons (dVar 1) (dCons (dC (.int 0)) (dCons (dDisp false .nt (dCons (dC (.str [114, 117, 110, 115])) dNil)) (dCons (dC (.int 3)) dNil))))))) dNil)) (dVar 4)) dNil)) dNil)))) (dCons (dVar 5) dNil))))
def m__law_sisters_k5 : DS := dSeq (dFor (dRng1 (dC (.int 3))) (tgN 6) m__law_sisters_b5) m__law_sisters_k6
def m__law_sisters_k4 : DS := dSeq (dAsg 5 (dC (.bl true))) m__law_sisters_k5
def m__law_sisters_k3 : DS := dSeq (dAsg 4 (dLc false (dRng1 (dC (.int 3))) (tgN 6) dYes m__law_sisters_e2 [6])) m__law_sisters_k4
def m__law_sisters_k2 : DS := dSeq (dAsg 3 (dLc false (dRng1 (dC (.int 3))) (tgN 6) dYes m__law_sisters_e1 [6])) m__law_sisters_k3
def m__law_sisters_k1 : DS := dSeq (dAsg 2 (dDisp false .nl (dCons (dDisp false .nt dNil) (dCons (dDisp false .nt (dCons (dC (.int 0)) dNil)) (dCons (dDisp false .nt (dCons (dC (.int 1)) dNil)) (dCons (dDisp false .nt (dCons (dC (.int 2)) dNil)) (dCons (dDisp false .nt (dCons (dC (.int 3)) dNil)) (dCons (dDisp false .nt (dCons (dC (.int 0)) (dCons (dC (.int 0)) dNil))) (dCons (dDisp false .nt (dCons (dC (.int 2)) (dCons (dC (.int 2)) dNil))) dNil))))))))) m__law_sisters_k2
def m__law_sisters_k0 : DS := dSeq (dAsg 1 (dFn g__law_pick 2 (dCons (dVar 0) (dCons (dDisp false .nl (dCons (dC (.str [109, 105, 100])) (dCons (dC (.str [])) dNil))) dNil)))) m__law_sisters_k1
theorem m__law_sisters_is : m__law_sisters = fnD 9 m__law_sisters_k0 := rfl
theorem m__law_sisters_k0_ap (e : Env') (S : Store) : m__law_sisters_k0 e S = ((dAsg 1 (dFn g__law_pick 2 (dCons (dVar 0) (dCons (dDisp false .nl (dCons (dC (.str [109, 105, 100])) (dCons (dC (.str [])) dNil))) dNil)))) e S).bind m__law_sisters_k1 := rfl
theorem m__law_sisters_k1_ap (e : Env') (S : Store) : m__law_sisters_k1 e S = ((dAsg 2 (dDisp false .nl (dCons (dDisp false .nt dNil) (dCons (dDisp false .nt (dCons (dC (.int 0)) dNil)) (dCons (dDisp false .nt (dCons (dC (.int 1)) dNil)) (dCons (dDisp false .nt (dCons (dC (.int 2)) dNil)) (dCons (dDisp false .nt (dCons (dC (.int 3)) dNil)) (dCons (dDisp false .nt (dCons (dC (.int 0)) (dCons (dC (.int 0)) dNil))) (dCons (dDisp false .nt (dCons (dC (.int 2)) (dCons (dC (.int 2)) dNil))) dNil))))))))) e S).bind m__law_sisters_k2 := rfl
theorem m__law_sisters_k2_ap (e : Env') (S : Store) : m__law_sisters_k2 e S = ((dAsg 3 (dLc false (dRng1 (dC (.int 3))) (tgN 6) dYes m__law_sisters_e1 [6])) e S).bind m__law_sisters_k3 := rfl
theorem m__law_sisters_k3_ap (e : Env') (S : Store) : m__law_sisters_k3 e S = ((dAsg 4 (dLc false (dRng1 (dC (.int 3))) (tgN 6) dYes m__law_sisters_e2 [6])) e S).bind m__law_sisters_k4 := rfl
theorem m__law_sisters_k4_ap (e : Env') (S : Store) : m__law_sisters_k4 e S = ((dAsg 5 (dC (.bl true))) e S).bind m__law_sisters_k5 := rfl
theorem m__law_sisters_k5_ap (e : Env') (S : Store) : m__law_sisters_k5 e S = ((dFor (dRng1 (dC (.int 3))) (tgN 6) m__law_sisters_b5) e S).bind m__law_sisters_k6 := rfl
theorem m__law_sisters_k6_ap (e : Env') (S : Store) : m__law_sisters_k6 e S = (dRet (dDisp false .nt (dCons (dDisp false .nt (dCons (dDisp false .nt dNil) (dCons (dDisp false .nt dNil) (dCons (dCall false fTuple (dCons (dBin false fAdd (dDisp false .nl (dCons (dFn m__law_task 6 (dCons (dDisp false .nt dNil) (dCons (dDisp false .nt dNil) (dCons (dVar 1) (dCons (dC (.int 0)) (dCons (dDisp false .nt (dCons (dC (.str [114, 117, 110, 115])) dNil)) (dCons (dC (.int 3)) dNil))))))) dNil)) (dVar 4)) dNil)) dNil)))) (dCons (dVar 5) dNil)))) e S := rfl
def m_law_b1_k6 : DS := (dIfS (dOr (dNot (dT (dIsT isBl (dVar 6)))) (dT (dBin false fNe (dVar 6) (dVar 8)))) (dRet (dC (.bl false))) dNext)
def m_law_b1_k5 : DS := dSeq (dAsg 6 (dFn g_is_yard 2 (dCons (dVar 4) (dCons (dVar 7) dNil)))) m_law_b1_k6
def m_law_b1_k4 : DS := dSeq (dIfS (dT (dBin false (fCmp fun i j => decide (i < j)) (dVar 5) (dC (.int 3)))) (dAsgT (tgT 2 (tgs1 (tgN 7) (tgs1 (tgN 8) tgs0))) (dPick3 m__law_wide m__law_deep m__law_sisters (dVar 5) (dCons (dVar 2) dNil))) (dAsgT (tgT 2 (tgs1 (tgN 7) (tgs1 (tgN 8) tgs0))) (dFn m__law_number 2 (dCons (dVar 2) (dCons (dVar 3) dNil))))) m_law_b1_k5
def m_law_b1_k3 : DS := dSeq (dAsg 5 (dFn g__law_next 2 (dCons (dVar 2) (dCons (dC (.int 6)) dNil)))) m_law_b1_k4
def m_law_b1_k2 : DS := dSeq (dAsg 4 (dDct false (((dC (.str [109, 105, 100])), (dCall false fTuple (dCons (dMulL false (dDisp false .nl (dCons (dDisp false .nt (dCons (dC (.str [114, 101, 115, 116])) dNil)) dNil)) (dVar 3)) dNil))) :: []))) m_law_b1_k3
def m_law_b1_k1 : DS := dSeq (dAsg 3 (dFn g__law_pick 2 (dCons (dVar 2) (dCons (dDisp false .nl (dCons (dC (.int 0)) (dCons (dC (.int 1)) (dCons (dC (.int 2)) (dCons (dC (.int 5)) (dCons (dC (.int 29)) (dCons (dC (.int 30)) dNil))))))) dNil)))) m_law_b1_k2
def m_law_b1_k0 : DS := dSeq (dAsg 2 (dFn g__law_state 2 (dCons (dVar 0) (dCons (dVar 1) dNil)))) m_law_b1_k1
theorem m_law_b1_is : m_law_b1 = m_law_b1_k0 := rfl
theorem m_law_b1_k0_ap (e : Env') (S : Store) : m_law_b1_k0 e S = ((dAsg 2 (dFn g__law_state 2 (dCons (dVar 0) (dCons (dVar 1) dNil)))) e S).bind m_law_b1_k1 := rfl
theorem m_law_b1_k1_ap (e : Env') (S : Store) : m_law_b1_k1 e S = ((dAsg 3 (dFn g__law_pick 2 (dCons (dVar 2) (dCons (dDisp false .nl (dCons (dC (.int 0)) (dCons (dC (.int 1)) (dCons (dC (.int 2)) (dCons (dC (.int 5)) (dCons (dC (.int 29)) (dCons (dC (.int 30)) dNil))))))) dNil)))) e S).bind m_law_b1_k2 := rfl
theorem m_law_b1_k2_ap (e : Env') (S : Store) : m_law_b1_k2 e S = ((dAsg 4 (dDct false (((dC (.str [109, 105, 100])), (dCall false fTuple (dCons (dMulL false (dDisp false .nl (dCons (dDisp false .nt (dCons (dC (.str [114, 101, 115, 116])) dNil)) dNil)) (dVar 3)) dNil))) :: []))) e S).bind m_law_b1_k3 := rfl
theorem m_law_b1_k3_ap (e : Env') (S : Store) : m_law_b1_k3 e S = ((dAsg 5 (dFn g__law_next 2 (dCons (dVar 2) (dCons (dC (.int 6)) dNil)))) e S).bind m_law_b1_k4 := rfl
theorem m_law_b1_k4_ap (e : Env') (S : Store) : m_law_b1_k4 e S = ((dIfS (dT (dBin false (fCmp fun i j => decide (i < j)) (dVar 5) (dC (.int 3)))) (dAsgT (tgT 2 (tgs1 (tgN 7) (tgs1 (tgN 8) tgs0))) (dPick3 m__law_wide m__law_deep m__law_sisters (dVar 5) (dCons (dVar 2) dNil))) (dAsgT (tgT 2 (tgs1 (tgN 7) (tgs1 (tgN 8) tgs0))) (dFn m__law_number 2 (dCons (dVar 2) (dCons (dVar 3) dNil))))) e S).bind m_law_b1_k5 := rfl
theorem m_law_b1_k5_ap (e : Env') (S : Store) : m_law_b1_k5 e S = ((dAsg 6 (dFn g_is_yard 2 (dCons (dVar 4) (dCons (dVar 7) dNil)))) e S).bind m_law_b1_k6 := rfl
theorem m_law_b1_k6_ap (e : Env') (S : Store) : m_law_b1_k6 e S = (dIfS (dOr (dNot (dT (dIsT isBl (dVar 6)))) (dT (dBin false fNe (dVar 6) (dVar 8)))) (dRet (dC (.bl false))) dNext) e S := rfl
def m_law_k1 : DS := (dRet (dC (.bl true)))
def m_law_k0 : DS := dSeq (dFor (dRng1 (dC (.int 16))) (tgN 1) m_law_b1) m_law_k1
theorem m_law_is : m_law = fnD 9 m_law_k0 := rfl
theorem m_law_k0_ap (e : Env') (S : Store) : m_law_k0 e S = ((dFor (dRng1 (dC (.int 16))) (tgN 1) m_law_b1) e S).bind m_law_k1 := rfl
theorem m_law_k1_ap (e : Env') (S : Store) : m_law_k1 e S = (dRet (dC (.bl true))) e S := rfl
end BelLaw

namespace BelLaw
open PySem PySem.Spec PyProof.Rows L2 Bel
/-! tasks one below another -/
def nmD (b j : Nat) : List Int := List.replicate j (b : Int)
def kidsD (A b j : Nat) : List Pt := if j < A then (List.range b).map fun i : Nat => ⟨nmD b j ++ [(i : Int)], [], mid, 0⟩ else []
def oneD (A b j : Nat) : Pt := ⟨nmD b j, [], mid, if j < A then (b : Int) + 1 else 0⟩
def fnd (A b : Nat) : Nat → List Pt
  | 0 => []
  | j + 1 => fnd A b j ++ [oneD A b j] ++ kidsD A b j
theorem fnd_mid (A b : Nat) : ∀ j, ∀ p ∈ fnd A b j, p.script = mid ∧ p.group = [] ∧ p.name.length ≤ j
  | 0, p, h => by cases h
  | j + 1, p, h => by
    rcases List.mem_append.mp h with h | h
    · rcases List.mem_append.mp h with h | h
      · obtain ⟨h1, h2, h3⟩ := fnd_mid A b j p h
        exact ⟨h1, h2, by omega⟩
      · obtain rfl := List.mem_singleton.mp h
        exact ⟨rfl, rfl, by show (List.replicate j (b : Int)).length ≤ j + 1; simp⟩
    · unfold kidsD at h
      split at h
      · obtain ⟨i, _, rfl⟩ := List.mem_map.mp h
        exact ⟨rfl, rfl, by show (List.replicate j (b : Int) ++ [(i : Int)]).length ≤ j + 1; simp⟩
      · cases h
theorem fnd_yard : ∀ A ∈ List.range 6, ∀ b ∈ List.range 9, ((fnd A b (A + 1)).all Pt.ok && yardB ((fnd A b (A + 1)).map Pt.tp) []) = decide (A < 5) ∧ rise HT.lexLt ((fnd A b (A + 1)).map (·.name)) = true ∧ (fnd A b (A + 1)).length ≤ 100 := by decide +kernel
end BelLaw

namespace BelLaw
open PySem PySem.Spec PyProof.Rows L2 Bel
theorem mul_rep (b : Int) : ∀ j : Nat, (List.replicate j [W.int b]).flatten = nrs (List.replicate j b)
  | 0 => rfl
  | j + 1 => by
    have ih := mul_rep b j
    rw [List.replicate_succ, List.flatten_cons, ih, List.replicate_succ]; rfl
def q4_ : Nat → Option U
  | 0 => none
  | j + 1 => some (.v (.int (j : Int)))
def q5_ (bi : Int) : Nat → Option U
  | 0 => none
  | j + 1 => some (.v (tn (List.replicate j bi)))
def q6_ (A b : Nat) : Nat → Option U
  | 0 => none
  | j + 1 => some (.v (.lst ((kidsD A b j).map Pt.w)))
def fD (k : Nat) (mi bi : Int) (j : Nat) : Env' := [some (.o k), some (.v (.int mi)), some (.v (.int bi)), some (.v (.lst ((fnd mi.toNat bi.toNat j).map Pt.w))), q4_ j, q5_ bi j, q6_ mi.toNat bi.toNat j, none]
section
variable {S : Store} {k : Nat} {m : Int}
theorem fnd_len (A b : Nat) : ∀ j, (fnd A b j).length ≤ j * (b + 1)
  | 0 => by simp [fnd]
  | j + 1 => by
    have ih := fnd_len A b j
    have : (kidsD A b j).length ≤ b := by
      unfold kidsD
      split
      · simp
      · simp
    rw [Nat.succ_mul]
    simp only [fnd, List.length_append, List.length_singleton]
    omega
theorem deep_b3 {T : Store} {mi bi : Int} (h0 : 0 ≤ mi) (h1 : mi < 6) (h2 : 0 ≤ bi) (h3 : bi < 9) {j : Nat} (hj : j < 7) : m__law_deep_b3 ((fD k mi bi j).set 4 (some (.v (.int j)))) T = .ok (.nx (fD k mi bi (j + 1))) T := by
  have lb := fnd_len mi.toNat bi.toNat j
  have lb2 : j * (bi.toNat + 1) ≤ 6 * 9 := Nat.mul_le_mul (by omega) (by omega)
  obtain ⟨b, hb⟩ : ∃ b : Nat, bi.toNat = b := ⟨_, rfl⟩
  obtain ⟨A, hA⟩ : ∃ A : Nat, mi.toNat = A := ⟨_, rfl⟩
  have hbi : (b : Int) = bi := by omega
  have b1 : bi < 4611686018427387904 := Int.lt_of_lt_of_le h3 (by decide +kernel)
  have b2 : -4611686018427387904 ≤ bi := Int.le_trans (by decide +kernel) h2
  obtain ⟨ji, hji⟩ : ∃ ji : Int, (j : Int) = ji := ⟨_, rfl⟩
  have j0 : 0 ≤ ji := by omega
  have j1 : ji ≤ 1000 := by omega
  have j2 : ji.toNat = j := by omega
  have dj : decide (ji < mi) = decide (j < A) := by
    rw [Bool.eq_iff_iff, decide_eq_true_eq, decide_eq_true_eq]; omega
  have s1 : m__law_deep_b3_k0 ((fD k mi bi j).set 4 (some (.v (.int j)))) T = m__law_deep_b3_k1 [some (.o k), some (.v (.int mi)), some (.v (.int bi)), some (.v (.lst ((fnd A b j).map Pt.w))), some (.v (.int ji)), some (.v (tn (List.replicate j bi))), q6_ A b j, none] T := by
    rw [m__law_deep_b3_k0_ap]
    have e : fTuple [.lst (List.replicate j (W.int bi))] = some (.nt (List.replicate j (W.int bi))) := rfl
    have nr : nrs (List.replicate j bi) = List.replicate j (W.int bi) := by simp [nrs]
    simp [fD, tn, hji, j0, j1, j2, e, nr, hA, hb]
  have kd : lcL (tgN 7) m__law_deep_t2 m__law_deep_e1 [some (.o k), some (.v (.int mi)), some (.v (.int bi)), some (.v (.lst ((fnd A b j).map Pt.w))), some (.v (.int ji)), some (.v (tn (List.replicate j bi))), q6_ A b j, none] ((List.range b).map fun i : Nat => W.int (i : Int)) T = .ok ((kidsD A b j).map Pt.w) T := by
    have := lcL_mapf (t := tgN 7) (tt := m__law_deep_t2) (te := m__law_deep_e1) (env := [some (.o k), some (.v (.int mi)), some (.v (.int bi)), some (.v (.lst ((fnd A b j).map Pt.w))), some (.v (.int ji)), some (.v (tn (List.replicate j bi))), q6_ A b j, none]) (S := T) (fun i : Nat => W.int (i : Int)) (fun _ => decide (j < A)) (fun i : Nat => (Pt.w ⟨nmD b j ++ [(i : Int)], [], mid, 0⟩)) (List.range b) (fun i _ => ⟨_, rfl, by simp [m__law_deep_t2, dj], fun _ => by
        have ea : fAdd (tn (List.replicate j bi)) (.tup [.int (i : Int)]) = some (.nt (nrs (nmD b j ++ [(i : Int)]))) := by
          rw [fAdd_tup (by rw [nrs_len]; simp; omega)]
          simp [nrs, nmD, hbi]
        simp [m__law_deep_e1, ea, task_is, Pt.w, nrs]⟩)
    rw [this]
    unfold kidsD
    by_cases hq : j < A
    · rw [List.filter_eq_self.mpr (fun _ _ => decide_eq_true hq), if_pos hq, List.map_map]; rfl
    · rw [List.filter_eq_nil_iff.mpr (fun _ _ => by rw [decide_eq_false hq]; decide), if_neg hq]; rfl
  rw [m__law_deep_b3_is, s1, m__law_deep_b3_k1_ap]
  have lr : b ≤ 16777216 := by omega
  have l2 : (kidsD A b j).length ≤ 9 := by
    unfold kidsD
    split <;> simp <;> omega
  have s2 : m__law_deep_b3_k2 [some (.o k), some (.v (.int mi)), some (.v (.int bi)), some (.v (.lst ((fnd A b j).map Pt.w))), some (.v (.int ji)), some (.v (tn (List.replicate j bi))), some (.v (.lst ((kidsD A b j).map Pt.w))), none] T = .ok (.nx (fD k mi bi (j + 1))) T := by
    rw [m__law_deep_b3_k2_ap]
    have eo : (oneD A b j).w = .tup [tn (List.replicate j bi), .tup [], .str mid, .int 0, .tup [], runW, .bl false, .tup [], .tup [], .tup [], .tup [], .int (if j < A then bi + 1 else 0), .tup []] := by
      unfold oneD Pt.w nmD
      rw [hbi]; rfl
    rw [hA, hb] at lb
    rw [hb] at lb2
    have a1 : fAdd (.lst ((fnd A b j).map Pt.w)) (.lst [(oneD A b j).w]) = some (.nl ((fnd A b j ++ [oneD A b j]).map Pt.w)) := by
      rw [fAdd_lst (by simp; omega)]; simp
    have a2 : fAdd (.lst ((fnd A b j ++ [oneD A b j]).map Pt.w)) (.lst ((kidsD A b j).map Pt.w)) = some (.nl ((fnd A b (j + 1)).map Pt.w)) := by
      rw [fAdd_lst (by simp; omega)]; simp [fnd]
    rw [eo] at a1
    have fdE : fD k mi bi (j + 1) = [some (.o k), some (.v (.int mi)), some (.v (.int bi)), some (.v (.lst ((fnd A b (j + 1)).map Pt.w))), some (.v (.int ji)), some (.v (tn (List.replicate j bi))), some (.v (.lst ((kidsD A b j).map Pt.w))), none] := by
      rw [← hji, ← hA, ← hb]; rfl
    rw [fdE]
    generalize (fnd A b (j + 1)).map Pt.w = F2 at *
    generalize (fnd A b j ++ [oneD A b j]).map Pt.w = F1 at *
    generalize (fnd A b j).map Pt.w = F0 at *
    by_cases hq : j < A
    · rw [decide_eq_true hq] at dj
      rw [if_pos hq] at a1
      have em : fMul (.int (bi + 1)) (.int 1) = some (.val (.int (bi + 1))) := by rw [mul_ok (.inr ⟨by decide, by decide⟩)]; simp
      simp [dj, b2n, em, task_is, a1, a2]
    · rw [decide_eq_false hq] at dj
      rw [if_neg hq] at a1
      have em : fMul (.int (bi + 1)) (.int 0) = some (.val (.int 0)) := by rw [mul_ok (.inr ⟨by decide, by decide⟩)]; simp
      simp [dj, b2n, em, task_is, a1, a2]
  simp [b1, b2, hb, lr, kd, wipeE, s2]
theorem deep_st (hk : k < S.length) (z : Nat) : ∃ t g m', m__law_deep [.o k] (S.set k (stt m)) = .ok (.v (.tup [t, .bl g])) (S.set k (stt m')) ∧ okW t = true ∧ yardW (bk z) t = g := by
  have N := next_w (S := S) (n := m) (m := 6) hk (by decide) (by decide)
  have N2 := next_w (S := S) (n := m / 6) (m := 9) hk (by decide) (by decide)
  obtain ⟨a0, a1⟩ := Bel.rem_lt (n := m) (m := 6) (by decide)
  obtain ⟨c0, c1⟩ := Bel.rem_lt (n := m / 6) (m := 9) (by decide)
  generalize m % 6 = mi at *
  generalize m / 6 = m1 at *
  generalize m1 % 9 = bi at *
  generalize m1 / 9 = m2 at *
  obtain ⟨y1, y2, y3⟩ := fnd_yard mi.toNat (by rw [List.mem_range]; omega) bi.toNat (by rw [List.mem_range]; omega)
  have yw := Pt.yard (B := bk z) (L := fnd mi.toNat bi.toNat (mi.toNat + 1)) fun p hp => .inr (by rw [(fnd_mid _ _ _ p hp).1]; exact look_mid z)
  rw [y1] at yw
  have so := sortN_pt y2
  have lp : dLoop (tgN 4) m__law_deep_b3 ((List.range (mi.toNat + 1)).map fun i : Nat => W.int (i : Int)) (fD k mi bi 0) (S.set k (stt m2)) = .ok (.nx (fD k mi bi (mi.toNat + 1))) (S.set k (stt m2)) :=
    dLoop_rng (i := 4) (body := m__law_deep_b3) (fD k mi bi) (fun _ => S.set k (stt m2)) (mi.toNat + 1) fun j hj => deep_b3 a0 a1 c0 c1 (by omega)
  have e0 : fD k mi bi 0 = [some (.o k), some (.v (.int mi)), some (.v (.int bi)), some (.v (.lst [])), none, none, none, none] := rfl
  have b1 : mi + 1 < 4611686018427387904 := Int.lt_of_lt_of_le (show mi + 1 < 7 by omega) (by decide +kernel)
  have b2 : -4611686018427387904 ≤ mi + 1 := Int.le_trans (by decide +kernel) (show 0 ≤ mi + 1 by omega)
  have b3 : (mi + 1).toNat = mi.toNat + 1 := by omega
  have ft : fTuple [.lst ((fnd mi.toNat bi.toNat (mi.toNat + 1)).map Pt.w)] = some (.nt ((fnd mi.toNat bi.toNat (mi.toNat + 1)).map Pt.w)) := rfl
  have ok := fnd_mid mi.toNat bi.toNat (mi.toNat + 1)
  have h3 : okW (.tup ((fnd mi.toNat bi.toNat (mi.toNat + 1)).map Pt.w)) = true := by
    rw [okW_tup, Bool.and_eq_true, decide_eq_true_eq, okWs_iff, List.length_map]
    refine ⟨by omega, fun w hw => ?_⟩
    obtain ⟨p, hp, rfl⟩ := List.mem_map.mp hw
    obtain ⟨_, o2, o3⟩ := ok p hp
    exact Pt.okW (by omega) (by rw [o2]; exact Nat.zero_le _)
  refine ⟨.tup [.tup [], .tup [], .tup ((fnd mi.toNat bi.toNat (mi.toNat + 1)).map Pt.w)], _, m2, ?_, ?_, yw⟩
  · rw [e0] at lp
    have d5 : decide (mi.toNat < 5) = decide (mi < 5) := by
      rw [Bool.eq_iff_iff, decide_eq_true_eq, decide_eq_true_eq]; omega
    rw [d5]
    unfold fD at lp
    generalize (fnd mi.toNat bi.toNat (mi.toNat + 1)).map Pt.w = F at *
    generalize q4_ (mi.toNat + 1) = q4 at *
    generalize q5_ bi (mi.toNat + 1) = q5 at *
    generalize q6_ mi.toNat bi.toNat (mi.toNat + 1) = q6 at *
    simp [m__law_deep, N, N2, b1, b2, b3, lp, so, ft]
  · generalize (fnd mi.toNat bi.toNat (mi.toNat + 1)).map Pt.w = F at *
    simp only [okWs_cons, okWs_nil, h3, okW_tup]
    rfl
end
end BelLaw

namespace BelLaw
open PySem PySem.Spec PyProof.Rows L2 Bel
/-! three sisters -/
abbrev someG : List (List Int) := [[], [0], [1], [2], [3], [0, 0], [2, 2]]
def sis3 (s : List Nat) (a b c : List Int) : List Pt := [⟨[], [], s, 3⟩, ⟨[0], a, mid, 0⟩, ⟨[1], b, mid, 0⟩, ⟨[2], c, mid, 0⟩]
def el1 (s : List Nat) (a : List Int) : List (List Int) := if decide (a = [0]) && decide (s = []) then [[0]] else []
def el2 (s : List Nat) (a b : List Int) : List (List Int) := el1 s a ++ if decide (b = [1]) && decide (s = []) then [[1]] else []
def good3 (s : List Nat) (a b c : List Int) : Bool := (decide (a ∈ [[], [0]]) && decide (b ∈ [[], [1]] ++ el1 s a)) && decide (c ∈ [[], [2]] ++ el2 s a b)
theorem sis_yard : ∀ s ∈ [mid, []], ∀ a ∈ someG, ∀ b ∈ someG, ∀ c ∈ someG, ((sis3 s a b c).all Pt.ok && yardB ((sis3 s a b c).map Pt.tp) []) = good3 s a b c := by decide +kernel
section
variable {S : Store} {k : Nat} {m : Int}
theorem el_c {T : Store} {s : List Nat} {G : List W} {x0 x2 x4 x5 x6 x7 : Option U} {f : Nat → List Int} {j : Nat} (hG : ∀ i < j, fIx (.lst G) (.int (i : Int)) = some (.val (tn (f i)))) :
    lcL (tgN 8) m__law_sisters_t4 m__law_sisters_e3 [x0, some (.v (.str s)), x2, some (.v (.lst G)), x4, x5, x6, x7, none] ((List.range j).map fun i : Nat => W.int (i : Int)) T = .ok (((List.range j).filter fun i => decide (f i = [(i : Int)]) && decide (s = [])).map fun i : Nat => tn [(i : Int)]) T :=
  lcL_mapf (fun i : Nat => W.int (i : Int)) (fun i => decide (f i = [(i : Int)]) && decide (s = [])) (fun i : Nat => tn [(i : Int)]) (List.range j) fun i hi => by
    have h := hG i (List.mem_range.mp hi)
    have e : fEq (tn (f i)) (.tup [.int (i : Int)]) = some (.val (.bl (decide (f i = [(i : Int)])))) := fEq_nrs (f i) [(i : Int)]
    refine ⟨_, rfl, ?_, fun _ => by simp [m__law_sisters_e3, nrs]⟩
    cases hd : decide (f i = [(i : Int)]) with
    | false => rw [hd] at e; simp [m__law_sisters_t4, h, e]
    | true => rw [hd] at e; simp [m__law_sisters_t4, h, e]
theorem sis_st (hk : k < S.length) (z : Nat) : ∃ t g m', m__law_sisters [.o k] (S.set k (stt m)) = .ok (.v (.tup [t, .bl g])) (S.set k (stt m')) ∧ okW t = true ∧ yardW (bk z) t = g := by
  obtain ⟨w, m1, hw, e1⟩ := pickL (S := S) (n := m) hk (l := [.str mid, .str []]) (by decide) (by decide)
  obtain ⟨s, hs, rfl⟩ : ∃ s, s ∈ [mid, []] ∧ w = .str s := by
    rcases List.mem_cons.mp hw with rfl | hw
    · exact ⟨_, by simp, rfl⟩
    · rcases List.mem_cons.mp hw with rfl | hw
      · exact ⟨_, by simp, rfl⟩
      · cases hw
  have pg : ∀ n, ∃ a n', a ∈ someG ∧ g__law_pick [.o k, .v (.lst (someG.map tn))] (S.set k (stt n)) = .ok (.v (tn a)) (S.set k (stt n')) := fun n => by
    obtain ⟨w, n', hw, e⟩ := pickL (S := S) (n := n) hk (l := someG.map tn) (by decide) (by decide)
    obtain ⟨a, ha, rfl⟩ := List.mem_map.mp hw
    exact ⟨a, n', ha, e⟩
  obtain ⟨a, m2, ha, e2⟩ := pg m1
  obtain ⟨b, m3, hb, e3⟩ := pg m2
  obtain ⟨c, m4, hc, e4⟩ := pg m3
  have sy := sis_yard s hs a ha b hb c hc
  have yw := Pt.yard (B := bk z) (L := sis3 s a b c) fun p hp => by
    simp only [sis3, List.mem_cons, List.not_mem_nil, or_false] at hp
    rcases hp with rfl | rfl | rfl | rfl
    · rcases List.mem_cons.mp hs with rfl | hs
      · exact .inr (look_mid z)
      · exact .inl (by simpa using hs)
    · exact .inr (look_mid z)
    · exact .inr (look_mid z)
    · exact .inr (look_mid z)
  rw [sy] at yw
  have rg : (List.range 3).map (fun i : Nat => W.int (i : Int)) = [.int 0, .int 1, .int 2] := rfl
  have rg' : (List.range (Int.toNat 3)).map (fun i : Nat => W.int (i : Int)) = [.int 0, .int 1, .int 2] := rfl
  have sg : (W.lst [.tup [], .tup [.int 0], .tup [.int 1], .tup [.int 2], .tup [.int 3], .tup [.int 0, .int 0], .tup [.int 2, .int 2]]) = .lst (someG.map tn) := rfl
  have la : ∀ g ∈ someG, g.length ≤ 2 := by decide
  have i0 : fIx (.lst [tn a, tn b, tn c]) (.int 0) = some (.val (tn a)) := by rw [ix_pk (by decide) (by simp)]; rfl
  have i1 : fIx (.lst [tn a, tn b, tn c]) (.int 1) = some (.val (tn b)) := by rw [ix_pk (by decide) (by simp)]; rfl
  have i2 : fIx (.lst [tn a, tn b, tn c]) (.int 2) = some (.val (tn c)) := by rw [ix_pk (by decide) (by simp)]; rfl
  refine ⟨.tup [.tup [], .tup [], .tup ((sis3 s a b c).map Pt.w)], good3 s a b c, m4, ?_, ?_, yw⟩
  · have c1 : ∀ x4 x5 x6 x7, lcL (tgN 6) dYes m__law_sisters_e1 [some (.o k), some (.v (.str s)), some (.v (.lst (someG.map tn))), none, x4, x5, x6, x7, none] [.int 0, .int 1, .int 2] (S.set k (stt m1)) = .ok [tn a, tn b, tn c] (S.set k (stt m4)) := fun x4 x5 x6 x7 => by
      simp only [lcL_cons, lcL_nil, tgN_ap]
      simp [m__law_sisters_e1, -List.map_cons, -List.map_nil, e2, e3, e4]
    have c2 : ∀ x4 x5 x6 x7, lcL (tgN 6) dYes m__law_sisters_e2 [some (.o k), some (.v (.str s)), some (.v (.lst (someG.map tn))), some (.v (.lst [tn a, tn b, tn c])), x4, x5, x6, x7, none] [.int 0, .int 1, .int 2] (S.set k (stt m4)) = .ok [Pt.w ⟨[0], a, mid, 0⟩, Pt.w ⟨[1], b, mid, 0⟩, Pt.w ⟨[2], c, mid, 0⟩] (S.set k (stt m4)) := fun x4 x5 x6 x7 => by
      simp only [lcL_cons, lcL_nil, tgN_ap]
      simp [m__law_sisters_e2, i0, i1, i2, task_is, Pt.w, nrs]
    have G0 := fun x4 x5 x6 x7 => el_c (T := S.set k (stt m4)) (s := s) (G := [tn a, tn b, tn c]) (x0 := some (.o k)) (x2 := some (.v (.lst (someG.map tn)))) (f := fun i => if i = 0 then a else b) (x4 := x4) (x5 := x5) (x6 := x6) (x7 := x7) (j := 0) (fun i hi => by omega)
    have G1 := fun x4 x5 x6 x7 => el_c (T := S.set k (stt m4)) (s := s) (G := [tn a, tn b, tn c]) (x0 := some (.o k)) (x2 := some (.v (.lst (someG.map tn)))) (f := fun i => if i = 0 then a else b) (x4 := x4) (x5 := x5) (x6 := x6) (x7 := x7) (j := 1) (fun i hi => by obtain rfl : i = 0 := (by omega); exact i0)
    have G2 := fun x4 x5 x6 x7 => el_c (T := S.set k (stt m4)) (s := s) (G := [tn a, tn b, tn c]) (x0 := some (.o k)) (x2 := some (.v (.lst (someG.map tn)))) (f := fun i => if i = 0 then a else b) (x4 := x4) (x5 := x5) (x6 := x6) (x7 := x7) (j := 2) (fun i hi => by
      obtain rfl | rfl : i = 0 ∨ i = 1 := by omega
      · exact i0
      · exact i1)
    have g0 : (((List.range 0).filter fun i : Nat => decide ((if i = 0 then a else b) = [(i : Int)]) && decide (s = [])).map fun i : Nat => tn [(i : Int)]) = ([] : List (List Int)).map tn := rfl
    have g1 : (((List.range 1).filter fun i : Nat => decide ((if i = 0 then a else b) = [(i : Int)]) && decide (s = [])).map fun i : Nat => tn [(i : Int)]) = (el1 s a).map tn := by
      unfold el1
      by_cases q1 : a = [0] <;> by_cases q2 : s = [] <;> simp [q1, q2, List.range_succ]
    have g2 : (((List.range 2).filter fun i : Nat => decide ((if i = 0 then a else b) = [(i : Int)]) && decide (s = [])).map fun i : Nat => tn [(i : Int)]) = (el2 s a b).map tn := by
      unfold el2 el1
      by_cases q1 : a = [0] <;> by_cases q2 : s = [] <;> by_cases q3 : b = [1] <;> simp [q1, q2, q3, List.range_succ]
    rw [g0] at G0
    rw [g1] at G1
    rw [g2] at G2
    have I0 := inO_nrs a ([[], [0]] ++ [])
    have I1 := inO_nrs b ([[], [1]] ++ el1 s a)
    have I2 := inO_nrs c ([[], [2]] ++ el2 s a b)
    have le1 : (el1 s a).length ≤ 1 := by unfold el1; split <;> simp
    have le2 : (el2 s a b).length ≤ 2 := by unfold el2; split <;> simp <;> omega
    have A0 : fAdd (.lst [.tup [], .tup [.int 0]]) (.lst (([] : List (List Int)).map tn)) = some (.nl (([[], [0]] ++ [] : List (List Int)).map tn)) := fAdd_lst (by simp)
    have A1 : fAdd (.lst [.tup [], .tup [.int 1]]) (.lst ((el1 s a).map tn)) = some (.nl (([[], [1]] ++ el1 s a).map tn)) := by rw [fAdd_lst (by simp; omega), List.map_append]; rfl
    have A2 : fAdd (.lst [.tup [], .tup [.int 2]]) (.lst ((el2 s a b).map tn)) = some (.nl (([[], [2]] ++ el2 s a b).map tn)) := by rw [fAdd_lst (by simp; omega), List.map_append]; rfl
    have a00 : decide (a ∈ ([[], [0]] ++ [] : List (List Int))) = decide (a ∈ [[], [0]]) := rfl
    rw [a00] at I0
    unfold good3
    have ft : ∀ l, fTuple [.lst l] = some (.nt l) := fun l => rfl
    have s3e : (sis3 s a b c).map Pt.w = [Pt.w ⟨[], [], s, 3⟩, Pt.w ⟨[0], a, mid, 0⟩, Pt.w ⟨[1], b, mid, 0⟩, Pt.w ⟨[2], c, mid, 0⟩] := rfl
    have rw0 : Pt.w ⟨[], [], s, 3⟩ = .tup [.tup [], .tup [], .str s, .int 0, .tup [], runW, .bl false, .tup [], .tup [], .tup [], .tup [], .int 3, .tup []] := rfl
    have a4 : ∀ x y z : W, fAdd (.lst [Pt.w ⟨[], [], s, 3⟩]) (.lst [x, y, z]) = some (.nl [Pt.w ⟨[], [], s, 3⟩, x, y, z]) := fun x y z => fAdd_lst (by simp)
    rw [s3e]
    generalize Pt.w ⟨[0], a, mid, 0⟩ = W1 at *
    generalize Pt.w ⟨[1], b, mid, 0⟩ = W2 at *
    generalize Pt.w ⟨[2], c, mid, 0⟩ = W3 at *
    rw [rw0] at a4 ⊢
    generalize decide (a ∈ [[], [0]]) = B0 at *
    generalize decide (b ∈ [[], [1]] ++ el1 s a) = B1 at *
    generalize decide (c ∈ [[], [2]] ++ el2 s a b) = B2 at *
    generalize ([[], [0]] ++ [] : List (List Int)).map tn = K0 at *
    generalize ([[], [1]] ++ el1 s a).map tn = K1 at *
    generalize ([[], [2]] ++ el2 s a b).map tn = K2 at *
    generalize ([] : List (List Int)).map tn = J0 at *
    generalize (el1 s a).map tn = J1 at *
    generalize (el2 s a b).map tn = J2 at *
    generalize tn a = ta at *
    generalize tn b = tb at *
    generalize tn c = tc at *
    generalize someG.map tn = GL at *
    have r0 : (List.range (Int.toNat 0)).map (fun i : Nat => W.int (i : Int)) = (List.range 0).map fun i : Nat => W.int (i : Int) := rfl
    have b5 : ∀ (j : Int) (x7 : Option U) (x5 : Bool) (J K : List W) (t : W) (B : Bool), 0 ≤ j → j ≤ 100 → fIx (.lst [ta, tb, tc]) (.int j) = some (.val t) → fAdd (.lst [.tup [], .tup [.int j]]) (.lst J) = some (.nl K) → fInO t (.lst K) = some (.val (.bl B)) →
        (∀ x4 x5 x6 x7, lcL (tgN 8) m__law_sisters_t4 m__law_sisters_e3 [some (.o k), some (.v (.str s)), some (.v (.lst GL)), some (.v (.lst [ta, tb, tc])), x4, x5, x6, x7, none] ((List.range j.toNat).map fun i : Nat => W.int (i : Int)) (S.set k (stt m4)) = .ok J (S.set k (stt m4))) →
        m__law_sisters_b5 [some (.o k), some (.v (.str s)), some (.v (.lst GL)), some (.v (.lst [ta, tb, tc])), some (.v (.lst [W1, W2, W3])), some (.v (.bl x5)), some (.v (.int j)), x7, none] (S.set k (stt m4)) =
        .ok (.nx [some (.o k), some (.v (.str s)), some (.v (.lst GL)), some (.v (.lst [ta, tb, tc])), some (.v (.lst [W1, W2, W3])), some (.v (.bl (x5 && B))), some (.v (.int j)), some (.v (.lst J)), none]) (S.set k (stt m4)) := fun j x7 x5 J K t B h0 h1 h2 h3 h4 h5 => by
      have q1 : j < 4611686018427387904 := Int.lt_of_le_of_lt h1 (by decide +kernel)
      have q2 : -4611686018427387904 ≤ j := Int.le_trans (by decide +kernel) h0
      have q3 : j.toNat ≤ 16777216 := by omega
      rw [m__law_sisters_b5_is, m__law_sisters_b5_k0_ap]
      simp [q1, q2, q3, h5, wipeE]
      rw [m__law_sisters_b5_k1_ap]
      cases x5 <;> simp [h2, h3, h4]
    have L0 := fun x7 x5 => b5 0 x7 x5 J0 K0 ta B0 (by decide) (by decide) i0 A0 I0 G0
    have L1 := fun x7 x5 => b5 1 x7 x5 J1 K1 tb B1 (by decide) (by decide) i1 A1 I1 G1
    have L2 := fun x7 x5 => b5 2 x7 x5 J2 K2 tc B2 (by decide) (by decide) i2 A2 I2 G2
    rw [m__law_sisters_is, fnD_ap, m__law_sisters_k0_ap]
    simp [e1]
    rw [m__law_sisters_k1_ap]
    simp
    rw [sg, m__law_sisters_k2_ap]
    simp [wipeE, rg, c1]
    rw [m__law_sisters_k3_ap]
    simp [wipeE, rg, c2]
    rw [m__law_sisters_k4_ap]
    simp
    rw [m__law_sisters_k5_ap]
    simp [rg, dLoop_cons, L0, L1, L2]
    rw [m__law_sisters_k6_ap]
    simp [task_is, a4, ft]
  · have h3 : okW (.tup ((sis3 s a b c).map Pt.w)) = true := by
      have := la a ha
      have := la b hb
      have := la c hc
      have o0 : okW (Pt.w ⟨[], [], s, 3⟩) = true := Pt.okW (by show 0 ≤ 1000; decide) (by show 0 ≤ 1000; decide)
      have o1 : okW (Pt.w ⟨[0], a, mid, 0⟩) = true := Pt.okW (by show 1 ≤ 1000; decide) (by show a.length ≤ 1000; omega)
      have o2 : okW (Pt.w ⟨[1], b, mid, 0⟩) = true := Pt.okW (by show 1 ≤ 1000; decide) (by show b.length ≤ 1000; omega)
      have o3 : okW (Pt.w ⟨[2], c, mid, 0⟩) = true := Pt.okW (by show 1 ≤ 1000; decide) (by show c.length ≤ 1000; omega)
      show (decide ([Pt.w ⟨[], [], s, 3⟩, Pt.w ⟨[0], a, mid, 0⟩, Pt.w ⟨[1], b, mid, 0⟩, Pt.w ⟨[2], c, mid, 0⟩].length ≤ 1000) && okWs [Pt.w ⟨[], [], s, 3⟩, Pt.w ⟨[0], a, mid, 0⟩, Pt.w ⟨[1], b, mid, 0⟩, Pt.w ⟨[2], c, mid, 0⟩]) = true
      simp only [okWs_cons, okWs_nil, o0, o1, o2, o3]
      rfl
    generalize (sis3 s a b c).map Pt.w = F at *
    simp only [okWs_cons, okWs_nil, h3, okW_tup]
    rfl
end
end BelLaw

namespace BelLaw
open PySem PySem.Spec PyProof.Rows L2 Bel
theorem rest_rep (z : Nat) : (List.replicate z [W.tup [.str [114, 101, 115, 116]]]).flatten = List.replicate z restW := by
  induction z with
  | zero => rfl
  | succ z ih => rw [List.replicate_succ, List.flatten_cons, ih, List.replicate_succ]; rfl
theorem turn {ns : List Int} {j : Int} (h0 : 0 ≤ j) {S : Store} (hS : S[0]? = some (.scr (ns.map W.int))) {x2 x3 x4 x5 x6 x7 x8 : Option U} :
    ∃ (E : Env') (T : Store), m_law_b1 [some (.o 0), some (.v (.int j)), x2, x3, x4, x5, x6, x7, x8] S = .ok (.nx E) T ∧ T[0]? = some (.scr (ns.map W.int)) ∧ E.length = 9 ∧ E[0]? = some (some (.o 0)) := by
  obtain ⟨m, st⟩ := state_is (S := S) (j := j) hS h0
  have n0 := lt_of_st hS
  have hT : ∀ n n', (S ++ [stt n]).set S.length (stt n') = S ++ [stt n'] := fun n n' => by rw [List.set_append_right _ _ (by omega)]; simp
  have hlt : ∀ n, S.length < (S ++ [stt n]).length := fun n => by simp
  obtain ⟨w, m1, hw, e1⟩ := pickL (S := S ++ [stt m]) (n := m) (hlt m) (l := sizes.map fun z : Nat => W.int (z : Int)) (by decide) (by decide)
  obtain ⟨z, hz, rfl⟩ := List.mem_map.mp hw
  have N := next_w (S := S ++ [stt m]) (n := m1) (m := 6) (hlt m) (by decide) (by decide)
  obtain ⟨a0, a1⟩ := Bel.rem_lt (n := m1) (m := 6) (by decide)
  generalize m1 % 6 = q at *
  generalize m1 / 6 = m2 at *
  have z30 : ((z : Nat) : Int) ≤ 1000 := by
    have : ∀ z ∈ sizes, ((z : Nat) : Int) ≤ 1000 := by decide
    exact this z hz
  obtain ⟨zi, hzi⟩ : ∃ zi : Int, (z : Int) = zi := ⟨_, rfl⟩
  have z0 : 0 ≤ zi := by omega
  have zt : zi.toNat = z := by omega
  have res : ∃ t g m3, (if q < 3 then (dPick3 m__law_wide m__law_deep m__law_sisters (dVar 5) (dCons (dVar 2) dNil)) else (dFn m__law_number 2 (dCons (dVar 2) (dCons (dVar 3) dNil)))) [some (.o 0), some (.v (.int j)), some (.o S.length), some (.v (.int zi)), some (.v (.dct ((bk z).map bw))), some (.v (.int q)), x6, x7, x8] (S ++ [stt m2]) = .ok (.v (.tup [t, .bl g])) (S ++ [stt m3]) ∧ okW t = true ∧ yardW (bk z) t = g := by
    obtain rfl | rfl | rfl | hq : q = 0 ∨ q = 1 ∨ q = 2 ∨ 3 ≤ q := by omega
    · obtain ⟨t, g, m3, e, o1, o2⟩ := wide_st (S := S ++ [stt m2]) (m := m2) (hlt m2) z
      rw [hT, hT] at e
      exact ⟨t, g, m3, by simp [dPick3, e], o1, o2⟩
    · obtain ⟨t, g, m3, e, o1, o2⟩ := deep_st (S := S ++ [stt m2]) (m := m2) (hlt m2) z
      rw [hT, hT] at e
      exact ⟨t, g, m3, by simp [dPick3, e], o1, o2⟩
    · obtain ⟨t, g, m3, e, o1, o2⟩ := sis_st (S := S ++ [stt m2]) (m := m2) (hlt m2) z
      rw [hT, hT] at e
      exact ⟨t, g, m3, by simp [dPick3, e], o1, o2⟩
    · obtain ⟨t, g, m3, e, o1, o2⟩ := number_st (S := S ++ [stt m2]) (m := m2) (hlt m2) hz
      rw [hT, hT, hzi] at e
      rw [if_neg (by omega)]
      exact ⟨t, g, m3, by simp [e], o1, by rw [yardW_is]; exact o2⟩
  obtain ⟨t, g, m3, e, o1, o2⟩ := res
  have yw := yard_w (S := S ++ [stt m3]) (B := bk z) o1
  rw [o2] at yw
  have bkW : W.dct ((bk z).map bw) = .dct [(.str mid, .tup (List.replicate z restW))] := rfl
  have ft : fTuple [.lst (List.replicate z restW)] = some (.nt (List.replicate z restW)) := rfl
  have mr := rest_rep z
  refine ⟨[some (.o 0), some (.v (.int j)), some (.o S.length), some (.v (.int zi)), some (.v (.dct ((bk z).map bw))), some (.v (.int q)), some (.v (.bl g)), some (.v t), some (.v (.bl g))], S ++ [stt m3], ?_, by rw [List.getElem?_append_left n0]; exact hS, rfl, rfl⟩
  rw [hT, hT] at e1
  rw [hT, hT] at N
  rw [hzi] at e1 z30
  simp only [sizes, List.map_cons, List.map_nil] at e1
  rw [bkW] at e yw ⊢
  rw [m_law_b1_is, m_law_b1_k0_ap]
  simp [st]
  rw [m_law_b1_k1_ap]
  simp at e1
  simp [e1]
  rw [m_law_b1_k2_ap]
  simp [z0, z30, zt, ft, mr, mrgW, putW, eqK]
  rw [m_law_b1_k3_ap]
  simp [N]
  rw [m_law_b1_k4_ap]
  have s4 : (dIfS (dT (dBin false (fCmp fun i j => decide (i < j)) (dVar 5) (dC (.int 3)))) (dAsgT (tgT 2 (tgs1 (tgN 7) (tgs1 (tgN 8) tgs0))) (dPick3 m__law_wide m__law_deep m__law_sisters (dVar 5) (dCons (dVar 2) dNil))) (dAsgT (tgT 2 (tgs1 (tgN 7) (tgs1 (tgN 8) tgs0))) (dFn m__law_number 2 (dCons (dVar 2) (dCons (dVar 3) dNil))))) [some (.o 0), some (.v (.int j)), some (.o S.length), some (.v (.int zi)), some (.v (.dct [(.str mid, .tup (List.replicate z restW))])), some (.v (.int q)), x6, x7, x8] (S ++ [stt m2]) =
      .ok (.nx [some (.o 0), some (.v (.int j)), some (.o S.length), some (.v (.int zi)), some (.v (.dct [(.str mid, .tup (List.replicate z restW))])), some (.v (.int q)), x6, some (.v t), some (.v (.bl g))]) (S ++ [stt m3]) := by
    by_cases hq : q < 3
    · rw [if_pos hq] at e
      generalize dPick3 m__law_wide m__law_deep m__law_sisters (dVar 5) (dCons (dVar 2) dNil) = D at *
      simp [hq, e]
    · rw [if_neg hq] at e
      generalize dFn m__law_number 2 (dCons (dVar 2) (dCons (dVar 3) dNil)) = D at *
      simp [hq, e]
  rw [s4]
  simp
  rw [m_law_b1_k5_ap]
  simp [yw]
  rw [m_law_b1_k6_ap]
  cases g <;> simp
theorem list9 {e : Env'} (h : e.length = 9) : ∃ y0 y1 y2 y3 y4 y5 y6 y7 y8, e = [y0, y1, y2, y3, y4, y5, y6, y7, y8] := by
  match e, h with
  | [y0, y1, y2, y3, y4, y5, y6, y7, y8], _ => exact ⟨_, _, _, _, _, _, _, _, _, rfl⟩
theorem law_true : ∀ ns : List Int, ns.length ≤ 63 → ∃ S', m_law [.o 0] [.scr (ns.map W.int)] = .ok (.v (.bl true)) S' := fun ns _ => by
  obtain ⟨e', S', e, h1, h2, h3⟩ := dLoop_inv (t := tgN 1) (body := m_law_b1) (fun e S => e.length = 9 ∧ e[0]? = some (some (.o 0)) ∧ S[0]? = some (.scr (ns.map W.int))) ((List.range 16).map fun (i : Nat) => W.int (i : Int)) (some (.o 0) :: List.replicate 8 none) [.scr (ns.map W.int)] ⟨rfl, rfl, rfl⟩ (by
    rintro w hw e S ⟨h1, h2, h4⟩
    obtain ⟨z, _, rfl⟩ := List.mem_map.mp hw
    obtain ⟨y0, y1, y2, y3, y4, y5, y6, y7, y8, rfl⟩ := list9 h1
    have z0 : y0 = some (.o 0) := by simpa using h2
    subst z0
    obtain ⟨E, T, q1, q2, q3, q4⟩ := turn (ns := ns) (j := (z : Int)) (by omega) h4 (x2 := y2) (x3 := y3) (x4 := y4) (x5 := y5) (x6 := y6) (x7 := y7) (x8 := y8)
    exact ⟨_, E, T, rfl, q1, q3, q4, q2⟩)
  have r := for_rng (d := dC (.int 16)) (e := some (.o 0) :: List.replicate 8 none) (S := [.scr (ns.map W.int)]) (t := tgN 1) (b := m_law_b1) (i := 16) rfl (by decide) (by decide)
  have r2 := r.trans e
  refine ⟨S'.take 1, ?_⟩
  rw [m_law_is, fnD_ap]
  show (match m_law_k0 (some (.o 0) :: List.replicate 8 none) [.scr (ns.map W.int)] with
    | .ok (.nx _) S' => fin 1 (.v .non) S'
    | .ok (.rt u) S' => fin 1 u S'
    | .ex c _ S' => .ex c (S'.take 1)
    | _ => .no) = _
  rw [m_law_k0_ap, r2]
  simp
  rw [m_law_k1_ap]
  simp
end BelLaw

/-! the law's derivations -/
namespace BelLaw
open PySem PySem.Spec PyProof.Rows L2 Bel
/-! ### the top: what the head tells -/
def top (i : Nat) : Stmt := PySem.Challenge.pw_bellyard_k18_bounds_of_yards.main.body.getD i (.Pass ⟨0, 0, 0, 0⟩)
abbrev dd (x : Str) (i : Nat) : He.DefD := ⟨(x, none), x, x, defArgs (top i), defBody (top i), defScope (top i), [], []⟩
def fn : List He.DefD := [dd "_law_state" 50, dd "_law_next" 51, dd "_law_pick" 52, dd "is_between" 32, dd "are_between" 33, dd "is_task_name" 36, dd "is_rising" 35, dd "sisters_by" 46, dd "stands_right" 47, dd "can_be_heard_yet" 43, dd "are_pairs" 34, dd "is_name" 5, dd "are_boxes" 39, dd "is_status" 37, dd "is_how" 38, dd "are_bells" 40, dd "are_traps" 41, dd "are_ways" 42, dd "is_idle" 44, dd "is_task" 45, dd "is_yard" 48, dd "_law_task" 53, dd "_law_with" 54, dd "_law_number" 57, dd "_law_wide" 55, dd "_law_deep" 56, dd "_law_sisters" 58, dd "law" 59]
def fa : List He.Fa := [.glo "_law_state", .glo "_law_next", .glo "_law_pick", .glo "is_between", .glo "are_between", .glo "is_task_name", .glo "is_rising", .glo "sisters_by", .glo "stands_right", .glo "can_be_heard_yet", .glo "are_pairs", .glo "is_name", .glo "are_boxes", .glo "is_status", .glo "is_how", .glo "are_bells", .glo "are_traps", .glo "are_ways", .glo "is_idle", .glo "is_task", .glo "is_yard", .glo "_law_task", .glo "_law_with", .glo "_law_number", .glo "_law_wide", .glo "_law_deep", .glo "_law_sisters", .glo "law", .free "len", .free "abs", .free "range", .free "isinstance", .free "int", .free "bool", .free "tuple", .free "all", .free "dict", .free "str", .free "sorted", .free "sum"]
def kc : List Con' := [("MOST_NAMED", c_MOST_NAMED), ("MOST_DEEP", c_MOST_DEEP), ("SCRIPT", c_SCRIPT), ("NAME", c_NAME), ("GROUP", c_GROUP), ("UNTOLD", c_UNTOLD), ("STARTED", c_STARTED), ("HOW", c_HOW), ("FIRST_QUIET", c_FIRST_QUIET), ("FALLS", c_FALLS), ("MOST_LETTERS", c_MOST_LETTERS), ("KEPT", c_KEPT), ("BELLS_words", c_BELLS_words), ("LETTERS", c_LETTERS), ("MOST_NUMBER", c_MOST_NUMBER), ("BY_BELLS", c_BY_BELLS), ("STOPPING", c_STOPPING), ("LAST_BELL", c_LAST_BELL), ("FIRST_SOFT", c_FIRST_SOFT), ("SAYS", c_SAYS), ("WAYS", c_WAYS), ("TRAPS", c_TRAPS), ("HELD", c_HELD), ("BELLS_yards", c_BELLS_yards), ("BOXES", c_BOXES), ("PLACE", c_PLACE), ("PARTS", c_PARTS), ("MOST_OF_NONE", c_MOST_OF_NONE), ("MOST_STARTED", c_MOST_STARTED)]
def kd : List Kd := []
abbrev be : Bool := false
theorem bo_len : bootBuiltins "len" = some (.builtin "len") := by decide +kernel
theorem bo_abs : bootBuiltins "abs" = some (.builtin "abs") := by decide +kernel
theorem bo_int : bootBuiltins "int" = some (.type "int") := by decide +kernel
theorem bo_bool : bootBuiltins "bool" = some (.type "bool") := by decide +kernel
theorem bo_tuple : bootBuiltins "tuple" = some (.type "tuple") := by decide +kernel
theorem bo_all : bootBuiltins "all" = some (.builtin "all") := by decide +kernel
theorem bo_dict : bootBuiltins "dict" = some (.type "dict") := by decide +kernel
theorem bo_str : bootBuiltins "str" = some (.type "str") := by decide +kernel
theorem bo_sorted : bootBuiltins "sorted" = some (.builtin "sorted") := by decide +kernel
theorem bo_sum : bootBuiltins "sum" = some (.builtin "sum") := by decide +kernel
theorem lt_0 : Lit "" [] := ⟨by decide +kernel, by rw [sizeLine_is]; decide, by decide +kernel⟩
theorem lt_1 : Lit "runs" [114, 117, 110, 115] := ⟨by decide +kernel, by rw [sizeLine_is]; decide, by decide +kernel⟩
theorem lt_2 : Lit "ended" [101, 110, 100, 101, 100] := ⟨by decide +kernel, by rw [sizeLine_is]; decide, by decide +kernel⟩
theorem lt_3 : Lit "stops" [115, 116, 111, 112, 115] := ⟨by decide +kernel, by rw [sizeLine_is]; decide, by decide +kernel⟩
theorem lt_4 : Lit "mid" [109, 105, 100] := ⟨by decide +kernel, by rw [sizeLine_is]; decide, by decide +kernel⟩
theorem lt_5 : Lit "x" [120] := ⟨by decide +kernel, by rw [sizeLine_is]; decide, by decide +kernel⟩
theorem lt_6 : Lit "rest" [114, 101, 115, 116] := ⟨by decide +kernel, by rw [sizeLine_is]; decide, by decide +kernel⟩
section
variable {P : Program} {w : World} {K : PySem.W.Frag} {mg : Str → Option Value} {base : Heap} {ec : Nat → Value}
theorem sc__law_state : FnScope ["_law_script", "_law_k", "_law_cell", "_law_found", "_law_j", "_law_one"] ["_law_script", "_law_k"] (defScope (top 50)) := ⟨rfl, rfl, rfl, by decide +kernel, rfl, by decide +kernel, by decide +kernel⟩
theorem ok__law_state (Z : HdE K mg w fa fn kc kd be) : HasG P w K mg base ec "_law_state" 1 2 g__law_state := by
  exact Z.defG_ 0 0 rfl rfl sc__law_state rfl rfl (fun _ _ _ _ _ _ us hl => match us, hl with | [_, _], _ => rfl) fun f cdv A outer s H E hr =>
    (bv_cons (sv_set (i := 2) sc__law_state.nd rfl (by first | exact .inl rfl | exact .inr rfl) (ev_if (tv_cmp (fun _ _ => op_lt) (ow_cmp _) (ev_var (i := 1) rfl (by first | exact .inl rfl | exact .inr (.inl rfl) | exact .inr (.inr rfl))) (ev_callB (own := false) (fun _ _ => call_lenW) oc_len rfl (Z.free 28) bo_len (av_cons (ev_var (i := 0) rfl (by first | exact .inl rfl | exact .inr (.inl rfl) | exact .inr (.inr rfl))) av_nil)) rfl) (ev_callB (own := false) (fun _ _ => call_abs) oc_abs rfl (Z.free 29) bo_abs (av_cons (ev_ix (r65 hr.r) (ev_var (i := 0) rfl (by first | exact .inl rfl | exact .inr (.inl rfl) | exact .inr (.inr rfl))) (ev_var (i := 1) rfl (by first | exact .inl rfl | exact .inr (.inl rfl) | exact .inr (.inr rfl)))) av_nil)) ev_int))
    (bv_cons (sv_if (tv_cmp (fun _ _ => op_ge) (ow_cmp _) (ev_var (i := 2) rfl (by first | exact .inl rfl | exact .inr (.inl rfl) | exact .inr (.inr rfl))) (ev_bin (own := false) (fun _ _ => op_pow) ow_pow ev_int ev_int) rfl) (bv_one (sv_ret (ev_lst (own := true) (av_cons (ev_bin (own := false) (fun _ _ => op_sub) ow_sub (ev_var (i := 2) rfl (by first | exact .inl rfl | exact .inr (.inl rfl) | exact .inr (.inr rfl))) (ev_bin (own := false) (fun _ _ => op_pow) ow_pow ev_int ev_int)) av_nil)))) bv_nil)
    (bv_cons (sv_set (i := 3) sc__law_state.nd rfl (by first | exact .inl rfl | exact .inr rfl) ev_int)
    (bv_cons (sv_for rfl (iv_rng1 rfl (Z.free 30) ev_int) (gv_name (i := 4) sc__law_state.nd rfl (by first | exact .inl rfl | exact .inr rfl)) (bv_cons (sv_set (i := 5) sc__law_state.nd rfl (by first | exact .inl rfl | exact .inr rfl) (ev_bin (own := false) (fun _ _ => op_mod) ow_mod (ev_bin (own := false) (fun _ _ => op_mul) ow_mul (ev_bin (own := false) (fun _ _ => op_addW) ow_add (ev_var (i := 2) rfl (by first | exact .inl rfl | exact .inr (.inl rfl) | exact .inr (.inr rfl))) (ev_bin (own := false) (fun _ _ => op_mul) ow_mul ev_int (ev_bin (own := false) (fun _ _ => op_addW) ow_add (ev_bin (own := false) (fun _ _ => op_addW) ow_add (ev_bin (own := false) (fun _ _ => op_mul) ow_mul ev_int (ev_var (i := 1) rfl (by first | exact .inl rfl | exact .inr (.inl rfl) | exact .inr (.inr rfl)))) (ev_var (i := 4) rfl (by first | exact .inl rfl | exact .inr (.inl rfl) | exact .inr (.inr rfl)))) ev_int))) ev_int) ev_int))
    (bv_one (sv_set (i := 3) sc__law_state.nd rfl (by first | exact .inl rfl | exact .inr rfl) (ev_bin (own := false) (fun _ _ => op_addW) ow_add (ev_bin (own := false) (fun _ _ => op_mul) ow_mul (ev_var (i := 3) rfl (by first | exact .inl rfl | exact .inr (.inl rfl) | exact .inr (.inr rfl))) ev_int) (ev_bin (own := false) (fun _ _ => op_mod) ow_mod (ev_bin (own := false) (fun _ _ => op_mul) ow_mul (ev_var (i := 5) rfl (by first | exact .inl rfl | exact .inr (.inl rfl) | exact .inr (.inr rfl))) (ev_bin (own := false) (fun _ _ => op_addW) ow_add (ev_bin (own := false) (fun _ _ => op_addW) ow_add (ev_var (i := 5) rfl (by first | exact .inl rfl | exact .inr (.inl rfl) | exact .inr (.inr rfl))) (ev_bin (own := false) (fun _ _ => op_mul) ow_mul ev_int (ev_var (i := 4) rfl (by first | exact .inl rfl | exact .inr (.inl rfl) | exact .inr (.inr rfl))))) ev_int)) ev_int))))))
    (bv_one (sv_ret (ev_lst (own := true) (av_cons (ev_var (i := 3) rfl (by first | exact .inl rfl | exact .inr (.inl rfl) | exact .inr (.inr rfl))) av_nil))))))))
theorem sc__law_next : FnScope ["_law_state_here", "_law_many", "_law_found"] ["_law_state_here", "_law_many"] (defScope (top 51)) := ⟨rfl, rfl, rfl, by decide +kernel, rfl, by decide +kernel, by decide +kernel⟩
theorem ok__law_next (Z : HdE K mg w fa fn kc kd be) : HasG P w K mg base ec "_law_next" 1 2 g__law_next := by
  exact Z.defG_ 1 1 rfl rfl sc__law_next rfl rfl (fun _ _ _ _ _ _ us hl => match us, hl with | [_, _], _ => rfl) fun f cdv A outer s H E hr =>
    (bv_cons (sv_set (i := 2) sc__law_next.nd rfl (by first | exact .inl rfl | exact .inr rfl) (ev_bin (own := false) (fun _ _ => op_mod) ow_mod (ev_ix (r65 hr.r) (ev_var (i := 0) rfl (by first | exact .inl rfl | exact .inr (.inl rfl) | exact .inr (.inr rfl))) ev_int) (ev_var (i := 1) rfl (by first | exact .inl rfl | exact .inr (.inl rfl) | exact .inr (.inr rfl)))))
    (bv_cons (sv_setL (ev_var (i := 0) rfl (by first | exact .inl rfl | exact .inr (.inl rfl) | exact .inr (.inr rfl))) ev_int (ev_bin (own := false) (fun _ _ => op_fdiv) ow_div (ev_ix (r65 hr.r) (ev_var (i := 0) rfl (by first | exact .inl rfl | exact .inr (.inl rfl) | exact .inr (.inr rfl))) ev_int) (ev_var (i := 1) rfl (by first | exact .inl rfl | exact .inr (.inl rfl) | exact .inr (.inr rfl)))))
    (bv_one (sv_ret (ev_var (i := 2) rfl (by first | exact .inl rfl | exact .inr (.inl rfl) | exact .inr (.inr rfl)))))))
theorem sc__law_pick : FnScope ["_law_state_here", "_law_some"] ["_law_state_here", "_law_some"] (defScope (top 52)) := ⟨rfl, rfl, rfl, by decide +kernel, rfl, by decide +kernel, by decide +kernel⟩
theorem ok__law_pick (Z : HdE K mg w fa fn kc kd be) : HasG P w K mg base ec "_law_pick" 2 2 g__law_pick := by
  have h__law_next := ok__law_next (P := P) (w := w) (base := base) (ec := ec) Z
  exact Z.defG_ 2 2 rfl rfl sc__law_pick rfl rfl (fun _ _ _ _ _ _ us hl => match us, hl with | [_, _], _ => rfl) fun f cdv A outer s H E hr =>
    (bv_one (sv_ret (ev_ix (r65 hr.r) (ev_var (i := 1) rfl (by first | exact .inl rfl | exact .inr (.inl rfl) | exact .inr (.inr rfl))) (ev_fnG (h__law_next.mono (by decide)) hr rfl (av_cons (ev_var (i := 0) rfl (by first | exact .inl rfl | exact .inr (.inl rfl) | exact .inr (.inr rfl))) (av_cons (ev_callB (own := false) (fun _ _ => call_lenW) oc_len rfl (Z.free 28) bo_len (av_cons (ev_var (i := 1) rfl (by first | exact .inl rfl | exact .inr (.inl rfl) | exact .inr (.inr rfl))) av_nil)) av_nil))))))
theorem sc_is_between : FnScope ["thing", "least", "most"] ["thing", "least", "most"] (defScope (top 32)) := ⟨rfl, rfl, rfl, by decide +kernel, rfl, by decide +kernel, by decide +kernel⟩
theorem ok_is_between (Z : HdE K mg w fa fn kc kd be) : HasG P w K mg base ec "is_between" 1 3 g_is_between := by
  exact Z.defG_ 3 3 rfl rfl sc_is_between rfl rfl (fun _ _ _ _ _ _ us hl => match us, hl with | [_, _, _], _ => rfl) fun f cdv A outer s H E hr =>
    (bv_one (sv_ret (ev_and (ev_isT ist_int (ev_var (i := 0) rfl (by first | exact .inl rfl | exact .inr (.inl rfl) | exact .inr (.inr rfl))) rfl (Z.free 31) rfl (Z.free 32) bo_int) (ev_and (ev_not (ev_isT ist_bool (ev_var (i := 0) rfl (by first | exact .inl rfl | exact .inr (.inl rfl) | exact .inr (.inr rfl))) rfl (Z.free 31) rfl (Z.free 33) bo_bool)) (ev_one (ev_chain (fun _ _ => op_le) (fun _ _ => op_le) (ow_cmp _) (ow_cmp _) (ev_var (i := 1) rfl (by first | exact .inl rfl | exact .inr (.inl rfl) | exact .inr (.inr rfl))) (ev_var (i := 0) rfl (by first | exact .inl rfl | exact .inr (.inl rfl) | exact .inr (.inr rfl))) (ev_var (i := 2) rfl (by first | exact .inl rfl | exact .inr (.inl rfl) | exact .inr (.inr rfl)))))))))
theorem sc_are_between : FnScope ["thing", "least", "most", "one"] ["thing", "least", "most"] (defScope (top 33)) := ⟨rfl, rfl, rfl, by decide +kernel, rfl, by decide +kernel, by decide +kernel⟩
theorem ok_are_between (Z : HdE K mg w fa fn kc kd be) : HasG P w K mg base ec "are_between" 2 3 g_are_between := by
  have h_is_between := ok_is_between (P := P) (w := w) (base := base) (ec := ec) Z
  exact Z.defG_ 4 4 rfl rfl sc_are_between rfl rfl (fun _ _ _ _ _ _ us hl => match us, hl with | [_, _, _], _ => rfl) fun f cdv A outer s H E hr =>
    (bv_one (sv_ret (ev_and (ev_isT ist_tuple (ev_var (i := 0) rfl (by first | exact .inl rfl | exact .inr (.inl rfl) | exact .inr (.inr rfl))) rfl (Z.free 31) rfl (Z.free 34) bo_tuple) (ev_one (ev_callB (own := false) (fun _ _ => cr_all rfl) oc_all rfl (Z.free 35) bo_all (av_cons (ev_lc (own := false) (ow := [("one", 3)]) rfl sc_are_between.nd (iv_tuple (ev_var (i := 0) rfl (by first | exact .inl rfl | exact .inr (.inl rfl) | exact .inr (.inr rfl)))) (blkOk_by (N := ["thing", "least", "most", "one"]) (sc := defScope (top 33)) (by decide +kernel)) (fun _ _ _ _ _ => (gv_name (i := 3) sc_are_between.nd rfl (by first | exact .inl rfl | exact .inr rfl))) (fun _ _ _ _ _ => tsv_nil) (fun _ _ _ _ _ => (ev_fnG (h_is_between.mono (by decide)) hr rfl (av_cons (ev_var (i := 3) rfl (by first | exact .inl rfl | exact .inr (.inl rfl) | exact .inr (.inr rfl))) (av_cons (ev_var (i := 1) rfl (by first | exact .inl rfl | exact .inr (.inl rfl) | exact .inr (.inr rfl))) (av_cons (ev_var (i := 2) rfl (by first | exact .inl rfl | exact .inr (.inl rfl) | exact .inr (.inr rfl))) av_nil))))) (by decide)) av_nil))))))
theorem sc_is_task_name : FnScope ["thing"] ["thing"] (defScope (top 36)) := ⟨rfl, rfl, rfl, by decide +kernel, rfl, by decide +kernel, by decide +kernel⟩
theorem ok_is_task_name (Z : HdE K mg w fa fn kc kd be) : HasG P w K mg base ec "is_task_name" 3 1 g_is_task_name := by
  have h_are_between := ok_are_between (P := P) (w := w) (base := base) (ec := ec) Z
  exact Z.defG_ 5 5 rfl rfl sc_is_task_name rfl rfl (fun _ _ _ _ _ _ us hl => match us, hl with | [_], _ => rfl) fun f cdv A outer s H E hr =>
    (bv_one (sv_ret (ev_and (ev_fnG (h_are_between.mono (by decide)) hr rfl (av_cons (ev_var (i := 0) rfl (by first | exact .inl rfl | exact .inr (.inl rfl) | exact .inr (.inr rfl))) (av_cons ev_int (av_cons (ev_glob rfl (Z.con 0).kon) av_nil)))) (ev_one (ev_cmp (fun _ _ => op_le) (ow_cmp _) (ev_callB (own := false) (fun _ _ => call_lenW) oc_len rfl (Z.free 28) bo_len (av_cons (ev_var (i := 0) rfl (by first | exact .inl rfl | exact .inr (.inl rfl) | exact .inr (.inr rfl))) av_nil)) (ev_glob rfl (Z.con 1).kon) rfl)))))
theorem sc_is_rising : FnScope ["some", "k"] ["some"] (defScope (top 35)) := ⟨rfl, rfl, rfl, by decide +kernel, rfl, by decide +kernel, by decide +kernel⟩
theorem ok_is_rising (Z : HdE K mg w fa fn kc kd be) : HasG P w K mg base ec "is_rising" 1 1 g_is_rising := by
  exact Z.defG_ 6 6 rfl rfl sc_is_rising rfl rfl (fun _ _ _ _ _ _ us hl => match us, hl with | [_], _ => rfl) fun f cdv A outer s H E hr =>
    (bv_one (sv_ret (ev_callB (own := false) (fun _ _ => cr_all rfl) oc_all rfl (Z.free 35) bo_all (av_cons (ev_lc (own := false) (ow := [("k", 1)]) rfl sc_is_rising.nd (iv_rng1 rfl (Z.free 30) (ev_bin (own := false) (fun _ _ => op_sub) ow_sub (ev_callB (own := false) (fun _ _ => call_lenW) oc_len rfl (Z.free 28) bo_len (av_cons (ev_var (i := 0) rfl (by first | exact .inl rfl | exact .inr (.inl rfl) | exact .inr (.inr rfl))) av_nil)) ev_int)) (blkOk_by (N := ["some", "k"]) (sc := defScope (top 35)) (by decide +kernel)) (fun _ _ _ _ _ => (gv_name (i := 1) sc_is_rising.nd rfl (by first | exact .inl rfl | exact .inr rfl))) (fun _ _ _ _ _ => tsv_nil) (fun _ _ _ _ _ => (ev_cmp (fun _ _ => op_ltG (r65 hr.r)) ow_ltG (ev_ix (r65 hr.r) (ev_var (i := 0) rfl (by first | exact .inl rfl | exact .inr (.inl rfl) | exact .inr (.inr rfl))) (ev_var (i := 1) rfl (by first | exact .inl rfl | exact .inr (.inl rfl) | exact .inr (.inr rfl)))) (ev_ix (r65 hr.r) (ev_var (i := 0) rfl (by first | exact .inl rfl | exact .inr (.inl rfl) | exact .inr (.inr rfl))) (ev_bin (own := false) (fun _ _ => op_addW) ow_add (ev_var (i := 1) rfl (by first | exact .inl rfl | exact .inr (.inl rfl) | exact .inr (.inr rfl))) ev_int)) rfl)) (by decide)) av_nil))))
theorem sc_sisters_by : FnScope ["task", "starter", "known", "names", "number", "name"] ["task", "starter", "known"] (defScope (top 46)) := ⟨rfl, rfl, rfl, by decide +kernel, rfl, by decide +kernel, by decide +kernel⟩
theorem ok_sisters_by (Z : HdE K mg w fa fn kc kd be) : HasG P w K mg base ec "sisters_by" 1 3 g_sisters_by := by
  exact Z.defG_ 7 7 rfl rfl sc_sisters_by rfl rfl (fun _ _ _ _ _ _ us hl => match us, hl with | [_, _, _], _ => rfl) fun f cdv A outer s H E hr =>
    (bv_cons (sv_if (tv_cmp (fun _ _ => op_neD (Room.units hr.r)) ow_ne (ev_ix (r65 hr.r) (ev_var (i := 1) rfl (by first | exact .inl rfl | exact .inr (.inl rfl) | exact .inr (.inr rfl))) (ev_glob rfl (Z.con 2).kon)) (ev_str lt_0) rfl) (bv_one (sv_ret (ev_lst (own := false) av_nil))) bv_nil)
    (bv_cons (sv_setLc (own := false) (ow := [("number", 4)]) (i := 3) rfl sc_sisters_by.nd rfl rfl (sw_true rfl rfl rfl (by decide +kernel)) (iv_rng1 rfl (Z.free 30) (ev_ix (r65 hr.r) (ev_ix (r65 hr.r) (ev_var (i := 0) rfl (by first | exact .inl rfl | exact .inr (.inl rfl) | exact .inr (.inr rfl))) (ev_glob rfl (Z.con 3).kon)) (ev_neg ev_int))) (blkOk_by (N := ["task", "starter", "known", "names", "number", "name"]) (sc := defScope (top 46)) (by decide +kernel)) (fun _ _ _ _ _ => (gv_name (i := 4) sc_sisters_by.nd rfl (by first | exact .inl rfl | exact .inr rfl))) (fun _ _ _ _ _ => tsv_nil) (fun _ _ _ _ _ => (ev_bin (own := false) (fun _ _ => op_addW) ow_add (ev_ix (r65 hr.r) (ev_var (i := 1) rfl (by first | exact .inl rfl | exact .inr (.inl rfl) | exact .inr (.inr rfl))) (ev_glob rfl (Z.con 3).kon)) (ev_tup (av_cons (ev_var (i := 4) rfl (by first | exact .inl rfl | exact .inr (.inl rfl) | exact .inr (.inr rfl))) av_nil)))) (by decide))
    (bv_one (sv_ret (ev_lc (own := false) (ow := [("name", 5)]) rfl sc_sisters_by.nd (iv_list (ev_var (i := 3) rfl (by first | exact .inl rfl | exact .inr (.inl rfl) | exact .inr (.inr rfl)))) (blkOk_by (N := ["task", "starter", "known", "names", "number", "name"]) (sc := defScope (top 46)) (by decide +kernel)) (fun _ _ _ _ _ => (gv_name (i := 5) sc_sisters_by.nd rfl (by first | exact .inl rfl | exact .inr rfl))) (fun _ _ _ _ _ => (tsv_one (tv_w (tw_and (tv_cmp (fun _ _ => op_inT (r65 hr.r)) ow_inT (ev_var (i := 5) rfl (by first | exact .inl rfl | exact .inr (.inl rfl) | exact .inr (.inr rfl))) (ev_var (i := 2) rfl (by first | exact .inl rfl | exact .inr (.inl rfl) | exact .inr (.inr rfl))) rfl) (tw_and1 (tv_cmp (fun _ _ => op_eqD (Room.units hr.r)) ow_eq (ev_ix (r65 hr.r) (ev_ixT (r65 hr.r) (ev_var (i := 2) rfl (by first | exact .inl rfl | exact .inr (.inl rfl) | exact .inr (.inr rfl))) (ev_var (i := 5) rfl (by first | exact .inl rfl | exact .inr (.inl rfl) | exact .inr (.inr rfl)))) (ev_glob rfl (Z.con 4).kon)) (ev_var (i := 5) rfl (by first | exact .inl rfl | exact .inr (.inl rfl) | exact .inr (.inr rfl))) rfl)))))) (fun _ _ _ _ _ => (ev_var (i := 5) rfl (by first | exact .inl rfl | exact .inr (.inl rfl) | exact .inr (.inr rfl)))) (by decide))))))
theorem sc_stands_right : FnScope ["task", "known", "starter"] ["task", "known"] (defScope (top 47)) := ⟨rfl, rfl, rfl, by decide +kernel, rfl, by decide +kernel, by decide +kernel⟩
theorem ok_stands_right (Z : HdE K mg w fa fn kc kd be) : HasG P w K mg base ec "stands_right" 2 2 g_stands_right := by
  have h_sisters_by := ok_sisters_by (P := P) (w := w) (base := base) (ec := ec) Z
  exact Z.defG_ 8 8 rfl rfl sc_stands_right rfl rfl (fun _ _ _ _ _ _ us hl => match us, hl with | [_, _], _ => rfl) fun f cdv A outer s H E hr =>
    (bv_cons (sv_if (tv_cmp (fun _ _ => op_eqD (Room.units hr.r)) ow_eq (ev_ix (r65 hr.r) (ev_var (i := 0) rfl (by first | exact .inl rfl | exact .inr (.inl rfl) | exact .inr (.inr rfl))) (ev_glob rfl (Z.con 3).kon)) (ev_tup av_nil) rfl) (bv_one (sv_ret (ev_and (ev_cmp (fun _ _ => op_eqD (Room.units hr.r)) ow_eq (ev_ix (r65 hr.r) (ev_var (i := 0) rfl (by first | exact .inl rfl | exact .inr (.inl rfl) | exact .inr (.inr rfl))) (ev_glob rfl (Z.con 4).kon)) (ev_tup av_nil) rfl) (ev_one (ev_not (ev_ix (r65 hr.r) (ev_var (i := 0) rfl (by first | exact .inl rfl | exact .inr (.inl rfl) | exact .inr (.inr rfl))) (ev_glob rfl (Z.con 5).kon))))))) bv_nil)
    (bv_cons (sv_set (i := 2) sc_stands_right.nd rfl (by first | exact .inl rfl | exact .inr rfl) (ev_getT1 (r65 hr.r) (ev_var (i := 1) rfl (by first | exact .inl rfl | exact .inr (.inl rfl) | exact .inr (.inr rfl))) (ev_sl (own := false) (ev_ix (r65 hr.r) (ev_var (i := 0) rfl (by first | exact .inl rfl | exact .inr (.inl rfl) | exact .inr (.inr rfl))) (ev_glob rfl (Z.con 3).kon)) ov_none (ov_some (ev_neg ev_int))) (fun _ _ => ⟨rfl, rfl, rfl, rfl⟩)))
    (bv_cons (sv_if (tv_w (tw_or (tv_cmp (fun _ _ => op_isW) ow_is (ev_var (i := 2) rfl (by first | exact .inl rfl | exact .inr (.inl rfl) | exact .inr (.inr rfl))) ev_non rfl) (tw_or1 (tv_cmp (fun _ _ => op_ge) (ow_cmp _) (ev_ix (r65 hr.r) (ev_ix (r65 hr.r) (ev_var (i := 0) rfl (by first | exact .inl rfl | exact .inr (.inl rfl) | exact .inr (.inr rfl))) (ev_glob rfl (Z.con 3).kon)) (ev_neg ev_int)) (ev_ix (r65 hr.r) (ev_var (i := 2) rfl (by first | exact .inl rfl | exact .inr (.inl rfl) | exact .inr (.inr rfl))) (ev_glob rfl (Z.con 6).kon)) rfl)))) (bv_one (sv_ret ev_bl)) bv_nil)
    (bv_cons (sv_if (tv_cmp (fun _ _ => op_notInW (ec := ec) (r65 hr.r)) ow_notIn (ev_ix (r65 hr.r) (ev_var (i := 0) rfl (by first | exact .inl rfl | exact .inr (.inl rfl) | exact .inr (.inr rfl))) (ev_glob rfl (Z.con 4).kon)) (ev_bin (own := false) (fun _ _ => op_addW) ow_add (ev_lst (own := false) (av_cons (ev_ix (r65 hr.r) (ev_var (i := 0) rfl (by first | exact .inl rfl | exact .inr (.inl rfl) | exact .inr (.inr rfl))) (ev_glob rfl (Z.con 3).kon)) (av_cons (ev_ix (r65 hr.r) (ev_var (i := 2) rfl (by first | exact .inl rfl | exact .inr (.inl rfl) | exact .inr (.inr rfl))) (ev_glob rfl (Z.con 4).kon)) av_nil))) (ev_fnG (h_sisters_by.mono (by decide)) hr rfl (av_cons (ev_var (i := 0) rfl (by first | exact .inl rfl | exact .inr (.inl rfl) | exact .inr (.inr rfl))) (av_cons (ev_var (i := 2) rfl (by first | exact .inl rfl | exact .inr (.inl rfl) | exact .inr (.inr rfl))) (av_cons (ev_var (i := 1) rfl (by first | exact .inl rfl | exact .inr (.inl rfl) | exact .inr (.inr rfl))) av_nil))))) rfl) (bv_one (sv_ret ev_bl)) bv_nil)
    (bv_one (sv_ret (ev_or (ev_not (ev_ix (r65 hr.r) (ev_var (i := 0) rfl (by first | exact .inl rfl | exact .inr (.inl rfl) | exact .inr (.inr rfl))) (ev_glob rfl (Z.con 5).kon))) (ev_one (ev_and (ev_cmp (fun _ _ => op_neD (Room.units hr.r)) ow_ne (ev_ix (r65 hr.r) (ev_ix (r65 hr.r) (ev_var (i := 0) rfl (by first | exact .inl rfl | exact .inr (.inl rfl) | exact .inr (.inr rfl))) (ev_glob rfl (Z.con 7).kon)) ev_int) (ev_str lt_1) rfl) (ev_one (ev_cmp (fun _ _ => op_neD (Room.units hr.r)) ow_ne (ev_ix (r65 hr.r) (ev_ix (r65 hr.r) (ev_var (i := 2) rfl (by first | exact .inl rfl | exact .inr (.inl rfl) | exact .inr (.inr rfl))) (ev_glob rfl (Z.con 7).kon)) ev_int) (ev_str lt_2) rfl)))))))))))
theorem sc_can_be_heard_yet : FnScope ["bells", "traps", "places", "bell"] ["bells", "traps"] (defScope (top 43)) := ⟨rfl, rfl, rfl, by decide +kernel, rfl, by decide +kernel, by decide +kernel⟩
theorem ok_can_be_heard_yet (Z : HdE K mg w fa fn kc kd be) : HasG P w K mg base ec "can_be_heard_yet" 1 2 g_can_be_heard_yet := by
  exact Z.defG_ 9 9 rfl rfl sc_can_be_heard_yet rfl rfl (fun _ _ _ _ _ _ us hl => match us, hl with | [_, _], _ => rfl) fun f cdv A outer s H E hr =>
    (bv_cons (sv_set (i := 2) sc_can_be_heard_yet.nd rfl (by first | exact .inl rfl | exact .inr rfl) (ev_callTy (own := false) (fun _ _ => call_dictQ rfl) oc_dictQ rfl (Z.free 36) bo_dict (av_cons (ev_var (i := 1) rfl (by first | exact .inl rfl | exact .inr (.inl rfl) | exact .inr (.inr rfl))) av_nil)))
    (bv_one (sv_ret (ev_callB (own := false) (fun _ _ => cr_all rfl) oc_all rfl (Z.free 35) bo_all (av_cons (ev_lc (own := false) (ow := [("bell", 3)]) rfl sc_can_be_heard_yet.nd (iv_tuple (ev_var (i := 0) rfl (by first | exact .inl rfl | exact .inr (.inl rfl) | exact .inr (.inr rfl)))) (blkOk_by (N := ["bells", "traps", "places", "bell"]) (sc := defScope (top 43)) (by decide +kernel)) (fun _ _ _ _ _ => (gv_name (i := 3) sc_can_be_heard_yet.nd rfl (by first | exact .inl rfl | exact .inr rfl))) (fun _ _ _ _ _ => tsv_nil) (fun _ _ _ _ _ => (ev_cmp (fun _ _ => op_neD (Room.units hr.r)) ow_ne (ev_get2 (r65 hr.r) (ev_var (i := 2) rfl (by first | exact .inl rfl | exact .inr (.inl rfl) | exact .inr (.inr rfl))) (ev_var (i := 3) rfl (by first | exact .inl rfl | exact .inr (.inl rfl) | exact .inr (.inr rfl))) (ev_if (tv_cmp (fun _ _ => op_ge) (ow_cmp _) (ev_var (i := 3) rfl (by first | exact .inl rfl | exact .inr (.inl rfl) | exact .inr (.inr rfl))) (ev_glob rfl (Z.con 8).kon) rfl) (ev_glob rfl (Z.con 9).kon) ev_int) (fun _ _ => ⟨rfl, rfl, rfl, rfl⟩)) (ev_glob rfl (Z.con 9).kon) rfl)) (by decide)) av_nil)))))
theorem sc_are_pairs : FnScope ["thing", "one"] ["thing"] (defScope (top 34)) := ⟨rfl, rfl, rfl, by decide +kernel, rfl, by decide +kernel, by decide +kernel⟩
theorem ok_are_pairs (Z : HdE K mg w fa fn kc kd be) : HasG P w K mg base ec "are_pairs" 1 1 g_are_pairs := by
  exact Z.defG_ 10 10 rfl rfl sc_are_pairs rfl rfl (fun _ _ _ _ _ _ us hl => match us, hl with | [_], _ => rfl) fun f cdv A outer s H E hr =>
    (bv_one (sv_ret (ev_and (ev_isT ist_tuple (ev_var (i := 0) rfl (by first | exact .inl rfl | exact .inr (.inl rfl) | exact .inr (.inr rfl))) rfl (Z.free 31) rfl (Z.free 34) bo_tuple) (ev_one (ev_callB (own := false) (fun _ _ => cr_all rfl) oc_all rfl (Z.free 35) bo_all (av_cons (ev_lc (own := false) (ow := [("one", 1)]) rfl sc_are_pairs.nd (iv_tuple (ev_var (i := 0) rfl (by first | exact .inl rfl | exact .inr (.inl rfl) | exact .inr (.inr rfl)))) (blkOk_by (N := ["thing", "one"]) (sc := defScope (top 34)) (by decide +kernel)) (fun _ _ _ _ _ => (gv_name (i := 1) sc_are_pairs.nd rfl (by first | exact .inl rfl | exact .inr rfl))) (fun _ _ _ _ _ => tsv_nil) (fun _ _ _ _ _ => (ev_and (ev_isT ist_tuple (ev_var (i := 1) rfl (by first | exact .inl rfl | exact .inr (.inl rfl) | exact .inr (.inr rfl))) rfl (Z.free 31) rfl (Z.free 34) bo_tuple) (ev_one (ev_cmp (fun _ _ => op_eqD (Room.units hr.r)) ow_eq (ev_callB (own := false) (fun _ _ => call_lenW) oc_len rfl (Z.free 28) bo_len (av_cons (ev_var (i := 1) rfl (by first | exact .inl rfl | exact .inr (.inl rfl) | exact .inr (.inr rfl))) av_nil)) ev_int rfl)))) (by decide)) av_nil))))))
theorem sc_is_name : FnScope ["thing", "sign"] ["thing"] (defScope (top 5)) := ⟨rfl, rfl, rfl, by decide +kernel, rfl, by decide +kernel, by decide +kernel⟩
theorem ok_is_name (Z : HdE K mg w fa fn kc kd be) : HasG P w K mg base ec "is_name" 1 1 g_is_name := by
  exact Z.defG_ 11 11 rfl rfl sc_is_name rfl rfl (fun _ _ _ _ _ _ us hl => match us, hl with | [_], _ => rfl) fun f cdv A outer s H E hr =>
    (bv_cons (sv_if (tv_w (tw_or (tv_not (tv_val (ev_isT ist_str (ev_var (i := 0) rfl (by first | exact .inl rfl | exact .inr (.inl rfl) | exact .inr (.inr rfl))) rfl (Z.free 31) rfl (Z.free 37) bo_str))) (tw_or (tv_not (tv_chain (fun _ _ => op_le) (fun _ _ => op_le) (ow_cmp _) (ow_cmp _) ev_int (ev_callB (own := false) (fun _ _ => call_lenW) oc_len rfl (Z.free 28) bo_len (av_cons (ev_var (i := 0) rfl (by first | exact .inl rfl | exact .inr (.inl rfl) | exact .inr (.inr rfl))) av_nil)) (ev_glob rfl (Z.con 10).kon))) (tw_or (tv_cmp (fun _ _ => op_inW (ec := ec) (r65 hr.r)) ow_in (ev_var (i := 0) rfl (by first | exact .inl rfl | exact .inr (.inl rfl) | exact .inr (.inr rfl))) (ev_glob rfl (Z.con 11).kon) rfl) (tw_or1 (tv_cmp (fun _ _ => op_inW (ec := ec) (r65 hr.r)) ow_in (ev_var (i := 0) rfl (by first | exact .inl rfl | exact .inr (.inl rfl) | exact .inr (.inr rfl))) (ev_glob rfl (Z.con 12).kon) rfl)))))) (bv_one (sv_ret ev_bl)) bv_nil)
    (bv_one (sv_ret (ev_callB (own := false) (fun _ _ => cr_all rfl) oc_all rfl (Z.free 35) bo_all (av_cons (ev_lc (own := false) (ow := [("sign", 1)]) rfl sc_is_name.nd (iv_str (ev_var (i := 0) rfl (by first | exact .inl rfl | exact .inr (.inl rfl) | exact .inr (.inr rfl)))) (blkOk_by (N := ["thing", "sign"]) (sc := defScope (top 5)) (by decide +kernel)) (fun _ _ _ _ _ => (gv_name (i := 1) sc_is_name.nd rfl (by first | exact .inl rfl | exact .inr rfl))) (fun _ _ _ _ _ => tsv_nil) (fun _ _ _ _ _ => (ev_cmp (fun _ _ => op_inW (ec := ec) (r65 hr.r)) ow_in (ev_var (i := 1) rfl (by first | exact .inl rfl | exact .inr (.inl rfl) | exact .inr (.inr rfl))) (ev_glob rfl (Z.con 13).kon) rfl)) (by decide)) av_nil)))))
theorem sc_are_boxes : FnScope ["thing", "one"] ["thing"] (defScope (top 39)) := ⟨rfl, rfl, rfl, by decide +kernel, rfl, by decide +kernel, by decide +kernel⟩
theorem ok_are_boxes (Z : HdE K mg w fa fn kc kd be) : HasG P w K mg base ec "are_boxes" 2 1 g_are_boxes := by
  have h_are_pairs := ok_are_pairs (P := P) (w := w) (base := base) (ec := ec) Z
  have h_is_between := ok_is_between (P := P) (w := w) (base := base) (ec := ec) Z
  have h_is_name := ok_is_name (P := P) (w := w) (base := base) (ec := ec) Z
  have h_is_rising := ok_is_rising (P := P) (w := w) (base := base) (ec := ec) Z
  exact Z.defG_ 12 12 rfl rfl sc_are_boxes rfl rfl (fun _ _ _ _ _ _ us hl => match us, hl with | [_], _ => rfl) fun f cdv A outer s H E hr =>
    (bv_cons (sv_if (tv_w (tw_or (tv_not (tv_val (ev_fnG (h_are_pairs.mono (by decide)) hr rfl (av_cons (ev_var (i := 0) rfl (by first | exact .inl rfl | exact .inr (.inl rfl) | exact .inr (.inr rfl))) av_nil)))) (tw_or1 (tv_not (tv_val (ev_callB (own := false) (fun _ _ => cr_all rfl) oc_all rfl (Z.free 35) bo_all (av_cons (ev_lc (own := false) (ow := [("one", 1)]) rfl sc_are_boxes.nd (iv_tuple (ev_var (i := 0) rfl (by first | exact .inl rfl | exact .inr (.inl rfl) | exact .inr (.inr rfl)))) (blkOk_by (N := ["thing", "one"]) (sc := defScope (top 39)) (by decide +kernel)) (fun _ _ _ _ _ => (gv_name (i := 1) sc_are_boxes.nd rfl (by first | exact .inl rfl | exact .inr rfl))) (fun _ _ _ _ _ => tsv_nil) (fun _ _ _ _ _ => (ev_and (ev_fnG (h_is_name.mono (by decide)) hr rfl (av_cons (ev_ix (r65 hr.r) (ev_var (i := 1) rfl (by first | exact .inl rfl | exact .inr (.inl rfl) | exact .inr (.inr rfl))) ev_int) av_nil)) (ev_one (ev_fnG (h_is_between.mono (by decide)) hr rfl (av_cons (ev_ix (r65 hr.r) (ev_var (i := 1) rfl (by first | exact .inl rfl | exact .inr (.inl rfl) | exact .inr (.inr rfl))) ev_int) (av_cons ev_int (av_cons (ev_glob rfl (Z.con 14).kon) av_nil))))))) (by decide)) av_nil))))))) (bv_one (sv_ret ev_bl)) bv_nil)
    (bv_one (sv_ret (ev_fnG (h_is_rising.mono (by decide)) hr rfl (av_cons (ev_lc (own := false) (ow := [("one", 1)]) rfl sc_are_boxes.nd (iv_tuple (ev_var (i := 0) rfl (by first | exact .inl rfl | exact .inr (.inl rfl) | exact .inr (.inr rfl)))) (blkOk_by (N := ["thing", "one"]) (sc := defScope (top 39)) (by decide +kernel)) (fun _ _ _ _ _ => (gv_name (i := 1) sc_are_boxes.nd rfl (by first | exact .inl rfl | exact .inr rfl))) (fun _ _ _ _ _ => tsv_nil) (fun _ _ _ _ _ => (ev_ix (r65 hr.r) (ev_var (i := 1) rfl (by first | exact .inl rfl | exact .inr (.inl rfl) | exact .inr (.inr rfl))) ev_int)) (by decide)) av_nil)))))
theorem sc_is_status : FnScope ["thing"] ["thing"] (defScope (top 37)) := ⟨rfl, rfl, rfl, by decide +kernel, rfl, by decide +kernel, by decide +kernel⟩
theorem ok_is_status (Z : HdE K mg w fa fn kc kd be) : HasG P w K mg base ec "is_status" 2 1 g_is_status := by
  have h_is_between := ok_is_between (P := P) (w := w) (base := base) (ec := ec) Z
  exact Z.defG_ 13 13 rfl rfl sc_is_status rfl rfl (fun _ _ _ _ _ _ us hl => match us, hl with | [_], _ => rfl) fun f cdv A outer s H E hr =>
    (bv_one (sv_ret (ev_or (ev_fnG (h_is_between.mono (by decide)) hr rfl (av_cons (ev_var (i := 0) rfl (by first | exact .inl rfl | exact .inr (.inl rfl) | exact .inr (.inr rfl))) (av_cons ev_int (av_cons ev_int av_nil)))) (ev_one (ev_and (ev_fnG (h_is_between.mono (by decide)) hr rfl (av_cons (ev_var (i := 0) rfl (by first | exact .inl rfl | exact .inr (.inl rfl) | exact .inr (.inr rfl))) (av_cons ev_int (av_cons ev_int av_nil)))) (ev_one (ev_cmp (fun _ _ => op_inW (ec := ec) (r65 hr.r)) ow_in (ev_var (i := 0) rfl (by first | exact .inl rfl | exact .inr (.inl rfl) | exact .inr (.inr rfl))) (ev_glob rfl (Z.con 15).kon) rfl)))))))
theorem sc_is_how : FnScope ["thing"] ["thing"] (defScope (top 38)) := ⟨rfl, rfl, rfl, by decide +kernel, rfl, by decide +kernel, by decide +kernel⟩
theorem ok_is_how (Z : HdE K mg w fa fn kc kd be) : HasG P w K mg base ec "is_how" 3 1 g_is_how := by
  have h_is_between := ok_is_between (P := P) (w := w) (base := base) (ec := ec) Z
  have h_is_status := ok_is_status (P := P) (w := w) (base := base) (ec := ec) Z
  exact Z.defG_ 14 14 rfl rfl sc_is_how rfl rfl (fun _ _ _ _ _ _ us hl => match us, hl with | [_], _ => rfl) fun f cdv A outer s H E hr =>
    (bv_cons (sv_if (tv_w (tw_or (tv_not (tv_val (ev_isT ist_tuple (ev_var (i := 0) rfl (by first | exact .inl rfl | exact .inr (.inl rfl) | exact .inr (.inr rfl))) rfl (Z.free 31) rfl (Z.free 34) bo_tuple))) (tw_or (tv_cmp (fun _ _ => op_notInW (ec := ec) (r65 hr.r)) ow_notIn (ev_callB (own := false) (fun _ _ => call_lenW) oc_len rfl (Z.free 28) bo_len (av_cons (ev_var (i := 0) rfl (by first | exact .inl rfl | exact .inr (.inl rfl) | exact .inr (.inr rfl))) av_nil)) (ev_tup (av_cons ev_int (av_cons ev_int av_nil))) rfl) (tw_or1 (tv_not (tv_val (ev_isT ist_str (ev_ix (r65 hr.r) (ev_var (i := 0) rfl (by first | exact .inl rfl | exact .inr (.inl rfl) | exact .inr (.inr rfl))) ev_int) rfl (Z.free 31) rfl (Z.free 37) bo_str))))))) (bv_one (sv_ret ev_bl)) bv_nil)
    (bv_cons (sv_if (tv_cmp (fun _ _ => op_eqD (Room.units hr.r)) ow_eq (ev_callB (own := false) (fun _ _ => call_lenW) oc_len rfl (Z.free 28) bo_len (av_cons (ev_var (i := 0) rfl (by first | exact .inl rfl | exact .inr (.inl rfl) | exact .inr (.inr rfl))) av_nil)) ev_int rfl) (bv_one (sv_ret (ev_cmp (fun _ _ => op_eqD (Room.units hr.r)) ow_eq (ev_ix (r65 hr.r) (ev_var (i := 0) rfl (by first | exact .inl rfl | exact .inr (.inl rfl) | exact .inr (.inr rfl))) ev_int) (ev_str lt_1) rfl))) bv_nil)
    (bv_cons (sv_if (tv_cmp (fun _ _ => op_eqD (Room.units hr.r)) ow_eq (ev_ix (r65 hr.r) (ev_var (i := 0) rfl (by first | exact .inl rfl | exact .inr (.inl rfl) | exact .inr (.inr rfl))) ev_int) (ev_str lt_3) rfl) (bv_one (sv_ret (ev_fnG (h_is_between.mono (by decide)) hr rfl (av_cons (ev_ix (r65 hr.r) (ev_var (i := 0) rfl (by first | exact .inl rfl | exact .inr (.inl rfl) | exact .inr (.inr rfl))) ev_int) (av_cons (ev_ix (r65 hr.r) (ev_glob rfl (Z.con 16).kon) ev_int) (av_cons (ev_ix (r65 hr.r) (ev_glob rfl (Z.con 16).kon) ev_int) av_nil)))))) bv_nil)
    (bv_one (sv_ret (ev_and (ev_cmp (fun _ _ => op_eqD (Room.units hr.r)) ow_eq (ev_ix (r65 hr.r) (ev_var (i := 0) rfl (by first | exact .inl rfl | exact .inr (.inl rfl) | exact .inr (.inr rfl))) ev_int) (ev_str lt_2) rfl) (ev_one (ev_fnG (h_is_status.mono (by decide)) hr rfl (av_cons (ev_ix (r65 hr.r) (ev_var (i := 0) rfl (by first | exact .inl rfl | exact .inr (.inl rfl) | exact .inr (.inr rfl))) ev_int) av_nil)))))))))
theorem sc_are_bells : FnScope ["thing", "least"] ["thing", "least"] (defScope (top 40)) := ⟨rfl, rfl, rfl, by decide +kernel, rfl, by decide +kernel, by decide +kernel⟩
theorem ok_are_bells (Z : HdE K mg w fa fn kc kd be) : HasG P w K mg base ec "are_bells" 3 2 g_are_bells := by
  have h_are_between := ok_are_between (P := P) (w := w) (base := base) (ec := ec) Z
  have h_is_rising := ok_is_rising (P := P) (w := w) (base := base) (ec := ec) Z
  exact Z.defG_ 15 15 rfl rfl sc_are_bells rfl rfl (fun _ _ _ _ _ _ us hl => match us, hl with | [_, _], _ => rfl) fun f cdv A outer s H E hr =>
    (bv_one (sv_ret (ev_and (ev_fnG (h_are_between.mono (by decide)) hr rfl (av_cons (ev_var (i := 0) rfl (by first | exact .inl rfl | exact .inr (.inl rfl) | exact .inr (.inr rfl))) (av_cons (ev_var (i := 1) rfl (by first | exact .inl rfl | exact .inr (.inl rfl) | exact .inr (.inr rfl))) (av_cons (ev_glob rfl (Z.con 17).kon) av_nil)))) (ev_one (ev_fnG (h_is_rising.mono (by decide)) hr rfl (av_cons (ev_var (i := 0) rfl (by first | exact .inl rfl | exact .inr (.inl rfl) | exact .inr (.inr rfl))) av_nil))))))
theorem sc_are_traps : FnScope ["thing", "last", "one"] ["thing", "last"] (defScope (top 41)) := ⟨rfl, rfl, rfl, by decide +kernel, rfl, by decide +kernel, by decide +kernel⟩
theorem ok_are_traps (Z : HdE K mg w fa fn kc kd be) : HasG P w K mg base ec "are_traps" 4 2 g_are_traps := by
  have h_are_bells := ok_are_bells (P := P) (w := w) (base := base) (ec := ec) Z
  have h_are_pairs := ok_are_pairs (P := P) (w := w) (base := base) (ec := ec) Z
  have h_is_between := ok_is_between (P := P) (w := w) (base := base) (ec := ec) Z
  exact Z.defG_ 16 16 rfl rfl sc_are_traps rfl rfl (fun _ _ _ _ _ _ us hl => match us, hl with | [_, _], _ => rfl) fun f cdv A outer s H E hr =>
    (bv_cons (sv_if (tv_w (tw_or (tv_not (tv_val (ev_fnG (h_are_pairs.mono (by decide)) hr rfl (av_cons (ev_var (i := 0) rfl (by first | exact .inl rfl | exact .inr (.inl rfl) | exact .inr (.inr rfl))) av_nil)))) (tw_or1 (tv_not (tv_val (ev_callB (own := false) (fun _ _ => cr_all rfl) oc_all rfl (Z.free 35) bo_all (av_cons (ev_lc (own := false) (ow := [("one", 2)]) rfl sc_are_traps.nd (iv_tuple (ev_var (i := 0) rfl (by first | exact .inl rfl | exact .inr (.inl rfl) | exact .inr (.inr rfl)))) (blkOk_by (N := ["thing", "last", "one"]) (sc := defScope (top 41)) (by decide +kernel)) (fun _ _ _ _ _ => (gv_name (i := 2) sc_are_traps.nd rfl (by first | exact .inl rfl | exact .inr rfl))) (fun _ _ _ _ _ => tsv_nil) (fun _ _ _ _ _ => (ev_fnG (h_is_between.mono (by decide)) hr rfl (av_cons (ev_ix (r65 hr.r) (ev_var (i := 2) rfl (by first | exact .inl rfl | exact .inr (.inl rfl) | exact .inr (.inr rfl))) ev_int) (av_cons (ev_glob rfl (Z.con 9).kon) (av_cons (ev_var (i := 1) rfl (by first | exact .inl rfl | exact .inr (.inl rfl) | exact .inr (.inr rfl))) av_nil))))) (by decide)) av_nil))))))) (bv_one (sv_ret ev_bl)) bv_nil)
    (bv_one (sv_ret (ev_fnG (h_are_bells.mono (by decide)) hr rfl (av_cons (ev_callTy (own := false) (fun _ _ => call_tupX) oc_tuple rfl (Z.free 34) bo_tuple (av_cons (ev_lc (own := false) (ow := [("one", 2)]) rfl sc_are_traps.nd (iv_tuple (ev_var (i := 0) rfl (by first | exact .inl rfl | exact .inr (.inl rfl) | exact .inr (.inr rfl)))) (blkOk_by (N := ["thing", "last", "one"]) (sc := defScope (top 41)) (by decide +kernel)) (fun _ _ _ _ _ => (gv_name (i := 2) sc_are_traps.nd rfl (by first | exact .inl rfl | exact .inr rfl))) (fun _ _ _ _ _ => tsv_nil) (fun _ _ _ _ _ => (ev_ix (r65 hr.r) (ev_var (i := 2) rfl (by first | exact .inl rfl | exact .inr (.inl rfl) | exact .inr (.inr rfl))) ev_int)) (by decide)) av_nil)) (av_cons (ev_glob rfl (Z.con 18).kon) av_nil))))))
theorem sc_are_ways : FnScope ["thing", "last", "bells", "one"] ["thing", "last"] (defScope (top 42)) := ⟨rfl, rfl, rfl, by decide +kernel, rfl, by decide +kernel, by decide +kernel⟩
theorem ok_are_ways (Z : HdE K mg w fa fn kc kd be) : HasG P w K mg base ec "are_ways" 3 2 g_are_ways := by
  have h_are_between := ok_are_between (P := P) (w := w) (base := base) (ec := ec) Z
  have h_are_pairs := ok_are_pairs (P := P) (w := w) (base := base) (ec := ec) Z
  have h_is_between := ok_is_between (P := P) (w := w) (base := base) (ec := ec) Z
  have h_is_rising := ok_is_rising (P := P) (w := w) (base := base) (ec := ec) Z
  exact Z.defG_ 17 17 rfl rfl sc_are_ways rfl rfl (fun _ _ _ _ _ _ us hl => match us, hl with | [_, _], _ => rfl) fun f cdv A outer s H E hr =>
    (bv_cons (sv_if (tv_w (tw_or (tv_not (tv_val (ev_fnG (h_are_pairs.mono (by decide)) hr rfl (av_cons (ev_var (i := 0) rfl (by first | exact .inl rfl | exact .inr (.inl rfl) | exact .inr (.inr rfl))) av_nil)))) (tw_or1 (tv_not (tv_val (ev_callB (own := false) (fun _ _ => cr_all rfl) oc_all rfl (Z.free 35) bo_all (av_cons (ev_lc (own := false) (ow := [("one", 3)]) rfl sc_are_ways.nd (iv_tuple (ev_var (i := 0) rfl (by first | exact .inl rfl | exact .inr (.inl rfl) | exact .inr (.inr rfl)))) (blkOk_by (N := ["thing", "last", "bells", "one"]) (sc := defScope (top 42)) (by decide +kernel)) (fun _ _ _ _ _ => (gv_name (i := 3) sc_are_ways.nd rfl (by first | exact .inl rfl | exact .inr rfl))) (fun _ _ _ _ _ => tsv_nil) (fun _ _ _ _ _ => (ev_fnG (h_is_between.mono (by decide)) hr rfl (av_cons (ev_ix (r65 hr.r) (ev_var (i := 3) rfl (by first | exact .inl rfl | exact .inr (.inl rfl) | exact .inr (.inr rfl))) ev_int) (av_cons ev_int (av_cons (ev_var (i := 1) rfl (by first | exact .inl rfl | exact .inr (.inl rfl) | exact .inr (.inr rfl))) av_nil))))) (by decide)) av_nil))))))) (bv_one (sv_ret ev_bl)) bv_nil)
    (bv_cons (sv_set (i := 2) sc_are_ways.nd rfl (by first | exact .inl rfl | exact .inr rfl) (ev_callTy (own := false) (fun _ _ => call_tupX) oc_tuple rfl (Z.free 34) bo_tuple (av_cons (ev_lc (own := false) (ow := [("one", 3)]) rfl sc_are_ways.nd (iv_tuple (ev_var (i := 0) rfl (by first | exact .inl rfl | exact .inr (.inl rfl) | exact .inr (.inr rfl)))) (blkOk_by (N := ["thing", "last", "bells", "one"]) (sc := defScope (top 42)) (by decide +kernel)) (fun _ _ _ _ _ => (gv_name (i := 3) sc_are_ways.nd rfl (by first | exact .inl rfl | exact .inr rfl))) (fun _ _ _ _ _ => tsv_nil) (fun _ _ _ _ _ => (ev_ix (r65 hr.r) (ev_var (i := 3) rfl (by first | exact .inl rfl | exact .inr (.inl rfl) | exact .inr (.inr rfl))) ev_int)) (by decide)) av_nil)))
    (bv_one (sv_ret (ev_and (ev_fnG (h_are_between.mono (by decide)) hr rfl (av_cons (ev_var (i := 2) rfl (by first | exact .inl rfl | exact .inr (.inl rfl) | exact .inr (.inr rfl))) (av_cons (ev_glob rfl (Z.con 18).kon) (av_cons (ev_glob rfl (Z.con 17).kon) av_nil)))) (ev_one (ev_fnG (h_is_rising.mono (by decide)) hr rfl (av_cons (ev_callB (own := false) (fun _ _ => (call_sortR.or cr_sortedI)) oc_sortI rfl (Z.free 38) bo_sorted (av_cons (ev_var (i := 2) rfl (by first | exact .inl rfl | exact .inr (.inl rfl) | exact .inr (.inr rfl))) av_nil)) av_nil))))))))
theorem sc_is_idle : FnScope ["task", "empty", "part"] ["task"] (defScope (top 44)) := ⟨rfl, rfl, rfl, by decide +kernel, rfl, by decide +kernel, by decide +kernel⟩
theorem ok_is_idle (Z : HdE K mg w fa fn kc kd be) : HasG P w K mg base ec "is_idle" 1 1 g_is_idle := by
  exact Z.defG_ 18 18 rfl rfl sc_is_idle rfl rfl (fun _ _ _ _ _ _ us hl => match us, hl with | [_], _ => rfl) fun f cdv A outer s H E hr =>
    (bv_cons (sv_setLc (own := false) (ow := [("part", 2)]) (i := 1) rfl sc_is_idle.nd rfl rfl (sw_true rfl rfl rfl (by decide +kernel)) (iv_tuple (ev_tup (av_cons (ev_glob rfl (Z.con 24).kon) (av_cons (ev_glob rfl (Z.con 23).kon) (av_cons (ev_glob rfl (Z.con 22).kon) (av_cons (ev_glob rfl (Z.con 21).kon) (av_cons (ev_glob rfl (Z.con 20).kon) (av_cons (ev_glob rfl (Z.con 19).kon) av_nil)))))))) (blkOk_by (N := ["task", "empty", "part"]) (sc := defScope (top 44)) (by decide +kernel)) (fun _ _ _ _ _ => (gv_name (i := 2) sc_is_idle.nd rfl (by first | exact .inl rfl | exact .inr rfl))) (fun _ _ _ _ _ => tsv_nil) (fun _ _ _ _ _ => (ev_ix (r65 hr.r) (ev_var (i := 0) rfl (by first | exact .inl rfl | exact .inr (.inl rfl) | exact .inr (.inr rfl))) (ev_var (i := 2) rfl (by first | exact .inl rfl | exact .inr (.inl rfl) | exact .inr (.inr rfl))))) (by decide))
    (bv_one (sv_ret (ev_and (ev_cmp (fun _ _ => op_eqD (Room.units hr.r)) ow_eq (ev_ix (r65 hr.r) (ev_var (i := 0) rfl (by first | exact .inl rfl | exact .inr (.inl rfl) | exact .inr (.inr rfl))) (ev_glob rfl (Z.con 25).kon)) ev_int rfl) (ev_and (ev_cmp (fun _ _ => op_eqD (Room.units hr.r)) ow_eq (ev_ix (r65 hr.r) (ev_var (i := 0) rfl (by first | exact .inl rfl | exact .inr (.inl rfl) | exact .inr (.inr rfl))) (ev_glob rfl (Z.con 7).kon)) (ev_tup (av_cons (ev_str lt_1) av_nil)) rfl) (ev_and (ev_cmp (fun _ _ => op_isW) ow_is (ev_ix (r65 hr.r) (ev_var (i := 0) rfl (by first | exact .inl rfl | exact .inr (.inl rfl) | exact .inr (.inr rfl))) (ev_glob rfl (Z.con 5).kon)) ev_bl rfl) (ev_one (ev_cmp (fun _ _ => op_eqD (Room.units hr.r)) ow_eq (ev_var (i := 1) rfl (by first | exact .inl rfl | exact .inr (.inl rfl) | exact .inr (.inr rfl))) (ev_mulL (own := false) (ev_lst (own := false) (av_cons (ev_tup av_nil) av_nil)) ev_int) rfl))))))))
theorem sc_is_task : FnScope ["book", "thing", "last", "most"] ["book", "thing"] (defScope (top 45)) := ⟨rfl, rfl, rfl, by decide +kernel, rfl, by decide +kernel, by decide +kernel⟩
theorem ok_is_task (Z : HdE K mg w fa fn kc kd be) : HasG P w K mg base ec "is_task" 5 2 g_is_task := by
  have h_are_bells := ok_are_bells (P := P) (w := w) (base := base) (ec := ec) Z
  have h_are_between := ok_are_between (P := P) (w := w) (base := base) (ec := ec) Z
  have h_are_boxes := ok_are_boxes (P := P) (w := w) (base := base) (ec := ec) Z
  have h_are_traps := ok_are_traps (P := P) (w := w) (base := base) (ec := ec) Z
  have h_are_ways := ok_are_ways (P := P) (w := w) (base := base) (ec := ec) Z
  have h_can_be_heard_yet := ok_can_be_heard_yet (P := P) (w := w) (base := base) (ec := ec) Z
  have h_is_between := ok_is_between (P := P) (w := w) (base := base) (ec := ec) Z
  have h_is_how := ok_is_how (P := P) (w := w) (base := base) (ec := ec) Z
  have h_is_idle := ok_is_idle (P := P) (w := w) (base := base) (ec := ec) Z
  have h_is_task_name := ok_is_task_name (P := P) (w := w) (base := base) (ec := ec) Z
  exact Z.defG_ 19 19 rfl rfl sc_is_task rfl rfl (fun _ _ _ _ _ _ us hl => match us, hl with | [_, _], _ => rfl) fun f cdv A outer s H E hr =>
    (bv_cons (sv_if (tv_w (tw_or (tv_not (tv_val (ev_isT ist_tuple (ev_var (i := 1) rfl (by first | exact .inl rfl | exact .inr (.inl rfl) | exact .inr (.inr rfl))) rfl (Z.free 31) rfl (Z.free 34) bo_tuple))) (tw_or (tv_cmp (fun _ _ => op_neD (Room.units hr.r)) ow_ne (ev_callB (own := false) (fun _ _ => call_lenW) oc_len rfl (Z.free 28) bo_len (av_cons (ev_var (i := 1) rfl (by first | exact .inl rfl | exact .inr (.inl rfl) | exact .inr (.inr rfl))) av_nil)) (ev_glob rfl (Z.con 26).kon) rfl) (tw_or1 (tv_not (tv_val (ev_isT ist_str (ev_ix (r65 hr.r) (ev_var (i := 1) rfl (by first | exact .inl rfl | exact .inr (.inl rfl) | exact .inr (.inr rfl))) (ev_glob rfl (Z.con 2).kon)) rfl (Z.free 31) rfl (Z.free 37) bo_str))))))) (bv_one (sv_ret ev_bl)) bv_nil)
    (bv_cons (sv_if (tv_w (tw_or (tv_not (tv_val (ev_fnG (h_is_task_name.mono (by decide)) hr rfl (av_cons (ev_ix (r65 hr.r) (ev_var (i := 1) rfl (by first | exact .inl rfl | exact .inr (.inl rfl) | exact .inr (.inr rfl))) (ev_glob rfl (Z.con 3).kon)) av_nil)))) (tw_or (tv_not (tv_val (ev_fnG (h_is_task_name.mono (by decide)) hr rfl (av_cons (ev_ix (r65 hr.r) (ev_var (i := 1) rfl (by first | exact .inl rfl | exact .inr (.inl rfl) | exact .inr (.inr rfl))) (ev_glob rfl (Z.con 4).kon)) av_nil)))) (tw_or1 (tv_not (tv_val (ev_isT ist_bool (ev_ix (r65 hr.r) (ev_var (i := 1) rfl (by first | exact .inl rfl | exact .inr (.inl rfl) | exact .inr (.inr rfl))) (ev_glob rfl (Z.con 5).kon)) rfl (Z.free 31) rfl (Z.free 33) bo_bool))))))) (bv_one (sv_ret ev_bl)) bv_nil)
    (bv_cons (sv_if (tv_w (tw_and (tv_cmp (fun _ _ => op_neD (Room.units hr.r)) ow_ne (ev_ix (r65 hr.r) (ev_var (i := 1) rfl (by first | exact .inl rfl | exact .inr (.inl rfl) | exact .inr (.inr rfl))) (ev_glob rfl (Z.con 2).kon)) (ev_str lt_0) rfl) (tw_and1 (tv_cmp (fun _ _ => op_notInW (ec := ec) (r65 hr.r)) ow_notIn (ev_ix (r65 hr.r) (ev_var (i := 1) rfl (by first | exact .inl rfl | exact .inr (.inl rfl) | exact .inr (.inr rfl))) (ev_glob rfl (Z.con 2).kon)) (ev_var (i := 0) rfl (by first | exact .inl rfl | exact .inr (.inl rfl) | exact .inr (.inr rfl))) rfl)))) (bv_one (sv_ret ev_bl)) bv_nil)
    (bv_cons (sv_set (i := 2) sc_is_task.nd rfl (by first | exact .inl rfl | exact .inr rfl) (ev_callB (own := false) (fun _ _ => call_lenW) oc_len rfl (Z.free 28) bo_len (av_cons (ev_get2 (r65 hr.r) (ev_var (i := 0) rfl (by first | exact .inl rfl | exact .inr (.inl rfl) | exact .inr (.inr rfl))) (ev_ix (r65 hr.r) (ev_var (i := 1) rfl (by first | exact .inl rfl | exact .inr (.inl rfl) | exact .inr (.inr rfl))) (ev_glob rfl (Z.con 2).kon)) (ev_tup av_nil) (fun _ _ => ⟨rfl, rfl, rfl, rfl⟩)) av_nil)))
    (bv_cons (sv_if (tv_w (tw_or (tv_not (tv_val (ev_fnG (h_is_between.mono (by decide)) hr rfl (av_cons (ev_ix (r65 hr.r) (ev_var (i := 1) rfl (by first | exact .inl rfl | exact .inr (.inl rfl) | exact .inr (.inr rfl))) (ev_glob rfl (Z.con 25).kon)) (av_cons ev_int (av_cons (ev_var (i := 2) rfl (by first | exact .inl rfl | exact .inr (.inl rfl) | exact .inr (.inr rfl))) av_nil)))))) (tw_or (tv_not (tv_val (ev_fnG (h_are_boxes.mono (by decide)) hr rfl (av_cons (ev_ix (r65 hr.r) (ev_var (i := 1) rfl (by first | exact .inl rfl | exact .inr (.inl rfl) | exact .inr (.inr rfl))) (ev_glob rfl (Z.con 24).kon)) av_nil)))) (tw_or1 (tv_not (tv_val (ev_fnG (h_is_how.mono (by decide)) hr rfl (av_cons (ev_ix (r65 hr.r) (ev_var (i := 1) rfl (by first | exact .inl rfl | exact .inr (.inl rfl) | exact .inr (.inr rfl))) (ev_glob rfl (Z.con 7).kon)) av_nil)))))))) (bv_one (sv_ret ev_bl)) bv_nil)
    (bv_cons (sv_if (tv_w (tw_or (tv_not (tv_val (ev_fnG (h_are_bells.mono (by decide)) hr rfl (av_cons (ev_ix (r65 hr.r) (ev_var (i := 1) rfl (by first | exact .inl rfl | exact .inr (.inl rfl) | exact .inr (.inr rfl))) (ev_glob rfl (Z.con 23).kon)) (av_cons ev_int av_nil))))) (tw_or (tv_not (tv_val (ev_fnG (h_are_bells.mono (by decide)) hr rfl (av_cons (ev_ix (r65 hr.r) (ev_var (i := 1) rfl (by first | exact .inl rfl | exact .inr (.inl rfl) | exact .inr (.inr rfl))) (ev_glob rfl (Z.con 22).kon)) (av_cons (ev_glob rfl (Z.con 18).kon) av_nil))))) (tw_or1 (tv_not (tv_val (ev_fnG (h_are_traps.mono (by decide)) hr rfl (av_cons (ev_ix (r65 hr.r) (ev_var (i := 1) rfl (by first | exact .inl rfl | exact .inr (.inl rfl) | exact .inr (.inr rfl))) (ev_glob rfl (Z.con 21).kon)) (av_cons (ev_var (i := 2) rfl (by first | exact .inl rfl | exact .inr (.inl rfl) | exact .inr (.inr rfl))) av_nil))))))))) (bv_one (sv_ret ev_bl)) bv_nil)
    (bv_cons (sv_if (tv_w (tw_or (tv_not (tv_val (ev_fnG (h_are_ways.mono (by decide)) hr rfl (av_cons (ev_ix (r65 hr.r) (ev_var (i := 1) rfl (by first | exact .inl rfl | exact .inr (.inl rfl) | exact .inr (.inr rfl))) (ev_glob rfl (Z.con 20).kon)) (av_cons (ev_var (i := 2) rfl (by first | exact .inl rfl | exact .inr (.inl rfl) | exact .inr (.inr rfl))) av_nil))))) (tw_or1 (tv_not (tv_val (ev_fnG (h_are_between.mono (by decide)) hr rfl (av_cons (ev_ix (r65 hr.r) (ev_var (i := 1) rfl (by first | exact .inl rfl | exact .inr (.inl rfl) | exact .inr (.inr rfl))) (ev_glob rfl (Z.con 19).kon)) (av_cons ev_int (av_cons (ev_glob rfl (Z.con 14).kon) av_nil))))))))) (bv_one (sv_ret ev_bl)) bv_nil)
    (bv_cons (sv_set (i := 3) sc_is_task.nd rfl (by first | exact .inl rfl | exact .inr rfl) (ev_if (tv_cmp (fun _ _ => op_eqD (Room.units hr.r)) ow_eq (ev_ix (r65 hr.r) (ev_var (i := 1) rfl (by first | exact .inl rfl | exact .inr (.inl rfl) | exact .inr (.inr rfl))) (ev_glob rfl (Z.con 2).kon)) (ev_str lt_0) rfl) (ev_glob rfl (Z.con 27).kon) (ev_glob rfl (Z.con 28).kon)))
    (bv_cons (sv_if (tv_not (tv_val (ev_fnG (h_is_between.mono (by decide)) hr rfl (av_cons (ev_ix (r65 hr.r) (ev_var (i := 1) rfl (by first | exact .inl rfl | exact .inr (.inl rfl) | exact .inr (.inr rfl))) (ev_glob rfl (Z.con 6).kon)) (av_cons ev_int (av_cons (ev_if (tv_cmp (fun _ _ => op_lt) (ow_cmp _) (ev_callB (own := false) (fun _ _ => call_lenW) oc_len rfl (Z.free 28) bo_len (av_cons (ev_ix (r65 hr.r) (ev_var (i := 1) rfl (by first | exact .inl rfl | exact .inr (.inl rfl) | exact .inr (.inr rfl))) (ev_glob rfl (Z.con 3).kon)) av_nil)) (ev_glob rfl (Z.con 1).kon) rfl) (ev_var (i := 3) rfl (by first | exact .inl rfl | exact .inr (.inl rfl) | exact .inr (.inr rfl))) ev_int) av_nil)))))) (bv_one (sv_ret ev_bl)) bv_nil)
    (bv_cons (sv_if (tv_w (tw_and (tv_cmp (fun _ _ => op_eqD (Room.units hr.r)) ow_eq (ev_ix (r65 hr.r) (ev_ix (r65 hr.r) (ev_var (i := 1) rfl (by first | exact .inl rfl | exact .inr (.inl rfl) | exact .inr (.inr rfl))) (ev_glob rfl (Z.con 7).kon)) ev_int) (ev_str lt_2) rfl) (tw_and1 (tv_cmp (fun _ _ => op_neD (Room.units hr.r)) ow_ne (ev_tup (av_cons (ev_ix (r65 hr.r) (ev_var (i := 1) rfl (by first | exact .inl rfl | exact .inr (.inl rfl) | exact .inr (.inr rfl))) (ev_glob rfl (Z.con 23).kon)) (av_cons (ev_ix (r65 hr.r) (ev_var (i := 1) rfl (by first | exact .inl rfl | exact .inr (.inl rfl) | exact .inr (.inr rfl))) (ev_glob rfl (Z.con 22).kon)) (av_cons (ev_ix (r65 hr.r) (ev_var (i := 1) rfl (by first | exact .inl rfl | exact .inr (.inl rfl) | exact .inr (.inr rfl))) (ev_glob rfl (Z.con 20).kon)) av_nil)))) (ev_tup (av_cons (ev_tup av_nil) (av_cons (ev_tup av_nil) (av_cons (ev_tup av_nil) av_nil)))) rfl)))) (bv_one (sv_ret ev_bl)) bv_nil)
    (bv_one (sv_ret (ev_and (ev_fnG (h_can_be_heard_yet.mono (by decide)) hr rfl (av_cons (ev_ix (r65 hr.r) (ev_var (i := 1) rfl (by first | exact .inl rfl | exact .inr (.inl rfl) | exact .inr (.inr rfl))) (ev_glob rfl (Z.con 23).kon)) (av_cons (ev_ix (r65 hr.r) (ev_var (i := 1) rfl (by first | exact .inl rfl | exact .inr (.inl rfl) | exact .inr (.inr rfl))) (ev_glob rfl (Z.con 21).kon)) av_nil))) (ev_one (ev_or (ev_cmp (fun _ _ => op_neD (Room.units hr.r)) ow_ne (ev_ix (r65 hr.r) (ev_var (i := 1) rfl (by first | exact .inl rfl | exact .inr (.inl rfl) | exact .inr (.inr rfl))) (ev_glob rfl (Z.con 2).kon)) (ev_str lt_0) rfl) (ev_one (ev_fnG (h_is_idle.mono (by decide)) hr rfl (av_cons (ev_var (i := 1) rfl (by first | exact .inl rfl | exact .inr (.inl rfl) | exact .inr (.inr rfl))) av_nil))))))))))))))))))
theorem sc_is_yard : FnScope ["book", "thing", "known", "one"] ["book", "thing"] (defScope (top 48)) := ⟨rfl, rfl, rfl, by decide +kernel, rfl, by decide +kernel, by decide +kernel⟩
theorem ok_is_yard (Z : HdE K mg w fa fn kc kd be) : HasG P w K mg base ec "is_yard" 6 2 g_is_yard := by
  have h_are_between := ok_are_between (P := P) (w := w) (base := base) (ec := ec) Z
  have h_is_rising := ok_is_rising (P := P) (w := w) (base := base) (ec := ec) Z
  have h_is_task := ok_is_task (P := P) (w := w) (base := base) (ec := ec) Z
  have h_is_task_name := ok_is_task_name (P := P) (w := w) (base := base) (ec := ec) Z
  have h_stands_right := ok_stands_right (P := P) (w := w) (base := base) (ec := ec) Z
  exact Z.defG_ 20 20 rfl rfl sc_is_yard rfl rfl (fun _ _ _ _ _ _ us hl => match us, hl with | [_, _], _ => rfl) fun f cdv A outer s H E hr =>
    (bv_cons (sv_if (tv_w (tw_or (tv_not (tv_val (ev_isT ist_tuple (ev_var (i := 1) rfl (by first | exact .inl rfl | exact .inr (.inl rfl) | exact .inr (.inr rfl))) rfl (Z.free 31) rfl (Z.free 34) bo_tuple))) (tw_or (tv_cmp (fun _ _ => op_neD (Room.units hr.r)) ow_ne (ev_callB (own := false) (fun _ _ => call_lenW) oc_len rfl (Z.free 28) bo_len (av_cons (ev_var (i := 1) rfl (by first | exact .inl rfl | exact .inr (.inl rfl) | exact .inr (.inr rfl))) av_nil)) ev_int rfl) (tw_or1 (tv_not (tv_val (ev_fnG (h_is_task_name.mono (by decide)) hr rfl (av_cons (ev_ix (r65 hr.r) (ev_var (i := 1) rfl (by first | exact .inl rfl | exact .inr (.inl rfl) | exact .inr (.inr rfl))) ev_int) av_nil)))))))) (bv_one (sv_ret ev_bl)) bv_nil)
    (bv_cons (sv_if (tv_w (tw_or (tv_not (tv_val (ev_fnG (h_are_between.mono (by decide)) hr rfl (av_cons (ev_ix (r65 hr.r) (ev_var (i := 1) rfl (by first | exact .inl rfl | exact .inr (.inl rfl) | exact .inr (.inr rfl))) ev_int) (av_cons ev_int (av_cons (ev_glob rfl (Z.con 14).kon) av_nil)))))) (tw_or1 (tv_not (tv_val (ev_isT ist_tuple (ev_ix (r65 hr.r) (ev_var (i := 1) rfl (by first | exact .inl rfl | exact .inr (.inl rfl) | exact .inr (.inr rfl))) ev_int) rfl (Z.free 31) rfl (Z.free 34) bo_tuple)))))) (bv_one (sv_ret ev_bl)) bv_nil)
    (bv_cons (sv_if (tv_w (tw_or (tv_not (tv_val (ev_callB (own := false) (fun _ _ => cr_all rfl) oc_all rfl (Z.free 35) bo_all (av_cons (ev_lc (own := false) (ow := [("one", 3)]) rfl sc_is_yard.nd (iv_tuple (ev_ix (r65 hr.r) (ev_var (i := 1) rfl (by first | exact .inl rfl | exact .inr (.inl rfl) | exact .inr (.inr rfl))) ev_int)) (blkOk_by (N := ["book", "thing", "known", "one"]) (sc := defScope (top 48)) (by decide +kernel)) (fun _ _ _ _ _ => (gv_name (i := 3) sc_is_yard.nd rfl (by first | exact .inl rfl | exact .inr rfl))) (fun _ _ _ _ _ => tsv_nil) (fun _ _ _ _ _ => (ev_fnG (h_is_task.mono (by decide)) hr rfl (av_cons (ev_var (i := 0) rfl (by first | exact .inl rfl | exact .inr (.inl rfl) | exact .inr (.inr rfl))) (av_cons (ev_var (i := 3) rfl (by first | exact .inl rfl | exact .inr (.inl rfl) | exact .inr (.inr rfl))) av_nil)))) (by decide)) av_nil)))) (tw_or1 (tv_not (tv_val (ev_fnG (h_is_rising.mono (by decide)) hr rfl (av_cons (ev_lc (own := false) (ow := [("one", 3)]) rfl sc_is_yard.nd (iv_tuple (ev_ix (r65 hr.r) (ev_var (i := 1) rfl (by first | exact .inl rfl | exact .inr (.inl rfl) | exact .inr (.inr rfl))) ev_int)) (blkOk_by (N := ["book", "thing", "known", "one"]) (sc := defScope (top 48)) (by decide +kernel)) (fun _ _ _ _ _ => (gv_name (i := 3) sc_is_yard.nd rfl (by first | exact .inl rfl | exact .inr rfl))) (fun _ _ _ _ _ => tsv_nil) (fun _ _ _ _ _ => (ev_ix (r65 hr.r) (ev_var (i := 3) rfl (by first | exact .inl rfl | exact .inr (.inl rfl) | exact .inr (.inr rfl))) (ev_glob rfl (Z.con 3).kon))) (by decide)) av_nil))))))) (bv_one (sv_ret ev_bl)) bv_nil)
    (bv_cons (sv_set (i := 2) sc_is_yard.nd rfl (by first | exact .inl rfl | exact .inr rfl) (ev_dictT rfl (r65 hr.r) (ev_lc (own := false) (ow := [("one", 3)]) rfl sc_is_yard.nd (iv_tuple (ev_ix (r65 hr.r) (ev_var (i := 1) rfl (by first | exact .inl rfl | exact .inr (.inl rfl) | exact .inr (.inr rfl))) ev_int)) (blkOk_by (N := ["book", "thing", "known", "one"]) (sc := defScope (top 48)) (by decide +kernel)) (fun _ _ _ _ _ => (gv_name (i := 3) sc_is_yard.nd rfl (by first | exact .inl rfl | exact .inr rfl))) (fun _ _ _ _ _ => tsv_nil) (fun _ _ _ _ _ => (ev_tup (av_cons (ev_ix (r65 hr.r) (ev_var (i := 3) rfl (by first | exact .inl rfl | exact .inr (.inl rfl) | exact .inr (.inr rfl))) (ev_glob rfl (Z.con 3).kon)) (av_cons (ev_var (i := 3) rfl (by first | exact .inl rfl | exact .inr (.inl rfl) | exact .inr (.inr rfl))) av_nil)))) (by decide)) rfl (Z.free 36) bo_dict))
    (bv_cons (sv_if (tv_w (tw_or (tv_cmp (fun _ _ => op_notInT (r65 hr.r)) ow_notInT (ev_tup av_nil) (ev_var (i := 2) rfl (by first | exact .inl rfl | exact .inr (.inl rfl) | exact .inr (.inr rfl))) rfl) (tw_or1 (tv_cmp (fun _ _ => op_neD (Room.units hr.r)) ow_ne (ev_callB (own := false) (fun _ _ => call_lenT) oc_lenT rfl (Z.free 28) bo_len (av_cons (ev_var (i := 2) rfl (by first | exact .inl rfl | exact .inr (.inl rfl) | exact .inr (.inr rfl))) av_nil)) (ev_bin (own := false) (fun _ _ => op_addW) ow_add ev_int (ev_callB (own := false) (fun _ _ => cr_sum rfl) oc_sum rfl (Z.free 39) bo_sum (av_cons (ev_lc (own := false) (ow := [("one", 3)]) rfl sc_is_yard.nd (iv_tuple (ev_ix (r65 hr.r) (ev_var (i := 1) rfl (by first | exact .inl rfl | exact .inr (.inl rfl) | exact .inr (.inr rfl))) ev_int)) (blkOk_by (N := ["book", "thing", "known", "one"]) (sc := defScope (top 48)) (by decide +kernel)) (fun _ _ _ _ _ => (gv_name (i := 3) sc_is_yard.nd rfl (by first | exact .inl rfl | exact .inr rfl))) (fun _ _ _ _ _ => tsv_nil) (fun _ _ _ _ _ => (ev_ix (r65 hr.r) (ev_var (i := 3) rfl (by first | exact .inl rfl | exact .inr (.inl rfl) | exact .inr (.inr rfl))) (ev_glob rfl (Z.con 6).kon))) (by decide)) av_nil))) rfl)))) (bv_one (sv_ret ev_bl)) bv_nil)
    (bv_one (sv_ret (ev_and (ev_callB (own := false) (fun _ _ => cr_all rfl) oc_all rfl (Z.free 35) bo_all (av_cons (ev_lc (own := false) (ow := [("one", 3)]) rfl sc_is_yard.nd (iv_tuple (ev_ix (r65 hr.r) (ev_var (i := 1) rfl (by first | exact .inl rfl | exact .inr (.inl rfl) | exact .inr (.inr rfl))) ev_int)) (blkOk_by (N := ["book", "thing", "known", "one"]) (sc := defScope (top 48)) (by decide +kernel)) (fun _ _ _ _ _ => (gv_name (i := 3) sc_is_yard.nd rfl (by first | exact .inl rfl | exact .inr rfl))) (fun _ _ _ _ _ => tsv_nil) (fun _ _ _ _ _ => (ev_fnG (h_stands_right.mono (by decide)) hr rfl (av_cons (ev_var (i := 3) rfl (by first | exact .inl rfl | exact .inr (.inl rfl) | exact .inr (.inr rfl))) (av_cons (ev_var (i := 2) rfl (by first | exact .inl rfl | exact .inr (.inl rfl) | exact .inr (.inr rfl))) av_nil)))) (by decide)) av_nil)) (ev_one (ev_cmp (fun _ _ => op_inW (ec := ec) (r65 hr.r)) ow_in (ev_ix (r65 hr.r) (ev_var (i := 1) rfl (by first | exact .inl rfl | exact .inr (.inl rfl) | exact .inr (.inr rfl))) ev_int) (ev_lc (own := false) (ow := [("one", 3)]) rfl sc_is_yard.nd (iv_tuple (ev_ix (r65 hr.r) (ev_var (i := 1) rfl (by first | exact .inl rfl | exact .inr (.inl rfl) | exact .inr (.inr rfl))) ev_int)) (blkOk_by (N := ["book", "thing", "known", "one"]) (sc := defScope (top 48)) (by decide +kernel)) (fun _ _ _ _ _ => (gv_name (i := 3) sc_is_yard.nd rfl (by first | exact .inl rfl | exact .inr rfl))) (fun _ _ _ _ _ => tsv_nil) (fun _ _ _ _ _ => (ev_ix (r65 hr.r) (ev_var (i := 3) rfl (by first | exact .inl rfl | exact .inr (.inl rfl) | exact .inr (.inr rfl))) (ev_glob rfl (Z.con 4).kon))) (by decide)) rfl))))))))))
theorem sc__law_task : FnScope ["_law_name", "_law_group", "_law_script", "_law_place", "_law_how", "_law_started"] ["_law_name", "_law_group", "_law_script", "_law_place", "_law_how", "_law_started"] (defScope (top 53)) := ⟨rfl, rfl, rfl, by decide +kernel, rfl, by decide +kernel, by decide +kernel⟩
theorem ok__law_task (Z : HdE K mg w fa fn kc kd be) : HasG P w K mg base ec "_law_task" 1 6 m__law_task := by
  exact Z.defG_ 21 21 rfl rfl sc__law_task rfl rfl (fun _ _ _ _ _ _ us hl => match us, hl with | [_, _, _, _, _, _], _ => rfl) fun f cdv A outer s H E hr =>
    (bv_one (sv_ret (ev_tup (av_cons (ev_var (i := 0) rfl (by first | exact .inl rfl | exact .inr (.inl rfl) | exact .inr (.inr rfl))) (av_cons (ev_var (i := 1) rfl (by first | exact .inl rfl | exact .inr (.inl rfl) | exact .inr (.inr rfl))) (av_cons (ev_var (i := 2) rfl (by first | exact .inl rfl | exact .inr (.inl rfl) | exact .inr (.inr rfl))) (av_cons (ev_var (i := 3) rfl (by first | exact .inl rfl | exact .inr (.inl rfl) | exact .inr (.inr rfl))) (av_cons (ev_tup av_nil) (av_cons (ev_var (i := 4) rfl (by first | exact .inl rfl | exact .inr (.inl rfl) | exact .inr (.inr rfl))) (av_cons ev_bl (av_cons (ev_tup av_nil) (av_cons (ev_tup av_nil) (av_cons (ev_tup av_nil) (av_cons (ev_tup av_nil) (av_cons (ev_var (i := 5) rfl (by first | exact .inl rfl | exact .inr (.inl rfl) | exact .inr (.inr rfl))) (av_cons (ev_tup av_nil) av_nil))))))))))))))))
theorem sc__law_with : FnScope ["_law_part", "_law_thing", "_law_size", "_law_one"] ["_law_part", "_law_thing", "_law_size"] (defScope (top 54)) := ⟨rfl, rfl, rfl, by decide +kernel, rfl, by decide +kernel, by decide +kernel⟩
theorem ok__law_with (Z : HdE K mg w fa fn kc kd be) : HasG P w K mg base ec "_law_with" 2 3 m__law_with := by
  have h__law_task := ok__law_task (P := P) (w := w) (base := base) (ec := ec) Z
  exact Z.defG_ 22 22 rfl rfl sc__law_with rfl rfl (fun _ _ _ _ _ _ us hl => match us, hl with | [_, _, _], _ => rfl) fun f cdv A outer s H E hr =>
    (bv_cons (sv_set (i := 3) sc__law_with.nd rfl (by first | exact .inl rfl | exact .inr rfl) (ev_fnG (h__law_task.mono (by decide)) hr rfl (av_cons (ev_tup av_nil) (av_cons (ev_tup av_nil) (av_cons (ev_str lt_4) (av_cons ev_int (av_cons (ev_tup (av_cons (ev_str lt_1) av_nil)) (av_cons ev_int av_nil))))))))
    (bv_one (sv_ret (ev_tup (av_cons (ev_tup av_nil) (av_cons (ev_tup av_nil) (av_cons (ev_tup (av_cons (ev_bin (own := false) (fun _ _ => op_addW) ow_add (ev_bin (own := false) (fun _ _ => op_addW) ow_add (ev_sl (own := false) (ev_var (i := 3) rfl (by first | exact .inl rfl | exact .inr (.inl rfl) | exact .inr (.inr rfl))) ov_none (ov_some (ev_var (i := 0) rfl (by first | exact .inl rfl | exact .inr (.inl rfl) | exact .inr (.inr rfl))))) (ev_tup (av_cons (ev_var (i := 1) rfl (by first | exact .inl rfl | exact .inr (.inl rfl) | exact .inr (.inr rfl))) av_nil))) (ev_sl (own := false) (ev_var (i := 3) rfl (by first | exact .inl rfl | exact .inr (.inl rfl) | exact .inr (.inr rfl))) (ov_some (ev_bin (own := false) (fun _ _ => op_addW) ow_add (ev_var (i := 0) rfl (by first | exact .inl rfl | exact .inr (.inl rfl) | exact .inr (.inr rfl))) ev_int)) ov_none)) av_nil)) av_nil)))))))
theorem sc__law_number : FnScope ["_law_state_here", "_law_size", "_law_number_here", "_law_way", "_law_place"] ["_law_state_here", "_law_size"] (defScope (top 57)) := ⟨rfl, rfl, rfl, by decide +kernel, rfl, by decide +kernel, by decide +kernel⟩
theorem ok__law_number (Z : HdE K mg w fa fn kc kd be) : HasG P w K mg base ec "_law_number" 3 2 m__law_number := by
  have h__law_next := ok__law_next (P := P) (w := w) (base := base) (ec := ec) Z
  have h__law_pick := ok__law_pick (P := P) (w := w) (base := base) (ec := ec) Z
  have h__law_with := ok__law_with (P := P) (w := w) (base := base) (ec := ec) Z
  exact Z.defG_ 23 23 rfl rfl sc__law_number rfl rfl (fun _ _ _ _ _ _ us hl => match us, hl with | [_, _], _ => rfl) fun f cdv A outer s H E hr =>
    (bv_cons (sv_set (i := 2) sc__law_number.nd rfl (by first | exact .inl rfl | exact .inr rfl) (ev_fnG (h__law_pick.mono (by decide)) hr rfl (av_cons (ev_var (i := 0) rfl (by first | exact .inl rfl | exact .inr (.inl rfl) | exact .inr (.inr rfl))) (av_cons (ev_lst (own := false) (av_cons ev_int (av_cons ev_int (av_cons ev_int (av_cons ev_int (av_cons ev_int (av_cons ev_int (av_cons ev_int (av_cons ev_int (av_cons ev_int (av_cons ev_int (av_cons ev_int (av_cons ev_int (av_cons ev_int (av_cons ev_int (av_cons ev_int (av_cons ev_int (av_cons ev_int (av_cons ev_int (av_cons ev_int (av_cons ev_int (av_cons ev_int av_nil)))))))))))))))))))))) av_nil))))
    (bv_cons (sv_set (i := 3) sc__law_number.nd rfl (by first | exact .inl rfl | exact .inr rfl) (ev_fnG (h__law_next.mono (by decide)) hr rfl (av_cons (ev_var (i := 0) rfl (by first | exact .inl rfl | exact .inr (.inl rfl) | exact .inr (.inr rfl))) (av_cons ev_int av_nil))))
    (bv_cons (sv_if (tv_cmp (fun _ _ => op_eqD (Room.units hr.r)) ow_eq (ev_var (i := 3) rfl (by first | exact .inl rfl | exact .inr (.inl rfl) | exact .inr (.inr rfl))) ev_int rfl) (bv_one (sv_ret (ev_tup (av_cons (ev_fnG (h__law_with.mono (by decide)) hr rfl (av_cons ev_int (av_cons (ev_tup (av_cons (ev_str lt_2) (av_cons (ev_var (i := 2) rfl (by first | exact .inl rfl | exact .inr (.inl rfl) | exact .inr (.inr rfl))) av_nil))) (av_cons (ev_var (i := 1) rfl (by first | exact .inl rfl | exact .inr (.inl rfl) | exact .inr (.inr rfl))) av_nil)))) (av_cons (ev_or (ev_cmp (fun _ _ => op_lt) (ow_cmp _) (ev_var (i := 2) rfl (by first | exact .inl rfl | exact .inr (.inl rfl) | exact .inr (.inr rfl))) ev_int rfl) (ev_one (ev_cmp (fun _ _ => op_inW (ec := ec) (r65 hr.r)) ow_in (ev_var (i := 2) rfl (by first | exact .inl rfl | exact .inr (.inl rfl) | exact .inr (.inr rfl))) (ev_tup (av_cons ev_int (av_cons ev_int (av_cons ev_int av_nil)))) rfl))) av_nil))))) bv_nil)
    (bv_cons (sv_if (tv_cmp (fun _ _ => op_eqD (Room.units hr.r)) ow_eq (ev_var (i := 3) rfl (by first | exact .inl rfl | exact .inr (.inl rfl) | exact .inr (.inr rfl))) ev_int rfl) (bv_one (sv_ret (ev_tup (av_cons (ev_fnG (h__law_with.mono (by decide)) hr rfl (av_cons ev_int (av_cons (ev_tup (av_cons (ev_var (i := 2) rfl (by first | exact .inl rfl | exact .inr (.inl rfl) | exact .inr (.inr rfl))) (av_cons ev_int av_nil))) (av_cons (ev_var (i := 1) rfl (by first | exact .inl rfl | exact .inr (.inl rfl) | exact .inr (.inr rfl))) av_nil)))) (av_cons (ev_cmp (fun _ _ => op_lt) (ow_cmp _) (ev_var (i := 2) rfl (by first | exact .inl rfl | exact .inr (.inl rfl) | exact .inr (.inr rfl))) ev_int rfl) av_nil))))) bv_nil)
    (bv_cons (sv_if (tv_cmp (fun _ _ => op_eqD (Room.units hr.r)) ow_eq (ev_var (i := 3) rfl (by first | exact .inl rfl | exact .inr (.inl rfl) | exact .inr (.inr rfl))) ev_int rfl) (bv_one (sv_ret (ev_tup (av_cons (ev_fnG (h__law_with.mono (by decide)) hr rfl (av_cons ev_int (av_cons (ev_tup (av_cons (ev_tup (av_cons (ev_str lt_5) (av_cons (ev_var (i := 2) rfl (by first | exact .inl rfl | exact .inr (.inl rfl) | exact .inr (.inr rfl))) av_nil))) av_nil)) (av_cons (ev_var (i := 1) rfl (by first | exact .inl rfl | exact .inr (.inl rfl) | exact .inr (.inr rfl))) av_nil)))) (av_cons (ev_chain (fun _ _ => op_lt) (fun _ _ => op_lt) (ow_cmp _) (ow_cmp _) ev_int (ev_var (i := 2) rfl (by first | exact .inl rfl | exact .inr (.inl rfl) | exact .inr (.inr rfl))) ev_int) av_nil))))) bv_nil)
    (bv_cons (sv_if (tv_cmp (fun _ _ => op_eqD (Room.units hr.r)) ow_eq (ev_var (i := 3) rfl (by first | exact .inl rfl | exact .inr (.inl rfl) | exact .inr (.inr rfl))) ev_int rfl) (bv_one (sv_ret (ev_tup (av_cons (ev_tup (av_cons (ev_tup av_nil) (av_cons (ev_tup (av_cons (ev_var (i := 2) rfl (by first | exact .inl rfl | exact .inr (.inl rfl) | exact .inr (.inr rfl))) av_nil)) (av_cons (ev_ix (r65 hr.r) (ev_fnG (h__law_with.mono (by decide)) hr rfl (av_cons ev_int (av_cons ev_int (av_cons (ev_var (i := 1) rfl (by first | exact .inl rfl | exact .inr (.inl rfl) | exact .inr (.inr rfl))) av_nil)))) ev_int) av_nil)))) (av_cons (ev_cmp (fun _ _ => op_lt) (ow_cmp _) (ev_var (i := 2) rfl (by first | exact .inl rfl | exact .inr (.inl rfl) | exact .inr (.inr rfl))) ev_int rfl) av_nil))))) bv_nil)
    (bv_cons (sv_if (tv_cmp (fun _ _ => op_eqD (Room.units hr.r)) ow_eq (ev_var (i := 3) rfl (by first | exact .inl rfl | exact .inr (.inl rfl) | exact .inr (.inr rfl))) ev_int rfl) (bv_one (sv_ret (ev_tup (av_cons (ev_fnG (h__law_with.mono (by decide)) hr rfl (av_cons ev_int (av_cons (ev_tup (av_cons (ev_var (i := 2) rfl (by first | exact .inl rfl | exact .inr (.inl rfl) | exact .inr (.inr rfl))) av_nil)) (av_cons (ev_var (i := 1) rfl (by first | exact .inl rfl | exact .inr (.inl rfl) | exact .inr (.inr rfl))) av_nil)))) (av_cons (ev_cmp (fun _ _ => op_lt) (ow_cmp _) (ev_var (i := 2) rfl (by first | exact .inl rfl | exact .inr (.inl rfl) | exact .inr (.inr rfl))) ev_int rfl) av_nil))))) bv_nil)
    (bv_cons (sv_if (tv_cmp (fun _ _ => op_eqD (Room.units hr.r)) ow_eq (ev_var (i := 3) rfl (by first | exact .inl rfl | exact .inr (.inl rfl) | exact .inr (.inr rfl))) ev_int rfl) (bv_one (sv_ret (ev_tup (av_cons (ev_fnG (h__law_with.mono (by decide)) hr rfl (av_cons ev_int (av_cons (ev_tup (av_cons (ev_var (i := 2) rfl (by first | exact .inl rfl | exact .inr (.inl rfl) | exact .inr (.inr rfl))) av_nil)) (av_cons (ev_var (i := 1) rfl (by first | exact .inl rfl | exact .inr (.inl rfl) | exact .inr (.inr rfl))) av_nil)))) (av_cons (ev_chain (fun _ _ => op_lt) (fun _ _ => op_lt) (ow_cmp _) (ow_cmp _) ev_int (ev_var (i := 2) rfl (by first | exact .inl rfl | exact .inr (.inl rfl) | exact .inr (.inr rfl))) ev_int) av_nil))))) bv_nil)
    (bv_cons (sv_if (tv_cmp (fun _ _ => op_eqD (Room.units hr.r)) ow_eq (ev_var (i := 3) rfl (by first | exact .inl rfl | exact .inr (.inl rfl) | exact .inr (.inr rfl))) ev_int rfl) (bv_cons (sv_set (i := 4) sc__law_number.nd rfl (by first | exact .inl rfl | exact .inr rfl) (ev_fnG (h__law_pick.mono (by decide)) hr rfl (av_cons (ev_var (i := 0) rfl (by first | exact .inl rfl | exact .inr (.inl rfl) | exact .inr (.inr rfl))) (av_cons (ev_lst (own := false) (av_cons (ev_neg ev_int) (av_cons (ev_neg ev_int) (av_cons ev_int (av_cons (ev_var (i := 1) rfl (by first | exact .inl rfl | exact .inr (.inl rfl) | exact .inr (.inr rfl))) (av_cons (ev_bin (own := false) (fun _ _ => op_addW) ow_add (ev_var (i := 1) rfl (by first | exact .inl rfl | exact .inr (.inl rfl) | exact .inr (.inr rfl))) ev_int) av_nil)))))) av_nil))))
    (bv_one (sv_ret (ev_tup (av_cons (ev_fnG (h__law_with.mono (by decide)) hr rfl (av_cons ev_int (av_cons (ev_tup (av_cons (ev_tup (av_cons (ev_var (i := 2) rfl (by first | exact .inl rfl | exact .inr (.inl rfl) | exact .inr (.inr rfl))) (av_cons (ev_var (i := 4) rfl (by first | exact .inl rfl | exact .inr (.inl rfl) | exact .inr (.inr rfl))) av_nil))) av_nil)) (av_cons (ev_var (i := 1) rfl (by first | exact .inl rfl | exact .inr (.inl rfl) | exact .inr (.inr rfl))) av_nil)))) (av_cons (ev_and (ev_chain (fun _ _ => op_lt) (fun _ _ => op_lt) (ow_cmp _) (ow_cmp _) ev_int (ev_var (i := 2) rfl (by first | exact .inl rfl | exact .inr (.inl rfl) | exact .inr (.inr rfl))) ev_int) (ev_one (ev_chain (fun _ _ => op_le) (fun _ _ => op_le) (ow_cmp _) (ow_cmp _) (ev_neg ev_int) (ev_var (i := 4) rfl (by first | exact .inl rfl | exact .inr (.inl rfl) | exact .inr (.inr rfl))) (ev_var (i := 1) rfl (by first | exact .inl rfl | exact .inr (.inl rfl) | exact .inr (.inr rfl)))))) av_nil)))))) bv_nil)
    (bv_cons (sv_if (tv_cmp (fun _ _ => op_eqD (Room.units hr.r)) ow_eq (ev_var (i := 3) rfl (by first | exact .inl rfl | exact .inr (.inl rfl) | exact .inr (.inr rfl))) ev_int rfl) (bv_cons (sv_set (i := 4) sc__law_number.nd rfl (by first | exact .inl rfl | exact .inr rfl) (ev_fnG (h__law_pick.mono (by decide)) hr rfl (av_cons (ev_var (i := 0) rfl (by first | exact .inl rfl | exact .inr (.inl rfl) | exact .inr (.inr rfl))) (av_cons (ev_lst (own := false) (av_cons (ev_neg ev_int) (av_cons ev_int (av_cons (ev_var (i := 1) rfl (by first | exact .inl rfl | exact .inr (.inl rfl) | exact .inr (.inr rfl))) (av_cons (ev_bin (own := false) (fun _ _ => op_addW) ow_add (ev_var (i := 1) rfl (by first | exact .inl rfl | exact .inr (.inl rfl) | exact .inr (.inr rfl))) ev_int) av_nil))))) av_nil))))
    (bv_one (sv_ret (ev_tup (av_cons (ev_fnG (h__law_with.mono (by decide)) hr rfl (av_cons ev_int (av_cons (ev_tup (av_cons (ev_tup (av_cons (ev_var (i := 4) rfl (by first | exact .inl rfl | exact .inr (.inl rfl) | exact .inr (.inr rfl))) (av_cons (ev_var (i := 2) rfl (by first | exact .inl rfl | exact .inr (.inl rfl) | exact .inr (.inr rfl))) av_nil))) av_nil)) (av_cons (ev_var (i := 1) rfl (by first | exact .inl rfl | exact .inr (.inl rfl) | exact .inr (.inr rfl))) av_nil)))) (av_cons (ev_and (ev_chain (fun _ _ => op_lt) (fun _ _ => op_lt) (ow_cmp _) (ow_cmp _) ev_int (ev_var (i := 2) rfl (by first | exact .inl rfl | exact .inr (.inl rfl) | exact .inr (.inr rfl))) ev_int) (ev_one (ev_chain (fun _ _ => op_le) (fun _ _ => op_le) (ow_cmp _) (ow_cmp _) ev_int (ev_var (i := 4) rfl (by first | exact .inl rfl | exact .inr (.inl rfl) | exact .inr (.inr rfl))) (ev_var (i := 1) rfl (by first | exact .inl rfl | exact .inr (.inl rfl) | exact .inr (.inr rfl)))))) av_nil)))))) bv_nil)
    (bv_cons (sv_set (i := 4) sc__law_number.nd rfl (by first | exact .inl rfl | exact .inr rfl) (ev_fnG (h__law_pick.mono (by decide)) hr rfl (av_cons (ev_var (i := 0) rfl (by first | exact .inl rfl | exact .inr (.inl rfl) | exact .inr (.inr rfl))) (av_cons (ev_lst (own := false) (av_cons (ev_neg ev_int) (av_cons ev_int (av_cons (ev_var (i := 1) rfl (by first | exact .inl rfl | exact .inr (.inl rfl) | exact .inr (.inr rfl))) (av_cons (ev_bin (own := false) (fun _ _ => op_addW) ow_add (ev_var (i := 1) rfl (by first | exact .inl rfl | exact .inr (.inl rfl) | exact .inr (.inr rfl))) ev_int) av_nil))))) av_nil))))
    (bv_one (sv_ret (ev_tup (av_cons (ev_fnG (h__law_with.mono (by decide)) hr rfl (av_cons ev_int (av_cons (ev_var (i := 4) rfl (by first | exact .inl rfl | exact .inr (.inl rfl) | exact .inr (.inr rfl))) (av_cons (ev_var (i := 1) rfl (by first | exact .inl rfl | exact .inr (.inl rfl) | exact .inr (.inr rfl))) av_nil)))) (av_cons (ev_chain (fun _ _ => op_le) (fun _ _ => op_le) (ow_cmp _) (ow_cmp _) ev_int (ev_var (i := 4) rfl (by first | exact .inl rfl | exact .inr (.inl rfl) | exact .inr (.inr rfl))) (ev_var (i := 1) rfl (by first | exact .inl rfl | exact .inr (.inl rfl) | exact .inr (.inr rfl)))) av_nil))))))))))))))))
theorem sc__law_wide : FnScope ["_law_state_here", "_law_many", "_law_script", "_law_kids", "_law_thing", "_law_k"] ["_law_state_here"] (defScope (top 55)) := ⟨rfl, rfl, rfl, by decide +kernel, rfl, by decide +kernel, by decide +kernel⟩
theorem ok__law_wide (Z : HdE K mg w fa fn kc kd be) : HasG P w K mg base ec "_law_wide" 3 1 m__law_wide := by
  have h__law_next := ok__law_next (P := P) (w := w) (base := base) (ec := ec) Z
  have h__law_pick := ok__law_pick (P := P) (w := w) (base := base) (ec := ec) Z
  have h__law_task := ok__law_task (P := P) (w := w) (base := base) (ec := ec) Z
  exact Z.defG_ 24 24 rfl rfl sc__law_wide rfl rfl (fun _ _ _ _ _ _ us hl => match us, hl with | [_], _ => rfl) fun f cdv A outer s H E hr =>
    (bv_cons (sv_set (i := 1) sc__law_wide.nd rfl (by first | exact .inl rfl | exact .inr rfl) (ev_fnG (h__law_next.mono (by decide)) hr rfl (av_cons (ev_var (i := 0) rfl (by first | exact .inl rfl | exact .inr (.inl rfl) | exact .inr (.inr rfl))) (av_cons ev_int av_nil))))
    (bv_cons (sv_set (i := 2) sc__law_wide.nd rfl (by first | exact .inl rfl | exact .inr rfl) (ev_fnG (h__law_pick.mono (by decide)) hr rfl (av_cons (ev_var (i := 0) rfl (by first | exact .inl rfl | exact .inr (.inl rfl) | exact .inr (.inr rfl))) (av_cons (ev_lst (own := false) (av_cons (ev_str lt_4) (av_cons (ev_str lt_0) av_nil))) av_nil))))
    (bv_cons (sv_setLc (own := false) (ow := [("_law_k", 5)]) (i := 3) rfl sc__law_wide.nd rfl rfl (sw_true rfl rfl rfl (by decide +kernel)) (iv_rng1 rfl (Z.free 30) (ev_var (i := 1) rfl (by first | exact .inl rfl | exact .inr (.inl rfl) | exact .inr (.inr rfl)))) (blkOk_by (N := ["_law_state_here", "_law_many", "_law_script", "_law_kids", "_law_thing", "_law_k"]) (sc := defScope (top 55)) (by decide +kernel)) (fun _ _ _ _ _ => (gv_name (i := 5) sc__law_wide.nd rfl (by first | exact .inl rfl | exact .inr rfl))) (fun _ _ _ _ _ => tsv_nil) (fun _ _ _ _ _ => (ev_fnG (h__law_task.mono (by decide)) hr rfl (av_cons (ev_tup (av_cons (ev_var (i := 5) rfl (by first | exact .inl rfl | exact .inr (.inl rfl) | exact .inr (.inr rfl))) av_nil)) (av_cons (ev_ix (r65 hr.r) (ev_lst (own := false) (av_cons (ev_tup av_nil) (av_cons (ev_tup (av_cons (ev_var (i := 5) rfl (by first | exact .inl rfl | exact .inr (.inl rfl) | exact .inr (.inr rfl))) av_nil)) av_nil))) (ev_fnG (h__law_next.mono (by decide)) hr rfl (av_cons (ev_var (i := 0) rfl (by first | exact .inl rfl | exact .inr (.inl rfl) | exact .inr (.inr rfl))) (av_cons ev_int av_nil)))) (av_cons (ev_str lt_4) (av_cons ev_int (av_cons (ev_tup (av_cons (ev_str lt_1) av_nil)) (av_cons ev_int av_nil)))))))) (by decide))
    (bv_cons (sv_set (i := 4) sc__law_wide.nd rfl (by first | exact .inl rfl | exact .inr rfl) (ev_tup (av_cons (ev_tup av_nil) (av_cons (ev_tup av_nil) (av_cons (ev_callTy (own := false) (fun _ _ => call_tupX) oc_tuple rfl (Z.free 34) bo_tuple (av_cons (ev_bin (own := false) (fun _ _ => op_addW) ow_add (ev_lst (own := false) (av_cons (ev_fnG (h__law_task.mono (by decide)) hr rfl (av_cons (ev_tup av_nil) (av_cons (ev_tup av_nil) (av_cons (ev_var (i := 2) rfl (by first | exact .inl rfl | exact .inr (.inl rfl) | exact .inr (.inr rfl))) (av_cons ev_int (av_cons (ev_tup (av_cons (ev_str lt_1) av_nil)) (av_cons (ev_var (i := 1) rfl (by first | exact .inl rfl | exact .inr (.inl rfl) | exact .inr (.inr rfl))) av_nil))))))) av_nil)) (ev_var (i := 3) rfl (by first | exact .inl rfl | exact .inr (.inl rfl) | exact .inr (.inr rfl)))) av_nil)) av_nil)))))
    (bv_one (sv_ret (ev_tup (av_cons (ev_var (i := 4) rfl (by first | exact .inl rfl | exact .inr (.inl rfl) | exact .inr (.inr rfl))) (av_cons (ev_cmp (fun _ _ => op_le) (ow_cmp _) (ev_var (i := 1) rfl (by first | exact .inl rfl | exact .inr (.inl rfl) | exact .inr (.inr rfl))) (ev_ix (r65 hr.r) (ev_lst (own := false) (av_cons ev_int (av_cons ev_int av_nil))) (ev_callTy (own := false) (fun _ _ => (call_int1.or call_int_str)) oc_intW rfl (Z.free 32) bo_int (av_cons (ev_cmp (fun _ _ => op_eqD (Room.units hr.r)) ow_eq (ev_var (i := 2) rfl (by first | exact .inl rfl | exact .inr (.inl rfl) | exact .inr (.inr rfl))) (ev_str lt_0) rfl) av_nil))) rfl) av_nil)))))))))
theorem sc__law_deep : FnScope ["_law_state_here", "_law_many", "_law_number_here", "_law_found", "_law_k", "_law_name", "_law_kids", "_law_j"] ["_law_state_here"] (defScope (top 56)) := ⟨rfl, rfl, rfl, by decide +kernel, rfl, by decide +kernel, by decide +kernel⟩
theorem ok__law_deep (Z : HdE K mg w fa fn kc kd be) : HasG P w K mg base ec "_law_deep" 2 1 m__law_deep := by
  have h__law_next := ok__law_next (P := P) (w := w) (base := base) (ec := ec) Z
  have h__law_task := ok__law_task (P := P) (w := w) (base := base) (ec := ec) Z
  exact Z.defG_ 25 25 rfl rfl sc__law_deep rfl rfl (fun _ _ _ _ _ _ us hl => match us, hl with | [_], _ => rfl) fun f cdv A outer s H E hr =>
    (bv_cons (sv_set (i := 1) sc__law_deep.nd rfl (by first | exact .inl rfl | exact .inr rfl) (ev_fnG (h__law_next.mono (by decide)) hr rfl (av_cons (ev_var (i := 0) rfl (by first | exact .inl rfl | exact .inr (.inl rfl) | exact .inr (.inr rfl))) (av_cons ev_int av_nil))))
    (bv_cons (sv_set (i := 2) sc__law_deep.nd rfl (by first | exact .inl rfl | exact .inr rfl) (ev_fnG (h__law_next.mono (by decide)) hr rfl (av_cons (ev_var (i := 0) rfl (by first | exact .inl rfl | exact .inr (.inl rfl) | exact .inr (.inr rfl))) (av_cons ev_int av_nil))))
    (bv_cons (sv_set (i := 3) sc__law_deep.nd rfl (by first | exact .inl rfl | exact .inr rfl) (ev_lst (own := false) av_nil))
    (bv_cons (sv_for rfl (iv_rng1 rfl (Z.free 30) (ev_bin (own := false) (fun _ _ => op_addW) ow_add (ev_var (i := 1) rfl (by first | exact .inl rfl | exact .inr (.inl rfl) | exact .inr (.inr rfl))) ev_int)) (gv_name (i := 4) sc__law_deep.nd rfl (by first | exact .inl rfl | exact .inr rfl)) (bv_cons (sv_set (i := 5) sc__law_deep.nd rfl (by first | exact .inl rfl | exact .inr rfl) (ev_callTy (own := false) (fun _ _ => call_tupX) oc_tuple rfl (Z.free 34) bo_tuple (av_cons (ev_mulL (own := false) (ev_lst (own := false) (av_cons (ev_var (i := 2) rfl (by first | exact .inl rfl | exact .inr (.inl rfl) | exact .inr (.inr rfl))) av_nil)) (ev_var (i := 4) rfl (by first | exact .inl rfl | exact .inr (.inl rfl) | exact .inr (.inr rfl)))) av_nil)))
    (bv_cons (sv_setLc (own := false) (ow := [("_law_j", 7)]) (i := 6) rfl sc__law_deep.nd rfl rfl (sw_true rfl rfl rfl (by decide +kernel)) (iv_rng1 rfl (Z.free 30) (ev_var (i := 2) rfl (by first | exact .inl rfl | exact .inr (.inl rfl) | exact .inr (.inr rfl)))) (blkOk_by (N := ["_law_state_here", "_law_many", "_law_number_here", "_law_found", "_law_k", "_law_name", "_law_kids", "_law_j"]) (sc := defScope (top 56)) (by decide +kernel)) (fun _ _ _ _ _ => (gv_name (i := 7) sc__law_deep.nd rfl (by first | exact .inl rfl | exact .inr rfl))) (fun _ _ _ _ _ => (tsv_one (tv_cmp (fun _ _ => op_lt) (ow_cmp _) (ev_var (i := 4) rfl (by first | exact .inl rfl | exact .inr (.inl rfl) | exact .inr (.inr rfl))) (ev_var (i := 1) rfl (by first | exact .inl rfl | exact .inr (.inl rfl) | exact .inr (.inr rfl))) rfl))) (fun _ _ _ _ _ => (ev_fnG (h__law_task.mono (by decide)) hr rfl (av_cons (ev_bin (own := false) (fun _ _ => op_addW) ow_add (ev_var (i := 5) rfl (by first | exact .inl rfl | exact .inr (.inl rfl) | exact .inr (.inr rfl))) (ev_tup (av_cons (ev_var (i := 7) rfl (by first | exact .inl rfl | exact .inr (.inl rfl) | exact .inr (.inr rfl))) av_nil))) (av_cons (ev_tup av_nil) (av_cons (ev_str lt_4) (av_cons ev_int (av_cons (ev_tup (av_cons (ev_str lt_1) av_nil)) (av_cons ev_int av_nil)))))))) (by decide))
    (bv_one (sv_set (i := 3) sc__law_deep.nd rfl (by first | exact .inl rfl | exact .inr rfl) (ev_bin (own := false) (fun _ _ => op_addW) ow_add (ev_bin (own := false) (fun _ _ => op_addW) ow_add (ev_var (i := 3) rfl (by first | exact .inl rfl | exact .inr (.inl rfl) | exact .inr (.inr rfl))) (ev_lst (own := false) (av_cons (ev_fnG (h__law_task.mono (by decide)) hr rfl (av_cons (ev_var (i := 5) rfl (by first | exact .inl rfl | exact .inr (.inl rfl) | exact .inr (.inr rfl))) (av_cons (ev_tup av_nil) (av_cons (ev_str lt_4) (av_cons ev_int (av_cons (ev_tup (av_cons (ev_str lt_1) av_nil)) (av_cons (ev_bin (own := false) (fun _ _ => op_mul) ow_mul (ev_bin (own := false) (fun _ _ => op_addW) ow_add (ev_var (i := 2) rfl (by first | exact .inl rfl | exact .inr (.inl rfl) | exact .inr (.inr rfl))) ev_int) (ev_callTy (own := false) (fun _ _ => (call_int1.or call_int_str)) oc_intW rfl (Z.free 32) bo_int (av_cons (ev_cmp (fun _ _ => op_lt) (ow_cmp _) (ev_var (i := 4) rfl (by first | exact .inl rfl | exact .inr (.inl rfl) | exact .inr (.inr rfl))) (ev_var (i := 1) rfl (by first | exact .inl rfl | exact .inr (.inl rfl) | exact .inr (.inr rfl))) rfl) av_nil))) av_nil))))))) av_nil))) (ev_var (i := 6) rfl (by first | exact .inl rfl | exact .inr (.inl rfl) | exact .inr (.inr rfl)))))))))
    (bv_one (sv_ret (ev_tup (av_cons (ev_tup (av_cons (ev_tup av_nil) (av_cons (ev_tup av_nil) (av_cons (ev_callTy (own := false) (fun _ _ => call_tupX) oc_tuple rfl (Z.free 34) bo_tuple (av_cons (ev_callB (own := false) (fun _ _ => call_sortZ (r65 hr.r)) oc_sortN rfl (Z.free 38) bo_sorted (av_cons (ev_var (i := 3) rfl (by first | exact .inl rfl | exact .inr (.inl rfl) | exact .inr (.inr rfl))) av_nil)) av_nil)) av_nil)))) (av_cons (ev_cmp (fun _ _ => op_lt) (ow_cmp _) (ev_var (i := 1) rfl (by first | exact .inl rfl | exact .inr (.inl rfl) | exact .inr (.inr rfl))) ev_int rfl) av_nil)))))))))
theorem sc__law_sisters : FnScope ["_law_state_here", "_law_script", "_law_some", "_law_groups", "_law_kids", "_law_good", "_law_k", "_law_elder", "_law_j"] ["_law_state_here"] (defScope (top 58)) := ⟨rfl, rfl, rfl, by decide +kernel, rfl, by decide +kernel, by decide +kernel⟩
theorem ok__law_sisters (Z : HdE K mg w fa fn kc kd be) : HasG P w K mg base ec "_law_sisters" 3 1 m__law_sisters := by
  have h__law_pick := ok__law_pick (P := P) (w := w) (base := base) (ec := ec) Z
  have h__law_task := ok__law_task (P := P) (w := w) (base := base) (ec := ec) Z
  exact Z.defG_ 26 26 rfl rfl sc__law_sisters rfl rfl (fun _ _ _ _ _ _ us hl => match us, hl with | [_], _ => rfl) fun f cdv A outer s H E hr =>
    (bv_cons (sv_set (i := 1) sc__law_sisters.nd rfl (by first | exact .inl rfl | exact .inr rfl) (ev_fnG (h__law_pick.mono (by decide)) hr rfl (av_cons (ev_var (i := 0) rfl (by first | exact .inl rfl | exact .inr (.inl rfl) | exact .inr (.inr rfl))) (av_cons (ev_lst (own := false) (av_cons (ev_str lt_4) (av_cons (ev_str lt_0) av_nil))) av_nil))))
    (bv_cons (sv_set (i := 2) sc__law_sisters.nd rfl (by first | exact .inl rfl | exact .inr rfl) (ev_lst (own := false) (av_cons (ev_tup av_nil) (av_cons (ev_tup (av_cons ev_int av_nil)) (av_cons (ev_tup (av_cons ev_int av_nil)) (av_cons (ev_tup (av_cons ev_int av_nil)) (av_cons (ev_tup (av_cons ev_int av_nil)) (av_cons (ev_tup (av_cons ev_int (av_cons ev_int av_nil))) (av_cons (ev_tup (av_cons ev_int (av_cons ev_int av_nil))) av_nil)))))))))
    (bv_cons (sv_set (i := 3) sc__law_sisters.nd rfl (by first | exact .inl rfl | exact .inr rfl) (ev_lc (own := false) (ow := [("_law_k", 6)]) rfl sc__law_sisters.nd (iv_rng1 rfl (Z.free 30) ev_int) (blkOk_by (N := ["_law_state_here", "_law_script", "_law_some", "_law_groups", "_law_kids", "_law_good", "_law_k", "_law_elder", "_law_j"]) (sc := defScope (top 58)) (by decide +kernel)) (fun _ _ _ _ _ => (gv_name (i := 6) sc__law_sisters.nd rfl (by first | exact .inl rfl | exact .inr rfl))) (fun _ _ _ _ _ => tsv_nil) (fun _ _ _ _ _ => (ev_fnG (h__law_pick.mono (by decide)) hr rfl (av_cons (ev_var (i := 0) rfl (by first | exact .inl rfl | exact .inr (.inl rfl) | exact .inr (.inr rfl))) (av_cons (ev_var (i := 2) rfl (by first | exact .inl rfl | exact .inr (.inl rfl) | exact .inr (.inr rfl))) av_nil)))) (by decide)))
    (bv_cons (sv_setLc (own := false) (ow := [("_law_k", 6)]) (i := 4) rfl sc__law_sisters.nd rfl rfl (sw_true rfl rfl rfl (by decide +kernel)) (iv_rng1 rfl (Z.free 30) ev_int) (blkOk_by (N := ["_law_state_here", "_law_script", "_law_some", "_law_groups", "_law_kids", "_law_good", "_law_k", "_law_elder", "_law_j"]) (sc := defScope (top 58)) (by decide +kernel)) (fun _ _ _ _ _ => (gv_name (i := 6) sc__law_sisters.nd rfl (by first | exact .inl rfl | exact .inr rfl))) (fun _ _ _ _ _ => tsv_nil) (fun _ _ _ _ _ => (ev_fnG (h__law_task.mono (by decide)) hr rfl (av_cons (ev_tup (av_cons (ev_var (i := 6) rfl (by first | exact .inl rfl | exact .inr (.inl rfl) | exact .inr (.inr rfl))) av_nil)) (av_cons (ev_ix (r65 hr.r) (ev_var (i := 3) rfl (by first | exact .inl rfl | exact .inr (.inl rfl) | exact .inr (.inr rfl))) (ev_var (i := 6) rfl (by first | exact .inl rfl | exact .inr (.inl rfl) | exact .inr (.inr rfl)))) (av_cons (ev_str lt_4) (av_cons ev_int (av_cons (ev_tup (av_cons (ev_str lt_1) av_nil)) (av_cons ev_int av_nil)))))))) (by decide))
    (bv_cons (sv_set (i := 5) sc__law_sisters.nd rfl (by first | exact .inl rfl | exact .inr rfl) ev_bl)
    (bv_cons (sv_for rfl (iv_rng1 rfl (Z.free 30) ev_int) (gv_name (i := 6) sc__law_sisters.nd rfl (by first | exact .inl rfl | exact .inr rfl)) (bv_cons (sv_setLc (own := false) (ow := [("_law_j", 8)]) (i := 7) rfl sc__law_sisters.nd rfl rfl (sw_true rfl rfl rfl (by decide +kernel)) (iv_rng1 rfl (Z.free 30) (ev_var (i := 6) rfl (by first | exact .inl rfl | exact .inr (.inl rfl) | exact .inr (.inr rfl)))) (blkOk_by (N := ["_law_state_here", "_law_script", "_law_some", "_law_groups", "_law_kids", "_law_good", "_law_k", "_law_elder", "_law_j"]) (sc := defScope (top 58)) (by decide +kernel)) (fun _ _ _ _ _ => (gv_name (i := 8) sc__law_sisters.nd rfl (by first | exact .inl rfl | exact .inr rfl))) (fun _ _ _ _ _ => (tsv_one (tv_w (tw_and (tv_cmp (fun _ _ => op_eqD (Room.units hr.r)) ow_eq (ev_ix (r65 hr.r) (ev_var (i := 3) rfl (by first | exact .inl rfl | exact .inr (.inl rfl) | exact .inr (.inr rfl))) (ev_var (i := 8) rfl (by first | exact .inl rfl | exact .inr (.inl rfl) | exact .inr (.inr rfl)))) (ev_tup (av_cons (ev_var (i := 8) rfl (by first | exact .inl rfl | exact .inr (.inl rfl) | exact .inr (.inr rfl))) av_nil)) rfl) (tw_and1 (tv_cmp (fun _ _ => op_eqD (Room.units hr.r)) ow_eq (ev_var (i := 1) rfl (by first | exact .inl rfl | exact .inr (.inl rfl) | exact .inr (.inr rfl))) (ev_str lt_0) rfl)))))) (fun _ _ _ _ _ => (ev_tup (av_cons (ev_var (i := 8) rfl (by first | exact .inl rfl | exact .inr (.inl rfl) | exact .inr (.inr rfl))) av_nil))) (by decide))
    (bv_one (sv_set (i := 5) sc__law_sisters.nd rfl (by first | exact .inl rfl | exact .inr rfl) (ev_and (ev_var (i := 5) rfl (by first | exact .inl rfl | exact .inr (.inl rfl) | exact .inr (.inr rfl))) (ev_one (ev_cmp (fun _ _ => op_inW (ec := ec) (r65 hr.r)) ow_in (ev_ix (r65 hr.r) (ev_var (i := 3) rfl (by first | exact .inl rfl | exact .inr (.inl rfl) | exact .inr (.inr rfl))) (ev_var (i := 6) rfl (by first | exact .inl rfl | exact .inr (.inl rfl) | exact .inr (.inr rfl)))) (ev_bin (own := false) (fun _ _ => op_addW) ow_add (ev_lst (own := false) (av_cons (ev_tup av_nil) (av_cons (ev_tup (av_cons (ev_var (i := 6) rfl (by first | exact .inl rfl | exact .inr (.inl rfl) | exact .inr (.inr rfl))) av_nil)) av_nil))) (ev_var (i := 7) rfl (by first | exact .inl rfl | exact .inr (.inl rfl) | exact .inr (.inr rfl)))) rfl)))))))
    (bv_one (sv_ret (ev_tup (av_cons (ev_tup (av_cons (ev_tup av_nil) (av_cons (ev_tup av_nil) (av_cons (ev_callTy (own := false) (fun _ _ => call_tupX) oc_tuple rfl (Z.free 34) bo_tuple (av_cons (ev_bin (own := false) (fun _ _ => op_addW) ow_add (ev_lst (own := false) (av_cons (ev_fnG (h__law_task.mono (by decide)) hr rfl (av_cons (ev_tup av_nil) (av_cons (ev_tup av_nil) (av_cons (ev_var (i := 1) rfl (by first | exact .inl rfl | exact .inr (.inl rfl) | exact .inr (.inr rfl))) (av_cons ev_int (av_cons (ev_tup (av_cons (ev_str lt_1) av_nil)) (av_cons ev_int av_nil))))))) av_nil)) (ev_var (i := 4) rfl (by first | exact .inl rfl | exact .inr (.inl rfl) | exact .inr (.inr rfl)))) av_nil)) av_nil)))) (av_cons (ev_var (i := 5) rfl (by first | exact .inl rfl | exact .inr (.inl rfl) | exact .inr (.inr rfl))) av_nil)))))))))))
theorem sc_law : FnScope ["_law_script", "_law_k", "_law_state_here", "_law_size", "_law_book", "_law_way", "_law_found", "_law_thing", "_law_good"] ["_law_script"] (defScope (top 59)) := ⟨rfl, rfl, rfl, by decide +kernel, rfl, by decide +kernel, by decide +kernel⟩
theorem ok_law (Z : HdE K mg w fa fn kc kd be) : ∃ fd, (∀ (s : Shared) (u : Value), BindsTo s fd ⟨[u], []⟩ [("_law_script", u)]) ∧ ∀ base : Heap, FnG P w K mg base 7 (He.ga K "law") fd ["_law_script"] (spD ⟨K, w, ec⟩ m_law 1) := by
  refine Z.lawG_ 27 rfl sc_law rfl (fun _ _ _ _ _ _ us hl => match us, hl with | [_], _ => rfl) fun base f cdv A outer s H E hr => ?_
  have h__law_deep := ok__law_deep (P := P) (w := w) (base := base) (ec := ec) Z
  have h__law_next := ok__law_next (P := P) (w := w) (base := base) (ec := ec) Z
  have h__law_number := ok__law_number (P := P) (w := w) (base := base) (ec := ec) Z
  have h__law_pick := ok__law_pick (P := P) (w := w) (base := base) (ec := ec) Z
  have h__law_sisters := ok__law_sisters (P := P) (w := w) (base := base) (ec := ec) Z
  have h__law_state := ok__law_state (P := P) (w := w) (base := base) (ec := ec) Z
  have h__law_wide := ok__law_wide (P := P) (w := w) (base := base) (ec := ec) Z
  have h_is_yard := ok_is_yard (P := P) (w := w) (base := base) (ec := ec) Z
  exact (bv_cons (sv_for rfl (iv_rng1 rfl (Z.free 30) ev_int) (gv_name (i := 1) sc_law.nd rfl (by first | exact .inl rfl | exact .inr rfl)) (bv_cons (sv_set (i := 2) sc_law.nd rfl (by first | exact .inl rfl | exact .inr rfl) (ev_fnG (h__law_state.mono (by decide)) hr rfl (av_cons (ev_var (i := 0) rfl (by first | exact .inl rfl | exact .inr (.inl rfl) | exact .inr (.inr rfl))) (av_cons (ev_var (i := 1) rfl (by first | exact .inl rfl | exact .inr (.inl rfl) | exact .inr (.inr rfl))) av_nil))))
    (bv_cons (sv_set (i := 3) sc_law.nd rfl (by first | exact .inl rfl | exact .inr rfl) (ev_fnG (h__law_pick.mono (by decide)) hr rfl (av_cons (ev_var (i := 2) rfl (by first | exact .inl rfl | exact .inr (.inl rfl) | exact .inr (.inr rfl))) (av_cons (ev_lst (own := false) (av_cons ev_int (av_cons ev_int (av_cons ev_int (av_cons ev_int (av_cons ev_int (av_cons ev_int av_nil))))))) av_nil))))
    (bv_cons (sv_set (i := 4) sc_law.nd rfl (by first | exact .inl rfl | exact .inr rfl) (ev_dct (own := false) (.cons (ev_str lt_4) (ev_callTy (own := false) (fun _ _ => call_tupX) oc_tuple rfl (Z.free 34) bo_tuple (av_cons (ev_mulL (own := false) (ev_lst (own := false) (av_cons (ev_tup (av_cons (ev_str lt_6) av_nil)) av_nil)) (ev_var (i := 3) rfl (by first | exact .inl rfl | exact .inr (.inl rfl) | exact .inr (.inr rfl)))) av_nil)) .nil) rfl rfl (fun z => nomatch z) (by decide) (by decide)))
    (bv_cons (sv_set (i := 5) sc_law.nd rfl (by first | exact .inl rfl | exact .inr rfl) (ev_fnG (h__law_next.mono (by decide)) hr rfl (av_cons (ev_var (i := 2) rfl (by first | exact .inl rfl | exact .inr (.inl rfl) | exact .inr (.inr rfl))) (av_cons ev_int av_nil))))
    (bv_cons (sv_if (tv_cmp (fun _ _ => op_lt) (ow_cmp _) (ev_var (i := 5) rfl (by first | exact .inl rfl | exact .inr (.inl rfl) | exact .inr (.inr rfl))) ev_int rfl) (bv_one (sv_asgT (ev_pick3 (h__law_wide.mono (by decide)) (h__law_deep.mono (by decide)) (h__law_sisters.mono (by decide)) hr hr hr rfl rfl rfl (ev_var (i := 5) rfl (by first | exact .inl rfl | exact .inr (.inl rfl) | exact .inr (.inr rfl))) (av_cons (ev_var (i := 2) rfl (by first | exact .inl rfl | exact .inr (.inl rfl) | exact .inr (.inr rfl))) av_nil)) (gv_tup rfl (gsv_cons (gv_name (i := 7) sc_law.nd rfl (by first | exact .inl rfl | exact .inr rfl)) (gsv_cons (gv_name (i := 8) sc_law.nd rfl (by first | exact .inl rfl | exact .inr rfl)) gsv_nil))))) (bv_one (sv_asgT (ev_fnG (h__law_number.mono (by decide)) hr rfl (av_cons (ev_var (i := 2) rfl (by first | exact .inl rfl | exact .inr (.inl rfl) | exact .inr (.inr rfl))) (av_cons (ev_var (i := 3) rfl (by first | exact .inl rfl | exact .inr (.inl rfl) | exact .inr (.inr rfl))) av_nil))) (gv_tup rfl (gsv_cons (gv_name (i := 7) sc_law.nd rfl (by first | exact .inl rfl | exact .inr rfl)) (gsv_cons (gv_name (i := 8) sc_law.nd rfl (by first | exact .inl rfl | exact .inr rfl)) gsv_nil))))))
    (bv_cons (sv_set (i := 6) sc_law.nd rfl (by first | exact .inl rfl | exact .inr rfl) (ev_fnG (h_is_yard.mono (by decide)) hr rfl (av_cons (ev_var (i := 4) rfl (by first | exact .inl rfl | exact .inr (.inl rfl) | exact .inr (.inr rfl))) (av_cons (ev_var (i := 7) rfl (by first | exact .inl rfl | exact .inr (.inl rfl) | exact .inr (.inr rfl))) av_nil))))
    (bv_one (sv_if (tv_w (tw_or (tv_not (tv_val (ev_isT ist_bool (ev_var (i := 6) rfl (by first | exact .inl rfl | exact .inr (.inl rfl) | exact .inr (.inr rfl))) rfl (Z.free 31) rfl (Z.free 33) bo_bool))) (tw_or1 (tv_cmp (fun _ _ => op_neD (Room.units hr.r)) ow_ne (ev_var (i := 6) rfl (by first | exact .inl rfl | exact .inr (.inl rfl) | exact .inr (.inr rfl))) (ev_var (i := 8) rfl (by first | exact .inl rfl | exact .inr (.inl rfl) | exact .inr (.inr rfl))) rfl)))) (bv_one (sv_ret ev_bl)) bv_nil)))))))))
    (bv_one (sv_ret ev_bl)))
end
end BelLaw

namespace BelLaw
open PySem PySem.Spec PyProof.Rows L2 Bel
/-! ### the head -/
abbrev R : PySem.W.OpenRow := PySem.W.OpenLaw.row PySem.Challenge.rw_bellyard_k18_bounds_of_yards
abbrev hk : PySem.W.Hook := He.hookX 6 fa fn (tabs kd) [] (exE kc kd be)
def ob (s : PySem.W.SharedT) : He.AlX := He.obsX 6 fa fn (tabs kd) [] (exE kc kd be) (HandSHeadRun.getT s)
theorem ob_eq (s : PySem.W.SharedT) : ob s = hk.obs s.abs := He.obsX_eq (HandSHeadRun.getT_eq s)
theorem run_f (w : World) : HandSHeadRun.RunEq R (PySem.W.view R.prog [59]) hk ob 8000 ((["LETTERS", "MOST_LETTERS", "BELLS_words", "KEPT", "is_name", "NAME", "GROUP", "SCRIPT", "PLACE", "BOXES", "HOW", "UNTOLD", "BELLS_yards", "HELD", "TRAPS", "WAYS", "STARTED", "SAYS", "PARTS", "MOST_NUMBER"] : List Str) ++ (["MOST_NAMED", "MOST_DEEP", "MOST_STARTED", "MOST_OF_NONE", "LAST_BELL", "FIRST_SOFT", "FIRST_QUIET", "FALLS", "STOPPING", "BY_BELLS", "is_between", "are_between", "are_pairs", "is_rising", "is_task_name", "is_status", "is_how", "are_boxes", "are_bells", "are_traps"] : List Str) ++ (["are_ways", "can_be_heard_yet", "is_idle", "is_task", "sisters_by", "stands_right", "is_yard", "_law_state", "_law_next", "_law_pick", "_law_task", "_law_with", "_law_wide", "_law_deep", "_law_number", "_law_sisters"] : List Str)) (w.withFollow "special-get-raises" false) := by
  intro os
  kernel_rfl
theorem run_t (w : World) : HandSHeadRun.RunEq R (PySem.W.view R.prog [59]) hk ob 8000 ((["LETTERS", "MOST_LETTERS", "BELLS_words", "KEPT", "is_name", "NAME", "GROUP", "SCRIPT", "PLACE", "BOXES", "HOW", "UNTOLD", "BELLS_yards", "HELD", "TRAPS", "WAYS", "STARTED", "SAYS", "PARTS", "MOST_NUMBER"] : List Str) ++ (["MOST_NAMED", "MOST_DEEP", "MOST_STARTED", "MOST_OF_NONE", "LAST_BELL", "FIRST_SOFT", "FIRST_QUIET", "FALLS", "STOPPING", "BY_BELLS", "is_between", "are_between", "are_pairs", "is_rising", "is_task_name", "is_status", "is_how", "are_boxes", "are_bells", "are_traps"] : List Str) ++ (["are_ways", "can_be_heard_yet", "is_idle", "is_task", "sisters_by", "stands_right", "is_yard", "_law_state", "_law_next", "_law_pick", "_law_task", "_law_with", "_law_wide", "_law_deep", "_law_number", "_law_sisters"] : List Str)) (w.withFollow "special-get-raises" true) := by
  intro os
  kernel_rfl
theorem run (w : World) : HandSHeadRun.RunEq R (PySem.W.view R.prog [59]) hk ob 8000 ((["LETTERS", "MOST_LETTERS", "BELLS_words", "KEPT", "is_name", "NAME", "GROUP", "SCRIPT", "PLACE", "BOXES", "HOW", "UNTOLD", "BELLS_yards", "HELD", "TRAPS", "WAYS", "STARTED", "SAYS", "PARTS", "MOST_NUMBER"] : List Str) ++ (["MOST_NAMED", "MOST_DEEP", "MOST_STARTED", "MOST_OF_NONE", "LAST_BELL", "FIRST_SOFT", "FIRST_QUIET", "FALLS", "STOPPING", "BY_BELLS", "is_between", "are_between", "are_pairs", "is_rising", "is_task_name", "is_status", "is_how", "are_boxes", "are_bells", "are_traps"] : List Str) ++ (["are_ways", "can_be_heard_yet", "is_idle", "is_task", "sisters_by", "stands_right", "is_yard", "_law_state", "_law_next", "_law_pick", "_law_task", "_law_with", "_law_wide", "_law_deep", "_law_number", "_law_sisters"] : List Str)) w :=
  PySem.W.byRow2 "special-get-raises" (P := fun w => HandSHeadRun.RunEq R (PySem.W.view R.prog [59]) hk ob 8000 ((["LETTERS", "MOST_LETTERS", "BELLS_words", "KEPT", "is_name", "NAME", "GROUP", "SCRIPT", "PLACE", "BOXES", "HOW", "UNTOLD", "BELLS_yards", "HELD", "TRAPS", "WAYS", "STARTED", "SAYS", "PARTS", "MOST_NUMBER"] : List Str) ++ (["MOST_NAMED", "MOST_DEEP", "MOST_STARTED", "MOST_OF_NONE", "LAST_BELL", "FIRST_SOFT", "FIRST_QUIET", "FALLS", "STOPPING", "BY_BELLS", "is_between", "are_between", "are_pairs", "is_rising", "is_task_name", "is_status", "is_how", "are_boxes", "are_bells", "are_traps"] : List Str) ++ (["are_ways", "can_be_heard_yet", "is_idle", "is_task", "sisters_by", "stands_right", "is_yard", "_law_state", "_law_next", "_law_pick", "_law_task", "_law_with", "_law_wide", "_law_deep", "_law_number", "_law_sisters"] : List Str)) w) run_f run_t w
end BelLaw
open PySem PySem.W PySem.Calls PyProof.Rows
theorem PySem.Challenge.cw_bellyard_k18_bounds_of_yards_holds : PySem.Challenge.rw_bellyard_k18_bounds_of_yards.Holds := by
  w_on; o_law
  refine HandSHeadRun.head_any (r := OpenLaw.row PySem.Challenge.rw_bellyard_k18_bounds_of_yards) (q := view (OpenLaw.row PySem.Challenge.rw_bellyard_k18_bounds_of_yards).prog [59]) (H := BelLaw.hk) (ob := BelLaw.ob) (M := 8000) (loose := ((["LETTERS", "MOST_LETTERS", "BELLS_words", "KEPT", "is_name", "NAME", "GROUP", "SCRIPT", "PLACE", "BOXES", "HOW", "UNTOLD", "BELLS_yards", "HELD", "TRAPS", "WAYS", "STARTED", "SAYS", "PARTS", "MOST_NUMBER"] : List Str) ++ (["MOST_NAMED", "MOST_DEEP", "MOST_STARTED", "MOST_OF_NONE", "LAST_BELL", "FIRST_SOFT", "FIRST_QUIET", "FALLS", "STOPPING", "BY_BELLS", "is_between", "are_between", "are_pairs", "is_rising", "is_task_name", "is_status", "is_how", "are_boxes", "are_bells", "are_traps"] : List Str) ++ (["are_ways", "can_be_heard_yet", "is_idle", "is_task", "sisters_by", "stands_right", "is_yard", "_law_state", "_law_next", "_law_pick", "_law_task", "_law_with", "_law_wide", "_law_deep", "_law_number", "_law_sisters"] : List Str))) (d := HandSHeadRun.topDef (OpenLaw.row PySem.Challenge.rw_bellyard_k18_bounds_of_yards).prog 59) (kwd := []) BelLaw.ob_eq
    (by kernel_rfl) (fun s => by kernel_rfl) BelLaw.run (by kernel_rfl) (by kernel_rfl) (by kernel_rfl) (by rfl) (by first | assumption | decide +kernel) (by decide +kernel) ⟨rfl, rfl, rfl, rfl, rfl, by decide +kernel⟩ ?hw ?hc
  case hw => w_witness2
  case hc =>
    refine Bel.law_endE (l := PySem.Challenge.rw_bellyard_k18_bounds_of_yards) (n := 63) (k := 7) (x := "law") (y := "_law_script") rfl (by decide) (by kernel_rfl) ⟨rfl, by decide, by decide⟩ (by kernel_rfl) 27 rfl BelLaw.m_law (fun w mg K Z => ⟨fun _ => .none, BelLaw.ok_law Z⟩) BelLaw.law_true

