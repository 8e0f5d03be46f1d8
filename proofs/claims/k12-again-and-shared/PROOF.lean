import PyProof.Rows.All
import Wide.All
import OpenK.AllK
import Wide.FinOn
import HandS.Base
import HandS.Call
import HandS.List
import HandS.Comp
import HandS.Ends
import HandS.Dict
import HandS.Iter
import HandS.Text
import HandS.Words
import HandS.Exc
import HandS.ExcOwn
import HandS.More
import HandS.Lambda
import HandS.HeadHook4
import HandS.ForMost
import HandS.IsInst
import HandS.Deep
import HandS.TupAny
import HandS.Style
import HandS.Walk
import HandS.WordsExc
import HandS.Defaults
import HandS.Head0
import HandS.Head1
import HandS.Head2
import HandS.HeadEnd
import HandS.HeadHook1
import HandS.HeadHook2
import HandS.HeadHook3
import HandS.RaiseMore
import HandS.ExcValue
import HandS.ExcIs
import KE.KEqDict
import KE.KDictLaw
import HandS.TryOnly
import HandS.NestedK
import HandS.Strs
import PySem.Challenge.RW_bellyard_k12_again_and_shared
set_option Elab.async false
set_option linter.all false
set_option maxRecDepth 100000
set_option maxHeartbeats 0
/-! The engine: plain values, a store of own lists and dicts, and what an expression or a statement comes to as a function of these. -/
namespace Bel
open PySem PySem.Spec PyProof.Rows L2

/-! ### plain values -/
inductive W where
  | non | bl (b : Bool) | int (i : Int) | str (x : List Nat) | tup (l : List W) | lst (l : List W) | dct (l : List (W × W)) | exc (c : Nat) | kdc (l : List (List Nat × W))
/-- an own object -/
inductive Ob where
  | lst (l : List W) | dct (l : List (W × W)) | scr (l : List W) | tbl (x q : Str) | dead
/-- what a name holds: a plain value, or an own object by its number -/
inductive U where
  | v (w : W) | o (n : Nat)
abbrev Store := List Ob

abbrev okCp (c : Nat) : Bool := decide (c < 1114112)

/-- an exception object of the class cls at a, held as a value -/
def ExV (cls : Value) (a : Addr) : HO := .ext fun h => ∃ (oe : Obj) (vs : Array Value), h.get? a = some oe ∧ Zc cls none oe ∧ oe.data = .fields vs

/-- what is fixed: the written part, the classes of own errors by their numbers -/
structure Fx where
  K : PySem.W.Frag
  w : World
  ec : Nat → Value

section
variable (F : Fx) (H : Hp) (O : Addr → Prop)
def KTup (a : Addr) (xs : List V) : Prop := ∃ (o : Obj) (its : Array Value) (n : Nat), F.K.lookup a = some o ∧ o.cls = .type "tuple" ∧ o.dict = none ∧ o.data = .seq its n ∧ its.size ≤ sizeLine ∧ Vals xs its.toList
/-- a written dict with text keys -/
def KDc (a : Addr) (kvs : List (Str × V)) : Prop :=
  (∃ es n, F.K.lookup a = some ⟨.type "dict", none, .dict es n, #[]⟩ ∧ PySem.W.KeysLit F.w.params es.toList ∧ (a == sysModules) = false) ∧
    ∀ x : Str, match kvs.lookup x with
      | some v => ∃ u, PySem.W.nsIn F.K a x = some (some u) ∧ RelV v u
      | none => PySem.W.nsIn F.K a x = some none
def FLst (a : Addr) (xs : List V) : Prop := H a = some (.lst xs) ∧ ¬ O a
def FTup (a : Addr) (xs : List V) : Prop := (Rd H a (.tup xs) ∧ ¬ O a) ∨ KTup F a xs
def FDct (a : Addr) (kvs : List (Key × V)) : Prop := Rd H a (.dK kvs) ∧ ¬ O a
/-- w stands for v, and stays -/
inductive Rp : W → V → Prop where
  | non : Rp .non .non
  | bl (b : Bool) : Rp (.bl b) (.bl b)
  | int (i : Int) : Rp (.int i) (.int i)
  | str (x : List Nat) (h : x.length ≤ sizeLine) (h2 : x.all okCp = true) : Rp (.str x) (.str ⟨x.toArray⟩)
  | tup {a : Addr} {vs : List V} {ws : List W} (h : FTup F H O a vs) (hl : ws.length = vs.length) (hs : ∀ (i : Nat) (w : W) (v : V), ws[i]? = some w → vs[i]? = some v → Rp w v) : Rp (.tup ws) (.ref a)
  | lst {a : Addr} {vs : List V} {ws : List W} (h : FLst H O a vs) (hl : ws.length = vs.length) (hs : ∀ (i : Nat) (w : W) (v : V), ws[i]? = some w → vs[i]? = some v → Rp w v) : Rp (.lst ws) (.ref a)
  | dct {a : Addr} {kvs : List (Key × V)} {ws : List (W × W)} (h : FDct H O a kvs) (hl : ws.length = kvs.length)
      (hk : ∀ (i : Nat) (w : W × W) (v : Key × V), ws[i]? = some w → kvs[i]? = some v → Rp w.1 (kV v.1)) (hs : ∀ (i : Nat) (w : W × W) (v : Key × V), ws[i]? = some w → kvs[i]? = some v → Rp w.2 v.2) : Rp (.dct ws) (.ref a)
  | exc {a : Addr} {c : Nat} (h : H a = some (ExV (F.ec c) a)) (hn : ¬ O a) : Rp (.exc c) (.ref a)
  | kdc {a : Addr} {kvs : List (Str × V)} {ws : List (List Nat × W)} (h : KDc F a kvs) (hl : ws.length = kvs.length) (hk : ∀ (i : Nat) (w : List Nat × W) (v : Str × V), ws[i]? = some w → kvs[i]? = some v → v.1 = ⟨w.1.toArray⟩)
      (hs : ∀ (i : Nat) (w : List Nat × W) (v : Str × V), ws[i]? = some w → kvs[i]? = some v → Rp w.2 v.2) : Rp (.kdc ws) (.ref a)
/-- lists of them -/
def RpL (ws : List W) (vs : List V) : Prop := ws.length = vs.length ∧ ∀ (i : Nat) (w : W) (v : V), ws[i]? = some w → vs[i]? = some v → Rp F H O w v
def RpD (ws : List (W × W)) (kvs : List (Key × V)) : Prop := ws.length = kvs.length ∧ (∀ (i : Nat) (w : W × W) (v : Key × V), ws[i]? = some w → kvs[i]? = some v → Rp F H O w.1 (kV v.1)) ∧ ∀ (i : Nat) (w : W × W) (v : Key × V), ws[i]? = some w → kvs[i]? = some v → Rp F H O w.2 v.2
end
section
variable {F : Fx} {H H' : Hp} {O O' : Addr → Prop}
theorem RpL.nil : RpL F H O [] [] := ⟨rfl, fun i w v h => by simp at h⟩
theorem RpL.cons {w : W} {v : V} {ws : List W} {vs : List V} (h : Rp F H O w v) (r : RpL F H O ws vs) : RpL F H O (w :: ws) (v :: vs) := by
  refine ⟨by simp [r.1], fun i x y hx hy => ?_⟩
  cases i with
  | zero => simp at hx hy; subst hx hy; exact h
  | succ i => simp at hx hy; exact r.2 i x y hx hy
theorem RpL.head {w : W} {v : V} {ws : List W} {vs : List V} (r : RpL F H O (w :: ws) (v :: vs)) : Rp F H O w v := r.2 0 w v rfl rfl
theorem RpL.tail {w : W} {v : V} {ws : List W} {vs : List V} (r : RpL F H O (w :: ws) (v :: vs)) : RpL F H O ws vs := ⟨by have := r.1; simpa using this, fun i x y hx hy => r.2 (i + 1) x y (by simpa using hx) (by simpa using hy)⟩
theorem RpL.nil_iff {vs : List V} (r : RpL F H O [] vs) : vs = [] := by
  have := r.1
  cases vs with
  | nil => rfl
  | cons _ _ => simp at this
theorem RpL.cons_iff {w : W} {ws : List W} {vs : List V} (r : RpL F H O (w :: ws) vs) : ∃ v vs', vs = v :: vs' ∧ Rp F H O w v ∧ RpL F H O ws vs' := by
  cases vs with
  | nil => have := r.1; simp at this
  | cons v vs' => exact ⟨v, vs', rfl, r.head, r.tail⟩
theorem RpL.append {ws xs : List W} {vs ys : List V} (r : RpL F H O ws vs) (q : RpL F H O xs ys) : RpL F H O (ws ++ xs) (vs ++ ys) := by
  induction ws generalizing vs with
  | nil => rw [r.nil_iff]; exact q
  | cons w ws ih =>
    obtain ⟨v, vs', rfl, h, r'⟩ := r.cons_iff
    exact .cons h (ih r')
theorem RpL.get {ws : List W} {vs : List V} (r : RpL F H O ws vs) {i : Nat} {w : W} (h : ws[i]? = some w) : ∃ v, vs[i]? = some v ∧ Rp F H O w v := by
  obtain ⟨hi, _⟩ := List.getElem?_eq_some_iff.mp h
  have hi' : i < vs.length := by rw [← r.1]; exact hi
  exact ⟨vs[i], by simp [hi'], r.2 i w vs[i] h (by simp [hi'])⟩
theorem RpL.take {ws : List W} {vs : List V} (r : RpL F H O ws vs) (n : Nat) : RpL F H O (ws.take n) (vs.take n) := by
  refine ⟨by simp [r.1], fun i x y hx hy => ?_⟩
  rw [List.getElem?_take] at hx hy
  split at hx <;> simp_all
  exact r.2 i x y hx hy
theorem RpL.drop {ws : List W} {vs : List V} (r : RpL F H O ws vs) (n : Nat) : RpL F H O (ws.drop n) (vs.drop n) := by
  refine ⟨by simp [r.1], fun i x y hx hy => ?_⟩
  rw [List.getElem?_drop] at hx hy
  exact r.2 _ x y hx hy
theorem RpL.set {ws : List W} {vs : List V} (r : RpL F H O ws vs) (n : Nat) {w : W} {v : V} (h : Rp F H O w v) : RpL F H O (ws.set n w) (vs.set n v) := by
  refine ⟨by simp [r.1], fun i x y hx hy => ?_⟩
  rw [List.getElem?_set] at hx hy
  split at hx
  · split at hx
    · split at hy
      · split at hy
        · cases hx; cases hy; exact h
        · cases hy
      · rename_i a b c; exact absurd a c
    · cases hx
  · rename_i a
    rw [if_neg a] at hy
    exact r.2 i x y hx hy
theorem RpL.reverse {ws : List W} {vs : List V} (r : RpL F H O ws vs) : RpL F H O ws.reverse vs.reverse := by
  induction ws generalizing vs with
  | nil => rw [r.nil_iff]; exact .nil
  | cons w ws ih =>
    obtain ⟨v, vs', rfl, h, r'⟩ := r.cons_iff
    simp only [List.reverse_cons]
    exact (ih r').append (.cons h .nil)
theorem RpL.eraseIdx {ws : List W} {vs : List V} (r : RpL F H O ws vs) (n : Nat) : RpL F H O (ws.eraseIdx n) (vs.eraseIdx n) := by
  rw [List.eraseIdx_eq_take_drop_succ, List.eraseIdx_eq_take_drop_succ]
  exact (r.take n).append (r.drop (n + 1))
theorem RpL.dropLast {ws : List W} {vs : List V} (r : RpL F H O ws vs) : RpL F H O ws.dropLast vs.dropLast := by
  rw [List.dropLast_eq_take, List.dropLast_eq_take, r.1]
  exact r.take _
theorem Rp.mkTup {a : Addr} {vs : List V} {ws : List W} (h : FTup F H O a vs) (r : RpL F H O ws vs) : Rp F H O (.tup ws) (.ref a) := .tup h r.1 r.2
theorem Rp.mkLst {a : Addr} {vs : List V} {ws : List W} (h : FLst H O a vs) (r : RpL F H O ws vs) : Rp F H O (.lst ws) (.ref a) := .lst h r.1 r.2
theorem Rp.mkDct {a : Addr} {kvs : List (Key × V)} {ws : List (W × W)} (h : FDct H O a kvs) (r : RpD F H O ws kvs) : Rp F H O (.dct ws) (.ref a) := .dct h r.1 r.2.1 r.2.2
theorem Rp.tup_inv {ws : List W} {v : V} (r : Rp F H O (.tup ws) v) : ∃ a vs, v = .ref a ∧ FTup F H O a vs ∧ RpL F H O ws vs := by
  cases r with
  | tup h hl hs => exact ⟨_, _, rfl, h, hl, hs⟩
theorem Rp.lst_inv {ws : List W} {v : V} (r : Rp F H O (.lst ws) v) : ∃ a vs, v = .ref a ∧ FLst H O a vs ∧ RpL F H O ws vs := by
  cases r with
  | lst h hl hs => exact ⟨_, _, rfl, h, hl, hs⟩
theorem Rp.dct_inv {ws : List (W × W)} {v : V} (r : Rp F H O (.dct ws) v) : ∃ a kvs, v = .ref a ∧ FDct H O a kvs ∧ RpD F H O ws kvs := by
  cases r with
  | dct h hl hk hs => exact ⟨_, _, rfl, h, hl, hk, hs⟩
theorem FTup.sq {a : Addr} {vs : List V} (h : FTup F H O a vs) : SqT F.K H a vs := by
  rcases h with h | ⟨o, its, n, h1, h2, _, h3⟩
  · exact .inl h.1
  · exact .inr ⟨o, its, n, h1, h2, h3⟩
theorem FLst.sq {a : Addr} {vs : List V} (h : FLst H O a vs) : SqL F.K H a vs := .inl (.inl h.1)

/-- what nobody owns stays -/
def Ext (O : Addr → Prop) (H H' : Hp) : Prop := ∀ a ho, H a = some ho → ¬ O a → H' a = some ho
/-- nothing that stood becomes owned -/
def Own (O O' : Addr → Prop) (H : Hp) : Prop := ∀ a, O' a → O a ∨ H a = none
theorem Rd.ext {a : Addr} {u : HO} (e : Ext O H H') (p : Own O O' H) (h : Rd H a u) (n : ¬ O a) : Rd H' a u ∧ ¬ O' a := by
  rcases h with h | ⟨o, h⟩
  · exact ⟨.inl (e a _ h n), fun z => (p a z).elim n fun q => by rw [h] at q; cases q⟩
  · exact ⟨.inr ⟨o, e a _ h n⟩, fun z => (p a z).elim n fun q => by rw [h] at q; cases q⟩
theorem FTup.ext {a : Addr} {vs : List V} (e : Ext O H H') (p : Own O O' H) (h : FTup F H O a vs) : FTup F H' O' a vs := by
  rcases h with h | h
  · exact .inl (Rd.ext e p h.1 h.2)
  · exact .inr h
theorem FLst.ext {a : Addr} {vs : List V} (e : Ext O H H') (p : Own O O' H) (h : FLst H O a vs) : FLst H' O' a vs := ⟨e a _ h.1 h.2, fun z => (p a z).elim h.2 fun q => by rw [h.1] at q; cases q⟩
theorem FDct.ext {a : Addr} {kvs : List (Key × V)} (e : Ext O H H') (p : Own O O' H) (h : FDct H O a kvs) : FDct H' O' a kvs := Rd.ext e p h.1 h.2
theorem Rp.ext (e : Ext O H H') (p : Own O O' H) {w : W} {v : V} (r : Rp F H O w v) : Rp F H' O' w v := by
  induction r with
  | non => exact .non
  | bl b => exact .bl b
  | int i => exact .int i
  | str x h h2 => exact .str x h h2
  | tup h hl hs ih => exact .tup (h.ext e p) hl ih
  | lst h hl hs ih => exact .lst (h.ext e p) hl ih
  | dct h hl hk hs ihk ihs => exact .dct (h.ext e p) hl ihk ihs
  | kdc h hl hk hs ihs => exact .kdc h hl hk ihs
  | exc h hn => exact .exc (e _ _ h hn) fun z => (p _ z).elim hn fun q => by rw [h] at q; cases q
theorem RpL.ext (e : Ext O H H') (p : Own O O' H) {ws : List W} {vs : List V} (r : RpL F H O ws vs) : RpL F H' O' ws vs := ⟨r.1, fun i w v h1 h2 => (r.2 i w v h1 h2).ext e p⟩
theorem RpD.ext (e : Ext O H H') (p : Own O O' H) {ws : List (W × W)} {vs : List (Key × V)} (r : RpD F H O ws vs) : RpD F H' O' ws vs := ⟨r.1, fun i w v h1 h2 => (r.2.1 i w v h1 h2).ext e p, fun i w v h1 h2 => (r.2.2 i w v h1 h2).ext e p⟩
end

/-! ### the store -/
/-- what is owned: the addresses of the objects that live -/
def Ow (ι : List Addr) (S : Store) (a : Addr) : Prop := ∃ (n : Nat) (o : Ob), S[n]? = some o ∧ o ≠ Ob.dead ∧ ι[n]? = some a
/-- .. or hidden: what is being made -/
def Oq (ι : List Addr) (S : Store) (B : Addr → Prop) (a : Addr) : Prop := Ow ι S a ∨ B a
/-- the table of the inner code of the def x; q the name of what is made there -/
def TblR (F : Fx) (H : Hp) (O : Addr → Prop) (a : Addr) (x q : Str) : Prop :=
  a = (He.cT F.K (x, none)).2 ∧ ∃ ps : Array Value, H a = some (.tbl ps) ∧ TriplesOk ps.toList ∧ ∀ (pos : Pos) (cv : Value), codeAmong pos ps.toList = some cv → ∃ c, cv = .ref c ∧ H c = some (LamX.CodeO c q) ∧ ¬ O c
theorem TblR.ext {F : Fx} {H H' : Hp} {O O' : Addr → Prop} {a : Addr} {x q : Str} (r : TblR F H O a x q) (e : Ext O H H') (p : Own O O' H) (h : ∀ ho, H a = some ho → H' a = some ho) : TblR F H' O' a x q := by
  obtain ⟨h1, ps, h3, h4, h5⟩ := r
  refine ⟨h1, ps, h _ h3, h4, fun pos cv hc => ?_⟩
  obtain ⟨c, e1, e2, e3⟩ := h5 pos cv hc
  exact ⟨c, e1, e c _ e2 e3, fun z => (p c z).elim e3 fun z => by rw [e2] at z; cases z⟩
def ObR (F : Fx) (H : Hp) (O : Addr → Prop) (a : Addr) : Ob → Prop
  | .lst ws => ∃ vs, H a = some (.lst vs) ∧ RpL F H O ws vs
  | .dct ws => ∃ kvs, H a = some (.dK kvs) ∧ RpD F H O ws kvs
  | .scr ws => ∃ vs ho, H a = some ho ∧ Rd H a (.lst vs) ∧ RpL F H O ws vs
  | .tbl x q => TblR F H O a x q
  | .dead => ∃ ho, H a = some ho
structure RS (F : Fx) (ι : List Addr) (S : Store) (B : Addr → Prop) (H : Hp) : Prop where
  len : ι.length = S.length
  nd : ι.Nodup
  ob : ∀ (n : Nat) (o : Ob) (a : Addr), S[n]? = some o → ι[n]? = some a → ObR F H (Oq ι S B) a o
  hid : ∀ a, B a → (∃ ho, H a = some ho) ∧ a ∉ ι
def RU (F : Fx) (H : Hp) (ι : List Addr) (S : Store) (B : Addr → Prop) : U → V → Prop
  | .v w, v => Rp F H (Oq ι S B) w v
  | .o n, v => ∃ a, ι[n]? = some a ∧ v = .ref a
/-- how the heap, the store go on -/
structure Go (ι : List Addr) (S : Store) (H : Hp) (ι' : List Addr) (S' : Store) (H' : Hp) : Prop where
  ext : Ext (Ow ι S) H H'
  own : Own (Ow ι S) (Ow ι' S') H
  pre : ∃ t, ι' = ι ++ t
section
variable {F : Fx} {H H' H1 H2 : Hp} {ι ι' ι1 ι2 : List Addr} {S S' S1 S2 : Store} {B : Addr → Prop}
theorem Go.refl : Go ι S H ι S H := ⟨fun _ _ h _ => h, fun _ h => .inl h, [], by simp⟩
theorem Go.trans (a : Go ι S H ι1 S1 H1) (b : Go ι1 S1 H1 ι2 S2 H2) : Go ι S H ι2 S2 H2 := by
  have key : ∀ x ho, H x = some ho → ¬ Ow ι S x → H1 x = some ho ∧ ¬ Ow ι1 S1 x := fun x ho h n =>
    ⟨a.ext x ho h n, fun z => (a.own x z).elim n fun q => by rw [h] at q; cases q⟩
  refine ⟨fun x ho h n => b.ext x ho (key x ho h n).1 (key x ho h n).2, fun x z => ?_, ?_⟩
  · by_cases n : Ow ι S x
    · exact .inl n
    · rcases b.own x z with q | q
      · exact a.own x q
      · cases e : H x with
        | none => exact .inr rfl
        | some ho => rw [(key x ho e n).1] at q; cases q
  · obtain ⟨t, rfl⟩ := a.pre
    obtain ⟨u, rfl⟩ := b.pre
    exact ⟨t ++ u, by simp⟩
theorem Go.extq (g : Go ι S H ι' S' H') : Ext (Oq ι S B) H H' := fun a ho h n => g.ext a ho h fun z => n (.inl z)
theorem Go.ownq (g : Go ι S H ι' S' H') : Own (Oq ι S B) (Oq ι' S' B) H := fun a z => z.elim (fun z => (g.own a z).imp .inl id) fun z => .inl (.inr z)
theorem Rp.go (g : Go ι S H ι' S' H') {w : W} {v : V} (r : Rp F H (Oq ι S B) w v) : Rp F H' (Oq ι' S' B) w v := r.ext g.extq g.ownq
theorem RpL.go (g : Go ι S H ι' S' H') {w : List W} {v : List V} (r : RpL F H (Oq ι S B) w v) : RpL F H' (Oq ι' S' B) w v := r.ext g.extq g.ownq
theorem RpD.go (g : Go ι S H ι' S' H') {w : List (W × W)} {v : List (Key × V)} (r : RpD F H (Oq ι S B) w v) : RpD F H' (Oq ι' S' B) w v := r.ext g.extq g.ownq
theorem RU.go (g : Go ι S H ι' S' H') {u : U} {v : V} (r : RU F H ι S B u v) : RU F H' ι' S' B u v := by
  cases u with
  | v w => exact Rp.go g r
  | o n =>
    obtain ⟨a, h, e⟩ := r
    obtain ⟨t, rfl⟩ := g.pre
    exact ⟨a, by rw [List.getElem?_append_left (List.getElem?_eq_some_iff.mp h).1]; exact h, e⟩
end

/-! ### results, names -/
inductive Re (α : Type) where
  | ok (a : α) (S : Store) | ex (c : Nat) (S : Store) | no
abbrev Env' := List (Option U)
inductive Fl where
  | nx (e : Env') | rt (u : U) | bk (e : Env') | ct (e : Env')
inductive Rs where
  | ok (f : Fl) (S : Store) | ex (c : Nat) (e : Env') (S : Store) | no
abbrev DE := Env' → Store → Re U
abbrev DT := Env' → Store → Re Bool
abbrev DA := Env' → Store → Re (List U)
abbrev DS := Env' → Store → Rs
def RUs (F : Fx) (H : Hp) (ι : List Addr) (S : Store) (B : Addr → Prop) (us : List U) (vs : List V) : Prop := Paired (RU F H ι S B) us vs
structure ER (F : Fx) (H : Hp) (ι : List Addr) (S : Store) (B : Addr → Prop) (env : Env') (σ : L2.St) : Prop where
  len : env.length = σ.length
  get : ∀ (i : Nat) (u : U), env[i]? = some (some u) → ∃ v, σ[i]? = some (some v) ∧ RU F H ι S B u v
/-- what a result asks of what follows -/
def PoE (F : Fx) (Wx : WX) (σ : L2.St) (ι : List Addr) (S : Store) (B : Addr → Prop) (H : Hp) (r : Re U) (Q : VK) : Prop := match r with
  | .ok u S' => ∀ v H' ι', Go ι S H ι' S' H' → RS F ι' S' B H' → RU F H' ι' S' B u v → Q v H'
  | .ex c S' => ∀ H' ι', Go ι S H ι' S' H' → RS F ι' S' B H' → Wx (F.ec c) none σ H'
  | .no => False
def PoT (F : Fx) (Wx : WX) (σ : L2.St) (ι : List Addr) (S : Store) (B : Addr → Prop) (H : Hp) (r : Re Bool) (Q : Bool → Hp → Prop) : Prop := match r with
  | .ok b S' => ∀ H' ι', Go ι S H ι' S' H' → RS F ι' S' B H' → Q b H'
  | .ex c S' => ∀ H' ι', Go ι S H ι' S' H' → RS F ι' S' B H' → Wx (F.ec c) none σ H'
  | .no => False
def PoA (F : Fx) (Wx : WX) (σ : L2.St) (ι : List Addr) (S : Store) (B : Addr → Prop) (H : Hp) (r : Re (List U)) (Q : List V → Hp → Prop) : Prop := match r with
  | .ok us S' => ∀ vs H' ι', Go ι S H ι' S' H' → RS F ι' S' B H' → RUs F H' ι' S' B us vs → Q vs H'
  | .ex c S' => ∀ H' ι', Go ι S H ι' S' H' → RS F ι' S' B H' → Wx (F.ec c) none σ H'
  | .no => False
def PoS (F : Fx) (Wx : WX) (ι : List Addr) (S : Store) (B : Addr → Prop) (H : Hp) (r : Rs) (D : Ends) : Prop := match r with
  | .ok (.nx e) S' => ∀ σ' H' ι', Go ι S H ι' S' H' → RS F ι' S' B H' → ER F H' ι' S' B e σ' → D.nx σ' H'
  | .ok (.rt u) S' => ∀ v H' ι', Go ι S H ι' S' H' → RS F ι' S' B H' → RU F H' ι' S' B u v → D.rt v H'
  | .ok (.bk e) S' => ∀ σ' H' ι', Go ι S H ι' S' H' → RS F ι' S' B H' → ER F H' ι' S' B e σ' → D.bk σ' H'
  | .ok (.ct e) S' => ∀ σ' H' ι', Go ι S H ι' S' H' → RS F ι' S' B H' → ER F H' ι' S' B e σ' → D.ct σ' H'
  | .ex c e S' => ∀ σ' H' ι', Go ι S H ι' S' H' → RS F ι' S' B H' → ER F H' ι' S' B e σ' → Wx (F.ec c) none σ' H'
  | .no => False
section
variable {F : Fx} {Wx : WX} {σ : L2.St} {H H' H1 H2 : Hp} {ι ι' ι1 ι2 : List Addr} {S S' S1 S2 : Store} {B : Addr → Prop}
theorem ER.go (g : Go ι S H ι' S' H') {e : Env'} (r : ER F H ι S B e σ) : ER F H' ι' S' B e σ := ⟨r.len, fun i u h => let ⟨v, h1, h2⟩ := r.get i u h; ⟨v, h1, RU.go g h2⟩⟩
theorem RUs.go (g : Go ι S H ι' S' H') : ∀ {us : List U} {vs : List V}, RUs F H ι S B us vs → RUs F H' ι' S' B us vs
  | _, _, .nil => .nil
  | _, _, .cons r t => .cons (RU.go g r) (RUs.go g t)
theorem PoE.go (g : Go ι S H ι1 S1 H1) {r : Re U} {Q : VK} (h : PoE F Wx σ ι S B H r Q) : PoE F Wx σ ι1 S1 B H1 r Q := by
  cases r with
  | ok u S' => exact fun v H' ι' g' => h v H' ι' (g.trans g')
  | ex c S' => exact fun H' ι' g' => h H' ι' (g.trans g')
  | no => exact h
theorem PoT.go (g : Go ι S H ι1 S1 H1) {r : Re Bool} {Q : Bool → Hp → Prop} (h : PoT F Wx σ ι S B H r Q) : PoT F Wx σ ι1 S1 B H1 r Q := by
  cases r with
  | ok u S' => exact fun H' ι' g' => h H' ι' (g.trans g')
  | ex c S' => exact fun H' ι' g' => h H' ι' (g.trans g')
  | no => exact h
theorem PoA.go (g : Go ι S H ι1 S1 H1) {r : Re (List U)} {Q : List V → Hp → Prop} (h : PoA F Wx σ ι S B H r Q) : PoA F Wx σ ι1 S1 B H1 r Q := by
  cases r with
  | ok u S' => exact fun v H' ι' g' => h v H' ι' (g.trans g')
  | ex c S' => exact fun H' ι' g' => h H' ι' (g.trans g')
  | no => exact h
theorem PoS.go (g : Go ι S H ι1 S1 H1) {r : Rs} {D : Ends} (h : PoS F Wx ι S B H r D) : PoS F Wx ι1 S1 B H1 r D := by
  cases r with
  | ok f S' => cases f <;> exact fun a b c g' => h a b c (g.trans g')
  | ex c e S' => exact fun a b c g' => h a b c (g.trans g')
  | no => exact h
theorem ER.set {e : Env'} (r : ER F H ι S B e σ) (i : Nat) {u : U} {v : V} (h : RU F H ι S B u v) : ER F H ι S B (e.set i (some u)) (σ.set i (some v)) := by
  refine ⟨by simp [r.len], fun j w hj => ?_⟩
  rw [List.getElem?_set] at hj ⊢
  split at hj
  · split at hj
    · rename_i a b
      cases hj
      exact ⟨v, by rw [if_pos a, if_pos (by rw [← r.len]; exact b)], h⟩
    · cases hj
  · rename_i a
    rw [if_neg a]
    exact r.get j w hj
theorem ER.unset {e : Env'} (r : ER F H ι S B e σ) (i : Nat) : ER F H ι S B (e.set i none) (σ.set i none) := by
  refine ⟨by simp [r.len], fun j w hj => ?_⟩
  rw [List.getElem?_set] at hj ⊢
  split at hj
  · split at hj <;> cases hj
  · rename_i a
    rw [if_neg a]
    exact r.get j w hj
theorem RS.tracked (R : RS F ι S B H) {a : Addr} (h : Ow ι S a) : ∃ ho, H a = some ho := by
  obtain ⟨n, o, h1, h2, h3⟩ := h
  have z := R.ob n o a h1 h3
  cases o with
  | lst ws => obtain ⟨vs, e, _⟩ := z; exact ⟨_, e⟩
  | dct ws => obtain ⟨vs, e, _⟩ := z; exact ⟨_, e⟩
  | scr ws => obtain ⟨vs, ho, e, _⟩ := z; exact ⟨_, e⟩
  | tbl x q => obtain ⟨_, ps, e, _⟩ := z; exact ⟨_, e⟩
  | dead => exact z
theorem RS.there (R : RS F ι S B H) {a : Addr} (h : a ∈ ι) : ∃ ho, H a = some ho := by
  obtain ⟨n, hn, e⟩ := List.getElem_of_mem h
  have hn' : n < S.length := by rw [← R.len]; exact hn
  have z := R.ob n S[n] a (by simp [hn']) (by rw [← e]; simp [hn])
  cases q : S[n] with
  | lst ws => rw [q] at z; obtain ⟨vs, e, _⟩ := z; exact ⟨_, e⟩
  | dct ws => rw [q] at z; obtain ⟨vs, e, _⟩ := z; exact ⟨_, e⟩
  | scr ws => rw [q] at z; obtain ⟨vs, ho, e, _⟩ := z; exact ⟨_, e⟩
  | tbl x q2 => rw [q] at z; obtain ⟨_, ps, e, _⟩ := z; exact ⟨_, e⟩
  | dead => rw [q] at z; exact z
theorem RS.free (R : RS F ι S B H) {p : Addr} (h : H p = none) : ¬ Oq ι S B p := fun z => by
  rcases z with z | z
  · obtain ⟨ho, e⟩ := R.tracked z
    rw [h] at e; cases e
  · obtain ⟨⟨ho, e⟩, _⟩ := R.hid p z
    rw [h] at e; cases e
theorem ObR.upd_new {O : Addr → Prop} {p a : Addr} {ho : HO} {o : Ob} (hp : H p = none) (h : ObR F H O a o) : ObR F (upd H p ho) O a o := by
  have E : Ext O H (upd H p ho) := fun x y hx _ => by rw [upd_ne (ne_of_none hx hp)]; exact hx
  have P : Own O O H := fun _ z => .inl z
  cases o with
  | lst ws => obtain ⟨vs, e, r⟩ := h; exact ⟨vs, by rw [upd_ne (ne_of_none e hp)]; exact e, r.ext E P⟩
  | dct ws => obtain ⟨vs, e, r⟩ := h; exact ⟨vs, by rw [upd_ne (ne_of_none e hp)]; exact e, r.ext E P⟩
  | scr ws => obtain ⟨vs, y, e, d, r⟩ := h; exact ⟨vs, y, by rw [upd_ne (ne_of_none e hp)]; exact e, d.imp (fun d => by rw [upd_ne (ne_of_none d hp)]; exact d) fun ⟨o, d⟩ => ⟨o, by rw [upd_ne (ne_of_none d hp)]; exact d⟩, r.ext E P⟩
  | tbl x q => exact TblR.ext h E P fun _ e => by rw [upd_ne (ne_of_none e hp)]; exact e
  | dead => obtain ⟨y, e⟩ := h; exact ⟨y, by rw [upd_ne (ne_of_none e hp)]; exact e⟩
theorem hid_new {p : Addr} {ho : HO} (R : RS F ι S B H) (hp : H p = none) : ∀ a, B a → (∃ y, (upd H p ho) a = some y) ∧ a ∉ ι := fun a h => by
  obtain ⟨⟨y, e⟩, n⟩ := R.hid a h
  exact ⟨⟨y, by rw [upd_ne (ne_of_none e hp)]; exact e⟩, n⟩
/-- a new object that nobody owns -/
theorem RS.fresh (R : RS F ι S B H) {p : Addr} (ho : HO) (hp : H p = none) : RS F ι S B (upd H p ho) ∧ Go ι S H ι S (upd H p ho) ∧ ¬ Oq ι S B p :=
  ⟨⟨R.len, R.nd, fun n o a h1 h2 => (R.ob n o a h1 h2).upd_new hp, hid_new R hp⟩, ⟨fun x y hx _ => by rw [upd_ne (ne_of_none hx hp)]; exact hx, fun _ z => .inl z, [], by simp⟩, R.free hp⟩
theorem ow_push {p a : Addr} {o : Ob} (hl : ι.length = S.length) (ho : o ≠ Ob.dead) : Ow (ι ++ [p]) (S ++ [o]) a ↔ Ow ι S a ∨ a = p := by
  constructor
  · rintro ⟨n, q, h1, h2, h3⟩
    by_cases hn : n < S.length
    · rw [List.getElem?_append_left hn] at h1
      rw [List.getElem?_append_left (by omega)] at h3
      exact .inl ⟨n, q, h1, h2, h3⟩
    · rw [List.getElem?_append_right (by omega)] at h3
      right
      obtain ⟨h4, h5⟩ := List.getElem?_eq_some_iff.mp h3
      simp at h5
      exact h5.symm
  · rintro (⟨n, q, h1, h2, h3⟩ | rfl)
    · exact ⟨n, q, by rw [List.getElem?_append_left (List.getElem?_eq_some_iff.mp h1).1]; exact h1, h2, by rw [List.getElem?_append_left (List.getElem?_eq_some_iff.mp h3).1]; exact h3⟩
    · exact ⟨S.length, o, by simp, ho, by rw [← hl]; simp⟩
def NewOb (F : Fx) (H : Hp) (O : Addr → Prop) (ho : HO) : Ob → Prop
  | .lst ws => ∃ vs, ho = .lst vs ∧ RpL F H O ws vs
  | .dct ws => ∃ kvs, ho = .dK kvs ∧ RpD F H O ws kvs
  | .scr _ => False
  | .tbl _ _ => False
  | .dead => False
/-- a new object that is owned -/
theorem RS.owned (R : RS F ι S B H) {p : Addr} {ho : HO} {o : Ob} (hp : H p = none) (hob : NewOb F H (Oq ι S B) ho o) :
    RS F (ι ++ [p]) (S ++ [o]) B (upd H p ho) ∧ Go ι S H (ι ++ [p]) (S ++ [o]) (upd H p ho) := by
  have hd : o ≠ Ob.dead := by rintro rfl; exact hob
  have G : Go ι S H (ι ++ [p]) (S ++ [o]) (upd H p ho) := ⟨fun x y hx _ => by rw [upd_ne (ne_of_none hx hp)]; exact hx, fun a z => ((ow_push R.len hd).mp z).imp id fun e => by rw [e]; exact hp, [p], rfl⟩
  refine ⟨⟨by simp [R.len], ?_, fun n q a h1 h2 => ?_, fun a h => ?_⟩, G⟩
  · rw [List.nodup_append]
    refine ⟨R.nd, by simp, fun x hx y hy e => ?_⟩
    simp at hy
    subst hy
    subst e
    obtain ⟨z, q⟩ := R.there hx
    rw [hp] at q; cases q
  · -- an object, seen with one more owned
    have up : ∀ {a : Addr} {q : Ob}, ObR F H (Oq ι S B) a q → ObR F (upd H p ho) (Oq (ι ++ [p]) (S ++ [o]) B) a q := fun {a q} h => by
      cases q with
      | lst ws => obtain ⟨vs, e, r⟩ := h; exact ⟨vs, by rw [upd_ne (ne_of_none e hp)]; exact e, r.ext G.extq G.ownq⟩
      | dct ws => obtain ⟨vs, e, r⟩ := h; exact ⟨vs, by rw [upd_ne (ne_of_none e hp)]; exact e, r.ext G.extq G.ownq⟩
      | scr ws => obtain ⟨vs, y, e, d, r⟩ := h; exact ⟨vs, y, by rw [upd_ne (ne_of_none e hp)]; exact e, d.imp (fun d => by rw [upd_ne (ne_of_none d hp)]; exact d) fun ⟨o, d⟩ => ⟨o, by rw [upd_ne (ne_of_none d hp)]; exact d⟩, r.ext G.extq G.ownq⟩
      | tbl x q2 => exact TblR.ext h G.extq G.ownq fun _ e => by rw [upd_ne (ne_of_none e hp)]; exact e
      | dead => obtain ⟨y, e⟩ := h; exact ⟨y, by rw [upd_ne (ne_of_none e hp)]; exact e⟩
    by_cases hn : n < S.length
    · rw [List.getElem?_append_left hn] at h1
      rw [List.getElem?_append_left (by rw [R.len]; exact hn)] at h2
      exact up (R.ob n q a h1 h2)
    · rw [List.getElem?_append_right (by omega)] at h1
      rw [List.getElem?_append_right (by rw [R.len]; omega)] at h2
      obtain ⟨h4, h5⟩ := List.getElem?_eq_some_iff.mp h1
      obtain ⟨h6, h7⟩ := List.getElem?_eq_some_iff.mp h2
      simp at h5 h7
      subst h5
      subst h7
      cases o with
      | lst ws => obtain ⟨vs, rfl, r⟩ := hob; exact ⟨vs, upd_same, r.ext G.extq G.ownq⟩
      | dct ws => obtain ⟨kvs, rfl, r⟩ := hob; exact ⟨kvs, upd_same, r.ext G.extq G.ownq⟩
      | scr ws => exact hob.elim
      | tbl x q => exact hob.elim
      | dead => exact hob.elim
  · obtain ⟨⟨y, e⟩, n⟩ := R.hid a h
    refine ⟨⟨y, by rw [upd_ne (ne_of_none e hp)]; exact e⟩, fun z => ?_⟩
    rcases List.mem_append.mp z with z | z
    · exact n z
    · simp at z; subst z; rw [hp] at e; cases e
end
end Bel

/-! The engine, second part: judgements, what an operation asks. -/
namespace Bel
open PySem PySem.Spec PyProof.Rows L2

def Re.bind {α β : Type} (r : Re α) (f : α → Store → Re β) : Re β := match r with
  | .ok a S => f a S
  | .ex c S => .ex c S
  | .no => .no
@[simp] theorem Re.bind_ok {α β : Type} (a : α) (S : Store) (f : α → Store → Re β) : (Re.ok a S).bind f = f a S := rfl
@[simp] theorem Re.bind_ex {α β : Type} (c : Nat) (S : Store) (f : α → Store → Re β) : (Re.ex c S : Re α).bind f = .ex c S := rfl
@[simp] theorem Re.bind_no {α β : Type} (f : α → Store → Re β) : (Re.no : Re α).bind f = .no := rfl

/-- what an operation gives: a value, a new list, a new tuple, a new dict -/
inductive Out where
  | val (w : W) | nl (l : List W) | nt (l : List W) | nd (l : List (W × W))
/-- a new list or dict becomes an own object, where it is asked -/
def Out.put (own : Bool) (o : Out) (S : Store) : Re U := match o with
  | .val w => .ok (.v w) S
  | .nt l => .ok (.v (.tup l)) S
  | .nl l => if own then .ok (.o S.length) (S ++ [.lst l]) else .ok (.v (.lst l)) S
  | .nd l => if own then .ok (.o S.length) (S ++ [.dct l]) else .ok (.v (.dct l)) S
def putO (own : Bool) (o : Option Out) (S : Store) : Re U := match o with
  | some o => o.put own S
  | none => .no
/-- the value that is read -/
def dr (S : Store) (u : U) : Option W := match u with
  | .v w => some w
  | .o n => match S[n]? with
    | some (.lst l) => some (.lst l)
    | some (.dct l) => some (.dct l)
    | some (.scr l) => some (.lst l)
    | _ => none

section
variable (F : Fx) (H : Hp) (O : Addr → Prop)
/-- w is what is read at v just now (its parts stay) -/
def RT : W → V → Prop
  | .lst ws, v => ∃ a vs, v = .ref a ∧ Rd H a (.lst vs) ∧ RpL F H O ws vs
  | .dct ws, v => ∃ a kvs, v = .ref a ∧ Rd H a (.dK kvs) ∧ RpD F H O ws kvs
  | w, v => Rp F H O w v
/-- what an operation's answer asks of what follows -/
def PuQ (o : Out) (Q : VK) : Prop := match o with
  | .val w => ∀ v, Rp F H O w v → Q v H
  | .nt ws => (∀ v, Rp F H O (.tup ws) v → Q v H) ∧ ∀ p vs, H p = none → RpL F H O ws vs → Q (.ref p) (upd H p (.tup vs))
  | .nl ws => ∀ p vs, H p = none → RpL F H O ws vs → Q (.ref p) (upd H p (.lst vs))
  | .nd ws => ∀ p kvs, H p = none → RpD F H O ws kvs → Q (.ref p) (upd H p (.dK kvs))
end
section
variable {F : Fx} {Wx : WX} {σ : L2.St} {H H' H1 H2 : Hp} {ι ι' ι1 ι2 : List Addr} {S S' S1 S2 : Store} {B : Addr → Prop} {O : Addr → Prop}
theorem RT.of {w : W} {v : V} (r : Rp F H O w v) : RT F H O w v := by
  cases w with
  | lst ws => obtain ⟨a, vs, e, h, q⟩ := r.lst_inv; exact ⟨a, vs, e, .inl h.1, q⟩
  | dct ws => obtain ⟨a, vs, e, h, q⟩ := r.dct_inv; exact ⟨a, vs, e, h.1, q⟩
  | _ => exact r
theorem RU.rt (R : RS F ι S B H) {u : U} {v : V} (r : RU F H ι S B u v) {w : W} (h : dr S u = some w) : RT F H (Oq ι S B) w v := by
  cases u with
  | v w' => cases h; exact .of r
  | o n =>
    obtain ⟨a, ha, rfl⟩ := r
    unfold dr at h
    cases e : S[n]? with
    | none => simp [e] at h
    | some o =>
      have z := R.ob n o a e ha
      cases o with
      | lst l => simp [e] at h; subst h; obtain ⟨vs, q, r⟩ := z; exact ⟨a, vs, rfl, .inl q, r⟩
      | dct l => simp [e] at h; subst h; obtain ⟨vs, q, r⟩ := z; exact ⟨a, vs, rfl, .inl q, r⟩
      | scr l => simp [e] at h; subst h; obtain ⟨vs, _, _, q, r⟩ := z; exact ⟨a, vs, rfl, q, r⟩
      | tbl x q => simp [e] at h
      | dead => simp [e] at h
theorem put_ok (R : RS F ι S B H) {own : Bool} {o : Out} {Q : VK} (h : PoE F Wx σ ι S B H (o.put own S) Q) : PuQ F H (Oq ι S B) o Q := by
  cases o with
  | val w => exact fun v r => h v H ι .refl R r
  | nt ws =>
    refine ⟨fun v r => h v H ι .refl R r, ?_⟩
    intro p vs hp r
    obtain ⟨R', G, n⟩ := R.fresh (.tup vs) hp
    exact h _ _ ι G R' (Rp.mkTup (.inl ⟨.inl upd_same, n⟩) (r.go G))
  | nl ws =>
    intro p vs hp r
    cases own with
    | false =>
      obtain ⟨R', G, n⟩ := R.fresh (.lst vs) hp
      exact h _ _ ι G R' (Rp.mkLst ⟨upd_same, n⟩ (r.go G))
    | true =>
      obtain ⟨R', G⟩ := R.owned (o := .lst ws) (ho := .lst vs) hp ⟨vs, rfl, r⟩
      exact h _ _ _ G R' ⟨p, by rw [← R.len]; simp, rfl⟩
  | nd ws =>
    intro p vs hp r
    cases own with
    | false =>
      obtain ⟨R', G, n⟩ := R.fresh (.dK vs) hp
      exact h _ _ ι G R' (Rp.mkDct ⟨.inl upd_same, n⟩ (r.ext G.extq G.ownq))
    | true =>
      obtain ⟨R', G⟩ := R.owned (o := .dct ws) (ho := .dK vs) hp ⟨vs, rfl, r⟩
      exact h _ _ _ G R' ⟨p, by rw [← R.len]; simp, rfl⟩
theorem putO_ok (R : RS F ι S B H) {own : Bool} {o : Option Out} {Q : VK} (h : PoE F Wx σ ι S B H (putO own o S) Q) : ∃ x, o = some x ∧ PuQ F H (Oq ι S B) x Q := by
  cases o with
  | none => exact h.elim
  | some x => exact ⟨x, rfl, put_ok R h⟩
end

/-! ### the judgements -/
def LE (F : Fx) (Wx : WX) (d : DE) : TE := fun σ H Q => ∃ (env : Env') (S : Store) (ι : List Addr) (B : Addr → Prop), RS F ι S B H ∧ ER F H ι S B env σ ∧ PoE F Wx σ ι S B H (d env S) Q
def LT (F : Fx) (Wx : WX) (d : DT) : TT := fun σ H Q => ∃ (env : Env') (S : Store) (ι : List Addr) (B : Addr → Prop), RS F ι S B H ∧ ER F H ι S B env σ ∧ PoT F Wx σ ι S B H (d env S) Q
def LA (F : Fx) (Wx : WX) (d : DA) : TA := fun σ H Q => ∃ (env : Env') (S : Store) (ι : List Addr) (B : Addr → Prop), RS F ι S B H ∧ ER F H ι S B env σ ∧ PoA F Wx σ ι S B H (d env S) Q
def LS (F : Fx) (Wx : WX) (d : DS) : TS := fun D σ H => ∃ (env : Env') (S : Store) (ι : List Addr) (B : Addr → Prop), RS F ι S B H ∧ ER F H ι S B env σ ∧ PoS F Wx ι S B H (d env S) D
abbrev fx (ec : Nat → Value) (X : Cx) : Fx := ⟨X.K, X.w, ec⟩
/-- what is fixed of a context: all but what is wanted of errors -/
structure PEv (ec : Nat → Value) (X : Cx) (e : Expr) (d : DE) : Prop where
  run : ∀ (pn : List (Addr × Obj)) (xe : Value → Shared → Prop) (Wx : WX), Takes (X.tr pn xe) Wx → PE (X.tr pn xe) e (LE (fx ec X) Wx d)
structure PTv (ec : Nat → Value) (X : Cx) (e : Expr) (d : DT) : Prop where
  run : ∀ (pn : List (Addr × Obj)) (xe : Value → Shared → Prop) (Wx : WX), Takes (X.tr pn xe) Wx → PT (X.tr pn xe) e (LT (fx ec X) Wx d)
/-- a test whatever its whole is (and, or) -/
structure PWv (ec : Nat → Value) (X : Cx) (e : Expr) (d : DT) : Prop where
  run : ∀ (pn : List (Addr × Obj)) (xe : Value → Shared → Prop) (Wx : WX), Takes (X.tr pn xe) Wx → PW (X.tr pn xe) e (LT (fx ec X) Wx d)
structure PAv (ec : Nat → Value) (X : Cx) (es : List Expr) (d : DA) : Prop where
  run : ∀ (pn : List (Addr × Obj)) (xe : Value → Shared → Prop) (Wx : WX), Takes (X.tr pn xe) Wx → PA (X.tr pn xe) es (LA (fx ec X) Wx d)
structure PSv (ec : Nat → Value) (X : Cx) (st : Stmt) (d : DS) : Prop where
  run : ∀ (pn : List (Addr × Obj)) (xe : Value → Shared → Prop) (Wx : WX), Takes (X.tr pn xe) Wx → PassesOwn (model X.prog X.w) X.A X.env xe → PS (X.tr pn xe) st (LS (fx ec X) Wx d)
structure PSsv (ec : Nat → Value) (X : Cx) (st : List Stmt) (d : DS) : Prop where
  run : ∀ (pn : List (Addr × Obj)) (xe : Value → Shared → Prop) (Wx : WX), Takes (X.tr pn xe) Wx → PassesOwn (model X.prog X.w) X.A X.env xe → PSs (X.tr pn xe) st (LS (fx ec X) Wx d)
section
variable {X : Cx}
theorem _root_.L2.PE.imp {e : Expr} {t t' : TE} (h : PE X e t) (hh : ∀ σ H Q, t' σ H Q → t σ H Q) : PE X e t' := ⟨fun pins s σ H Q I q => h.run pins s σ H Q I (hh σ H Q q)⟩
theorem _root_.L2.PT.imp {e : Expr} {t t' : TT} (h : PT X e t) (hh : ∀ σ H Q, t' σ H Q → t σ H Q) : PT X e t' := ⟨fun pins s σ H Q I q => h.run pins s σ H Q I (hh σ H Q q)⟩
theorem _root_.L2.PW.imp {e : Expr} {t t' : TT} (h : PW X e t) (hh : ∀ σ H Q, t' σ H Q → t σ H Q) : PW X e t' := ⟨fun wh pins s σ H Q I q => h.run wh pins s σ H Q I (hh σ H Q q)⟩
theorem _root_.L2.PA.imp {e : List Expr} {t t' : TA} (h : PA X e t) (hh : ∀ σ H Q, t' σ H Q → t σ H Q) : PA X e t' := ⟨fun pos pins s σ H Q I q => h.run pos pins s σ H Q I (hh σ H Q q)⟩
theorem _root_.L2.PS.imp {e : Stmt} {t t' : TS} (h : PS X e t) (hh : ∀ D σ H, t' D σ H → t D σ H) : PS X e t' := ⟨fun pins s σ H D I q => h.run pins s σ H D I (hh D σ H q)⟩
theorem _root_.L2.PSs.imp {e : List Stmt} {t t' : TS} (h : PSs X e t) (hh : ∀ D σ H, t' D σ H → t D σ H) : PSs X e t' := ⟨fun pins s σ H D I q => h.run pins s σ H D I (hh D σ H q)⟩
end

/-! ### how readings are put together -/
section
variable {F : Fx} {Wx : WX} {σ : L2.St} {H H' H1 H2 : Hp} {ι ι' ι1 ι2 : List Addr} {S S' S1 S2 : Store} {B : Addr → Prop} {env : Env'} {Q : VK}
/-- first a, then g -/
theorem LE.then_ (R : RS F ι S B H) (E : ER F H ι S B env σ) {a : DE} {g : U → Store → Re U} (h : PoE F Wx σ ι S B H ((a env S).bind g) Q)
    {Q1 : VK} (k : ∀ u S1 v H1 ι1, Go ι S H ι1 S1 H1 → RS F ι1 S1 B H1 → ER F H1 ι1 S1 B env σ → RU F H1 ι1 S1 B u v → PoE F Wx σ ι1 S1 B H1 (g u S1) Q → Q1 v H1) : LE F Wx a σ H Q1 := by
  refine ⟨env, S, ι, B, R, E, ?_⟩
  cases e : a env S with
  | ok u S1 =>
    rw [e] at h
    exact fun v H1 ι1 G R1 r => k u S1 v H1 ι1 G R1 (E.go G) r (h.go G)
  | ex c S1 => rw [e] at h; exact h
  | no => rw [e] at h; exact h
theorem LE.thenT (R : RS F ι S B H) (E : ER F H ι S B env σ) {a : DE} {g : U → Store → Re Bool} {Q : Bool → Hp → Prop} (h : PoT F Wx σ ι S B H ((a env S).bind g) Q)
    {Q1 : VK} (k : ∀ u S1 v H1 ι1, Go ι S H ι1 S1 H1 → RS F ι1 S1 B H1 → ER F H1 ι1 S1 B env σ → RU F H1 ι1 S1 B u v → PoT F Wx σ ι1 S1 B H1 (g u S1) Q → Q1 v H1) : LE F Wx a σ H Q1 := by
  refine ⟨env, S, ι, B, R, E, ?_⟩
  cases e : a env S with
  | ok u S1 =>
    rw [e] at h
    exact fun v H1 ι1 G R1 r => k u S1 v H1 ι1 G R1 (E.go G) r (h.go G)
  | ex c S1 => rw [e] at h; exact h
  | no => rw [e] at h; exact h
theorem LE.thenA (R : RS F ι S B H) (E : ER F H ι S B env σ) {a : DE} {g : U → Store → Re (List U)} {Q : List V → Hp → Prop} (h : PoA F Wx σ ι S B H ((a env S).bind g) Q)
    {Q1 : VK} (k : ∀ u S1 v H1 ι1, Go ι S H ι1 S1 H1 → RS F ι1 S1 B H1 → ER F H1 ι1 S1 B env σ → RU F H1 ι1 S1 B u v → PoA F Wx σ ι1 S1 B H1 (g u S1) Q → Q1 v H1) : LE F Wx a σ H Q1 := by
  refine ⟨env, S, ι, B, R, E, ?_⟩
  cases e : a env S with
  | ok u S1 =>
    rw [e] at h
    exact fun v H1 ι1 G R1 r => k u S1 v H1 ι1 G R1 (E.go G) r (h.go G)
  | ex c S1 => rw [e] at h; exact h
  | no => rw [e] at h; exact h
theorem LT.then_ (R : RS F ι S B H) (E : ER F H ι S B env σ) {a : DT} {g : Bool → Store → Re U} (h : PoE F Wx σ ι S B H ((a env S).bind g) Q)
    {Q1 : Bool → Hp → Prop} (k : ∀ u S1 H1 ι1, Go ι S H ι1 S1 H1 → RS F ι1 S1 B H1 → ER F H1 ι1 S1 B env σ → PoE F Wx σ ι1 S1 B H1 (g u S1) Q → Q1 u H1) : LT F Wx a σ H Q1 := by
  refine ⟨env, S, ι, B, R, E, ?_⟩
  cases e : a env S with
  | ok u S1 =>
    rw [e] at h
    exact fun H1 ι1 G R1 => k u S1 H1 ι1 G R1 (E.go G) (h.go G)
  | ex c S1 => rw [e] at h; exact h
  | no => rw [e] at h; exact h
theorem LT.thenT (R : RS F ι S B H) (E : ER F H ι S B env σ) {a : DT} {g : Bool → Store → Re Bool} {Q : Bool → Hp → Prop} (h : PoT F Wx σ ι S B H ((a env S).bind g) Q)
    {Q1 : Bool → Hp → Prop} (k : ∀ u S1 H1 ι1, Go ι S H ι1 S1 H1 → RS F ι1 S1 B H1 → ER F H1 ι1 S1 B env σ → PoT F Wx σ ι1 S1 B H1 (g u S1) Q → Q1 u H1) : LT F Wx a σ H Q1 := by
  refine ⟨env, S, ι, B, R, E, ?_⟩
  cases e : a env S with
  | ok u S1 =>
    rw [e] at h
    exact fun H1 ι1 G R1 => k u S1 H1 ι1 G R1 (E.go G) (h.go G)
  | ex c S1 => rw [e] at h; exact h
  | no => rw [e] at h; exact h
theorem LA.then_ (R : RS F ι S B H) (E : ER F H ι S B env σ) {a : DA} {g : List U → Store → Re U} (h : PoE F Wx σ ι S B H ((a env S).bind g) Q)
    {Q1 : List V → Hp → Prop} (k : ∀ u S1 v H1 ι1, Go ι S H ι1 S1 H1 → RS F ι1 S1 B H1 → ER F H1 ι1 S1 B env σ → RUs F H1 ι1 S1 B u v → PoE F Wx σ ι1 S1 B H1 (g u S1) Q → Q1 v H1) : LA F Wx a σ H Q1 := by
  refine ⟨env, S, ι, B, R, E, ?_⟩
  cases e : a env S with
  | ok u S1 =>
    rw [e] at h
    exact fun v H1 ι1 G R1 r => k u S1 v H1 ι1 G R1 (E.go G) r (h.go G)
  | ex c S1 => rw [e] at h; exact h
  | no => rw [e] at h; exact h
theorem LA.thenA (R : RS F ι S B H) (E : ER F H ι S B env σ) {a : DA} {g : List U → Store → Re (List U)} {Q : List V → Hp → Prop} (h : PoA F Wx σ ι S B H ((a env S).bind g) Q)
    {Q1 : List V → Hp → Prop} (k : ∀ u S1 v H1 ι1, Go ι S H ι1 S1 H1 → RS F ι1 S1 B H1 → ER F H1 ι1 S1 B env σ → RUs F H1 ι1 S1 B u v → PoA F Wx σ ι1 S1 B H1 (g u S1) Q → Q1 v H1) : LA F Wx a σ H Q1 := by
  refine ⟨env, S, ι, B, R, E, ?_⟩
  cases e : a env S with
  | ok u S1 =>
    rw [e] at h
    exact fun v H1 ι1 G R1 r => k u S1 v H1 ι1 G R1 (E.go G) r (h.go G)
  | ex c S1 => rw [e] at h; exact h
  | no => rw [e] at h; exact h
end

/-! ### names, constants -/
section
variable {ec : Nat → Value} {X : Cx} {e a b : Expr} {pos : Pos} {da db : DE}
def dVar (i : Nat) : DE := fun e S => match e[i]? with
  | some (some u) => .ok u S
  | _ => .no
def dC (w : W) : DE := fun _ S => .ok (.v w) S
theorem ev_var {i : Nat} {x : Str} (hN : X.N[i]? = some x) (hv : Vis X.env.scope x) (hd : (x == ("__debug__" : Str)) = false := by decide) (hcd : (x == ("__classdict__" : Str)) = false := by decide) : PEv ec X (.Name x pos) (dVar i) := by
  refine ⟨fun pn xe Wx tk => (pe_var (X := X.tr pn xe) hN hv hd hcd).imp fun σ H Q h => ?_⟩
  obtain ⟨env, S, ι, B, R, E, h⟩ := h
  unfold dVar at h
  cases e : env[i]? with
  | none => simp [e] at h; exact h.elim
  | some o =>
    cases o with
    | none => simp [e] at h; exact h.elim
    | some u =>
      simp only [e] at h
      obtain ⟨v, h1, r⟩ := E.get i u e
      exact ⟨v, h1, h v H ι .refl R r⟩
theorem ev_const {v : V} {w : W} (h : ∀ pn xe, PE (X.tr pn xe) e (tC v)) (hr : ∀ H O, Rp (fx ec X) H O w v) : PEv ec X e (dC w) :=
  ⟨fun pn xe Wx tk => (h pn xe).imp fun σ H Q ⟨env, S, ι, B, R, E, q⟩ => q v H ι .refl R (hr _ _)⟩
theorem ev_int {i j} : PEv ec X (.Constant (.int i) j pos) (dC (.int i)) := ev_const (fun _ _ => pe_int) fun _ _ => .int i
theorem ev_bl {b j} : PEv ec X (.Constant (.bool b) j pos) (dC (.bl b)) := ev_const (fun _ _ => pe_bl) fun _ _ => .bl b
theorem ev_non {j} : PEv ec X (.Constant .none j pos) (dC .non) := ev_const (fun _ _ => pe_non) fun _ _ => .non
/-- a text, by its signs -/
structure Lit (x : Str) (l : List Nat) : Prop where
  eq : x = ⟨l.toArray⟩
  len : l.length ≤ sizeLine
  ok : l.all okCp = true
theorem ev_str {x : Str} {l : List Nat} {j} (h : Lit x l) : PEv ec X (.Constant (.str x) j pos) (dC (.str l)) := by
  obtain ⟨rfl, h1, h2⟩ := h
  exact ev_const (fun _ _ => pe_str) fun _ _ => .str l h1 h2
/-- a constant of the module -/
structure Kon (ec : Nat → Value) (X : Cx) (x : Str) (w : W) : Prop where
  ex : ∃ (v : V) (u : Value), X.mg x = some u ∧ RelV v u ∧ ∀ H O, Rp (fx ec X) H O w v
theorem ev_glob {x : Str} {w : W} (hg : Gl X x) (h : Kon ec X x w) (hd : (x == ("__debug__" : Str)) = false := by decide) : PEv ec X (.Name x pos) (dC w) := by
  obtain ⟨v, u, hm, r, hr⟩ := h.ex
  exact ev_const (fun pn xe => pe_glob (X := X.tr pn xe) hg hm r hd) hr

/-! ### operations on two values -/
def dBin (own : Bool) (f : W → W → Option Out) (a b : DE) : DE := fun e S => (a e S).bind fun u S1 => (b e S1).bind fun v S2 => match dr S2 u, dr S2 v with
  | some x, some y => putO own (f x y) S2
  | _, _ => .no
/-- r is asked no more than f tells -/
def OpW (F : Fx) (f : W → W → Option Out) (r : R2) : Prop := ∀ (H : Hp) (O : Addr → Prop) (x y : V) (w z : W) (o : Out) (Q : VK), RT F H O w x → RT F H O z y → f w z = some o → PuQ F H O o Q → r x y H Q
theorem bin_reads {own : Bool} {f : W → W → Option Out} {r : R2} {F : Fx} {Wx : WX} {σ : L2.St} {H : Hp} {Q : VK} (hf : OpW F f r) (h : LE F Wx (dBin own f da db) σ H Q) : tOp r (LE F Wx da) (LE F Wx db) σ H Q := by
  obtain ⟨env, S, ι, B, R, E, h⟩ := h
  refine LE.then_ R E h fun u S1 x H1 ι1 G1 R1 E1 ru h1 => ?_
  refine LE.then_ R1 E1 h1 fun v S2 y H2 ι2 G2 R2 E2 rv h2 => ?_
  have ru2 := RU.go G2 ru
  cases e1 : dr S2 u with
  | none => simp only [e1] at h2; exact h2.elim
  | some w =>
    cases e2 : dr S2 v with
    | none => simp only [e1, e2] at h2; exact h2.elim
    | some z =>
      simp only [e1, e2] at h2
      obtain ⟨o, he, q⟩ := putO_ok R2 h2
      exact hf H2 _ x y w z o Q (RU.rt R2 ru2 e1) (RU.rt R2 rv e2) he q
theorem ev_bin {own : Bool} {op : Operator} {f : W → W → Option Out} {r : R2} (ho : ∀ pn xe, OpR (X.tr pn xe) (binaryOp op) r) (hf : OpW (fx ec X) f r) (ha : PEv ec X a da) (hb : PEv ec X b db) : PEv ec X (.BinOp a op b pos) (dBin own f da db) :=
  ⟨fun pn xe Wx tk => (pe_op (ho pn xe) (ha.run pn xe Wx tk) (hb.run pn xe Wx tk)).imp fun σ H Q h => bin_reads hf h⟩
theorem ev_cmp {op : CmpOp} {f : W → W → Option Out} {r : R2} (ho : ∀ pn xe, OpR (X.tr pn xe) (compareOp op) r) (hf : OpW (fx ec X) f r) (ha : PEv ec X a da) (hb : PEv ec X b db) (hm : behindInMarks op b = false) : PEv ec X (.Compare a [op] [b] pos) (dBin false f da db) :=
  ⟨fun pn xe Wx tk => (pe_cmpR (ho pn xe) (ha.run pn xe Wx tk) (hb.run pn xe Wx tk) hm).imp fun σ H Q h => bin_reads hf h⟩

end
end Bel

/-! The engine, third part: what operations do with plain values. -/
namespace Bel
open PySem PySem.Spec PyProof.Rows L2

theorem sizeLine_is : (sizeLine : Nat) = 16777216 := sizeLine_eq
/-! ### plain data, compared -/
mutual
def toD : W → PyData
  | .non => .none
  | .bl b => .bool b
  | .int i => .int i
  | .str x => .str ⟨x.toArray⟩
  | .tup l => .tuple (toDs l)
  | .lst l => .list (toDs l)
  | .dct _ => .dict []
  | .exc _ => .dict []
  | .kdc _ => .dict []
def toDs : List W → List PyData
  | [] => []
  | x :: r => toD x :: toDs r
end
/-! data at most n deep -/
mutual
def shp : Nat → W → Bool
  | _, .non => true
  | _, .bl _ => true
  | _, .int _ => true
  | _, .str _ => true
  | 0, .tup _ => false
  | 0, .lst _ => false
  | n + 1, .tup l => shps n l
  | n + 1, .lst l => shps n l
  | _, .dct _ => false
  | _, .exc _ => false
  | _, .kdc _ => false
def shps : Nat → List W → Bool
  | _, [] => true
  | n, x :: r => shp n x && shps n r
end
section
variable {F : Fx} {H : Hp} {O : Addr → Prop}
mutual
theorem shp_depth : ∀ (n : Nat) (w : W), shp n w = true → (toD w).depth ≤ n
  | n, .non, _ => by simp [toD, PyData.depth]
  | n, .bl _, _ => by simp [toD, PyData.depth]
  | n, .int _, _ => by simp [toD, PyData.depth]
  | n, .str _, _ => by simp [toD, PyData.depth]
  | 0, .tup _, h => by simp [shp] at h
  | 0, .lst _, h => by simp [shp] at h
  | n + 1, .tup l, h => by
    have := shps_depth n l (by simpa [shp] using h)
    simp [toD, PyData.depth]
    omega
  | n + 1, .lst l, h => by
    have := shps_depth n l (by simpa [shp] using h)
    simp [toD, PyData.depth]
    omega
  | _, .dct _, h => by simp [shp] at h
  | _, .exc _, h => by simp [shp] at h
  | _, .kdc _, h => by simp [shp] at h
theorem shps_depth : ∀ (n : Nat) (l : List W), shps n l = true → PyData.depthAll (toDs l) ≤ n
  | n, [], _ => by simp [toDs, PyData.depthAll]
  | n, x :: r, h => by
    simp only [shps, Bool.and_eq_true] at h
    have h1 := shp_depth n x h.1
    have h2 := shps_depth n r h.2
    simp [toDs, PyData.depthAll]
    omega
end
theorem RpL.mem_ok {ws : List W} {vs : List V} (r : RpL F H O ws vs) : ∀ w ∈ ws, ∃ v, Rp F H O w v := fun w hw => by
  obtain ⟨i, hi, rfl⟩ := List.getElem_of_mem hw
  obtain ⟨v, _, q⟩ := r.get (i := i) (w := ws[i]) (by simp [hi])
  exact ⟨v, q⟩
mutual
theorem shp_lay : ∀ (n : Nat) (w : W) (v : V), shp n w = true → Rp F H O w v → (toD w).canLay0 = true
  | n, .non, _, _, _ => by simp [toD, PyData.canLay0]
  | n, .bl _, _, _, _ => by simp [toD, PyData.canLay0]
  | n, .int _, _, _, _ => by simp [toD, PyData.canLay0]
  | n, .str x, v, _, r => by
    cases r with
    | str _ h h2 =>
      simp only [toD, PyData.canLay0]
      unfold PySem.PyData.strOk
      simp only [List.all_toArray] 
      simpa [okCp] using h2
  | 0, .tup _, _, h, _ => by simp [shp] at h
  | 0, .lst _, _, h, _ => by simp [shp] at h
  | n + 1, .tup l, v, h, r => by
    obtain ⟨a, vs, _, _, q⟩ := r.tup_inv
    simp only [toD, PyData.canLay0]
    exact shps_lay n l vs (by simpa [shp] using h) q
  | n + 1, .lst l, v, h, r => by
    obtain ⟨a, vs, _, _, q⟩ := r.lst_inv
    simp only [toD, PyData.canLay0]
    exact shps_lay n l vs (by simpa [shp] using h) q
  | _, .dct _, _, h, _ => by simp [shp] at h
  | _, .exc _, _, h, _ => by simp [shp] at h
  | _, .kdc _, _, h, _ => by simp [shp] at h
theorem shps_lay : ∀ (n : Nat) (l : List W) (vs : List V), shps n l = true → RpL F H O l vs → PyData.canLayAll0 (toDs l) = true
  | n, [], _, _, _ => by simp [toDs, PyData.canLayAll0]
  | n, x :: r, vs, h, q => by
    simp only [shps, Bool.and_eq_true] at h
    obtain ⟨v, vs', rfl, q1, q2⟩ := q.cons_iff
    simp only [toDs, PyData.canLayAll0, Bool.and_eq_true]
    exact ⟨shp_lay n x v h.1 q1, shps_lay n r vs' h.2 q2⟩
end
mutual
theorem rp_dp : ∀ (n : Nat) (w : W) (v : V), shp n w = true → Rp F H O w v → Dp F.K H v (toD w)
  | n, .non, v, _, r => by cases r; simp only [toD]; exact .non
  | n, .bl _, v, _, r => by cases r; simp only [toD]; exact .bl _
  | n, .int _, v, _, r => by cases r; simp only [toD]; exact .int _
  | n, .str x, v, _, r => by cases r; simp only [toD]; exact .str _
  | 0, .tup _, _, h, _ => by simp [shp] at h
  | 0, .lst _, _, h, _ => by simp [shp] at h
  | n + 1, .tup l, v, h, r => by
    obtain ⟨a, vs, rfl, h1, q⟩ := r.tup_inv
    simp only [toD]
    exact .tup h1.sq (rps_dp n l vs (by simpa [shp] using h) q)
  | n + 1, .lst l, v, h, r => by
    obtain ⟨a, vs, rfl, h1, q⟩ := r.lst_inv
    simp only [toD]
    exact .lst h1.sq (rps_dp n l vs (by simpa [shp] using h) q)
  | _, .dct _, _, h, _ => by simp [shp] at h
  | _, .exc _, _, h, _ => by simp [shp] at h
  | _, .kdc _, _, h, _ => by simp [shp] at h
theorem rps_dp : ∀ (n : Nat) (l : List W) (vs : List V), shps n l = true → RpL F H O l vs → DpAll F.K H vs (toDs l)
  | n, [], vs, _, q => by rw [q.nil_iff]; simp only [toDs]; exact .nil
  | n, x :: r, vs, h, q => by
    simp only [shps, Bool.and_eq_true] at h
    obtain ⟨v, vs', rfl, q1, q2⟩ := q.cons_iff
    simp only [toDs]
    exact .cons (rp_dp n x v h.1 q1) (rps_dp n r vs' h.2 q2)
end
/-- .. of what is read just now -/
theorem rt_dp (n : Nat) {w : W} {v : V} (h : shp n w = true) (r : RT F H O w v) : Dp F.K H v (toD w) ∧ (toD w).canLay0 = true := by
  cases w with
  | lst ws =>
    obtain ⟨a, vs, rfl, h1, q⟩ := r
    cases n with
    | zero => simp [shp] at h
    | succ n =>
      have h' : shps n ws = true := by simpa [shp] using h
      simp only [toD, PyData.canLay0]
      exact ⟨.lst (.inl h1) (rps_dp n ws vs h' q), shps_lay n ws vs h' q⟩
  | dct ws => simp [shp] at h
  | _ => exact ⟨rp_dp n _ v h r, shp_lay n _ v h r⟩
theorem rt_shaped {w : W} {v : V} (h : shp 64 w = true) (r : RT F H O w v) : Dp F.K H v (toD w) ∧ SeqAt.shaped (toD w) = true := by
  obtain ⟨h1, h2⟩ := rt_dp 64 h r
  exact ⟨h1, by unfold SeqAt.shaped; simp [h2, shp_depth 64 w h]⟩
end

/-! ### the operations -/
def ltL (x y : List W) : Bool := decide (x.length + y.length ≤ 16777216)
def fAdd : W → W → Option Out
  | .int i, .int j => some (.val (.int (i + j)))
  | .str x, .str y => if x.length + y.length ≤ 16777216 then some (.val (.str (x ++ y))) else none
  | .lst x, .lst y => if x.length + y.length ≤ 16777216 then some (.nl (x ++ y)) else none
  | .tup x, .tup y => if x.length + y.length ≤ 16777216 then some (.nt (x ++ y)) else none
  | _, _ => none
def fSub : W → W → Option Out
  | .int i, .int j => some (.val (.int (i - j)))
  | _, _ => none
def fMul : W → W → Option Out
  | .int i, .int j => if (-(2 ^ 64) < i ∧ i < 2 ^ 64) ∨ (-(2 ^ 64) < j ∧ j < 2 ^ 64) then some (.val (.int (i * j))) else none
  | _, _ => none
def fDiv : W → W → Option Out
  | .int i, .int j => if 0 < j ∧ j < 1073741824 then some (.val (.int (i / j))) else none
  | _, _ => none
def fMod : W → W → Option Out
  | .int i, .int j => if 0 < j then some (.val (.int (i % j))) else none
  | _, _ => none
def fPow : W → W → Option Out
  | .int i, .int j => if 0 ≤ j ∧ j ≤ 1000000 ∧ i.natAbs < 2 ^ 64 then some (.val (.int (i ^ j.toNat))) else none
  | _, _ => none
def fCmp (p : Int → Int → Bool) : W → W → Option Out
  | .int i, .int j => some (.val (.bl (p i j)))
  | _, _ => none
def fEq (x y : W) : Option Out := if shp 64 x = true ∧ shp 64 y = true then some (.val (.bl (PyData.eqv (toD x) (toD y)))) else none
def fNe (x y : W) : Option Out := if shp 64 x = true ∧ shp 64 y = true then some (.val (.bl (!PyData.eqv (toD x) (toD y)))) else none
def isNon : W → Bool
  | .non => true
  | _ => false
def fIs (x : W) : W → Option Out
  | .non => some (.val (.bl (isNon x)))
  | .bl b => match x with
    | .bl a => some (.val (.bl (a == b)))
    | _ => none
  | _ => none
def fIsNot (x : W) : W → Option Out
  | .non => some (.val (.bl (!isNon x)))
  | .bl b => match x with
    | .bl a => some (.val (.bl (!(a == b))))
    | _ => none
  | _ => none
/-- which key, where it is one -/
def keyK : W → Option Key
  | .int i => some (.inl i)
  | .str x => some (.inr ⟨x.toArray⟩)
  | _ => none
def eqK : W → W → Bool
  | .int i, .int j => decide (i = j)
  | .str x, .str y => decide (x = y)
  | _, _ => false
def isKey : W → Bool
  | .int _ => true
  | .str _ => true
  | _ => false
def lookD (k : W) (l : List (W × W)) : Option W := (l.find? fun p => eqK p.1 k).map (·.2)
def isFlat : W → Bool
  | .non => true
  | .bl _ => true
  | .int _ => true
  | .str _ => true
  | _ => false
/-- == of plain data -/
def eqD (x y : W) : Bool := PyData.eqv (toD x) (toD y)
def fIn (x : W) : W → Option Bool
  | .str z => match x with
    | .str [c] => some (decide (c ∈ z))
    | _ => none
  | .lst l => if shp 64 x = true ∧ shps 63 l = true then some (l.any fun y => eqD y x) else none
  | .tup l => if isFlat x = true ∧ l.all isFlat = true then some (l.any fun y => eqD y x) else none
  | .dct l => if isKey x = true then some (lookD x l).isSome else none
  | .kdc l => match x with
    | .str k => some (l.lookup k).isSome
    | _ => none
  | _ => none
def fInO (x y : W) : Option Out := (fIn x y).map fun b => .val (.bl b)
def fNotInO (x y : W) : Option Out := (fIn x y).map fun b => .val (.bl (!b))
def atW {α : Type} (xs : List α) (i : Int) : Option α := (ixN xs.length i).bind fun j => xs[j]?
def fIx : W → W → Option Out
  | .lst l, .int i => (atW l i).map .val
  | .tup l, .int i => (atW l i).map .val
  | .str x, .int i => (atW x i).map fun c => .val (.str [c])
  | .dct l, k => if isKey k = true then (lookD k l).map .val else none
  | .kdc l, .str k => (l.lookup k).map .val
  | _, _ => none
/-- xs[lo:hi] -/
def cutL {α : Type} (xs : List α) (lo hi : Option Int) : List α := (xs.drop (HT.sIx xs.length 0 lo)).take (HT.sIx xs.length xs.length hi - HT.sIx xs.length 0 lo)
def fSl (w : W) (lo hi : Option Int) : Option Out := match w with
  | .lst l => some (.nl (cutL l lo hi))
  | .tup l => some (.nt (cutL l lo hi))
  | .str x => some (.val (.str (cutL x lo hi)))
  | _ => none
end Bel

/-! The engine, fourth part: each operation asks no more than it tells. -/
namespace Bel
open PySem PySem.Spec PyProof.Rows L2
section
variable {F : Fx} {H : Hp} {O : Addr → Prop}
theorem some_inj {α : Type} {a b : α} (h : some a = some b) : a = b := Option.some.inj h
/-- two lists that are read -/
theorem op_catS {X : Cx} : OpR X (binaryOp .Add) (fun x y H Q => ∃ l b xs zs, x = .ref l ∧ y = .ref b ∧ Rd H l (.lst xs) ∧ Rd H b (.lst zs) ∧ xs.length + zs.length ≤ sizeLine ∧ ∀ p, H p = none → Q (.ref p) (upd H p (.lst (xs ++ zs)))) := by
  intro pins s σ H x y v u Q I rx ry h
  obtain ⟨l, b, xs, zs, rfl, rfl, hH, hB, hz, q⟩ := h
  cases rx
  cases ry
  obtain ⟨z, its, n, r, e⟩ := hH.ok I.hok
  obtain ⟨z2, its2, n2, r2, e2⟩ := hB.ok I.hok
  have hl := r.length
  have hl2 := r2.length
  refine PySem.P.add_list e e2 ?_ (by rw [List.size_toArray, List.size_toArray]; omega)
  have ea : its.toArray ++ its2.toArray = (its ++ its2).toArray := by simp
  rw [ea]
  exact ⟨.ref _, _, I.lnew (t' := s.toks) (r.append r2) (by rw [List.length_append]; omega), rfl, q _ I.fresh⟩
def rAddW (K : PySem.W.Frag) : R2 := fun x y H Q => (rI0 fun i j => .int (i + j)) x y H Q ∨ (∃ i j, x = .str i ∧ y = .str j ∧ i.length + j.length ≤ sizeLine ∧ Q (.str (i ++ j)) H) ∨
  (∃ l b xs zs, x = .ref l ∧ y = .ref b ∧ Rd H l (.lst xs) ∧ Rd H b (.lst zs) ∧ xs.length + zs.length ≤ sizeLine ∧ ∀ p, H p = none → Q (.ref p) (upd H p (.lst (xs ++ zs)))) ∨ rCatA K x y H Q
theorem op_addW {X : Cx} : OpR X (binaryOp .Add) (rAddW X.K) := op_add.or (op_add_str.or (op_catS.or op_catA))
theorem str_app (x y : List Nat) : (⟨x.toArray⟩ : Str) ++ (⟨y.toArray⟩ : Str) = ⟨(x ++ y).toArray⟩ := by
  show Str.append _ _ = _
  unfold Str.append
  simp
theorem str_len (x : List Nat) : Str.length ⟨x.toArray⟩ = x.length := by simp [Str.length]
theorem Rp.str_inv {x : List Nat} {v : V} (r : Rp F H O (.str x) v) : v = .str ⟨x.toArray⟩ ∧ x.length ≤ sizeLine ∧ x.all okCp = true := by
  cases r with
  | str _ h h2 => exact ⟨rfl, h, h2⟩
theorem Rp.int_inv {i : Int} {v : V} (r : Rp F H O (.int i) v) : v = .int i := by cases r; rfl
theorem Rp.bl_inv {i : Bool} {v : V} (r : Rp F H O (.bl i) v) : v = .bl i := by cases r; rfl
theorem Rp.non_inv {v : V} (r : Rp F H O .non v) : v = .non := by cases r; rfl
theorem all_ok_append {x y : List Nat} (h : x.all okCp = true) (h' : y.all okCp = true) : (x ++ y).all okCp = true := by simp_all
theorem ow_add : OpW F fAdd (rAddW F.K) := by
  intro H O x y w z o Q rx ry e q
  cases w with
  | int i =>
    cases z with
    | int j =>
      obtain rfl := Rp.int_inv rx
      obtain rfl := Rp.int_inv ry
      cases some_inj e
      exact .inl ⟨i, j, rfl, rfl, q _ (.int _)⟩
    | _ => cases e
  | str i =>
    cases z with
    | str j =>
      obtain ⟨rfl, h1, h2⟩ := Rp.str_inv rx
      obtain ⟨rfl, h3, h4⟩ := Rp.str_inv ry
      simp only [fAdd] at e
      split at e
      · rename_i hl
        cases some_inj e
        have hl' : i.length + j.length ≤ sizeLine := by rw [sizeLine_is]; exact hl
        refine .inr (.inl ⟨_, _, rfl, rfl, by rw [str_len, str_len]; exact hl', ?_⟩)
        rw [str_app]
        exact q _ (.str _ (by simpa using hl') (all_ok_append h2 h4))
      · cases e
    | _ => cases e
  | lst i =>
    cases z with
    | lst j =>
      obtain ⟨a, vs, rfl, h1, q1⟩ := rx
      obtain ⟨b, ws, rfl, h2, q2⟩ := ry
      simp only [fAdd] at e
      split at e
      · rename_i hl
        cases some_inj e
        exact .inr (.inr (.inl ⟨a, b, vs, ws, rfl, rfl, h1, h2, by rw [← q1.1, ← q2.1, sizeLine_is]; exact hl, fun p hp => q p _ hp (q1.append q2)⟩))
      · cases e
    | _ => cases e
  | tup i =>
    cases z with
    | tup j =>
      obtain ⟨a, vs, rfl, h1, q1⟩ := Rp.tup_inv rx
      obtain ⟨b, ws, rfl, h2, q2⟩ := Rp.tup_inv ry
      simp only [fAdd] at e
      split at e
      · rename_i hl
        cases some_inj e
        refine .inr (.inr (.inr ⟨a, b, vs, ws, rfl, rfl, h1.sq, h2.sq, by rw [← q1.1, ← q2.1, sizeLine_is]; exact hl, fun e1 => ?_, fun _ e1 => ?_, fun _ _ p hp => q.2 p _ hp (q1.append q2)⟩))
        · subst e1
          have : i = [] := by have := q1.1; simpa using this
          subst this
          exact q.1 _ (.mkTup h2 q2)
        · subst e1
          have : j = [] := by have := q2.1; simpa using this
          subst this
          refine q.1 _ ?_
          rw [List.append_nil]
          exact .mkTup h1 q1
      · cases e
    | _ => cases e
  | _ => cases e
/-- two ints -/
theorem ow_int {C : Int → Int → Prop} {g : Int → Int → V} {f : W → W → Option Out} (h : ∀ w z o, f w z = some o → ∃ i j u, w = .int i ∧ z = .int j ∧ C i j ∧ o = .val u ∧ ∀ H O, Rp F H O u (g i j)) : OpW F f (rI C g) := by
  intro H O x y w z o Q rx ry e q
  obtain ⟨i, j, u, rfl, rfl, c, rfl, hu⟩ := h w z o e
  obtain rfl := Rp.int_inv rx
  obtain rfl := Rp.int_inv ry
  exact ⟨i, j, rfl, rfl, c, q _ (hu H O)⟩
theorem ow_int0 {g : Int → Int → V} {f : W → W → Option Out} (h : ∀ w z o, f w z = some o → ∃ i j u, w = .int i ∧ z = .int j ∧ o = .val u ∧ ∀ H O, Rp F H O u (g i j)) : OpW F f (rI0 g) := by
  intro H O x y w z o Q rx ry e q
  obtain ⟨i, j, u, rfl, rfl, rfl, hu⟩ := h w z o e
  obtain rfl := Rp.int_inv rx
  obtain rfl := Rp.int_inv ry
  exact ⟨i, j, rfl, rfl, q _ (hu H O)⟩
theorem ow_sub : OpW F fSub (rI0 fun i j => .int (i - j)) := ow_int0 fun w z o e => by
  cases w <;> cases z <;> try cases e
  exact ⟨_, _, _, rfl, rfl, rfl, fun _ _ => .int _⟩
theorem ow_mul : OpW F fMul (rI CMul fun i j => .int (i * j)) := ow_int fun w z o e => by
  cases w <;> cases z <;> try cases e
  simp only [fMul] at e
  split at e
  · rename_i hc
    cases some_inj e
    exact ⟨_, _, _, rfl, rfl, hc, rfl, fun _ _ => .int _⟩
  · cases e
theorem ow_div : OpW F fDiv (rI CDiv fun i j => .int (i / j)) := ow_int fun w z o e => by
  cases w <;> cases z <;> try cases e
  simp only [fDiv] at e
  split at e
  · rename_i hc
    cases some_inj e
    exact ⟨_, _, _, rfl, rfl, hc, rfl, fun _ _ => .int _⟩
  · cases e
theorem ow_mod : OpW F fMod (rI (fun _ j => 0 < j) fun i j => .int (i % j)) := ow_int fun w z o e => by
  cases w <;> cases z <;> try cases e
  simp only [fMod] at e
  split at e
  · rename_i hc
    cases some_inj e
    exact ⟨_, _, _, rfl, rfl, hc, rfl, fun _ _ => .int _⟩
  · cases e
theorem ow_pow : OpW F fPow (rI CPow fun i j => .int (i ^ j.toNat)) := ow_int fun w z o e => by
  cases w <;> cases z <;> try cases e
  simp only [fPow] at e
  split at e
  · rename_i hc
    cases some_inj e
    exact ⟨_, _, _, rfl, rfl, hc, rfl, fun _ _ => .int _⟩
  · cases e
theorem ow_cmp (p : Int → Int → Bool) : OpW F (fCmp p) (rI0 fun i j => .bl (p i j)) := ow_int0 fun w z o e => by
  cases w <;> cases z <;> try cases e
  exact ⟨_, _, _, rfl, rfl, rfl, fun _ _ => .bl _⟩
theorem ow_eq : OpW F fEq (rEqD F.K) := by
  intro H O x y w z o Q rx ry e q
  unfold fEq at e
  split at e
  · rename_i hc
    cases some_inj e
    obtain ⟨h1, h2⟩ := rt_shaped hc.1 rx
    obtain ⟨h3, h4⟩ := rt_shaped hc.2 ry
    exact ⟨_, _, h1, h3, h2, h4, q _ (.bl _)⟩
  · cases e
theorem ow_ne : OpW F fNe (rNeD F.K) := by
  intro H O x y w z o Q rx ry e q
  unfold fNe at e
  split at e
  · rename_i hc
    cases some_inj e
    obtain ⟨h1, h2⟩ := rt_shaped hc.1 rx
    obtain ⟨h3, h4⟩ := rt_shaped hc.2 ry
    exact ⟨_, _, h1, h3, h2, h4, q _ (.bl _)⟩
  · cases e
theorem isNon_v {w : W} {v : V} (r : RT F H O w v) : isNon w = decide (v = .non) := by
  cases w with
  | non => rw [Rp.non_inv r]; rfl
  | bl b => rw [Rp.bl_inv r]; rfl
  | int b => rw [Rp.int_inv r]; rfl
  | str b => rw [(Rp.str_inv r).1]; rfl
  | tup b => obtain ⟨a, _, rfl, _⟩ := Rp.tup_inv r; rfl
  | lst b => obtain ⟨a, _, rfl, _⟩ := r; rfl
  | dct b => obtain ⟨a, _, rfl, _⟩ := r; rfl
  | exc b => cases r; rfl
  | kdc b => cases r; rfl
def rIsW : R2 := fun x y H Q => (y = .non ∧ Q (.bl (decide (x = .non))) H) ∨ rIsB x y H Q
def rIsNotW : R2 := fun x y H Q => (y = .non ∧ Q (.bl (!decide (x = .non))) H) ∨ rNotB x y H Q
theorem op_isW {X : Cx} : OpR X (compareOp .Is) rIsW := op_isN.or op_isBl
theorem op_isNotW {X : Cx} : OpR X (compareOp .IsNot) rIsNotW := op_notN.or op_notBl
theorem ow_is : OpW F fIs rIsW := by
  intro H O x y w z o Q rx ry e q
  cases z with
  | non =>
    cases some_inj e
    obtain rfl := Rp.non_inv ry
    refine .inl ⟨rfl, ?_⟩
    rw [← isNon_v rx]
    exact q _ (.bl _)
  | bl b =>
    cases w with
    | bl a =>
      cases some_inj e
      obtain rfl := Rp.bl_inv rx
      obtain rfl := Rp.bl_inv ry
      refine .inr ⟨a, b, rfl, rfl, ?_⟩
      have : decide (a = b) = (a == b) := by cases a <;> cases b <;> rfl
      rw [this]
      exact q _ (.bl _)
    | _ => cases e
  | _ => cases e
theorem ow_isNot : OpW F fIsNot rIsNotW := by
  intro H O x y w z o Q rx ry e q
  cases z with
  | non =>
    cases some_inj e
    obtain rfl := Rp.non_inv ry
    refine .inl ⟨rfl, ?_⟩
    rw [← isNon_v rx]
    exact q _ (.bl _)
  | bl b =>
    cases w with
    | bl a =>
      cases some_inj e
      obtain rfl := Rp.bl_inv rx
      obtain rfl := Rp.bl_inv ry
      refine .inr ⟨a, b, rfl, rfl, ?_⟩
      have : decide (a = b) = (a == b) := by cases a <;> cases b <;> rfl
      rw [this]
      exact q _ (.bl _)
    | _ => cases e
  | _ => cases e
end
end Bel

/-! The engine, fifth part: in, items, slices. -/
namespace Bel
open PySem PySem.Spec PyProof.Rows L2
section
variable {F : Fx} {H : Hp} {O : Addr → Prop}

/-! ### in -/
theorem eqv_flat {w z : W} {x y : V} (hw : isFlat w = true) (hz : isFlat z = true) (r : Rp F H O w x) (q : Rp F H O z y) : eqV x y = eqD w z := by
  unfold eqD
  cases r <;> cases q <;> first | rfl | (simp [isFlat] at hw; done) | (simp [isFlat] at hz; done)
theorem flat_v {w : W} {x : V} (hw : isFlat w = true) (r : Rp F H O w x) : flatV x = true := by
  cases r <;> first | rfl | (simp [isFlat] at hw; done)
theorem flat_all {ws : List W} {vs : List V} (r : RpL F H O ws vs) (h : ws.all isFlat = true) : vs.all flatV = true := by
  induction ws generalizing vs with
  | nil => rw [r.nil_iff]; rfl
  | cons w ws ih =>
    obtain ⟨v, vs', rfl, h1, r'⟩ := r.cons_iff
    rw [List.all_cons, Bool.and_eq_true] at h ⊢
    exact ⟨flat_v h.1 h1, ih r' h.2⟩
theorem any_flat {ws : List W} {vs : List V} {z : W} {y : V} (r : RpL F H O ws vs) (h : ws.all isFlat = true) (hz : isFlat z = true) (q : Rp F H O z y) : inV y vs = ws.any fun w => eqD w z := by
  unfold inV
  induction ws generalizing vs with
  | nil => rw [r.nil_iff]; rfl
  | cons w ws ih =>
    obtain ⟨v, vs', rfl, h1, r'⟩ := r.cons_iff
    rw [List.all_cons, Bool.and_eq_true] at h
    rw [List.any_cons, List.any_cons, ih r' h.2, eqv_flat h.1 hz h1 q]
theorem toDs_map (l : List W) : toDs l = l.map toD := by
  induction l with
  | nil => simp [toDs]
  | cons x r ih => simp [toDs, ih]
theorem any_toD (l : List W) (d : PyData) : ((toDs l).any fun z => PyData.eqv z d) = l.any fun y => PyData.eqv (toD y) d := by
  rw [toDs_map, List.any_map]
  rfl
theorem isKey_k {k : W} {v : V} (h : isKey k = true) (r : Rp F H O k v) : ∃ κ, keyK k = some κ ∧ v = kV κ := by
  cases k with
  | int i => rw [Rp.int_inv r]; exact ⟨.inl i, rfl, rfl⟩
  | str x => rw [(Rp.str_inv r).1]; exact ⟨.inr _, rfl, rfl⟩
  | _ => simp [isKey] at h
theorem key_of_rp {k : W} {κ : Key} (r : Rp F H O k (kV κ)) : keyK k = some κ := by
  cases κ with
  | inl i =>
    have r' : Rp F H O k (.int i) := r
    cases r'
    rfl
  | inr x =>
    have r' : Rp F H O k (.str x) := r
    cases r'
    rfl
theorem eqK_iff {k l : W} {κ κ' : Key} (h : keyK k = some κ) (h' : keyK l = some κ') : eqK k l = decide (κ = κ') := by
  cases k with
  | int i =>
    cases l with
    | int j =>
      have e1 : Sum.inl i = κ := some_inj h
      have e2 : Sum.inl j = κ' := some_inj h'
      subst e1 e2
      simp [eqK]
    | str j =>
      have e1 : Sum.inl i = κ := some_inj h
      have e2 : Sum.inr _ = κ' := some_inj h'
      subst e1 e2
      simp [eqK]
    | _ => simp [keyK] at h'
  | str i =>
    cases l with
    | int j =>
      have e1 : Sum.inr _ = κ := some_inj h
      have e2 : Sum.inl j = κ' := some_inj h'
      subst e1 e2
      simp [eqK]
    | str j =>
      have e1 : Sum.inr _ = κ := some_inj h
      have e2 : Sum.inr _ = κ' := some_inj h'
      subst e1 e2
      simp [eqK]
    | _ => simp [keyK] at h'
  | _ => simp [keyK] at h
theorem RpD.nil_iff {kvs : List (Key × V)} (r : RpD F H O [] kvs) : kvs = [] := by
  have := r.1
  cases kvs with
  | nil => rfl
  | cons _ _ => simp at this
theorem RpD.cons_iff {w : W × W} {ws : List (W × W)} {kvs : List (Key × V)} (r : RpD F H O (w :: ws) kvs) : ∃ κ v kvs', kvs = (κ, v) :: kvs' ∧ Rp F H O w.1 (kV κ) ∧ Rp F H O w.2 v ∧ RpD F H O ws kvs' := by
  cases kvs with
  | nil => have := r.1; simp at this
  | cons p kvs' =>
    exact ⟨p.1, p.2, kvs', rfl, r.2.1 0 w p rfl rfl, r.2.2 0 w p rfl rfl, by have := r.1; simpa using this, fun i x y hx hy => r.2.1 (i + 1) x y (by simpa using hx) (by simpa using hy), fun i x y hx hy => r.2.2 (i + 1) x y (by simpa using hx) (by simpa using hy)⟩
theorem RpD.nil : RpD F H O [] [] := ⟨rfl, fun i w v h => by simp at h, fun i w v h => by simp at h⟩
theorem RpD.cons {w : W × W} {ws : List (W × W)} {κ : Key} {v : V} {kvs : List (Key × V)} (h : Rp F H O w.1 (kV κ)) (h2 : Rp F H O w.2 v) (r : RpD F H O ws kvs) : RpD F H O (w :: ws) ((κ, v) :: kvs) := by
  refine ⟨by simp [r.1], fun i x y hx hy => ?_, fun i x y hx hy => ?_⟩
  · cases i with
    | zero => simp at hx hy; subst hx hy; exact h
    | succ i => simp at hx hy; exact r.2.1 i x y hx hy
  · cases i with
    | zero => simp at hx hy; subst hx hy; exact h2
    | succ i => simp at hx hy; exact r.2.2 i x y hx hy
/-- a look into a dict -/
theorem look_rp {ws : List (W × W)} {kvs : List (Key × V)} (r : RpD F H O ws kvs) {k : W} {κ : Key} (hk : keyK k = some κ) :
    (lookD k ws = none ∧ valV kvs κ = none) ∨ ∃ w v, lookD k ws = some w ∧ valV kvs κ = some v ∧ Rp F H O w v := by
  induction ws generalizing kvs with
  | nil => rw [r.nil_iff]; exact .inl ⟨rfl, rfl⟩
  | cons p ws ih =>
    obtain ⟨κ', v, kvs', rfl, h1, h2, r'⟩ := r.cons_iff
    have e := eqK_iff (key_of_rp h1) hk
    by_cases hc : κ' = κ
    · right
      refine ⟨p.2, v, ?_, valV_pos hc, h2⟩
      unfold lookD
      rw [List.find?_cons]
      simp [e, hc]
    · have e1 : lookD k (p :: ws) = lookD k ws := by
        unfold lookD
        rw [List.find?_cons]
        simp [e, hc]
      rw [e1, valV_neg hc]
      exact ih r'
def rInW (F : Fx) (neg : Bool) : R2 := fun x y H Q => (∃ (c : Nat) (z : Str), x = .str ⟨#[c]⟩ ∧ y = .str z ∧ Q (.bl (if neg then !decide (c ∈ z.cps.toList) else decide (c ∈ z.cps.toList))) H) ∨
  (∃ d ds, Dp F.K H x d ∧ Dp F.K H y (.list ds) ∧ SeqAt.shaped d = true ∧ SeqAt.shaped (.list ds) = true ∧ Q (.bl (if neg then !ds.any (fun z => PyData.eqv z d) else ds.any fun z => PyData.eqv z d)) H) ∨
  rIn F.K neg x y H Q ∨ (∃ a o, y = .ref a ∧ DGet H a x o ∧ Q (.bl (if neg then !o.isSome else o.isSome)) H) ∨ (∃ d es n z r, KDict F.K F.w d es n ∧ x = .str z ∧ y = .ref d ∧ PySem.W.nsIn F.K d z = some r ∧ Q (.bl (if neg then !r.isSome else r.isSome)) H)
theorem op_din {X : Cx} (hu : X.A.units + 1 < cLine) : OpR X (compareOp .In) (fun x y H Q => ∃ a o, y = .ref a ∧ DGet H a x o ∧ Q (.bl o.isSome) H) := by
  intro pins s σ H x y v u Q I rx ry h
  obtain ⟨a, o, rfl, g, q⟩ := h
  cases ry
  exact d_in hu I g rx fun s' I' => ⟨.bl _, H, I', rfl, q⟩
theorem op_dnotin {X : Cx} (hu : X.A.units + 1 < cLine) : OpR X (compareOp .NotIn) (fun x y H Q => ∃ a o, y = .ref a ∧ DGet H a x o ∧ Q (.bl (!o.isSome)) H) := by
  intro pins s σ H x y v u Q I rx ry h
  obtain ⟨a, o, rfl, g, q⟩ := h
  cases ry
  exact d_notIn hu I g rx fun s' I' => ⟨.bl _, H, I', rfl, q⟩
theorem op_kin {X : Cx} : OpR X (compareOp .In) (fun x y H Q => ∃ d es n z r, KDict X.K X.w d es n ∧ x = .str z ∧ y = .ref d ∧ PySem.W.nsIn X.K d z = some r ∧ Q (.bl r.isSome) H) := by
  intro pins s σ H x y v u Q I rx ry h
  obtain ⟨d, es, n, z, r, D, rfl, rfl, e, q⟩ := h
  exact op_in_kd D pins s σ H _ _ v u Q I rx ry ⟨z, r, rfl, rfl, e, q⟩
theorem op_knotin {X : Cx} : OpR X (compareOp .NotIn) (fun x y H Q => ∃ d es n z r, KDict X.K X.w d es n ∧ x = .str z ∧ y = .ref d ∧ PySem.W.nsIn X.K d z = some r ∧ Q (.bl (!r.isSome)) H) := by
  intro pins s σ H x y v u Q I rx ry h
  obtain ⟨d, es, n, z, r, D, rfl, rfl, e, q⟩ := h
  exact op_notIn_kd D pins s σ H _ _ v u Q I rx ry ⟨z, r, rfl, rfl, e, q⟩
theorem op_inW {ec : Nat → Value} {X : Cx} (hu : X.A.units + 65 < cLine) : OpR X (compareOp .In) (rInW (fx ec X) false) := op_in_sign.or ((op_inD hu).or (op_in_seq.or ((op_din (by omega)).or op_kin)))
theorem op_notInW {ec : Nat → Value} {X : Cx} (hu : X.A.units + 65 < cLine) : OpR X (compareOp .NotIn) (rInW (fx ec X) true) := op_notIn_sign.or ((op_notInD hu).or (op_notIn_seq.or ((op_dnotin (by omega)).or op_knotin)))
theorem dget_rd {a : Addr} {kvs : List (Key × V)} {κ : Key} (h : Rd H a (.dK kvs)) : DGet H a (kV κ) (valV kvs κ) := .inl ⟨kvs, κ, h, rfl, rfl⟩
/-- a look into a written dict -/
theorem kdc_look {l : List (List Nat × W)} {v : V} (h : Rp F H O (.kdc l) v) (k : List Nat) : ∃ a kvs, v = .ref a ∧ KDc F a kvs ∧ ∃ r, PySem.W.nsIn F.K a ⟨k.toArray⟩ = some r ∧ r.isSome = (l.lookup k).isSome ∧ ∀ w, l.lookup k = some w → ∃ v' u, r = some u ∧ RelV v' u ∧ Rp F H O w v' := by
  cases h with
  | @kdc a kvs _ h hl hk hs =>
    refine ⟨a, kvs, rfl, h, ?_⟩
    have key : (l.lookup k = none ∧ kvs.lookup ⟨k.toArray⟩ = none) ∨ ∃ w v', l.lookup k = some w ∧ kvs.lookup ⟨k.toArray⟩ = some v' ∧ Rp F H O w v' := by
      clear h
      induction l generalizing kvs with
      | nil =>
        cases kvs with
        | nil => exact .inl ⟨rfl, rfl⟩
        | cons _ _ => simp at hl
      | cons p l ih =>
        cases kvs with
        | nil => simp at hl
        | cons q kvs =>
          have e1 := hk 0 p q rfl rfl
          have e2 := hs 0 p q rfl rfl
          have ih' := ih (kvs := kvs) (by simpa using hl) (fun i x y hx hy => hk (i + 1) x y (by simpa using hx) (by simpa using hy)) (fun i x y hx hy => hs (i + 1) x y (by simpa using hx) (by simpa using hy))
          obtain ⟨p1, p2⟩ := p
          obtain ⟨q1, q2⟩ := q
          simp only at e1 e2
          subst e1
          by_cases hc : k = p1
          · subst hc
            exact .inr ⟨p2, q2, by simp [List.lookup], by simp [List.lookup], e2⟩
          · have b1 : (k == p1) = false := beq_eq_false_iff_ne.mpr hc
            have b2 : ((⟨k.toArray⟩ : Str) == (⟨p1.toArray⟩ : Str)) = false := beq_eq_false_iff_ne.mpr fun z => hc (by simpa using z)
            simp only [List.lookup, b1, b2]
            exact ih'
    have h4 := h.2 ⟨k.toArray⟩
    rcases key with ⟨e1, e2⟩ | ⟨w, v', e1, e2, r⟩
    · rw [e2] at h4
      exact ⟨none, h4, by rw [e1]; rfl, fun w hw => by rw [e1] at hw; cases hw⟩
    · rw [e2] at h4
      obtain ⟨u, hu, ru⟩ := h4
      exact ⟨some u, hu, by rw [e1]; rfl, fun w' hw => by rw [e1] at hw; cases hw; exact ⟨v', u, rfl, ru, r⟩⟩
theorem in_core {neg : Bool} {w z : W} {x y : V} {b : Bool} {Q : VK} (rx : RT F H O w x) (ry : RT F H O z y) (e : fIn w z = some b) (q : Q (.bl (if neg then !b else b)) H) : rInW F neg x y H Q := by
  cases z with
  | str t =>
    simp only [fIn] at e
    split at e
    · rename_i c
      cases some_inj e
      obtain ⟨rfl, _⟩ := Rp.str_inv rx
      obtain ⟨rfl, _⟩ := Rp.str_inv ry
      exact .inl ⟨c, _, rfl, rfl, q⟩
    · cases e
  | lst l =>
    simp only [fIn] at e
    split at e
    · rename_i hc
      cases some_inj e
      have hs : shp 64 (.lst l) = true := by simpa [shp] using hc.2
      obtain ⟨h1, h2⟩ := rt_shaped hc.1 rx
      obtain ⟨h3, h4⟩ := rt_shaped hs ry
      simp only [toD] at h3 h4
      refine .inr (.inl ⟨_, _, h1, h3, h2, h4, ?_⟩)
      rw [any_toD]
      exact q
    · cases e
  | tup l =>
    simp only [fIn] at e
    split at e
    · rename_i hc
      cases some_inj e
      obtain ⟨a, vs, rfl, h1, q1⟩ := Rp.tup_inv ry
      have rx' : Rp F H O w x := by
        cases w <;> first | exact rx | (simp [isFlat] at hc; done)
      refine .inr (.inr (.inl ⟨a, vs, rfl, .inr h1.sq, flat_v hc.1 rx', flat_all q1 hc.2, ?_⟩))
      rw [any_flat q1 hc.2 hc.1 rx']
      exact q
    · cases e
  | dct l =>
    simp only [fIn] at e
    split at e
    · rename_i hc
      cases some_inj e
      obtain ⟨a, kvs, rfl, h1, q1⟩ := ry
      have rx' : Rp F H O w x := by
        cases w <;> first | exact rx | (simp [isKey] at hc; done)
      obtain ⟨κ, hk, rfl⟩ := isKey_k hc rx'
      refine .inr (.inr (.inr (.inl ⟨a, _, rfl, dget_rd h1, ?_⟩)))
      rcases look_rp q1 hk with ⟨e1, e2⟩ | ⟨w', v', e1, e2, _⟩
      · rw [e2]; rw [e1] at q; exact q
      · rw [e2]; rw [e1] at q; exact q
    · cases e
  | kdc l =>
    simp only [fIn] at e
    split at e
    · rename_i k
      cases some_inj e
      obtain ⟨rfl, _⟩ := Rp.str_inv rx
      obtain ⟨a, kvs, rfl, ⟨⟨es, n, h1, h2, h3⟩, h4⟩, r, hr⟩ := kdc_look ry k
      refine .inr (.inr (.inr (.inr ⟨a, es, n, _, r, ⟨h1, h2, h3⟩, rfl, rfl, hr.1, ?_⟩)))
      rw [hr.2.1]
      exact q
    · cases e
  | _ => cases e
theorem ow_in : OpW F fInO (rInW F false) := by
  intro H O x y w z o Q rx ry e q
  unfold fInO at e
  obtain ⟨b, hb, rfl⟩ := Option.map_eq_some_iff.mp e
  exact in_core rx ry hb (q _ (.bl _))
theorem ow_notIn : OpW F fNotInO (rInW F true) := by
  intro H O x y w z o Q rx ry e q
  unfold fNotInO at e
  obtain ⟨b, hb, rfl⟩ := Option.map_eq_some_iff.mp e
  exact in_core rx ry hb (q _ (.bl _))

/-! ### items -/
def rIxW (F : Fx) : R2 := fun x y H Q => rIx F.K x y H Q ∨ (∃ a v, x = .ref a ∧ DGet H a y (some v) ∧ Q v H) ∨ rIxD F.K F.w x y H Q
theorem ix_dget {X : Cx} (hu : X.A.units + 1 < cLine) : IxR X (fun x y H Q => ∃ a v, x = .ref a ∧ DGet H a y (some v) ∧ Q v H) := by
  intro value slice pins s σ H x y v u Q I rx ry h hs
  obtain ⟨a, z, rfl, g, q⟩ := h
  cases rx
  exact tail_any (dict_typeIs I g) slot_dict_getitem.lookup (d_getItem hu I g ry fun w' s' I' r' => ⟨z, H, I', r', q⟩) hs
theorem ix_W {ec : Nat → Value} {X : Cx} (hu : X.A.units + 1 < cLine) : IxR X (rIxW (fx ec X)) := ix_seq.or ((ix_dget hu).or ix_kdict)
theorem atI_rp {ws : List W} {vs : List V} (r : RpL F H O ws vs) {i : Int} {w : W} (h : atW ws i = some w) : ∃ v, atI vs i = some v ∧ Rp F H O w v := by
  unfold atW at h
  unfold atI
  rw [← r.1]
  cases e : ixN ws.length i with
  | none => rw [e] at h; cases h
  | some j =>
    rw [e] at h
    exact r.get h
theorem one_sign {x : List Nat} {i : Int} {c : Nat} (h : x.all okCp = true) (e : atW x i = some c) : [c].all okCp = true := by
  unfold atW at e
  cases e1 : ixN x.length i with
  | none => rw [e1] at e; cases e
  | some j =>
    rw [e1] at e
    have : c ∈ x := List.mem_of_getElem? e
    have := List.all_eq_true.mp h c this
    simp [this]
theorem one_line {c : Nat} : [c].length ≤ sizeLine := by rw [sizeLine_is]; simp
theorem ow_ix : OpW F fIx (rIxW F) := by
  intro H O x y w z o Q rx ry e q
  cases w with
  | lst l =>
    cases z with
    | int i =>
      obtain ⟨a, vs, rfl, h1, q1⟩ := rx
      obtain rfl := Rp.int_inv ry
      obtain ⟨w', e', rfl⟩ := Option.map_eq_some_iff.mp e
      obtain ⟨v, hv, r⟩ := atI_rp q1 e'
      exact .inl (.inl ⟨a, vs, i, v, rfl, rfl, .inl h1, hv, q _ r⟩)
    | _ => cases e
  | tup l =>
    cases z with
    | int i =>
      obtain ⟨a, vs, rfl, h1, q1⟩ := Rp.tup_inv rx
      obtain rfl := Rp.int_inv ry
      obtain ⟨w', e', rfl⟩ := Option.map_eq_some_iff.mp e
      obtain ⟨v, hv, r⟩ := atI_rp q1 e'
      exact .inl (.inr (.inl ⟨a, vs, i, v, rfl, rfl, h1.sq, hv, q _ r⟩))
    | _ => cases e
  | str l =>
    cases z with
    | int i =>
      obtain ⟨rfl, h1, h2⟩ := Rp.str_inv rx
      obtain rfl := Rp.int_inv ry
      obtain ⟨c, e', rfl⟩ := Option.map_eq_some_iff.mp e
      refine .inl (.inr (.inr ⟨_, i, c, rfl, rfl, by rw [str_len]; exact h1, ?_, q _ (.str [c] one_line (one_sign h2 e'))⟩))
      show atI l i = some c
      exact e'
    | _ => cases e
  | dct l =>
    have e' : (if isKey z = true then (lookD z l).map Out.val else none) = some o := e
    split at e'
    · rename_i hc
      obtain ⟨a, kvs, rfl, h1, q1⟩ := rx
      have ry' : Rp F H O z y := by
        cases z <;> first | exact ry | (simp [isKey] at hc; done)
      obtain ⟨κ, hk, rfl⟩ := isKey_k hc ry'
      obtain ⟨w', e'', rfl⟩ := Option.map_eq_some_iff.mp e'
      rcases look_rp q1 hk with ⟨e1, e2⟩ | ⟨w'', v', e1, e2, r⟩
      · rw [e1] at e''; cases e''
      · rw [e1] at e''; cases e''
        exact .inr (.inl ⟨a, v', rfl, by rw [← e2]; exact dget_rd h1, q _ r⟩)
    · cases e'
  | kdc l =>
    cases z with
    | str k =>
      obtain ⟨rfl, _⟩ := Rp.str_inv ry
      obtain ⟨a, kvs, rfl, ⟨⟨es, n, h1, h2, h3⟩, h4⟩, r, hr⟩ := kdc_look rx k
      obtain ⟨w', e'', rfl⟩ := Option.map_eq_some_iff.mp e
      obtain ⟨v', u, rfl, ru, rr⟩ := hr.2.2 w' e''
      exact .inr (.inr ⟨a, _, v', rfl, rfl, ⟨es, n, u, h1, h2, hr.1, ru⟩, q _ rr⟩)
    | _ => cases e
  | _ => cases e

/-! ### slices -/
def rSlW (K : PySem.W.Frag) : V → Option Int → Option Int → Hp → VK → Prop := fun x lo hi H Q => rSlL K x lo hi H Q ∨ rSlA K x lo hi H Q ∨ rSlS x lo hi H Q
theorem sl_W {X : Cx} : SlR X (rSlW X.K) := sl_list.or (sl_tupA.or sl_str)
theorem cut_rp {ws : List W} {vs : List V} (r : RpL F H O ws vs) (lo hi : Option Int) : RpL F H O (cutL ws lo hi) (cutV vs lo hi) := by
  unfold cutL cutV
  rw [r.1]
  exact (r.drop _).take _
theorem cut_len {α : Type} (xs : List α) (lo hi : Option Int) : (cutL xs lo hi).length ≤ xs.length := by
  unfold cutL
  rw [List.length_take, List.length_drop]
  omega
theorem cut_all {x : List Nat} (lo hi : Option Int) (h : x.all okCp = true) : (cutL x lo hi).all okCp = true := by
  rw [List.all_eq_true] at h ⊢
  intro c hc
  unfold cutL at hc
  exact h c (List.mem_of_mem_drop (List.mem_of_mem_take hc))
theorem cutS_is (x : List Nat) (lo hi : Option Int) : cutS ⟨x.toArray⟩ lo hi = ⟨(cutL x lo hi).toArray⟩ := by
  unfold cutS cutL
  rw [str_len]
theorem cut_whole {α : Type} {xs : List α} {lo hi : Option Int} (h : HT.sIx xs.length 0 lo = 0 ∧ HT.sIx xs.length xs.length hi = xs.length) : cutL xs lo hi = xs := by
  unfold cutL
  rw [h.1, h.2]
  simp
theorem sl_core {w : W} {x : V} {lo hi : Option Int} {o : Out} {Q : VK} (rx : RT F H O w x) (e : fSl w lo hi = some o) (q : PuQ F H O o Q) : rSlW F.K x lo hi H Q := by
  cases w with
  | lst l =>
    cases some_inj e
    obtain ⟨a, vs, rfl, h1, q1⟩ := rx
    exact .inl ⟨a, vs, rfl, .inl h1, fun p hp => q p _ hp (cut_rp q1 lo hi)⟩
  | tup l =>
    cases some_inj e
    obtain ⟨a, vs, rfl, h1, q1⟩ := Rp.tup_inv rx
    refine .inr (.inl ⟨a, vs, rfl, h1.sq, fun hw => q.1 _ ?_, fun _ p hp => q.2 p _ hp (cut_rp q1 lo hi)⟩)
    rw [← q1.1] at hw
    rw [cut_whole hw]
    exact .mkTup h1 q1
  | str l =>
    cases some_inj e
    obtain ⟨rfl, h1, h2⟩ := Rp.str_inv rx
    refine .inr (.inr ⟨_, rfl, by rw [str_len]; exact h1, ?_⟩)
    rw [cutS_is]
    exact q _ (.str _ (Nat.le_trans (cut_len l lo hi) h1) (cut_all lo hi h2))
  | _ => cases e
end
end Bel

/-! The engine, sixth part: expressions. -/
namespace Bel
open PySem PySem.Spec PyProof.Rows L2
section
variable {ec : Nat → Value} {X : Cx} {e a b c o : Expr} {es rest : List Expr} {pos : Pos} {da db dc dd : DE} {ta tb tc : DT} {das : DA}

/-! ### tests -/
def dT (d : DE) : DT := fun e S => (d e S).bind fun u S1 => match u with
  | .v (.bl k) => .ok k S1
  | _ => .no
section
variable {F : Fx} {Wx : WX} {σ : L2.St} {H : Hp}
theorem dT_reads {Q : Bool → Hp → Prop} (h : LT F Wx (dT da) σ H Q) : LE F Wx da σ H fun x H' => ∃ k, x = .bl k ∧ Q k H' := by
  obtain ⟨env, S, ι, B, R, E, h⟩ := h
  refine LE.thenT R E h fun u S1 v H1 ι1 G1 R1 E1 ru h1 => ?_
  cases u with
  | v w =>
    cases w with
    | bl k => exact ⟨k, Rp.bl_inv ru, h1 H1 ι1 .refl R1⟩
    | _ => exact h1.elim
  | o n => exact h1.elim
end
theorem tv_val (h : PEv ec X e da) (he : ∀ whole, isTrue e X.env whole = (do let v ← whole; standAt e.pos; holding [v] (truthy v)) := by intro _; rfl) : PTv ec X e (dT da) :=
  ⟨fun pn xe Wx tk => (pt_val (h.run pn xe Wx tk) he).imp fun σ H Q h => dT_reads h⟩
theorem tv_cmp {op : CmpOp} {f : W → W → Option Out} {r : R2} (ho : ∀ pn xe, OpR (X.tr pn xe) (compareOp op) r) (hf : OpW (fx ec X) f r) (ha : PEv ec X a da) (hb : PEv ec X b db) (hm : behindInMarks op b = false) : PTv ec X (.Compare a [op] [b] pos) (dT (dBin false f da db)) :=
  ⟨fun pn xe Wx tk => (pt_cmpR (ho pn xe) (ha.run pn xe Wx tk) (hb.run pn xe Wx tk) hm).imp fun σ H Q h => by
    have := dT_reads h
    exact bin_reads hf this⟩
/-- a op b op' c -/
def dChain (f g : W → W → Option Out) (a b c : DE) : DE := fun e S => (a e S).bind fun u S1 => (b e S1).bind fun v S2 => match dr S2 u, dr S2 v with
  | some x, some y => match f x y with
    | some (.val (.bl true)) => (c e S2).bind fun w S3 => match dr S3 v, dr S3 w with
      | some y', some z => putO false (g y' z) S3
      | _, _ => .no
    | some (.val (.bl false)) => .ok (.v (.bl false)) S2
    | _ => .no
  | _, _ => .no
theorem chain_reads {F : Fx} {Wx : WX} {σ : L2.St} {H : Hp} {f g : W → W → Option Out} {r r' : R2} {Q : VK} (hf : OpW F f r) (hg : OpW F g r') (h : LE F Wx (dChain f g da db dc) σ H Q) : tChain r r' (LE F Wx da) (LE F Wx db) (LE F Wx dc) σ H Q := by
  obtain ⟨env, S, ι, B, R, E, h⟩ := h
  refine LE.then_ R E h fun u S1 x H1 ι1 G1 R1 E1 ru h1 => ?_
  refine LE.then_ R1 E1 h1 fun v S2 y H2 ι2 G2 R2 E2 rv h2 => ?_
  have ru2 := RU.go G2 ru
  cases e1 : dr S2 u with
  | none => simp only [e1] at h2; exact h2.elim
  | some w =>
    cases e2 : dr S2 v with
    | none => simp only [e1, e2] at h2; exact h2.elim
    | some z =>
      simp only [e1, e2] at h2
      cases e3 : f w z with
      | none => simp only [e3] at h2; exact h2.elim
      | some q =>
        refine hf H2 _ x y w z q _ (RU.rt R2 ru2 e1) (RU.rt R2 rv e2) e3 ?_
        cases q with
        | val t =>
          cases t with
          | bl k =>
            intro v' rv'
            obtain rfl := Rp.bl_inv rv'
            refine ⟨k, rfl, ?_⟩
            cases k with
            | true =>
              rw [if_pos rfl]
              simp only [e3] at h2
              refine LE.then_ R2 E2 h2 fun w3 S3 z3 H3 ι3 G3 R3 E3 rw3 h3 => ?_
              have rv3 := RU.go G3 rv
              cases e4 : dr S3 v with
              | none => simp only [e4] at h3; exact h3.elim
              | some y' =>
                cases e5 : dr S3 w3 with
                | none => simp only [e4, e5] at h3; exact h3.elim
                | some z' =>
                  simp only [e4, e5] at h3
                  obtain ⟨o', he', q'⟩ := putO_ok R3 h3
                  exact hg H3 _ y z3 y' z' o' Q (RU.rt R3 rv3 e4) (RU.rt R3 rw3 e5) he' q'
            | false =>
              rw [if_neg Bool.false_ne_true]
              simp only [e3] at h2
              exact h2 _ H2 ι2 .refl R2 (.bl false)
          | _ => simp only [e3] at h2; exact h2.elim
        | _ => simp only [e3] at h2; exact h2.elim
theorem ev_chain {op op' : CmpOp} {f g : W → W → Option Out} {r r' : R2} (ho : ∀ pn xe, OpR (X.tr pn xe) (compareOp op) r) (ho' : ∀ pn xe, OpR (X.tr pn xe) (compareOp op') r') (hf : OpW (fx ec X) f r) (hg : OpW (fx ec X) g r')
    (ha : PEv ec X a da) (hb : PEv ec X b db) (hc : PEv ec X c dc) (hm : lastMarks [op, op'] [b, c] = false := by with_unfolding_all rfl) : PEv ec X (.Compare a [op, op'] [b, c] pos) (dChain f g da db dc) :=
  ⟨fun pn xe Wx tk => (pe_chain (ho pn xe) (ho' pn xe) (ha.run pn xe Wx tk) (hb.run pn xe Wx tk) (hc.run pn xe Wx tk) hm).imp fun σ H Q h => chain_reads hf hg h⟩
theorem tv_chain {op op' : CmpOp} {f g : W → W → Option Out} {r r' : R2} (ho : ∀ pn xe, OpR (X.tr pn xe) (compareOp op) r) (ho' : ∀ pn xe, OpR (X.tr pn xe) (compareOp op') r') (hf : OpW (fx ec X) f r) (hg : OpW (fx ec X) g r')
    (ha : PEv ec X a da) (hb : PEv ec X b db) (hc : PEv ec X c dc) (hm : lastMarks [op, op'] [b, c] = false := by with_unfolding_all rfl) : PTv ec X (.Compare a [op, op'] [b, c] pos) (dT (dChain f g da db dc)) :=
  ⟨fun pn xe Wx tk => (pt_chain (ho pn xe) (ho' pn xe) (ha.run pn xe Wx tk) (hb.run pn xe Wx tk) (hc.run pn xe Wx tk) hm).imp fun σ H Q h => chain_reads hf hg (dT_reads h)⟩

/-! ### and, or, not -/
def dAnd (a b : DT) : DT := fun e S => (a e S).bind fun k S1 => if k = true then b e S1 else .ok false S1
def dOr (a b : DT) : DT := fun e S => (a e S).bind fun k S1 => if k = true then .ok true S1 else b e S1
def dNot (a : DT) : DT := fun e S => (a e S).bind fun k S1 => .ok (!k) S1
theorem tw_and1 (ha : PTv ec X a ta) : PWv ec X (.BoolOp .And [a] pos) ta := ⟨fun pn xe Wx tk => pw_and1 (ha.run pn xe Wx tk)⟩
theorem tw_or1 (ha : PTv ec X a ta) : PWv ec X (.BoolOp .Or [a] pos) ta := ⟨fun pn xe Wx tk => pw_or1 (ha.run pn xe Wx tk)⟩
theorem tw_and (ha : PTv ec X a ta) (hb : PWv ec X (.BoolOp .And (b :: rest) pos) tb) : PWv ec X (.BoolOp .And (a :: b :: rest) pos) (dAnd ta tb) :=
  ⟨fun pn xe Wx tk => (pw_and (ha.run pn xe Wx tk) (hb.run pn xe Wx tk)).imp fun σ H Q ⟨env, S, ι, B, R, E, h⟩ => LT.thenT R E h fun k S1 H1 ι1 G1 R1 E1 h1 => by
    cases k with
    | true => rw [if_pos rfl] at h1 ⊢; exact ⟨env, S1, ι1, B, R1, E1, h1⟩
    | false => rw [if_neg Bool.false_ne_true] at h1 ⊢; exact h1 H1 ι1 .refl R1⟩
theorem tw_or (ha : PTv ec X a ta) (hb : PWv ec X (.BoolOp .Or (b :: rest) pos) tb) : PWv ec X (.BoolOp .Or (a :: b :: rest) pos) (dOr ta tb) :=
  ⟨fun pn xe Wx tk => (pw_or (ha.run pn xe Wx tk) (hb.run pn xe Wx tk)).imp fun σ H Q ⟨env, S, ι, B, R, E, h⟩ => LT.thenT R E h fun k S1 H1 ι1 G1 R1 E1 h1 => by
    cases k with
    | true => rw [if_pos rfl] at h1 ⊢; exact h1 H1 ι1 .refl R1
    | false => rw [if_neg Bool.false_ne_true] at h1 ⊢; exact ⟨env, S1, ι1, B, R1, E1, h1⟩⟩
theorem tv_w (h : PWv ec X e ta) : PTv ec X e ta := ⟨fun pn xe Wx tk => (h.run pn xe Wx tk).pt⟩
theorem tv_not (ha : PTv ec X a ta) : PTv ec X (.UnaryOp .Not a pos) (dNot ta) :=
  ⟨fun pn xe Wx tk => (pt_not (ha.run pn xe Wx tk)).imp fun σ H Q ⟨env, S, ι, B, R, E, h⟩ => LT.thenT R E h fun k S1 H1 ι1 G1 R1 E1 h1 => h1 H1 ι1 .refl R1⟩
/-- .. as values -/
def dAndV (a b : DE) : DE := fun e S => (a e S).bind fun u S1 => match u with
  | .v (.bl k) => if k = true then b e S1 else .ok (.v (.bl false)) S1
  | _ => .no
def dOrV (a b : DE) : DE := fun e S => (a e S).bind fun u S1 => match u with
  | .v (.bl k) => if k = true then .ok (.v (.bl true)) S1 else b e S1
  | _ => .no
def dNotV (a : DE) : DE := fun e S => (a e S).bind fun u S1 => match u with
  | .v (.bl k) => .ok (.v (.bl (!k))) S1
  | _ => .no
theorem ev_one {op} (h : PEv ec X a da) : PEv ec X (.BoolOp op [a] pos) da := ⟨fun pn xe Wx tk => pe_one (h.run pn xe Wx tk)⟩
theorem ev_and (ha : PEv ec X a da) (hb : PEv ec X (.BoolOp .And (b :: rest) pos) db) : PEv ec X (.BoolOp .And (a :: b :: rest) pos) (dAndV da db) :=
  ⟨fun pn xe Wx tk => (pe_and (ha.run pn xe Wx tk) (hb.run pn xe Wx tk)).imp fun σ H Q ⟨env, S, ι, B, R, E, h⟩ => LE.then_ R E h fun u S1 v H1 ι1 G1 R1 E1 ru h1 => by
    cases u with
    | v w =>
      cases w with
      | bl k =>
        refine ⟨k, Rp.bl_inv ru, ?_⟩
        cases k with
        | true => exact ⟨env, S1, ι1, B, R1, E1, h1⟩
        | false => exact h1 _ H1 ι1 .refl R1 (.bl false)
      | _ => exact h1.elim
    | o n => exact h1.elim⟩
theorem ev_or (ha : PEv ec X a da) (hb : PEv ec X (.BoolOp .Or (b :: rest) pos) db) : PEv ec X (.BoolOp .Or (a :: b :: rest) pos) (dOrV da db) :=
  ⟨fun pn xe Wx tk => (pe_or (ha.run pn xe Wx tk) (hb.run pn xe Wx tk)).imp fun σ H Q ⟨env, S, ι, B, R, E, h⟩ => LE.then_ R E h fun u S1 v H1 ι1 G1 R1 E1 ru h1 => by
    cases u with
    | v w =>
      cases w with
      | bl k =>
        refine ⟨k, Rp.bl_inv ru, ?_⟩
        cases k with
        | true => exact h1 _ H1 ι1 .refl R1 (.bl true)
        | false => exact ⟨env, S1, ι1, B, R1, E1, h1⟩
      | _ => exact h1.elim
    | o n => exact h1.elim⟩
theorem ev_not (ha : PEv ec X a da) : PEv ec X (.UnaryOp .Not a pos) (dNotV da) :=
  ⟨fun pn xe Wx tk => (pe_not (ha.run pn xe Wx tk)).imp fun σ H Q ⟨env, S, ι, B, R, E, h⟩ => LE.then_ R E h fun u S1 v H1 ι1 G1 R1 E1 ru h1 => by
    cases u with
    | v w =>
      cases w with
      | bl k => exact ⟨k, Rp.bl_inv ru, h1 _ H1 ι1 .refl R1 (.bl _)⟩
      | _ => exact h1.elim
    | o n => exact h1.elim⟩
def dIf (c : DT) (a b : DE) : DE := fun e S => (c e S).bind fun k S1 => if k = true then a e S1 else b e S1
theorem ev_if (hc : PTv ec X c tc) (ha : PEv ec X a da) (hb : PEv ec X b db) : PEv ec X (.IfExp c a b pos) (dIf tc da db) :=
  ⟨fun pn xe Wx tk => (pe_ifExp (hc.run pn xe Wx tk) (ha.run pn xe Wx tk) (hb.run pn xe Wx tk)).imp fun σ H Q ⟨env, S, ι, B, R, E, h⟩ => LT.then_ R E h fun k S1 H1 ι1 G1 R1 E1 h1 => by
    cases k with
    | true => exact ⟨env, S1, ι1, B, R1, E1, h1⟩
    | false => exact ⟨env, S1, ι1, B, R1, E1, h1⟩⟩
/-- -a -/
def dNeg (a : DE) : DE := fun e S => (a e S).bind fun u S1 => match u with
  | .v (.int i) => .ok (.v (.int (-i))) S1
  | _ => .no
theorem ev_neg (ha : PEv ec X a da) : PEv ec X (.UnaryOp .USub a pos) (dNeg da) :=
  ⟨fun pn xe Wx tk => (pe_un un_neg (ha.run pn xe Wx tk)).imp fun σ H Q ⟨env, S, ι, B, R, E, h⟩ => LE.then_ R E h fun u S1 v H1 ι1 G1 R1 E1 ru h1 => by
    cases u with
    | v w =>
      cases w with
      | int k => exact ⟨k, Rp.int_inv ru, h1 _ H1 ι1 .refl R1 (.int _)⟩
      | _ => exact h1.elim
    | o n => exact h1.elim⟩

/-! ### arguments, displays -/
def dNil : DA := fun _ S => .ok [] S
def dCons (a : DE) (r : DA) : DA := fun e S => (a e S).bind fun u S1 => (r e S1).bind fun us S2 => .ok (u :: us) S2
theorem av_nil : PAv ec X [] dNil := ⟨fun pn xe Wx tk => pa_nil.imp fun σ H Q ⟨env, S, ι, B, R, E, h⟩ => h [] H ι .refl R .nil⟩
theorem av_cons (ha : PEv ec X e da) (hr : PAv ec X es das) (hs : starEach (e :: es) X.env = (false, eval e X.env) :: starEach es X.env := by rfl) : PAv ec X (e :: es) (dCons da das) :=
  ⟨fun pn xe Wx tk => (pa_cons (ha.run pn xe Wx tk) (hr.run pn xe Wx tk) hs).imp fun σ H Q ⟨env, S, ι, B, R, E, h⟩ => LE.thenA R E h fun u S1 v H1 ι1 G1 R1 E1 ru h1 => LA.thenA R1 E1 h1 fun us S2 vs H2 ι2 G2 R2 E2 rus h2 =>
    h2 _ H2 ι2 .refl R2 (.cons (RU.go G2 ru) rus)⟩
/-- plain values all -/
def allV : List U → Option (List W)
  | [] => some []
  | .v w :: r => (allV r).map (w :: ·)
  | .o _ :: _ => none
theorem allV_rp {F : Fx} {H : Hp} {ι : List Addr} {S : Store} {B : Addr → Prop} : ∀ {us : List U} {vs : List V} {ws : List W}, RUs F H ι S B us vs → allV us = some ws → RpL F H (Oq ι S B) ws vs
  | _, _, _, .nil, h => by cases some_inj h; exact .nil
  | .v w :: us, _, ws, .cons r t, h => by
    obtain ⟨ws', h', rfl⟩ := Option.map_eq_some_iff.mp h
    exact .cons r (allV_rp t h')
  | .o _ :: _, _, _, .cons _ _, h => by cases h
def fDisp (mk : List W → Out) (us : List U) : Option Out := match allV us with
  | some ws => if ws.length ≤ 16777216 then some (mk ws) else none
  | none => none
def dDisp (own : Bool) (mk : List W → Out) (a : DA) : DE := fun e S => (a e S).bind fun us S1 => putO own (fDisp mk us) S1
theorem fDisp_inv {F : Fx} {H : Hp} {ι : List Addr} {S : Store} {B : Addr → Prop} {mk : List W → Out} {us : List U} {vs : List V} {o : Out} (h : fDisp mk us = some o) (r : RUs F H ι S B us vs) : ∃ ws, o = mk ws ∧ RpL F H (Oq ι S B) ws vs ∧ vs.length ≤ sizeLine := by
  unfold fDisp at h
  cases e : allV us with
  | none => rw [e] at h; cases h
  | some ws =>
    rw [e] at h
    simp only at h
    split at h
    · rename_i hl
      cases some_inj h
      have q := allV_rp r e
      exact ⟨ws, rfl, q, by rw [← q.1, sizeLine_is]; exact hl⟩
    · cases h
theorem ev_tup {k} (h : PAv ec X es das) : PEv ec X (.Tuple es k pos) (dDisp false .nt das) :=
  ⟨fun pn xe Wx tk => (pe_tup (h.run pn xe Wx tk)).imp fun σ H Q ⟨env, S, ι, B, R, E, h⟩ => LA.then_ R E h fun us S1 vs H1 ι1 G1 R1 E1 rus h1 => by
    obtain ⟨o, e, q⟩ := putO_ok R1 h1
    obtain ⟨ws, rfl, r, hl⟩ := fDisp_inv e rus
    exact ⟨hl, fun p hp => q.2 p vs hp r⟩⟩
theorem ev_lst {own : Bool} (h : PAv ec X es das) : PEv ec X (.List es pos) (dDisp own .nl das) :=
  ⟨fun pn xe Wx tk => (pe_lst (h.run pn xe Wx tk)).imp fun σ H Q ⟨env, S, ι, B, R, E, h⟩ => LA.then_ R E h fun us S1 vs H1 ι1 G1 R1 E1 rus h1 => by
    obtain ⟨o, e, q⟩ := putO_ok R1 h1
    obtain ⟨ws, rfl, r, hl⟩ := fDisp_inv e rus
    exact ⟨hl, fun p hp => q p vs hp r⟩⟩
theorem ev_dnew {own : Bool} : PEv ec X (.Dict [] [] pos) (fun _ S => (Out.nd []).put own S) :=
  ⟨fun pn xe Wx tk => pe_dnewK.imp fun σ H Q ⟨env, S, ι, B, R, E, h⟩ p hp => put_ok R h p [] hp .nil⟩

/-! ### items, slices -/
theorem ev_ix (hu : X.A.units + 65 < cLine) (ha : PEv ec X a da) (hb : PEv ec X b db) (hs : PlainIx b := by exact fun _ _ => rfl) : PEv ec X (.Subscript a b pos) (dBin false fIx da db) :=
  ⟨fun pn xe Wx tk => (pe_ix (ix_W (ec := ec) (X := X.tr pn xe) (by show X.A.units + 1 < cLine; omega)) (ha.run pn xe Wx tk) (hb.run pn xe Wx tk) hs).imp fun σ H Q h => bin_reads ow_ix h⟩
/-- a part of a slice -/
abbrev DO := Env' → Store → Re (Option Int)
def dNoPart : DO := fun _ S => .ok none S
def dPart (d : DE) : DO := fun e S => (d e S).bind fun u S1 => match u with
  | .v (.int i) => .ok (some i) S1
  | _ => .no
def PoO (F : Fx) (Wx : WX) (σ : L2.St) (ι : List Addr) (S : Store) (B : Addr → Prop) (H : Hp) (r : Re (Option Int)) (Q : Option Int → Hp → Prop) : Prop := match r with
  | .ok b S' => ∀ H' ι', Go ι S H ι' S' H' → RS F ι' S' B H' → Q b H'
  | .ex c S' => ∀ H' ι', Go ι S H ι' S' H' → RS F ι' S' B H' → Wx (F.ec c) none σ H'
  | .no => False
def LO (F : Fx) (Wx : WX) (d : DO) : TO := fun σ H Q => ∃ (env : Env') (S : Store) (ι : List Addr) (B : Addr → Prop), RS F ι S B H ∧ ER F H ι S B env σ ∧ PoO F Wx σ ι S B H (d env S) Q
theorem _root_.L2.PO.imp {e : Option Expr} {t t' : TO} (h : PO X e t) (hh : ∀ σ H Q, t' σ H Q → t σ H Q) : PO X e t' := ⟨fun pins s σ H Q I q => h.run pins s σ H Q I (hh σ H Q q)⟩
structure POv (ec : Nat → Value) (X : Cx) (e : Option Expr) (d : DO) : Prop where
  run : ∀ (pn : List (Addr × Obj)) (xe : Value → Shared → Prop) (Wx : WX), Takes (X.tr pn xe) Wx → PO (X.tr pn xe) e (LO (fx ec X) Wx d)
theorem ov_none : POv ec X none dNoPart := ⟨fun pn xe Wx tk => po_none.imp fun σ H Q ⟨env, S, ι, B, R, E, h⟩ => h H ι .refl R⟩
theorem ov_some (h : PEv ec X e da) : POv ec X (some e) (dPart da) :=
  ⟨fun pn xe Wx tk => (po_some (h.run pn xe Wx tk)).imp fun σ H Q ⟨env, S, ι, B, R, E, h⟩ => by
    refine ⟨env, S, ι, B, R, E, ?_⟩
    unfold dPart at h
    cases ee : da env S with
    | ok u S1 =>
      rw [ee] at h
      intro v H1 ι1 G1 R1 r1
      cases u with
      | v w =>
        cases w with
        | int i => exact ⟨i, Rp.int_inv r1, h H1 ι1 G1 R1⟩
        | _ => exact h.elim
      | o n => exact h.elim
    | ex c S1 => rw [ee] at h; exact h
    | no => rw [ee] at h; exact h⟩
def dSl (own : Bool) (a : DE) (lo hi : DO) : DE := fun e S => (a e S).bind fun u S1 => (lo e S1).bind fun l S2 => (hi e S2).bind fun h S3 => match dr S3 u with
  | some w => putO own (fSl w l h) S3
  | none => .no
theorem LO.then_ {F : Fx} {Wx : WX} {σ : L2.St} {H : Hp} {ι : List Addr} {S : Store} {B : Addr → Prop} {env : Env'} {Q : VK} (R : RS F ι S B H) (E : ER F H ι S B env σ) {a : DO} {g : Option Int → Store → Re U} (h : PoE F Wx σ ι S B H ((a env S).bind g) Q)
    {Q1 : Option Int → Hp → Prop} (k : ∀ u S1 H1 ι1, Go ι S H ι1 S1 H1 → RS F ι1 S1 B H1 → ER F H1 ι1 S1 B env σ → PoE F Wx σ ι1 S1 B H1 (g u S1) Q → Q1 u H1) : LO F Wx a σ H Q1 := by
  refine ⟨env, S, ι, B, R, E, ?_⟩
  cases e : a env S with
  | ok u S1 =>
    rw [e] at h
    exact fun H1 ι1 G R1 => k u S1 H1 ι1 G R1 (E.go G) (h.go G)
  | ex c S1 => rw [e] at h; exact h
  | no => rw [e] at h; exact h
theorem ev_sl {own : Bool} {lo hi : Option Expr} {dl dh : DO} {p2 : Pos} (ha : PEv ec X a da) (hl : POv ec X lo dl) (hh : POv ec X hi dh) : PEv ec X (.Subscript a (.Slice lo hi none p2) pos) (dSl own da dl dh) :=
  ⟨fun pn xe Wx tk => (pe_slice sl_W (ha.run pn xe Wx tk) (hl.run pn xe Wx tk) (hh.run pn xe Wx tk)).imp fun σ H Q ⟨env, S, ι, B, R, E, h⟩ => LE.then_ R E h fun u S1 x H1 ι1 G1 R1 E1 ru h1 =>
    LO.then_ R1 E1 h1 fun l S2 H2 ι2 G2 R2 E2 h2 => LO.then_ R2 E2 h2 fun u' S3 H3 ι3 G3 R3 E3 h3 => by
      have ru3 := RU.go G3 (RU.go G2 ru)
      cases ee : dr S3 u with
      | none => simp only [ee] at h3; exact h3.elim
      | some w =>
        simp only [ee] at h3
        obtain ⟨o, he, q⟩ := putO_ok R3 h3
        exact sl_core (RU.rt R3 ru3 ee) he q⟩

/-! ### calls of what is built in -/
def drs (S : Store) : List U → Option (List W)
  | [] => some []
  | u :: r => match dr S u, drs S r with
    | some w, some ws => some (w :: ws)
    | _, _ => none
abbrev RTs (F : Fx) (H : Hp) (O : Addr → Prop) : List W → List V → Prop := Paired (RT F H O)
theorem drs_rt {F : Fx} {H : Hp} {ι : List Addr} {S : Store} {B : Addr → Prop} (R : RS F ι S B H) : ∀ {us : List U} {vs : List V} {ws : List W}, RUs F H ι S B us vs → drs S us = some ws → RTs F H (Oq ι S B) ws vs
  | _, _, _, .nil, h => by cases some_inj h; exact .nil
  | u :: us, _, ws, .cons r t, h => by
    unfold drs at h
    cases e : dr S u with
    | none => simp [e] at h
    | some w =>
      cases e2 : drs S us with
      | none => simp [e, e2] at h
      | some ws' =>
        simp [e, e2] at h
        subst h
        exact .cons (RU.rt R r e) (drs_rt R t e2)
def OpC (F : Fx) (f : List W → Option Out) (r : List V → Hp → VK → Prop) : Prop := ∀ (H : Hp) (O : Addr → Prop) (xs : List V) (ws : List W) (o : Out) (Q : VK), RTs F H O ws xs → f ws = some o → PuQ F H O o Q → r xs H Q
def dCall (own : Bool) (f : List W → Option Out) (a : DA) : DE := fun e S => (a e S).bind fun us S1 => match drs S1 us with
  | some ws => putO own (f ws) S1
  | none => .no
theorem call_reads {own : Bool} {F : Fx} {Wx : WX} {σ : L2.St} {H : Hp} {f : List W → Option Out} {r : List V → Hp → VK → Prop} {Q : VK} (hf : OpC F f r) (h : LE F Wx (dCall own f das) σ H Q) : tCB r (LA F Wx das) σ H Q := by
  obtain ⟨env, S, ι, B, R, E, h⟩ := h
  refine LA.then_ R E h fun us S1 xs H1 ι1 G1 R1 E1 ru h1 => ?_
  cases e1 : drs S1 us with
  | none => simp only [e1] at h1; exact h1.elim
  | some ws =>
    simp only [e1] at h1
    obtain ⟨o, he, q⟩ := putO_ok R1 h1
    exact hf H1 _ xs ws o Q (drs_rt R1 ru e1) he q
theorem ev_callB {own : Bool} {id : String} {x : Str} {f : List W → Option Out} {r : List V → Hp → VK → Prop} {p : Pos} (hc : ∀ pn xe, CallR (X.tr pn xe) (.builtin id) r) (hf : OpC (fx ec X) f r) (hg : Gl X x) (hm : X.mg x = none) (hv : bootBuiltins x = some (.builtin id)) (ha : PAv ec X (e :: es) das)
    (hn : x ≠ "__name__" := by decide) (hdb : (x == ("__debug__" : Str)) = false := by decide) (he : starEach (e :: es) X.env = (false, eval e X.env) :: starEach es X.env := by rfl) (hpl : (backTo pos (starEach es X.env)).any (·.1) = false := by rfl) : PEv ec X (.Call (.Name x p) (e :: es) [] pos) (dCall own f das) :=
  ⟨fun pn xe Wx tk => (pe_callB (X := X.tr pn xe) (hc pn xe) hg hm hv (ha.run pn xe Wx tk) hn hdb he hpl).imp fun σ H Q h => call_reads hf h⟩
theorem ev_callTy {own : Bool} {T : String} {x : Str} {f : List W → Option Out} {r : List V → Hp → VK → Prop} {p : Pos} (hc : ∀ pn xe, CallR (X.tr pn xe) (.type T) r) (hf : OpC (fx ec X) f r) (hg : Gl X x) (hm : X.mg x = none) (hv : bootBuiltins x = some (.type T)) (ha : PAv ec X (e :: es) das)
    (hn : x ≠ "__name__" := by decide) (hdb : (x == ("__debug__" : Str)) = false := by decide) (he : starEach (e :: es) X.env = (false, eval e X.env) :: starEach es X.env := by rfl) (hpl : (backTo pos (starEach es X.env)).any (·.1) = false := by rfl) : PEv ec X (.Call (.Name x p) (e :: es) [] pos) (dCall own f das) :=
  ⟨fun pn xe Wx tk => (pe_callTy (X := X.tr pn xe) (hc pn xe) hg hm hv (ha.run pn xe Wx tk) hn hdb he hpl).imp fun σ H Q h => call_reads hf h⟩
end
end Bel

/-! The engine, seventh part: what is built in. -/
namespace Bel
open PySem PySem.Spec PyProof.Rows L2

/-! ### the type of a plain value -/
def tyn : W → String
  | .non => "NoneType"
  | .bl _ => "bool"
  | .int _ => "int"
  | .str _ => "str"
  | .tup _ => "tuple"
  | .lst _ => "list"
  | .dct _ => "dict"
  | .exc _ => ""
  | .kdc _ => "dict"
def isStr : W → Bool
  | .str _ => true
  | _ => false
def isInt : W → Bool
  | .int _ => true
  | .bl _ => true
  | _ => false
def isBl : W → Bool
  | .bl _ => true
  | _ => false
def isTup : W → Bool
  | .tup _ => true
  | _ => false
def isLst : W → Bool
  | .lst _ => true
  | _ => false
def isDct : W → Bool
  | .dct _ => true
  | .kdc _ => true
  | _ => false
def isExc : W → Bool
  | .exc _ => true
  | _ => false
/-- p is what isinstance(.., T) tells -/
def IsT (T : String) (p : W → Bool) : Prop := ∀ w, isExc w = false → kitB (tyn w) T = some (p w)
theorem ist_str : IsT "str" isStr := by
  intro w h
  cases w <;> first | (simp only [tyn, isStr]; decide +kernel) | (simp [isExc] at h; done)
theorem ist_int : IsT "int" isInt := by
  intro w h
  cases w <;> first | (simp only [tyn, isInt]; decide +kernel) | (simp [isExc] at h; done)
theorem ist_bool : IsT "bool" isBl := by
  intro w h
  cases w <;> first | (simp only [tyn, isBl]; decide +kernel) | (simp [isExc] at h; done)
theorem ist_tuple : IsT "tuple" isTup := by
  intro w h
  cases w <;> first | (simp only [tyn, isTup]; decide +kernel) | (simp [isExc] at h; done)
theorem ist_list : IsT "list" isLst := by
  intro w h
  cases w <;> first | (simp only [tyn, isLst]; decide +kernel) | (simp [isExc] at h; done)
theorem ist_dict : IsT "dict" isDct := by
  intro w h
  cases w <;> first | (simp only [tyn, isDct]; decide +kernel) | (simp [isExc] at h; done)
section
variable {F : Fx} {H : Hp} {O : Addr → Prop}
theorem rt_tyx {w : W} {v : V} (h : isExc w = false) (r : RT F H O w v) : TyX F.K H v (.type (tyn w)) := by
  cases w with
  | non => rw [Rp.non_inv r]; exact .base .non
  | bl b => rw [Rp.bl_inv r]; exact .base (.bl _)
  | int b => rw [Rp.int_inv r]; exact .base (.int _)
  | str b => rw [(Rp.str_inv r).1]; exact .base (.str _)
  | tup b =>
    obtain ⟨a, vs, rfl, h1, _⟩ := Rp.tup_inv r
    rcases h1 with ⟨h1 | ⟨o, h1⟩, _⟩ | ⟨o, its, n, h1, h2, _⟩
    · exact .base (.tup h1)
    · exact .fTuple h1
    · exact .kTuple h1 h2
  | lst b =>
    obtain ⟨a, vs, rfl, h1 | ⟨o, h1⟩, _⟩ := r
    · exact .base (.lst h1)
    · exact .base (.frz h1)
  | dct b =>
    obtain ⟨a, vs, rfl, h1 | ⟨o, h1⟩, _⟩ := r
    · exact .base (.dK h1)
    · exact .fDict h1
  | exc b => simp [isExc] at h
  | kdc b =>
    have r' : Rp F H O (.kdc b) v := r
    cases r' with
    | kdc h1 _ _ _ =>
      obtain ⟨⟨es, n, h1, _⟩, _⟩ := h1
      exact .kDict h1 rfl
end
section
variable {ec : Nat → Value} {X : Cx} {e a b c o : Expr} {es rest : List Expr} {pos p p2 apos cpos : Pos} {da db dc dd : DE} {das : DA}
/-- isinstance(e, T) -/
def dIsT (q : W → Bool) (a : DE) : DE := fun e S => (a e S).bind fun u S1 => match dr S1 u with
  | some w => if isExc w = true then .no else .ok (.v (.bl (q w))) S1
  | none => .no
theorem ev_isT {T : String} {t : Str} {q : W → Bool} (hq : IsT T q) (ha : PEv ec X a da) (hg : Gl X "isinstance") (hm : X.mg "isinstance" = none) (hgT : Gl X t) (hmT : X.mg t = none) (hvT : bootBuiltins t = some (.type T))
    (hn : t ≠ "__name__" := by decide) (hdb : (t == ("__debug__" : Str)) = false := by decide)
    (h1 : starEach [a, .Name t p2] X.env = (false, eval a X.env) :: starEach [.Name t p2] X.env := by rfl) (h2 : starEach [.Name t p2] X.env = (false, eval (.Name t p2) X.env) :: starEach [] X.env := by rfl)
    (hpl : (backTo pos (starEach [.Name t p2] X.env)).any (·.1) = false := by rfl) : PEv ec X (.Call (.Name "isinstance" p) [a, .Name t p2] [] pos) (dIsT q da) :=
  ⟨fun pn xe Wx tk => (pe_callB (X := X.tr pn xe) call_isi hg hm boot_isinstance (pa_cons (ha.run pn xe Wx tk) (pa_cons (pe_bltn (X := X.tr pn xe) (v := .ty T) hgT hmT hvT rfl hn hdb) pa_nil h2) h1) (by decide) (by decide) h1 hpl).imp
    fun σ H Q ⟨env, S, ι, B, R, E, h⟩ => LE.then_ R E h fun u S1 v H1 ι1 G1 R1 E1 ru h1 => by
      show ∃ (x c : V) (t u : Value) (b : Bool), [v, V.ty T] = [x, c] ∧ ClsV c u ∧ TyX _ H1 x t ∧ PySem.W.kitOne _ t u = some b ∧ Q (.bl b) H1
      cases e1 : dr S1 u with
      | none => simp only [e1] at h1; exact h1.elim
      | some w =>
        simp only [e1] at h1
        split at h1
        · exact h1.elim
        · rename_i hx
          have hx' : isExc w = false := by simpa using hx
          exact ⟨v, .ty T, _, _, _, rfl, .ty T, rt_tyx hx' (RU.rt R1 ru e1), kit_ty (hq w hx'), h1 _ H1 ι1 .refl R1 (.bl _)⟩⟩

/-! ### functions that are built in -/
def fAbs : List W → Option Out
  | [.int i] => some (.val (.int (if i < 0 then -i else i)))
  | _ => none
def fLen : List W → Option Out
  | [.str x] => some (.val (.int x.length))
  | [.lst l] => some (.val (.int l.length))
  | [.tup l] => some (.val (.int l.length))
  | [.dct l] => some (.val (.int l.length))
  | _ => none
def fMin2 : List W → Option Out
  | [.int i, .int j] => some (.val (.int (if j < i then j else i)))
  | _ => none
def fMax2 : List W → Option Out
  | [.int i, .int j] => some (.val (.int (if j > i then j else i)))
  | _ => none
def bools : List W → Option (List Bool)
  | [] => some []
  | .bl b :: r => (bools r).map (b :: ·)
  | _ :: _ => none
def fAll : List W → Option Out
  | [.lst l] => (bools l).map fun bs => .val (.bl (bs.all id))
  | _ => none
def fAny : List W → Option Out
  | [.lst l] => (bools l).map fun bs => .val (.bl (bs.any id))
  | _ => none
def b2n (b : Bool) : Int := if b = true then 1 else 0
def fInt : List W → Option Out
  | [.int i] => some (.val (.int i))
  | [.bl b] => some (.val (.int (b2n b)))
  | _ => none
def fList : List W → Option Out
  | [.lst l] => some (.nl l)
  | [.tup l] => some (.nl l)
  | [.dct l] => some (.nl (l.map (·.1)))
  | _ => none
def fTuple : List W → Option Out
  | [.lst l] => some (.nt l)
  | [.tup l] => some (.nt l)
  | _ => none
section
variable {F : Fx} {H : Hp} {O : Addr → Prop}
theorem oc1 {f : List W → Option Out} {r : List V → Hp → VK → Prop} (h1 : ∀ ws o, f ws = some o → ∃ w, ws = [w]) (h2 : ∀ (H : Hp) (O : Addr → Prop) (x : V) (w : W) (o : Out) (Q : VK), RT F H O w x → f [w] = some o → PuQ F H O o Q → r [x] H Q) : OpC F f r := by
  intro H O xs ws o Q rs e q
  obtain ⟨w, rfl⟩ := h1 ws o e
  cases rs with
  | cons r1 r2 =>
    cases r2
    exact h2 H O _ w o Q r1 e q
theorem oc_abs : OpC F fAbs (fun xs H Q => ∃ i, xs = [.int i] ∧ Q (.int (if i < 0 then -i else i)) H) := by
  refine oc1 (fun ws o e => ?_) fun H O x w o Q r e q => ?_
  · unfold fAbs at e
    split at e
    · exact ⟨_, rfl⟩
    · cases e
  · cases w with
    | int i =>
      cases some_inj e
      obtain rfl := Rp.int_inv r
      exact ⟨i, rfl, q _ (.int _)⟩
    | _ => cases e
def rLenW (K : PySem.W.Frag) : List V → Hp → VK → Prop := fun xs H Q => (∃ x n, xs = [x] ∧ LenV K x H n ∧ Q (.int n) H) ∨ ∃ a kvs, xs = [V.ref a] ∧ Rd H a (.dK kvs) ∧ Q (.int kvs.length) H
theorem call_lenR {X : Cx} : CallR X (.builtin "len") (fun xs H Q => ∃ a kvs, xs = [V.ref a] ∧ Rd H a (.dK kvs) ∧ Q (.int kvs.length) H) := by
  intro pins s σ H xs us Q I r h
  obtain ⟨a, kvs, rfl, hd, q⟩ := h
  obtain ⟨u, rfl, rx⟩ := vals1 r
  cases rx
  exact d_len I hd fun t s' I' => ⟨.int _, H, I', ⟨t, rfl⟩, q⟩
theorem call_lenW {X : Cx} : CallR X (.builtin "len") (rLenW X.K) := call_len.or call_lenR
theorem oc_len : OpC F fLen (rLenW F.K) := by
  refine oc1 (fun ws o e => ?_) fun H O x w o Q r e q => ?_
  · unfold fLen at e
    split at e <;> first | exact ⟨_, rfl⟩ | cases e
  · cases w with
    | str l =>
      cases some_inj e
      obtain ⟨rfl, h1, h2⟩ := Rp.str_inv r
      refine .inl ⟨_, l.length, rfl, ⟨by rw [str_len]; exact h1, by rw [str_len]⟩, q _ (.int _)⟩
    | lst l =>
      cases some_inj e
      obtain ⟨a, vs, rfl, h1, q1⟩ := r
      exact .inl ⟨_, l.length, rfl, .inl ⟨vs, .inl h1, q1.1⟩, q _ (.int _)⟩
    | tup l =>
      cases some_inj e
      obtain ⟨a, vs, rfl, h1, q1⟩ := Rp.tup_inv r
      exact .inl ⟨_, l.length, rfl, .inr ⟨vs, h1.sq, q1.1⟩, q _ (.int _)⟩
    | dct l =>
      cases some_inj e
      obtain ⟨a, kvs, rfl, h1, q1⟩ := r
      exact .inr ⟨a, kvs, rfl, h1, by rw [← q1.1]; exact q _ (.int _)⟩
    | _ => cases e
theorem oc_min2 : OpC F fMin2 (fun xs H Q => ∃ i j, xs = [.int i, .int j] ∧ Q (.int (if j < i then j else i)) H) := by
  intro H O xs ws o Q rs e q
  unfold fMin2 at e
  split at e
  · cases some_inj e
    cases rs with
    | cons r1 r2 =>
      cases r2 with
      | cons r2 r3 =>
        cases r3
        obtain rfl := Rp.int_inv r1
        obtain rfl := Rp.int_inv r2
        exact ⟨_, _, rfl, q _ (.int _)⟩
  · cases e
theorem oc_max2 : OpC F fMax2 (fun xs H Q => ∃ i j, xs = [.int i, .int j] ∧ Q (.int (if j > i then j else i)) H) := by
  intro H O xs ws o Q rs e q
  unfold fMax2 at e
  split at e
  · cases some_inj e
    cases rs with
    | cons r1 r2 =>
      cases r2 with
      | cons r2 r3 =>
        cases r3
        obtain rfl := Rp.int_inv r1
        obtain rfl := Rp.int_inv r2
        exact ⟨_, _, rfl, q _ (.int _)⟩
  · cases e
theorem bools_rp : ∀ {ws : List W} {vs : List V} {bs : List Bool}, RpL F H O ws vs → bools ws = some bs → vs = bs.map V.bl
  | [], vs, bs, r, h => by rw [r.nil_iff]; cases some_inj h; rfl
  | w :: ws, vs, bs, r, h => by
    obtain ⟨v, vs', rfl, h1, r'⟩ := r.cons_iff
    cases w with
    | bl b =>
      obtain ⟨bs', h', rfl⟩ := Option.map_eq_some_iff.mp h
      rw [Rp.bl_inv h1, bools_rp r' h']
      rfl
    | _ => cases h
theorem oc_all : OpC F fAll (rAll F.K) := by
  refine oc1 (fun ws o e => ?_) fun H O x w o Q r e q => ?_
  · unfold fAll at e
    split at e <;> first | exact ⟨_, rfl⟩ | cases e
  · cases w with
    | lst l =>
      obtain ⟨bs, h', rfl⟩ := Option.map_eq_some_iff.mp e
      obtain ⟨a, vs, rfl, h1, q1⟩ := r
      have := bools_rp q1 h'
      subst this
      exact ⟨a, bs, rfl, .inl h1, q _ (.bl _)⟩
    | _ => cases e
theorem oc_any : OpC F fAny (rAny F.K) := by
  refine oc1 (fun ws o e => ?_) fun H O x w o Q r e q => ?_
  · unfold fAny at e
    split at e <;> first | exact ⟨_, rfl⟩ | cases e
  · cases w with
    | lst l =>
      obtain ⟨bs, h', rfl⟩ := Option.map_eq_some_iff.mp e
      obtain ⟨a, vs, rfl, h1, q1⟩ := r
      have := bools_rp q1 h'
      subst this
      exact ⟨a, bs, rfl, .inl h1, q _ (.bl _)⟩
    | _ => cases e
theorem oc_int : OpC F fInt (fun xs H Q => (∃ i, xs = [.int i] ∧ Q (.int i) H) ∨ ∃ k, xs = [.bl k] ∧ Q (.int (if k then 1 else 0)) H) := by
  refine oc1 (fun ws o e => ?_) fun H O x w o Q r e q => ?_
  · unfold fInt at e
    split at e <;> first | exact ⟨_, rfl⟩ | cases e
  · cases w with
    | int i =>
      cases some_inj e
      obtain rfl := Rp.int_inv r
      exact .inl ⟨i, rfl, q _ (.int _)⟩
    | bl i =>
      cases some_inj e
      obtain rfl := Rp.bl_inv r
      exact .inr ⟨i, rfl, q _ (.int _)⟩
    | _ => cases e
theorem keys_rp {ws : List (W × W)} {kvs : List (Key × V)} (r : RpD F H O ws kvs) : RpL F H O (ws.map (·.1)) (kvs.map fun kv => kV kv.1) := by
  induction ws generalizing kvs with
  | nil => rw [r.nil_iff]; exact .nil
  | cons p ws ih =>
    obtain ⟨κ', v, kvs', rfl, h1, h2, r'⟩ := r.cons_iff
    exact .cons h1 (ih r')
def rListW (K : PySem.W.Frag) : List V → Hp → VK → Prop := fun xs H Q => (∃ p ys, xs = [.ref p] ∧ (SqL K H p ys ∨ SqT K H p ys) ∧ ∀ l, H l = none → Q (.ref l) (upd H l (.lst ys))) ∨
  ∃ (a : Addr) (kvs : List (Key × V)), xs = [.ref a] ∧ Rd H a (.dK kvs) ∧ ∀ p, H p = none → Q (.ref p) (upd H p (.lst (kvs.map fun kv => kV kv.1)))
theorem call_listW {X : Cx} (hc : X.calm = true) : CallR X (.type "list") (rListW X.K) := call_list_of.or (call_listD hc)
theorem oc_list : OpC F fList (rListW F.K) := by
  refine oc1 (fun ws o e => ?_) fun H O x w o Q r e q => ?_
  · unfold fList at e
    split at e <;> first | exact ⟨_, rfl⟩ | cases e
  · cases w with
    | lst l =>
      cases some_inj e
      obtain ⟨a, vs, rfl, h1, q1⟩ := r
      exact .inl ⟨a, vs, rfl, .inl (.inl h1), fun p hp => q p vs hp q1⟩
    | tup l =>
      cases some_inj e
      obtain ⟨a, vs, rfl, h1, q1⟩ := Rp.tup_inv r
      exact .inl ⟨a, vs, rfl, .inr h1.sq, fun p hp => q p vs hp q1⟩
    | dct l =>
      cases some_inj e
      obtain ⟨a, kvs, rfl, h1, q1⟩ := r
      exact .inr ⟨a, kvs, rfl, h1, fun p hp => q p _ hp (keys_rp q1)⟩
    | _ => cases e
theorem oc_tuple : OpC F fTuple (fun xs H Q => ∃ p ys, xs = [.ref p] ∧ ((SqL F.K H p ys ∧ ∀ l, H l = none → Q (.ref l) (upd H l (.tup ys))) ∨ (SqT F.K H p ys ∧ Q (.ref p) H))) := by
  refine oc1 (fun ws o e => ?_) fun H O x w o Q r e q => ?_
  · unfold fTuple at e
    split at e <;> first | exact ⟨_, rfl⟩ | cases e
  · cases w with
    | lst l =>
      cases some_inj e
      obtain ⟨a, vs, rfl, h1, q1⟩ := r
      exact ⟨a, vs, rfl, .inl ⟨.inl h1, fun p hp => q.2 p vs hp q1⟩⟩
    | tup l =>
      cases some_inj e
      obtain ⟨a, vs, rfl, h1, q1⟩ := Rp.tup_inv r
      exact ⟨a, vs, rfl, .inr ⟨h1.sq, q.1 _ r⟩⟩
    | _ => cases e
end

/-! ### methods that change nothing -/
def OpM (F : Fx) (f : W → List W → Option Out) (r : V → List V → Hp → VK → Prop) : Prop := ∀ (H : Hp) (O : Addr → Prop) (x : V) (xs : List V) (w : W) (ws : List W) (o : Out) (Q : VK), RT F H O w x → RTs F H O ws xs → f w ws = some o → PuQ F H O o Q → r x xs H Q
def TyM (F : Fx) (T : String) (q : W → Bool) : Prop := ∀ (H : Hp) (O : Addr → Prop) (w : W) (x : V), q w = true → RT F H O w x → tyV F.K T x H
def dMeth (own : Bool) (q : W → Bool) (f : W → List W → Option Out) (o : DE) (a : DA) : DE := fun e S => (o e S).bind fun u S1 => match dr S1 u with
  | some w => if q w = true then (a e S1).bind fun us S2 => match dr S2 u, drs S2 us with
      | some w', some ws => putO own (f w' ws) S2
      | _, _ => .no
    else .no
  | none => .no
theorem meth_reads {own : Bool} {T : String} {q : W → Bool} {F : Fx} {Wx : WX} {σ : L2.St} {H : Hp} {f : W → List W → Option Out} {r : V → List V → Hp → VK → Prop} {Q : VK} (hq : TyM F T q) (hf : OpM F f r) (h : LE F Wx (dMeth own q f da das) σ H Q) : tBM F.K T r (LE F Wx da) (LA F Wx das) σ H Q := by
  obtain ⟨env, S, ι, B, R, E, h⟩ := h
  refine LE.then_ R E h fun u S1 x H1 ι1 G1 R1 E1 ru h1 => ?_
  cases e1 : dr S1 u with
  | none => simp only [e1] at h1; exact h1.elim
  | some w =>
    simp only [e1] at h1
    split at h1
    · rename_i hw
      refine ⟨hq _ _ _ _ hw (RU.rt R1 ru e1), LA.then_ R1 E1 h1 fun us S2 xs H2 ι2 G2 R2 E2 rus h2 => ?_⟩
      cases e2 : dr S2 u with
      | none => simp only [e2] at h2; exact h2.elim
      | some w' =>
        cases e3 : drs S2 us with
        | none => simp only [e2, e3] at h2; exact h2.elim
        | some ws =>
          simp only [e2, e3] at h2
          obtain ⟨o, he, q⟩ := putO_ok R2 h2
          exact hf H2 _ x xs w' ws o Q (RU.rt R2 (RU.go G2 ru) e2) (drs_rt R2 rus e3) he q
    · exact h1.elim
theorem ev_meth {own : Bool} {T id : String} {name : Str} {q : W → Bool} {f : W → List W → Option Out} {r : V → List V → Hp → VK → Prop} (pa : PlainAttrs T) (slot : Slot T name id) (hty : typeOf (.builtin id) = pure (.type "method_descriptor")) (hm : ∀ pn xe, MtR (X.tr pn xe) id r)
    (hq : TyM (fx ec X) T q) (hf : OpM (fx ec X) f r) (ho : PEv ec X o da) (ha : PAv ec X (e :: es) das)
    (hbase : attributeBase o name X.env (eval o X.env) = eval o X.env := by rfl)
    (hfew : ((backTo cpos (starEach (e :: es) X.env)).all (fun x => !x.1) && (backToKw cpos (keywordEach [] X.env)).all (fun x => x.1.isSome)
      && decide ((e :: es).length + ([] : List Keyword).length + (if ([] : List Keyword).isEmpty then 0 else 1) < 30)) = true := by rfl)
    (hline : (apos.endLine == cpos.line) = true := by rfl) (hs : starEach (e :: es) X.env = (false, eval e X.env) :: starEach es X.env := by rfl) (hplain : (backTo cpos (starEach es X.env)).any (·.1) = false := by rfl) :
    PEv ec X (.Call (.Attribute o name apos) (e :: es) [] cpos) (dMeth own q f da das) :=
  ⟨fun pn xe Wx tk => (pe_bm (X := X.tr pn xe) pa slot hty (hm pn xe) (ho.run pn xe Wx tk) (ha.run pn xe Wx tk) hbase hfew hline hs hplain).imp fun σ H Q h => meth_reads hq hf h⟩
theorem ev_meth0 {own : Bool} {T id : String} {name : Str} {q : W → Bool} {f : W → List W → Option Out} {r : V → List V → Hp → VK → Prop} (pa : PlainAttrs T) (slot : Slot T name id) (hty : typeOf (.builtin id) = pure (.type "method_descriptor")) (hm : ∀ pn xe, MtR (X.tr pn xe) id r)
    (hq : TyM (fx ec X) T q) (hf : OpM (fx ec X) f r) (ho : PEv ec X o da)
    (hbase : attributeBase o name X.env (eval o X.env) = eval o X.env := by rfl) (hline : (apos.endLine == cpos.line) = true := by rfl) :
    PEv ec X (.Call (.Attribute o name apos) [] [] cpos) (dMeth own q f da dNil) :=
  ⟨fun pn xe Wx tk => (pe_bm0 (X := X.tr pn xe) pa slot hty (hm pn xe) (ho.run pn xe Wx tk) hbase hline).imp fun σ H Q h => by
    obtain ⟨env, S, ι, B, R, E, h⟩ := h
    refine LE.then_ R E h fun u S1 x H1 ι1 G1 R1 E1 ru h1 => ?_
    cases e1 : dr S1 u with
    | none => simp only [e1] at h1; exact h1.elim
    | some w =>
      simp only [e1] at h1
      split at h1
      · rename_i hw
        refine ⟨hq _ _ _ _ hw (RU.rt R1 ru e1), ?_⟩
        simp only [dNil, Re.bind_ok, e1, drs] at h1
        obtain ⟨o, he, q⟩ := putO_ok R1 h1
        exact hf H1 _ x [] w [] o Q (RU.rt R1 ru e1) .nil he q
      · exact h1.elim⟩
def txts : List W → Option (List (List Nat))
  | [] => some []
  | .str x :: r => (txts r).map (x :: ·)
  | _ :: _ => none
section
variable {F : Fx} {H : Hp} {O : Addr → Prop}
theorem tym_str : TyM F "str" isStr := by
  intro H O w x h r
  cases w <;> first | (simp [isStr] at h; done) | skip
  rw [(Rp.str_inv r).1]
  rfl
theorem tym_lst : TyM F "list" isLst := by
  intro H O w x h r
  cases w <;> first | (simp [isLst] at h; done) | skip
  obtain ⟨a, vs, rfl, h1, _⟩ := r
  exact .inl ⟨rfl, vs, .inl h1⟩
abbrev mkS (x : List Nat) : Str := ⟨x.toArray⟩
theorem txts_rp : ∀ {ws : List W} {vs : List V} {bs : List (List Nat)}, RpL F H O ws vs → txts ws = some bs → vs = (bs.map mkS).map V.str ∧ ∀ b ∈ bs, b.length ≤ sizeLine ∧ b.all okCp = true
  | [], vs, bs, r, h => by rw [r.nil_iff]; cases some_inj h; exact ⟨rfl, fun _ z => nomatch z⟩
  | w :: ws, vs, bs, r, h => by
    obtain ⟨v, vs', rfl, h1, r'⟩ := r.cons_iff
    cases w with
    | str b =>
      obtain ⟨bs', h', rfl⟩ := Option.map_eq_some_iff.mp h
      obtain ⟨e, h2, h3⟩ := Rp.str_inv h1
      obtain ⟨e2, h4⟩ := txts_rp r' h'
      subst e e2
      refine ⟨rfl, fun c hc => ?_⟩
      rcases List.mem_cons.mp hc with rfl | hc
      · exact ⟨h2, h3⟩
      · exact h4 c hc
    | _ => cases h
theorem joinL_all {S : List Nat} (hS : S.all okCp = true) : ∀ {ps : List (List Nat)}, (∀ b ∈ ps, b.all okCp = true) → (TL.joinL S ps).all okCp = true
  | [], _ => rfl
  | [x], h => h x List.mem_cons_self
  | x :: y :: r, h => by
    have ih := joinL_all hS (ps := y :: r) fun b hb => h b (List.mem_cons_of_mem _ hb)
    show (x ++ (S ++ TL.joinL S (y :: r))).all okCp = true
    rw [← List.append_assoc]
    exact all_ok_append (all_ok_append (h x List.mem_cons_self) hS) ih
theorem joinL_len {S : List Nat} : ∀ ps : List (List Nat), (TL.joinL S ps).length ≤ (ps.map List.length).sum + ps.length * S.length
  | [] => by simp [TL.joinL]
  | [x] => by simp [TL.joinL]
  | x :: y :: r => by
    have ih := joinL_len (S := S) (y :: r)
    show (x ++ (S ++ TL.joinL S (y :: r))).length ≤ _
    rw [List.length_append, List.length_append]
    simp only [List.map_cons, List.sum_cons, List.length_cons] at ih ⊢
    rw [Nat.add_mul (r.length + 1) 1]
    omega
def fJoin : W → List W → Option Out
  | .str s, [.lst l] => match txts l with
    | some ps => if (ps.map List.length).sum + ps.length * s.length ≤ 16777216 then some (.val (.str (TL.joinL s ps))) else none
    | none => none
  | _, _ => none
theorem om_join : OpM F fJoin (fun x xs H Q => ∃ a p, ∃ ys : List Str, x = .str a ∧ xs = [.ref p] ∧ (SqL F.K H p (ys.map V.str) ∨ SqT F.K H p (ys.map V.str)) ∧
    (ys.map (·.length)).sum + ys.length * a.length ≤ 16777216 ∧ Q (.str (Txt.join a ys)) H) := by
  intro H O x xs w ws o Q r rs e q
  unfold fJoin at e
  split at e
  · rename_i s l
    cases e1 : txts l with
    | none => simp only [e1] at e; cases e
    | some ps =>
      simp only [e1] at e
      split at e
      · rename_i hl
        cases some_inj e
        cases rs with
        | cons r1 r2 =>
          cases r2
          obtain ⟨rfl, h1, h2⟩ := Rp.str_inv r
          obtain ⟨a, vs, rfl, h3, q3⟩ := r1
          obtain ⟨rfl, h4⟩ := txts_rp q3 e1
          have el : (List.map (fun x : Str => x.length) (ps.map mkS)).sum = (ps.map List.length).sum := by
            rw [List.map_map]
            rfl
          refine ⟨_, a, ps.map mkS, rfl, rfl, .inl (.inl h3), by rw [el, List.length_map, str_len]; exact hl, ?_⟩
          have ej : Txt.join (mkS s) (ps.map mkS) = mkS (TL.joinL s ps) := by
            rw [TL.join_eq]
            apply TL.ext_tl
            rw [TL.tl_join, List.map_map]
            have : (TL.tl ∘ mkS) = id := by funext x; rfl
            rw [this, List.map_id]
          show Q (.str (Txt.join (mkS s) (ps.map mkS))) H
          rw [ej]
          refine q _ (.str _ ?_ (joinL_all h2 fun b hb => (h4 b hb).2))
          have := joinL_len (S := s) ps
          rw [sizeLine_is]
          omega
      · cases e
  · cases e
def fUpper : W → List W → Option Out
  | .str s, [] => if s.length ≤ 5592405 ∧ (TL.tl (Txt.upper (mkS s))).length ≤ 16777216 ∧ (TL.tl (Txt.upper (mkS s))).all okCp = true then some (.val (.str (TL.tl (Txt.upper (mkS s))))) else none
  | _, _ => none
theorem om_upper : OpM F fUpper (fun x xs H Q => ∃ a, x = .str a ∧ xs = [] ∧ a.length ≤ 5592405 ∧ Q (.str (Txt.upper a)) H) := by
  intro H O x xs w ws o Q r rs e q
  unfold fUpper at e
  split at e
  · split at e
    · rename_i hc
      cases some_inj e
      obtain ⟨rfl, h1, h2⟩ := Rp.str_inv r
      cases rs
      refine ⟨_, rfl, rfl, by rw [str_len]; exact hc.1, ?_⟩
      have := q _ (.str _ (by rw [sizeLine_is]; exact hc.2.1) hc.2.2)
      rwa [TL.mk_tl] at this
    · cases e
  · cases e
end
end
end Bel

/-! The engine, eighth part: statements. -/
namespace Bel
open PySem PySem.Spec PyProof.Rows L2
def Rs.bind (r : Rs) (f : Env' → Store → Rs) : Rs := match r with
  | .ok (.nx e) S => f e S
  | r => r
/-- an expression's answer, in a statement -/
def Re.st {α : Type} (r : Re α) (e : Env') (f : α → Store → Rs) : Rs := match r with
  | .ok a S => f a S
  | .ex c S => .ex c e S
  | .no => .no
@[simp] theorem Rs.bind_nx (e : Env') (S : Store) (f : Env' → Store → Rs) : (Rs.ok (.nx e) S).bind f = f e S := rfl
@[simp] theorem Rs.bind_rt (u : U) (S : Store) (f : Env' → Store → Rs) : (Rs.ok (.rt u) S).bind f = .ok (.rt u) S := rfl
@[simp] theorem Rs.bind_bk (e : Env') (S : Store) (f : Env' → Store → Rs) : (Rs.ok (.bk e) S).bind f = .ok (.bk e) S := rfl
@[simp] theorem Rs.bind_ct (e : Env') (S : Store) (f : Env' → Store → Rs) : (Rs.ok (.ct e) S).bind f = .ok (.ct e) S := rfl
@[simp] theorem Rs.bind_ex (c : Nat) (e : Env') (S : Store) (f : Env' → Store → Rs) : (Rs.ex c e S).bind f = .ex c e S := rfl
@[simp] theorem Rs.bind_no (f : Env' → Store → Rs) : Rs.no.bind f = .no := rfl
@[simp] theorem Re.st_ok {α : Type} (a : α) (S : Store) (e : Env') (f : α → Store → Rs) : (Re.ok a S).st e f = f a S := rfl
@[simp] theorem Re.st_ex {α : Type} (c : Nat) (S : Store) (e : Env') (f : α → Store → Rs) : (Re.ex c S : Re α).st e f = .ex c e S := rfl
@[simp] theorem Re.st_no {α : Type} (e : Env') (f : α → Store → Rs) : (Re.no : Re α).st e f = .no := rfl
section
variable {F : Fx} {Wx : WX} {σ : L2.St} {H H' H1 H2 : Hp} {ι ι' ι1 ι2 : List Addr} {S S' S1 S2 : Store} {B : Addr → Prop} {env : Env'} {D : Ends}
theorem LE.thenS (R : RS F ι S B H) (E : ER F H ι S B env σ) {a : DE} {g : U → Store → Rs} (h : PoS F Wx ι S B H ((a env S).st env g) D)
    {Q1 : VK} (k : ∀ u S1 v H1 ι1, Go ι S H ι1 S1 H1 → RS F ι1 S1 B H1 → ER F H1 ι1 S1 B env σ → RU F H1 ι1 S1 B u v → PoS F Wx ι1 S1 B H1 (g u S1) D → Q1 v H1) : LE F Wx a σ H Q1 := by
  refine ⟨env, S, ι, B, R, E, ?_⟩
  cases e : a env S with
  | ok u S1 =>
    rw [e] at h
    exact fun v H1 ι1 G R1 r => k u S1 v H1 ι1 G R1 (E.go G) r (h.go G)
  | ex c S1 =>
    rw [e] at h
    exact fun H1 ι1 G R1 => h σ H1 ι1 G R1 (E.go G)
  | no => rw [e] at h; exact h
theorem LT.thenS (R : RS F ι S B H) (E : ER F H ι S B env σ) {a : DT} {g : Bool → Store → Rs} (h : PoS F Wx ι S B H ((a env S).st env g) D)
    {Q1 : Bool → Hp → Prop} (k : ∀ u S1 H1 ι1, Go ι S H ι1 S1 H1 → RS F ι1 S1 B H1 → ER F H1 ι1 S1 B env σ → PoS F Wx ι1 S1 B H1 (g u S1) D → Q1 u H1) : LT F Wx a σ H Q1 := by
  refine ⟨env, S, ι, B, R, E, ?_⟩
  cases e : a env S with
  | ok u S1 =>
    rw [e] at h
    exact fun H1 ι1 G R1 => k u S1 H1 ι1 G R1 (E.go G) (h.go G)
  | ex c S1 =>
    rw [e] at h
    exact fun H1 ι1 G R1 => h σ H1 ι1 G R1 (E.go G)
  | no => rw [e] at h; exact h
end
section
variable {ec : Nat → Value} {X : Cx} {e a b c o : Expr} {st : Stmt} {rest body : List Stmt} {pos pos' p p2 : Pos} {da db dc : DE} {tc : DT} {ds dt : DS}
/-! ### blocks -/
def dNext : DS := fun e S => .ok (.nx e) S
def dSeq (a b : DS) : DS := fun e S => (a e S).bind b
theorem LS.seq {F : Fx} {Wx : WX} {σ : L2.St} {H : Hp} {D : Ends} (h : LS F Wx (dSeq ds dt) D σ H) : LS F Wx ds { D with nx := LS F Wx dt D } σ H := by
  obtain ⟨env, S, ι, B, R, E, h⟩ := h
  refine ⟨env, S, ι, B, R, E, ?_⟩
  unfold dSeq at h
  cases e : ds env S with
  | ok f S1 =>
    rw [e] at h
    cases f with
    | nx e1 => exact fun σ' H' ι' G R' E' => ⟨e1, S1, ι', B, R', E', h.go G⟩
    | rt u => exact h
    | bk e1 => exact h
    | ct e1 => exact h
  | ex c e1 S1 => rw [e] at h; exact h
  | no => rw [e] at h; exact h
theorem bv_nil : PSsv ec X [] dNext := ⟨fun pn xe Wx tk po => pss_nil.imp fun D σ H ⟨env, S, ι, B, R, E, h⟩ => h σ H ι .refl R E⟩
theorem bv_cons (h1 : PSv ec X st ds) (h2 : PSsv ec X rest dt) : PSsv ec X (st :: rest) (dSeq ds dt) :=
  ⟨fun pn xe Wx tk po => (pss_cons (h1.run pn xe Wx tk po) (h2.run pn xe Wx tk po)).imp fun D σ H h => LS.seq h⟩
theorem bv_one (h1 : PSv ec X st ds) : PSsv ec X [st] ds := ⟨fun pn xe Wx tk po => pss_one (h1.run pn xe Wx tk po)⟩
theorem sv_pass : PSv ec X (.Pass pos) dNext := ⟨fun pn xe Wx tk po => ps_pass.imp fun D σ H ⟨env, S, ι, B, R, E, h⟩ => h σ H ι .refl R E⟩
def dBreak : DS := fun e S => .ok (.bk e) S
def dCont : DS := fun e S => .ok (.ct e) S
theorem sv_break : PSv ec X (.Break pos) dBreak := ⟨fun pn xe Wx tk po => ps_break.imp fun D σ H ⟨env, S, ι, B, R, E, h⟩ => h σ H ι .refl R E⟩
theorem sv_cont : PSv ec X (.Continue pos) dCont := ⟨fun pn xe Wx tk po => ps_continue.imp fun D σ H ⟨env, S, ι, B, R, E, h⟩ => h σ H ι .refl R E⟩
/-! ### an own object is given away as a plain value: nobody changes it from here on -/
def frz (S : Store) (u : U) : Re U := match u with
  | .v w => .ok (.v w) S
  | .o n => match S[n]? with
    | some (.lst l) => .ok (.v (.lst l)) (S.set n .dead)
    | some (.dct l) => .ok (.v (.dct l)) (S.set n .dead)
    | _ => .no
theorem ow_dead {ι : List Addr} {S : Store} {n : Nat} {a : Addr} (nd : ι.Nodup) (ha : ι[n]? = some a) (b : Addr) : Ow ι (S.set n .dead) b → Ow ι S b ∧ b ≠ a := by
  rintro ⟨m, o, h1, h2, h3⟩
  rw [List.getElem?_set] at h1
  split at h1
  · split at h1
    · cases h1; exact absurd rfl h2
    · cases h1
  · rename_i hne
    refine ⟨⟨m, o, h1, h2, h3⟩, ?_⟩
    rintro rfl
    obtain ⟨h4, h5⟩ := List.getElem?_eq_some_iff.mp ha
    obtain ⟨h6, h7⟩ := List.getElem?_eq_some_iff.mp h3
    exact hne ((List.getElem_inj nd).mp (h5.trans h7.symm))
section
variable {F : Fx} {Wx : WX} {σ : L2.St} {H : Hp} {ι : List Addr} {S : Store} {B : Addr → Prop}
/-- fewer owned: what stood stands -/
theorem Rp.less {O O' : Addr → Prop} (h : ∀ a, O' a → O a) {w : W} {v : V} (r : Rp F H O w v) : Rp F H O' w v := r.ext (fun _ _ h _ => h) fun a z => .inl (h a z)
theorem RpL.less {O O' : Addr → Prop} (h : ∀ a, O' a → O a) {w : List W} {v : List V} (r : RpL F H O w v) : RpL F H O' w v := r.ext (fun _ _ h _ => h) fun a z => .inl (h a z)
theorem RpD.less {O O' : Addr → Prop} (h : ∀ a, O' a → O a) {w : List (W × W)} {v : List (Key × V)} (r : RpD F H O w v) : RpD F H O' w v := r.ext (fun _ _ h _ => h) fun a z => .inl (h a z)
theorem ObR.less {O O' : Addr → Prop} (h : ∀ a, O' a → O a) {a : Addr} {o : Ob} (r : ObR F H O a o) : ObR F H O' a o := by
  cases o with
  | lst ws => obtain ⟨vs, e, r⟩ := r; exact ⟨vs, e, r.less h⟩
  | dct ws => obtain ⟨vs, e, r⟩ := r; exact ⟨vs, e, r.less h⟩
  | scr ws => obtain ⟨vs, y, e, d, r⟩ := r; exact ⟨vs, y, e, d, r.less h⟩
  | tbl x q => exact TblR.ext r (fun _ _ h _ => h) (fun a z => .inl (h a z)) fun _ e => e
  | dead => exact r
theorem RS.die (R : RS F ι S B H) {n : Nat} {a : Addr} (hn : n < S.length) (ha : ι[n]? = some a) : RS F ι (S.set n .dead) B H ∧ Go ι S H ι (S.set n .dead) H ∧ ¬ Oq ι (S.set n .dead) B a := by
  have sub : ∀ b, Oq ι (S.set n .dead) B b → Oq ι S B b := fun b z => z.imp (fun z => (ow_dead R.nd ha b z).1) id
  refine ⟨⟨by simp [R.len], R.nd, fun m o b h1 h2 => ?_, R.hid⟩, ⟨fun _ _ h _ => h, fun b z => .inl (ow_dead R.nd ha b z).1, [], by simp⟩, fun z => ?_⟩
  · rw [List.getElem?_set] at h1
    split at h1
    · rename_i hm
      subst hm
      first | rw [if_pos hn] at h1 | skip
      cases h1
      have : b ∈ ι := List.mem_of_getElem? h2
      exact R.there this
    · exact (R.ob m o b h1 h2).less sub
  · rcases z with z | z
    · exact (ow_dead R.nd ha a z).2 rfl
    · exact (R.hid a z).2 (List.mem_of_getElem? ha)
theorem frz_ok (R : RS F ι S B H) {u : U} {v : V} (ru : RU F H ι S B u v) {w : U} {S' : Store} (h : frz S u = .ok w S') : RS F ι S' B H ∧ Go ι S H ι S' H ∧ RU F H ι S' B w v := by
  cases u with
  | v x => cases h; exact ⟨R, .refl, ru⟩
  | o n =>
    obtain ⟨a, ha, rfl⟩ := ru
    unfold frz at h
    cases e : S[n]? with
    | none => simp [e] at h
    | some ob =>
      have hn : n < S.length := (List.getElem?_eq_some_iff.mp e).1
      obtain ⟨R', G, na⟩ := R.die hn ha
      have z := R.ob n ob a e ha
      cases ob with
      | lst l =>
        simp [e] at h
        obtain ⟨rfl, rfl⟩ := h
        obtain ⟨vs, q, r⟩ := z
        exact ⟨R', G, .mkLst ⟨q, na⟩ (r.go G)⟩
      | dct l =>
        simp [e] at h
        obtain ⟨rfl, rfl⟩ := h
        obtain ⟨vs, q, r⟩ := z
        exact ⟨R', G, .mkDct ⟨.inl q, na⟩ (r.go G)⟩
      | scr l => simp [e] at h
      | tbl x q => simp [e] at h
      | dead => simp [e] at h
end
/-- name i's own object, given away -/
def dFrzV (i : Nat) : DS := fun e S => match e[i]? with
  | some (some u) => (frz S u).st e fun w S' => .ok (.nx (e.set i (some w))) S'
  | _ => .no
theorem ER.relook {F : Fx} {σ : L2.St} {H : Hp} {ι : List Addr} {S : Store} {B : Addr → Prop} {env : Env'} (E : ER F H ι S B env σ) {i : Nat} {u : U} {v : V} (h1 : σ[i]? = some (some v)) (r : RU F H ι S B u v) : ER F H ι S B (env.set i (some u)) σ := by
  have := E.set i r
  have e : σ.set i (some v) = σ := by
    apply List.ext_getElem?
    intro j
    rw [List.getElem?_set]
    split
    · rename_i hj
      subst hj
      rw [h1]
      split
      · rfl
      · rename_i hl; exact absurd (List.getElem?_eq_some_iff.mp h1).1 hl
    · rfl
  rwa [e] at this
theorem bv_frz (i : Nat) {sts : List Stmt} (h : PSsv ec X sts ds) : PSsv ec X sts (dSeq (dFrzV i) ds) :=
  ⟨fun pn xe Wx tk po => (h.run pn xe Wx tk po).imp fun D σ H ⟨env, S, ι, B, R, E, h⟩ => by
    unfold dSeq dFrzV at h
    cases e : env[i]? with
    | none => simp only [e] at h; exact h.elim
    | some x =>
      cases x with
      | none => simp only [e] at h; exact h.elim
      | some u =>
        simp only [e] at h
        obtain ⟨v, h1, ru⟩ := E.get i u e
        cases e2 : frz S u with
        | ok w S1 =>
          simp only [e2] at h
          obtain ⟨R1, G, r⟩ := frz_ok R ru e2
          exact ⟨_, S1, ι, B, R1, (E.go G).relook h1 r, h.go G⟩
        | ex c S1 => unfold frz at e2; split at e2 <;> first | cases e2 | (split at e2 <;> cases e2)
        | no => simp only [e2] at h; exact h.elim⟩

/-! ### return, names stored -/
def dRet (d : DE) : DS := fun e S => (d e S).st e fun u S1 => .ok (.rt u) S1
/-- return, an own object given away -/
def dRetF (d : DE) : DS := fun e S => (d e S).st e fun u S1 => (frz S1 u).st e fun w S2 => .ok (.rt w) S2
def dRetN : DS := fun e S => .ok (.rt (.v .non)) S
theorem sv_ret (h : PEv ec X e da) : PSv ec X (.Return (some e) pos) (dRet da) :=
  ⟨fun pn xe Wx tk po => (ps_ret (h.run pn xe Wx tk)).imp fun D σ H ⟨env, S, ι, B, R, E, h⟩ => LE.thenS R E h fun u S1 v H1 ι1 G1 R1 E1 ru h1 => h1 v H1 ι1 .refl R1 ru⟩
theorem frz_no_ex {S : Store} {u : U} {c : Nat} {S1 : Store} : frz S u ≠ .ex c S1 := by
  intro e2
  unfold frz at e2
  split at e2 <;> first | cases e2 | (split at e2 <;> cases e2)
theorem sv_retF (h : PEv ec X e da) : PSv ec X (.Return (some e) pos) (dRetF da) :=
  ⟨fun pn xe Wx tk po => (ps_ret (h.run pn xe Wx tk)).imp fun D σ H ⟨env, S, ι, B, R, E, h⟩ => LE.thenS R E h fun u S1 v H1 ι1 G1 R1 E1 ru h1 => by
    cases e2 : frz S1 u with
    | ok w S2 =>
      simp only [e2] at h1
      obtain ⟨R2, G, r⟩ := frz_ok R1 ru e2
      exact h1 v H1 ι1 G R2 r
    | ex c S1 => exact absurd e2 frz_no_ex
    | no => simp only [e2] at h1; exact h1.elim⟩
theorem sv_retN : PSv ec X (.Return none pos) dRetN := ⟨fun pn xe Wx tk po => ps_retN.imp fun D σ H ⟨env, S, ι, B, R, E, h⟩ => h _ H ι .refl R .non⟩
def dAsg (i : Nat) (d : DE) : DS := fun e S => (d e S).st e fun u S1 => .ok (.nx (e.set i (some u))) S1
theorem asg_reads {F : Fx} {Wx : WX} {σ : L2.St} {H : Hp} {D : Ends} {i : Nat} (h : LS F Wx (dAsg i da) D σ H) : tAsg (LE F Wx da) (gName i) D σ H := by
  obtain ⟨env, S, ι, B, R, E, h⟩ := h
  exact LE.thenS R E h fun u S1 v H1 ι1 G1 R1 E1 ru h1 => h1 _ H1 ι1 .refl R1 (E1.set i ru)
theorem sv_set {i : Nat} {x : Str} (hN : X.N.Nodup) (hi : X.N[i]? = some x) (hx : Loc X.env.scope x) (he : PEv ec X e da) (hs : swapsWith e (some (.Name x pos')) pos.line X.env = pure false := by rfl)
    (hf : X.fn x = true ∨ X.env.scope.names.lookup x = some .local := by first | exact .inl rfl | exact .inr rfl) : PSv ec X (.Assign [.Name x pos'] e pos) (dAsg i da) :=
  ⟨fun pn xe Wx tk po => (ps_set (X := X.tr pn xe) hN hi hx (he.run pn xe Wx tk) hs hf).imp fun D σ H h => asg_reads h⟩
/-- .. given away at once -/
def dAsgF (i : Nat) (d : DE) : DS := dSeq (dAsg i d) (dFrzV i)
def dDrop (d : DE) : DS := fun e S => (d e S).st e fun _ S1 => .ok (.nx e) S1
theorem sv_expr (he : PEv ec X e da) (hs : swapsWith e none pos.line X.env = pure false := by rfl) : PSv ec X (.Expr e pos) (dDrop da) :=
  ⟨fun pn xe Wx tk po => (ps_expr (X := X.tr pn xe) (he.run pn xe Wx tk) hs).imp fun D σ H ⟨env, S, ι, B, R, E, h⟩ => LE.thenS R E h fun u S1 v H1 ι1 G1 R1 E1 ru h1 => h1 _ H1 ι1 .refl R1 E1⟩
def dIfS (c : DT) (a b : DS) : DS := fun e S => (c e S).st e fun k S1 => if k = true then a e S1 else b e S1
theorem sv_if {sa sb : List Stmt} (hc : PTv ec X c tc) (ha : PSsv ec X sa ds) (hb : PSsv ec X sb dt) : PSv ec X (.If c sa sb pos) (dIfS tc ds dt) :=
  ⟨fun pn xe Wx tk po => (ps_if (hc.run pn xe Wx tk) (ha.run pn xe Wx tk po) (hb.run pn xe Wx tk po)).imp fun D σ H ⟨env, S, ι, B, R, E, h⟩ => LT.thenS R E h fun k S1 H1 ι1 G1 R1 E1 h1 => by
    cases k with
    | true => exact ⟨env, S1, ι1, B, R1, E1, h1⟩
    | false => exact ⟨env, S1, ι1, B, R1, E1, h1⟩⟩

/-! ### own lists, dicts changed -/
section
variable {F : Fx} {Wx : WX} {σ : L2.St} {H : Hp} {ι : List Addr} {S : Store} {B : Addr → Prop}
theorem ow_set {o o' : Ob} {n : Nat} (h : S[n]? = some o) (hd : o ≠ Ob.dead) (hd' : o' ≠ Ob.dead) (b : Addr) : Ow ι (S.set n o') b ↔ Ow ι S b := by
  have hn : n < S.length := (List.getElem?_eq_some_iff.mp h).1
  constructor
  · rintro ⟨m, q, h1, h2, h3⟩
    rw [List.getElem?_set] at h1
    split at h1
    · rename_i hm; subst hm; exact ⟨_, o, h, hd, h3⟩
    · exact ⟨m, q, h1, h2, h3⟩
  · rintro ⟨m, q, h1, h2, h3⟩
    by_cases hm : n = m
    · subst hm; exact ⟨n, o', by rw [List.getElem?_set_self hn], hd', h3⟩
    · exact ⟨m, q, by rw [List.getElem?_set_ne hm]; exact h1, h2, h3⟩
/-- an own object written -/
theorem RS.write (R : RS F ι S B H) {n : Nat} {o o' : Ob} {a : Addr} {ho : HO} (h : S[n]? = some o) (hd : o ≠ Ob.dead) (ha : ι[n]? = some a) (hob : NewOb F H (Oq ι S B) ho o') :
    RS F ι (S.set n o') B (upd H a ho) ∧ Go ι S H ι (S.set n o') (upd H a ho) := by
  have hd' : o' ≠ Ob.dead := by rintro rfl; exact hob
  have hn : n < S.length := (List.getElem?_eq_some_iff.mp h).1
  have oa : Ow ι S a := ⟨n, o, h, hd, ha⟩
  have G : Go ι S H ι (S.set n o') (upd H a ho) := ⟨fun x y hx nx => by rw [upd_ne (fun z => nx (by rw [z]; exact oa))]; exact hx, fun b z => .inl ((ow_set h hd hd' b).mp z), [], by simp⟩
  refine ⟨⟨by simp [R.len], R.nd, fun m q b h1 h2 => ?_, fun b hb => ?_⟩, G⟩
  · by_cases hm : n = m
    · subst hm
      rw [ha] at h2; cases h2
      rw [List.getElem?_set_self hn] at h1
      cases h1
      cases o' with
      | lst ws => obtain ⟨vs, rfl, r⟩ := hob; exact ⟨vs, upd_same, r.go G⟩
      | dct ws => obtain ⟨vs, rfl, r⟩ := hob; exact ⟨vs, upd_same, r.go G⟩
      | scr ws => exact hob.elim
      | tbl x q => exact hob.elim
      | dead => exact absurd rfl hd'
    · rw [List.getElem?_set_ne hm] at h1
      have hne : b ≠ a := by
        rintro rfl
        obtain ⟨h4, h5⟩ := List.getElem?_eq_some_iff.mp ha
        obtain ⟨h6, h7⟩ := List.getElem?_eq_some_iff.mp h2
        exact hm ((List.getElem_inj R.nd).mp (h5.trans h7.symm))
      have z := R.ob m q b h1 h2
      cases q with
      | lst ws => obtain ⟨vs, e, r⟩ := z; exact ⟨vs, by rw [upd_ne hne]; exact e, r.go G⟩
      | dct ws => obtain ⟨vs, e, r⟩ := z; exact ⟨vs, by rw [upd_ne hne]; exact e, r.go G⟩
      | scr ws => obtain ⟨vs, y, e, d, r⟩ := z; exact ⟨vs, y, by rw [upd_ne hne]; exact e, d.imp (fun d => by rw [upd_ne hne]; exact d) fun ⟨o, d⟩ => ⟨o, by rw [upd_ne hne]; exact d⟩, r.go G⟩
      | tbl x q => exact TblR.ext z G.extq G.ownq fun _ e => by rw [upd_ne hne]; exact e
      | dead => obtain ⟨y, e⟩ := z; exact ⟨y, by rw [upd_ne hne]; exact e⟩
  · obtain ⟨⟨y, e⟩, nb⟩ := R.hid b hb
    exact ⟨⟨y, by rw [upd_ne (fun z => nb (by rw [z]; exact List.mem_of_getElem? ha))]; exact e⟩, nb⟩
theorem RS.lst (R : RS F ι S B H) {n : Nat} {l : List W} {a : Addr} (h : S[n]? = some (.lst l)) (ha : ι[n]? = some a) : ∃ vs, H a = some (.lst vs) ∧ RpL F H (Oq ι S B) l vs := R.ob n _ a h ha
theorem RS.dct (R : RS F ι S B H) {n : Nat} {l : List (W × W)} {a : Addr} (h : S[n]? = some (.dct l)) (ha : ι[n]? = some a) : ∃ vs, H a = some (.dK vs) ∧ RpD F H (Oq ι S B) l vs := R.ob n _ a h ha
end
/-- xs[i] = v -/
def dSetL (o i v : DE) : DS := fun e S => (v e S).st e fun uv S1 => (o e S1).st e fun uo S2 => (i e S2).st e fun ui S3 => match uv, uo, ui with
  | .v w, .o n, .v (.int k) => match S3[n]? with
    | some (.lst l) => match ixN l.length k with
      | some j => .ok (.nx e) (S3.set n (.lst (l.set j w)))
      | none => .no
    | _ => .no
  | _, _, _ => .no
theorem sv_setL {i : Expr} (ho : PEv ec X o da) (hi : PEv ec X i db) (hv : PEv ec X e dc) (hs : swapsWithSole [.Subscript o i p] e pos.line X.env = pure false := by rfl) (hw : swappedStores [.Subscript o i p] e X.env = pure none := by rfl)
    (h1 : (assignEach [.Subscript o i p] X.env).map (·.2) = [assign (.Subscript o i p) X.env] := by rfl)
    (h2 : ∀ v, assign (.Subscript o i p) X.env v = (do
      let ov ← holding [v] (eval o X.env)
      let iv ← holding [v, ov] (eval i X.env)
      standAt p
      holding [v, ov, iv] (setItem ov iv v)
      release [v, ov, iv] []) := by intro _; rfl) : PSv ec X (.Assign [.Subscript o i p] e pos) (dSetL da db dc) :=
  ⟨fun pn xe Wx tk po => (ps_asg (X := X.tr pn xe) (hv.run pn xe Wx tk) (pg_sub (ho.run pn xe Wx tk) (hi.run pn xe Wx tk) set_list h2) hs hw h1).imp fun D σ H ⟨env, S, ι, B, R, E, h⟩ =>
    LE.thenS R E h fun uv S1 v H1 ι1 G1 R1 E1 rv h1 => LE.thenS R1 E1 h1 fun uo S2 vo H2 ι2 G2 R2 E2 ro h2 => LE.thenS R2 E2 h2 fun ui S3 vi H3 ι3 G3 R3 E3 ri h3 => by
      have rv3 := RU.go G3 (RU.go G2 rv)
      have ro3 := RU.go G3 ro
      cases uv with
      | o n => exact h3.elim
      | v w =>
        cases uo with
        | v z => exact h3.elim
        | o n =>
          cases ui with
          | o m => exact h3.elim
          | v k =>
            cases k with
            | int k =>
              simp only at h3
              obtain ⟨aa, ha, rfl⟩ := ro3
              cases e1 : S3[n]? with
              | none => simp only [e1] at h3; exact h3.elim
              | some ob =>
                cases ob with
                | lst l =>
                  simp only [e1] at h3
                  obtain ⟨vs, hH, rl⟩ := R3.lst e1 ha
                  cases e2 : ixN l.length k with
                  | none => simp only [e2] at h3; exact h3.elim
                  | some j =>
                    simp only [e2] at h3
                    obtain ⟨R4, G4⟩ := R3.write (o' := .lst (l.set j w)) (ho := .lst (vs.set j v)) e1 (by simp) ha ⟨_, rfl, rl.set j rv3⟩
                    exact ⟨aa, vs, k, j, rfl, Rp.int_inv ri, hH, by rw [← rl.1]; exact e2, h3 _ _ ι3 G4 R4 (E3.go G4)⟩
                | _ => simp only [e1] at h3; exact h3.elim
            | _ => exact h3.elim⟩
def putW (k w : W) (l : List (W × W)) : List (W × W) := if (l.any fun p => eqK p.1 k) = true then l.map fun p => if eqK p.1 k = true then (p.1, w) else p else l ++ [(k, w)]
theorem put_rp {F : Fx} {H : Hp} {O : Addr → Prop} {ws : List (W × W)} {kvs : List (Key × V)} {k w : W} {κ : Key} {v : V} (r : RpD F H O ws kvs) (hk : Rp F H O k (kV κ)) (hv : Rp F H O w v) : RpD F H O (putW k w ws) (putK kvs κ v) := by
  have hkk := key_of_rp hk
  have any : ∀ {ws : List (W × W)} {kvs : List (Key × V)}, RpD F H O ws kvs → (ws.any fun p => eqK p.1 k) = kvs.any fun kv => decide (kv.1 = κ) := by
    intro ws
    induction ws with
    | nil => intro kvs r; rw [r.nil_iff]; rfl
    | cons p ws ih =>
      intro kvs r
      obtain ⟨κ', v', kvs', rfl, h1, h2, r'⟩ := r.cons_iff
      rw [List.any_cons, List.any_cons, ih r', eqK_iff (key_of_rp h1) hkk]
  have mp : ∀ {ws : List (W × W)} {kvs : List (Key × V)}, RpD F H O ws kvs → RpD F H O (ws.map fun p => if eqK p.1 k = true then (p.1, w) else p) (kvs.map fun kv => if kv.1 = κ then (kv.1, v) else kv) := by
    intro ws
    induction ws with
    | nil => intro kvs r; rw [r.nil_iff]; exact .nil
    | cons p ws ih =>
      intro kvs r
      obtain ⟨κ', v', kvs', rfl, h1, h2, r'⟩ := r.cons_iff
      rw [List.map_cons, List.map_cons]
      rw [eqK_iff (key_of_rp h1) hkk]
      by_cases hc : κ' = κ
      · simp only [hc, decide_true, if_true]
        subst hc
        exact .cons h1 hv (ih r')
      · simp only [hc, decide_false, if_false]
        exact .cons h1 h2 (ih r')
  have app : ∀ {ws : List (W × W)} {kvs : List (Key × V)}, RpD F H O ws kvs → RpD F H O (ws ++ [(k, w)]) (kvs ++ [(κ, v)]) := by
    intro ws
    induction ws with
    | nil => intro kvs r; rw [r.nil_iff]; exact .cons hk hv .nil
    | cons p ws ih =>
      intro kvs r
      obtain ⟨κ', v', kvs', rfl, h1, h2, r'⟩ := r.cons_iff
      exact .cons h1 h2 (ih r')
  unfold putW putK
  rw [any r]
  split
  · exact mp r
  · exact app r
/-- d[k] = v -/
def dSetD (o i v : DE) : DS := fun e S => (v e S).st e fun uv S1 => (o e S1).st e fun uo S2 => (i e S2).st e fun ui S3 => match uv, uo, ui with
  | .v w, .o n, .v k => match S3[n]? with
    | some (.dct l) => if isKey k = true ∧ l.length < 16777216 then .ok (.nx e) (S3.set n (.dct (putW k w l))) else .no
    | _ => .no
  | _, _, _ => .no
theorem sv_setD {i : Expr} (hu : X.A.units + 65 < cLine) (ho : PEv ec X o da) (hi : PEv ec X i db) (hv : PEv ec X e dc) (hs : swapsWith e (some (.Subscript o i p)) pos.line X.env = pure false := by rfl) : PSv ec X (.Assign [.Subscript o i p] e pos) (dSetD da db dc) :=
  ⟨fun pn xe Wx tk po => (ps_dput (X := X.tr pn xe) (by show X.A.units + 1 < cLine; omega) (ho.run pn xe Wx tk) (hi.run pn xe Wx tk) (hv.run pn xe Wx tk) hs).imp fun D σ H ⟨env, S, ι, B, R, E, h⟩ =>
    LE.thenS R E h fun uv S1 v H1 ι1 G1 R1 E1 rv h1 => LE.thenS R1 E1 h1 fun uo S2 vo H2 ι2 G2 R2 E2 ro h2 => LE.thenS R2 E2 h2 fun ui S3 vi H3 ι3 G3 R3 E3 ri h3 => by
      have rv3 := RU.go G3 (RU.go G2 rv)
      have ro3 := RU.go G3 ro
      cases uv with
      | o n => exact h3.elim
      | v w =>
        cases uo with
        | v z => exact h3.elim
        | o n =>
          cases ui with
          | o m => exact h3.elim
          | v k =>
            simp only at h3
            obtain ⟨aa, ha, rfl⟩ := ro3
            cases e1 : S3[n]? with
            | none => simp only [e1] at h3; exact h3.elim
            | some ob =>
              cases ob with
              | dct l =>
                simp only [e1] at h3
                obtain ⟨vs, hH, rl⟩ := R3.dct e1 ha
                split at h3
                · rename_i hc
                  have ri' : Rp (fx ec X) H3 (Oq ι3 S3 B) k vi := ri
                  obtain ⟨κ, hκ, rfl⟩ := isKey_k hc.1 ri'
                  obtain ⟨R4, G4⟩ := R3.write (o' := .dct (putW k w l)) (ho := .dK (putK vs κ v)) e1 (by simp) ha ⟨_, rfl, put_rp rl ri' rv3⟩
                  exact ⟨aa, _, rfl, DPut.k hH (by rw [← rl.1, sizeLine_is]; exact hc.2), h3 _ _ ι3 G4 R4 (E3.go G4)⟩
                · exact h3.elim
              | _ => simp only [e1] at h3; exact h3.elim⟩
end
end Bel

/-! The engine, ninth part: targets, loops, comprehensions. -/
namespace Bel
open PySem PySem.Spec PyProof.Rows L2
/-! ### targets -/
/-- what a target's reading g does with plain values: t; sl: the slots that it stores -/
def GSem (F : Fx) (g : TG) (t : W → Env' → Option Env') (sl : List Nat) : Prop := ∀ (w : W) (e e' : Env'), t w e = some e' → ∀ (v : V) (σ : L2.St) (H : Hp) (ι : List Addr) (S : Store) (B : Addr → Prop) (Q : L2.St → Hp → Prop),
    Rp F H (Oq ι S B) w v → ER F H ι S B e σ → (∀ σ', ER F H ι S B e' σ' → (∀ vs : List Nat, (∀ i ∈ sl, i ∈ vs) → wipe σ' vs = wipe σ vs) → Q σ' H) → g v σ H Q
def GsSem (F : Fx) (g : TGs) (t : List W → Env' → Option Env') (sl : List Nat) : Prop := ∀ (w : List W) (e e' : Env'), t w e = some e' → ∀ (v : List V) (σ : L2.St) (H : Hp) (ι : List Addr) (S : Store) (B : Addr → Prop) (Q : L2.St → Hp → Prop),
    RpL F H (Oq ι S B) w v → ER F H ι S B e σ → (∀ σ', ER F H ι S B e' σ' → (∀ vs : List Nat, (∀ i ∈ sl, i ∈ vs) → wipe σ' vs = wipe σ vs) → Q σ' H) → g v σ H Q
structure PGv (ec : Nat → Value) (X : Cx) (tg : Expr) (g : TG) (t : W → Env' → Option Env') (sl : List Nat) : Prop where
  pg : ∀ pn xe, PG (X.tr pn xe) tg g
  sem : GSem (fx ec X) g t sl
structure PGsv (ec : Nat → Value) (X : Cx) (tgs : List Expr) (g : TGs) (t : List W → Env' → Option Env') (sl : List Nat) : Prop where
  pg : ∀ pn xe, PGs (X.tr pn xe) tgs g
  sem : GsSem (fx ec X) g t sl
theorem wipe_get (σ : L2.St) : ∀ (vs : List Nat) (j : Nat), (wipe σ vs)[j]? = if j ∈ vs then (σ[j]?).map fun _ => none else σ[j]?
  | [], j => by simp [wipe]
  | v :: vs, j => by
    have ih := wipe_get σ vs j
    unfold wipe
    rw [List.getElem?_set]
    by_cases hv : v = j
    · subst hv
      rw [if_pos rfl, if_pos List.mem_cons_self, wipe_length]
      by_cases hl : v < σ.length
      · rw [if_pos hl]; simp [hl]
      · rw [if_neg hl]; simp [hl]
    · rw [if_neg hv, ih]
      by_cases hm : j ∈ vs
      · rw [if_pos hm, if_pos (List.mem_cons_of_mem _ hm)]
      · rw [if_neg hm, if_neg (by simp only [List.mem_cons, not_or]; exact ⟨fun e => hv e.symm, hm⟩)]
theorem wipe_set (σ : L2.St) (i : Nat) (x : Option V) (vs : List Nat) (h : i ∈ vs) : wipe (σ.set i x) vs = wipe σ vs := by
  apply List.ext_getElem?
  intro j
  rw [wipe_get, wipe_get, List.getElem?_set]
  by_cases hj : j ∈ vs
  · rw [if_pos hj, if_pos hj]
    by_cases hij : i = j
    · subst hij
      rw [if_pos rfl]
      by_cases hl : i < σ.length
      · rw [if_pos hl]; simp [hl]
      · rw [if_neg hl]; simp [hl]
    · rw [if_neg hij]
  · rw [if_neg hj, if_neg hj, if_neg (fun e => hj (by rw [← e]; exact h))]
def wipeE (e : Env') : List Nat → Env'
  | [] => e
  | v :: vs => (wipeE e vs).set v none
theorem ER.wipe {F : Fx} {H : Hp} {ι : List Addr} {S : Store} {B : Addr → Prop} {e : Env'} {σ : L2.St} (E : ER F H ι S B e σ) : ∀ vs : List Nat, ER F H ι S B (wipeE e vs) (L2.wipe σ vs)
  | [] => E
  | v :: vs => (ER.wipe E vs).unset v
def tgN (i : Nat) : W → Env' → Option Env' := fun w e => some (e.set i (some (.v w)))
def tgs0 : List W → Env' → Option Env'
  | [], e => some e
  | _ :: _, _ => none
def tgs1 (t : W → Env' → Option Env') (r : List W → Env' → Option Env') : List W → Env' → Option Env'
  | [], _ => none
  | w :: ws, e => (t w e).bind (r ws)
def tgT (n : Nat) (r : List W → Env' → Option Env') : W → Env' → Option Env'
  | .tup ws, e => if ws.length = n then r ws e else none
  | _, _ => none
section
variable {ec : Nat → Value} {X : Cx} {e a b c o tg iter : Expr} {es : List Expr} {st : Stmt} {rest body : List Stmt} {pos pos' p p2 : Pos} {da db dc : DE} {tc : DT} {ds dt : DS}
theorem gv_name {i : Nat} {x : Str} (hN : X.N.Nodup) (hi : X.N[i]? = some x) (hx : Loc X.env.scope x) (hf : X.fn x = true ∨ X.env.scope.names.lookup x = some .local := by first | exact .inl rfl | exact .inr rfl) : PGv ec X (.Name x pos) (gName i) (tgN i) [i] := by
  refine ⟨fun pn xe => pg_name (X := X.tr pn xe) hN hi hx hf, fun w e e' h v σ H ι S B Q r E k => ?_⟩
  cases some_inj h
  exact k _ (E.set i (u := .v w) r) fun vs hv => wipe_set σ i _ vs (hv i List.mem_cons_self)
theorem gsv_nil : PGsv ec X [] gNil tgs0 [] := by
  refine ⟨fun pn xe => pgs_nil, fun w e e' h v σ H ι S B Q r E k => ?_⟩
  cases w with
  | nil => cases some_inj h; exact ⟨r.nil_iff, k σ E fun _ _ => rfl⟩
  | cons _ _ => cases h
theorem gsv_cons {g : TG} {gs : TGs} {t : W → Env' → Option Env'} {ts : List W → Env' → Option Env'} {sl sls : List Nat} (h1 : PGv ec X e g t sl) (h2 : PGsv ec X es gs ts sls)
    (hs : (assignEach (e :: es) X.env).map (·.2) = assign e X.env :: (assignEach es X.env).map (·.2) := by rfl) : PGsv ec X (e :: es) (gCons g gs) (tgs1 t ts) (sl ++ sls) := by
  obtain ⟨a1, a2⟩ := h1
  obtain ⟨b1, b2⟩ := h2
  refine ⟨fun pn xe => pgs_cons (X := X.tr pn xe) (a1 pn xe) (b1 pn xe) hs, fun w e e' h v σ H ι S B Q r E k => ?_⟩
  cases w with
  | nil => cases h
  | cons w ws =>
    obtain ⟨v1, vs, rfl, r1, r2⟩ := r.cons_iff
    obtain ⟨e1, h3, h4⟩ := Option.bind_eq_some_iff.mp h
    refine ⟨v1, vs, rfl, a2 w e e1 h3 v1 σ H ι S B _ r1 E fun σ1 E1 w1 => ?_⟩
    refine b2 ws e1 e' h4 vs σ1 H ι S B _ r2 E1 fun σ2 E2 w2 => k σ2 E2 fun l hl => ?_
    rw [w2 l fun i hi => hl i (List.mem_append_right _ hi), w1 l fun i hi => hl i (List.mem_append_left _ hi)]
theorem gv_tup {gs : TGs} {ts : List W → Env' → Option Env'} {sls : List Nat} {k n : Nat} (hc : X.calm = true) (h : PGsv ec X es gs ts sls) (hn : (assignEach es X.env).length = n := by rfl) (hst : (assignEach es X.env).findIdx? (·.1) = none := by rfl) : PGv ec X (.Tuple es k pos) (gTup X.K n gs) (tgT n ts) sls := by
  obtain ⟨b1, b2⟩ := h
  refine ⟨fun pn xe => pg_tup (X := X.tr pn xe) hc (b1 pn xe) hn hst, fun w e e' h v σ H ι S B Q r E k => ?_⟩
  cases w with
  | tup ws =>
    simp only [tgT] at h
    split at h
    · rename_i hl
      obtain ⟨a, vs, rfl, h1, r1⟩ := r.tup_inv
      exact ⟨a, vs, rfl, h1.sq, by rw [← r1.1]; exact hl, b2 ws e e' h vs σ H ι S B Q r1 E k⟩
    · cases h
  | _ => cases h
/-- target = e, by a plain value -/
def dAsgT (t : W → Env' → Option Env') (d : DE) : DS := fun e S => (d e S).st e fun u S1 => match u with
  | .v w => match t w e with
    | some e' => .ok (.nx e') S1
    | none => .no
  | .o _ => .no
theorem sv_asgT {g : TG} {t : W → Env' → Option Env'} {sl : List Nat} (hv : PEv ec X e da) (hg : PGv ec X tg g t sl) (hs : swapsWithSole [tg] e pos.line X.env = pure false := by rfl) (hw : swappedStores [tg] e X.env = pure none := by rfl)
    (h1 : (assignEach [tg] X.env).map (·.2) = [assign tg X.env] := by rfl) : PSv ec X (.Assign [tg] e pos) (dAsgT t da) := by
  obtain ⟨a1, a2⟩ := hg
  exact ⟨fun pn xe Wx tk po => (ps_asg (X := X.tr pn xe) (hv.run pn xe Wx tk) (a1 pn xe) hs hw h1).imp fun D σ H ⟨env, S, ι, B, R, E, h⟩ => LE.thenS R E h fun u S1 v H1 ι1 G1 R1 E1 ru h1 => by
    cases u with
    | o n => exact h1.elim
    | v w =>
      simp only at h1
      cases e1 : t w env with
      | none => simp only [e1] at h1; exact h1.elim
      | some e' =>
        simp only [e1] at h1
        exact a2 w env e' e1 v σ H1 ι1 S1 B _ ru E1 fun σ' E' _ => h1 σ' H1 ι1 .refl R1 E'⟩
/-- a, b = x, y -/
def dPar (i j : Nat) (a : DA) : DS := fun e S => (a e S).st e fun us S1 => match us with
  | [u, v] => .ok (.nx ((e.set i (some u)).set j (some v))) S1
  | _ => .no
theorem sv_par {i j : Nat} {x y : Str} {px py pt : Pos} {kt k2 pt2} {das : DA} (hc : X.calm = true) (hN : X.N.Nodup) (hi : X.N[i]? = some x) (hj : X.N[j]? = some y) (hij : i ≠ j)
    (hx : X.env.scope.names.lookup x = some .local) (hy : X.env.scope.names.lookup y = some .local) (ha : PAv ec X [a, b] das)
    (hw : swappedStores [.Tuple [.Name x px, .Name y py] kt pt] (.Tuple [a, b] k2 pt2) X.env = pure (some [x, y]) := by rfl)
    (hs : swapsWithSole [.Tuple [.Name x px, .Name y py] kt pt] (.Tuple [a, b] k2 pt2) pos.line X.env = pure false := by rfl) :
    PSv ec X (.Assign [.Tuple [.Name x px, .Name y py] kt pt] (.Tuple [a, b] k2 pt2) pos) (dPar i j das) :=
  ⟨fun pn xe Wx tk po => (ps_par (X := X.tr pn xe) hc hN hi hj hij hx hy (ha.run pn xe Wx tk) hw hs).imp fun D σ H ⟨env, S, ι, B, R, E, h⟩ => by
    refine ⟨env, S, ι, B, R, E, ?_⟩
    unfold dPar at h
    cases ee : das env S with
    | ok us S1 =>
      rw [ee] at h
      intro vs H1 ι1 G1 R1 rs
      simp only [Re.st_ok] at h
      split at h
      · rename_i u v
        cases rs with
        | cons r1 r2 =>
          cases r2 with
          | cons r2 r3 =>
            cases r3
            exact ⟨_, _, rfl, h _ H1 ι1 G1 R1 (((E.go G1).set i r1).set j r2)⟩
      · exact h.elim
    | ex c S1 => rw [ee] at h; exact fun H1 ι1 G1 R1 => h σ H1 ι1 G1 R1 (E.go G1)
    | no => rw [ee] at h; exact h⟩

/-! ### what is walked -/
abbrev DI := Env' → Store → Re (List W)
def WalkW (F : Fx) (ι : List Addr) (S : Store) (B : Addr → Prop) (H : Hp) (J : It) (ws : List W) : Prop := ∃ (G : Hp → Prop) (Y : Nat → Hp → V → Hp → Prop), Walk J ws.length G Y ∧
  ∀ (ι1 : List Addr) (S1 : Store) (B1 : Addr → Prop) (H1 : Hp), Ext (Oq ι S B) H H1 → Own (Oq ι S B) (Oq ι1 S1 B1) H → RS F ι1 S1 B1 H1 →
    G H1 ∧ ∀ (i : Nat) (x : V) (H2 : Hp) (w : W), ws[i]? = some w → Y i H1 x H2 → Rp F H2 (Oq ι1 S1 B1) w x ∧ RS F ι1 S1 B1 H2 ∧ Go ι1 S1 H1 ι1 S1 H2 ∧ ∀ y z, H1 y = some z → H2 y = some z
def PoI (F : Fx) (Wx : WX) (σ : L2.St) (ι : List Addr) (S : Store) (B : Addr → Prop) (H : Hp) (r : Re (List W)) (R : It → Hp → Prop) : Prop := match r with
  | .ok ws S' => ∀ J H' ι', Go ι S H ι' S' H' → RS F ι' S' B H' → WalkW F ι' S' B H' J ws → R J H'
  | .ex c S' => ∀ H' ι', Go ι S H ι' S' H' → RS F ι' S' B H' → Wx (F.ec c) none σ H'
  | .no => False
def LI (F : Fx) (Wx : WX) (d : DI) : TI := fun σ H R => ∃ (env : Env') (S : Store) (ι : List Addr) (B : Addr → Prop), RS F ι S B H ∧ ER F H ι S B env σ ∧ PoI F Wx σ ι S B H (d env S) R
theorem _root_.L2.PI.imp {X : Cx} {tg e : Expr} {t t' : TI} (h : PI X tg e t) (hh : ∀ σ H Q, t' σ H Q → t σ H Q) : PI X tg e t' := ⟨fun pins s σ H Q I q => h.run pins s σ H Q I (hh σ H Q q)⟩
structure PIv (ec : Nat → Value) (X : Cx) (tg e : Expr) (d : DI) : Prop where
  run : ∀ (pn : List (Addr × Obj)) (xe : Value → Shared → Prop) (Wx : WX), Takes (X.tr pn xe) Wx → PI (X.tr pn xe) tg e (LI (fx ec X) Wx d)
/-- a list, a tuple that stays -/
def dItems (d : DE) : DI := fun e S => (d e S).bind fun u S1 => match u with
  | .v (.lst l) => .ok l S1
  | .v (.tup l) => .ok l S1
  | _ => .no
section
variable {F : Fx} {Wx : WX} {σ : L2.St} {H : Hp} {ι : List Addr} {S : Store} {B : Addr → Prop} {env : Env'}
theorem LE.thenI (R : RS F ι S B H) (E : ER F H ι S B env σ) {a : DE} {g : U → Store → Re (List W)} {RR : It → Hp → Prop} (h : PoI F Wx σ ι S B H ((a env S).bind g) RR)
    {Q1 : VK} (k : ∀ u S1 v H1 ι1, Go ι S H ι1 S1 H1 → RS F ι1 S1 B H1 → ER F H1 ι1 S1 B env σ → RU F H1 ι1 S1 B u v → PoI F Wx σ ι1 S1 B H1 (g u S1) RR → Q1 v H1) : LE F Wx a σ H Q1 := by
  refine ⟨env, S, ι, B, R, E, ?_⟩
  cases e : a env S with
  | ok u S1 =>
    rw [e] at h
    refine fun v H1 ι1 G R1 r => k u S1 v H1 ι1 G R1 (E.go G) r ?_
    simp only [Re.bind_ok] at h
    cases e2 : g u S1 with
    | ok ws S2 => rw [e2] at h; exact fun J H' ι' G' => h J H' ι' (G.trans G')
    | ex c S2 => rw [e2] at h; exact fun H' ι' G' => h H' ι' (G.trans G')
    | no => rw [e2] at h; exact h
  | ex c S1 => rw [e] at h; exact h
  | no => rw [e] at h; exact h
theorem walkW_lst {a : Addr} {vs : List V} {ws : List W} (h : FLst H (Oq ι S B) a vs) (r : RpL F H (Oq ι S B) ws vs) : WalkW F ι S B H (Itl F.K a) ws := by
  refine ⟨_, _, by rw [r.1]; exact walk_list (K := F.K) (a := a) (xs := vs), fun ι1 S1 B1 H1 x o R1 => ⟨(h.ext x o).sq, fun i y H2 w hw hy => ?_⟩⟩
  obtain ⟨rfl, hy⟩ := hy
  obtain ⟨v, hv, rv⟩ := r.get hw
  rw [hv] at hy; cases hy
  exact ⟨rv.ext x o, R1, .refl, fun _ _ z => z⟩
theorem walkW_tup {a : Addr} {vs : List V} {ws : List W} (h : FTup F H (Oq ι S B) a vs) (r : RpL F H (Oq ι S B) ws vs) : WalkW F ι S B H (Itt F.K a) ws := by
  refine ⟨_, _, by rw [r.1]; exact walk_tup (K := F.K) (a := a) (xs := vs), fun ι1 S1 B1 H1 x o R1 => ⟨(h.ext x o).sq, fun i y H2 w hw hy => ?_⟩⟩
  obtain ⟨rfl, hy⟩ := hy
  obtain ⟨v, hv, rv⟩ := r.get hw
  rw [hv] at hy; cases hy
  exact ⟨rv.ext x o, R1, .refl, fun _ _ z => z⟩
end
/-- a list that stays -/
def dItL (d : DE) : DI := fun e S => (d e S).bind fun u S1 => match u with
  | .v (.lst l) => .ok l S1
  | _ => .no
def dItT (d : DE) : DI := fun e S => (d e S).bind fun u S1 => match u with
  | .v (.tup l) => .ok l S1
  | _ => .no
theorem iv_list (h : PEv ec X e da) : PIv ec X tg e (dItL da) :=
  ⟨fun pn xe Wx tk => (pi_list (h.run pn xe Wx tk)).imp fun σ H Q ⟨env, S, ι, B, R, E, h⟩ => LE.thenI R E h fun u S1 v H1 ι1 G1 R1 E1 ru h1 => by
    cases u with
    | o n => exact h1.elim
    | v w =>
      cases w with
      | lst l =>
        obtain ⟨a, vs, rfl, h2, r⟩ := Rp.lst_inv ru
        exact ⟨a, rfl, ⟨vs, h2.sq (F := fx ec X)⟩, h1 _ H1 ι1 .refl R1 (walkW_lst h2 r)⟩
      | _ => exact h1.elim⟩
theorem iv_tuple (h : PEv ec X e da) : PIv ec X tg e (dItT da) :=
  ⟨fun pn xe Wx tk => (pi_tup (h.run pn xe Wx tk)).imp fun σ H Q ⟨env, S, ι, B, R, E, h⟩ => LE.thenI R E h fun u S1 v H1 ι1 G1 R1 E1 ru h1 => by
    cases u with
    | o n => exact h1.elim
    | v w =>
      cases w with
      | tup l =>
        obtain ⟨a, vs, rfl, h2, r⟩ := Rp.tup_inv ru
        exact ⟨a, rfl, ⟨vs, h2.sq (F := fx ec X)⟩, h1 _ H1 ι1 .refl R1 (walkW_tup h2 r)⟩
      | _ => exact h1.elim⟩
/-- a text, sign by sign -/
def dItS (d : DE) : DI := fun e S => (d e S).bind fun u S1 => match u with
  | .v (.str x) => .ok (x.map fun c => .str [c]) S1
  | _ => .no
theorem iv_str (h : PEv ec X e da) : PIv ec X tg e (dItS da) :=
  ⟨fun pn xe Wx tk => (pi_str (h.run pn xe Wx tk)).imp fun σ H Q ⟨env, S, ι, B, R, E, h⟩ => LE.thenI R E h fun u S1 v H1 ι1 G1 R1 E1 ru h1 => by
    cases u with
    | o n => exact h1.elim
    | v w =>
      cases w with
      | str l =>
        obtain ⟨rfl, h2, h3⟩ := Rp.str_inv ru
        refine ⟨_, rfl, h1 _ H1 ι1 .refl R1 ⟨_, _, (by have := walk_str (z := (⟨l.toArray⟩ : Str)); rw [List.length_map]; exact this), fun ι2 S2 B2 H2 x o R2 => ⟨trivial, fun i y H3 w hw hy => ?_⟩⟩⟩
        · obtain ⟨rfl, c, hc, rfl⟩ := hy
          rw [List.getElem?_map] at hw
          have hc' : l[i]? = some c := by simpa using hc
          rw [hc'] at hw
          cases some_inj hw
          have hm : c ∈ l := List.mem_of_getElem? hc'
          have := List.all_eq_true.mp h3 c hm
          exact ⟨.str [c] one_line (by simp [this]), R2, .refl, fun _ _ z => z⟩
      | _ => exact h1.elim⟩
/-- range(n) -/
def dRng1 (d : DE) : DI := fun e S => (d e S).bind fun u S1 => match u with
  | .v (.int n) => if n < 2 ^ 62 ∧ -(2 ^ 62) ≤ n then .ok ((List.range n.toNat).map fun i => .int (Int.ofNat i)) S1 else .no
  | _ => .no
theorem walkW_rng {F : Fx} {ι : List Addr} {S : Store} {B : Addr → Prop} {H : Hp} (lo : Int) (n : Nat) : WalkW F ι S B H (Itr lo n) ((List.range n).map fun i => .int (lo + Int.ofNat i)) := by
  refine ⟨_, _, by rw [List.length_map, List.length_range]; exact walk_range (lo := lo) (n := n), fun ι1 S1 B1 H1 x o R1 => ⟨trivial, fun i y H2 w hw hy => ?_⟩⟩
  obtain ⟨rfl, rfl⟩ := hy
  have hi : i < n := by
    obtain ⟨h1, _⟩ := List.getElem?_eq_some_iff.mp hw
    simpa using h1
  rw [List.getElem?_map, List.getElem?_range hi] at hw
  cases some_inj hw
  exact ⟨.int _, R1, .refl, fun _ _ z => z⟩
theorem rng0 (n : Nat) : ((List.range n).map fun i => W.int (Int.ofNat i)) = (List.range n).map fun i => W.int (0 + Int.ofNat i) := by
  apply List.map_congr_left
  intro i _
  rw [Int.zero_add]
theorem iv_rng1 (hg : Gl X "range") (hm : X.mg "range" = none) (h : PEv ec X e da) (h1 : starEach [e] X.env = (false, eval e X.env) :: starEach [] X.env := by rfl) (hs : starEach [e] X.env = [(false, eval e X.env)] := by rfl) : PIv ec X tg (.Call (.Name "range" p) [e] [] pos) (dRng1 da) :=
  ⟨fun pn xe Wx tk => (pi_range1 (X := X.tr pn xe) hg hm (pa_cons (h.run pn xe Wx tk) pa_nil h1) hs).imp fun σ H Q ⟨env, S, ι, B, R, E, h⟩ => LE.thenI R E h fun u S1 v H1 ι1 G1 R1 E1 ru h1 => by
    cases u with
    | o n => exact h1.elim
    | v w =>
      cases w with
      | int n =>
        simp only at h1
        split at h1
        · rename_i hc
          refine ⟨n, by rw [Rp.int_inv ru], hc.2, hc.1, h1 _ H1 ι1 .refl R1 ?_⟩
          rw [rng0]
          exact walkW_rng 0 n.toNat
        · exact h1.elim
      | _ => exact h1.elim⟩
/-- range(a, b) -/
def dRng2 (a b : DE) : DI := fun e S => (a e S).bind fun u S1 => (b e S1).bind fun v S2 => match u, v with
  | .v (.int i), .v (.int j) => if -(2 ^ 62) ≤ i ∧ i < 2 ^ 62 ∧ -(2 ^ 62) ≤ j ∧ j < 2 ^ 62 then .ok ((List.range (j - i).toNat).map fun k => .int (i + Int.ofNat k)) S2 else .no
  | _, _ => .no
theorem iv_rng2 (hg : Gl X "range") (hm : X.mg "range" = none) (ha : PEv ec X a da) (hb : PEv ec X b db) (h1 : starEach [a, b] X.env = (false, eval a X.env) :: starEach [b] X.env := by rfl) (h2 : starEach [b] X.env = (false, eval b X.env) :: starEach [] X.env := by rfl)
    (hs : starEach [a, b] X.env = [(false, eval a X.env), (false, eval b X.env)] := by rfl) (hs2 : starEach [b] X.env = [(false, eval b X.env)] := by rfl) : PIv ec X tg (.Call (.Name "range" p) [a, b] [] pos) (dRng2 da db) :=
  ⟨fun pn xe Wx tk => (pi_range2 (X := X.tr pn xe) hg hm (pa_cons (ha.run pn xe Wx tk) (pa_cons (hb.run pn xe Wx tk) pa_nil h2) h1) hs hs2).imp fun σ H Q ⟨env, S, ι, B, R, E, h⟩ => LE.thenI R E h fun u S1 v H1 ι1 G1 R1 E1 ru h1 =>
    LE.thenI R1 E1 h1 fun u2 S2 v2 H2 ι2 G2 R2 E2 ru2 h2 => by
      have ru' := RU.go G2 ru
      cases u with
      | o n => exact h2.elim
      | v w =>
        cases w with
        | int i =>
          cases u2 with
          | o n => exact h2.elim
          | v w2 =>
            cases w2 with
            | int j =>
              simp only at h2
              split at h2
              · rename_i hc
                exact ⟨i, j, by rw [Rp.int_inv ru', Rp.int_inv ru2], hc, h2 _ H2 ι2 .refl R2 (walkW_rng i (j - i).toNat)⟩
              · exact h2.elim
            | _ => exact h2.elim
        | _ => exact h2.elim⟩

/-! ### for -/
def dLoop (t : W → Env' → Option Env') (body : DS) : List W → DS
  | [], e, S => .ok (.nx e) S
  | w :: r, e, S => match t w e with
    | none => .no
    | some e1 => match body e1 S with
      | .ok (.nx e2) S2 => dLoop t body r e2 S2
      | .ok (.ct e2) S2 => dLoop t body r e2 S2
      | .ok (.bk e2) S2 => .ok (.nx e2) S2
      | r => r
def dFor (src : DI) (t : W → Env' → Option Env') (body : DS) : DS := fun e S => (src e S).st e fun ws S1 => dLoop t body ws e S1
theorem Go.lo {ι ι' : List Addr} {S S' : Store} {H H' : Hp} {B : Addr → Prop} (g : Go ι S H ι' S' H') : Ext (Oq ι S B) H H' ∧ Own (Oq ι S B) (Oq ι' S' B) H := ⟨g.extq, g.ownq⟩
theorem sv_for {g : TG} {src : DI} {t : W → Env' → Option Env'} {sl : List Nat} (hc : X.calm = true) (hi : PIv ec X tg iter src) (hg : PGv ec X tg g t sl) (hb : PSsv ec X body ds) (hs : ∀ x, foldedSetIterable iter X.env x = pure x := by intro _; rfl) : PSv ec X (.For tg iter body [] pos) (dFor src t ds) := by
  obtain ⟨a1, a2⟩ := hg
  refine ⟨fun pn xe Wx tk po => (ps_for (X := X.tr pn xe) po hc (hi.run pn xe Wx tk) (a1 pn xe) (hb.run pn xe Wx tk po) hs).imp fun D σ H ⟨env, S, ι, B, R, E, h⟩ => ?_⟩
  show LI (fx ec X) Wx src σ H _
  refine ⟨env, S, ι, B, R, E, ?_⟩
  unfold dFor at h
  cases ee : src env S with
  | no => rw [ee] at h; exact h
  | ex c S1 => rw [ee] at h; exact fun H1 ι1 G1 R1 => h σ H1 ι1 G1 R1 (E.go G1)
  | ok ws S1 =>
    rw [ee] at h
    simp only [Re.st_ok] at h
    rintro J H1 ι1 G1 R1 ⟨G, Y, wk, st⟩
    refine for_it wk (fun i σ' H' => ∃ (env' : Env') (S' : Store) (ι' : List Addr), Go ι1 S1 H1 ι' S' H' ∧ RS (fx ec X) ι' S' B H' ∧ ER (fx ec X) H' ι' S' B env' σ' ∧ PoS (fx ec X) Wx ι' S' B H' (dLoop t ds (ws.drop i) env' S') D)
      ⟨env, S1, ι1, .refl, R1, E.go G1, by rw [List.drop_zero]; exact h.go G1⟩ (fun i σ' H' _ ⟨_, _, _, G', R', _, _⟩ => (st _ _ _ _ G'.lo.1 G'.lo.2 R').1) ?_ ?_
    · rintro i x σ' H' H2 hi ⟨env', S', ι', G', R', E', h'⟩ hy
      have hw : ws[i]? = some ws[i] := by simp [hi]
      obtain ⟨rx, R2, G2, _⟩ := (st _ _ _ _ G'.lo.1 G'.lo.2 R').2 i x H2 ws[i] hw hy
      have hd : ws.drop i = ws[i] :: ws.drop (i + 1) := List.drop_eq_getElem_cons hi
      rw [hd] at h'
      unfold dLoop at h'
      cases e1 : t ws[i] env' with
      | none => simp only [e1] at h'; exact h'.elim
      | some env1 =>
        simp only [e1] at h'
        refine a2 ws[i] env' env1 e1 x σ' H2 ι' S' B _ rx (E'.go G2) fun σ2 E2 _ => ?_
        refine ⟨env1, S', ι', B, R2, E2, ?_⟩
        have h2 := h'.go G2
        cases e2 : ds env1 S' with
        | no => simp only [e2] at h2; exact h2
        | ex c e3 S3 => simp only [e2] at h2; exact h2
        | ok f S3 =>
          cases f with
          | nx e3 =>
            simp only [e2] at h2
            exact fun σ3 H3 ι3 G3 R3 E3 => ⟨e3, S3, ι3, G'.trans (G2.trans G3), R3, E3, h2.go G3⟩
          | ct e3 =>
            simp only [e2] at h2
            exact fun σ3 H3 ι3 G3 R3 E3 => ⟨e3, S3, ι3, G'.trans (G2.trans G3), R3, E3, h2.go G3⟩
          | bk e3 => simp only [e2] at h2; exact h2
          | rt u => simp only [e2] at h2; exact h2
    · rintro σ' H' ⟨env', S', ι', G', R', E', h'⟩
      rw [List.drop_length] at h'
      exact h' σ' H' ι' .refl R' E'

/-! ### while -/
def whN (t : DT) (b : DS) : Nat → DS
  | 0, _, _ => .no
  | n + 1, e, S => (t e S).st e fun k S1 => if k = true then (match b e S1 with
      | .ok (.nx e2) S2 => whN t b n e2 S2
      | .ok (.ct e2) S2 => whN t b n e2 S2
      | .ok (.bk e2) S2 => .ok (.nx e2) S2
      | r => r) else .ok (.nx e) S1
open Classical in
noncomputable def dWhile (t : DT) (b : DS) : DS := fun e S => if h : ∃ n, whN t b n e S ≠ .no then whN t b h.choose e S else .no
theorem whN_mono {t : DT} {b : DS} : ∀ {n m : Nat} {e : Env'} {S : Store}, n ≤ m → whN t b n e S ≠ .no → whN t b m e S = whN t b n e S
  | 0, _, _, _, _, h => absurd rfl h
  | n + 1, 0, _, _, h, _ => absurd h (by omega)
  | n + 1, m + 1, e, S, hl, h => by
    unfold whN at h ⊢
    cases e1 : t e S with
    | no => rfl
    | ex c S1 => rfl
    | ok k S1 =>
      simp only [e1, Re.st_ok] at h ⊢
      cases k with
      | false => rfl
      | true =>
        simp only [if_true] at h ⊢
        cases e2 : b e S1 with
        | no => rfl
        | ex c e3 S3 => rfl
        | ok f S3 =>
          cases f with
          | nx e3 => simp only [e2] at h ⊢; exact whN_mono (by omega) h
          | ct e3 => simp only [e2] at h ⊢; exact whN_mono (by omega) h
          | bk e3 => rfl
          | rt u => rfl
theorem dWhile_of {t : DT} {b : DS} {n : Nat} {e : Env'} {S : Store} (h : whN t b n e S ≠ .no) : dWhile t b e S = whN t b n e S := by
  have hx : ∃ n, whN t b n e S ≠ .no := ⟨n, h⟩
  unfold dWhile
  rw [dif_pos hx]
  have h2 := hx.choose_spec
  rcases Nat.le_total n hx.choose with hl | hl
  · exact whN_mono hl h
  · exact (whN_mono hl h2).symm
theorem dWhile_some {t : DT} {b : DS} {e : Env'} {S : Store} (h : dWhile t b e S ≠ .no) : ∃ n, whN t b n e S = dWhile t b e S := by
  unfold dWhile at h ⊢
  split at h
  · rename_i hx
    exact ⟨hx.choose, by rw [dif_pos hx]⟩
  · exact absurd rfl h
theorem sv_while {test : Expr} (ht : PTv ec X test tc) (hb : PSsv ec X body ds) : PSv ec X (.While test body [] pos) (dWhile tc ds) := by
  refine ⟨fun pn xe Wx tk po => (ps_while (X := X.tr pn xe) po (ht.run pn xe Wx tk) (hb.run pn xe Wx tk po)).imp fun D σ H ⟨env, S, ι, B, R, E, h⟩ => ?_⟩
  obtain ⟨n, hn⟩ := dWhile_some (t := tc) (b := ds) (e := env) (S := S) (fun z => by rw [z] at h; exact h)
  rw [← hn] at h
  refine ⟨fun m σ' H' => ∃ (env' : Env') (S' : Store) (ι' : List Addr), RS (fx ec X) ι' S' B H' ∧ ER (fx ec X) H' ι' S' B env' σ' ∧ PoS (fx ec X) Wx ι' S' B H' (whN tc ds m env' S') D, ⟨n, env, S, ι, R, E, h⟩, ?_⟩
  rintro m σ' H' ⟨env', S', ι', R', E', h'⟩
  cases m with
  | zero => exact h'.elim
  | succ m =>
    unfold whN at h'
    refine LT.thenS R' E' h' fun k S1 H1 ι1 G1 R1 E1 h1 => ?_
    cases k with
    | false => exact h1 σ' H1 ι1 .refl R1 E1
    | true =>
      simp only [if_true] at h1 ⊢
      refine ⟨fun σ2 H2 => ∃ (env' : Env') (S' : Store) (ι' : List Addr), RS (fx ec X) ι' S' B H2 ∧ ER (fx ec X) H2 ι' S' B env' σ2 ∧ PoS (fx ec X) Wx ι' S' B H2 (whN tc ds m env' S') D, fun σ2 H2 q => ⟨m, Nat.lt_succ_self m, q⟩, env', S1, ι1, B, R1, E1, ?_⟩
      cases e2 : ds env' S1 with
      | no => simp only [e2] at h1; exact h1
      | ex c e3 S3 => simp only [e2] at h1; exact h1
      | ok f S3 =>
        cases f with
        | nx e3 => simp only [e2] at h1; exact fun σ3 H3 ι3 G3 R3 E3 => ⟨e3, S3, ι3, R3, E3, h1.go G3⟩
        | ct e3 => simp only [e2] at h1; exact fun σ3 H3 ι3 G3 R3 E3 => ⟨e3, S3, ι3, R3, E3, h1.go G3⟩
        | bk e3 => simp only [e2] at h1; exact h1
        | rt u => simp only [e2] at h1; exact h1
/-- how a while is run: n turns are enough -/
theorem dWhile_step {t : DT} {b : DS} {e : Env'} {S : Store} : dWhile t b e S = (t e S).st e fun k S1 => if k = true then (match b e S1 with
      | .ok (.nx e2) S2 => dWhile t b e2 S2
      | .ok (.ct e2) S2 => dWhile t b e2 S2
      | .ok (.bk e2) S2 => .ok (.nx e2) S2
      | r => r) else .ok (.nx e) S1 := by
  cases e1 : t e S with
  | no =>
    by_cases hx : dWhile t b e S = .no
    · exact hx
    · obtain ⟨n, hn⟩ := dWhile_some hx
      cases n with
      | zero => exact absurd (hn.symm) hx
      | succ n => rw [← hn]; unfold whN; rw [e1]; rfl
  | ex c S1 =>
    have : whN t b 1 e S = .ex c e S1 := by unfold whN; rw [e1]; rfl
    rw [dWhile_of (n := 1) (by rw [this]; simp), this]
    rfl
  | ok k S1 =>
    simp only [Re.st_ok]
    have s : ∀ n, whN t b (n + 1) e S = if k = true then (match b e S1 with
      | .ok (.nx e2) S2 => whN t b n e2 S2
      | .ok (.ct e2) S2 => whN t b n e2 S2
      | .ok (.bk e2) S2 => .ok (.nx e2) S2
      | r => r) else .ok (.nx e) S1 := fun n => by
      conv => lhs; unfold whN
      rw [e1]; rfl
    have go : ∀ r, r ≠ Rs.no → (∃ n, whN t b (n + 1) e S = r) → dWhile t b e S = r := fun r hr ⟨n, hn⟩ => by
      rw [dWhile_of (n := n + 1) (by rw [hn]; exact hr), hn]
    have none : (∀ n, whN t b (n + 1) e S = .no) → dWhile t b e S = .no := fun hh => by
      by_cases hx : dWhile t b e S = .no
      · exact hx
      · obtain ⟨n, hn⟩ := dWhile_some hx
        cases n with
        | zero => exact absurd hn.symm hx
        | succ n => rw [hh n] at hn; exact absurd hn.symm hx
    cases k with
    | false => exact go _ (by simp) ⟨0, s 0⟩
    | true =>
      simp only [if_true] at s ⊢
      cases e2 : b e S1 with
      | no => simp only [e2] at s ⊢; exact none s
      | ex c e3 S3 => simp only [e2] at s ⊢; exact go _ (by simp) ⟨0, s 0⟩
      | ok f S3 =>
        have sub : ∀ e3, (∀ n, whN t b (n + 1) e S = whN t b n e3 S3) → dWhile t b e S = dWhile t b e3 S3 := fun e3 hh => by
          by_cases hx : dWhile t b e3 S3 = .no
          · rw [hx]
            refine none fun n => ?_
            rw [hh n]
            by_cases hz : whN t b n e3 S3 = .no
            · exact hz
            · rw [← dWhile_of hz, hx]
          · obtain ⟨n, hn⟩ := dWhile_some hx
            exact go _ hx ⟨n, by rw [hh n, hn]⟩
        cases f with
        | nx e3 => simp only [e2] at s ⊢; exact sub e3 s
        | ct e3 => simp only [e2] at s ⊢; exact sub e3 s
        | bk e3 => simp only [e2] at s ⊢; exact go _ (by simp) ⟨0, s 0⟩
        | rt u => simp only [e2] at s ⊢; exact go _ (by simp) ⟨0, s 0⟩
end
end Bel

/-! The engine, tenth part: comprehensions. -/
namespace Bel
open PySem PySem.Spec PyProof.Rows L2
/-- nothing may be raised -/
def Re.bindX {α β : Type} (r : Re α) (f : α → Store → Re β) : Re β := match r with
  | .ok a S => f a S
  | _ => .no
@[simp] theorem Re.bindX_ok {α β : Type} (a : α) (S : Store) (f : α → Store → Re β) : (Re.ok a S).bindX f = f a S := rfl
@[simp] theorem Re.bindX_ex {α β : Type} (c : Nat) (S : Store) (f : α → Store → Re β) : (Re.ex c S : Re α).bindX f = .no := rfl
@[simp] theorem Re.bindX_no {α β : Type} (f : α → Store → Re β) : (Re.no : Re α).bindX f = .no := rfl
structure PTsv (ec : Nat → Value) (X : Cx) (ifs : List Expr) (d : DT) : Prop where
  run : ∀ (pn : List (Addr × Obj)) (xe : Value → Shared → Prop) (Wx : WX), Takes (X.tr pn xe) Wx → PTs (X.tr pn xe) ifs (LT (fx ec X) Wx d)
theorem _root_.L2.PTs.imp {X : Cx} {e : List Expr} {t t' : TT} (h : PTs X e t) (hh : ∀ σ H Q, t' σ H Q → t σ H Q) : PTs X e t' := ⟨fun pins s σ H Q I q => h.run pins s σ H Q I (hh σ H Q q)⟩
def dYes : DT := fun _ S => .ok true S
section
variable {ec : Nat → Value} {X : Cx} {e c elt tg iter : Expr} {ifs : List Expr} {pos pos' spos : Pos} {tc tt : DT} {te : DE} {scope : Scope}
theorem tsv_nil : PTsv ec X [] dYes := ⟨fun pn xe Wx tk => pts_nil.imp fun σ H Q ⟨env, S, ι, B, R, E, h⟩ => h H ι .refl R⟩
theorem tsv_one (h : PTv ec X c tc) : PTsv ec X [c] tc := ⟨fun pn xe Wx tk => pts_one (h.run pn xe Wx tk)⟩
/-- the items, one by one -/
def lcL (t : W → Env' → Option Env') (tt : DT) (te : DE) (env : Env') : List W → Store → Re (List W)
  | [], S => .ok [] S
  | w :: r, S => match t w env with
    | none => .no
    | some e1 => (tt e1 S).bindX fun k S1 => if k = true then (te e1 S1).bindX fun u S2 => match u with
        | .v x => (lcL t tt te env r S2).bindX fun xs S3 => .ok (x :: xs) S3
        | .o _ => .no
      else lcL t tt te env r S1
def dLc (own : Bool) (src : DI) (t : W → Env' → Option Env') (tt : DT) (te : DE) (vs : List Nat) : DE := fun e S => (src e S).bind fun ws S1 =>
  if ws.length ≤ 16777216 then (lcL t tt te (wipeE e vs) ws S1).bindX fun xs S2 => (Out.nl xs).put own S2 else .no
/-- hidden too -/
def hidB (B : Addr → Prop) (D : Addr) : Addr → Prop := fun a => B a ∨ a = D
section
variable {F : Fx} {Wx : WX} {σ : L2.St} {H H' : Hp} {ι ι' : List Addr} {S S' : Store} {B : Addr → Prop} {D : Addr}
theorem oq_hid {a : Addr} : Oq ι S (hidB B D) a ↔ Oq ι S B a ∨ a = D := by
  unfold Oq hidB
  constructor
  · rintro (h | h | h)
    · exact .inl (.inl h)
    · exact .inl (.inr h)
    · exact .inr h
  · rintro ((h | h) | h)
    · exact .inl h
    · exact .inr (.inl h)
    · exact .inr (.inr h)
/-- a new object is hidden -/
theorem RS.hide (R : RS F ι S B H) (hD : H D = none) (ho : HO) : RS F ι S (hidB B D) (upd H D ho) ∧ Ext (Oq ι S B) H (upd H D ho) ∧ Own (Oq ι S B) (Oq ι S (hidB B D)) H := by
  have E : Ext (Oq ι S B) H (upd H D ho) := fun x y hx _ => by rw [upd_ne (ne_of_none hx hD)]; exact hx
  have P : Own (Oq ι S B) (Oq ι S (hidB B D)) H := fun a z => (oq_hid.mp z).imp id fun e => by rw [e]; exact hD
  refine ⟨⟨R.len, R.nd, fun n o a h1 h2 => ?_, fun a h => ?_⟩, E, P⟩
  · have z := R.ob n o a h1 h2
    cases o with
    | lst ws => obtain ⟨vs, e, r⟩ := z; exact ⟨vs, by rw [upd_ne (ne_of_none e hD)]; exact e, r.ext E P⟩
    | dct ws => obtain ⟨vs, e, r⟩ := z; exact ⟨vs, by rw [upd_ne (ne_of_none e hD)]; exact e, r.ext E P⟩
    | scr ws => obtain ⟨vs, y, e, d, r⟩ := z; exact ⟨vs, y, by rw [upd_ne (ne_of_none e hD)]; exact e, d.imp (fun d => by rw [upd_ne (ne_of_none d hD)]; exact d) fun ⟨o, d⟩ => ⟨o, by rw [upd_ne (ne_of_none d hD)]; exact d⟩, r.ext E P⟩
    | tbl x q => exact TblR.ext z E P fun _ e => by rw [upd_ne (ne_of_none e hD)]; exact e
    | dead => obtain ⟨y, e⟩ := z; exact ⟨y, by rw [upd_ne (ne_of_none e hD)]; exact e⟩
  · rcases h with h | rfl
    · obtain ⟨⟨y, e⟩, n⟩ := R.hid a h
      exact ⟨⟨y, by rw [upd_ne (ne_of_none e hD)]; exact e⟩, n⟩
    · refine ⟨⟨ho, upd_same⟩, fun z => ?_⟩
      obtain ⟨y, e⟩ := R.there z
      rw [hD] at e; cases e
/-- a hidden object is written -/
theorem RS.hidW (R : RS F ι S (hidB B D) H) (ho : HO) : RS F ι S (hidB B D) (upd H D ho) ∧ Ext (Oq ι S (hidB B D)) H (upd H D ho) := by
  have nD : D ∉ ι := (R.hid D (.inr rfl)).2
  have E : Ext (Oq ι S (hidB B D)) H (upd H D ho) := fun x y hx n => by rw [upd_ne (fun z => n (by rw [z]; exact .inr (.inr rfl)))]; exact hx
  have P : Own (Oq ι S (hidB B D)) (Oq ι S (hidB B D)) H := fun _ z => .inl z
  have ne : ∀ {n : Nat} {a : Addr}, ι[n]? = some a → a ≠ D := fun {n a} h z => nD (by rw [← z]; exact List.mem_of_getElem? h)
  refine ⟨⟨R.len, R.nd, fun n o a h1 h2 => ?_, fun a h => ?_⟩, E⟩
  · have z := R.ob n o a h1 h2
    have hne := ne h2
    cases o with
    | lst ws => obtain ⟨vs, e, r⟩ := z; exact ⟨vs, by rw [upd_ne hne]; exact e, r.ext E P⟩
    | dct ws => obtain ⟨vs, e, r⟩ := z; exact ⟨vs, by rw [upd_ne hne]; exact e, r.ext E P⟩
    | scr ws => obtain ⟨vs, y, e, d, r⟩ := z; exact ⟨vs, y, by rw [upd_ne hne]; exact e, d.imp (fun d => by rw [upd_ne hne]; exact d) fun ⟨o, d⟩ => ⟨o, by rw [upd_ne hne]; exact d⟩, r.ext E P⟩
    | tbl x q => exact TblR.ext z E P fun _ e => by rw [upd_ne hne]; exact e
    | dead => obtain ⟨y, e⟩ := z; exact ⟨y, by rw [upd_ne hne]; exact e⟩
  · obtain ⟨⟨y, e⟩, n⟩ := R.hid a h
    by_cases hz : a = D
    · subst hz; exact ⟨⟨ho, upd_same⟩, n⟩
    · exact ⟨⟨y, by rw [upd_ne hz]; exact e⟩, n⟩
theorem oq_less {a : Addr} (h : Oq ι S B a) : Oq ι S (hidB B D) a := oq_hid.mpr (.inl h)
/-- a hidden list comes out, as a plain value, or owned -/
theorem RS.show_ (R : RS F ι S (hidB B D) H) (nB : ¬ B D) {own : Bool} {l : List W} {vs : List V} (hD : H D = some (.lst vs)) (r : RpL F H (Oq ι S (hidB B D)) l vs) {u : U} {S' : Store} (h : (Out.nl l).put own S = .ok u S') :
    ∃ ι', RS F ι' S' B H ∧ (∀ a, Ow ι' S' a → Ow ι S a ∨ a = D) ∧ (∃ t, ι' = ι ++ t) ∧ RU F H ι' S' B u (.ref D) := by
  have nD : D ∉ ι := (R.hid D (.inr rfl)).2
  have nO : ¬ Oq ι S B D := fun z => by
    rcases z with ⟨n, o, h1, h2, h3⟩ | z
    · exact nD (List.mem_of_getElem? h3)
    · exact nB z
  have R0 : RS F ι S B H := ⟨R.len, R.nd, fun n o a h1 h2 => (R.ob n o a h1 h2).less fun b => oq_less, fun a hb => R.hid a (.inl hb)⟩
  cases own with
  | false =>
    cases h
    exact ⟨ι, R0, fun _ z => .inl z, ⟨[], by simp⟩, .mkLst ⟨hD, nO⟩ (r.less fun b => oq_less)⟩
  | true =>
    cases h
    have hd : Ob.lst l ≠ Ob.dead := by simp
    have sub : ∀ b, Oq (ι ++ [D]) (S ++ [.lst l]) B b → Oq ι S (hidB B D) b := fun b z => by
      rcases z with z | z
      · rcases (ow_push R.len hd).mp z with z | z
        · exact .inl z
        · exact .inr (.inr z)
      · exact .inr (.inl z)
    refine ⟨ι ++ [D], ⟨by simp [R.len], ?_, fun n q a h1 h2 => ?_, fun a hb => ?_⟩, fun a z => (ow_push R.len hd).mp z, ⟨[D], rfl⟩, D, by rw [← R.len]; simp, rfl⟩
    · rw [List.nodup_append]
      refine ⟨R.nd, by simp, fun x hx y hy e => ?_⟩
      simp at hy
      subst hy
      subst e
      exact nD hx
    · by_cases hn : n < S.length
      · rw [List.getElem?_append_left hn] at h1
        rw [List.getElem?_append_left (by rw [R.len]; exact hn)] at h2
        exact (R.ob n q a h1 h2).less sub
      · rw [List.getElem?_append_right (by omega)] at h1
        rw [List.getElem?_append_right (by rw [R.len]; omega)] at h2
        obtain ⟨h4, h5⟩ := List.getElem?_eq_some_iff.mp h1
        obtain ⟨h6, h7⟩ := List.getElem?_eq_some_iff.mp h2
        simp at h5 h7
        subst h5
        subst h7
        exact ⟨vs, hD, r.less sub⟩
    · refine ⟨(R.hid a (.inl hb)).1, fun z => ?_⟩
      rcases List.mem_append.mp z with z | z
      · exact (R.hid a (.inl hb)).2 z
      · simp at z; subst z; exact nB hb
end
theorem lcL_cons {t : W → Env' → Option Env'} {env : Env'} {w : W} {r : List W} {S : Store} : lcL t tt te env (w :: r) S = match t w env with
    | none => .no
    | some e1 => (tt e1 S).bindX fun k S1 => if k = true then (te e1 S1).bindX fun u S2 => match u with
        | .v x => (lcL t tt te env r S2).bindX fun xs S3 => .ok (x :: xs) S3
        | .o _ => .no
      else lcL t tt te env r S1 := rfl
theorem wipe_wipe (σ : L2.St) (vs : List Nat) : L2.wipe (L2.wipe σ vs) vs = L2.wipe σ vs := by
  apply List.ext_getElem?
  intro j
  rw [wipe_get, wipe_get]
  split
  · cases σ[j]? <;> rfl
  · rfl
theorem ev_lc_reads {F : Fx} {Wx : WX} {σ : L2.St} {H : Hp} {Q : VK} {own : Bool} {src : DI} {g : TG} {t : W → Env' → Option Env'} {sl vs : List Nat} (hg : GSem F g t sl) (hsl : ∀ i ∈ sl, i ∈ vs) (h : LE F Wx (dLc own src t tt te vs) σ H Q) :
    tLc (LI F Wx src) g (LT F (fun _ _ _ _ => False) tt) (LE F (fun _ _ _ _ => False) te) vs σ H Q := by
  obtain ⟨env, S, ι, B, R, E, h⟩ := h
  refine ⟨env, S, ι, B, R, E, ?_⟩
  unfold dLc at h
  cases ee : src env S with
  | no => rw [ee] at h; exact h
  | ex c S1 => rw [ee] at h; exact h
  | ok ws S1 =>
    rw [ee] at h
    simp only [Re.bind_ok] at h
    split at h
    · rename_i hlen
      rintro J H1 ι1 G1 R1 ⟨G, Y, wk, st⟩ D hD
      have nB : ¬ B D := fun z => by
        obtain ⟨⟨y, e⟩, _⟩ := R1.hid D z
        rw [hD] at e; cases e
      obtain ⟨R2, E2, P2⟩ := R1.hide hD (.lst [])
      have h0 := h.go G1
      refine lc_it wk (fun i H' => ∃ (S' : Store) (ι' : List Addr) (acc : List W) (us : List V), Ext (Ow ι1 S1) H1 H' ∧ Own (Oq ι1 S1 B) (Oq ι' S' (hidB B D)) H1 ∧ (∀ a, Ow ι' S' a → Ow ι1 S1 a ∨ H1 a = none) ∧ (∃ t, ι' = ι1 ++ t) ∧ RS F ι' S' (hidB B D) H' ∧ ER F H' ι' S' (hidB B D) (wipeE env vs) (L2.wipe σ vs) ∧
          H' D = some (.lst us) ∧ RpL F H' (Oq ι' S' (hidB B D)) acc us ∧ acc.length ≤ i ∧
          ((lcL t tt te (wipeE env vs) ws S1).bindX fun xs S2 => (Out.nl xs).put own S2) = (lcL t tt te (wipeE env vs) (ws.drop i) S').bindX fun xs S2 => (Out.nl (acc ++ xs)).put own S2)
        ⟨S1, ι1, [], [], fun x y hx n => by rw [upd_ne (ne_of_none hx hD)]; exact hx, P2, fun _ z => .inl z, ⟨[], by simp⟩, R2, ?_, upd_same, .nil, Nat.le_refl _, by rw [List.drop_zero]; rfl⟩ ?_ ?_ ?_
      · have := (E.go G1).wipe vs
        exact ⟨this.len, fun i u hu => by
          obtain ⟨v, h1, r⟩ := this.get i u hu
          refine ⟨v, h1, ?_⟩
          cases u with
          | v w => exact Rp.ext E2 P2 r
          | o n => exact r⟩
      · rintro i H' hi ⟨S', ι', acc, us, x1, o1, _, _, R', _⟩
        exact (st ι' S' (hidB B D) H' (fun a ho hz n => x1 a ho hz fun z => n (.inl z)) o1 R').1
      · rintro i x H' H3 hi ⟨S', ι', acc, us, x1, o1, o1', p1, R', E', hDu, rA, hacc, eq⟩ hy
        have hw : ws[i]? = some ws[i] := by simp [hi]
        obtain ⟨rx, R3, G3, same⟩ := (st ι' S' (hidB B D) H' (fun a ho hz n => x1 a ho hz fun z => n (.inl z)) o1 R').2 i x H3 ws[i] hw hy
        have hd : ws.drop i = ws[i] :: ws.drop (i + 1) := List.drop_eq_getElem_cons hi
        rw [hd] at eq
        -- the whole is not nothing
        have live : ∀ {r : Re U}, ((lcL t tt te (wipeE env vs) ws S1).bindX fun xs S2 => (Out.nl xs).put own S2) = r → r ≠ .no := fun {r} e z => by
          rw [e, z] at h0; exact h0
        rw [lcL_cons] at eq
        cases e1 : t ws[i] (wipeE env vs) with
        | none => simp only [e1, Re.bindX_no] at eq; exact absurd rfl (live eq)
        | some env1 =>
          simp only [e1] at eq
          refine hg ws[i] _ env1 e1 x (L2.wipe σ vs) H3 ι' S' (hidB B D) _ rx (E'.go G3) fun σ2 Eσ w2 => ⟨?_, ?_⟩
          · exact (w2 vs hsl).trans (wipe_wipe σ vs)
          refine ⟨env1, S', ι', hidB B D, R3, Eσ, ?_⟩
          cases e2 : tt env1 S' with
          | no => simp only [e2, Re.bindX_no] at eq; exact absurd rfl (live eq)
          | ex c S3 => simp only [e2, Re.bindX_ex, Re.bindX_no] at eq; exact absurd rfl (live eq)
          | ok k S3 =>
            simp only [e2, Re.bindX_ok] at eq
            intro H4 ι4 G4 R4
            have G34 := G3.trans G4
            -- what is known behind the test
            have x4 : Ext (Ow ι1 S1) H1 H4 := fun a ho hz n => by
              have n' : ¬ Ow ι' S' a := fun z => (o1' a z).elim n fun q => by rw [hz] at q; cases q
              exact G34.ext a ho (x1 a ho hz n) n'
            have o4' : ∀ a, Ow ι4 S3 a → Ow ι1 S1 a ∨ H1 a = none := fun a z => by
              rcases G34.own a z with q | q
              · exact o1' a q
              · by_cases n : Ow ι1 S1 a
                · exact .inl n
                · cases e : H1 a with
                  | none => exact .inr rfl
                  | some ho => rw [x1 a ho e n] at q; cases q
            have o4 : Own (Oq ι1 S1 B) (Oq ι4 S3 (hidB B D)) H1 := fun a z => by
              rcases z with z | z | z
              · exact (o4' a z).imp .inl id
              · exact .inl (.inr z)
              · rw [z]; exact .inr hD
            have p4 : ∃ t, ι4 = ι1 ++ t := by
              obtain ⟨q1, rfl⟩ := p1
              obtain ⟨q2, rfl⟩ := G34.pre
              exact ⟨q1 ++ q2, by simp⟩
            have D4 : H4 D = some (.lst us) := G34.ext D _ hDu fun ⟨n, o, _, _, h3⟩ => (R'.hid D (.inr rfl)).2 (List.mem_of_getElem? h3)
            have E4 : ER F H4 ι4 S3 (hidB B D) (wipeE env vs) (L2.wipe σ vs) := E'.go G34
            cases k with
            | false =>
              simp only [Bool.false_eq_true, if_false] at eq ⊢
              exact ⟨S3, ι4, acc, us, x4, o4, o4', p4, R4, E4, D4, rA.go G34, by omega, eq⟩
            | true =>
              simp only [if_true] at eq ⊢
              refine ⟨env1, S3, ι4, hidB B D, R4, Eσ.go G4, ?_⟩
              cases e3 : te env1 S3 with
              | no => simp only [e3, Re.bindX_no] at eq; exact absurd rfl (live eq)
              | ex c S5 => simp only [e3, Re.bindX_ex, Re.bindX_no] at eq; exact absurd rfl (live eq)
              | ok u S5 =>
                simp only [e3, Re.bindX_ok] at eq
                intro y H5 ι5 G5 R5 ry
                cases u with
                | o n => simp only [Re.bindX_no] at eq; exact absurd rfl (live eq)
                | v z =>
                  simp only at eq
                  have D5 : H5 D = some (.lst us) := G5.ext D _ D4 fun ⟨n, o, _, _, h3⟩ => (R4.hid D (.inr rfl)).2 (List.mem_of_getElem? h3)
                  have rA5 := (rA.go G34).go G5
                  obtain ⟨R6, x6⟩ := R5.hidW (.lst (us ++ [y]))
                  have P6 : Own (Oq ι5 S5 (hidB B D)) (Oq ι5 S5 (hidB B D)) H5 := fun _ z => .inl z
                  refine ⟨us, D5, ?_, S5, ι5, acc ++ [z], us ++ [y], ?_, ?_, ?_, ?_, R6, ?_, upd_same, ?_, ?_, ?_⟩
                  · rw [← rA.1, sizeLine_is]; omega
                  · intro a ho hz n
                    have n4 : ¬ Ow ι4 S3 a := fun q => (o4' a q).elim n fun q => by rw [hz] at q; cases q
                    have e5 := G5.ext a ho (x4 a ho hz n) n4
                    rw [upd_ne (fun q => by rw [q, hD] at hz; cases hz)]
                    exact e5
                  · intro a q
                    rcases q with q | q | q
                    · rcases G5.own a q with q | q
                      · exact (o4' a q).imp .inl id
                      · by_cases n : Ow ι1 S1 a
                        · exact .inl (.inl n)
                        · cases e : H1 a with
                          | none => exact .inr rfl
                          | some ho => rw [x4 a ho e n] at q; cases q
                    · exact .inl (.inr q)
                    · rw [q]; exact .inr hD
                  · intro a q
                    rcases G5.own a q with q | q
                    · exact o4' a q
                    · by_cases n : Ow ι1 S1 a
                      · exact .inl n
                      · cases e : H1 a with
                        | none => exact .inr rfl
                        | some ho => rw [x4 a ho e n] at q; cases q
                  · obtain ⟨q1, rfl⟩ := p4
                    obtain ⟨q2, rfl⟩ := G5.pre
                    exact ⟨q1 ++ q2, by simp⟩
                  · have E5 := E4.go G5
                    exact ⟨E5.len, fun j u hu => by
                      obtain ⟨v, h1, r⟩ := E5.get j u hu
                      refine ⟨v, h1, ?_⟩
                      cases u with
                      | v w => exact Rp.ext x6 P6 r
                      | o n => exact r⟩
                  · exact (rA5.ext x6 P6).append (.cons (Rp.ext x6 P6 ry) .nil)
                  · simp; omega
                  · rw [eq]
                    cases e7 : lcL t tt te (wipeE env vs) (ws.drop (i + 1)) S5 with
                    | ok xs S8 => simp [List.append_assoc]
                    | ex c S8 => rfl
                    | no => rfl
      · rintro H' ⟨S', ι', acc, us, x1, o1, o1', p1, R', E', hDu, rA, hacc, eq⟩
        rw [List.drop_length] at eq
        have eq' : ((lcL t tt te (wipeE env vs) ws S1).bindX fun xs S2 => (Out.nl xs).put own S2) = (Out.nl acc).put own S' := by
          rw [eq]; show (Out.nl (acc ++ [])).put own S' = _; rw [List.append_nil]
        rw [eq'] at h0
        cases e9 : (Out.nl acc).put own S' with
        | ok u S9 =>
          rw [e9] at h0
          obtain ⟨ι9, R9, o9, p9, r9⟩ := R'.show_ nB hDu rA e9
          refine h0 (.ref D) H' ι9 ⟨x1, fun a z => ?_, ?_⟩ R9 r9
          · rcases o9 a z with q | q
            · exact o1' a q
            · rw [q]; exact .inr hD
          · obtain ⟨q1, rfl⟩ := p1
            obtain ⟨q2, rfl⟩ := p9
            exact ⟨q1 ++ q2, by simp⟩
        | ex c S9 => cases own <;> cases e9
        | no => cases own <;> cases e9
    · exact h.elim
theorem ev_lc {own : Bool} {src : DI} {g : TG} {t : W → Env' → Option Env'} {sl : List Nat} {ow : List (Str × Nat)} (hc : X.calm = true) (hN : X.N.Nodup) (hi : PIv ec X tg iter src) (ok : BlkOk X.N X.env.scope scope ow)
    (hg : ∀ (s : Shared) (H : Hp) (C : Addr) (cl : List (Str × Addr)) (fp : List Addr), PGv ec (X.blk s H scope (compEnvC scope cl C X.env) fp) tg g t sl) (ht : ∀ (s : Shared) (H : Hp) (C : Addr) (cl : List (Str × Addr)) (fp : List Addr), PTsv ec (X.blk s H scope (compEnvC scope cl C X.env) fp) ifs tt)
    (he : ∀ (s : Shared) (H : Hp) (C : Addr) (cl : List (Str × Addr)) (fp : List Addr), PEv ec (X.blk s H scope (compEnvC scope cl C X.env) fp) elt te) (hsl : ∀ i ∈ sl, i ∈ ow.map (·.2)) (hs : ∀ x, foldedSetIterable iter X.env x = pure x := by intro _; rfl) :
    PEv ec X (.ListComp elt [⟨tg, iter, ifs, 0⟩] scope pos) (dLc own src t tt te (ow.map (·.2))) :=
  ⟨fun pn xe Wx tk => ⟨fun pins s σ H Q I h => (pe_lc (X := X.tr pn xe) (own := ow) hc hN (hi.run pn xe Wx tk) ok (fun s H C cl fp => (hg s H C cl fp).pg [] _) (fun s H C cl fp => (ht s H C cl fp).run [] _ _ takes0) (fun s H C cl fp => (he s H C cl fp).run [] _ _ takes0) hs).run pins s σ H Q I
    (ev_lc_reads (hg s H 0 [] []).sem hsl h)⟩⟩
/-- y = [..] on one line, y a local -/
theorem sv_setLc {own : Bool} {src : DI} {g : TG} {t : W → Env' → Option Env'} {sl : List Nat} {ow : List (Str × Nat)} {i : Nat} {y : Str} {py : Pos} (hc : X.calm = true) (hN : X.N.Nodup) (hy : X.N[i]? = some y) (hyl : X.env.scope.names.lookup y = some .local)
    (hsw : swapsWith (.ListComp elt [⟨tg, iter, ifs, 0⟩] scope pos) (some (.Name y py)) spos.line X.env = pure true) (hi : PIv ec X tg iter src) (ok : BlkOk X.N X.env.scope scope ow)
    (hg : ∀ (s : Shared) (H : Hp) (C : Addr) (cl : List (Str × Addr)) (fp : List Addr), PGv ec (X.blk s H scope (compEnvC scope cl C X.env) fp) tg g t sl) (ht : ∀ (s : Shared) (H : Hp) (C : Addr) (cl : List (Str × Addr)) (fp : List Addr), PTsv ec (X.blk s H scope (compEnvC scope cl C X.env) fp) ifs tt)
    (he : ∀ (s : Shared) (H : Hp) (C : Addr) (cl : List (Str × Addr)) (fp : List Addr), PEv ec (X.blk s H scope (compEnvC scope cl C X.env) fp) elt te) (hsl : ∀ i ∈ sl, i ∈ ow.map (·.2)) (hs : ∀ x, foldedSetIterable iter X.env x = pure x := by intro _; rfl) :
    PSv ec X (.Assign [.Name y py] (.ListComp elt [⟨tg, iter, ifs, 0⟩] scope pos) spos) (dAsg i (dLc own src t tt te (ow.map (·.2)))) :=
  ⟨fun pn xe Wx tk po => ⟨fun pins s σ H D I h => (ps_setLc (X := X.tr pn xe) (own := ow) hc hN hy hyl hsw (hi.run pn xe Wx tk) ok (fun s H C cl fp => (hg s H C cl fp).pg [] _) (fun s H C cl fp => (ht s H C cl fp).run [] _ _ takes0) (fun s H C cl fp => (he s H C cl fp).run [] _ _ takes0) hs).run pins s σ H D I (by
    have h' := asg_reads h
    exact ev_lc_reads (hg s H 0 [] []).sem hsl h')⟩⟩
end
end Bel

/-! The engine, eleventh part: defs, calls. -/
namespace Bel
open PySem PySem.Spec PyProof.Rows L2
/-- what a def does with its arguments and the store -/
abbrev DF := List U → Store → Re U
/-- the def's own objects are forgotten, but what it gives back -/
def fin (n : Nat) (u : U) (S' : Store) : Re U := match u with
  | .v w => .ok (.v w) (S'.take n)
  | .o k => if k < n then .ok (.o k) (S'.take n) else match S'[k]? with
    | some ob => .ok (.o n) (S'.take n ++ [ob])
    | none => .no
def fnD (nl : Nat) (body : DS) : DF := fun us S => match body (us.map some ++ List.replicate (nl - us.length) none) S with
  | .ok (.nx _) S' => fin S.length (.v .non) S'
  | .ok (.rt u) S' => fin S.length u S'
  | .ex c _ S' => .ex c (S'.take S.length)
  | _ => .no
def spD (F : Fx) (d : DF) (n : Nat) : Sp := fun vs H Q E => ∃ (us : List U) (S : Store) (ι : List Addr) (B : Addr → Prop), RS F ι S B H ∧ RUs F H ι S B us vs ∧ us.length = n ∧ match d us S with
  | .ok u S' => ∀ v H' ι', Go ι S H ι' S' H' → RS F ι' S' B H' → RU F H' ι' S' B u v → Q v H'
  | .ex c S' => ∀ H' ι', Go ι S H ι' S' H' → RS F ι' S' B H' → E (F.ec c) none H'
  | .no => False
section
variable {F : Fx} {H H' : Hp} {ι ι' : List Addr} {S S' : Store} {B : Addr → Prop}
theorem Go.len (R : RS F ι S B H) (R' : RS F ι' S' B H') (G : Go ι S H ι' S' H') : S.length ≤ S'.length ∧ ι'.take S.length = ι := by
  obtain ⟨t, rfl⟩ := G.pre
  have h1 := R.len
  have h2 := R'.len
  rw [List.length_append] at h2
  exact ⟨by omega, by rw [← h1, List.take_left]⟩
theorem ow_take {n : Nat} {a : Addr} (h : Ow (ι'.take n) (S'.take n) a) : Ow ι' S' a := by
  obtain ⟨m, o, h1, h2, h3⟩ := h
  rw [List.getElem?_take] at h1 h3
  split at h1
  · rename_i hm
    rw [if_pos hm] at h3
    exact ⟨m, o, h1, h2, h3⟩
  · cases h1
/-- the store without what is behind -/
theorem RS.cut (R' : RS F ι' S' B H') (n : Nat) : RS F (ι'.take n) (S'.take n) B H' := by
  refine ⟨by simp [R'.len], R'.nd.sublist (List.take_sublist _ _), fun m o a h1 h2 => ?_, fun a h => ⟨(R'.hid a h).1, fun z => (R'.hid a h).2 (List.mem_of_mem_take z)⟩⟩
  rw [List.getElem?_take] at h1 h2
  split at h1
  · rename_i hm
    rw [if_pos hm] at h2
    exact (R'.ob m o a h1 h2).less fun b z => z.imp ow_take id
  · cases h1
theorem cut_go (R : RS F ι S B H) (R' : RS F ι' S' B H') (G : Go ι S H ι' S' H') : RS F ι (S'.take S.length) B H' ∧ Go ι S H ι (S'.take S.length) H' := by
  obtain ⟨h1, h2⟩ := G.len R R'
  have R2 := R'.cut S.length
  rw [h2] at R2
  refine ⟨R2, G.ext, fun a z => G.own a ?_, [], by simp⟩
  rw [← h2] at z
  exact ow_take z
theorem fin_ok (R : RS F ι S B H) (R' : RS F ι' S' B H') (G : Go ι S H ι' S' H') {u : U} {v : V} (ru : RU F H' ι' S' B u v) {u2 : U} {S2 : Store} (h : fin S.length u S' = .ok u2 S2) :
    ∃ ι2, RS F ι2 S2 B H' ∧ Go ι S H ι2 S2 H' ∧ RU F H' ι2 S2 B u2 v := by
  obtain ⟨R2, G2⟩ := cut_go R R' G
  obtain ⟨hl, ht⟩ := G.len R R'
  have sub : ∀ b, Oq ι (S'.take S.length) B b → Oq ι' S' B b := fun b z => z.imp (fun z => by rw [← ht] at z; exact ow_take z) id
  cases u with
  | v w =>
    cases h
    exact ⟨ι, R2, G2, Rp.less sub ru⟩
  | o k =>
    obtain ⟨a, ha, rfl⟩ := ru
    simp only [fin] at h
    split at h
    · rename_i hk
      cases h
      exact ⟨ι, R2, G2, a, by rw [← ht, List.getElem?_take, if_pos hk]; exact ha, rfl⟩
    · rename_i hk
      cases e : S'[k]? with
      | none => simp only [e] at h; cases h
      | some ob =>
        simp only [e] at h
        cases h
        have kl : ι.length ≤ k := by rw [R.len]; omega
        have na : a ∉ ι := fun z => by
          obtain ⟨m, hm, em⟩ := List.getElem_of_mem z
          have e1 : ι'[m]? = some a := by
            obtain ⟨t, rfl⟩ := G.pre
            rw [List.getElem?_append_left hm]
            simp [hm, em]
          obtain ⟨h4, h5⟩ := List.getElem?_eq_some_iff.mp ha
          obtain ⟨h6, h7⟩ := List.getElem?_eq_some_iff.mp e1
          have := (List.getElem_inj R'.nd).mp (h5.trans h7.symm)
          omega
        have ow2 : ∀ b, Ow (ι ++ [a]) (S'.take S.length ++ [ob]) b → Ow ι' S' b := fun b z => by
          obtain ⟨m, o, h1, h2, h3⟩ := z
          have lt : (S'.take S.length).length = ι.length := by rw [List.length_take, R.len]; omega
          by_cases hm : m < ι.length
          · rw [List.getElem?_append_left (by omega)] at h1
            rw [List.getElem?_append_left hm] at h3
            exact ow_take (n := S.length) ⟨m, o, h1, h2, by rw [ht]; exact h3⟩
          · rw [List.getElem?_append_right (by omega)] at h1 h3
            obtain ⟨h4, h5⟩ := List.getElem?_eq_some_iff.mp h1
            obtain ⟨h6, h7⟩ := List.getElem?_eq_some_iff.mp h3
            simp at h5 h7
            subst h5
            subst h7
            exact ⟨k, _, e, h2, ha⟩
        have sub2 : ∀ b, Oq (ι ++ [a]) (S'.take S.length ++ [ob]) B b → Oq ι' S' B b := fun b z => z.imp (ow2 b) id
        have lt : (S'.take S.length).length = ι.length := by rw [List.length_take, R.len]; omega
        refine ⟨ι ++ [a], ⟨by simp [lt], ?_, fun m o b h1 h2 => ?_, fun b hb => ?_⟩, ⟨G.ext, fun b z => G.own b (ow2 b z), [a], rfl⟩, a, ?_, rfl⟩
        · rw [List.nodup_append]
          refine ⟨R.nd, by simp, fun x hx y hy e => ?_⟩
          simp at hy
          subst hy
          subst e
          exact na hx
        · by_cases hm : m < ι.length
          · rw [List.getElem?_append_left (by omega)] at h1
            rw [List.getElem?_append_left hm] at h2
            rw [List.getElem?_take] at h1
            split at h1
            · refine (R'.ob m o b h1 ?_).less sub2
              obtain ⟨t, rfl⟩ := G.pre
              rw [List.getElem?_append_left hm]
              exact h2
            · cases h1
          · rw [List.getElem?_append_right (by omega)] at h1 h2
            obtain ⟨h4, h5⟩ := List.getElem?_eq_some_iff.mp h1
            obtain ⟨h6, h7⟩ := List.getElem?_eq_some_iff.mp h2
            simp at h5 h7
            subst h5
            subst h7
            exact (R'.ob k _ _ e ha).less sub2
        · obtain ⟨h1, h2⟩ := R'.hid b hb
          refine ⟨h1, fun z => ?_⟩
          rcases List.mem_append.mp z with z | z
          · exact (R.hid b hb).2 z
          · simp at z; subst z; exact h2 (List.mem_of_getElem? ha)
        · rw [List.getElem?_append_right (by rw [R.len]; omega), R.len]
          simp
end
theorem spD_len {F : Fx} {d : DF} {n : Nat} : ∀ vs H Q E, spD F d n vs H Q E → vs.length = n := fun vs H Q E ⟨us, S, ι, B, _, r, h, _⟩ => by rw [← h]; exact (Paired.length r).symm
theorem RUs.begin_ {F : Fx} {H : Hp} {ι : List Addr} {S : Store} {B : Addr → Prop} {us : List U} {vs : List V} (r : RUs F H ι S B us vs) (N : List Str) : ER F H ι S B (us.map some ++ List.replicate (N.length - us.length) none) (L2.start N vs) := by
  have hl := Paired.length r
  refine ⟨by simp [L2.start, hl], fun i u h => ?_⟩
  have get : ∀ {us : List U} {vs : List V} {i : Nat} {u : U}, RUs F H ι S B us vs → us[i]? = some u → ∃ v, vs[i]? = some v ∧ RU F H ι S B u v := by
    intro us vs i u r h
    induction r generalizing i with
    | nil => simp at h
    | cons a t ih =>
      cases i with
      | zero => simp at h; subst h; exact ⟨_, rfl, a⟩
      | succ i => simpa using ih (by simpa using h)
  by_cases hi : i < us.length
  · rw [List.getElem?_append_left (by simpa using hi)] at h
    rw [List.getElem?_map] at h
    have e : us[i]? = some us[i] := by simp [hi]
    rw [e] at h
    cases h
    obtain ⟨v, h1, h2⟩ := get r e
    refine ⟨v, ?_, h2⟩
    unfold L2.start
    rw [List.getElem?_append_left (by rw [List.length_map, ← hl]; exact hi), List.getElem?_map, h1]
    rfl
  · rw [List.getElem?_append_right (by simpa using hi), List.getElem?_replicate] at h
    split at h <;> cases h
section
variable {P : Program} {w : World} {K : PySem.W.Frag} {mg : Str → Option Value} {base : Heap} {ec : Nat → Value}
/-- THE RULE for a def -/
theorem def_ok {x qual : Str} {params : Arguments} {body : List Stmt} {scope : Scope} {dvs : List V} {kws : List (Str × V)} {f : Addr} {fd : FuncData} {N ps : List Str} {k n nl : Nat} {d : DS} (Fn : FunD K x qual params body scope dvs kws f fd) (S : FnScope N ps scope) (hn : ps.length = n) (hnl : N.length = nl)
    (hb : ∀ (cdv : Value) (A : Around) (outer : List Env) (s : Shared) (H : Hp) (E : XK), Room k (A.deeper (envOfC qual scope s.heap.objs.size f cdv)) →
      PSsv ec (cxOf (L2.CX P w) P w K mg base N qual scope f cdv A outer s H E) body d) : FnOk P w K mg base (L2.CX P w) (k + 1) f fd ps (spD ⟨K, w, ec⟩ (fnD nl d) n) := by
  subst hn hnl
  refine Fn.ok S spD_len (fun cdv A outer s H vs Q E hr h => ⟨LS ⟨K, w, ec⟩ (fun cls d _ H => E cls d H) d, (hb cdv A outer s H E hr).run [] _ _ (takes_of rfl rfl rfl rfl) (passes_of rfl), ?_⟩)
  obtain ⟨us, St, ι, B, R, r, hl, h⟩ := h
  refine ⟨_, St, ι, B, R, r.begin_ N, ?_⟩
  unfold fnD at h
  cases e : d (us.map some ++ List.replicate (N.length - us.length) none) St with
  | no => rw [e] at h; exact h
  | ex c e1 S1 =>
    rw [e] at h
    intro σ' H' ι' G R' E'
    obtain ⟨R2, G2⟩ := cut_go R R' G
    exact h H' ι G2 R2
  | ok fl S1 =>
    rw [e] at h
    cases fl with
    | bk e1 => exact h.elim
    | ct e1 => exact h.elim
    | nx e1 =>
      intro σ' H' ι' G R' E'
      simp only at h
      cases e2 : fin St.length (.v .non) S1 with
      | ok u2 S2 =>
        rw [e2] at h
        obtain ⟨ι2, R2, G2, r2⟩ := fin_ok R R' G (u := .v .non) (v := .non) .non e2
        exact h _ H' ι2 G2 R2 r2
      | ex c S2 => cases e2
      | no => rw [e2] at h; exact h.elim
    | rt u =>
      intro v H' ι' G R' ru
      simp only at h
      cases e2 : fin St.length u S1 with
      | ok u2 S2 =>
        rw [e2] at h
        obtain ⟨ι2, R2, G2, r2⟩ := fin_ok R R' G ru e2
        exact h _ H' ι2 G2 R2 r2
      | ex c S2 =>
        unfold fin at e2
        split at e2
        · cases e2
        · split at e2
          · cases e2
          · split at e2 <;> cases e2
      | no => rw [e2] at h; exact h.elim
end
/-- f(e, ..) of a def -/
def dFn (f : DF) (n : Nat) (a : DA) : DE := fun e S => (a e S).bind fun us S1 => if us.length = n then f us S1 else .no
section
variable {ec : Nat → Value} {X : Cx} {e : Expr} {es : List Expr} {pos p : Pos} {das : DA} {df : DF} {n k : Nat} {f : Addr} {fd : FuncData} {ps : List Str} {x : Str}
theorem fn_reads {F : Fx} {Wx : WX} {σ : L2.St} {H : Hp} {Q : VK} (h : LE F Wx (dFn df n das) σ H Q) : tCallS (spD F df n) (WE Wx) (LA F Wx das) σ H Q := by
  obtain ⟨env, S, ι, B, R, E, h⟩ := h
  refine LA.then_ R E h fun us S1 xs H1 ι1 G1 R1 E1 ru h1 => ?_
  split at h1
  · rename_i hn
    refine ⟨us, S1, ι1, B, R1, ru, hn, ?_⟩
    cases e1 : df us S1 with
    | ok u S' => rw [e1] at h1; exact h1
    | ex c S' => rw [e1] at h1; exact h1
    | no => rw [e1] at h1; exact h1
  · exact h1.elim
theorem ev_call (G : FnOk X.prog X.w X.K X.mg X.base (L2.CX X.prog X.w) k f fd ps (spD (fx ec X) df n)) (hr : Room k X.A) (hg : Gl X x) (hm : X.mg x = some (.ref f)) (hk : PySem.W.keepIn X.K (.ref f) = true) (hb : Binds X.K fd ps []) (ha : PAv ec X (e :: es) das)
    (hdb : (x == ("__debug__" : Str)) = false := by decide) (he : starEach (e :: es) X.env = (false, eval e X.env) :: starEach es X.env := by rfl) (hpl : (backTo pos (starEach es X.env)).any (·.1) = false := by rfl) : PEv ec X (.Call (.Name x p) (e :: es) [] pos) (dFn df n das) :=
  ⟨fun pn xe Wx tk => (pe_callS (X := X.tr pn xe) G hr hg hm hk hb (fun σ => passAt tk σ) (ha.run pn xe Wx tk) hdb he hpl).imp fun σ H Q h => fn_reads h⟩
theorem ev_call0 (G : FnOk X.prog X.w X.K X.mg X.base (L2.CX X.prog X.w) k f fd ps (spD (fx ec X) df 0)) (hr : Room k X.A) (hg : Gl X x) (hm : X.mg x = some (.ref f)) (hk : PySem.W.keepIn X.K (.ref f) = true) (hb : Binds X.K fd ps [])
    (hdb : (x == ("__debug__" : Str)) = false := by decide) : PEv ec X (.Call (.Name x p) [] [] pos) (dFn df 0 dNil) := by
  refine ⟨fun pn xe Wx tk => PE.imp (t := tCallS (spD (fx ec X) df 0) (WE Wx) tNil) ⟨fun pins s σ H Q I h => ?_⟩ fun σ H Q h => ?_⟩
  · refine wpAny_Call_Name_kw (ld_glob (X := X.tr pn xe) I hg hm ?_ hdb)
    exact PySem.W.callWith_K0 I.kIn hk (run_fnS (X := X.tr pn xe) (us := []) G hr hb (passAt tk σ) I .nil h)
  · obtain ⟨env, S, ι, B, R, E, h⟩ := h
    refine ⟨[], S, ι, B, R, .nil, rfl, ?_⟩
    simp only [dFn, dNil, Re.bind_ok, List.length_nil, if_true] at h
    cases e1 : df [] S with
    | ok u S' => rw [e1] at h; exact h
    | ex c S' => rw [e1] at h; exact h
    | no => rw [e1] at h; exact h
end
end Bel

/-! The engine, twelfth part: texts backwards, constants of the module, a law's end. -/
namespace Bel
open PySem PySem.Spec PyProof.Rows L2
section
variable {X : Cx}
theorem pe_revS {e : Expr} {te : TE} {k : Nat} {p1 p2 p3 pos : Pos} (he : PE X e te) : PE X (.Subscript e (.Slice none none (some (.UnaryOp .USub (.Constant (.int 1) k p1) p2)) p3) pos)
    (fun σ H Q => te σ H fun x H1 => ∃ z : Str, x = .str z ∧ z.length ≤ sizeLine ∧ Q (.str ⟨z.cps.toList.reverse.toArray⟩) H1) := by
  refine ⟨fun pins s σ H Q I h => Subscript_ (thn (he.run pins s σ H _ I h) fun v s1 ⟨x, H1, I1, r1, q1⟩ => ?_)⟩
  obtain ⟨z, rfl, hz, q⟩ := q1
  obtain ⟨t, rfl⟩ := r1
  have step : PO X (some (.UnaryOp .USub (.Constant (.int 1) k p1) p2)) (tPart (tUn (rU fun i => .int (-i)) (tC (.int 1)))) := po_some (pe_un un_neg pe_int)
  refine wpAny_Slice (thn (po_none.run pins s1 σ H1 (fun o J => o = none ∧ J = H1) I1 ⟨rfl, rfl⟩) fun vl s2 z2 => ?_)
  obtain ⟨l, H2, I2, pl, rfl, rfl⟩ := z2
  refine thn (po_none.run pins s2 σ H2 (fun o J => o = none ∧ J = H2) I2 ⟨rfl, rfl⟩) fun vu s3 z3 => ?_
  obtain ⟨u, H3, I3, pu, rfl, rfl⟩ := z3
  refine thn (step.run pins s3 σ H3 (fun o J => o = some (-1) ∧ J = H3) I3 ⟨1, rfl, -1, rfl, rfl, rfl⟩) fun vs s4 z4 => ?_
  obtain ⟨o, H4, I4, ps, rfl, rfl⟩ := z4
  have I5 : Inv X pins σ H4 { s4 with heap := s4.heap.push { cls := .type "slice", data := .fields #[vl, vu, vs] } } := I4.kept (t' := s4.toks) fun b ob q => Heap.get?_push_of_some _ q
  obtain ⟨l1, rfl, e1⟩ := IsPart.raw pl
  obtain ⟨l2, rfl, e2⟩ := IsPart.raw pu
  obtain ⟨l3, rfl, e3⟩ := IsPart.raw ps
  show wpAny (model X.prog X.w) X.A (subscriptTail e (.Slice none none (some (.UnaryOp .USub (.Constant (.int 1) k p1) p2)) p3) (.str z t) (.ref s4.heap.objs.size)) (EP X pins σ Q) X.xe { s4 with heap := s4.heap.push { cls := .type "slice", data := .fields #[partValue l1, partValue l2, partValue l3] } }
  refine tail_any (T := "str") (ops := [.str z t, .ref s4.heap.objs.size]) (typeIs_str _ _ _) (F.slot_str_getitem.lookup) ?_ (by with_unfolding_all rfl)
  have sp := Heap.IsSliceOf.new s4.heap (partValue l1) (partValue l2) (partValue l3)
  refine wpAny_getItem_str_slice (l := l1) (u := l2) (st := l3) ?_ ?_ ?_
  · obtain ⟨os, hos, hcs, hds⟩ := sp
    exact ⟨os, hos, hcs, hds⟩
  · rw [e3]
    rfl
  · unfold sliceMade slicePicked
    rw [e1, e2, e3]
    have er : Builtin.Str.strSliceIndices none none ((some (-1 : Int)).getD 1) z.length = (List.range z.length).reverse := by
      show sliceRange ((z.length : Int) - 1) (-1) (-1) = _
      rw [PySem.W.krv_sliceRange, PySem.W.krv_range]
    show Made.post (if (((some (-1 : Int)).getD 1 == 1) && (Builtin.Str.strSliceIndices none none ((some (-1 : Int)).getD 1) z.length).length == z.length) = true then Made.val (.str z t) else Made.str ⟨((Builtin.Str.strSliceIndices none none ((some (-1 : Int)).getD 1) z.length).filterMap (z.cps[·]?)).toArray⟩) (EP X pins σ Q) _
    rw [er, if_neg (by simp)]
    have ez : (List.range z.length).reverse.filterMap (z.cps[·]?) = z.cps.toList.reverse := by
      rw [List.filterMap_reverse]
      exact congrArg List.reverse (PySem.W.krv_all z.cps)
    rw [ez]
    refine ⟨?_, .str _, H4, I5.tok _, ⟨_, rfl⟩, q⟩
    show z.cps.toList.reverse.toArray.size ≤ sizeLine
    simpa [Str.length] using hz
end
end Bel

/-! The engine, thirteenth part: constants of the module, defs by name, a law's end. -/
namespace Bel
open PySem PySem.Spec PyProof.Rows L2
/-! ### texts backwards -/
def dRevS (d : DE) : DE := fun e S => (d e S).bind fun u S1 => match dr S1 u with
  | some (.str x) => .ok (.v (.str x.reverse)) S1
  | _ => .no
section
variable {ec : Nat → Value} {X : Cx} {e : Expr} {da : DE}
theorem ev_revS {k : Nat} {p1 p2 p3 pos : Pos} (h : PEv ec X e da) : PEv ec X (.Subscript e (.Slice none none (some (.UnaryOp .USub (.Constant (.int 1) k p1) p2)) p3) pos) (dRevS da) :=
  ⟨fun pn xe Wx tk => (pe_revS (h.run pn xe Wx tk)).imp fun σ H Q ⟨env, S, ι, B, R, E, h⟩ => by
    refine LE.then_ R E h fun u S1 v H1 ι1 G1 R1 E1 ru h1 => ?_
    cases q : dr S1 u with
    | none => rw [q] at h1; exact h1.elim
    | some w =>
      rw [q] at h1
      cases w with
      | str x =>
        have r := RU.rt R1 ru q
        have rr : Rp (fx ec X) H1 (Oq ι1 S1 B) (.str x) v := r
        obtain ⟨rfl, hl, ho⟩ := rr.str_inv
        refine ⟨_, rfl, by simpa [Str.length] using hl, h1 _ H1 ι1 .refl R1 ?_⟩
        exact .str x.reverse (by simpa using hl) (by simpa using ho)
      | _ => exact h1.elim⟩
end
/-! ### constants -/
def repL (f : W → Value → Bool) : List W → List Value → Bool
  | [], [] => true
  | w :: ws, u :: us => f w u && repL f ws us
  | _, _ => false
def repB (K : PySem.W.Frag) : Nat → W → Value → Bool
  | n + 1, w, u => match w, u with
    | .non, .none => true
    | .bl b, .bool c => b == c
    | .int i, .int j _ => decide (i = j)
    | .str x, .str y _ => decide (y = (⟨x.toArray⟩ : Str)) && (x.all okCp && decide (x.length ≤ 16777216))
    | .tup ws, .ref a => (match K.lookup a with
      | some ⟨.type c, none, .seq its _, _⟩ => decide (c = "tuple") && (decide (its.size ≤ 16777216) && repL (repB K n) ws its.toList)
      | _ => false)
    | _, _ => false
  | 0, _, _ => false
/-- w stands for the module's value u, wherever K is the written part -/
def KonV (K : PySem.W.Frag) (w : W) (u : Value) : Prop := ∃ v, RelV v u ∧ ∀ (F : Fx), F.K = K → ∀ (H : Hp) (O : Addr → Prop), Rp F H O w v
theorem repL_ok {K : PySem.W.Frag} {f : W → Value → Bool} (hf : ∀ w u, f w u = true → KonV K w u) : ∀ (ws : List W) (us : List Value), repL f ws us = true → ∃ vs, Vals vs us ∧ ∀ (F : Fx), F.K = K → ∀ (H : Hp) (O : Addr → Prop), RpL F H O ws vs
  | [], [], _ => ⟨[], .nil, fun _ _ _ _ => .nil⟩
  | [], _ :: _, h => by cases h
  | _ :: _, [], h => by cases h
  | w :: ws, u :: us, h => by
    obtain ⟨h1, h2⟩ := He.ba (show (f w u && repL f ws us) = true from h)
    obtain ⟨v, r, q⟩ := hf w u h1
    obtain ⟨vs, rs, qs⟩ := repL_ok hf ws us h2
    exact ⟨v :: vs, .cons r rs, fun F e H O => .cons (q F e H O) (qs F e H O)⟩
theorem repB_ok {K : PySem.W.Frag} : ∀ (n : Nat) (w : W) (u : Value), repB K n w u = true → KonV K w u
  | 0, _, _, h => by cases h
  | n + 1, w, u, h => by
    cases w with
    | non => cases u with
      | none => exact ⟨.non, rfl, fun _ _ _ _ => .non⟩
      | _ => cases h
    | bl b => cases u with
      | bool c =>
        have e : b = c := eq_of_beq (show (b == c) = true from h)
        subst e
        exact ⟨.bl b, rfl, fun _ _ _ _ => .bl b⟩
      | _ => cases h
    | int i => cases u with
      | int j t =>
        have e : i = j := of_decide_eq_true h
        subst e
        exact ⟨.int i, ⟨t, rfl⟩, fun _ _ _ _ => .int i⟩
      | _ => cases h
    | str x => cases u with
      | str y t =>
        obtain ⟨h1, h2⟩ := He.ba (show (decide (y = (⟨x.toArray⟩ : Str)) && (x.all okCp && decide (x.length ≤ 16777216))) = true from h)
        obtain ⟨h3, h4⟩ := He.ba h2
        have e := of_decide_eq_true h1
        subst e
        exact ⟨.str ⟨x.toArray⟩, ⟨t, rfl⟩, fun _ _ _ _ => .str x (by rw [sizeLine_is]; exact of_decide_eq_true h4) h3⟩
      | _ => cases h
    | tup ws => cases u with
      | ref a =>
        have h1 : (match K.lookup a with
          | some ⟨.type c, none, .seq its _, _⟩ => decide (c = "tuple") && (decide (its.size ≤ 16777216) && repL (repB K n) ws its.toList)
          | _ => false) = true := h
        cases q : K.lookup a with
        | none => rw [q] at h1; cases h1
        | some o =>
          obtain ⟨oc, od, dt, osl⟩ := o
          rw [q] at h1
          cases oc with
          | type c =>
            cases od with
            | none =>
              cases dt with
              | seq its m =>
                obtain ⟨h2, h3⟩ := He.ba (show (decide (c = "tuple") && (decide (its.size ≤ 16777216) && repL (repB K n) ws its.toList)) = true from h1)
                obtain ⟨h4, h5⟩ := He.ba h3
                obtain ⟨vs, r, z⟩ := repL_ok (repB_ok n) ws its.toList h5
                refine ⟨.ref a, rfl, fun F e H O => .mkTup (.inr ?_) (z F e H O)⟩
                exact ⟨_, its, m, by rw [e]; exact q, congrArg Value.type (of_decide_eq_true h2), rfl, rfl, by rw [sizeLine_is]; exact of_decide_eq_true h4, r⟩
              | _ => cases h1
            | some _ => cases dt <;> cases h1
          | _ => cases od <;> cases dt <;> cases h1
      | _ => cases h
    | _ => cases h
abbrev Con' : Type := Str × W
def konB (K : PySem.W.Frag) (p : Con') : Bool := match PySem.W.nsIn K mainGlobals p.1 with
  | some (some u) => repB K 9 p.2 u
  | _ => false
def KonM (K : PySem.W.Frag) (mg : Str → Option Value) (x : Str) (w : W) : Prop := ∃ u, mg x = some u ∧ KonV K w u
theorem konB_ok {K : PySem.W.Frag} {h : Heap} {mg : Str → Option Value} (X : K.In h) (G : h.Ns mainGlobals mg) {x : Str} {w : W} (c : konB K (x, w) = true) : KonM K mg x w := by
  unfold konB at c
  cases q : PySem.W.nsIn K mainGlobals x with
  | none => simp only [q] at c; cases c
  | some r =>
    simp only [q] at c
    cases r with
    | none => cases c
    | some u => exact ⟨u, PySem.W.mg_of X G q, repB_ok 9 w u c⟩
theorem KonM.kon {ec : Nat → Value} {X : Cx} {x : Str} {w : W} (h : KonM X.K X.mg x w) : Kon ec X x w := by
  obtain ⟨u, h1, v, r, q⟩ := h
  exact ⟨v, u, h1, r, fun H O => q (fx ec X) rfl H O⟩
/-! ### no list of the module -/
def noLst (K : PySem.W.Frag) : Bool := K.all fun p => match p.2.cls with
  | .type c => !decide (c = "list")
  | _ => true
theorem noLst_ok {K : PySem.W.Frag} (h : noLst K = true) {a : Addr} {o : Obj} (q : K.lookup a = some o) : o.cls ≠ .type "list" := fun e => by
  have z := List.all_eq_true.mp h (a, o) (He.lookup_mem q)
  simp only [e] at z
  exact absurd z (by decide)
/-! ### defs by name -/
def Has (P : Program) (w : World) (K : PySem.W.Frag) (mg : Str → Option Value) (base : Heap) (ec : Nat → Value) (x : Str) (k n : Nat) (d : DF) : Prop :=
  ∃ (f : Addr) (fd : FuncData) (ps : List Str), FnOk P w K mg base (L2.CX P w) k f fd ps (spD ⟨K, w, ec⟩ d n) ∧ mg x = some (.ref f) ∧ PySem.W.keepIn K (.ref f) = true ∧ Binds K fd ps []
theorem Has.mono {P : Program} {w : World} {K : PySem.W.Frag} {mg : Str → Option Value} {base : Heap} {ec : Nat → Value} {x : Str} {j k n : Nat} {d : DF} (h : Has P w K mg base ec x j n d) (hk : j ≤ k) : Has P w K mg base ec x k n d := by
  obtain ⟨f, fd, ps, h1, h2⟩ := h
  exact ⟨f, fd, ps, h1.mono hk, h2⟩
section
variable {ec : Nat → Value} {X : Cx} {e : Expr} {es : List Expr} {pos p : Pos} {das : DA} {df : DF} {n k : Nat} {x : Str}
theorem ev_fn (h : Has X.prog X.w X.K X.mg X.base ec x k n df) (hr : Room k X.A) (hg : Gl X x) (ha : PAv ec X (e :: es) das)
    (hdb : (x == ("__debug__" : Str)) = false := by decide) (he : starEach (e :: es) X.env = (false, eval e X.env) :: starEach es X.env := by rfl) (hpl : (backTo pos (starEach es X.env)).any (·.1) = false := by rfl) : PEv ec X (.Call (.Name x p) (e :: es) [] pos) (dFn df n das) := by
  obtain ⟨f, fd, ps, h1, h2, h3, h4⟩ := h
  exact ev_call h1 hr hg h2 h3 h4 ha hdb he hpl
theorem ev_fn0 (h : Has X.prog X.w X.K X.mg X.base ec x k 0 df) (hr : Room k X.A) (hg : Gl X x) (hdb : (x == ("__debug__" : Str)) = false := by decide) : PEv ec X (.Call (.Name x p) [] [] pos) (dFn df 0 dNil) := by
  obtain ⟨f, fd, ps, h1, h2, h3, h4⟩ := h
  exact ev_call0 h1 hr hg h2 h3 h4 hdb
end
/-- what the head tells -/
structure Hd (K : PySem.W.Frag) (mg : Str → Option Value) (fa : List He.Fa) (fn : List He.DefD) (kc : List Con') : Prop where
  says : He.SaysD fa fn K
  gl : ∀ x, (He.Fa.glo x).ok K = true → mg x = some (.ref (He.ga K x))
  fr : ∀ x, (He.Fa.free x).ok K = true → mg x = none
  kn : ∀ p ∈ kc, KonM K mg p.1 p.2
  nol : noLst K = true
section
variable {P : Program} {w : World} {K : PySem.W.Frag} {mg : Str → Option Value} {base : Heap} {ec : Nat → Value} {fa : List He.Fa} {fn : List He.DefD} {kc : List Con'}
theorem Hd.free (Z : Hd K mg fa fn kc) (i : Nat) {x : Str} (h : fa[i]? = some (.free x) := by rfl) : mg x = none := Z.fr x (Z.says.fact i h)
theorem Hd.con (Z : Hd K mg fa fn kc) (i : Nat) {x : Str} {v : W} (h : kc[i]? = some (x, v) := by rfl) : KonM K mg x v := Z.kn (x, v) (List.mem_of_getElem? h)
theorem Hd.def_ (Z : Hd K mg fa fn kc) (i j : Nat) {x qual : Str} {params : Arguments} {body : List Stmt} {scope : Scope} {N ps : List Str} {k n nl : Nat} {d : DS}
    (h : fn[i]? = some ⟨(x, none), x, qual, params, body, scope, [], []⟩) (hg : fa[j]? = some (.glo x)) (S : FnScope N ps scope) (hn : ps.length = n) (hnl : N.length = nl)
    (hbi : ∀ (kV doc pm : Value) (an : Option Addr) (cdv ct : Value) (us : List Value), us.length = ps.length → bindArgs (PySem.W.fnOf x qual params body scope .none kV doc pm an cdv ct) ⟨us, []⟩ = pure (ps.zip us))
    (hb : ∀ (f : Addr) (cdv : Value) (A : Around) (outer : List Env) (s : Shared) (H : Hp) (E : XK), Room k (A.deeper (envOfC qual scope s.heap.objs.size f cdv)) →
      PSsv ec (cxOf (L2.CX P w) P w K mg base N qual scope f cdv A outer s H E) body d) : Has P w K mg base ec x (k + 1) n (fnD nl d) := by
  obtain ⟨fd, F⟩ := Z.says.def_ i h
  refine ⟨He.ga K x, fd, ps, def_ok (P := P) (w := w) (mg := mg) (base := base) F S hn hnl fun cdv A outer s H E hr => hb _ cdv A outer s H E hr, Z.gl x (Z.says.fact j hg), F.kp, F.bindsN hbi⟩
end
/-! ### a law's end -/
theorem cx_none {P : Program} {w : World} {H : Hp} {s s' : Shared} {e : Value} (h : L2.CX P w [] H s (fun _ _ _ => False) e s') : False := by
  obtain ⟨a, B, H', cls, d, _, _, _, _, _, _, _, z⟩ := h
  exact z
theorem law_sp {F : Fx} {df : DF} (hK : noLst F.K = true) {H : Hp} {a : Addr} {ns : List Int} (hO : Only H) (hS : SqL F.K H a (ns.map V.int)) (h : ∃ S', df [.o 0] [.scr (ns.map W.int)] = .ok (.v (.bl true)) S') : spD F df 1 [.ref a] H (fun v _ => v = .bl true) fun _ _ _ => False := by
  obtain ⟨S', h⟩ := h
  rcases hS with hS | ⟨o, its, n, h1, h2, _⟩
  · have rp : ∀ O, RpL F H O (ns.map W.int) (ns.map V.int) := fun O => by
      clear h hS
      induction ns with
      | nil => exact .nil
      | cons i r ih => exact .cons (.int i) ih
    refine ⟨[.o 0], [.scr (ns.map W.int)], [a], fun _ => False, ⟨rfl, by simp, fun m o b e1 e2 => ?_, fun _ z => z.elim⟩, .cons ⟨a, rfl, rfl⟩ .nil, rfl, ?_⟩
    · cases m with
      | zero =>
        simp at e1 e2
        subst e1 e2
        obtain ⟨ho, e⟩ : ∃ ho, H a = some ho := by
          rcases hS with z | ⟨q, z⟩
          · exact ⟨_, z⟩
          · exact ⟨_, z⟩
        exact ⟨_, ho, e, hS, rp _⟩
      | succ m => simp at e1
    · rw [h]
      intro v H' ι' G R r
      exact Rp.bl_inv r
  · exact absurd h2 (noLst_ok hK h1)
theorem Hd.law_ {P : Program} {w : World} {K : PySem.W.Frag} {mg : Str → Option Value} {ec : Nat → Value} {fa : List He.Fa} {fn : List He.DefD} {kc : List Con'} (Z : Hd K mg fa fn kc) (i : Nat) {x y qual : Str} {params : Arguments} {body : List Stmt} {scope : Scope} {N : List Str} {k nl : Nat} {d : DS}
    (h : fn[i]? = some ⟨(x, none), x, qual, params, body, scope, [], []⟩) (S : FnScope N [y] scope) (hnl : N.length = nl)
    (hbi : ∀ (kV doc pm : Value) (an : Option Addr) (cdv ct : Value) (us : List Value), us.length = [y].length → bindArgs (PySem.W.fnOf x qual params body scope .none kV doc pm an cdv ct) ⟨us, []⟩ = pure ([y].zip us))
    (hb : ∀ (base : Heap) (f : Addr) (cdv : Value) (A : Around) (outer : List Env) (s : Shared) (H : Hp) (E : XK), Room k (A.deeper (envOfC qual scope s.heap.objs.size f cdv)) →
      PSsv ec (cxOf (L2.CX P w) P w K mg base N qual scope f cdv A outer s H E) body d) :
    ∃ fd, (∀ (s : Shared) (u : Value), BindsTo s fd ⟨[u], []⟩ [(y, u)]) ∧ ∀ base : Heap, FnOk P w K mg base (L2.CX P w) (k + 1) (He.ga K x) fd [y] (spD ⟨K, w, ec⟩ (fnD nl d) 1) := by
  obtain ⟨fd, F⟩ := Z.says.def_ i h
  exact ⟨fd, fun s u => F.bindsA hbi s [u] rfl, fun base => def_ok (P := P) (w := w) (mg := mg) (base := base) F S rfl hnl fun cdv A outer s H E hr => hb base _ cdv A outer s H E hr⟩
theorem law_end {l : PySem.W.OpenLaw} {n k : Nat} {q : Program} {loose : List Str} {XP : (Str → Option Value) → Heap → Prop} {d : DefRec} {x y : Str} {fa : List He.Fa} {fn : List He.DefD} {kc : List Con'} {m : Nat}
    (hn : l.most = some n) (hn2 : n ≤ sizeLine) (hdf : d.params.defaults = []) (hr : Room k callerA) (hx : d.name = x) (j : Nat) (hj : fa[j]? = some (.glo x)) (df : DF)
    (F : ∀ (w : World) (mg : Str → Option Value) (K : PySem.W.Frag), Hd K mg fa fn kc → ∃ (ec : Nat → Value) (fd : FuncData), (∀ (s : Shared) (u : Value), BindsTo s fd ⟨[u], []⟩ [(y, u)]) ∧
      ∀ base : Heap, FnOk l.prog w K mg base (L2.CX l.prog w) k (He.ga K x) fd [y] (spD ⟨K, w, ec⟩ df 1))
    (L : ∀ ns : List Int, ns.length ≤ n → ∃ S', df [.o 0] [.scr (ns.map W.int)] = .ok (.v (.bl true)) S') :
    PySem.W.WalkO q loose XP (He.hookX m fa fn [] [] fun K => noLst K && kc.all (konB K)).says l.row.toRowW d [] (fun f vs => PySem.call f vs) := by
  refine Att.attach_call hn hdf fun w s₀ s₁ mg mb ad o pm cd doc a vs ns G Y ho hd hcd hmg hobj hints hlen hg => ?_
  obtain ⟨K, KX, c⟩ := Y
  obtain ⟨z1, z2⟩ := He.ba c.more
  have Z : Hd K mg fa fn kc := ⟨c.t.d, fun x e => He.glo_ok KX G.T.g e, fun x e => He.free_ok KX G.T.g e, fun p hp => konB_ok KX G.T.g (List.all_eq_true.mp z2 p hp), z1⟩
  obtain ⟨ec, fd, hb, hF⟩ := F w mg K Z
  have e := hmg.symm.trans (hx ▸ Z.gl x (c.t.d.fact j hj))
  have ea : ad = He.ga K x := by
    injection e with e
    injection e with e
    rw [e, hx]
  subst ea
  exact law_call (sp := spD ⟨K, w, ec⟩ df 1) KX G.T.g G.T.b G.T.builtins G.T.nolimit hg hobj hints (Nat.le_trans hlen hn2) hr (fun base _ _ => hF base) hb (fun H hO hS => law_sp (F := ⟨K, w, ec⟩) z1 hO hS (L ns hlen)) fun H e s' => cx_none
end Bel

/-! The engine, fourteenth part: slices by a step of one, either way. -/
namespace Bel
open PySem PySem.Spec PyProof.Rows L2 HT
section
variable {prog : Program} {w : World} {A : Around} {E : Value → Shared → Prop} {s : Shared}
/-- back: all the places, from the last -/
theorem places_back (n : Nat) : Builtin.Slice.slicePlaces ((n : Int) - 1) (-1) (-1) = n := by
  unfold Builtin.Slice.slicePlaces
  rw [if_neg (by decide)]
  split
  · rw [show (-(-1 : Int)) = 1 by decide, Int.ediv_one]
    omega
  · omega
theorem applied_back {sl : Addr} {vl vu vs : Value} {n : Nat} {Q : Int × Int × Nat → Shared → Prop} (hs : s.heap.IsSliceOf sl vl vu vs) (pl : IsPart vl none) (pu : IsPart vu none) (ps : IsPart vs (some (-1)))
    (h : Q ((n : Int) - 1, -1, n) s) : wpAny (model prog w) A (Builtin.Slice.sliceApplied (.ref sl) (pure (n : Int))) Q E s := by
  obtain ⟨ob, h1, h2, h3⟩ := hs
  unfold Builtin.Slice.sliceApplied Builtin.Slice.sliceFields
  refine wpAny_bind (wpAny_bind (wpAny_field h1 h3 (x := vl) rfl (wpAny_bind (wpAny_field h1 h3 (x := vu) rfl (wpAny_bind (wpAny_field h1 h3 (x := vs) rfl (wpAny_pure (wpAny_bind (slicePart_ ps ?_)))))))))
  show wpAny (model prog w) A (if ((-1 : Int) == 0) = true then _ else _) Q E s
  rw [if_neg (by decide)]
  refine wpAny_bind (slicePart_ pl (wpAny_bind (slicePart_ pu (wpAny_bind (wpAny_pure (wpAny_pure ?_))))))
  show Q ((n : Int) - 1, -1, Builtin.Slice.slicePlaces ((n : Int) - 1) (-1) (-1)) s
  rw [places_back]
  exact h
theorem pick_back (xs : Array Value) : ((List.range xs.size).filterMap fun (k : Nat) => xs[(((xs.size : Int) - 1) + (k : Int) * (-1)).toNat]?) = xs.toList.reverse := by
  have e : (List.range xs.size).filterMap (fun (k : Nat) => xs[(((xs.size : Int) - 1) + (k : Int) * (-1)).toNat]?) = ((List.range xs.size).map fun k => xs.size - 1 - k).filterMap (xs[·]?) := by
    have key : ∀ l : List Nat, (∀ k ∈ l, k < xs.size) → l.filterMap (fun (k : Nat) => xs[(((xs.size : Int) - 1) + (k : Int) * (-1)).toNat]?) = (l.map fun k => xs.size - 1 - k).filterMap (xs[·]?) := fun l => by
      induction l with
      | nil => intro _; rfl
      | cons k r ih =>
        intro hl
        have hk := hl k List.mem_cons_self
        have ek : (((xs.size : Int) - 1) + (k : Int) * (-1)).toNat = xs.size - 1 - k := by omega
        rw [List.map_cons, List.filterMap_cons, List.filterMap_cons, ih fun j hj => hl j (List.mem_cons_of_mem _ hj), ek]
    exact key _ fun k hk => List.mem_range.mp hk
  rw [e, PySem.W.krv_range, List.filterMap_reverse, PySem.W.krv_all]
theorem tup_back {t sl : Addr} {items : Array Value} {vl vu vs : Value} {Q : Value → Shared → Prop} (ht : IsTup s.heap t items) (hs : s.heap.IsSliceOf sl vl vu vs) (pl : IsPart vl none) (pu : IsPart vu none) (ps : IsPart vs (some (-1)))
    (hz : items.size ≤ sizeLine) (h : Q (.ref s.heap.objs.size) { s with heap := s.heap.push { cls := .type "tuple", data := .seq items.toList.reverse.toArray } }) : wpAny (model prog w) A (getItem (.ref t) (.ref sl)) Q E s := by
  have sz : sizeOk (.seq items.toList.reverse.toArray) := by
    show items.toList.reverse.toArray.size ≤ sizeLine
    simpa using hz
  have ty : s.TypeIs (.ref sl) "slice" := by
    obtain ⟨ob, h1, h2, _⟩ := hs
    exact ⟨ob, h1, h2⟩
  unfold getItem
  (try with_reducible refine wpAny_holding ?_)
  (first | refine wpAny_bind (wpAny_pure ?_) | skip)
  refine wpAny_bind (wpAny_sequenceKey ht.typeIs (by decide) (wpAny_bind (wpAny_callSpecial?_slot (name := Str.ofString "__getitem__") ht.typeIs PyProof.Rows.slot_tuple_getitem (wpAny_call_entry PyProof.Rows.slot_tuple_getitem ht.typeIs entry_tuple_getitem ?_ (args_tuple_getitem _ _)))))
  show wpAny _ _ (Builtin.Tuple.tupleItemsOf (.ref t) >>= _) _ _ s
  refine wpAny_bind (tupleItemsOf_ ht (wpAny_bind (wpAny_typeOf ty ?_)))
  rw [if_pos (by decide)]
  refine wpAny_bind (applied_back hs pl pu ps ?_)
  have no : ¬ ((((items.size : Int) - 1) == 0 && (-1 : Int) == 1 && items.size == items.size) = true) := by
    intro q
    rw [Bool.and_eq_true, Bool.and_eq_true] at q
    exact absurd q.1.2 (by decide)
  show wpAny _ _ (if ((((items.size : Int) - 1) == 0 && (-1 : Int) == 1 && items.size == items.size) = true) then _ else _) _ _ s
  rw [if_neg no, pick_back]
  first
    | exact wpAny_bind (m := Builtin.Tuple.tupleExact _) (wpAny_newObj_type (wpAny_pure ⟨_, rfl, wpAny_pure h⟩) sz)
    | exact wpAny_bind (m := Builtin.Tuple.tupleExact _) (wpAny_newObj_type (wpAny_bind (wpAny_pure (wpAny_pure ⟨_, rfl, wpAny_pure h⟩))) sz)
    | exact wpAny_bind (wpAny_bind (m := Builtin.Tuple.tupleExact _) (wpAny_newObj_type (wpAny_pure (wpAny_pure ⟨_, rfl, wpAny_pure h⟩)) sz))
    | exact wpAny_bind (wpAny_bind (m := Builtin.Tuple.tupleExact _) (wpAny_newObj_type (wpAny_pure ⟨_, rfl, wpAny_pure h⟩) sz))
end
/-! a whole tuple, by the step 1 -/
section
variable {prog : Program} {w : World} {A : Around} {E : Value → Shared → Prop} {s : Shared}
theorem applied_fwd {sl : Addr} {vl vu vs : Value} {n : Nat} {Q : Int × Int × Nat → Shared → Prop} (hs : s.heap.IsSliceOf sl vl vu vs) (pl : IsPart vl none) (pu : IsPart vu none) (ps : IsPart vs (some 1))
    (h : Q (0, 1, n) s) : wpAny (model prog w) A (Builtin.Slice.sliceApplied (.ref sl) (pure (n : Int))) Q E s := by
  obtain ⟨ob, h1, h2, h3⟩ := hs
  unfold Builtin.Slice.sliceApplied Builtin.Slice.sliceFields
  refine wpAny_bind (wpAny_bind (wpAny_field h1 h3 (x := vl) rfl (wpAny_bind (wpAny_field h1 h3 (x := vu) rfl (wpAny_bind (wpAny_field h1 h3 (x := vs) rfl (wpAny_pure (wpAny_bind (slicePart_ ps ?_)))))))))
  show wpAny (model prog w) A (if ((1 : Int) == 0) = true then _ else _) Q E s
  rw [if_neg (by decide)]
  refine wpAny_bind (slicePart_ pl (wpAny_bind (slicePart_ pu (wpAny_bind (wpAny_pure (wpAny_pure ?_))))))
  have e := places_gen 0 n
  rw [Nat.sub_zero] at e
  show Q (0, 1, Builtin.Slice.slicePlaces ((0 : Nat) : Int) (n : Int) 1) s
  rw [e]
  exact h
theorem tup_fwd {t sl : Addr} {items : Array Value} {vl vu vs : Value} {Q : Value → Shared → Prop} (ht : IsTup s.heap t items) (hs : s.heap.IsSliceOf sl vl vu vs) (pl : IsPart vl none) (pu : IsPart vu none) (ps : IsPart vs (some 1))
    (h : Q (.ref t) s) : wpAny (model prog w) A (getItem (.ref t) (.ref sl)) Q E s := by
  have ty : s.TypeIs (.ref sl) "slice" := by
    obtain ⟨ob, h1, h2, _⟩ := hs
    exact ⟨ob, h1, h2⟩
  unfold getItem
  (try with_reducible refine wpAny_holding ?_)
  (first | refine wpAny_bind (wpAny_pure ?_) | skip)
  refine wpAny_bind (wpAny_sequenceKey ht.typeIs (by decide) (wpAny_bind (wpAny_callSpecial?_slot (name := Str.ofString "__getitem__") ht.typeIs PyProof.Rows.slot_tuple_getitem (wpAny_call_entry PyProof.Rows.slot_tuple_getitem ht.typeIs entry_tuple_getitem ?_ (args_tuple_getitem _ _)))))
  show wpAny _ _ (Builtin.Tuple.tupleItemsOf (.ref t) >>= _) _ _ s
  refine wpAny_bind (tupleItemsOf_ ht (wpAny_bind (wpAny_typeOf ty ?_)))
  rw [if_pos (by decide)]
  refine wpAny_bind (applied_fwd hs pl pu ps ?_)
  have yes : (((0 : Int) == 0 && (1 : Int) == 1 && items.size == items.size) = true) := by simp
  show wpAny _ _ (if (((0 : Int) == 0 && (1 : Int) == 1 && items.size == items.size) = true) then _ else _) _ _ s
  rw [if_pos yes]
  refine wpAny_bind ?_
  show wpAny _ _ (typeOf (.ref t) >>= fun T => pure (T == .type "tuple")) _ _ s
  refine wpAny_bind (wpAny_typeOf ht.typeIs (wpAny_pure ?_))
  first
    | rw [if_pos (by decide)]
    | simp only [beq_self_eq_true, if_true]
  first
    | exact wpAny_bind (wpAny_rule (wpAny_pure ⟨_, rfl, wpAny_pure h⟩))
    | exact wpAny_bind (wpAny_rule (wpAny_bind (wpAny_pure (wpAny_pure ⟨_, rfl, wpAny_pure h⟩))))
end
/-- e[::st] -/
def qStep (K : PySem.W.Frag) (x : V) (Q : VK) (o : Option Int) (J : Hp) : Prop :=
  (o = some (-1) ∧ ((∃ a xs, x = .ref a ∧ SqT K J a xs ∧ ∀ p, J p = none → Q (.ref p) (upd J p (.tup xs.reverse))) ∨ (∃ a xs, x = .ref a ∧ SqL K J a xs ∧ ∀ p, J p = none → Q (.ref p) (upd J p (.lst xs.reverse))))) ∨
  (o = some 1 ∧ ∃ a xs, x = .ref a ∧ SqT K J a xs ∧ Q (.ref a) J)
def tStep (K : PySem.W.Frag) (te ts : TE) : TE := fun σ H Q => te σ H fun x H1 => tPart ts σ H1 (qStep K x Q)
theorem pe_step {X : Cx} {e st : Expr} {te ts : TE} {p3 pos : Pos} (he : PE X e te) (hst : PE X st ts) : PE X (.Subscript e (.Slice none none (some st) p3) pos) (tStep X.K te ts) := by
  refine ⟨fun pins s σ H Q I h => Subscript_ (thn (he.run pins s σ H _ I h) fun v s1 ⟨x, H1, I1, r1, q1⟩ => ?_)⟩
  refine wpAny_Slice (thn (po_none.run pins s1 σ H1 (fun o J => o = none ∧ J = H1) I1 ⟨rfl, rfl⟩) fun vl s2 z2 => ?_)
  obtain ⟨l, H2, I2, pl, rfl, rfl⟩ := z2
  refine thn (po_none.run pins s2 σ H2 (fun o J => o = none ∧ J = H2) I2 ⟨rfl, rfl⟩) fun vu s3 z3 => ?_
  obtain ⟨u, H3, I3, pu, rfl, rfl⟩ := z3
  refine thn ((po_some hst).run pins s3 σ H3 (qStep X.K x Q) I3 q1) fun vs s4 z4 => ?_
  obtain ⟨o, H4, I4, ps, q⟩ := z4
  have I5 : Inv X pins σ H4 { s4 with heap := s4.heap.push { cls := .type "slice", data := .fields #[vl, vu, vs] } } := I4.kept (t' := s4.toks) fun b ob q => Heap.get?_push_of_some _ q
  have sp := Heap.IsSliceOf.new s4.heap vl vu vs
  rcases q with ⟨rfl, ⟨a, xs, rfl, hx, q⟩ | ⟨a, xs, rfl, hx, q⟩⟩ | ⟨rfl, a, xs, rfl, hx, q⟩
  · cases r1
    show wpAny (model X.prog X.w) X.A (subscriptTail e (.Slice none none (some st) p3) (.ref a) (.ref s4.heap.objs.size)) (EP X pins σ Q) X.xe { s4 with heap := s4.heap.push { cls := .type "slice", data := .fields #[vl, vu, vs] } }
    obtain ⟨its, r, ht, hz⟩ := I5.tuple hx
    refine tail_any (T := "tuple") (ops := [.ref a, .ref s4.heap.objs.size]) ht.typeIs (PyProof.Rows.slot_tuple_getitem.lookup) ?_ (by with_unfolding_all rfl)
    have hlen := r.length
    refine tup_back ht sp pl pu ps (by rw [List.size_toArray]; omega) ?_
    refine ⟨.ref _, _, I5.laid (t' := s4.toks) (o := .tup xs.reverse) (fun b ob q => Heap.get?_push_of_some _ q) (Nat.le_refl _) ?_, rfl, q _ (I5.hok.fresh (Nat.le_refl _))⟩
    exact ⟨by rw [List.length_reverse]; exact hz, _, r.reverse, IsTup.new _ _⟩
  · cases r1
    show wpAny (model X.prog X.w) X.A (subscriptTail e (.Slice none none (some st) p3) (.ref a) (.ref s4.heap.objs.size)) (EP X pins σ Q) X.xe { s4 with heap := s4.heap.push { cls := .type "slice", data := .fields #[vl, vu, vs] } }
    obtain ⟨its, r, ht, hz⟩ := I5.list hx
    refine tail_any (T := "list") (ops := [.ref a, .ref s4.heap.objs.size]) ht.isList.typeIs (PySem.slot_list_getitem.lookup) ?_ (by with_unfolding_all rfl)
    have hlen := r.length
    refine wpAny_getItem_list_slice ht.isList sp pl pu ps (by decide) ?_ (by rw [List.size_toArray]; omega)
    rw [PySem.W.krv_pick]
    refine ⟨.ref _, _, I5.laid (t' := s4.toks) (o := .lst xs.reverse) (fun b ob q => Heap.get?_push_of_some _ q) (Nat.le_refl _) ?_, rfl, q _ (I5.hok.fresh (Nat.le_refl _))⟩
    exact ⟨by rw [List.length_reverse]; exact hz, _, 0, r.reverse, Heap.get?_push_size _ rfl⟩
  · cases r1
    show wpAny (model X.prog X.w) X.A (subscriptTail e (.Slice none none (some st) p3) (.ref a) (.ref s4.heap.objs.size)) (EP X pins σ Q) X.xe { s4 with heap := s4.heap.push { cls := .type "slice", data := .fields #[vl, vu, vs] } }
    obtain ⟨its, r, ht, hz⟩ := I5.tuple hx
    exact tail_any (T := "tuple") (ops := [.ref a, .ref s4.heap.objs.size]) ht.typeIs (PyProof.Rows.slot_tuple_getitem.lookup) (tup_fwd ht sp pl pu ps ⟨.ref a, _, I5, rfl, q⟩) (by with_unfolding_all rfl)
/-- e[::st]: st is 1 (of a tuple: itself) or -1 -/
def dStep (own : Bool) (a b : DE) : DE := fun e S => (a e S).bind fun u S1 => (b e S1).bind fun v S2 => match dr S2 u, v with
  | some (.tup l), .v (.int i) => if i = -1 then (Out.nt l.reverse).put own S2 else if i = 1 then .ok (.v (.tup l)) S2 else .no
  | some (.lst l), .v (.int i) => if i = -1 then (Out.nl l.reverse).put own S2 else .no
  | _, _ => .no
theorem ev_step {ec : Nat → Value} {X : Cx} {e st : Expr} {da db : DE} {own : Bool} {p3 pos : Pos} (ha : PEv ec X e da) (hb : PEv ec X st db) : PEv ec X (.Subscript e (.Slice none none (some st) p3) pos) (dStep own da db) :=
  ⟨fun pn xe Wx tk => (pe_step (ha.run pn xe Wx tk) (hb.run pn xe Wx tk)).imp fun σ H Q ⟨env, S, ι, B, R, E, h⟩ => by
    refine LE.then_ R E h fun u S1 v H1 ι1 G1 R1 E1 ru h1 => ?_
    refine LE.then_ R1 E1 h1 fun u2 S2 v2 H2 ι2 G2 R2 E2 ru2 h2 => ?_
    cases q : dr S2 u with
    | none => simp only [q] at h2; exact h2.elim
    | some w =>
      have r := RU.rt R2 (RU.go G2 ru) q
      simp only [q] at h2
      cases u2 with
      | o n => cases w <;> exact h2.elim
      | v w2 =>
        cases w2 with
        | int i =>
          cases w with
          | tup l =>
            have rr : Rp (fx ec X) H2 (Oq ι2 S2 B) (.tup l) v := r
            simp only at h2
            by_cases hi : i = -1
            · rw [if_pos hi] at h2
              subst hi
              obtain ⟨a, vs, rfl, h3, h4⟩ := rr.tup_inv
              exact ⟨-1, Rp.int_inv ru2, .inl ⟨rfl, .inl ⟨a, vs, rfl, h3.sq, fun p hp => (put_ok R2 h2).2 p _ hp h4.reverse⟩⟩⟩
            · rw [if_neg hi] at h2
              by_cases hj : i = 1
              · rw [if_pos hj] at h2
                subst hj
                obtain ⟨a, vs, rfl, h3, h4⟩ := rr.tup_inv
                exact ⟨1, Rp.int_inv ru2, .inr ⟨rfl, a, vs, rfl, h3.sq, h2 _ H2 ι2 .refl R2 rr⟩⟩
              · rw [if_neg hj] at h2
                exact h2.elim
          | lst l =>
            simp only at h2
            by_cases hi : i = -1
            · rw [if_pos hi] at h2
              subst hi
              obtain ⟨a, vs, rfl, h3, h4⟩ := r
              exact ⟨-1, Rp.int_inv ru2, .inl ⟨rfl, .inr ⟨a, vs, rfl, .inl h3, fun p hp => (put_ok R2 h2) p _ hp h4.reverse⟩⟩⟩
            · rw [if_neg hi] at h2
              exact h2.elim
          | _ => exact h2.elim
        | _ => cases w <;> exact h2.elim⟩
end Bel

/-! The engine, fifteenth part: xs != [], recursion by fuel. -/
namespace Bel
open PySem PySem.Spec PyProof.Rows L2
/-! ### xs != [] -/
def rNeNil (K : PySem.W.Frag) : R2 := fun x y H Q => ∃ a b xs, x = .ref a ∧ y = .ref b ∧ SqL K H a xs ∧ SqL K H b [] ∧ Q (.bl (!xs.isEmpty)) H
theorem op_neNil {X : Cx} (hu : X.A.units < cLine) : OpR X (compareOp .NotEq) (rNeNil X.K) := by
  intro pins s σ H x y v u Q I rx ry h
  obtain ⟨a, b, xs, rfl, rfl, ha, hb, q⟩ := h
  cases rx
  cases ry
  obtain ⟨its, r, h1, _⟩ := I.list ha
  obtain ⟨its2, r2, h2, _⟩ := I.list hb
  cases r2
  cases xs with
  | nil =>
    cases r
    exact SeqAt.RcNeAt.lists (e := fun _ => true) h1.isList h2.isList rfl hu (fun j z _ => absurd z (Nat.not_lt_zero j)) X.prog X.w _ _ ⟨.bl false, H, I, rfl, q⟩
  | cons z zs =>
    refine SeqAt.RcNeAt.lists_lengths h1.isList h2.isList ?_ hu X.prog X.w _ _ ⟨.bl true, H, I, rfl, q⟩
    have hl := r.length
    rw [List.size_toArray, ← hl]
    rfl
def fNeNil : W → W → Option Out
  | .lst l, .lst [] => some (.val (.bl (!l.isEmpty)))
  | _, _ => none
theorem ow_neNil {F : Fx} : OpW F fNeNil (rNeNil F.K) := by
  intro H O x y w z o Q rx ry e q
  unfold fNeNil at e
  split at e
  · rename_i l
    cases some_inj e
    obtain ⟨a, vs, rfl, h1, r1⟩ := rx
    obtain ⟨b, us, rfl, h2, r2⟩ := ry
    have e2 := r2.nil_iff
    subst e2
    have e3 : vs.isEmpty = l.isEmpty := by
      have := r1.1
      cases l <;> cases vs <;> simp_all
    exact ⟨a, b, vs, rfl, rfl, .inl h1, .inl h2, by rw [e3]; exact q _ (.bl _)⟩
  · cases e
/-! ### recursion by fuel: at none nothing is promised -/
section
variable {P : Program} {w : World} {K : PySem.W.Frag} {mg : Str → Option Value} {base : Heap} {ec : Nat → Value} {fa : List He.Fa} {fn : List He.DefD} {kc : List Con'}
theorem Hd.zero (Z : Hd K mg fa fn kc) (i j : Nat) {x qual : Str} {params : Arguments} {body : List Stmt} {scope : Scope} {ps : List Str} {k n : Nat}
    (h : fn[i]? = some ⟨(x, none), x, qual, params, body, scope, [], []⟩) (hg : fa[j]? = some (.glo x)) (hn : ps.length = n)
    (hbi : ∀ (kV doc pm : Value) (an : Option Addr) (cdv ct : Value) (us : List Value), us.length = ps.length → bindArgs (PySem.W.fnOf x qual params body scope .none kV doc pm an cdv ct) ⟨us, []⟩ = pure (ps.zip us)) : Has P w K mg base ec x k n fun _ _ => .no := by
  subst hn
  obtain ⟨fd, F⟩ := Z.says.def_ i h
  refine ⟨He.ga K x, fd, ps, ⟨spD_len, fun A outer s H args us vs Q E hr he hb hv hs => ?_⟩, Z.gl x (Z.says.fact j hg), F.kp, F.bindsN hbi⟩
  obtain ⟨_, _, _, _, _, _, _, z⟩ := hs
  exact z.elim
end
end Bel

/-! The engine, sixteenth part: methods that write an own list. -/
namespace Bel
open PySem PySem.Spec PyProof.Rows L2
/-- f tells what the list becomes, what is given back -/
def OpMu (F : Fx) (f : List W → List W → Option (List W × W)) (r : V → List V → Hp → VK → Prop) : Prop := ∀ (H : Hp) (O : Addr → Prop) (a : Addr) (vs xs : List V) (l ws l' : List W) (w : W) (Q : VK), H a = some (.lst vs) → RpL F H O l vs → RpL F H O ws xs → f l ws = some (l', w) →
  (∀ vs' v, RpL F H O l' vs' → Rp F H O w v → Q v (upd H a (.lst vs'))) → r (.ref a) xs H Q
def dMut (f : List W → List W → Option (List W × W)) (o : DE) (a : DA) : DE := fun e S => (o e S).bind fun u S1 => match u with
  | .o n => match S1[n]? with
    | some (.lst _) => (a e S1).bind fun us S2 => match S2[n]?, allV us with
      | some (.lst l), some ws => match f l ws with
        | some (l', w) => .ok (.v w) (S2.set n (.lst l'))
        | none => .no
      | _, _ => .no
    | _ => .no
  | .v _ => .no
section
variable {ec : Nat → Value} {X : Cx} {e o : Expr} {es : List Expr} {da : DE} {das : DA} {apos cpos : Pos}
theorem mut_core {F : Fx} {Wx : WX} {σ : L2.St} {H : Hp} {ι : List Addr} {S : Store} {B : Addr → Prop} {f : List W → List W → Option (List W × W)} {r : V → List V → Hp → VK → Prop} {Q : VK} (hf : OpMu F f r) (R : RS F ι S B H) {n : Nat} {a : Addr} (ha : ι[n]? = some a) {us : List U} {xs : List V} (ru : RUs F H ι S B us xs)
    (h : PoE F Wx σ ι S B H (match S[n]?, allV us with
      | some (.lst l), some ws => match f l ws with
        | some (l', w) => .ok (.v w) (S.set n (.lst l'))
        | none => .no
      | _, _ => .no) Q) : r (.ref a) xs H Q := by
  cases e1 : S[n]? with
  | none => simp only [e1] at h; exact h.elim
  | some ob =>
    cases ob with
    | lst l =>
      cases e2 : allV us with
      | none => simp only [e1, e2] at h; exact h.elim
      | some ws =>
        simp only [e1, e2] at h
        cases e3 : f l ws with
        | none => simp only [e3] at h; exact h.elim
        | some p =>
          obtain ⟨l', w⟩ := p
          simp only [e3] at h
          obtain ⟨vs, h1, h2⟩ := R.lst e1 ha
          refine hf H _ a vs xs l ws l' w Q h1 h2 (allV_rp ru e2) e3 fun vs' v r1 r2 => ?_
          obtain ⟨R', G⟩ := R.write (ho := .lst vs') (o' := .lst l') e1 (fun z => nomatch z) ha ⟨vs', rfl, r1⟩
          exact h v _ ι G R' (Rp.go G r2)
    | _ => simp only [e1] at h; exact h.elim
theorem own_ty {F : Fx} {H : Hp} {ι : List Addr} {S : Store} {B : Addr → Prop} (R : RS F ι S B H) {n : Nat} {a : Addr} {l : List W} (ha : ι[n]? = some a) (e : S[n]? = some (.lst l)) : tyV F.K "list" (.ref a) H := by
  obtain ⟨vs, h1, _⟩ := R.lst e ha
  exact .inl ⟨rfl, vs, .inl (.inl h1)⟩
theorem ev_mut0 {id : String} {name : Str} {f : List W → List W → Option (List W × W)} {r : V → List V → Hp → VK → Prop} (slot : Slot "list" name id) (hty : typeOf (.builtin id) = pure (.type "method_descriptor")) (hm : ∀ pn xe, MtM (X.tr pn xe) id r)
    (hf : OpMu (fx ec X) f r) (ho : PEv ec X o da)
    (hbase : attributeBase o name X.env (eval o X.env) = eval o X.env := by rfl) (hline : (apos.endLine == cpos.line) = true := by rfl) :
    PEv ec X (.Call (.Attribute o name apos) [] [] cpos) (dMut f da dNil) :=
  ⟨fun pn xe Wx tk => (pe_bm0 (X := X.tr pn xe) F.plainAttrs_list slot hty (hm pn xe) (ho.run pn xe Wx tk) hbase hline).imp fun σ H Q ⟨env, S, ι, B, R, E, h⟩ => by
    refine LE.then_ R E h fun u S1 x H1 ι1 G1 R1 E1 ru h1 => ?_
    cases u with
    | v w => exact h1.elim
    | o n =>
      obtain ⟨a, ha, rfl⟩ := ru
      cases e1 : S1[n]? with
      | none => simp only [e1] at h1; exact h1.elim
      | some ob =>
        cases ob with
        | lst l =>
          simp only [e1, dNil, Re.bind_ok] at h1
          refine ⟨own_ty R1 ha e1, mut_core (Wx := Wx) (σ := σ) hf R1 ha .nil ?_⟩
          simp only [e1]
          exact h1
        | _ => simp only [e1] at h1; exact h1.elim⟩
theorem ev_mut {id : String} {name : Str} {f : List W → List W → Option (List W × W)} {r : V → List V → Hp → VK → Prop} (slot : Slot "list" name id) (hty : typeOf (.builtin id) = pure (.type "method_descriptor")) (hm : ∀ pn xe, MtM (X.tr pn xe) id r)
    (hf : OpMu (fx ec X) f r) (ho : PEv ec X o da) (ha : PAv ec X (e :: es) das)
    (hbase : attributeBase o name X.env (eval o X.env) = eval o X.env := by rfl)
    (hfew : ((backTo cpos (starEach (e :: es) X.env)).all (fun x => !x.1) && (backToKw cpos (keywordEach [] X.env)).all (fun x => x.1.isSome)
      && decide ((e :: es).length + ([] : List Keyword).length + (if ([] : List Keyword).isEmpty then 0 else 1) < 30)) = true := by rfl)
    (hline : (apos.endLine == cpos.line) = true := by rfl) (hs : starEach (e :: es) X.env = (false, eval e X.env) :: starEach es X.env := by rfl) (hplain : (backTo cpos (starEach es X.env)).any (·.1) = false := by rfl) :
    PEv ec X (.Call (.Attribute o name apos) (e :: es) [] cpos) (dMut f da das) :=
  ⟨fun pn xe Wx tk => (pe_bm (X := X.tr pn xe) F.plainAttrs_list slot hty (hm pn xe) (ho.run pn xe Wx tk) (ha.run pn xe Wx tk) hbase hfew hline hs hplain).imp fun σ H Q ⟨env, S, ι, B, R, E, h⟩ => by
    refine LE.then_ R E h fun u S1 x H1 ι1 G1 R1 E1 ru h1 => ?_
    cases u with
    | v w => exact h1.elim
    | o n =>
      cases e1 : S1[n]? with
      | none => simp only [e1] at h1; exact h1.elim
      | some ob =>
        cases ob with
        | lst l =>
          simp only [e1] at h1
          obtain ⟨a, ha1, rfl⟩ := ru
          refine ⟨own_ty R1 ha1 e1, LA.then_ R1 E1 h1 fun us S2 xs H2 ι2 G2 R2 E2 rus h2 => ?_⟩
          have ha2 : ι2[n]? = some a := by
            obtain ⟨t, rfl⟩ := G2.pre
            rw [List.getElem?_append_left (List.getElem?_eq_some_iff.mp ha1).1]
            exact ha1
          exact mut_core hf R2 ha2 rus h2
        | _ => simp only [e1] at h1; exact h1.elim⟩
end
/-! ### pop(), append(x) -/
def fPop : List W → List W → Option (List W × W)
  | l, [] => match l[l.length - 1]? with
    | some w => some (l.dropLast, w)
    | none => none
  | _, _ => none
theorem om_pop {F : Fx} : OpMu F fPop rPop := by
  intro H O a vs xs l ws l' w Q h1 r1 r2 e q
  unfold fPop at e
  split at e
  · cases e1 : l[l.length - 1]? with
    | none => simp only [e1] at e; cases e
    | some y =>
      simp only [e1] at e
      obtain ⟨rfl, rfl⟩ := Prod.mk.inj (some_inj e)
      have e2 := r2.nil_iff
      subst e2
      obtain ⟨v, h3, r3⟩ := r1.get e1
      exact ⟨a, vs, v, rfl, rfl, h1, by rw [← r1.1]; exact h3, q _ v r1.dropLast r3⟩
  · cases e
def fAppend : List W → List W → Option (List W × W)
  | l, [w] => if l.length < 16777216 then some (l ++ [w], .non) else none
  | _, _ => none
theorem om_append {F : Fx} : OpMu F fAppend rAppend := by
  intro H O a vs xs l ws l' w Q h1 r1 r2 e q
  unfold fAppend at e
  split at e
  · rename_i y
    split at e
    · rename_i hl
      obtain ⟨rfl, rfl⟩ := Prod.mk.inj (some_inj e)
      obtain ⟨v, vs', rfl, h3, r3⟩ := r2.cons_iff
      have e2 := r3.nil_iff
      subst e2
      exact ⟨a, vs, v, rfl, rfl, h1, by rw [sizeLine_is, ← r1.1]; exact hl, q _ .non (r1.append (.cons h3 .nil)) .non⟩
    · cases e
  · cases e
end Bel

/-! The engine, seventeenth part: written dicts with text keys as constants. -/
namespace Bel
open PySem PySem.Spec PyProof.Rows L2
def repD (K : PySem.W.Frag) : List DictEntry → List (List Nat × W) → Bool
  | [], [] => true
  | e :: es, p :: ps => (match e.key with
    | .str x _ => decide (x = (⟨p.1.toArray⟩ : Str))
    | _ => false) && (repB K 9 p.2 e.val && repD K es ps)
  | _, _ => false
theorem repD_ok {K : PySem.W.Frag} : ∀ (es : List DictEntry) (l : List (List Nat × W)), repD K es l = true → ∃ kvs : List (Str × V), l.length = kvs.length ∧
    (∀ (i : Nat) (w : List Nat × W) (v : Str × V), l[i]? = some w → kvs[i]? = some v → v.1 = ⟨w.1.toArray⟩) ∧
    (∀ (F : Fx), F.K = K → ∀ (H : Hp) (O : Addr → Prop) (i : Nat) (w : List Nat × W) (v : Str × V), l[i]? = some w → kvs[i]? = some v → Rp F H O w.2 v.2) ∧
    (∀ x : Str, match kvs.lookup x with
      | some v => ∃ e, es.find? (·.key.isStr x) = some e ∧ RelV v e.val
      | none => es.find? (·.key.isStr x) = none) ∧ es.any (·.refKey) = false
  | [], [], _ => ⟨[], rfl, fun i w v h => by simp at h, fun F _ H O i w v h => by simp at h, fun x => rfl, rfl⟩
  | [], _ :: _, h => by cases h
  | _ :: _, [], h => by cases h
  | e :: es, p :: ps, h => by
    obtain ⟨h1, h2⟩ := He.ba h
    obtain ⟨h3, h4⟩ := He.ba h2
    obtain ⟨kvs, k1, k2, k3, k4, k5⟩ := repD_ok es ps h4
    obtain ⟨v, r, q⟩ := repB_ok 9 p.2 e.val h3
    cases ek : e.key with
    | str y t =>
      rw [ek] at h1
      have ey : y = (⟨p.1.toArray⟩ : Str) := of_decide_eq_true h1
      refine ⟨(y, v) :: kvs, by simp [k1], fun i w u a b => ?_, fun F e H O i w u a b => ?_, fun x => ?_, ?_⟩
      · cases i with
        | zero => simp at a b; subst a b; exact ey
        | succ i => simp at a b; exact k2 i w u a b
      · cases i with
        | zero => simp at a b; subst a b; exact q F e H O
        | succ i => simp at a b; exact k3 F e H O i w u a b
      · by_cases hx : x = y
        · subst hx
          have e1 : ((x, v) :: kvs).lookup x = some v := by simp [List.lookup]
          rw [e1]
          exact ⟨e, by simp [List.find?, ek, Value.isStr], r⟩
        · have e1 : ((y, v) :: kvs).lookup x = kvs.lookup x := by
            have : (x == y) = false := by simpa using hx
            simp [List.lookup, this]
          have e2 : (e :: es).find? (·.key.isStr x) = es.find? (·.key.isStr x) := by
            have : e.key.isStr x = false := by
              rw [ek]
              have : (y == x) = false := by simpa using fun z => hx z.symm
              simpa [Value.isStr] using fun z => hx z.symm
            simp [List.find?, this]
          rw [e1, e2]
          exact k4 x
      · rw [List.any_cons, k5]
        simp [DictEntry.refKey, ek]
    | _ => rw [ek] at h1; cases h1
def kdB (K : PySem.W.Frag) (p : Str × List (List Nat × W)) : Bool := match K.lookup (He.ga K p.1) with
  | some ⟨_, _, .dict es _, _⟩ => repD K es.toList p.2
  | _ => false
/-- the module's name x stands for a written dict -/
def KonD (K : PySem.W.Frag) (mg : Str → Option Value) (w : World) (x : Str) (l : List (List Nat × W)) : Prop := ∃ a, mg x = some (.ref a) ∧ ∀ (F : Fx), F.K = K → F.w = w → ∀ (H : Hp) (O : Addr → Prop), Rp F H O (.kdc l) (.ref a)
theorem kdB_ok {K : PySem.W.Frag} {mg : Str → Option Value} {w : World} {p : Str × List (List Nat × W)} (hm : mg p.1 = some (.ref (He.ga K p.1))) (hd : ∃ es n, KDict K w (He.ga K p.1) es n) (c : kdB K p = true) : KonD K mg w p.1 p.2 := by
  obtain ⟨es, n, kd⟩ := hd
  refine ⟨_, hm, fun F eK ew H O => ?_⟩
  unfold kdB at c
  simp only [kd.at_] at c
  obtain ⟨kvs, k1, k2, k3, k4, k5⟩ := repD_ok es.toList p.2 c
  refine .kdc (kvs := kvs) ⟨⟨es, n, by rw [eK]; exact kd.at_, by rw [ew]; exact kd.lit, kd.low⟩, fun x => ?_⟩ k1 k2 fun i w v a b => k3 F eK H O i w v a b
  have z := k4 x
  have en : PySem.W.nsIn F.K (He.ga K p.1) x = match es.toList.find? (·.key.isStr x) with
      | some e => some (some e.val)
      | none => if es.toList.any (·.refKey) then none else some none := by
    unfold PySem.W.nsIn
    rw [eK, kd.at_]
    rfl
  cases q : kvs.lookup x with
  | some v =>
    rw [q] at z
    obtain ⟨e, h1, r⟩ := z
    rw [h1] at en
    exact ⟨_, en, r⟩
  | none =>
    rw [q] at z
    have z : es.toList.find? (·.key.isStr x) = none := z
    rw [z, k5] at en
    exact en
theorem KonD.kon {ec : Nat → Value} {X : Cx} {x : Str} {l : List (List Nat × W)} (h : KonD X.K X.mg X.w x l) : Kon ec X x (.kdc l) := by
  obtain ⟨a, h1, q⟩ := h
  exact ⟨.ref a, .ref a, h1, rfl, fun H O => q (fx ec X) rfl rfl H O⟩
end Bel

/-! The engine, eighteenth part: the head with written dicts, a law's end over it. -/
namespace Bel
open PySem PySem.Spec PyProof.Rows L2
abbrev Kd : Type := Str × List (List Nat × W)
/-- .. and of the module's dicts -/
structure HdW (K : PySem.W.Frag) (mg : Str → Option Value) (w : World) (fa : List He.Fa) (fn : List He.DefD) (kc : List Con') (kd : List Kd) : Prop extends Hd K mg fa fn kc where
  kdn : ∀ p ∈ kd, KonD K mg w p.1 p.2
theorem HdW.dic {K : PySem.W.Frag} {mg : Str → Option Value} {w : World} {fa : List He.Fa} {fn : List He.DefD} {kc : List Con'} {kd : List Kd} (Z : HdW K mg w fa fn kc kd) (i : Nat) {x : Str} {l : List (List Nat × W)} (h : kd[i]? = some (x, l) := by rfl) : KonD K mg w x l := Z.kdn (x, l) (List.mem_of_getElem? h)
def tabs (kd : List Kd) : List He.Tab := kd.map fun p => ((fun K => He.ga K p.1), p.2.map fun q => (⟨q.1.toArray⟩ : Str))
/-- what is looked at beside the facts -/
def exB (kc : List Con') (kd : List Kd) (K : PySem.W.Frag) : Bool := noLst K && (kc.all (konB K) && (kd.all (kdB K) && kd.all fun p => (He.Fa.glo p.1).ok K))
theorem law_endW {l : PySem.W.OpenLaw} {n k : Nat} {q : Program} {loose : List Str} {XP : (Str → Option Value) → Heap → Prop} {d : DefRec} {x y : Str} {fa : List He.Fa} {fn : List He.DefD} {kc : List Con'} {kd : List Kd} {m : Nat}
    (hn : l.most = some n) (hn2 : n ≤ sizeLine) (hdf : d.params.defaults = []) (hr : Room k callerA) (hx : d.name = x) (j : Nat) (hj : fa[j]? = some (.glo x)) (df : DF)
    (F : ∀ (w : World) (mg : Str → Option Value) (K : PySem.W.Frag), HdW K mg w fa fn kc kd → ∃ (ec : Nat → Value) (fd : FuncData), (∀ (s : Shared) (u : Value), BindsTo s fd ⟨[u], []⟩ [(y, u)]) ∧
      ∀ base : Heap, FnOk l.prog w K mg base (L2.CX l.prog w) k (He.ga K x) fd [y] (spD ⟨K, w, ec⟩ df 1))
    (L : ∀ ns : List Int, ns.length ≤ n → ∃ S', df [.o 0] [.scr (ns.map W.int)] = .ok (.v (.bl true)) S') :
    PySem.W.WalkO q loose XP (He.hookX m fa fn (tabs kd) [] (exB kc kd)).says l.row.toRowW d [] (fun f vs => PySem.call f vs) := by
  refine Att.attach_call hn hdf fun w s₀ s₁ mg mb ad o pm cd doc a vs ns G Y ho hd hcd hmg hobj hints hlen hg => ?_
  obtain ⟨K, KX, c⟩ := Y
  obtain ⟨z1, z⟩ := He.ba c.more
  obtain ⟨z2, z⟩ := He.ba z
  obtain ⟨z3, z4⟩ := He.ba z
  have Z0 : Hd K mg fa fn kc := ⟨c.t.d, fun x e => He.glo_ok KX G.T.g e, fun x e => He.free_ok KX G.T.g e, fun p hp => konB_ok KX G.T.g (List.all_eq_true.mp z2 p hp), z1⟩
  have Z : HdW K mg w fa fn kc kd := ⟨Z0, fun p hp => by
    obtain ⟨i, hi, e⟩ := List.mem_iff_getElem.mp hp
    have ht : (tabs kd)[i]? = some ((fun K => He.ga K p.1), p.2.map fun q => (⟨q.1.toArray⟩ : Str)) := by
      unfold tabs
      rw [List.getElem?_map, List.getElem?_eq_getElem hi, e]
      rfl
    exact kdB_ok (Z0.gl _ (List.all_eq_true.mp z4 p hp)) (c.t.tab i ht) (List.all_eq_true.mp z3 p hp)⟩
  obtain ⟨ec, fd, hb, hF⟩ := F w mg K Z
  have e := hmg.symm.trans (hx ▸ Z0.gl x (c.t.d.fact j hj))
  have ea : ad = He.ga K x := by
    injection e with e
    injection e with e
    rw [e, hx]
  subst ea
  exact law_call (sp := spD ⟨K, w, ec⟩ df 1) KX G.T.g G.T.b G.T.builtins G.T.nolimit hg hobj hints (Nat.le_trans hlen hn2) hr (fun base _ _ => hF base) hb (fun H hO hS => law_sp (F := ⟨K, w, ec⟩) z1 hO hS (L ns hlen)) fun H e s' => cx_none
end Bel

/-! The engine, part S: while with fuel. -/
namespace Bel
open PySem PySem.Spec PyProof.Rows L2
def dWhileN (n : Nat) (t : DT) (b : DS) : DS := fun e S => whN t b n e S
theorem PSv.weak {ec : Nat → Value} {X : Cx} {st : Stmt} {d d' : DS} (h : PSv ec X st d) (k : ∀ e S, d' e S = .no ∨ d' e S = d e S) : PSv ec X st d' :=
  ⟨fun pn xe Wx tk po => (h.run pn xe Wx tk po).imp fun D σ H ⟨env, S, ι, B, R, E, q⟩ => by
    refine ⟨env, S, ι, B, R, E, ?_⟩
    rcases k env S with z | z
    · rw [z] at q; exact q.elim
    · rw [← z]; exact q⟩
theorem sv_whileN {ec : Nat → Value} {X : Cx} {test : Expr} {body : List Stmt} {pos : Pos} {tc : DT} {ds : DS} {n : Nat} (ht : PTv ec X test tc) (hb : PSsv ec X body ds) : PSv ec X (.While test body [] pos) (dWhileN n tc ds) :=
  (sv_while ht hb).weak fun e S => by
    by_cases h : whN tc ds n e S = .no
    · exact .inl h
    · exact .inr (dWhile_of h).symm
end Bel

/-! The engine, part U: rules for reckoning. -/
namespace Bel
open PySem PySem.Spec PyProof.Rows L2
@[simp] theorem dVar_ap (i : Nat) (e : Env') (S : Store) : dVar i e S = match e[i]? with
  | some (some u) => .ok u S
  | _ => .no := rfl
@[simp] theorem dC_ap (w : W) (e : Env') (S : Store) : dC w e S = .ok (.v w) S := rfl
@[simp] theorem dBin_ap (own : Bool) (f : W → W → Option Out) (a b : DE) (e : Env') (S : Store) : dBin own f a b e S = (a e S).bind fun u S1 => (b e S1).bind fun v S2 => match dr S2 u, dr S2 v with
  | some x, some y => putO own (f x y) S2
  | _, _ => .no := rfl
@[simp] theorem dT_ap (d : DE) (e : Env') (S : Store) : dT d e S = (d e S).bind fun u S1 => match u with
  | .v (.bl k) => .ok k S1
  | _ => .no := rfl
@[simp] theorem dAnd_ap (a b : DT) (e : Env') (S : Store) : dAnd a b e S = (a e S).bind fun k S1 => if k = true then b e S1 else .ok false S1 := rfl
@[simp] theorem dOr_ap (a b : DT) (e : Env') (S : Store) : dOr a b e S = (a e S).bind fun k S1 => if k = true then .ok true S1 else b e S1 := rfl
@[simp] theorem dNot_ap (a : DT) (e : Env') (S : Store) : dNot a e S = (a e S).bind fun k S1 => .ok (!k) S1 := rfl
@[simp] theorem dAndV_ap (a b : DE) (e : Env') (S : Store) : dAndV a b e S = (a e S).bind fun u S1 => match u with
  | .v (.bl k) => if k = true then b e S1 else .ok (.v (.bl false)) S1
  | _ => .no := rfl
@[simp] theorem dOrV_ap (a b : DE) (e : Env') (S : Store) : dOrV a b e S = (a e S).bind fun u S1 => match u with
  | .v (.bl k) => if k = true then .ok (.v (.bl true)) S1 else b e S1
  | _ => .no := rfl
@[simp] theorem dNotV_ap (a : DE) (e : Env') (S : Store) : dNotV a e S = (a e S).bind fun u S1 => match u with
  | .v (.bl k) => .ok (.v (.bl (!k))) S1
  | _ => .no := rfl
@[simp] theorem dIf_ap (c : DT) (a b : DE) (e : Env') (S : Store) : dIf c a b e S = (c e S).bind fun k S1 => if k = true then a e S1 else b e S1 := rfl
@[simp] theorem dNeg_ap (a : DE) (e : Env') (S : Store) : dNeg a e S = (a e S).bind fun u S1 => match u with
  | .v (.int i) => .ok (.v (.int (-i))) S1
  | _ => .no := rfl
@[simp] theorem dNil_ap (e : Env') (S : Store) : dNil e S = .ok [] S := rfl
@[simp] theorem dCons_ap (a : DE) (r : DA) (e : Env') (S : Store) : dCons a r e S = (a e S).bind fun u S1 => (r e S1).bind fun us S2 => .ok (u :: us) S2 := rfl
@[simp] theorem dDisp_ap (own : Bool) (mk : List W → Out) (a : DA) (e : Env') (S : Store) : dDisp own mk a e S = (a e S).bind fun us S1 => putO own (fDisp mk us) S1 := rfl
@[simp] theorem dNoPart_ap (e : Env') (S : Store) : dNoPart e S = .ok none S := rfl
@[simp] theorem dPart_ap (d : DE) (e : Env') (S : Store) : dPart d e S = (d e S).bind fun u S1 => match u with
  | .v (.int i) => .ok (some i) S1
  | _ => .no := rfl
@[simp] theorem dSl_ap (own : Bool) (a : DE) (lo hi : DO) (e : Env') (S : Store) : dSl own a lo hi e S = (a e S).bind fun u S1 => (lo e S1).bind fun l S2 => (hi e S2).bind fun h S3 => match dr S3 u with
  | some w => putO own (fSl w l h) S3
  | none => .no := rfl
@[simp] theorem dCall_ap (own : Bool) (f : List W → Option Out) (a : DA) (e : Env') (S : Store) : dCall own f a e S = (a e S).bind fun us S1 => match drs S1 us with
  | some ws => putO own (f ws) S1
  | none => .no := rfl
@[simp] theorem dIsT_ap (q : W → Bool) (a : DE) (e : Env') (S : Store) : dIsT q a e S = (a e S).bind fun u S1 => match dr S1 u with
  | some w => if isExc w = true then .no else .ok (.v (.bl (q w))) S1
  | none => .no := rfl
@[simp] theorem dMeth_ap (own : Bool) (q : W → Bool) (f : W → List W → Option Out) (o : DE) (a : DA) (e : Env') (S : Store) : dMeth own q f o a e S = (o e S).bind fun u S1 => match dr S1 u with
  | some w => if q w = true then (a e S1).bind fun us S2 => match dr S2 u, drs S2 us with
      | some w', some ws => putO own (f w' ws) S2
      | _, _ => .no
    else .no
  | none => .no := rfl
@[simp] theorem dNext_ap (e : Env') (S : Store) : dNext e S = .ok (.nx e) S := rfl
@[simp] theorem dSeq_ap (a b : DS) (e : Env') (S : Store) : dSeq a b e S = (a e S).bind b := rfl
@[simp] theorem dBreak_ap (e : Env') (S : Store) : dBreak e S = .ok (.bk e) S := rfl
@[simp] theorem dCont_ap (e : Env') (S : Store) : dCont e S = .ok (.ct e) S := rfl
@[simp] theorem dFrzV_ap (i : Nat) (e : Env') (S : Store) : dFrzV i e S = match e[i]? with
  | some (some u) => (frz S u).st e fun w S' => .ok (.nx (e.set i (some w))) S'
  | _ => .no := rfl
@[simp] theorem dRet_ap (d : DE) (e : Env') (S : Store) : dRet d e S = (d e S).st e fun u S1 => .ok (.rt u) S1 := rfl
@[simp] theorem dRetF_ap (d : DE) (e : Env') (S : Store) : dRetF d e S = (d e S).st e fun u S1 => (frz S1 u).st e fun w S2 => .ok (.rt w) S2 := rfl
@[simp] theorem dRetN_ap (e : Env') (S : Store) : dRetN e S = .ok (.rt (.v .non)) S := rfl
@[simp] theorem dAsg_ap (i : Nat) (d : DE) (e : Env') (S : Store) : dAsg i d e S = (d e S).st e fun u S1 => .ok (.nx (e.set i (some u))) S1 := rfl
@[simp] theorem dDrop_ap (d : DE) (e : Env') (S : Store) : dDrop d e S = (d e S).st e fun _ S1 => .ok (.nx e) S1 := rfl
@[simp] theorem dIfS_ap (c : DT) (a b : DS) (e : Env') (S : Store) : dIfS c a b e S = (c e S).st e fun k S1 => if k = true then a e S1 else b e S1 := rfl
@[simp] theorem dSetL_ap (o i v : DE) (e : Env') (S : Store) : dSetL o i v e S = (v e S).st e fun uv S1 => (o e S1).st e fun uo S2 => (i e S2).st e fun ui S3 => match uv, uo, ui with
  | .v w, .o n, .v (.int k) => match S3[n]? with
    | some (.lst l) => match ixN l.length k with
      | some j => .ok (.nx e) (S3.set n (.lst (l.set j w)))
      | none => .no
    | _ => .no
  | _, _, _ => .no := rfl
@[simp] theorem dSetD_ap (o i v : DE) (e : Env') (S : Store) : dSetD o i v e S = (v e S).st e fun uv S1 => (o e S1).st e fun uo S2 => (i e S2).st e fun ui S3 => match uv, uo, ui with
  | .v w, .o n, .v k => match S3[n]? with
    | some (.dct l) => if isKey k = true ∧ l.length < 16777216 then .ok (.nx e) (S3.set n (.dct (putW k w l))) else .no
    | _ => .no
  | _, _, _ => .no := rfl
@[simp] theorem dAsgT_ap (t : W → Env' → Option Env') (d : DE) (e : Env') (S : Store) : dAsgT t d e S = (d e S).st e fun u S1 => match u with
  | .v w => match t w e with
    | some e' => .ok (.nx e') S1
    | none => .no
  | .o _ => .no := rfl
@[simp] theorem dPar_ap (i j : Nat) (a : DA) (e : Env') (S : Store) : dPar i j a e S = (a e S).st e fun us S1 => match us with
  | [u, v] => .ok (.nx ((e.set i (some u)).set j (some v))) S1
  | _ => .no := rfl
@[simp] theorem dItems_ap (d : DE) (e : Env') (S : Store) : dItems d e S = (d e S).bind fun u S1 => match u with
  | .v (.lst l) => .ok l S1
  | .v (.tup l) => .ok l S1
  | _ => .no := rfl
@[simp] theorem dItL_ap (d : DE) (e : Env') (S : Store) : dItL d e S = (d e S).bind fun u S1 => match u with
  | .v (.lst l) => .ok l S1
  | _ => .no := rfl
@[simp] theorem dItT_ap (d : DE) (e : Env') (S : Store) : dItT d e S = (d e S).bind fun u S1 => match u with
  | .v (.tup l) => .ok l S1
  | _ => .no := rfl
@[simp] theorem dItS_ap (d : DE) (e : Env') (S : Store) : dItS d e S = (d e S).bind fun u S1 => match u with
  | .v (.str x) => .ok (x.map fun c => .str [c]) S1
  | _ => .no := rfl
@[simp] theorem dRng1_ap (d : DE) (e : Env') (S : Store) : dRng1 d e S = (d e S).bind fun u S1 => match u with
  | .v (.int n) => if n < 2 ^ 62 ∧ -(2 ^ 62) ≤ n then .ok ((List.range n.toNat).map fun i => .int (Int.ofNat i)) S1 else .no
  | _ => .no := rfl
@[simp] theorem dRng2_ap (a b : DE) (e : Env') (S : Store) : dRng2 a b e S = (a e S).bind fun u S1 => (b e S1).bind fun v S2 => match u, v with
  | .v (.int i), .v (.int j) => if -(2 ^ 62) ≤ i ∧ i < 2 ^ 62 ∧ -(2 ^ 62) ≤ j ∧ j < 2 ^ 62 then .ok ((List.range (j - i).toNat).map fun k => .int (i + Int.ofNat k)) S2 else .no
  | _, _ => .no := rfl
@[simp] theorem dFor_ap (src : DI) (t : W → Env' → Option Env') (body : DS) (e : Env') (S : Store) : dFor src t body e S = (src e S).st e fun ws S1 => dLoop t body ws e S1 := rfl
@[simp] theorem dYes_ap (e : Env') (S : Store) : dYes e S = .ok true S := rfl
@[simp] theorem dLc_ap (own : Bool) (src : DI) (t : W → Env' → Option Env') (tt : DT) (te : DE) (vs : List Nat) (e : Env') (S : Store) : dLc own src t tt te vs e S = (src e S).bind fun ws S1 =>
  if ws.length ≤ 16777216 then (lcL t tt te (wipeE e vs) ws S1).bindX fun xs S2 => (Out.nl xs).put own S2 else .no := rfl
@[simp] theorem dFn_ap (f : DF) (n : Nat) (a : DA) (e : Env') (S : Store) : dFn f n a e S = (a e S).bind fun us S1 => if us.length = n then f us S1 else .no := rfl
@[simp] theorem dRevS_ap (d : DE) (e : Env') (S : Store) : dRevS d e S = (d e S).bind fun u S1 => match dr S1 u with
  | some (.str x) => .ok (.v (.str x.reverse)) S1
  | _ => .no := rfl
@[simp] theorem dStep_ap (own : Bool) (a b : DE) (e : Env') (S : Store) : dStep own a b e S = (a e S).bind fun u S1 => (b e S1).bind fun v S2 => match dr S2 u, v with
  | some (.tup l), .v (.int i) => if i = -1 then (Out.nt l.reverse).put own S2 else if i = 1 then .ok (.v (.tup l)) S2 else .no
  | some (.lst l), .v (.int i) => if i = -1 then (Out.nl l.reverse).put own S2 else .no
  | _, _ => .no := rfl
@[simp] theorem dMut_ap (f : List W → List W → Option (List W × W)) (o : DE) (a : DA) (e : Env') (S : Store) : dMut f o a e S = (o e S).bind fun u S1 => match u with
  | .o n => match S1[n]? with
    | some (.lst _) => (a e S1).bind fun us S2 => match S2[n]?, allV us with
      | some (.lst l), some ws => match f l ws with
        | some (l', w) => .ok (.v w) (S2.set n (.lst l'))
        | none => .no
      | _, _ => .no
    | _ => .no
  | .v _ => .no := rfl
def chn (o : Option Out) (A B : Unit → Re U) : Re U := match o with
  | some (.val (.bl b)) => if b = true then A () else B ()
  | _ => .no
@[simp] theorem chn_ap (b : Bool) (A B : Unit → Re U) : chn (some (.val (.bl b))) A B = if b = true then A () else B () := rfl
@[simp] theorem dChain_ap (f g : W → W → Option Out) (a b c : DE) (e : Env') (S : Store) : dChain f g a b c e S = (a e S).bind fun u S1 => (b e S1).bind fun v S2 => match dr S2 u, dr S2 v with
  | some x, some y => chn (f x y) (fun _ => (c e S2).bind fun w S3 => match dr S3 v, dr S3 w with
      | some y', some z => putO false (g y' z) S3
      | _, _ => .no) (fun _ => .ok (.v (.bl false)) S2)
  | _, _ => .no := by
  unfold dChain
  congr 1; funext u S1; congr 1; funext v S2
  cases dr S2 u with
  | none => rfl
  | some x => cases dr S2 v with
    | none => rfl
    | some y =>
      simp only
      cases f x y with
      | none => rfl
      | some o => cases o with
        | val w => cases w with
          | bl b => cases b <;> rfl
          | _ => rfl
        | _ => rfl
end Bel

/-! The engine, part V: reckoning. -/
namespace Bel
open PySem PySem.Spec PyProof.Rows L2
theorem Re.bind_congr {α β : Type} {r r' : Re α} {f : α → Store → Re β} (h : r = r') : r.bind f = r'.bind f := by rw [h]
theorem Re.bindX_congr {α β : Type} {r r' : Re α} {f : α → Store → Re β} (h : r = r') : r.bindX f = r'.bindX f := by rw [h]
theorem Rs.bind_congr {r r' : Rs} {f : Env' → Store → Rs} (h : r = r') : r.bind f = r'.bind f := by rw [h]
theorem Re.st_congr {α : Type} {r r' : Re α} {e : Env'} {f : α → Store → Rs} (h : r = r') : r.st e f = r'.st e f := by rw [h]
abbrev stt (n : Int) : Ob := .lst [.int n]
@[simp] theorem dr_v (S : Store) (w : W) : dr S (.v w) = some w := rfl
@[simp] theorem drs_nil (S : Store) : drs S [] = some [] := rfl
@[simp] theorem drs_cons (S : Store) (u : U) (r : List U) : drs S (u :: r) = match dr S u, drs S r with
    | some w, some ws => some (w :: ws)
    | _, _ => none := rfl
@[simp] theorem dr_set {S : Store} {k : Nat} {l : List W} (hk : k < S.length) : dr (S.set k (.lst l)) (.o k) = some (.lst l) := by simp [dr, hk]
@[simp] theorem allV_nil : allV [] = some [] := rfl
@[simp] theorem allV_cons (w : W) (r : List U) : allV (.v w :: r) = (allV r).map (w :: ·) := rfl
@[simp] theorem putO_some (own : Bool) (o : Out) (S : Store) : putO own (some o) S = o.put own S := rfl
@[simp] theorem put_val (own : Bool) (w : W) (S : Store) : (Out.val w).put own S = .ok (.v w) S := rfl
@[simp] theorem put_nt (own : Bool) (l : List W) (S : Store) : (Out.nt l).put own S = .ok (.v (.tup l)) S := by cases own <;> rfl
@[simp] theorem put_nl (l : List W) (S : Store) : (Out.nl l).put false S = .ok (.v (.lst l)) S := rfl
@[simp] theorem put_nd (l : List (W × W)) (S : Store) : (Out.nd l).put false S = .ok (.v (.dct l)) S := rfl
@[simp] theorem put_nlO (l : List W) (S : Store) : (Out.nl l).put true S = .ok (.o S.length) (S ++ [.lst l]) := rfl
@[simp] theorem put_ndO (l : List (W × W)) (S : Store) : (Out.nd l).put true S = .ok (.o S.length) (S ++ [.dct l]) := rfl
@[simp] theorem fDisp_ap (mk : List W → Out) (us : List U) : fDisp mk us = match allV us with
  | some ws => if ws.length ≤ 16777216 then some (mk ws) else none
  | none => none := rfl
@[simp] theorem tgN_ap (i : Nat) (w : W) (e : Env') : tgN i w e = some (e.set i (some (.v w))) := rfl
@[simp] theorem tgs0_ap (e : Env') : tgs0 [] e = some e := rfl
@[simp] theorem tgs1_ap (t : W → Env' → Option Env') (r : List W → Env' → Option Env') (w : W) (ws : List W) (e : Env') : tgs1 t r (w :: ws) e = (t w e).bind (r ws) := rfl
@[simp] theorem tgT_ap (n : Nat) (r : List W → Env' → Option Env') (ws : List W) (e : Env') : tgT n r (.tup ws) e = if ws.length = n then r ws e else none := rfl
@[simp] theorem fnD_ap (nl : Nat) (body : DS) (us : List U) (S : Store) : fnD nl body us S = match body (us.map some ++ List.replicate (nl - us.length) none) S with
  | .ok (.nx _) S' => fin S.length (.v .non) S'
  | .ok (.rt u) S' => fin S.length u S'
  | .ex c _ S' => .ex c (S'.take S.length)
  | _ => .no := rfl
@[simp] theorem isNon_non : isNon .non = true := rfl
@[simp] theorem isExc_non : isExc .non = false := rfl
@[simp] theorem isExc_bl (b : Bool) : isExc (.bl b) = false := rfl
@[simp] theorem isExc_int (b : Int) : isExc (.int b) = false := rfl
@[simp] theorem isExc_str (b : List Nat) : isExc (.str b) = false := rfl
@[simp] theorem isExc_tup (b : List W) : isExc (.tup b) = false := rfl
@[simp] theorem isExc_lst (b : List W) : isExc (.lst b) = false := rfl
@[simp] theorem isExc_dct (b : List (W × W)) : isExc (.dct b) = false := rfl
section
variable {S : Store} {k : Nat} {n m : Int} {o o' : Ob} {w : W}
theorem lt_of_st (h : S[k]? = some o) : k < S.length := (List.getElem?_eq_some_iff.mp h).1
theorem set_same (h : S[k]? = some o) : S.set k o = S := by
  apply List.ext_getElem?
  intro i
  rw [List.getElem?_set]
  split
  · rename_i e
    subst e
    rw [if_pos (lt_of_st h), h]
  · rfl
@[simp] theorem take_all : List.take S.length S = S := List.take_of_length_le (Nat.le_refl _)
@[simp] theorem take_set_self : List.take S.length (S.set k o) = S.set k o := List.take_of_length_le (by simp)
@[simp] theorem take_app {T : Store} : List.take S.length (S ++ T) = S := by simp
@[simp] theorem take_set_app {T : Store} : List.take S.length (S.set k o ++ T) = S.set k o := by
  rw [show S.length = (S.set k o).length by simp, List.take_left]
@[simp] theorem fin_v {j : Nat} {T : Store} : fin j (.v w) T = .ok (.v w) (T.take j) := rfl
theorem atW_in {α : Type} {l : List α} {i : Int} (h0 : 0 ≤ i) (h1 : i < l.length) : atW l i = l[i.toNat]? := by
  have e : ixN l.length i = some i.toNat := by
    unfold ixN
    rw [if_pos h0, if_pos h1]
  simp [atW, e]
/-- the item at a place -/
def pk (l : List W) (i : Int) : W := l[i.toNat]?.getD .non
theorem pk_mem {l : List W} {i : Int} (h0 : 0 ≤ i) (h1 : i < l.length) : pk l i ∈ l := by
  have hl : i.toNat < l.length := by omega
  simp [pk, hl]
theorem ix_pk {l : List W} {i : Int} (h0 : 0 ≤ i) (h1 : i < l.length) : fIx (.lst l) (.int i) = some (.val (pk l i)) := by
  have hl : i.toNat < l.length := by omega
  simp [fIx, atW_in h0 h1, pk, hl]
theorem ixT_pk {l : List W} {i : Int} (h0 : 0 ≤ i) (h1 : i < l.length) : fIx (.tup l) (.int i) = some (.val (pk l i)) := by
  have hl : i.toNat < l.length := by omega
  simp [fIx, atW_in h0 h1, pk, hl]
@[simp] theorem ix0_tup {a : W} {l : List W} : fIx (.tup (a :: l)) (.int 0) = some (.val a) := by
  rw [ixT_pk (by decide) (by simp)]; rfl
@[simp] theorem ix1_tup {a b : W} {l : List W} : fIx (.tup (a :: b :: l)) (.int 1) = some (.val b) := by
  rw [ixT_pk (by decide) (by simp; omega)]; rfl
@[simp] theorem ix2_tup {a b c : W} {l : List W} : fIx (.tup (a :: b :: c :: l)) (.int 2) = some (.val c) := by
  rw [ixT_pk (by decide) (by simp; omega)]; rfl
@[simp] theorem ix0_lst {a : W} {l : List W} : fIx (.lst (a :: l)) (.int 0) = some (.val a) := by
  rw [ix_pk (by decide) (by simp)]; rfl
@[simp] theorem ix1_lst {a b : W} {l : List W} : fIx (.lst (a :: b :: l)) (.int 1) = some (.val b) := by
  rw [ix_pk (by decide) (by simp; omega)]; rfl
end
/-! ### operations -/
section
variable {i j : Int} {x y : List Nat} {a b : Bool} {l : List W}
@[simp] theorem fAdd_int : fAdd (.int i) (.int j) = some (.val (.int (i + j))) := rfl
@[simp] theorem fSub_int : fSub (.int i) (.int j) = some (.val (.int (i - j))) := rfl
theorem fAdd_str (h : x.length + y.length ≤ 16777216) : fAdd (.str x) (.str y) = some (.val (.str (x ++ y))) := if_pos h
theorem fAdd_tup {l r : List W} (h : l.length + r.length ≤ 16777216) : fAdd (.tup l) (.tup r) = some (.nt (l ++ r)) := if_pos h
theorem fAdd_lst {l r : List W} (h : l.length + r.length ≤ 16777216) : fAdd (.lst l) (.lst r) = some (.nl (l ++ r)) := if_pos h
theorem fMod_int (h : 0 < j) : fMod (.int i) (.int j) = some (.val (.int (i % j))) := if_pos h
theorem fDiv_int (h : 0 < j) (h2 : j < 1073741824) : fDiv (.int i) (.int j) = some (.val (.int (i / j))) := if_pos ⟨h, h2⟩
@[simp] theorem fCmp_int {p : Int → Int → Bool} : fCmp p (.int i) (.int j) = some (.val (.bl (p i j))) := rfl
@[simp] theorem fLen_str : fLen [.str x] = some (.val (.int x.length)) := rfl
@[simp] theorem fLen_lst : fLen [.lst l] = some (.val (.int l.length)) := rfl
@[simp] theorem fLen_tup : fLen [.tup l] = some (.val (.int l.length)) := rfl
@[simp] theorem fLen_dct {l : List (W × W)} : fLen [.dct l] = some (.val (.int l.length)) := rfl
@[simp] theorem fIs_bl : fIs (.bl a) (.bl b) = some (.val (.bl (a == b))) := rfl
@[simp] theorem fIsNot_bl : fIsNot (.bl a) (.bl b) = some (.val (.bl (!(a == b)))) := rfl
@[simp] theorem fIs_non {w : W} : fIs w .non = some (.val (.bl (isNon w))) := rfl
@[simp] theorem fIsNot_non {w : W} : fIsNot w .non = some (.val (.bl (!isNon w))) := rfl
@[simp] theorem fSl_str {lo hi : Option Int} : fSl (.str x) lo hi = some (.val (.str (cutL x lo hi))) := rfl
@[simp] theorem fSl_tup {lo hi : Option Int} : fSl (.tup l) lo hi = some (.nt (cutL l lo hi)) := rfl
@[simp] theorem fSl_lst {lo hi : Option Int} : fSl (.lst l) lo hi = some (.nl (cutL l lo hi)) := rfl
@[simp] theorem fList_tup : fList [.tup l] = some (.nl l) := rfl
@[simp] theorem fList_lst : fList [.lst l] = some (.nl l) := rfl
@[simp] theorem fTuple_tup : fTuple [.tup l] = some (.nt l) := rfl
@[simp] theorem fTuple_lst : fTuple [.lst l] = some (.nt l) := rfl
@[simp] theorem fInt_bl : fInt [.bl a] = some (.val (.int (b2n a))) := rfl
@[simp] theorem fInt_int : fInt [.int i] = some (.val (.int i)) := rfl
@[simp] theorem isStr_str : isStr (.str x) = true := rfl
@[simp] theorem isStr_non : isStr .non = false := rfl
@[simp] theorem isStr_int : isStr (.int i) = false := rfl
@[simp] theorem isStr_bl : isStr (.bl a) = false := rfl
@[simp] theorem isStr_tup : isStr (.tup l) = false := rfl
@[simp] theorem isStr_lst : isStr (.lst l) = false := rfl
@[simp] theorem isStr_dct {l : List (W × W)} : isStr (.dct l) = false := rfl
@[simp] theorem isTup_str : isTup (.str x) = false := rfl
@[simp] theorem isTup_non : isTup .non = false := rfl
@[simp] theorem isTup_int : isTup (.int i) = false := rfl
@[simp] theorem isTup_bl : isTup (.bl a) = false := rfl
@[simp] theorem isTup_tup : isTup (.tup l) = true := rfl
@[simp] theorem isTup_lst : isTup (.lst l) = false := rfl
@[simp] theorem isTup_dct {l : List (W × W)} : isTup (.dct l) = false := rfl
@[simp] theorem isInt_str : isInt (.str x) = false := rfl
@[simp] theorem isInt_non : isInt .non = false := rfl
@[simp] theorem isInt_int : isInt (.int i) = true := rfl
@[simp] theorem isInt_bl : isInt (.bl a) = true := rfl
@[simp] theorem isInt_tup : isInt (.tup l) = false := rfl
@[simp] theorem isInt_lst : isInt (.lst l) = false := rfl
@[simp] theorem isInt_dct {l : List (W × W)} : isInt (.dct l) = false := rfl
@[simp] theorem isBl_str : isBl (.str x) = false := rfl
@[simp] theorem isBl_non : isBl .non = false := rfl
@[simp] theorem isBl_int : isBl (.int i) = false := rfl
@[simp] theorem isBl_bl : isBl (.bl a) = true := rfl
@[simp] theorem isBl_tup : isBl (.tup l) = false := rfl
@[simp] theorem isBl_lst : isBl (.lst l) = false := rfl
@[simp] theorem isBl_dct {l : List (W × W)} : isBl (.dct l) = false := rfl
@[simp] theorem isLst_str : isLst (.str x) = false := rfl
@[simp] theorem isLst_non : isLst .non = false := rfl
@[simp] theorem isLst_int : isLst (.int i) = false := rfl
@[simp] theorem isLst_bl : isLst (.bl a) = false := rfl
@[simp] theorem isLst_tup : isLst (.tup l) = false := rfl
@[simp] theorem isLst_lst : isLst (.lst l) = true := rfl
@[simp] theorem isLst_dct {l : List (W × W)} : isLst (.dct l) = false := rfl
@[simp] theorem isDct_str : isDct (.str x) = false := rfl
@[simp] theorem isDct_non : isDct .non = false := rfl
@[simp] theorem isDct_int : isDct (.int i) = false := rfl
@[simp] theorem isDct_bl : isDct (.bl a) = false := rfl
@[simp] theorem isDct_tup : isDct (.tup l) = false := rfl
@[simp] theorem isDct_lst : isDct (.lst l) = false := rfl
@[simp] theorem isDct_dct {l : List (W × W)} : isDct (.dct l) = true := rfl
theorem mul_ok (h : (-(2 ^ 64) < i ∧ i < 2 ^ 64) ∨ (-(2 ^ 64) < j ∧ j < 2 ^ 64)) : fMul (.int i) (.int j) = some (.val (.int (i * j))) := if_pos h
@[simp] theorem eq_int : fEq (.int i) (.int j) = some (.val (.bl (decide (i = j)))) := by
  have h : (i == j) = decide (i = j) := by
    by_cases e : i = j
    · subst e; simp
    · simp [e]
  simp [fEq, shp, toD, PyData.eqv, h]
@[simp] theorem ne_int : fNe (.int i) (.int j) = some (.val (.bl (!decide (i = j)))) := by
  have h : (i == j) = decide (i = j) := by
    by_cases e : i = j
    · subst e; simp
    · simp [e]
  simp [fNe, shp, toD, PyData.eqv, h]
@[simp] theorem eqD_str : eqD (.str x) (.str y) = decide (x = y) := by
  have h : eqD (.str x) (.str y) = ((⟨x.toArray⟩ : Str) == (⟨y.toArray⟩ : Str)) := by
    simp [eqD, toD, PyData.eqv]
  rw [h]
  by_cases e : x = y
  · subst e; simp
  · rw [decide_eq_false e]
    apply beq_eq_false_iff_ne.mpr
    intro z
    injection z with z
    exact e (by simpa using z)
theorem fEq_is (h1 : shp 64 w = true) (h2 : shp 64 v = true) : fEq w v = some (.val (.bl (eqD w v))) := if_pos ⟨h1, h2⟩
theorem fNe_is (h1 : shp 64 w = true) (h2 : shp 64 v = true) : fNe w v = some (.val (.bl (!eqD w v))) := if_pos ⟨h1, h2⟩
@[simp] theorem eq_str : fEq (.str x) (.str y) = some (.val (.bl (decide (x = y)))) := by rw [fEq_is rfl rfl, eqD_str]
@[simp] theorem ne_str : fNe (.str x) (.str y) = some (.val (.bl (!decide (x = y)))) := by rw [fNe_is rfl rfl, eqD_str]
@[simp] theorem ne_bl : fNe (.bl a) (.bl b) = some (.val (.bl (!(a == b)))) := by
  simp [fNe, shp, toD, PyData.eqv]
@[simp] theorem eq_bl : fEq (.bl a) (.bl b) = some (.val (.bl (a == b))) := by
  simp [fEq, shp, toD, PyData.eqv]
@[simp] theorem fNeNil_ap : fNeNil (.lst l) (.lst []) = some (.val (.bl (!l.isEmpty))) := rfl
end
theorem any_str (l : List (List Nat)) (x : List Nat) : ((l.map W.str).any fun y => eqD y (.str x)) = decide (x ∈ l) := by
  induction l with
  | nil => simp
  | cons a r ih =>
    rw [List.map_cons, List.any_cons, ih, eqD_str]
    by_cases e : a = x
    · subst e; simp
    · have : x ≠ a := fun z => e z.symm
      simp [e, this]
theorem in_tup (l : List (List Nat)) (x : List Nat) : fInO (.str x) (.tup (l.map W.str)) = some (.val (.bl (decide (x ∈ l)))) := by
  have h : (l.map W.str).all isFlat = true := by simp [isFlat]
  simp only [fInO, fIn, isFlat, h, and_self, if_true, any_str, Option.map_some]
theorem notin_tup (l : List (List Nat)) (x : List Nat) : fNotInO (.str x) (.tup (l.map W.str)) = some (.val (.bl (!decide (x ∈ l)))) := by
  have h : (l.map W.str).all isFlat = true := by simp [isFlat]
  simp only [fNotInO, fIn, isFlat, h, and_self, if_true, any_str, Option.map_some]
theorem shps_str (n : Nat) (l : List (List Nat)) : shps (n + 1) (l.map W.str) = true := by
  induction l with
  | nil => rfl
  | cons a r ih => rw [List.map_cons, shps, ih]; rfl
theorem in_lst (l : List (List Nat)) (x : List Nat) : fInO (.str x) (.lst (l.map W.str)) = some (.val (.bl (decide (x ∈ l)))) := by
  have h : shps 63 (l.map W.str) = true := shps_str 62 l
  have h2 : shp 64 (.str x) = true := rfl
  simp only [fInO, fIn, h, h2, and_self, if_true, any_str, Option.map_some]
@[simp] theorem in_sign (c : Nat) (x : List Nat) : fInO (.str [c]) (.str x) = some (.val (.bl (decide (c ∈ x)))) := rfl
@[simp] theorem notin_sign (c : Nat) (x : List Nat) : fNotInO (.str [c]) (.str x) = some (.val (.bl (!decide (c ∈ x)))) := rfl
@[simp] theorem in_kdc (k : List Nat) (l : List (List Nat × W)) : fInO (.str k) (.kdc l) = some (.val (.bl (l.lookup k).isSome)) := rfl
@[simp] theorem notin_kdc (k : List Nat) (l : List (List Nat × W)) : fNotInO (.str k) (.kdc l) = some (.val (.bl (!(l.lookup k).isSome))) := rfl
@[simp] theorem ix_kdc (k : List Nat) (l : List (List Nat × W)) : fIx (.kdc l) (.str k) = (l.lookup k).map .val := rfl
theorem bools_map {α : Type} (f : α → Bool) (l : List α) : bools (l.map fun c => W.bl (f c)) = some (l.map f) := by
  induction l with
  | nil => rfl
  | cons a r ih => simp [bools, ih]
theorem fAll_map {α : Type} (f : α → Bool) (l : List α) : fAll [.lst (l.map fun c => W.bl (f c))] = some (.val (.bl (l.all f))) := by
  simp [fAll, bools_map, List.all_map, Function.comp_def]
theorem fAny_map {α : Type} (f : α → Bool) (l : List α) : fAny [.lst (l.map fun c => W.bl (f c))] = some (.val (.bl (l.any f))) := by
  simp [fAny, bools_map, List.any_map, Function.comp_def]
theorem lcL_nil {t : W → Env' → Option Env'} {tt : DT} {te : DE} {env : Env'} {S : Store} : lcL t tt te env [] S = .ok [] S := rfl
/-- a comprehension that writes nothing -/
theorem lcL_pure {t : W → Env' → Option Env'} {tt : DT} {te : DE} {env : Env'} {S : Store} (p : W → Bool) (g : W → W) : ∀ (ws : List W), (∀ w ∈ ws, ∃ e1, t w env = some e1 ∧ tt e1 S = .ok (p w) S ∧ (p w = true → te e1 S = .ok (.v (g w)) S)) → lcL t tt te env ws S = .ok ((ws.filter p).map g) S
  | [], _ => rfl
  | w :: r, h => by
    obtain ⟨e1, h1, h2, h3⟩ := h w List.mem_cons_self
    have ih := lcL_pure p g r fun w hw => h w (List.mem_cons_of_mem _ hw)
    rw [lcL_cons, h1]
    simp only [h2, Re.bindX_ok]
    cases q : p w with
    | true => simp [h3 q, ih, List.filter_cons, q]
    | false => simp [ih, List.filter_cons, q]
/-- .. without a test, over mapped items -/
theorem lcL_map {α : Type} {t : W → Env' → Option Env'} {te : DE} {env : Env'} {S : Store} (f : α → W) (g : α → W) : ∀ (xs : List α), (∀ x ∈ xs, ∃ e1, t (f x) env = some e1 ∧ te e1 S = .ok (.v (g x)) S) → lcL t dYes te env (xs.map f) S = .ok (xs.map g) S
  | [], _ => rfl
  | w :: r, h => by
    obtain ⟨e1, h1, h2⟩ := h w List.mem_cons_self
    have ih := lcL_map (t := t) (te := te) (env := env) (S := S) f g r fun w hw => h w (List.mem_cons_of_mem _ hw)
    rw [List.map_cons, lcL_cons, h1]
    simp [h2, ih]
/-- .. that goes on with a state, by a relation -/
theorem lcL_rel {t : W → Env' → Option Env'} {te : DE} {env : Env'} (I : Store → Prop) (P : W → Prop) : ∀ (ws : List W) (S : Store), I S → (∀ w ∈ ws, ∀ S, I S → ∃ e1 x S', t w env = some e1 ∧ te e1 S = .ok (.v x) S' ∧ I S' ∧ P x) →
    ∃ xs S', lcL t dYes te env ws S = .ok xs S' ∧ I S' ∧ xs.length = ws.length ∧ ∀ x ∈ xs, P x
  | [], S, h, _ => ⟨[], S, rfl, h, rfl, fun _ z => nomatch z⟩
  | w :: r, S, h, k => by
    obtain ⟨e1, x, S1, h1, h2, h3, h4⟩ := k w List.mem_cons_self S h
    obtain ⟨xs, S2, q1, q2, q3, q4⟩ := lcL_rel I P r S1 h3 fun w hw => k w (List.mem_cons_of_mem _ hw)
    refine ⟨x :: xs, S2, ?_, q2, by simp [q3], fun y hy => ?_⟩
    · rw [lcL_cons, h1]
      simp [h2, q1]
    · rcases List.mem_cons.mp hy with rfl | z
      · exact h4
      · exact q4 y z
@[simp] theorem dLoop_nil {t : W → Env' → Option Env'} {body : DS} {e : Env'} {S : Store} : dLoop t body [] e S = .ok (.nx e) S := rfl
theorem dLoop_cons {t : W → Env' → Option Env'} {body : DS} {w : W} {r : List W} {e : Env'} {S : Store} : dLoop t body (w :: r) e S = match t w e with
    | none => .no
    | some e1 => match body e1 S with
      | .ok (.nx e2) S2 => dLoop t body r e2 S2
      | .ok (.ct e2) S2 => dLoop t body r e2 S2
      | .ok (.bk e2) S2 => .ok (.nx e2) S2
      | r => r := rfl
/-- a loop by an invariant of frame and store -/
theorem dLoop_inv {t : W → Env' → Option Env'} {body : DS} (I : Env' → Store → Prop) : ∀ (ws : List W) (e : Env') (S : Store), I e S → (∀ w ∈ ws, ∀ e S, I e S → ∃ e1 e2 S', t w e = some e1 ∧ body e1 S = .ok (.nx e2) S' ∧ I e2 S') → ∃ e' S', dLoop t body ws e S = .ok (.nx e') S' ∧ I e' S'
  | [], e, S, h, _ => ⟨e, S, rfl, h⟩
  | w :: r, e, S, h, k => by
    obtain ⟨e1, e2, S1, h1, h2, h3⟩ := k w List.mem_cons_self e S h
    obtain ⟨e', S', q1, q2⟩ := dLoop_inv I r e2 S1 h3 fun w hw => k w (List.mem_cons_of_mem _ hw)
    exact ⟨e', S', by rw [dLoop_cons, h1]; simp [h2, q1], q2⟩
theorem rng_ok {d : DE} {e : Env'} {S S1 : Store} {i : Int} (h : d e S = .ok (.v (.int i)) S1) (h0 : -1000000000 ≤ i) (h1 : i ≤ 1000000000) : dRng1 d e S = .ok ((List.range i.toNat).map fun (j : Nat) => W.int (j : Int)) S1 := by
  have b1 : i < 2 ^ 62 := Int.lt_of_le_of_lt h1 (by decide +kernel)
  have b2 : -(2 ^ 62) ≤ i := Int.le_trans (by decide +kernel) h0
  unfold dRng1
  simp only [h, Re.bind_ok]
  rw [if_pos ⟨b1, b2⟩]
  rfl
/-- the first turns of a loop that a law makes -/
theorem for_rng {d : DE} {e : Env'} {S S1 : Store} {i : Int} {t : W → Env' → Option Env'} {b : DS} (h : d e S = .ok (.v (.int i)) S1) (h0 : -1000000000 ≤ i) (h1 : i ≤ 1000000000) : dFor (dRng1 d) t b e S = dLoop t b ((List.range i.toNat).map fun (j : Nat) => W.int (j : Int)) e S1 := by
  unfold dFor
  rw [rng_ok h h0 h1]
  rfl
theorem cut_sub {α : Type} (x : List α) (lo hi : Option Int) : (∀ c ∈ cutL x lo hi, c ∈ x) ∧ (cutL x lo hi).length ≤ x.length := by
  refine ⟨fun c hc => List.mem_of_mem_drop (List.mem_of_mem_take hc), ?_⟩
  unfold cutL
  rw [List.length_take, List.length_drop]
  omega
end Bel

/-! The engine, part Y: what is under way (guards) is known, too. -/
namespace Bel
open PySem PySem.Spec PyProof.Rows L2 LamX
structure RoomG (k : Nat) (A : Around) : Prop where
  r : Room k A
  g : A.guards = some []
theorem RoomG.mono {j k : Nat} {A : Around} (h : RoomG k A) (l : j ≤ k) : RoomG j A := ⟨h.r.mono l, h.g⟩
theorem RoomG.down {k : Nat} {A : Around} {e : Env} (h : RoomG (k + 1) A) : RoomG k (A.deeper e) := ⟨h.r.deeper e, h.g⟩
structure FnG (P : Program) (w : World) (K : PySem.W.Frag) (mg : Str → Option Value) (base : Heap) (k : Nat) (f : Addr) (fd : FuncData) (ps : List Str) (sp : Sp) : Prop where
  len : ∀ xs H Q E, sp xs H Q E → xs.length = ps.length
  go : ∀ (A : Around) (fs : List Env) (s : Shared) (H : Hp) (as : Args) (us : List Value) (xs : List V) (Q : VK) (E : XK), RoomG k A → Env0 P w K mg base A fs s H → BindsTo s fd as (ps.zip us) → Vals xs us → sp xs H Q E →
    codeAny (model P w) A (.call (.ref f) as) (CR (L2.CX P w) fs P w H s Q E) s
theorem FnG.mono {P : Program} {w : World} {K : PySem.W.Frag} {mg : Str → Option Value} {base : Heap} {j k : Nat} {f : Addr} {fd : FuncData} {ps : List Str} {sp : Sp} (F : FnG P w K mg base j f fd ps sp) (h : j ≤ k) : FnG P w K mg base k f fd ps sp :=
  ⟨F.len, fun A fs s H as us xs Q E r => F.go A fs s H as us xs Q E (r.mono h)⟩
section
variable {P : Program} {w : World} {K : PySem.W.Frag} {mg : Str → Option Value} {base : Heap} {ec : Nat → Value}
/-- the rule for a def -/
theorem defG {x qual : Str} {params : Arguments} {body : List Stmt} {scope : Scope} {dvs : List V} {kws : List (Str × V)} {f : Addr} {fd : FuncData} {N ps : List Str} {k n nl : Nat} {d : DS} (Fn : FunD K x qual params body scope dvs kws f fd) (Sc : FnScope N ps scope) (hn : ps.length = n) (hnl : N.length = nl)
    (hb : ∀ (cdv : Value) (A : Around) (fs : List Env) (s : Shared) (H : Hp) (E : XK), RoomG k (A.deeper (envOfC qual scope s.heap.objs.size f cdv)) →
      PSsv ec (cxOf (L2.CX P w) P w K mg base N qual scope f cdv A fs s H E) body d) : FnG P w K mg base (k + 1) f fd ps (spD ⟨K, w, ec⟩ (fnD nl d) n) := by
  subst hn hnl
  refine ⟨spD_len, fun A fs s H as us xs Q E r e0 bi rv h => ?_⟩
  obtain ⟨oc, od, dV, kV, doc, pm, an, cdv, ct, osl, rfl, lk, hcd, _, _⟩ := Fn.ex
  refine run_ofS (CX := L2.CX P w) lk hcd Sc r.r e0 bi rv (spD_len _ _ _ _ h) fun _ => ?_
  refine ⟨LS ⟨K, w, ec⟩ (fun cls d _ H => E cls d H) d, (hb cdv A fs s H E r.down).run [] _ _ (takes_of rfl rfl rfl rfl) (passes_of rfl), ?_⟩
  obtain ⟨us, St, ι, B, R, rr, hl, h⟩ := h
  refine ⟨_, St, ι, B, R, rr.begin_ N, ?_⟩
  unfold fnD at h
  cases e : d (us.map some ++ List.replicate (N.length - us.length) none) St with
  | no => rw [e] at h; exact h
  | ex c e1 S1 =>
    rw [e] at h
    intro σ' H' ι' G R' E'
    obtain ⟨R2, G2⟩ := cut_go R R' G
    exact h H' ι G2 R2
  | ok fl S1 =>
    rw [e] at h
    cases fl with
    | bk e1 => exact h.elim
    | ct e1 => exact h.elim
    | nx e1 =>
      intro σ' H' ι' G R' E'
      simp only at h
      cases e2 : fin St.length (.v .non) S1 with
      | ok u2 S2 =>
        rw [e2] at h
        obtain ⟨ι2, R2, G2, r2⟩ := fin_ok R R' G (u := .v .non) (v := .non) .non e2
        exact h _ H' ι2 G2 R2 r2
      | ex c S2 => cases e2
      | no => rw [e2] at h; exact h.elim
    | rt u =>
      intro v H' ι' G R' ru
      simp only at h
      cases e2 : fin St.length u S1 with
      | ok u2 S2 =>
        rw [e2] at h
        obtain ⟨ι2, R2, G2, r2⟩ := fin_ok R R' G ru e2
        exact h _ H' ι2 G2 R2 r2
      | ex c S2 =>
        unfold fin at e2
        split at e2
        · cases e2
        · split at e2
          · cases e2
          · split at e2 <;> cases e2
      | no => rw [e2] at h; exact h.elim
end
/-! ### calls -/
theorem call_G {X : Cx} {pins : List (Addr × Obj)} {σ : L2.St} {H : Hp} {s : Shared} {Q : VK} {E : L2.St → XK} {us : List Value} {xs : List V} {k : Nat} {f : Addr} {fd : FuncData} {ps : List Str} {sp : Sp} (F : FnG X.prog X.w X.K X.mg X.base k f fd ps sp) (hr : RoomG k X.A) (hb : Binds X.K fd ps []) (hx : PassesAt (L2.CX X.prog X.w) X σ (E σ))
    (I : Inv X pins σ H s) (rv : Vals xs us) (h : sp xs H Q (E σ)) : wpAny (model X.prog X.w) X.A (PySem.call (.ref f) us) (EP X pins σ Q) X.xe s := by
  have hl : us.length = ps.length := rv.length.symm.trans (F.len _ _ _ _ h)
  have bi := hb s us I.kIn (by simpa using hl)
  simp only [List.append_nil] at bi
  apply wpAny_call
  apply codeAny_mono (F.go X.A X.stack s H ⟨us, []⟩ us xs Q (E σ) hr I.env0 bi rv h)
  intro r s' hq
  match r, hq with
  | .error e, hq => exact hx pins H s e s' I hq
  | .ok (.ret u), hq => exact I.after hq
  | .ok .next, hq => cases hq
  | .ok .brk, hq => cases hq
  | .ok .cont, hq => cases hq
def HasG (P : Program) (w : World) (K : PySem.W.Frag) (mg : Str → Option Value) (base : Heap) (ec : Nat → Value) (x : Str) (k n : Nat) (d : DF) : Prop :=
  ∃ (f : Addr) (fd : FuncData) (ps : List Str), FnG P w K mg base k f fd ps (spD ⟨K, w, ec⟩ d n) ∧ mg x = some (.ref f) ∧ PySem.W.keepIn K (.ref f) = true ∧ Binds K fd ps []
theorem HasG.mono {P : Program} {w : World} {K : PySem.W.Frag} {mg : Str → Option Value} {base : Heap} {ec : Nat → Value} {x : Str} {j k n : Nat} {d : DF} (h : HasG P w K mg base ec x j n d) (hk : j ≤ k) : HasG P w K mg base ec x k n d := by
  obtain ⟨f, fd, ps, h1, h2⟩ := h
  exact ⟨f, fd, ps, h1.mono hk, h2⟩
section
variable {ec : Nat → Value} {X : Cx} {e : Expr} {es : List Expr} {pos p : Pos} {das : DA} {df : DF} {n k : Nat} {x : Str}
theorem ev_fnG (h : HasG X.prog X.w X.K X.mg X.base ec x k n df) (hr : RoomG k X.A) (hg : Gl X x) (ha : PAv ec X (e :: es) das)
    (hdb : (x == ("__debug__" : Str)) = false := by decide) (he : starEach (e :: es) X.env = (false, eval e X.env) :: starEach es X.env := by rfl) (hpl : (backTo pos (starEach es X.env)).any (·.1) = false := by rfl) : PEv ec X (.Call (.Name x p) (e :: es) [] pos) (dFn df n das) := by
  obtain ⟨f, fd, ps, F, hm, hk, hb⟩ := h
  refine ⟨fun pn xe Wx tk => PE.imp (t := tCallS (spD (fx ec X) df n) (WE Wx) (LA (fx ec X) Wx das)) ⟨fun pins s σ H Q I h => ?_⟩ fun σ H Q h => fn_reads h⟩
  apply wpAny_Call_Name_kw
  apply ld_glob (X := X.tr pn xe) I hg hm _ hdb
  apply PySem.W.callWith_K (h₀ := X.base) I.ok.mod.kin hk _ he hpl
  apply thn ((ha.run pn xe Wx tk).run pos pins s σ H _ I h)
  rintro us s1 ⟨xs, H1, I1, r, q⟩
  exact ⟨I1.kIn, call_G (X := X.tr pn xe) F hr hb (passAt tk σ) I1 r q⟩
theorem ev_fnG0 (h : HasG X.prog X.w X.K X.mg X.base ec x k 0 df) (hr : RoomG k X.A) (hg : Gl X x) (hdb : (x == ("__debug__" : Str)) = false := by decide) : PEv ec X (.Call (.Name x p) [] [] pos) (dFn df 0 dNil) := by
  obtain ⟨f, fd, ps, F, hm, hk, hb⟩ := h
  refine ⟨fun pn xe Wx tk => PE.imp (t := tCallS (spD (fx ec X) df 0) (WE Wx) tNil) ⟨fun pins s σ H Q I h => ?_⟩ fun σ H Q h => ?_⟩
  · refine wpAny_Call_Name_kw (ld_glob (X := X.tr pn xe) I hg hm ?_ hdb)
    exact PySem.W.callWith_K0 I.kIn hk (call_G (X := X.tr pn xe) (us := []) F hr hb (passAt tk σ) I .nil h)
  · obtain ⟨env, S, ι, B, R, E, h⟩ := h
    refine ⟨[], S, ι, B, R, .nil, rfl, ?_⟩
    simp only [dFn, dNil, Re.bind_ok, List.length_nil, if_true] at h
    cases e1 : df [] S with
    | ok u S' => rw [e1] at h; exact h
    | ex c S' => rw [e1] at h; exact h
    | no => rw [e1] at h; exact h
end
/-! ### defs by name -/
section
variable {P : Program} {w : World} {K : PySem.W.Frag} {mg : Str → Option Value} {base : Heap} {ec : Nat → Value} {fa : List He.Fa} {fn : List He.DefD} {kc : List Con'}
theorem Hd.defG_ (Z : Hd K mg fa fn kc) (i j : Nat) {x qual : Str} {params : Arguments} {body : List Stmt} {scope : Scope} {N ps : List Str} {k n nl : Nat} {d : DS}
    (h : fn[i]? = some ⟨(x, none), x, qual, params, body, scope, [], []⟩) (hg : fa[j]? = some (.glo x)) (Sc : FnScope N ps scope) (hn : ps.length = n) (hnl : N.length = nl)
    (hbi : ∀ (kV doc pm : Value) (an : Option Addr) (cdv ct : Value) (us : List Value), us.length = ps.length → bindArgs (PySem.W.fnOf x qual params body scope .none kV doc pm an cdv ct) ⟨us, []⟩ = pure (ps.zip us))
    (hb : ∀ (f : Addr) (cdv : Value) (A : Around) (fs : List Env) (s : Shared) (H : Hp) (E : XK), RoomG k (A.deeper (envOfC qual scope s.heap.objs.size f cdv)) →
      PSsv ec (cxOf (L2.CX P w) P w K mg base N qual scope f cdv A fs s H E) body d) : HasG P w K mg base ec x (k + 1) n (fnD nl d) := by
  obtain ⟨fd, F⟩ := Z.says.def_ i h
  exact ⟨He.ga K x, fd, ps, defG (P := P) (w := w) (mg := mg) (base := base) F Sc hn hnl fun cdv A fs s H E hr => hb _ cdv A fs s H E hr, Z.gl x (Z.says.fact j hg), F.kp, F.bindsN hbi⟩
theorem Hd.zeroG (Z : Hd K mg fa fn kc) (i j : Nat) {x qual : Str} {params : Arguments} {body : List Stmt} {scope : Scope} {ps : List Str} {k n : Nat}
    (h : fn[i]? = some ⟨(x, none), x, qual, params, body, scope, [], []⟩) (hg : fa[j]? = some (.glo x)) (hn : ps.length = n)
    (hbi : ∀ (kV doc pm : Value) (an : Option Addr) (cdv ct : Value) (us : List Value), us.length = ps.length → bindArgs (PySem.W.fnOf x qual params body scope .none kV doc pm an cdv ct) ⟨us, []⟩ = pure (ps.zip us)) : HasG P w K mg base ec x k n fun _ _ => .no := by
  subst hn
  obtain ⟨fd, F⟩ := Z.says.def_ i h
  exact ⟨He.ga K x, fd, ps, ⟨spD_len, fun _ _ _ _ _ _ _ _ _ _ _ _ _ hs => by
    obtain ⟨_, _, _, _, _, _, _, z⟩ := hs
    exact z.elim⟩, Z.gl x (Z.says.fact j hg), F.kp, F.bindsN hbi⟩
theorem Hd.lawG_ (Z : Hd K mg fa fn kc) (i : Nat) {x y qual : Str} {params : Arguments} {body : List Stmt} {scope : Scope} {N : List Str} {k nl : Nat} {d : DS}
    (h : fn[i]? = some ⟨(x, none), x, qual, params, body, scope, [], []⟩) (Sc : FnScope N [y] scope) (hnl : N.length = nl)
    (hbi : ∀ (kV doc pm : Value) (an : Option Addr) (cdv ct : Value) (us : List Value), us.length = [y].length → bindArgs (PySem.W.fnOf x qual params body scope .none kV doc pm an cdv ct) ⟨us, []⟩ = pure ([y].zip us))
    (hb : ∀ (base : Heap) (f : Addr) (cdv : Value) (A : Around) (fs : List Env) (s : Shared) (H : Hp) (E : XK), RoomG k (A.deeper (envOfC qual scope s.heap.objs.size f cdv)) →
      PSsv ec (cxOf (L2.CX P w) P w K mg base N qual scope f cdv A fs s H E) body d) :
    ∃ fd, (∀ (s : Shared) (u : Value), BindsTo s fd ⟨[u], []⟩ [(y, u)]) ∧ ∀ base : Heap, FnG P w K mg base (k + 1) (He.ga K x) fd [y] (spD ⟨K, w, ec⟩ (fnD nl d) 1) := by
  obtain ⟨fd, F⟩ := Z.says.def_ i h
  exact ⟨fd, fun s u => F.bindsA hbi s [u] rfl, fun base => defG (P := P) (w := w) (mg := mg) (base := base) F Sc rfl hnl fun cdv A fs s H E hr => hb base _ cdv A fs s H E hr⟩
end
/-! ### a law's end -/
/-- the script alone is told: at b, as the list it is -/
def oneH (b : Addr) (o : Obj) (ns : List Int) : Hp := fun c => if c = b then some (.frz o (.lst (ns.map V.int))) else none
theorem oneH_at {b : Addr} {o : Obj} {ns : List Int} : oneH b o ns b = some (.frz o (.lst (ns.map V.int))) := if_pos rfl
theorem oneH_some {b c : Addr} {o : Obj} {ns : List Int} {u : HO} (h : oneH b o ns c = some u) : c = b ∧ u = .frz o (.lst (ns.map V.int)) := by
  unfold oneH at h
  by_cases e : c = b
  · rw [if_pos e] at h
    exact ⟨e, (Option.some.inj h).symm⟩
  · rw [if_neg e] at h
    cases h
/-- what the head's end asks: from the promise of the law's def at the caller -/
theorem lawG {P : Program} {w : World} {K : PySem.W.Frag} {mg mb : Str → Option Value} {k : Nat} {fa b : Addr} {fd : FuncData} {y : Str} {sp : Sp} {t : Shared} {its : List Value} {ns : List Int}
    (KX : K.In t.heap) (gm : t.heap.Ns mainGlobals mg) (gb : t.heap.Ns builtinsNs mb) (bb : ∀ x : Str, x ≠ "__name__" → mb x = bootBuiltins x) (nl : t.heap.NoLimit) (ng : t.gens = #[])
    (hb : t.heap.get? b = some { cls := .type "list", data := .seq its.toArray }) (hi : IntsAre its ns) (hl : ns.length ≤ sizeLine) (hr : RoomG k callerA) (hno : ∀ o, K.lookup b = some o → False)
    (F : ∀ base : Heap, FnG P w K mg base k fa fd [y] sp) (bi : ∀ (s : Shared) (u : Value), BindsTo s fd ⟨[u], []⟩ [(y, u)])
    (hsp : ∀ H : Hp, Only H → SqL K H b (ns.map V.int) → sp [.ref b] H (fun v _ => v = .bl true) fun _ _ _ => False) :
    codeAny (model P w) callerA (.call (.ref fa) ⟨[.ref b], []⟩) (fun r s' => r = .ok (.ret (.bool true)) ∧ OldK t.heap s'.heap ∧ s'.os = t.os ∧ AllBare s'.gens) t := by
  let ob : Obj := { cls := .type "list", data := .seq its.toArray }
  let H : Hp := oneH b ob ns
  have none_of : ∀ {c : Addr}, c ≠ b → H c = none := fun {c} hc => if_neg hc
  have low : ∀ {c : Addr} {o : Obj}, t.heap.get? c = some o → c ≠ b → (hidT t.heap H).get? c = some o := fun h hc => hidT_get h (none_of hc)
  have ne_dict : ∀ {c : Addr} {o : Obj} {es : Array DictEntry} {ep : Nat}, t.heap.get? c = some o → o.data = .dict es ep → c ≠ b := by
    rintro c o es ep h1 h2 rfl
    rw [hb] at h1
    obtain rfl := Option.some.inj h1
    cases h2
  have lowNs : ∀ {c : Addr} {m : Str → Option Value}, t.heap.Ns c m → (hidT t.heap H).Ns c m := by
    rintro c m ⟨o, es, ep, h1, h2, h3⟩
    exact ⟨o, es, ep, low h1 (ne_dict h1 h2), h2, h3⟩
  have lowK : K.In (hidT t.heap H) := fun c o h => low (KX c o h) fun z => hno o (z ▸ h)
  have tells : HOk P w H t.heap := by
    intro c u h
    obtain ⟨rfl, rfl⟩ := oneH_some h
    exact ⟨hb, by rw [List.length_map]; exact hl, its, _, vals_ints hi, hb⟩
  have only : Only H := fun c => by
    by_cases hc : c = b
    · exact .inr ⟨ob, _, by rw [hc]; exact oneH_at⟩
    · exact .inl (none_of hc)
  have md : Mod K mg (hidT t.heap H) := by
    obtain ⟨mc, c1, c2⟩ := nl
    exact ⟨lowK, lowNs gm, ⟨mb, lowNs gb, bb⟩, ⟨mc, lowNs c1, c2⟩⟩
  have env : Env0 P w K mg (hidT t.heap H) callerA [] t H :=
    { frames := rfl, mod := md, bs := fun c o h => of_hidT h, bsz := Nat.le_of_eq (hidT_size _ _), funs := trivial, frf := fun c h => absurd (show c ∈ ([] : List Addr) from h) List.not_mem_nil, hok := tells, bare := .of_eq ng }
  have call := (F (hidT t.heap H)).go callerA [] t H ⟨[.ref b], []⟩ [.ref b] [.ref b] (fun v _ => v = .bl true) (fun _ _ _ => False) hr env (bi t _) (.cons rfl .nil) (hsp H only (.inl (.inr ⟨ob, oneH_at⟩)))
  apply codeAny_mono call
  intro r s' h
  match r, h with
  | .error e, h => exact (cx_none h).elim
  | .ok .next, h => cases h
  | .ok .brk, h => cases h
  | .ok .cont, h => cases h
  | .ok (.ret u), h =>
    obtain ⟨v, H2, os, bare, un, hk2, rv, rfl⟩ := h
    obtain rfl : u = Value.bool true := rv
    refine ⟨rfl, OldK.of_keep fun c o ho => ?_, os, bare⟩
    by_cases hc : c = b
    · subst hc
      have z := un.frzs c ob _ oneH_at
      obtain ⟨e2, _⟩ := hk2 c _ z
      rw [hb] at ho
      rw [← Option.some.inj ho]
      exact e2
    · exact un.keep c o ho (none_of hc) (fun z => absurd (show c ∈ ([] : List Addr) from z) List.not_mem_nil) List.not_mem_nil
end Bel

/-! The engine, part X: repr, str, int of texts, dict displays, get, copies, +=. -/
namespace Bel
open PySem PySem.Spec PyProof.Rows L2
/-! ### nothing is promised -/
def dNoS : DS := fun _ _ => .no
def dNoE : DE := fun _ _ => .no
section
variable {ec : Nat → Value} {X : Cx} {e a b o : Expr} {st : Stmt} {pos p : Pos} {da db do_ : DE}
theorem sv_no : PSv ec X st dNoS := ⟨fun pn xe Wx tk po => ⟨fun pins s σ H D I ⟨_, _, _, _, _, _, q⟩ => q.elim⟩⟩
theorem ev_no : PEv ec X e dNoE := ⟨fun pn xe Wx tk => ⟨fun pins s σ H Q I ⟨_, _, _, _, _, _, q⟩ => q.elim⟩⟩
/-! ### x += e -/
def dAug (i : Nat) (f : W → W → Option Out) (d : DE) : DS := fun e S => match e[i]? with
  | some (some (.v x)) => (d e S).st e fun v S1 => match dr S1 v with
    | some y => (match f x y with
      | some (.val z) => .ok (.nx (e.set i (some (.v z)))) S1
      | _ => .no)
    | none => .no
  | _ => .no
theorem sv_aug {i : Nat} {x : Str} {op : Operator} {f : W → W → Option Out} {r : R2} {pos' : Pos} (hN : X.N.Nodup) (hi : X.N[i]? = some x) (hx : Loc X.env.scope x) (ho : ∀ pn xe, OpR (X.tr pn xe) (inplaceOp op) r) (hf : OpW (fx ec X) f r) (he : PEv ec X e da)
    (hfn : X.fn x = true ∨ X.env.scope.names.lookup x = some .local := by first | exact .inl rfl | exact .inr rfl) : PSv ec X (.AugAssign (.Name x pos') op e pos) (dAug i f da) :=
  ⟨fun pn xe Wx tk po => (ps_aug (X := X.tr pn xe) (te := LE (fx ec X) Wx da) (ti := r) hN hi hx (he.run pn xe Wx tk) (fun pins s σ H x y v u Q I rx ry h => ho pn xe pins s σ H x y v u Q I rx ry h) hfn).imp fun D σ H ⟨env, S, ι, B, R, E, h⟩ => by
    unfold dAug at h
    split at h
    · rename_i x e1
      obtain ⟨vx, h1, rx⟩ := E.get i _ e1
      refine ⟨vx, h1, LE.thenS R E h fun u S1 v H1 ι1 G1 R1 E1 ru h2 => ?_⟩
      have rx1 : RU (fx ec X) H1 ι1 S1 B (.v x) vx := RU.go G1 rx
      cases e2 : dr S1 u with
      | none => simp only [e2] at h2; exact h2.elim
      | some y =>
        simp only [e2] at h2
        split at h2
        · rename_i z e3
          exact hf H1 _ vx v x y (.val z) _ (RU.rt R1 rx1 rfl) (RU.rt R1 ru e2) e3 fun v2 r2 => h2 _ H1 ι1 .refl R1 (E1.set i (u := .v z) r2)
        · exact h2.elim
    · exact h.elim⟩
theorem ow_addI {F : Fx} : OpW F (fun x y => match x, y with
    | .int i, .int j => some (.val (.int (i + j)))
    | _, _ => none) (rI0 fun i j => .int (i + j)) := by
  intro H O x y w z o Q rx ry e q
  simp only at e
  split at e
  · obtain rfl := Rp.int_inv rx
    obtain rfl := Rp.int_inv ry
    cases some_inj e
    exact ⟨_, _, rfl, rfl, q _ (.int _)⟩
  · cases e
def fAddI (x y : W) : Option Out := match x, y with
    | .int i, .int j => some (.val (.int (i + j)))
    | _, _ => none
/-! ### repr of lists, tuples -/
theorem call_reprD (hu : X.A.units + 70 < cLine) (hg : X.A.guards = some []) : CallR X (.builtin "repr") (fun xs H Q => ∃ (a : Addr) (d : PyData), xs = [V.ref a] ∧ Dp X.K H (.ref a) d ∧ d.canLay0 = true ∧ d.depth ≤ 64 ∧ d.showable = true ∧ d.shown.length ≤ sizeLine ∧ Q (.str d.shown) H) := by
  intro pins s σ H xs us Q I r h
  obtain ⟨a, d, rfl, hd, hl, h64, hs, hz, q⟩ := h
  obtain ⟨u, rfl, rx⟩ := vals1 r
  cases rx
  obtain ⟨as, rd⟩ := Dp.reads I d _ _ hd rfl
  exact repr_of_reads' rd hs (PyData.noDict_hsm (PyData.hasDict_of_canLay d hl)) hg (by omega) (fun _ _ h => h) (fun h' u tk hk => ⟨.str _, H, I.kept hk, ⟨u, rfl⟩, q⟩) hz
/-- the text of data -/
def shownL (w : W) : List Nat := (toD w).shown.cps.toList
def isSq : W → Bool
  | .tup _ => true
  | .lst _ => true
  | _ => false
def fRepr : List W → Option Out
  | [w] => if isSq w = true ∧ shp 64 w = true ∧ (toD w).showable = true ∧ (shownL w).length ≤ 16777216 ∧ (shownL w).all okCp = true then some (.val (.str (shownL w))) else none
  | _ => none
theorem oc_repr {F : Fx} : OpC F fRepr (fun xs H Q => ∃ (a : Addr) (d : PyData), xs = [V.ref a] ∧ Dp F.K H (.ref a) d ∧ d.canLay0 = true ∧ d.depth ≤ 64 ∧ d.showable = true ∧ d.shown.length ≤ sizeLine ∧ Q (.str d.shown) H) := by
  refine oc1 (fun ws o e => ?_) fun H O x w o Q r e q => ?_
  · unfold fRepr at e
    split at e <;> first | exact ⟨_, rfl⟩ | cases e
  · simp only [fRepr] at e
    split at e
    · rename_i hc
      obtain ⟨h1, h2, h3, h4, h5⟩ := hc
      cases some_inj e
      obtain ⟨a, rfl⟩ : ∃ a, x = .ref a := by
        cases w with
        | tup l => obtain ⟨a, _, e, _⟩ := Rp.tup_inv r; exact ⟨a, e⟩
        | lst l => obtain ⟨a, _, e, _⟩ := r; exact ⟨a, e⟩
        | _ => cases h1
      obtain ⟨d1, d2⟩ := rt_dp 64 h2 r
      have hs : (toD w).shown = ⟨(shownL w).toArray⟩ := by unfold shownL; simp
      refine ⟨a, toD w, rfl, d1, d2, shp_depth 64 w h2, h3, ?_, ?_⟩
      · rw [hs, sizeLine_is]
        simpa [Str.length] using h4
      · rw [hs]
        exact q _ (.str _ (by rw [sizeLine_is]; exact h4) h5)
    · cases e
/-! ### str(number), str(text), int(text) -/
def digL (i : Int) : List Nat := (Str.ofString (toString i)).cps.toList
def fStr : List W → Option Out
  | [.int i] => if i.natAbs.log2 < 1920 ∧ (digL i).length ≤ 16777216 ∧ (digL i).all okCp = true then some (.val (.str (digL i))) else none
  | [.str x] => some (.val (.str x))
  | _ => none
theorem oc_str {F : Fx} : OpC F fStr (fun xs H Q => (∃ i : Int, xs = [V.int i] ∧ i.natAbs.log2 < 1920 ∧ Q (.str (toString i)) H) ∨ ∃ a, xs = [V.str a] ∧ Q (.str a) H) := by
  refine oc1 (fun ws o e => ?_) fun H O x w o Q r e q => ?_
  · unfold fStr at e
    split at e <;> first | exact ⟨_, rfl⟩ | cases e
  · cases w with
    | int i =>
      simp only [fStr] at e
      split at e
      · rename_i hc
        cases some_inj e
        obtain rfl := Rp.int_inv r
        refine .inl ⟨i, rfl, hc.1, ?_⟩
        have hs : (Str.ofString (toString i)) = ⟨(digL i).toArray⟩ := by unfold digL; simp
        show Q (.str (Str.ofString (toString i))) H
        rw [hs]
        exact q _ (.str _ (by rw [sizeLine_is]; exact hc.2.1) hc.2.2)
      · cases e
    | str y =>
      cases some_inj e
      obtain ⟨rfl, _⟩ := Rp.str_inv r
      exact .inr ⟨_, rfl, q _ r⟩
    | _ => cases e
def fIntW : List W → Option Out
  | [.int i] => some (.val (.int i))
  | [.bl b] => some (.val (.int (b2n b)))
  | [.str x] => match PySem.intText? (mkS x) with
    | some n => if x.length ≤ 640 then some (.val (.int n)) else none
    | none => none
  | _ => none
theorem oc_intW {F : Fx} : OpC F fIntW (fun xs H Q => ((∃ i, xs = [.int i] ∧ Q (.int i) H) ∨ ∃ k, xs = [.bl k] ∧ Q (.int (if k then 1 else 0)) H) ∨ ∃ a n, xs = [V.str a] ∧ PySem.intText? a = some n ∧ a.length ≤ 640 ∧ Q (.int n) H) := by
  refine oc1 (fun ws o e => ?_) fun H O x w o Q r e q => ?_
  · unfold fIntW at e
    split at e <;> first | exact ⟨_, rfl⟩ | cases e
  · cases w with
    | int i =>
      cases some_inj e
      obtain rfl := Rp.int_inv r
      exact .inl (.inl ⟨i, rfl, q _ (.int _)⟩)
    | bl i =>
      cases some_inj e
      obtain rfl := Rp.bl_inv r
      exact .inl (.inr ⟨i, rfl, q _ (.int _)⟩)
    | str y =>
      simp only [fIntW] at e
      obtain ⟨rfl, _⟩ := Rp.str_inv r
      split at e
      · rename_i n hn
        split at e
        · rename_i hl
          cases some_inj e
          exact .inr ⟨_, n, rfl, hn, by simpa [Str.length] using hl, q _ (.int _)⟩
        · cases e
      · cases e
    | _ => cases e
/-! ### dict(d) -/
def fDict : List W → Option Out
  | [.dct l] => some (.nd l)
  | _ => none
theorem oc_dict {F : Fx} : OpC F fDict (fun xs H Q => ∃ (a : Addr) (kvs : List (Key × V)), xs = [.ref a] ∧ Rd H a (.dK kvs) ∧ ∀ p, H p = none → Q (.ref p) (upd H p (.dK kvs))) := by
  refine oc1 (fun ws o e => ?_) fun H O x w o Q r e q => ?_
  · unfold fDict at e
    split at e <;> first | exact ⟨_, rfl⟩ | cases e
  · cases w with
    | dct l =>
      cases some_inj e
      obtain ⟨a, kvs, rfl, h1, q1⟩ := r
      exact ⟨a, kvs, rfl, h1, fun p hp => q p kvs hp q1⟩
    | _ => cases e
/-! ### startswith, endswith, find, split -/
def fStarts : W → List W → Option Out
  | .str x, [.str y] => some (.val (.bl (Txt.startswith (mkS x) (mkS y))))
  | _, _ => none
theorem om_starts {F : Fx} : OpM F fStarts (fun x xs H Q => ∃ a b, x = .str a ∧ xs = [.str b] ∧ Q (.bl (Txt.startswith a b)) H) := by
  intro H O x xs w ws o Q rx rs e q
  unfold fStarts at e
  split at e
  · cases some_inj e
    obtain ⟨rfl, _⟩ := Rp.str_inv rx
    cases rs with
    | cons r1 r2 =>
      cases r2
      obtain ⟨rfl, _⟩ := Rp.str_inv r1
      exact ⟨_, _, rfl, rfl, q _ (.bl _)⟩
  · cases e
def fEnds : W → List W → Option Out
  | .str x, [.str y] => some (.val (.bl (Txt.endswith (mkS x) (mkS y))))
  | _, _ => none
theorem om_ends {F : Fx} : OpM F fEnds (fun x xs H Q => ∃ a b, x = .str a ∧ xs = [.str b] ∧ Q (.bl (Txt.endswith a b)) H) := by
  intro H O x xs w ws o Q rx rs e q
  unfold fEnds at e
  split at e
  · cases some_inj e
    obtain ⟨rfl, _⟩ := Rp.str_inv rx
    cases rs with
    | cons r1 r2 =>
      cases r2
      obtain ⟨rfl, _⟩ := Rp.str_inv r1
      exact ⟨_, _, rfl, rfl, q _ (.bl _)⟩
  · cases e
/-! ### d.get(k), d.get(k, x) -/
def fGet : W → W → W → Option Out
  | .dct l, k, w => if isKey k = true then some (.val ((lookD k l).getD w)) else none
  | _, _, _ => none
def dGet2 (d k x : DE) : DE := fun e S => (d e S).bind fun u S1 => match dr S1 u with
  | some (.dct _) => (k e S1).bind fun y S2 => (x e S2).bind fun z S3 => match dr S3 u, y, z with
    | some (.dct l), .v y, .v z => putO false (fGet (.dct l) y z) S3
    | _, _, _ => .no
  | _ => .no
def dGet1 (d k : DE) : DE := fun e S => (d e S).bind fun u S1 => match dr S1 u with
  | some (.dct _) => (k e S1).bind fun y S2 => match dr S2 u, y with
    | some (.dct l), .v y => putO false (fGet (.dct l) y .non) S2
    | _, _ => .no
  | _ => .no
theorem get_core {F : Fx} {H : Hp} {O : Addr → Prop} {l : List (W × W)} {v vy vz : V} {y z : W} {o : Out} {Q : VK} (r : RT F H O (.dct l) v) (ry : Rp F H O y vy) (rz : Rp F H O z vz) (e : fGet (.dct l) y z = some o) (q : PuQ F H O o Q) :
    ∃ a, v = .ref a ∧ ∃ ov, DGet H a vy ov ∧ Q (ov.getD vz) H := by
  simp only [fGet] at e
  split at e
  · rename_i hk
    cases some_inj e
    obtain ⟨a, kvs, rfl, h1, q1⟩ := r
    obtain ⟨κ, hκ, rfl⟩ := isKey_k hk ry
    refine ⟨a, rfl, valV kvs κ, dget_rd h1, ?_⟩
    rcases look_rp q1 hκ with ⟨e1, e2⟩ | ⟨w', v', e1, e2, rr⟩
    · rw [e1] at q; rw [e2]; exact q _ rz
    · rw [e1] at q; rw [e2]; exact q _ rr
  · cases e
theorem rt_isD {F : Fx} {H : Hp} {O : Addr → Prop} {l : List (W × W)} {v : V} (r : RT F H O (.dct l) v) : ∃ a, v = .ref a ∧ IsD H a := by
  obtain ⟨a, kvs, rfl, h1, _⟩ := r
  exact ⟨a, rfl, .inl ⟨kvs, h1⟩⟩
theorem ev_get2 {k x : Expr} {dk dx : DE} {apos cpos : Pos} (hu : X.A.units + 65 < cLine) (ho : PEv ec X o do_) (hk : PEv ec X k dk) (hx : PEv ec X x dx) (m : ∀ pn xe, M2 (X.tr pn xe) o "get" apos k x cpos) : PEv ec X (.Call (.Attribute o "get" apos) [k, x] [] cpos) (dGet2 do_ dk dx) :=
  ⟨fun pn xe Wx tk => (pe_dget2 (X := X.tr pn xe) (by show X.A.units + 1 < cLine; omega) (ho.run pn xe Wx tk) (hk.run pn xe Wx tk) (hx.run pn xe Wx tk) (m pn xe)).imp fun σ H Q ⟨env, S, ι, B, R, E, h⟩ => by
    refine LE.then_ R E h fun u S1 v H1 ι1 G1 R1 E1 ru h1 => ?_
    split at h1
    · rename_i l0 e1
      obtain ⟨a, rfl, hd⟩ := rt_isD (RU.rt R1 ru e1)
      refine ⟨a, rfl, hd, LE.then_ R1 E1 h1 fun u2 S2 v2 H2 ι2 G2 R2 E2 ru2 h2 => LE.then_ R2 E2 h2 fun u3 S3 v3 H3 ι3 G3 R3 E3 ru3 h3 => ?_⟩
      split at h3
      · rename_i l y z e3
        obtain ⟨o', he, q⟩ := putO_ok R3 h3
        obtain ⟨a', ea, ov, g1, g2⟩ := get_core (RU.rt R3 (RU.go G3 (RU.go G2 ru)) e3) (RU.go G3 ru2) ru3 he q
        cases ea
        exact ⟨ov, g1, g2⟩
      · exact h3.elim
    · exact h1.elim⟩
theorem ev_get1 {k : Expr} {dk : DE} {apos cpos : Pos} (hu : X.A.units + 65 < cLine) (ho : PEv ec X o do_) (hk : PEv ec X k dk) (m : ∀ pn xe, M1 (X.tr pn xe) o "get" apos k cpos) : PEv ec X (.Call (.Attribute o "get" apos) [k] [] cpos) (dGet1 do_ dk) :=
  ⟨fun pn xe Wx tk => (pe_dget1 (X := X.tr pn xe) (by show X.A.units + 1 < cLine; omega) (ho.run pn xe Wx tk) (hk.run pn xe Wx tk) (m pn xe)).imp fun σ H Q ⟨env, S, ι, B, R, E, h⟩ => by
    refine LE.then_ R E h fun u S1 v H1 ι1 G1 R1 E1 ru h1 => ?_
    split at h1
    · rename_i l0 e1
      obtain ⟨a, rfl, hd⟩ := rt_isD (RU.rt R1 ru e1)
      refine ⟨a, rfl, hd, LE.then_ R1 E1 h1 fun u2 S2 v2 H2 ι2 G2 R2 E2 ru2 h2 => ?_⟩
      split at h2
      · rename_i l y e3
        obtain ⟨o', he, q⟩ := putO_ok R2 h2
        obtain ⟨a', ea, ov, g1, g2⟩ := get_core (RU.rt R2 (RU.go G2 ru) e3) ru2 .non he q
        cases ea
        exact ⟨ov, g1, g2⟩
      · exact h2.elim
    · exact h1.elim⟩
/-! ### {k: v, ..} -/
def dPrs : List (DE × DE) → Env' → Store → Re (List (W × W))
  | [], _, S => .ok [] S
  | (k, v) :: r, e, S => (k e S).bindX fun u S1 => (v e S1).bindX fun z S2 => match u, z with
    | .v a, .v b => if isKey a = true then (dPrs r e S2).bindX fun l S3 => .ok ((a, b) :: l) S3 else .no
    | _, _ => .no
def mrgW (acc l : List (W × W)) : List (W × W) := l.foldl (fun acc p => putW p.1 p.2 acc) acc
def dDct (own : Bool) (ps : List (DE × DE)) : DE := fun e S => (dPrs ps e S).bindX fun l S1 => (Out.nd (mrgW [] l)).put own S1
end
theorem mrg_rp {F : Fx} {H : Hp} {O : Addr → Prop} : ∀ {l : List (W × W)} {more : List (Key × V)} {acc : List (W × W)} {kvs : List (Key × V)}, RpD F H O l more → RpD F H O acc kvs → RpD F H O (mrgW acc l) (mergeK kvs more) := by
  intro l
  induction l with
  | nil => intro more acc kvs r q; rw [r.nil_iff]; exact q
  | cons p l ih =>
    intro more acc kvs r q
    obtain ⟨κ, v, more', rfl, h1, h2, r'⟩ := r.cons_iff
    have z := ih (more := more') r' (put_rp q h1 h2)
    exact z
/-- a hidden dict comes out, as a plain value, or owned -/
theorem RS.showD {F : Fx} {H : Hp} {ι : List Addr} {S : Store} {B : Addr → Prop} {D : Addr} (R : RS F ι S (hidB B D) H) (nB : ¬ B D) {own : Bool} {l : List (W × W)} {kvs : List (Key × V)} (hD : H D = some (.dK kvs)) (r : RpD F H (Oq ι S (hidB B D)) l kvs) {u : U} {S' : Store} (h : (Out.nd l).put own S = .ok u S') :
    ∃ ι', RS F ι' S' B H ∧ (∀ a, Ow ι' S' a → Ow ι S a ∨ a = D) ∧ (∃ t, ι' = ι ++ t) ∧ RU F H ι' S' B u (.ref D) := by
  have nD : D ∉ ι := (R.hid D (.inr rfl)).2
  have nO : ¬ Oq ι S B D := fun z => by
    rcases z with ⟨n, o, h1, h2, h3⟩ | z
    · exact nD (List.mem_of_getElem? h3)
    · exact nB z
  have lessD : ∀ {O' O : Addr → Prop} {l : List (W × W)} {kvs : List (Key × V)}, (∀ b, O' b → O b) → RpD F H O l kvs → RpD F H O' l kvs := fun sub r => ⟨r.1, fun i w v h1 h2 => (r.2.1 i w v h1 h2).less sub, fun i w v h1 h2 => (r.2.2 i w v h1 h2).less sub⟩
  have R0 : RS F ι S B H := ⟨R.len, R.nd, fun n o a h1 h2 => (R.ob n o a h1 h2).less fun b => oq_less, fun a hb => R.hid a (.inl hb)⟩
  cases own with
  | false =>
    cases h
    exact ⟨ι, R0, fun _ z => .inl z, ⟨[], by simp⟩, .mkDct ⟨.inl hD, nO⟩ (lessD (fun b => oq_less) r)⟩
  | true =>
    cases h
    have hd : Ob.dct l ≠ Ob.dead := by simp
    have sub : ∀ b, Oq (ι ++ [D]) (S ++ [.dct l]) B b → Oq ι S (hidB B D) b := fun b z => by
      rcases z with z | z
      · rcases (ow_push R.len hd).mp z with z | z
        · exact .inl z
        · exact .inr (.inr z)
      · exact .inr (.inl z)
    refine ⟨ι ++ [D], ⟨by simp [R.len], ?_, fun n q a h1 h2 => ?_, fun a hb => ?_⟩, fun a z => (ow_push R.len hd).mp z, ⟨[D], rfl⟩, D, by rw [← R.len]; simp, rfl⟩
    · rw [List.nodup_append]
      refine ⟨R.nd, by simp, fun x hx y hy e => ?_⟩
      simp at hy
      subst hy
      subst e
      exact nD hx
    · by_cases hn : n < S.length
      · rw [List.getElem?_append_left hn] at h1
        rw [List.getElem?_append_left (by rw [R.len]; exact hn)] at h2
        exact (R.ob n q a h1 h2).less sub
      · rw [List.getElem?_append_right (by omega)] at h1
        rw [List.getElem?_append_right (by rw [R.len]; omega)] at h2
        obtain ⟨h4, h5⟩ := List.getElem?_eq_some_iff.mp h1
        obtain ⟨h6, h7⟩ := List.getElem?_eq_some_iff.mp h2
        simp at h5 h7
        subst h5
        subst h7
        exact ⟨kvs, hD, lessD sub r⟩
    · refine ⟨(R.hid a (.inl hb)).1, fun z => ?_⟩
      rcases List.mem_append.mp z with z | z
      · exact (R.hid a (.inl hb)).2 z
      · simp at z; subst z; exact nB hb
/-- the pairs, told one by one -/
inductive PPv (ec : Nat → Value) (X : Cx) (pos : Pos) : List (Option Expr) → List Expr → List (DE × DE) → Prop where
  | nil : PPv ec X pos [] [] []
  | cons {k v : Expr} {ks : List (Option Expr)} {vs : List Expr} {dk dv : DE} {r : List (DE × DE)} (hk : PEv ec X k dk) (hv : PEv ec X v dv) (hr : PPv ec X pos ks vs r) : PPv ec X pos (some k :: ks) (v :: vs) ((dk, dv) :: r)
def trsOf (F : Fx) (Wx : WX) (ps : List (DE × DE)) : List (TE × TE) := ps.map fun p => (LE F Wx p.1, LE F Wx p.2)
theorem PPv.run {ec : Nat → Value} {X : Cx} {pos : Pos} {ks : List (Option Expr)} {vs : List Expr} {ps : List (DE × DE)} (h : PPv ec X pos ks vs ps) {pn : List (Addr × Obj)} {xe : Value → Shared → Prop} {Wx : WX} (tk : Takes (X.tr pn xe) Wx) : PPs (X.tr pn xe) pos ks vs (trsOf (fx ec X) Wx ps) := by
  induction h with
  | nil => exact pps_nil
  | cons hk hv hr ih => exact pps_cons (hk.run pn xe Wx tk) (hv.run pn xe Wx tk) ih
theorem prs_reads {F : Fx} {Wx : WX} {σ : L2.St} {env : Env'} {B : Addr → Prop} : ∀ {ps : List (DE × DE)} {H : Hp} {ι : List Addr} {S : Store} {Q : List (V × V) → Hp → Prop}, RS F ι S B H → ER F H ι S B env σ →
    (match dPrs ps env S with
      | .ok l S' => ∀ (kvs : List (Key × V)) (H' : Hp) (ι' : List Addr), Go ι S H ι' S' H' → RS F ι' S' B H' → ER F H' ι' S' B env σ → RpD F H' (Oq ι' S' B) l kvs → l.length = ps.length → Q (kvs.map fun kv => (kV kv.1, kv.2)) H'
      | _ => False) → tPairs (trsOf F Wx ps) σ H Q
  | [], H, ι, S, Q, R, E, h => h [] H ι .refl R E .nil rfl
  | (dk, dv) :: r, H, ι, S, Q, R, E, h => by
    refine ⟨env, S, ι, B, R, E, ?_⟩
    unfold dPrs at h
    cases e1 : dk env S with
    | no => rw [e1] at h; exact h.elim
    | ex c S1 => rw [e1] at h; exact h.elim
    | ok u S1 =>
      rw [e1] at h
      simp only [Re.bindX_ok] at h
      show PoE F Wx σ ι S B H (dk env S) _
      rw [e1]
      intro x H1 ι1 G1 R1 ru
      refine ⟨env, S1, ι1, B, R1, E.go G1, ?_⟩
      cases e2 : dv env S1 with
      | no => rw [e2] at h; exact h.elim
      | ex c S2 => rw [e2] at h; exact h.elim
      | ok z S2 =>
        rw [e2] at h
        simp only [Re.bindX_ok] at h
        show PoE F Wx σ ι1 S1 B H1 (dv env S1) _
        rw [e2]
        intro y H2 ι2 G2 R2 rz
        have G12 := G1.trans G2
        cases u with
        | o n => exact h.elim
        | v a =>
          cases z with
          | o n => exact h.elim
          | v b =>
            simp only at h
            by_cases hk : isKey a = true
            · rw [if_pos hk] at h
              refine prs_reads (ps := r) R2 (E.go G12) ?_
              cases e3 : dPrs r env S2 with
              | no => rw [e3] at h; exact h
              | ex c S3 => rw [e3] at h; exact h
              | ok l S3 =>
                rw [e3] at h
                simp only [Re.bindX_ok] at h
                intro kvs H3 ι3 G3 R3 E3 rl hl
                have ra : RU F H3 ι3 S3 B (.v a) x := RU.go G3 (RU.go G2 ru)
                obtain ⟨κ, hκ, rfl⟩ := isKey_k hk ra
                exact h ((κ, y) :: kvs) H3 ι3 (G12.trans G3) R3 E3 (.cons ra (RU.go G3 rz) rl) (by simp [hl])
            · rw [if_neg hk] at h; exact h.elim
theorem ev_dct {ec : Nat → Value} {X : Cx} {pos : Pos} {ks : List (Option Expr)} {vs : List Expr} {ps : List (DE × DE)} {own : Bool} (h : PPv ec X pos ks vs ps) (hall : ks.all (·.isSome) = true) (hl : ks.length = vs.length) (h0 : ks ≠ []) (h15 : ks.length ≤ 15) (hp : ps.length ≤ 15) : PEv ec X (.Dict ks vs pos) (dDct own ps) :=
  ⟨fun pn xe Wx tk => (pe_disp (X := X.tr pn xe) (h.run tk) hall hl h0 h15).imp fun σ H Q ⟨env, S, ι, B, R, E, h⟩ => by
    intro p hp0
    have nB : ¬ B p := fun z => by
      obtain ⟨⟨y, e⟩, _⟩ := R.hid p z
      rw [hp0] at e; cases e
    obtain ⟨R2, E2, P2⟩ := R.hide hp0 (.dK [])
    have Ep : ER (fx ec X) (upd H p (.dK [])) ι S (hidB B p) env σ := ⟨E.len, fun i u hu => by
      obtain ⟨v, h1, r⟩ := E.get i u hu
      refine ⟨v, h1, ?_⟩
      cases u with
      | v w => exact Rp.ext E2 P2 r
      | o n => exact r⟩
    unfold dDct at h
    refine prs_reads R2 Ep ?_
    cases e1 : dPrs ps env S with
    | no => rw [e1] at h; exact h.elim
    | ex c S1 => rw [e1] at h; exact h.elim
    | ok l S1 =>
      rw [e1] at h
      simp only [Re.bindX_ok] at h
      intro kvs H' ι' G' R' E' rl hlen
      have nO : ¬ Ow ι S p := fun ⟨n, o, _, _, h3⟩ => (R2.hid p (.inr rfl)).2 (List.mem_of_getElem? h3)
      have Dp' : H' p = some (.dK []) := G'.ext p _ upd_same nO
      refine ⟨Dp', kvs, rfl, by rw [← rl.1, hlen]; exact hp, ?_⟩
      obtain ⟨R4, x4⟩ := R'.hidW (.dK (mergeK [] kvs))
      have P4 : Own (Oq ι' S1 (hidB B p)) (Oq ι' S1 (hidB B p)) H' := fun _ z => .inl z
      have rl4 : RpD (fx ec X) (upd H' p (.dK (mergeK [] kvs))) (Oq ι' S1 (hidB B p)) (mrgW [] l) (mergeK [] kvs) := mrg_rp (rl.ext x4 P4) .nil
      cases e2 : (Out.nd (mrgW [] l)).put own S1 with
      | no => rw [e2] at h; exact h.elim
      | ex c S2 => cases own <;> cases e2
      | ok u S2 =>
        rw [e2] at h
        obtain ⟨ι2, R5, ow, pre, ru⟩ := R4.showD nB upd_same rl4 e2
        refine h (.ref p) _ ι2 ⟨fun a ho ha n => ?_, fun a z => ?_, ?_⟩ R5 ru
        · have hap : a ≠ p := fun z => by rw [z, hp0] at ha; cases ha
          rw [upd_ne hap]
          exact G'.ext a ho (by rw [upd_ne hap]; exact ha) n
        · rcases ow a z with z | rfl
          · rcases G'.own a z with q | q
            · exact .inl q
            · by_cases hap : a = p
              · rw [hap]; exact .inr hp0
              · rw [upd_ne hap] at q; exact .inr q
          · exact .inr hp0
        · obtain ⟨t, rfl⟩ := G'.pre
          obtain ⟨t2, rfl⟩ := pre
          exact ⟨t ++ t2, by simp⟩⟩
end Bel

/-! The engine, part Z: errors: raised, caught, kept, looked at. -/
namespace Bel
open PySem PySem.Spec PyProof.Rows L2
/-- an object that nobody tells yet, new since the entry, is told from now on -/
theorem tracked {X : Cx} {ps : List (Addr × Obj)} {σ : L2.St} {H : Hp} {t : Shared} {a : Addr} {o : HO} (J : Inv X ps σ H t) (hn : H a = none) (h0 : X.s_0.heap.get? a = none) (hok : ObjOk X.prog X.w (upd H a o) t.heap a o) (nL : a ≠ X.env.locals) (nC : ∀ x c, X.env.cells.lookup x = some c → c ≠ a) (nP : ∀ p ∈ X.pn ++ ps, p.1 ≠ a) : Inv X ps σ (upd H a o) t where
  ok := J.ok
  os := J.os
  bare := J.bare
  base := ⟨J.base.keep, J.base.slot, fun b u hb h1 h2 => by
      have : b ≠ a := fun z => by rw [z, h0] at hb; cases hb
      rw [upd_ne this]; exact J.base.free b u hb h1 h2, J.base.there,
    fun b xs h => by
      have z := J.base.tups b xs h
      rw [upd_ne (ne_of_none z hn)]; exact z,
    fun b u xs h => by
      have z := J.base.frzs b u xs h
      rw [upd_ne (ne_of_none z hn)]; exact z,
    fun b q h => by
      obtain ⟨m, z⟩ := J.base.tbls b q h
      exact ⟨m, by rw [upd_ne (ne_of_none z hn)]; exact z⟩⟩
  loc := J.loc
  cell := J.cell
  free := by rw [upd_ne (Ne.symm nL)]; exact J.free
  freeC := fun x c h => by rw [upd_ne (nC x c h)]; exact J.freeC x c h
  pin := fun p hp => by
    obtain ⟨q1, q2, q3⟩ := J.pin p hp
    exact ⟨q1, by rw [upd_ne (nP p hp)]; exact q2, q3⟩
  hok := fun b u h => by
    by_cases hb : b = a
    · subst hb
      rw [upd_same] at h
      cases h
      exact hok
    · rw [upd_ne hb] at h
      exact (J.hok b u h).stay (fun _ _ _ q => q) (fun c q => by rw [upd_ne (ne_of_none q hn)]; exact q) fun c xs q => by rw [upd_ne (ne_of_none q hn)]; exact q
  len := J.len
/-- what `except C as n: m = n' asks of an error of the body: slot j is m's, slot i n's -/
def wKeep (K : PySem.W.Frag) (c : Value) (i j : Nat) (Wo : WX) (D : Ends) : WX := fun cls d σ H =>
  ∃ b, PySem.W.exmOne K cls c = some b ∧ (b = true → d = none ∧ ∀ a, H a = none → D.nx ((σ.set j (some (.ref a))).set i none) (upd H a (ExV cls a))) ∧ (b = false → Wo cls d σ H)
section
variable {X : Cx} {x n m : Str} {c : Value} {i j : Nat} {body : List Stmt} {np pm pn' pa pos pos' : Pos} {tb : WX → TS} {Wo : WX}
theorem ps_try_keep (hst : X.stack = X.env :: X.outer) (hfr : X.env.frame = some X.env.locals) (nd : X.N.Nodup) (hi : X.N[i]? = some n) (li : X.env.kindOf n = some .local) (hj : X.N[j]? = some m) (lj : X.env.kindOf m = some .local) (hij : i ≠ j) (hc : Names X x c) (tk : Takes X Wo)
    (hb : ∀ (W : WX) (pn : List (Addr × Obj)) (xe : Value → Shared → Prop), Takes (X.tr pn xe) W → PassesOwn (model X.prog X.w) X.A X.env xe → PSs (X.tr pn xe) body (tb W)) (hex : X.ex = []) (hdb : (n == ("__debug__" : Str)) = false) (hcd : (n == ("__classdict__" : Str)) = false) :
    PS X (.Try body [.ExceptHandler (some (.Name x np)) (some n) [.Assign [.Name m pm] (.Name n pn') pa] pos'] [] [] pos) (fun D σ H => tb (wKeep X.K c i j Wo D) D σ H) := by
  refine ⟨fun pins s σ H D I h => ?_⟩
  have ok := I.ok
  have frs_ : X.A.frames = some (X.env :: X.outer) := by rw [← hst]; exact ok.frames
  let hd : ExceptHandler := .ExceptHandler (some (.Name x np)) (some n) [.Assign [.Name m pm] (.Name n pn') pa] pos'
  let fly : Value → Shared → Prop := fun e t1 => wpAny (model X.prog X.w) X.A (noteFrame e X.env) (fun _ t2 => wpAny (model X.prog X.w) X.A (setFlight e none) (fun _ t3 => wpAny (model X.prog X.w) X.A (handleBy e X.env [hd]) (SP X pins D) X.xe t3) X.xe t2) X.xe t1
  refine wpAny_Try_except ?_
  have takes : Takes (X.tr (X.pn ++ pins) fly) (wKeep X.K c i j Wo D) := by
    rintro u t ⟨a, B, sI, ps, σ1, H1, cls, d, rfl, J0, nb, up, sky, na, os, ag, b, hb1, yes, no⟩
    have J : Inv X pins σ1 H1 sI := J0.ofTry ok
    have sky1 : Sky B (X.env :: X.outer) a (Zc cls d) X.env.locals t.heap := by rw [← hst]; exact sky
    show wpAny (model X.prog X.w) X.A (noteFrame (.ref a) X.env) _ _ t
    refine Sky.land Zc.steady frs_ hfr sky1 fun h3 f3 u3 => ?_
    have J3 : Inv X pins σ1 H1 { t with heap := h3 } := J.landed nb f3.1 (up.trans u3) os ag
    obtain ⟨oe, vs, g3, z3, d3⟩ := f3.there
    have off : ∀ {q : Heap} {o : Obj} {fs : Array Value}, q.FunFrames B (X.env :: X.outer) → q.get? a = some o → o.data = .fields fs → a ∉ frs (X.env :: X.outer) := by
      intro q o fs ff e1 e2 hm
      obtain ⟨_, o2, e3, k⟩ := ff.mem hm
      rw [e1] at e3
      cases e3
      exact k _ e2
    have offS := off f3.2.2.1 g3 d3
    have nL : a ≠ X.env.locals := fun z => offS (List.mem_filterMap.mpr ⟨X.env, List.mem_cons_self, by rw [hfr, z]⟩)
    have nF : a ∉ X.fs := fun hm => by
      obtain ⟨e, he, q⟩ := List.mem_filterMap.mp hm
      exact offS (List.mem_filterMap.mpr ⟨e, List.mem_cons_of_mem _ he, q⟩)
    have offT : a ∉ frs X.stack := by rw [hst]; exact offS
    have ground : B.get? a = none := f3.2.1
    -- the error is newer than the entry
    have newer : X.s_0.heap.get? a = none := by
      cases e0 : X.s_0.heap.get? a with
      | none => rfl
      | some o0 =>
        exfalso
        obtain ⟨o1, e1⟩ := J.base.there a o0 e0 (by rw [hex]; exact List.not_mem_nil)
        have z := nb a o1 e1 offT
        rw [ground] at z
        cases z
    have offP : ∀ p ∈ X.pn ++ pins, p.1 ≠ a := by
      rintro p hp rfl
      obtain ⟨e1, _⟩ := J.pin p hp
      have z := nb _ _ e1 offT
      rw [ground] at z
      cases z
    -- told, once its suite is through
    have tell : ∀ {t7 : Shared} {σ7 : L2.St} {oe7 : Obj} {fs7 : Array Value}, Inv X pins σ7 H1 t7 → t7.heap.get? a = some oe7 → Zc cls none oe7 → oe7.data = .fields fs7 → Inv X pins σ7 (upd H1 a (ExV cls a)) t7 := by
      intro t7 σ7 oe7 fs7 J7 e7 z7 d7
      refine tracked J7 na newer ⟨⟨oe7, fs7, e7, z7, d7⟩, ⟨oe7, e7⟩, ?_⟩ nL (fun y k hk z => ?_) offP
      · rintro q1 q2 ⟨o, v, e, r⟩ k
        exact ⟨o, v, k o e, r⟩
      · subst z
        obtain ⟨v, o, e1, e2⟩ := J7.cell y k hk
        rw [e7] at e1
        cases e1
        rw [d7] at e2
        cases e2
    have S3 := J3.suite g3 d3 na nL nF
    refine wpAny_handleBy_cons (codeAny_handlers_test ?_) (fun q => nomatch q)
    have lt : PySem.W.Looks (model X.prog X.w) h3 (typeOf (.ref a)) cls := fun A' Q' E' s' k q => wpAny_typeOf_ref (k _ _ g3) (by rw [z3.1]; exact q)
    have lm := PySem.W.exm_one (M := model X.prog X.w) J3.kIn lt hb1
    have class_ : ∀ {Q E : Value → Shared → Prop}, Q c { t with heap := h3 } → wpAny (model X.prog X.w) (X.A.mark (some (.ref a))) (eval (.Name x np) X.env) Q E { t with heap := h3 } := by
      intro Q E q
      obtain ⟨hg, hdbg, hm | ⟨hm, hv, hnn⟩⟩ := hc
      · exact ld_glob (X := X.suite a ((a, oe) :: (X.pn ++ pins))) S3 hg hm q hdbg
      · exact ld_blt (X := X.suite a ((a, oe) :: (X.pn ++ pins))) S3 hg hm hv q hnn hdbg
    refine class_ (lm.here ?_)
    match b, yes, no with
    | true, yes, _ =>
      obtain ⟨rfl, yes2⟩ := yes rfl
      refine codeAny_handlers_suite_as ?_
      refine HandSPX.lands_againZ f3 fun h4 f4 u4 => ?_
      have J4 : Inv X pins σ1 H1 { t with heap := h4 } := J.landed nb f4.1 ((up.trans u3).trans u4) os ag
      obtain ⟨oe4, vs4, g4, z4, d4⟩ := f4.there
      have S4 := J4.suite g4 d4 na nL nF
      let XS := X.suite a ((a, oe4) :: (X.pn ++ pins))
      refine store_ok (X := XS) (v := .ref a) S4 nd hi (.inl li) rfl (fun t5 S5 => ?_) (.inr li)
      have run : PSs XS [.Assign [.Name m pm] (.Name n pn') pa] _ := pss_one (ps_set (X := XS) (i := j) nd hj (.inl lj) (pe_var (X := XS) hi (.inl li) hdb hcd) rfl (.inr lj))
      let D5 : Ends := { nx := fun σ' H' => σ' = (σ1.set i (some (.ref a))).set j (some (.ref a)) ∧ H' = H1, rt := fun _ _ => False, bk := fun _ _ => False, ct := fun _ _ => False }
      have slot : (σ1.set i (some (V.ref a)))[i]? = some (some (.ref a)) := by
        have hl : i < σ1.length := by rw [J4.len]; exact (List.getElem?_eq_some_iff.mp hi).1
        rw [List.getElem?_set_self hl]
      refine wpAny_mono (run.run [] t5 _ H1 D5 S5 ⟨.ref a, slot, rfl, rfl⟩) (fun f t6 q6 => ?_) (fun _ _ z => z.elim)
      match f, q6 with
      | .next, q6 =>
        obtain ⟨σ6, H6, S6, rfl, rfl⟩ := q6
        obtain ⟨e6, _, _, _, c6⟩ := S6.pin (a, oe4) (List.mem_append.mpr (.inl List.mem_cons_self))
        have J6 : Inv X pins ((σ1.set i (some (.ref a))).set j (some (.ref a))) H6 t6 := S6.unsuite ok
        have J6' : Inv X ((a, oe4) :: pins) ((σ1.set i (some (.ref a))).set j (some (.ref a))) H6 t6 := J6.pins_of fun p hp => by
          rcases List.mem_cons.mp hp with rfl | hp
          · exact ⟨e6, na, nL, nF, c6⟩
          · exact J6.pin p (List.mem_append_right _ hp)
        refine gone_ok J6' nd hi li fun t7 J7 => ?_
        obtain ⟨e7, _⟩ := J7.pin (a, oe4) (List.mem_append_right _ List.mem_cons_self)
        have J7' : Inv X pins (((σ1.set i (some (.ref a))).set j (some (.ref a))).set i none) H6 t7 := J7.pins_of fun p hp => J7.pin p (List.mem_append_right _ (List.mem_cons_of_mem _ hp))
        have hs2 : ((σ1.set i (some (V.ref a))).set j (some (.ref a))).set i none = (σ1.set j (some (.ref a))).set i none := by
          rw [List.set_comm _ _ (Ne.symm hij), List.set_set, List.set_comm _ _ hij]
        rw [hs2] at J7'
        exact ⟨_, _, tell J7' e7 z4 d4, yes2 a na⟩
      | .brk, q6 => obtain ⟨_, _, _, q⟩ := q6; exact q.elim
      | .cont, q6 => obtain ⟨_, _, _, q⟩ := q6; exact q.elim
      | .ret u, q6 => obtain ⟨_, _, _, _, _, q⟩ := q6; exact q.elim
    | false, _, no =>
      show wpAny _ X.A (handleBy (.ref a) X.env []) _ _ _
      refine wpAny_handleBy_nil ?_
      obtain ⟨_, _, _, oe5, fs5, T, oT, ts, e5, _, dd5, t5, _⟩ := id f3
      unfold PySem.passOn
      refine wpAny_bind (wpAny_field e5 dd5 t5 ?_)
      rw [if_neg (show ¬ ((Value.ref T == Value.none) = true) from by simp)]
      have out : wpAny (model X.prog X.w) X.A (setFlight (.ref a) X.env.frame) (fun _ t6 => wpAny (model X.prog X.w) X.A (throw (.ref a) : Sem Flow) (SP X pins D) X.xe t6) X.xe { t with heap := h3 } := by
        rw [hfr]
        refine HandSPX.setFlight_upZ f3 fun h4 hh4 u4 => wpAny_throw (tk _ _ ?_)
        exact ⟨a, B, sI, pins, σ1, H1, cls, d, rfl, J, nb, (up.trans u3).trans u4, .inr (.inr (by rw [hst]; exact hh4)), na, os, ag, no rfl⟩
      first
        | exact wpAny_bind (wpAny_pure (wpAny_bind out))
        | exact wpAny_bind out
  refine wpAny_mono ((hb (wKeep X.K c i j Wo D) (X.pn ++ pins) fly takes PassesOwn.looking).run [] s σ H D (I.toTry _) h) (fun f t1 q1 => ?_) (fun e t1 he => he)
  match f, q1 with
  | .next, ⟨σ1, H1, J1, q⟩ => exact wpAny_execs_nil ⟨σ1, H1, J1.ofTry ok, q⟩
  | .brk, ⟨σ1, H1, J1, q⟩ => exact ⟨σ1, H1, J1.ofTry ok, q⟩
  | .cont, ⟨σ1, H1, J1, q⟩ => exact ⟨σ1, H1, J1.ofTry ok, q⟩
  | .ret u, ⟨v, σ1, H1, J1, r, q⟩ => exact ⟨v, σ1, H1, J1.ofTry ok, r, q⟩
end
/-! ### the errors of the program, numbered -/
def errs : List Str := ["NoTerm", "NoBook", "NoText", "NoYard", "NoTask", "NoStep", "NoRecord", "NoJob", "TooMany", "YardError"]
def ern (c : Nat) : Str := errs.getD c "YardError"
theorem ern_mem (c : Nat) : ern c ∈ errs := by
  unfold ern
  rw [List.getD_eq_getElem?_getD]
  cases e : errs[c]? with
  | none => decide +kernel
  | some x => exact List.mem_of_getElem? e
def ecG (K : PySem.W.Frag) (c : Nat) : Value := .ref (He.ga K (ern c))
def excCB (K : PySem.W.Frag) (D : Addr) : Bool :=
  decide (PySem.W.findIn K (.ref D) "__getattribute__" = some (some (.builtin "BaseException.__getattribute__"))) && (decide (PySem.W.findIn K (.ref D) "__getattr__" = some none) && (decide (PySem.W.subIn K (.ref D) (.type "BaseException") = some true) &&
  (PySem.W.hasDictIn K D && (decide (PySem.W.findIn K (.ref D) "__class__" = some (some (.builtin "object.__class__"))) && (decide (PySem.W.specialIn K (.builtin "object.__class__") "__get__" = some (some (.builtin "getset_descriptor.__get__"))) &&
  (decide (PySem.W.takesIn K (.builtin "object.__class__") = some true) && decide (PySem.W.mroIn K D (.type "object") = some true)))))))
theorem excCB_ok {K : PySem.W.Frag} {D : Addr} (h : excCB K D = true) : ExcC K D := by
  obtain ⟨h1, h⟩ := He.ba h
  obtain ⟨h2, h⟩ := He.ba h
  obtain ⟨h3, h⟩ := He.ba h
  obtain ⟨h4, h⟩ := He.ba h
  obtain ⟨h5, h⟩ := He.ba h
  obtain ⟨h6, h⟩ := He.ba h
  obtain ⟨h7, h8⟩ := He.ba h
  exact ⟨of_decide_eq_true h1, of_decide_eq_true h2, of_decide_eq_true h3, h4, of_decide_eq_true h5, of_decide_eq_true h6, of_decide_eq_true h7, of_decide_eq_true h8⟩
def errB (K : PySem.W.Frag) : Bool := errs.all fun x => (He.Fa.glo x).ok K && ((He.Fa.exc x).ok K && (excCB K (He.ga K x) && (decide (PySem.W.exmOne K (.ref (He.ga K x)) (.ref (He.ga K "YardError")) = some true) &&
  (decide (PySem.W.kitOne K (.ref (He.ga K x)) (.type "ValueError") = some true) && errs.all fun y => decide (PySem.W.kitOne K (.ref (He.ga K x)) (.ref (He.ga K y)) = some (decide (x = y) || decide (y = "YardError")))))))
/-- what is known of the errors -/
structure Errs (K : PySem.W.Frag) (mg : Str → Option Value) : Prop where
  at_ : ∀ x ∈ errs, mg x = some (.ref (He.ga K x)) ∧ (He.Fa.exc x).ok K = true ∧ ExcC K (He.ga K x) ∧ PySem.W.exmOne K (.ref (He.ga K x)) (.ref (He.ga K "YardError")) = some true ∧ PySem.W.kitOne K (.ref (He.ga K x)) (.type "ValueError") = some true ∧
    ∀ y ∈ errs, PySem.W.kitOne K (.ref (He.ga K x)) (.ref (He.ga K y)) = some (decide (x = y) || decide (y = "YardError"))
theorem errB_ok {K : PySem.W.Frag} {mg : Str → Option Value} (gl : ∀ x, (He.Fa.glo x).ok K = true → mg x = some (.ref (He.ga K x))) (h : errB K = true) : Errs K mg := ⟨fun x hx => by
  have z := List.all_eq_true.mp h x hx
  obtain ⟨z1, z⟩ := He.ba z
  obtain ⟨z2, z⟩ := He.ba z
  obtain ⟨z3, z⟩ := He.ba z
  obtain ⟨z4, z⟩ := He.ba z
  obtain ⟨z5, z⟩ := He.ba z
  exact ⟨gl x z1, z2, excCB_ok z3, of_decide_eq_true z4, of_decide_eq_true z5, fun y hy => of_decide_eq_true (List.all_eq_true.mp z y hy)⟩⟩
section
variable {X : Cx} {e a : Expr} {da : DE} {ds : DS} {body : List Stmt} {p pos : Pos}
/-- raise C('..') -/
def dRaise (c : Nat) : DS := fun e S => .ex c e S
theorem sv_raise {ec : Nat → Value} {c : Nat} {x m : Str} {j : Nat} {p2 p3 : Pos} (hec : ec = ecG X.K) (G : Errs X.K X.mg) (hc : X.calm = true) (hx : ern c = x) (hg : Gl X x) (hdb : (x == ("__debug__" : Str)) = false := by decide) : PSv ec X (.Raise (some (.Call (.Name x p) [.Constant (.str m) j p2] [] p3)) none pos) (dRaise c) := by
  subst hec
  subst hx
  obtain ⟨g1, g2, _⟩ := G.at_ (ern c) (ern_mem c)
  obtain ⟨q1, q2, q3, q4⟩ := He.exc_ok g2
  exact ⟨fun pn xe Wx tk po => (ps_raise (X := X.tr pn xe) (W := Wx) hc tk (pmk_own (X := X.tr pn xe) PySem.F.excBase_ValueError q1 g1 q2 (raises_own q3 q4) hg hdb)).imp fun D σ H ⟨env, S, ι, B, R, E, h⟩ => h σ H ι .refl R E⟩
/-- try: .. except YardError as n: m = n -/
def dTryK (i j : Nat) (body : DS) : DS := fun e S => match body e S with
  | .ex c e' S' => .ok (.nx ((e'.set j (some (.v (.exc c)))).set i none)) S'
  | r => r
theorem sv_tryK {ec : Nat → Value} {n m : Str} {i j : Nat} {np pm pn' pa pos' : Pos} (hec : ec = ecG X.K) (G : Errs X.K X.mg) (hst : X.stack = X.env :: X.outer) (hfr : X.env.frame = some X.env.locals) (nd : X.N.Nodup) (hi : X.N[i]? = some n) (li : X.env.kindOf n = some .local) (hj : X.N[j]? = some m) (lj : X.env.kindOf m = some .local) (hij : i ≠ j)
    (hg : Gl X "YardError") (hex : X.ex = []) (hb : PSsv ec X body ds) (hdb : (n == ("__debug__" : Str)) = false := by decide) (hcd : (n == ("__classdict__" : Str)) = false := by decide) :
    PSv ec X (.Try body [.ExceptHandler (some (.Name "YardError" np)) (some n) [.Assign [.Name m pm] (.Name n pn') pa] pos'] [] [] pos) (dTryK i j ds) := by
  subst hec
  refine ⟨fun pn xe Wx tk po => (ps_try_keep (X := X.tr pn xe) (tb := fun W => LS (fx (ecG X.K) X) W ds) hst hfr nd hi li hj lj hij (c := .ref (He.ga X.K "YardError")) ⟨hg, by decide, .inl (G.at_ "YardError" (by decide +kernel)).1⟩ tk (fun W pn2 xe2 tk2 po2 => hb.run pn2 xe2 W tk2 po2) hex hdb hcd).imp fun D σ H ⟨env, S, ι, B, R, E, h⟩ => ?_⟩
  refine ⟨env, S, ι, B, R, E, ?_⟩
  unfold dTryK at h
  cases e1 : ds env S with
  | no => rw [e1] at h; exact h
  | ok f S1 =>
    rw [e1] at h
    cases f <;> exact h
  | ex c e2 S1 =>
    rw [e1] at h
    intro σ' H' ι' G' R' E'
    refine ⟨true, (G.at_ (ern c) (ern_mem c)).2.2.2.1, fun _ => ⟨rfl, fun a ha => ?_⟩, fun z => nomatch z⟩
    obtain ⟨R2, G2, n2⟩ := R'.fresh (ExV (ecG X.K c) a) ha
    have rx : RU (fx (ecG X.K) X) (upd H' a (ExV (ecG X.K c) a)) ι' S1 B (.v (.exc c)) (.ref a) := .exc upd_same n2
    exact h _ _ ι' (G'.trans G2) R2 (((E'.go G2).set j rx).unset i)
/-- isinstance(e, C), C an error of the program, or ValueError; e an error -/
def dIsC (q : Nat → Bool) (a : DE) : DE := fun e S => (a e S).bind fun u S1 => match u with
  | .v (.exc c) => .ok (.v (.bl (q c))) S1
  | _ => .no
theorem call_isX : CallR X (.builtin "isinstance") (fun xs H Q => ∃ (D b : Addr) (c : V) (cv : Value) (r : Bool), ExcC X.K D ∧ xs = [.ref b, c] ∧ H b = some (ExV (.ref D) b) ∧ (∀ u, RelV c u → u = cv) ∧ PySem.W.kitOne X.K (.ref D) cv = some r ∧ Q (.bl r) H) := by
  intro pins s σ H xs us Q I r h
  obtain ⟨D, b, c, cv, r2, C, rfl, hb, hcv, e, q⟩ := h
  obtain ⟨u1, u2, rfl, r1, r3⟩ := vals2 r
  cases r1
  have ec := hcv _ r3
  subst ec
  obtain ⟨⟨oe, vs, e1, z, e2⟩, _⟩ := (show ObjOk X.prog X.w H s.heap b (ExV (.ref D) b) from I.hok b _ hb)
  have J : PySem.W.InstAt s.heap b oe D none := by
    obtain ⟨oc, od, oda, osl⟩ := oe
    obtain ⟨z1, z2⟩ := z
    dsimp only at z1 z2 e2
    subst z1 z2 e2
    exact ⟨e1, rfl, rfl, trivial⟩
  exact PySem.W.kia_one (PySem.W.handS_kitx_exc C.hg C.hk C.hs C.hd C.ha C.hn C.ht C.hm) I.kIn J e (fun z => nomatch z) fun tk => ⟨.bl r2, H, I.kept (t' := tk) fun _ _ z => z, rfl, q⟩
def errIs (k c : Nat) : Bool := decide (ern c = ern k)
theorem Rp.exc_inv {F : Fx} {H : Hp} {O : Addr → Prop} {c : Nat} {v : V} (r : Rp F H O (.exc c) v) : ∃ b, v = .ref b ∧ H b = some (ExV (F.ec c) b) := by
  cases r with
  | exc h hn => exact ⟨_, rfl, h⟩
theorem isC_core {F : Fx} {Wx : WX} {σ : L2.St} {H : Hp} {Q : VK} {q : Nat → Bool} {cv : V} {cu : Value} (hF : F.ec = ecG F.K) (hu : ∀ u, RelV cv u → u = cu) (hk : ∀ c, ExcC F.K (He.ga F.K (ern c)) ∧ PySem.W.kitOne F.K (.ref (He.ga F.K (ern c))) cu = some (q c)) (h : LE F Wx (dIsC q da) σ H Q) :
    LE F Wx da σ H fun v H1 => ∃ (D b : Addr) (c : V) (u : Value) (r : Bool), ExcC F.K D ∧ [v, cv] = [.ref b, c] ∧ H1 b = some (ExV (.ref D) b) ∧ (∀ w, RelV c w → w = u) ∧ PySem.W.kitOne F.K (.ref D) u = some r ∧ Q (.bl r) H1 := by
  obtain ⟨env, S, ι, B, R, E, h⟩ := h
  refine LE.then_ R E h fun u S1 v H1 ι1 G1 R1 E1 ru h1 => ?_
  split at h1
  · rename_i c
    obtain ⟨b, rfl, hb⟩ := Rp.exc_inv ru
    rw [hF] at hb
    exact ⟨_, b, cv, cu, q c, (hk c).1, rfl, hb, hu, (hk c).2, h1 _ H1 ι1 .refl R1 (.bl _)⟩
  · exact h1.elim
theorem ev_isC {ec : Nat → Value} {k : Nat} {y : Str} {p2 : Pos} (hec : ec = ecG X.K) (G : Errs X.K X.mg) (hy : ern k = y) (hny : decide (y = "YardError") = false) (ha : PEv ec X a da) (hg : Gl X "isinstance") (hm : X.mg "isinstance" = none) (hgy : Gl X y)
    (hdb : (y == ("__debug__" : Str)) = false := by decide)
    (h1 : starEach [a, .Name y p2] X.env = (false, eval a X.env) :: starEach [.Name y p2] X.env := by rfl) (h2 : starEach [.Name y p2] X.env = (false, eval (.Name y p2) X.env) :: starEach [] X.env := by rfl)
    (hpl : (backTo pos (starEach [.Name y p2] X.env)).any (·.1) = false := by rfl) : PEv ec X (.Call (.Name "isinstance" p) [a, .Name y p2] [] pos) (dIsC (errIs k) da) := by
  subst hec
  subst hy
  have gy := (G.at_ (ern k) (ern_mem k)).1
  exact ⟨fun pn xe Wx tk => (pe_callB (X := X.tr pn xe) call_isX hg hm boot_isinstance (pa_cons (ha.run pn xe Wx tk) (pa_cons (pe_glob (X := X.tr pn xe) (v := .ref (He.ga X.K (ern k))) hgy gy rfl hdb) pa_nil h2) h1) (by decide) (by decide) h1 hpl).imp
    fun σ H Q h => isC_core (F := fx (ecG X.K) X) rfl (fun u r => r) (fun c => ⟨(G.at_ _ (ern_mem c)).2.2.1, by
      have z := (G.at_ _ (ern_mem c)).2.2.2.2.2 (ern k) (ern_mem k)
      rw [hny, Bool.or_false] at z
      exact z⟩) h⟩
theorem ev_isVE {ec : Nat → Value} {p2 : Pos} (hec : ec = ecG X.K) (G : Errs X.K X.mg) (ha : PEv ec X a da) (hg : Gl X "isinstance") (hm : X.mg "isinstance" = none) (hgy : Gl X "ValueError") (hmy : X.mg "ValueError" = none) (hv : bootBuiltins "ValueError" = some (.type "ValueError"))
    (h1 : starEach [a, .Name "ValueError" p2] X.env = (false, eval a X.env) :: starEach [.Name "ValueError" p2] X.env := by rfl) (h2 : starEach [.Name "ValueError" p2] X.env = (false, eval (.Name "ValueError" p2) X.env) :: starEach [] X.env := by rfl)
    (hpl : (backTo pos (starEach [.Name "ValueError" p2] X.env)).any (·.1) = false := by rfl) : PEv ec X (.Call (.Name "isinstance" p) [a, .Name "ValueError" p2] [] pos) (dIsC (fun _ => true) da) := by
  subst hec
  exact ⟨fun pn xe Wx tk => (pe_callB (X := X.tr pn xe) call_isX hg hm boot_isinstance (pa_cons (ha.run pn xe Wx tk) (pa_cons (pe_bltn (X := X.tr pn xe) (v := .ty "ValueError") hgy hmy hv rfl (by decide) (by decide)) pa_nil h2) h1) (by decide) (by decide) h1 hpl).imp
    fun σ H Q h => isC_core (F := fx (ecG X.K) X) rfl (fun u r => r) (fun c => ⟨(G.at_ _ (ern_mem c)).2.2.1, (G.at_ _ (ern_mem c)).2.2.2.2.1⟩) h⟩
end
/-! ### a law's end with errors -/
structure HdE (K : PySem.W.Frag) (mg : Str → Option Value) (w : World) (fa : List He.Fa) (fn : List He.DefD) (kc : List Con') (kd : List Kd) (be : Bool) : Prop extends HdW K mg w fa fn kc kd where
  er : be = true → Errs K mg
def exE (kc : List Con') (kd : List Kd) (be : Bool) (K : PySem.W.Frag) : Bool := exB kc kd K && (!be || errB K)
end Bel

/-! The engine, part W: dicts: ==, update; walks over own dicts. -/
namespace Bel
open PySem PySem.Spec PyProof.Rows L2 PyProof.V
def sameP (p q : W × W) : Bool := eqK p.1 q.1 && (isFlat p.2 && isFlat q.2 && eqD p.2 q.2)
def sameD : List (W × W) → List (W × W) → Bool
  | [], [] => true
  | p :: l, q :: m => sameP p q && sameD l m
  | _, _ => false
theorem flat_of {F : Fx} {H : Hp} {O : Addr → Prop} {w : W} {v : V} {u : Value} (h : isFlat w = true) (r : Rp F H O w v) (ru : RelV v u) : Flat u (toD w) := by
  cases w with
  | non => rw [Rp.non_inv r] at ru; cases ru; exact fun h => by simp only [toD]; exact .none
  | bl b => rw [Rp.bl_inv r] at ru; cases ru; exact fun h => by simp only [toD]; exact .bool b
  | int i => rw [Rp.int_inv r] at ru; obtain ⟨t, rfl⟩ := ru; exact fun h => by simp only [toD]; exact .int i t
  | str x => rw [(Rp.str_inv r).1] at ru; obtain ⟨t, rfl⟩ := ru; exact fun h => by simp only [toD]; exact .str _ t
  | _ => cases h
theorem same_hits {F : Fx} {H : Hp} {O : Addr → Prop} {A : Around} {s : Shared} {kb : List (Key × Value)} (nd : (kb.map (·.1)).Nodup) : ∀ {l m : List (W × W)} {ka' kb' : List (Key × V)} {va vb : List (Key × Value)}, sameD l m = true → RpD F H O l ka' → RpD F H O m kb' → KV ka' va → KV kb' vb → (∀ p ∈ vb, p ∈ kb) → PySem.W.KeqHits A s kb va true ∧ va.length = vb.length
  | [], [], ka', kb', va, vb, _, r1, r2, k1, k2, _ => by
    rw [r1.nil_iff] at k1
    rw [r2.nil_iff] at k2
    cases k1
    cases k2
    exact ⟨.nil, rfl⟩
  | p :: l, q :: m, ka', kb', va, vb, h, r1, r2, k1, k2, hm => by
    obtain ⟨h1, h2⟩ := He.ba h
    obtain ⟨h3, h4⟩ := He.ba h1
    obtain ⟨h5, h6⟩ := He.ba h4
    obtain ⟨h7, h8⟩ := He.ba h5
    obtain ⟨κ1, v1, ka2, rfl, a1, a2, a3⟩ := r1.cons_iff
    obtain ⟨κ2, v2, kb2, rfl, b1, b2, b3⟩ := r2.cons_iff
    have k1' : Paired (fun (p : Key × V) (q : Key × Value) => p.1 = q.1 ∧ RelV p.2 q.2) ((κ1, v1) :: ka2) va := k1
    have k2' : Paired (fun (p : Key × V) (q : Key × Value) => p.1 = q.1 ∧ RelV p.2 q.2) ((κ2, v2) :: kb2) vb := k2
    cases k1' with
    | @cons _ y1 _ ya e1 t1 =>
      cases k2' with
      | @cons _ y2 _ yb e2 t2 =>
        obtain ⟨g1, l1⟩ := same_hits (A := A) (s := s) nd h2 a3 b3 t1 t2 fun p hp => hm p (List.mem_cons_of_mem _ hp)
        obtain ⟨c1, d1⟩ := y1
        obtain ⟨c2, d2⟩ := y2
        obtain ⟨rfl, f1⟩ := e1
        obtain ⟨rfl, f2⟩ := e2
        have hk : κ1 = κ2 := by
          have z := eqK_iff (key_of_rp a1) (key_of_rp b1)
          rw [h3] at z
          exact of_decide_eq_true z.symm
        subst hk
        have z := PySem.W.keq_flat (A := A) (s := s) (flat_of h7 a2 f1) (flat_of h8 b2 f2)
        rw [show PyData.eqv (toD p.2) (toD q.2) = true from h6] at z
        exact ⟨PySem.W.KeqHits.hit (e := true) (valueAt_of_mem nd (hm _ List.mem_cons_self)) z g1, by simp [l1]⟩
  | [], _ :: _, _, _, _, _, h, _, _, _, _, _ => nomatch h
  | _ :: _, [], _, _, _, _, h, _, _, _, _, _ => nomatch h
theorem ops_dict {X : Cx} {F : Fx} (hF : F.K = X.K) {pins : List (Addr × Obj)} {σ : L2.St} {H : Hp} {O : Addr → Prop} {s : Shared} (I : Inv X pins σ H s) {l m : List (W × W)} {x y : V} (hs : sameD l m = true) (rx : RT F H O (.dct l) x) (ry : RT F H O (.dct m) y) :
    ∃ (a b : Addr) (va vb : List (Key × Value)), x = .ref a ∧ y = .ref b ∧ (a == sysModules) = false ∧ (b == sysModules) = false ∧ s.heap.DictOf (mixKind X.prog X.w) a va ∧ s.heap.DictOf (mixKind X.prog X.w) b vb ∧ va.length = vb.length ∧ PySem.W.KeqHits X.A.in1 s vb va true := by
  obtain ⟨a, ka, rfl, h1, q1⟩ := rx
  obtain ⟨b, kb, rfl, h2, q2⟩ := ry
  obtain ⟨_, z1, va, k1, d1⟩ := dk_rd I.hok h1
  obtain ⟨_, z2, vb, k2, d2⟩ := dk_rd I.hok h2
  have nd : (vb.map (·.1)).Nodup := by
    obtain ⟨_, _, _, _, _, _, _, _, n⟩ := d2
    exact n
  obtain ⟨g, hl⟩ := same_hits (A := X.A.in1) (s := s) nd hs q1 q2 k1 k2 fun p hp => hp
  exact ⟨a, b, va, vb, rfl, rfl, z1, z2, d1, d2, hl, g⟩
def rDD (K : PySem.W.Frag) (neg : Bool) (F : Fx) : R2 := fun x y H Q => ∃ (O : Addr → Prop) (l m : List (W × W)), F.K = K ∧ sameD l m = true ∧ RT F H O (.dct l) x ∧ RT F H O (.dct m) y ∧ Q (.bl (!neg)) H
theorem op_eqDD {X : Cx} {F : Fx} (hu : X.A.units < cLine) : OpR X (compareOp .Eq) (rDD X.K false F) := by
  intro pins s σ H x y v u Q I rx ry h
  obtain ⟨O, l, m, hF, hs, r1, r2, q⟩ := h
  obtain ⟨a, b, va, vb, rfl, rfl, z1, z2, d1, d2, hl, g⟩ := ops_dict hF I hs r1 r2
  cases rx
  cases ry
  refine PySem.W.keq_eq z1 z2 d1 d2 hu (fun _ => g) ?_
  rw [hl]
  simp only [beq_self_eq_true, Bool.and_true]
  exact ⟨.bl true, H, I, rfl, q⟩
theorem op_neDD {X : Cx} {F : Fx} (hu : X.A.units < cLine) : OpR X (compareOp .NotEq) (rDD X.K true F) := by
  intro pins s σ H x y v u Q I rx ry h
  obtain ⟨O, l, m, hF, hs, r1, r2, q⟩ := h
  obtain ⟨a, b, va, vb, rfl, rfl, z1, z2, d1, d2, hl, g⟩ := ops_dict hF I hs r1 r2
  cases rx
  cases ry
  refine PySem.W.keq_ne z1 z2 d1 d2 hu (fun _ => g) ?_
  rw [hl]
  simp only [beq_self_eq_true, Bool.and_true, Bool.not_true]
  exact ⟨.bl false, H, I, rfl, q⟩
def fEqDD : W → W → Option Out
  | .dct l, .dct m => if sameD l m = true then some (.val (.bl true)) else none
  | _, _ => none
def fNeDD : W → W → Option Out
  | .dct l, .dct m => if sameD l m = true then some (.val (.bl false)) else none
  | _, _ => none
theorem ow_eqDD {F : Fx} : OpW F fEqDD (rDD F.K false F) := by
  intro H O x y w z o Q rx ry e q
  unfold fEqDD at e
  split at e
  · split at e
    · rename_i hs
      cases some_inj e
      exact ⟨O, _, _, rfl, hs, rx, ry, q _ (.bl _)⟩
    · cases e
  · cases e
theorem ow_neDD {F : Fx} : OpW F fNeDD (rDD F.K true F) := by
  intro H O x y w z o Q rx ry e q
  unfold fNeDD at e
  split at e
  · split at e
    · rename_i hs
      cases some_inj e
      exact ⟨O, _, _, rfl, hs, rx, ry, q _ (.bl _)⟩
    · cases e
  · cases e
/-! ### d.update(d2): d an own dict, d2 another dict -/
def notO (n : Nat) : U → Bool
  | .o k => !decide (k = n)
  | .v _ => true
def dUpd (o a : DE) : DE := fun e S => (o e S).bind fun u S1 => match u with
  | .o n => match S1[n]? with
    | some (.dct _) => (a e S1).bind fun v S2 => match S2[n]?, dr S2 v with
      | some (.dct l), some (.dct m) => if l.length + m.length ≤ 16777216 ∧ notO n v = true then .ok (.v .non) (S2.set n (.dct (mrgW l m))) else .no
      | _, _ => .no
    | _ => .no
  | .v _ => .no
theorem put_len {l : List (Key × V)} {k : Key} {v : V} : (putK l k v).length ≤ l.length + 1 := by
  unfold putK
  split
  · simp
  · simp
theorem mrg_len : ∀ {more kvs : List (Key × V)}, (mergeK kvs more).length ≤ kvs.length + more.length
  | [], kvs => by simp [mergeK]
  | p :: r, kvs => by
    have z := mrg_len (more := r) (kvs := putK kvs p.1 p.2)
    have y := put_len (l := kvs) (k := p.1) (v := p.2)
    show (mergeK (putK kvs p.1 p.2) r).length ≤ _
    simp only [List.length_cons]
    omega
def rUpd : V → List V → Hp → VK → Prop := fun x vs H Q => ∃ (a b : Addr) (kvs more : List (Key × V)), x = .ref a ∧ vs = [.ref b] ∧ a ≠ b ∧ H a = some (.dK kvs) ∧ Rd H b (.dK more) ∧ kvs.length + more.length ≤ sizeLine ∧ Q .non (upd H a (.dK (mergeK kvs more)))
theorem mt_upd {X : Cx} : MtR X "dict.update" rUpd := by
  intro pins s σ H x vs v us Q I rx rv h
  obtain ⟨a, b, kvs, more, rfl, rfl, hne, h1, h2, hz, q⟩ := h
  cases rx
  obtain ⟨u, rfl, ru⟩ := rv.one
  cases ru
  obtain ⟨za, sa, va, ka, da⟩ := dk_of I.hok h1
  obtain ⟨_, sb, vb, kb, db⟩ := dk_rd I.hok h2
  refine call_meetsIn PySem.F.slot_dict_update da.typeIs PySem.F.entry_dict_update (PySem.F.args_dict_update_2 _ _) (meets_dict_update (mixKind X.prog X.w) a b hne sb)
    ⟨va, vb, da, db, by rw [← Paired.length ka, ← Paired.length kb]; exact hz, fun h' d1 d2 hs => ?_⟩
  have he : ∃ o, h'.get? a = some o := by
    obtain ⟨o, _, _, ho, _⟩ := d1
    exact ⟨o, ho⟩
  exact ⟨.non, _, d_write (t' := s.toks) I (by rw [h1]; exact True.intro) hs he (dk_new (Nat.le_trans mrg_len hz) sa (KV.merge kb ka) d1), rfl, q⟩
section
variable {ec : Nat → Value} {X : Cx} {e o : Expr} {da db : DE} {apos cpos : Pos}
theorem ev_upd (ho : PEv ec X o da) (ha : PEv ec X e db)
    (hbase : attributeBase o "update" X.env (eval o X.env) = eval o X.env := by rfl)
    (hfew : ((backTo cpos (starEach [e] X.env)).all (fun x => !x.1) && (backToKw cpos (keywordEach [] X.env)).all (fun x => x.1.isSome)
      && decide (([e] : List Expr).length + ([] : List Keyword).length + (if ([] : List Keyword).isEmpty then 0 else 1) < 30)) = true := by rfl)
    (hline : (apos.endLine == cpos.line) = true := by rfl) (hs : starEach [e] X.env = (false, eval e X.env) :: starEach [] X.env := by rfl) (hplain : (backTo cpos (starEach [] X.env)).any (·.1) = false := by rfl) :
    PEv ec X (.Call (.Attribute o "update" apos) [e] [] cpos) (dUpd da db) :=
  ⟨fun pn xe Wx tk => (pe_bm (X := X.tr pn xe) F.plainAttrs_dict F.slot_dict_update F.type_dict_update (mt_upd (X := X.tr pn xe)) (ho.run pn xe Wx tk) ((av_cons ha av_nil hs).run pn xe Wx tk) hbase hfew hline hs hplain).imp fun σ H Q ⟨env, S, ι, B, R, E, h⟩ => by
    refine LE.then_ R E h fun u S1 x H1 ι1 G1 R1 E1 ru h1 => ?_
    split at h1
    · rename_i n
      obtain ⟨a, ha1, rfl⟩ := ru
      split at h1
      · rename_i l0 e1
        obtain ⟨kvs0, hH0, _⟩ := R1.dct e1 ha1
        refine ⟨.inr (.inr (.inl ⟨rfl, .inl ⟨kvs0, hH0⟩⟩)), ?_⟩
        show LA (fx ec X) Wx (dCons db dNil) σ H1 _
        refine ⟨env, S1, ι1, B, R1, E1, ?_⟩
        unfold dCons
        cases e2 : db env S1 with
        | no => rw [e2] at h1; exact h1
        | ex c S2 => rw [e2] at h1; exact h1
        | ok v S2 =>
          rw [e2] at h1
          simp only [Re.bind_ok, dNil] at h1 ⊢
          intro xs H2 ι2 G2 R2 rus
          cases rus with
          | cons rv rn =>
            cases rn
            have h2 := h1.go G2
            split at h2
            · rename_i l m e3 e4
              split at h2
              · rename_i hc
                have ha2 : ι2[n]? = some a := by
                  obtain ⟨t, rfl⟩ := G2.pre
                  rw [List.getElem?_append_left (List.getElem?_eq_some_iff.mp ha1).1]
                  exact ha1
                obtain ⟨kvs, hH, rl⟩ := R2.dct e3 ha2
                obtain ⟨b, more, rfl, hb, rm⟩ := RU.rt R2 rv e4
                have hne : a ≠ b := by
                  rintro rfl
                  cases v with
                  | o k =>
                    obtain ⟨a', ha', ea⟩ := rv
                    cases ea
                    have hk : k ≠ n := by simpa [notO] using hc.2
                    obtain ⟨q1, q2⟩ := List.getElem?_eq_some_iff.mp ha2
                    obtain ⟨q3, q4⟩ := List.getElem?_eq_some_iff.mp ha'
                    exact hk ((List.getElem_inj R2.nd).mp (q4.trans q2.symm))
                  | v w =>
                    cases e4
                    obtain ⟨a', kvs', ea, hf, _⟩ := Rp.dct_inv rv
                    cases ea
                    exact hf.2 (.inl ⟨n, _, e3, by simp, ha2⟩)
                obtain ⟨R3, G3⟩ := R2.write (o' := .dct (mrgW l m)) (ho := .dK (mergeK kvs more)) e3 (by simp) ha2 ⟨_, rfl, mrg_rp rm rl⟩
                exact ⟨a, b, kvs, more, rfl, rfl, hne, hH, hb, by rw [← rl.1, ← rm.1, sizeLine_is]; exact hc.1, h2 .non _ ι2 G3 R3 .non⟩
              · exact h2.elim
            · exact h2.elim
      · exact h1.elim
    · exact h1.elim⟩
end
/-! ### for x in [a, b, ..], the items values or own objects -/
def dLoopU (i : Nat) (body : DS) : List U → DS
  | [], e, S => .ok (.nx e) S
  | u :: r, e, S => match body (e.set i (some u)) S with
    | .ok (.nx e2) S2 => dLoopU i body r e2 S2
    | .ok (.ct e2) S2 => dLoopU i body r e2 S2
    | .ok (.bk e2) S2 => .ok (.nx e2) S2
    | r => r
def dForU (a : DA) (i : Nat) (body : DS) : DS := fun e S => (a e S).st e fun us S1 => if us.length ≤ 16777216 then dLoopU i body us e S1 else .no
section
variable {ec : Nat → Value} {X : Cx} {es : List Expr} {das : DA} {ds : DS} {body : List Stmt} {p1 p2 pos : Pos}
theorem RUs.at {F : Fx} {H : Hp} {ι : List Addr} {S : Store} {B : Addr → Prop} {us : List U} {vs : List V} (r : RUs F H ι S B us vs) {i : Nat} {v : V} (h : vs[i]? = some v) : ∃ u, us[i]? = some u ∧ RU F H ι S B u v := by
  induction r generalizing i with
  | nil => simp at h
  | cons a t ih =>
    cases i with
    | zero => simp at h; subst h; exact ⟨_, rfl, a⟩
    | succ i => simpa using ih (by simpa using h)
theorem sv_forU {i : Nat} {x : Str} (hc : X.calm = true) (hN : X.N.Nodup) (hi : X.N[i]? = some x) (hx : Loc X.env.scope x) (ha : PAv ec X es das) (hb : PSsv ec X body ds)
    (hf : X.fn x = true ∨ X.env.scope.names.lookup x = some .local := by first | exact .inl rfl | exact .inr rfl)
    (hs : ∀ x, foldedSetIterable (.List es p2) X.env x = pure x := by intro _; rfl) : PSv ec X (.For (.Name x p1) (.List es p2) body [] pos) (dForU das i ds) := by
  refine ⟨fun pn xe Wx tk po => (ps_for (X := X.tr pn xe) po hc (pi_list (pe_lst (ha.run pn xe Wx tk))) (pg_name (X := X.tr pn xe) hN hi hx hf) (hb.run pn xe Wx tk po) hs).imp fun D σ H ⟨env, S, ι, B, R, E, h⟩ => ?_⟩
  show LA (fx ec X) Wx das σ H _
  refine ⟨env, S, ι, B, R, E, ?_⟩
  unfold dForU at h
  cases ee : das env S with
  | no => rw [ee] at h; exact h
  | ex c S1 => rw [ee] at h; exact fun H1 ι1 G1 R1 => h σ H1 ι1 G1 R1 (E.go G1)
  | ok us S1 =>
    rw [ee] at h
    simp only [Re.st_ok] at h
    split at h
    · rename_i hlen
      intro vs H1 ι1 G1 R1 rus
      have hvl : us.length = vs.length := Paired.length rus
      refine ⟨by rw [sizeLine_is, ← hvl]; exact hlen, fun p hp => ?_⟩
      obtain ⟨R2, G2, n2⟩ := R1.fresh (.lst vs) hp
      have fl : FLst (upd H1 p (.lst vs)) (Oq ι1 S1 B) p vs := ⟨upd_same, n2⟩
      refine ⟨p, rfl, ⟨vs, fl.sq (F := fx ec X)⟩, ?_⟩
      refine for_it (walk_list (K := X.K) (a := p) (xs := vs)) (fun k σ' H' => ∃ (env' : Env') (S' : Store) (ι' : List Addr), Go ι1 S1 (upd H1 p (.lst vs)) ι' S' H' ∧ RS (fx ec X) ι' S' B H' ∧ ER (fx ec X) H' ι' S' B env' σ' ∧ PoS (fx ec X) Wx ι' S' B H' (dLoopU i ds (us.drop k) env' S') D)
        ⟨env, S1, ι1, .refl, R2, (E.go G1).go G2, by rw [List.drop_zero]; exact h.go (G1.trans G2)⟩ (fun k σ' H' _ ⟨_, _, _, G', _, _, _⟩ => (fl.ext G'.lo.1 G'.lo.2).sq (F := fx ec X)) ?_ ?_
      · rintro k y σ' H' H3 hk ⟨env', S', ι', G', R', E', h'⟩ ⟨rfl, hy⟩
        obtain ⟨u, hu, ru⟩ := RUs.at rus hy
        have ru' : RU (fx ec X) H3 ι' S' B u y := RU.go G' (RU.go G2 ru)
        have hd : us.drop k = u :: us.drop (k + 1) := by
          obtain ⟨h1, h2⟩ := List.getElem?_eq_some_iff.mp hu
          rw [← h2]
          exact List.drop_eq_getElem_cons h1
        rw [hd] at h'
        unfold dLoopU at h'
        show LS (fx ec X) Wx ds _ (σ'.set i (some y)) H3
        refine ⟨env'.set i (some u), S', ι', B, R', E'.set i ru', ?_⟩
        cases e2 : ds (env'.set i (some u)) S' with
        | no => simp only [e2] at h'; exact h'
        | ex c e3 S3 => simp only [e2] at h'; exact h'
        | ok f S3 =>
          cases f with
          | nx e3 =>
            simp only [e2] at h'
            exact fun σ3 H3 ι3 G3 R3 E3 => ⟨e3, S3, ι3, G'.trans G3, R3, E3, h'.go G3⟩
          | ct e3 =>
            simp only [e2] at h'
            exact fun σ3 H3 ι3 G3 R3 E3 => ⟨e3, S3, ι3, G'.trans G3, R3, E3, h'.go G3⟩
          | bk e3 => simp only [e2] at h'; exact h'
          | rt u => simp only [e2] at h'; exact h'
      · rintro σ' H' ⟨env', S', ι', G', R', E', h'⟩
        rw [← hvl, List.drop_length] at h'
        exact h' σ' H' ι' .refl R' E'
    · exact h.elim
end
/-! ### a law's end -/
theorem law_endE {l : PySem.W.OpenLaw} {n k : Nat} {q : Program} {loose : List Str} {XP : (Str → Option Value) → Heap → Prop} {d : DefRec} {x y : Str} {fa : List He.Fa} {fn : List He.DefD} {kc : List Con'} {kd : List Kd} {be : Bool} {m : Nat}
    (hn : l.most = some n) (hn2 : n ≤ sizeLine) (hdf : d.params.defaults = []) (hr : Room k callerA) (hx : d.name = x) (j : Nat) (hj : fa[j]? = some (.glo x)) (df : DF)
    (F : ∀ (w : World) (mg : Str → Option Value) (K : PySem.W.Frag), HdE K mg w fa fn kc kd be → ∃ (ec : Nat → Value) (fd : FuncData), (∀ (s : Shared) (u : Value), BindsTo s fd ⟨[u], []⟩ [(y, u)]) ∧
      ∀ base : Heap, FnG l.prog w K mg base k (He.ga K x) fd [y] (spD ⟨K, w, ec⟩ df 1))
    (L : ∀ ns : List Int, ns.length ≤ n → ∃ S', df [.o 0] [.scr (ns.map W.int)] = .ok (.v (.bl true)) S') :
    PySem.W.WalkO q loose XP (He.hookX m fa fn (tabs kd) [] (exE kc kd be)).says l.row.toRowW d [] (fun f vs => PySem.call f vs) := by
  refine Att.attach_call hn hdf fun w s₀ s₁ mg mb ad o pm cd doc a vs ns G Y ho hd hcd hmg hobj hints hlen hg => ?_
  obtain ⟨K, KX, c⟩ := Y
  obtain ⟨z0, ze⟩ := He.ba c.more
  obtain ⟨z1, z⟩ := He.ba z0
  obtain ⟨z2, z⟩ := He.ba z
  obtain ⟨z3, z4⟩ := He.ba z
  have Z0 : Hd K mg fa fn kc := ⟨c.t.d, fun x e => He.glo_ok KX G.T.g e, fun x e => He.free_ok KX G.T.g e, fun p hp => konB_ok KX G.T.g (List.all_eq_true.mp z2 p hp), z1⟩
  have Z1 : HdW K mg w fa fn kc kd := ⟨Z0, fun p hp => by
    obtain ⟨i, hi, e⟩ := List.mem_iff_getElem.mp hp
    have ht : (tabs kd)[i]? = some ((fun K => He.ga K p.1), p.2.map fun q => (⟨q.1.toArray⟩ : Str)) := by
      unfold tabs
      rw [List.getElem?_map, List.getElem?_eq_getElem hi, e]
      rfl
    exact kdB_ok (Z0.gl _ (List.all_eq_true.mp z4 p hp)) (c.t.tab i ht) (List.all_eq_true.mp z3 p hp)⟩
  have Z : HdE K mg w fa fn kc kd be := ⟨Z1, fun hbe => by
    subst hbe
    exact errB_ok Z0.gl ze⟩
  obtain ⟨ec, fd, hb, hF⟩ := F w mg K Z
  have e := hmg.symm.trans (hx ▸ Z0.gl x (c.t.d.fact j hj))
  have ea : ad = He.ga K x := by
    injection e with e
    injection e with e
    rw [e, hx]
  subst ea
  have hno : ∀ o, K.lookup a = some o → False := fun o h => noLst_ok z1 h (by
    have := KX a o h
    rw [hobj] at this
    rw [← Option.some.inj this])
  exact lawG (sp := spD ⟨K, w, ec⟩ df 1) KX G.T.g G.T.b G.T.builtins G.T.nolimit hg hobj hints (Nat.le_trans hlen hn2) ⟨hr, rfl⟩ hno hF hb (fun H hO hS => law_sp (F := ⟨K, w, ec⟩) z1 hO hS (L ns hlen))
theorem r65 {k : Nat} {A : Around} (r : Room k A) : A.units + 65 < cLine := by have := r.un; omega
theorem r70 {k : Nat} {A : Around} (r : Room k A) : A.units + 70 < cLine := by have := r.un; omega
/-! ### a, b = a list -/
def tgL (n : Nat) (r : List W → Env' → Option Env') : W → Env' → Option Env'
  | .lst ws, e => if ws.length = n then r ws e else none
  | _, _ => none
section
variable {ec : Nat → Value} {X : Cx} {es : List Expr} {pos : Pos}
theorem gv_lst {gs : TGs} {ts : List W → Env' → Option Env'} {sls : List Nat} {k n : Nat} (hc : X.calm = true) (h : PGsv ec X es gs ts sls) (hn : (assignEach es X.env).length = n := by rfl) (hst : (assignEach es X.env).findIdx? (·.1) = none := by rfl) : PGv ec X (.Tuple es k pos) (gLst X.K n gs) (tgL n ts) sls := by
  obtain ⟨b1, b2⟩ := h
  refine ⟨fun pn xe => pg_lst (X := X.tr pn xe) hc (b1 pn xe) hn hst, fun w e e' h v σ H ι S B Q r E k => ?_⟩
  cases w with
  | lst ws =>
    simp only [tgL] at h
    split at h
    · rename_i hl
      obtain ⟨a, vs, rfl, h1, r1⟩ := r.lst_inv
      exact ⟨a, vs, rfl, FLst.sq (F := fx ec X) h1, by rw [← r1.1]; exact hl, b2 ws e e' h vs σ H ι S B Q r1 E k⟩
    · cases h
  | _ => cases h
end
end Bel

/-! The engine, part T: more rules for reckoning. -/
namespace Bel
open PySem PySem.Spec PyProof.Rows L2
@[simp] theorem dNoS_ap (e : Env') (S : Store) : dNoS e S = .no := rfl
@[simp] theorem dRaise_ap (c : Nat) (e : Env') (S : Store) : dRaise c e S = .ex c e S := rfl
@[simp] theorem dTryK_ap (i j : Nat) (body : DS) (e : Env') (S : Store) : dTryK i j body e S = match body e S with
  | .ex c e' S' => .ok (.nx ((e'.set j (some (.v (.exc c)))).set i none)) S'
  | r => r := rfl
@[simp] theorem dIsC_ap (q : Nat → Bool) (a : DE) (e : Env') (S : Store) : dIsC q a e S = (a e S).bind fun u S1 => match u with
  | .v (.exc c) => .ok (.v (.bl (q c))) S1
  | _ => .no := rfl
@[simp] theorem dUpd_ap (o a : DE) (e : Env') (S : Store) : dUpd o a e S = (o e S).bind fun u S1 => match u with
  | .o n => match S1[n]? with
    | some (.dct _) => (a e S1).bind fun v S2 => match S2[n]?, dr S2 v with
      | some (.dct l), some (.dct m) => if l.length + m.length ≤ 16777216 ∧ notO n v = true then .ok (.v .non) (S2.set n (.dct (mrgW l m))) else .no
      | _, _ => .no
    | _ => .no
  | .v _ => .no := rfl
@[simp] theorem dForU_ap (a : DA) (i : Nat) (body : DS) (e : Env') (S : Store) : dForU a i body e S = (a e S).st e fun us S1 => if us.length ≤ 16777216 then dLoopU i body us e S1 else .no := rfl
@[simp] theorem dAug_ap (i : Nat) (f : W → W → Option Out) (d : DE) (e : Env') (S : Store) : dAug i f d e S = match e[i]? with
  | some (some (.v x)) => (d e S).st e fun v S1 => match dr S1 v with
    | some y => (match f x y with
      | some (.val z) => .ok (.nx (e.set i (some (.v z)))) S1
      | _ => .no)
    | none => .no
  | _ => .no := rfl
@[simp] theorem dGet2_ap (d k x : DE) (e : Env') (S : Store) : dGet2 d k x e S = (d e S).bind fun u S1 => match dr S1 u with
  | some (.dct _) => (k e S1).bind fun y S2 => (x e S2).bind fun z S3 => match dr S3 u, y, z with
    | some (.dct l), .v y, .v z => putO false (fGet (.dct l) y z) S3
    | _, _, _ => .no
  | _ => .no := rfl
@[simp] theorem dGet1_ap (d k : DE) (e : Env') (S : Store) : dGet1 d k e S = (d e S).bind fun u S1 => match dr S1 u with
  | some (.dct _) => (k e S1).bind fun y S2 => match dr S2 u, y with
    | some (.dct l), .v y => putO false (fGet (.dct l) y .non) S2
    | _, _ => .no
  | _ => .no := rfl
@[simp] theorem dDct_ap (own : Bool) (ps : List (DE × DE)) (e : Env') (S : Store) : dDct own ps e S = (dPrs ps e S).bindX fun l S1 => (Out.nd (mrgW [] l)).put own S1 := rfl
@[simp] theorem dPrs_nil (e : Env') (S : Store) : dPrs [] e S = .ok [] S := rfl
@[simp] theorem dPrs_cons (k v : DE) (r : List (DE × DE)) (e : Env') (S : Store) : dPrs ((k, v) :: r) e S = (k e S).bindX fun u S1 => (v e S1).bindX fun z S2 => match u, z with
    | .v a, .v b => if isKey a = true then (dPrs r e S2).bindX fun l S3 => .ok ((a, b) :: l) S3 else .no
    | _, _ => .no := rfl
@[simp] theorem dLoopU_nil (i : Nat) (body : DS) (e : Env') (S : Store) : dLoopU i body [] e S = .ok (.nx e) S := rfl
theorem dLoopU_cons (i : Nat) (body : DS) (u : U) (r : List U) (e : Env') (S : Store) : dLoopU i body (u :: r) e S = match body (e.set i (some u)) S with
    | .ok (.nx e2) S2 => dLoopU i body r e2 S2
    | .ok (.ct e2) S2 => dLoopU i body r e2 S2
    | .ok (.bk e2) S2 => .ok (.nx e2) S2
    | r => r := rfl
@[simp] theorem tgL_ap (n : Nat) (r : List W → Env' → Option Env') (ws : List W) (e : Env') : tgL n r (.lst ws) e = if ws.length = n then r ws e else none := rfl
@[simp] theorem fAddI_int (i j : Int) : fAddI (.int i) (.int j) = some (.val (.int (i + j))) := rfl
@[simp] theorem fDict_dct (l : List (W × W)) : fDict [.dct l] = some (.nd l) := rfl
@[simp] theorem fStr_str (x : List Nat) : fStr [.str x] = some (.val (.str x)) := rfl
@[simp] theorem fIntW_bl (b : Bool) : fIntW [.bl b] = some (.val (.int (b2n b))) := rfl
@[simp] theorem fIntW_int (i : Int) : fIntW [.int i] = some (.val (.int i)) := rfl
@[simp] theorem isKey_str (x : List Nat) : isKey (.str x) = true := rfl
@[simp] theorem fGet_str (l : List (W × W)) (x : List Nat) (w : W) : fGet (.dct l) (.str x) w = some (.val ((lookD (.str x) l).getD w)) := rfl
end Bel

/-! shared mirrors -/
namespace Bel
open PySem PySem.Spec PyProof.Rows L2
def c_MOST_LETTERS : W := .int 6
def c_KEPT : W := .tup [.str [115, 101, 116], .str [106, 117, 109, 112], .str [115, 97, 121], .str [115, 116, 97, 114, 116], .str [119, 97, 105, 116], .str [119, 97, 116, 99, 104], .str [114, 105, 110, 103], .str [116, 114, 97, 112], .str [104, 111, 108, 100], .str [102, 114, 101, 101], .str [114, 101, 115, 116], .str [98, 97, 99, 107], .str [114, 101, 97, 100], .str [102, 114, 111, 110, 116], .str [111, 119, 110], .str [110, 101, 119], .str [117, 112], .str [99, 104, 105, 108, 100], .str [106, 111, 98], .str [102, 97, 108, 108], .str [112, 108, 97, 105, 110], .str [115, 99, 114, 105, 112, 116], .str [110, 111, 110, 101]]
def c_BELLS : W := .tup [.str [107, 105, 108, 108], .str [104, 97, 108, 116], .str [115, 116, 111, 112], .str [104, 97, 110, 103], .str [101, 110, 100], .str [119, 97, 107, 101], .str [103, 111], .str [100, 111, 110, 101]]
def c_LETTERS : W := .str [97, 98, 99, 100, 101, 102, 103, 104, 105, 106, 107, 108, 109, 110, 111, 112, 113, 114, 115, 116, 117, 118, 119, 120, 121, 122]
def c_MOST_WITHIN : W := .int 6
def c_MOST_NUMBER : W := .int 999
def d_SIGNS : List (List Nat × W) := [([112, 108, 117, 115], .str [32, 43, 32]), ([108, 101, 115, 115], .str [32, 60, 32]), ([115, 97, 109, 101], .str [32, 61, 32])]
def c_SIGNS : W := .kdc d_SIGNS
def g__law_state_b1 : DS := (dSeq (dAsg 5 (dBin false fMod (dBin false fMul (dBin false fAdd (dVar 2) (dBin false fMul (dC (.int 7919)) (dBin false fAdd (dBin false fAdd (dBin false fMul (dC (.int 40)) (dVar 1)) (dVar 4)) (dC (.int 1))))) (dC (.int 48271))) (dC (.int 2147483647))))
    (dAsg 3 (dBin false fAdd (dBin false fMul (dVar 3) (dC (.int 2147483629))) (dBin false fMod (dBin false fMul (dVar 5) (dBin false fAdd (dBin false fAdd (dVar 5) (dBin false fMul (dC (.int 2)) (dVar 4))) (dC (.int 1)))) (dC (.int 2147483629))))))
def g__law_state : DF := fnD 6
    (dSeq (dAsg 2 (dIf (dT (dBin false (fCmp fun i j => decide (i < j)) (dVar 1) (dCall false fLen (dCons (dVar 0) dNil)))) (dCall false fAbs (dCons (dBin false fIx (dVar 0) (dVar 1)) dNil)) (dC (.int 0))))
    (dSeq (dIfS (dT (dBin false (fCmp fun i j => decide (j ≤ i)) (dVar 2) (dBin false fPow (dC (.int 10)) (dC (.int 18))))) (dRet (dDisp true .nl (dCons (dBin false fSub (dVar 2) (dBin false fPow (dC (.int 10)) (dC (.int 18)))) dNil))) dNext)
    (dSeq (dAsg 3 (dC (.int 0)))
    (dSeq (dFor (dRng1 (dC (.int 14))) (tgN 4) g__law_state_b1)
    (dRet (dDisp true .nl (dCons (dVar 3) dNil)))))))
def g__law_next : DF := fnD 3
    (dSeq (dAsg 2 (dBin false fMod (dBin false fIx (dVar 0) (dC (.int 0))) (dVar 1)))
    (dSeq (dSetL (dVar 0) (dC (.int 0)) (dBin false fDiv (dBin false fIx (dVar 0) (dC (.int 0))) (dVar 1)))
    (dRet (dVar 2))))
def g__law_pick : DF := fnD 2
    (dRet (dBin false fIx (dVar 1) (dFn g__law_next 2 (dCons (dVar 0) (dCons (dCall false fLen (dCons (dVar 1) dNil)) dNil)))))
def g__law_term : Nat → DF
  | 0 => fun _ _ => .no
  | r + 1 => fnD 5
    (dSeq (dAsg 3 (dFn g__law_next 2 (dCons (dVar 0) (dCons (dC (.int 6)) dNil))))
    (dSeq (dIfS (dOr (dT (dBin false fEq (dVar 2) (dC (.int 1)))) (dT (dBin false (fCmp fun i j => decide (i < j)) (dVar 3) (dC (.int 2))))) (dSeq (dIfS (dT (dBin false fEq (dBin false fMod (dVar 3) (dC (.int 2))) (dC (.int 0)))) (dRet (dDisp false .nt (dCons (dC (.str [98, 111, 120])) (dCons (dFn g__law_pick 2 (dCons (dVar 0) (dCons (dVar 1) dNil))) dNil)))) dNext)
    (dRet (dDisp false .nt (dCons (dC (.str [110, 117, 109, 98, 101, 114])) (dCons (dFn g__law_pick 2 (dCons (dVar 0) (dCons (dDisp false .nl (dCons (dC (.int 0)) (dCons (dC (.int 1)) (dCons (dC (.int 9)) (dCons (dC (.int 10)) (dCons (dC (.int 99)) (dCons (dC (.int 100)) (dCons (dC (.int 500)) (dCons (dC (.int 998)) (dCons (dC (.int 999)) (dCons (dFn g__law_next 2 (dCons (dVar 0) (dCons (dC (.int 1000)) dNil))) dNil))))))))))) dNil))) dNil))))) dNext)
    (dSeq (dAsg 4 (dFn (g__law_term r) 3 (dCons (dVar 0) (dCons (dVar 1) (dCons (dBin false fSub (dVar 2) (dC (.int 1))) dNil)))))
    (dRet (dDisp false .nt (dCons (dBin false fIx (dDisp false .nl (dCons (dC (.str [112, 108, 117, 115])) (dCons (dC (.str [108, 101, 115, 115])) (dCons (dC (.str [115, 97, 109, 101])) (dCons (dC (.str [112, 108, 117, 115])) dNil))))) (dBin false fSub (dVar 3) (dC (.int 2)))) (dCons (dVar 4) (dCons (dFn (g__law_term r) 3 (dCons (dVar 0) (dCons (dVar 1) (dCons (dBin false fSub (dVar 2) (dC (.int 1))) dNil)))) dNil))))))))
def g__law_chain_b1 : DS := (dSeq (dAsg 5 (dDisp false .nt (dCons (dVar 3) (dCons (dFn (g__law_term 8) 3 (dCons (dVar 0) (dCons (dVar 1) (dCons (dC (.int 1)) dNil)))) dNil))))
    (dSeq (dAsg 6 (dFn g__law_pick 2 (dCons (dVar 0) (dCons (dDisp false .nl (dCons (dC (.str [112, 108, 117, 115])) (dCons (dC (.str [108, 101, 115, 115])) (dCons (dC (.str [115, 97, 109, 101])) dNil)))) dNil))))
    (dAsg 3 (dBin false fAdd (dDisp false .nt (dCons (dVar 6) dNil)) (dStep false (dVar 5) (dBin false fIx (dDisp false .nl (dCons (dC (.int 1)) (dCons (dNeg (dC (.int 1))) dNil))) (dFn g__law_next 2 (dCons (dVar 0) (dCons (dC (.int 2)) dNil)))))))))
def g__law_chain : DF := fnD 7
    (dSeq (dAsg 3 (dFn (g__law_term 8) 3 (dCons (dVar 0) (dCons (dVar 1) (dCons (dC (.int 1)) dNil)))))
    (dSeq (dFor (dRng1 (dBin false fSub (dVar 2) (dC (.int 1)))) (tgN 4) g__law_chain_b1)
    (dRet (dVar 3))))
def g__law_drawn : DF := fnD 3
    (dSeq (dAsg 2 (dBin false fAdd (dC (.int 1)) (dFn g__law_next 2 (dCons (dVar 0) (dCons (dC (.int 6)) dNil)))))
    (dSeq (dIfS (dT (dBin false fEq (dFn g__law_next 2 (dCons (dVar 0) (dCons (dC (.int 2)) dNil))) (dC (.int 0)))) (dRet (dFn g__law_chain 3 (dCons (dVar 0) (dCons (dVar 1) (dCons (dVar 2) dNil))))) dNext)
    (dRet (dFn (g__law_term 8) 3 (dCons (dVar 0) (dCons (dVar 1) (dCons (dVar 2) dNil)))))))
def g__law_kept : DF := fnD 1
    (dSeq (dAsg 0 (dDisp false .nl (dCons (dC (.str [115, 101, 116])) (dCons (dC (.str [106, 117, 109, 112])) (dCons (dC (.str [115, 97, 121])) (dCons (dC (.str [115, 116, 97, 114, 116])) (dCons (dC (.str [119, 97, 105, 116])) (dCons (dC (.str [119, 97, 116, 99, 104])) (dCons (dC (.str [114, 105, 110, 103])) (dCons (dC (.str [116, 114, 97, 112])) (dCons (dC (.str [104, 111, 108, 100])) (dCons (dC (.str [102, 114, 101, 101])) (dCons (dC (.str [114, 101, 115, 116])) (dCons (dC (.str [98, 97, 99, 107])) (dCons (dC (.str [114, 101, 97, 100])) dNil)))))))))))))))
    (dSeq (dAsg 0 (dBin false fAdd (dVar 0) (dDisp false .nl (dCons (dC (.str [102, 114, 111, 110, 116])) (dCons (dC (.str [111, 119, 110])) (dCons (dC (.str [110, 101, 119])) (dCons (dC (.str [117, 112])) (dCons (dC (.str [99, 104, 105, 108, 100])) (dCons (dC (.str [106, 111, 98])) (dCons (dC (.str [102, 97, 108, 108])) (dCons (dC (.str [112, 108, 97, 105, 110])) (dCons (dC (.str [115, 99, 114, 105, 112, 116])) (dCons (dC (.str [110, 111, 110, 101])) dNil)))))))))))))
    (dRet (dBin false fAdd (dVar 0) (dDisp false .nl (dCons (dC (.str [107, 105, 108, 108])) (dCons (dC (.str [104, 97, 108, 116])) (dCons (dC (.str [115, 116, 111, 112])) (dCons (dC (.str [104, 97, 110, 103])) (dCons (dC (.str [101, 110, 100])) (dCons (dC (.str [119, 97, 107, 101])) (dCons (dC (.str [103, 111])) (dCons (dC (.str [100, 111, 110, 101])) dNil)))))))))))))
def g__law_name_e1 : DE := (dFn g__law_pick 2 (dCons (dVar 0) (dCons (dVar 4) dNil)))
def g__law_name : DF := fnD 6
    (dSeq (dAsg 1 (dFn g__law_pick 2 (dCons (dVar 0) (dCons (dFn g__law_kept 0 dNil) dNil))))
    (dSeq (dAsg 2 (dFn g__law_next 2 (dCons (dVar 0) (dCons (dC (.int 6)) dNil))))
    (dSeq (dAsg 3 (dBin false fIx (dDisp false .nl (dCons (dSl false (dVar 1) (dPart (dC (.int 1))) dNoPart) (dCons (dSl false (dVar 1) dNoPart (dPart (dNeg (dC (.int 1))))) (dCons (dBin false fAdd (dVar 1) (dC (.str [115]))) (dCons (dRevS (dVar 1)) (dCons (dC (.str [])) (dCons (dC (.str [])) dNil))))))) (dVar 2)))
    (dSeq (dIfS (dOr (dT (dBin false fInO (dVar 3) (dFn g__law_kept 0 dNil))) (dNot (dT (dChain (fCmp fun i j => decide (i ≤ j)) (fCmp fun i j => decide (i ≤ j)) (dC (.int 1)) (dCall false fLen (dCons (dVar 3) dNil)) (dC (.int 6)))))) (dSeq (dAsg 4 (dC (.str [97, 98, 99, 100, 101, 102, 103, 104, 105, 106, 107, 108, 109, 110, 111, 112, 113, 114, 115, 116, 117, 118, 119, 120, 121, 122])))
    (dAsg 3 (dMeth false isStr fJoin (dC (.str [])) (dCons (dLc false (dRng1 (dBin false fAdd (dC (.int 1)) (dFn g__law_next 2 (dCons (dVar 0) (dCons (dC (.int 6)) dNil))))) (tgN 5) dYes g__law_name_e1 [5]) dNil)))) dNext)
    (dRet (dIf (dT (dBin false fInO (dVar 3) (dFn g__law_kept 0 dNil))) (dBin false fAdd (dC (.str [113])) (dSl false (dVar 3) (dPart (dC (.int 1))) dNoPart)) (dVar 3)))))))
def g_is_number : DF := fnD 2
    (dRet ((dAndV (dIsT isInt (dVar 0)) (dAndV (dNotV (dIsT isBl (dVar 0))) (dChain (fCmp fun i j => decide (i ≤ j)) (fCmp fun i j => decide (i ≤ j)) (dC (.int 0)) (dVar 0) (dVar 1))))))
def g_is_name_e1 : DE := (dBin false fInO (dVar 1) (dC c_LETTERS))
def g_is_name : DF := fnD 2
    (dSeq (dIfS (dOr (dNot (dT (dIsT isStr (dVar 0)))) (dOr (dNot (dT (dChain (fCmp fun i j => decide (i ≤ j)) (fCmp fun i j => decide (i ≤ j)) (dC (.int 1)) (dCall false fLen (dCons (dVar 0) dNil)) (dC c_MOST_LETTERS)))) (dOr (dT (dBin false fInO (dVar 0) (dC c_KEPT))) (dT (dBin false fInO (dVar 0) (dC c_BELLS)))))) (dRet (dC (.bl false))) dNext)
    (dRet (dCall false fAll (dCons (dLc false (dItS (dVar 0)) (tgN 1) dYes g_is_name_e1 [1]) dNil))))
def g_stands_so_e1 (rec : DF) : DE := (dFn rec 2 (dCons (dVar 2) (dCons (dBin false fAdd (dVar 1) (dC (.int 1))) dNil)))
def g_stands_so : Nat → DF
  | 0 => fun _ _ => .no
  | r + 1 => fnD 3
    (dSeq (dIfS (dOr (dT (dBin false (fCmp fun i j => decide (j < i)) (dVar 1) (dC c_MOST_WITHIN))) (dOr (dNot (dT (dIsT isTup (dVar 0)))) (dOr (dT (dBin false fEq (dCall false fLen (dCons (dVar 0) dNil)) (dC (.int 0)))) (dNot (dT (dIsT isStr (dBin false fIx (dVar 0) (dC (.int 0))))))))) (dRet (dC (.bl false))) dNext)
    (dSeq (dIfS (dT (dBin false fEq (dBin false fIx (dVar 0) (dC (.int 0))) (dC (.str [110, 117, 109, 98, 101, 114])))) (dRet ((dAndV (dBin false fEq (dCall false fLen (dCons (dVar 0) dNil)) (dC (.int 2))) (dFn g_is_number 2 (dCons (dBin false fIx (dVar 0) (dC (.int 1))) (dCons (dC c_MOST_NUMBER) dNil)))))) dNext)
    (dSeq (dIfS (dT (dBin false fEq (dBin false fIx (dVar 0) (dC (.int 0))) (dC (.str [98, 111, 120])))) (dRet ((dAndV (dBin false fEq (dCall false fLen (dCons (dVar 0) dNil)) (dC (.int 2))) (dFn g_is_name 1 (dCons (dBin false fIx (dVar 0) (dC (.int 1))) dNil))))) dNext)
    (dRet ((dAndV (dBin false fInO (dBin false fIx (dVar 0) (dC (.int 0))) (dC c_SIGNS)) (dAndV (dBin false fEq (dCall false fLen (dCons (dVar 0) dNil)) (dC (.int 3))) (dCall false fAll (dCons (dLc false (dItT (dSl false (dVar 0) (dPart (dC (.int 1))) dNoPart)) (tgN 2) dYes (g_stands_so_e1 (g_stands_so r)) [2]) dNil)))))))))
def g_is_term : DF := fnD 1
    (dRet (dFn (g_stands_so 8) 2 (dCons (dVar 0) (dCons (dC (.int 1)) dNil))))
def g__law_nested_b1 : DS := (dAsg 1 (dBin false fIx (dDisp false .nl (dCons (dDisp false .nt (dCons (dC (.str [112, 108, 117, 115])) (dCons (dVar 1) (dCons (dDisp false .nt (dCons (dC (.str [110, 117, 109, 98, 101, 114])) (dCons (dC (.int 1)) dNil))) dNil)))) (dCons (dDisp false .nt (dCons (dC (.str [115, 97, 109, 101])) (dCons (dDisp false .nt (dCons (dC (.str [110, 117, 109, 98, 101, 114])) (dCons (dC (.int 0)) dNil))) (dCons (dVar 1) dNil)))) dNil))) (dBin false fMod (dVar 2) (dC (.int 2)))))
def g__law_nested : DF := fnD 3
    (dSeq (dAsg 1 (dDisp false .nt (dCons (dC (.str [98, 111, 120])) (dCons (dC (.str [120])) dNil))))
    (dSeq (dFor (dRng1 (dBin false fSub (dVar 0) (dC (.int 1)))) (tgN 2) g__law_nested_b1)
    (dRet (dVar 1))))
def g__law_is_name_t1 : DT := (dT (dBin false fNotInO (dVar 1) (dC (.str [97, 98, 99, 100, 101, 102, 103, 104, 105, 106, 107, 108, 109, 110, 111, 112, 113, 114, 115, 116, 117, 118, 119, 120, 121, 122]))))
def g__law_is_name : DF := fnD 2
    (dSeq (dIfS (dOr (dNot (dT (dIsT isStr (dVar 0)))) (dOr (dT (dBin false fEq (dCall false fLen (dCons (dVar 0) dNil)) (dC (.int 0)))) (dOr (dT (dBin false (fCmp fun i j => decide (j < i)) (dCall false fLen (dCons (dVar 0) dNil)) (dC (.int 6)))) (dT (dBin false fInO (dVar 0) (dFn g__law_kept 0 dNil)))))) (dRet (dC (.bl false))) dNext)
    (dRet (dBin false fEq (dLc false (dItS (dVar 0)) (tgN 1) g__law_is_name_t1 (dVar 1) [1]) (dDisp false .nl dNil))))
def g__law_is_term_b1 : DS := (dSeq (dAsgT (tgT 2 (tgs1 (tgN 2) (tgs1 (tgN 3) tgs0))) (dMut fPop (dVar 1) dNil))
    (dSeq (dIfS (dOr (dT (dBin false (fCmp fun i j => decide (j < i)) (dVar 3) (dC (.int 6)))) (dOr (dNot (dT (dIsT isTup (dVar 2)))) (dOr (dT (dBin false (fCmp fun i j => decide (i < j)) (dCall false fLen (dCons (dVar 2) dNil)) (dC (.int 2)))) (dNot (dT (dIsT isStr (dBin false fIx (dVar 2) (dC (.int 0))))))))) (dRet (dC (.bl false))) dNext)
    (dIfS (dT (dBin false fEq (dBin false fIx (dVar 2) (dC (.int 0))) (dC (.str [110, 117, 109, 98, 101, 114])))) (dIfS (dOr (dT (dBin false fNe (dCall false fLen (dCons (dVar 2) dNil)) (dC (.int 2)))) (dOr (dT (dIsT isBl (dBin false fIx (dVar 2) (dC (.int 1))))) (dOr (dNot (dT (dIsT isInt (dBin false fIx (dVar 2) (dC (.int 1)))))) (dNot (dT (dChain (fCmp fun i j => decide (i ≤ j)) (fCmp fun i j => decide (i ≤ j)) (dC (.int 0)) (dBin false fIx (dVar 2) (dC (.int 1))) (dC (.int 999)))))))) (dRet (dC (.bl false))) dNext) (dIfS (dT (dBin false fEq (dBin false fIx (dVar 2) (dC (.int 0))) (dC (.str [98, 111, 120])))) (dIfS (dOr (dT (dBin false fNe (dCall false fLen (dCons (dVar 2) dNil)) (dC (.int 2)))) (dNot (dT (dFn g__law_is_name 1 (dCons (dBin false fIx (dVar 2) (dC (.int 1))) dNil))))) (dRet (dC (.bl false))) dNext) (dIfS (dOr (dT (dBin false fNotInO (dBin false fIx (dVar 2) (dC (.int 0))) (dDisp false .nt (dCons (dC (.str [112, 108, 117, 115])) (dCons (dC (.str [108, 101, 115, 115])) (dCons (dC (.str [115, 97, 109, 101])) dNil)))))) (dT (dBin false fNe (dCall false fLen (dCons (dVar 2) dNil)) (dC (.int 3))))) (dRet (dC (.bl false))) (dAsg 1 (dBin true fAdd (dVar 1) (dDisp false .nl (dCons (dDisp false .nt (dCons (dBin false fIx (dVar 2) (dC (.int 1))) (dCons (dBin false fAdd (dVar 3) (dC (.int 1))) dNil))) (dCons (dDisp false .nt (dCons (dBin false fIx (dVar 2) (dC (.int 2))) (dCons (dBin false fAdd (dVar 3) (dC (.int 1))) dNil))) dNil))))))))))
def g__law_is_term : DF := fnD 4
    (dSeq (dAsg 1 (dDisp true .nl (dCons (dDisp false .nt (dCons (dVar 0) (dCons (dC (.int 1)) dNil))) dNil)))
    (dSeq (dWhileN 2000 (dT (dBin false fNeNil (dVar 1) (dDisp false .nl dNil))) g__law_is_term_b1)
    (dRet (dC (.bl true)))))
end Bel

/-! Draws and names. -/
namespace Bel
open PySem PySem.Spec PyProof.Rows L2
section
variable {S : Store} {k : Nat} {n m : Int}
theorem next_w (hk : k < S.length) (h0 : 0 < m) (h1 : m < 1073741824) : g__law_next [.o k, .v (.int m)] (S.set k (stt n)) = .ok (.v (.int (n % m))) (S.set k (stt (n / m))) := by
  simp [g__law_next, hk, fMod_int h0, fDiv_int h0 h1, ixN]
theorem pickL_w (hk : k < S.length) {l : List W} (h0 : l ≠ []) (h1 : l.length < 1073741824) : g__law_pick [.o k, .v (.lst l)] (S.set k (stt n)) = .ok (.v (pk l (n % l.length))) (S.set k (stt (n / l.length))) := by
  have hp : 0 < l.length := List.length_pos_iff.mpr h0
  have e := next_w (n := n) (m := l.length) hk (by omega) (by omega)
  simp [g__law_pick, e, ix_pk (l := l) (Int.emod_nonneg n (by omega : (l.length : Int) ≠ 0)) (Int.emod_lt_of_pos n (by omega))]
theorem pickT_w (hk : k < S.length) {l : List W} (h0 : l ≠ []) (h1 : l.length < 1073741824) : g__law_pick [.o k, .v (.tup l)] (S.set k (stt n)) = .ok (.v (pk l (n % l.length))) (S.set k (stt (n / l.length))) := by
  have hp : 0 < l.length := List.length_pos_iff.mpr h0
  have e := next_w (n := n) (m := l.length) hk (by omega) (by omega)
  simp [g__law_pick, e, ixT_pk (l := l) (Int.emod_nonneg n (by omega : (l.length : Int) ≠ 0)) (Int.emod_lt_of_pos n (by omega))]
theorem pick_mem {l : List W} (h0 : l ≠ []) : pk l (n % l.length) ∈ l := by
  have hp : 0 < l.length := List.length_pos_iff.mpr h0
  exact pk_mem (Int.emod_nonneg n (by omega)) (Int.emod_lt_of_pos n (by omega))
theorem pickL (hk : k < S.length) {l : List W} (h0 : l ≠ []) (h1 : l.length < 1073741824) : ∃ w n', w ∈ l ∧ g__law_pick [.o k, .v (.lst l)] (S.set k (stt n)) = .ok (.v w) (S.set k (stt n')) := ⟨_, _, pick_mem h0, pickL_w hk h0 h1⟩
theorem pickS (hk : k < S.length) {l : List Nat} (h0 : l ≠ []) (h1 : l.length < 1073741824) : ∃ c n', c ∈ l ∧ g__law_pick [.o k, .v (.str l)] (S.set k (stt n)) = .ok (.v (.str [c])) (S.set k (stt n')) := by
  have hp : 0 < l.length := List.length_pos_iff.mpr h0
  have e := next_w (n := n) (m := l.length) hk (by omega) (by omega)
  have i0 := Int.emod_nonneg n (by omega : (l.length : Int) ≠ 0)
  have i1 := Int.emod_lt_of_pos n (by omega : (0 : Int) < l.length)
  have hl : (n % (l.length : Int)).toNat < l.length := by omega
  refine ⟨l[(n % (l.length : Int)).toNat], n / l.length, List.getElem_mem hl, ?_⟩
  simp [g__law_pick, e, fIx, atW_in i0 i1, hl]
end
/-! ### the words -/
def keptw : List (List Nat) := [[115, 101, 116], [106, 117, 109, 112], [115, 97, 121], [115, 116, 97, 114, 116], [119, 97, 105, 116], [119, 97, 116, 99, 104], [114, 105, 110, 103], [116, 114, 97, 112], [104, 111, 108, 100], [102, 114, 101, 101], [114, 101, 115, 116], [98, 97, 99, 107], [114, 101, 97, 100], [102, 114, 111, 110, 116], [111, 119, 110], [110, 101, 119], [117, 112], [99, 104, 105, 108, 100], [106, 111, 98], [102, 97, 108, 108], [112, 108, 97, 105, 110], [115, 99, 114, 105, 112, 116], [110, 111, 110, 101]]
def bellw : List (List Nat) := [[107, 105, 108, 108], [104, 97, 108, 116], [115, 116, 111, 112], [104, 97, 110, 103], [101, 110, 100], [119, 97, 107, 101], [103, 111], [100, 111, 110, 101]]
def abc : List Nat := [97, 98, 99, 100, 101, 102, 103, 104, 105, 106, 107, 108, 109, 110, 111, 112, 113, 114, 115, 116, 117, 118, 119, 120, 121, 122]
def words : List (List Nat) := keptw ++ bellw
theorem c_kept : c_KEPT = .tup (keptw.map W.str) := rfl
theorem c_bells : c_BELLS = .tup (bellw.map W.str) := rfl
theorem c_letters : c_LETTERS = .str abc := rfl
theorem abc_is : ([97, 98, 99, 100, 101, 102, 103, 104, 105, 106, 107, 108, 109, 110, 111, 112, 113, 114, 115, 116, 117, 118, 119, 120, 121, 122] : List Nat) = abc := rfl
theorem abc_len : abc.length < 1073741824 := by decide
theorem abc_ne : abc ≠ [] := by decide
theorem kept_ne : words.map W.str ≠ [] := by decide
theorem kept_len : (words.map W.str).length < 1073741824 := by decide
theorem kept_is {S : Store} : g__law_kept [] S = .ok (.v (.lst (words.map W.str))) S := by
  unfold g__law_kept fnD
  show fin S.length (.v (.lst (words.map W.str))) S = _
  simp
def nm (x : List Nat) : Bool := decide (1 ≤ x.length ∧ x.length ≤ 6 ∧ x ∉ words) && x.all fun c => decide (c ∈ abc)
theorem nm_len {x : List Nat} (h : nm x = true) : 1 ≤ x.length ∧ x.length ≤ 6 := by
  unfold nm at h
  simp at h
  omega
theorem nm_abc {x : List Nat} (h : nm x = true) : ∀ c ∈ x, c ∈ abc := by
  unfold nm at h
  simp at h
  exact h.2
theorem is_name_other {S : Store} {w : W} (h : isStr w = false) (h2 : isExc w = false) : g_is_name [.v w] S = .ok (.v (.bl false)) S := by
  simp [g_is_name, h, h2]
theorem is_name_str {S : Store} {x : List Nat} : g_is_name [.v (.str x)] S = .ok (.v (.bl (nm x))) S := by
  have z := lcL_map (t := tgN 1) (te := g_is_name_e1) (env := wipeE [some (.v (.str x)), none] [1]) (S := S) (fun c : Nat => W.str [c]) (fun c => .bl (decide (c ∈ abc))) x (fun c hc => ⟨_, rfl, by simp [g_is_name_e1, wipeE, c_letters]⟩)
  simp [g_is_name, c_kept, c_bells, in_tup, c_MOST_LETTERS]
  by_cases h1 : 1 ≤ x.length
  · by_cases h2 : x.length ≤ 6
    · have i1 : (1 : Int) ≤ (x.length : Int) := by omega
      have i2 : (x.length : Int) ≤ 6 := by omega
      by_cases h3 : x ∈ keptw
      · have h5 : x ∈ words := List.mem_append_left _ h3
        simp [i1, i2, h3, h5, nm]
      · by_cases h4 : x ∈ bellw
        · have h5 : x ∈ words := List.mem_append_right _ h4
          simp [i1, i2, h3, h4, h5, nm]
        · have h5 : x ∉ words := fun z => (List.mem_append.mp z).elim h3 h4
          have hl : x.length ≤ 16777216 := by omega
          simp [i1, i2, h3, h4, hl, z, fAll_map, nm, h1, h2, h5]
    · have i1 : (1 : Int) ≤ (x.length : Int) := by omega
      have i2 : ¬ (x.length : Int) ≤ 6 := by omega
      simp [i1, i2, nm, h2]
  · have i1 : ¬ (1 : Int) ≤ (x.length : Int) := by omega
    simp [i1, nm, h1]
@[simp] theorem isEmpty_strs (l : List (List Nat)) : (l.map W.str).isEmpty = l.isEmpty := by cases l <;> rfl
theorem eq_nil (l : List (List Nat)) : fEq (.lst (l.map W.str)) (.lst []) = some (.val (.bl l.isEmpty)) := by
  have h1 : shp 64 (.lst (l.map W.str)) = true := shps_str 62 l
  have h2 : shp 64 (.lst []) = true := rfl
  unfold fEq
  rw [if_pos ⟨h1, h2⟩]
  cases l with
  | nil => simp [toD, toDs, PyData.eqv, PyData.eqvAll]
  | cons a r => simp [toD, toDs, PyData.eqv, PyData.eqvAll]
theorem lname_other {S : Store} {w : W} (h : isStr w = false) (h2 : isExc w = false) : g__law_is_name [.v w] S = .ok (.v (.bl false)) S := by
  simp [g__law_is_name, h, h2]
theorem lname_str {S : Store} {x : List Nat} : g__law_is_name [.v (.str x)] S = .ok (.v (.bl (nm x))) S := by
  have z := lcL_pure (t := tgN 1) (tt := g__law_is_name_t1) (te := dVar 1) (env := wipeE [some (.v (.str x)), none] [1]) (S := S) (fun w => match w with | .str [c] => !decide (c ∈ abc) | _ => true) id (x.map fun c => W.str [c]) (fun w hw => by
      obtain ⟨c, hc, rfl⟩ := List.mem_map.mp hw
      exact ⟨_, rfl, by simp [g__law_is_name_t1, wipeE, abc_is], fun _ => rfl⟩)
  have z2 : List.map id (List.filter (fun w => match w with | .str [c] => !decide (c ∈ abc) | _ => true) (x.map fun c => W.str [c])) = ((x.filter fun c => !decide (c ∈ abc)).map fun c => [c]).map W.str := by
    simp [List.filter_map, Function.comp_def]
  rw [z2] at z
  simp [g__law_is_name, kept_is, in_lst]
  by_cases h1 : x = []
  · subst h1
    simp [nm]
  · have hp : 0 < x.length := List.length_pos_iff.mpr h1
    by_cases h2 : x.length ≤ 6
    · have i2 : ¬ ((6 : Int) < x.length) := by omega
      have i3 : 1 ≤ x.length := by omega
      by_cases h3 : x ∈ words
      · simp [h1, i2, h3, nm]
      · have hl : x.length ≤ 16777216 := by omega
        simp only [List.map_map] at z
        have en := eq_nil ((x.filter fun c => !decide (c ∈ abc)).map fun c => [c])
        simp only [List.map_map] at en
        have ea : ((x.filter fun c => !decide (c ∈ abc)).map fun c => [c]).isEmpty = nm x := by
          unfold nm
          rw [decide_eq_true ⟨i3, h2, h3⟩, Bool.true_and, Bool.eq_iff_iff]
          simp
        simp [h1, i2, h3, hl, z, en, ea]
    · have i2 : ((6 : Int) < x.length) := by omega
      simp [h1, i2, nm, h2]
/-! ### names drawn -/
theorem txts_one (xs : List Nat) : txts (xs.map fun c => W.str [c]) = some (xs.map fun c => [c]) := by
  induction xs with
  | nil => rfl
  | cons a r ih => simp [txts, ih]
theorem joinL_one (xs : List Nat) : TL.joinL [] (xs.map fun c => [c]) = xs := by
  induction xs with
  | nil => rfl
  | cons a r ih =>
    cases r with
    | nil => rfl
    | cons b q => simpa [TL.joinL] using ih
theorem join_one {xs : List Nat} (h : xs.length ≤ 16777216) : fJoin (.str []) [.lst (xs.map fun c => .str [c])] = some (.val (.str xs)) := by
  have e : ((xs.map fun c => [c]).map List.length).sum = xs.length := by
    clear h
    induction xs with
    | nil => rfl
    | cons a r ih => rw [List.map_cons, List.map_cons, List.sum_cons, ih]; simp; omega
  unfold fJoin
  simp only [txts_one, e, joinL_one]
  rw [if_pos (by simpa using h)]
theorem abc_words : ∀ a ∈ words, (a.all fun c => decide (c ∈ abc)) = true ∧ 1 ≤ a.length ∧ a.length ≤ 6 := by decide +kernel
theorem no_q : ∀ a ∈ words, a.head? ≠ some 113 := by decide +kernel
section
variable {S : Store} {k : Nat} {n m : Int}
/-- signs drawn into a text -/
theorem draw_signs {l : List Nat} {t : W → Env' → Option Env'} {te : DE} {env : Env'} (hte : ∀ (w : W) (n : Int), ∃ e1, t w env = some e1 ∧ ∃ c n', c ∈ l ∧ te e1 (S.set k (stt n)) = .ok (.v (.str [c])) (S.set k (stt n'))) :
    ∀ (ws : List W) (n : Int), ∃ (xs : List Nat) (n' : Int), lcL t dYes te env ws (S.set k (stt n)) = .ok (xs.map fun c => .str [c]) (S.set k (stt n')) ∧ xs.length = ws.length ∧ ∀ c ∈ xs, c ∈ l
  | [], n => ⟨[], n, rfl, rfl, fun _ z => nomatch z⟩
  | w :: r, n => by
    obtain ⟨e1, h1, c, n1, hc, h2⟩ := hte w n
    obtain ⟨xs, n2, h3, h4, h5⟩ := draw_signs hte r n1
    refine ⟨c :: xs, n2, ?_, by simp [h4], fun d hd => ?_⟩
    · rw [lcL_cons, h1]
      simp [h2, h3]
    · rcases List.mem_cons.mp hd with rfl | z
      · exact hc
      · exact h5 d z
theorem name_end {f : List Nat} (g1 : 1 ≤ f.length) (g2 : f.length ≤ 6) (hg : ∀ c ∈ f, c ∈ abc) : nm (if f ∈ words then 113 :: cutL f (some 1) none else f) = true := by
  by_cases hw : f ∈ words
  · rw [if_pos hw]
    have hq : (113 :: cutL f (some 1) none) ∉ words := fun z => no_q _ z rfl
    have hl : (cutL f (some 1) none).length = f.length - 1 := by
      simp [cutL, HT.sIx]
      omega
    have hm := (cut_sub f (some 1) none).1
    unfold nm
    rw [decide_eq_true ⟨by simp, by simp only [List.length_cons]; omega, hq⟩, Bool.true_and]
    simp only [List.all_cons, Bool.and_eq_true, List.all_eq_true, decide_eq_true_eq]
    exact ⟨by decide, fun c hc => hg c (hm c hc)⟩
  · rw [if_neg hw]
    unfold nm
    rw [decide_eq_true ⟨g1, g2, hw⟩, Bool.true_and]
    simpa using hg
theorem six_ix {a b c d e f : W} {r : Int} (h0 : 0 ≤ r) (h1 : r < 6) : ∃ w, w ∈ [a, b, c, d, e, f] ∧ fIx (.lst [a, b, c, d, e, f]) (.int r) = some (.val w) :=
  ⟨_, pk_mem h0 (by simpa using h1), ix_pk h0 (by simpa using h1)⟩
theorem name_w (hk : k < S.length) : ∃ x n', g__law_name [.o k] (S.set k (stt n)) = .ok (.v (.str x)) (S.set k (stt n')) ∧ nm x = true := by
  obtain ⟨w, n1, hw, e1⟩ := pickL (n := n) hk kept_ne kept_len
  obtain ⟨a, ha, rfl⟩ := List.mem_map.mp hw
  have N := fun n => next_w (n := n) (m := 6) hk (by decide) (by decide)
  obtain ⟨aw1, aw2, aw3⟩ := abc_words a ha
  obtain ⟨w, hw, e3⟩ := six_ix (a := .str (cutL a (some 1) none)) (b := .str (cutL a none (some (-1)))) (c := .str (a ++ [115])) (d := .str a.reverse) (e := .str []) (f := .str []) (Int.emod_nonneg n1 (by decide : (6 : Int) ≠ 0)) (Int.emod_lt_of_pos n1 (by decide))
  obtain ⟨f, rfl, hf⟩ : ∃ f, w = .str f ∧ ∀ c ∈ f, c ∈ abc := by
    have al : ∀ c ∈ a, c ∈ abc := by simpa using aw1
    have c1 := cut_sub a (some 1) none
    have c2 := cut_sub a none (some (-1))
    simp only [List.mem_cons, List.not_mem_nil, or_false] at hw
    rcases hw with rfl | rfl | rfl | rfl | rfl | rfl
    · exact ⟨_, rfl, fun c hc => al c (c1.1 c hc)⟩
    · exact ⟨_, rfl, fun c hc => al c (c2.1 c hc)⟩
    · refine ⟨_, rfl, fun c hc => ?_⟩
      rcases List.mem_append.mp hc with z | z
      · exact al c z
      · simp at z; subst z; decide
    · exact ⟨_, rfl, fun c hc => al c (List.mem_reverse.mp hc)⟩
    · exact ⟨_, rfl, fun c hc => by simp at hc⟩
    · exact ⟨_, rfl, fun c hc => by simp at hc⟩
  have alen : a.length + 1 ≤ 16777216 := by omega
  simp [g__law_name, kept_is, e1, N, fAdd_str, alen, e3, in_lst]
  by_cases hc : f ∈ words ∨ ¬ (1 ≤ f.length ∧ f.length ≤ 6)
  · obtain ⟨xs, n2, e5, e6, e7⟩ := draw_signs (S := S) (k := k) (l := abc) (t := tgN 5) (te := g__law_name_e1) (env := wipeE [some (.o k), some (.v (.str a)), some (.v (.int (n1 % 6))), some (.v (.str f)), some (.v (.str abc)), none] [5]) (fun w n => by
      obtain ⟨c, n', hc, e⟩ := pickS (n := n) hk abc_ne abc_len
      exact ⟨_, rfl, c, n', hc, by simp [g__law_name_e1, wipeE, e]⟩) ((List.range (1 + n1 / 6 % 6).toNat).map fun (i : Nat) => W.int (i : Int)) (n1 / 6 / 6)
    simp only [List.length_map, List.length_range] at e6
    have r0 := Int.emod_nonneg (n1 / 6) (by decide : (6 : Int) ≠ 0)
    have r1 := Int.emod_lt_of_pos (n1 / 6) (by decide : (0 : Int) < 6)
    have hj := join_one (xs := xs) (by omega)
    have hl : (1 + n1 / 6 % 6).toNat ≤ 16777216 := by omega
    have b1 : 1 + n1 / 6 % 6 < 4611686018427387904 := by omega
    have b2 : -4611686018427387904 ≤ 1 + n1 / 6 % 6 := by omega
    refine ⟨if xs ∈ words then 113 :: cutL xs (some 1) none else xs, ⟨n2, ?_⟩, name_end (by omega) (by omega) e7⟩
    rw [abc_is]
    have l3 := (cut_sub xs (some 1) none).2
    have l4 : 1 + (cutL xs (some 1) none).length ≤ 16777216 := by omega
    have done : ((1 : Int) ≤ f.length → (f.length : Int) ≤ 6 → f ∈ words) := fun h1 h2 => hc.elim id fun z => absurd ⟨by omega, by omega⟩ z
    by_cases hx : xs ∈ words
    · by_cases hw : f ∈ words
      · simp [hw, N, b1, b2, hl, e5, hj, kept_is, in_lst, hx, l4, fAdd_str]
      · by_cases h1 : (1 : Int) ≤ f.length
        · have h2 : ¬ (f.length : Int) ≤ 6 := fun z => hw (done h1 z)
          simp [hw, h1, h2, N, b1, b2, hl, e5, hj, kept_is, in_lst, hx, l4, fAdd_str]
        · simp [hw, h1, N, b1, b2, hl, e5, hj, kept_is, in_lst, hx, l4, fAdd_str]
    · by_cases hw : f ∈ words
      · simp [hw, N, b1, b2, hl, e5, hj, kept_is, in_lst, hx]
      · by_cases h1 : (1 : Int) ≤ f.length
        · have h2 : ¬ (f.length : Int) ≤ 6 := fun z => hw (done h1 z)
          simp [hw, h1, h2, N, b1, b2, hl, e5, hj, kept_is, in_lst, hx]
        · simp [hw, h1, N, b1, b2, hl, e5, hj, kept_is, in_lst, hx]
  · obtain ⟨h1, h2⟩ := not_or.mp hc
    obtain ⟨h2, h3⟩ := Decidable.not_not.mp h2
    have i2 : (1 : Int) ≤ f.length := by omega
    have i3 : (f.length : Int) ≤ 6 := by omega
    refine ⟨f, ⟨n1 / 6, ?_⟩, ?_⟩
    · simp [h1, i2, i3, kept_is, in_lst]
    · have z := name_end h2 h3 hf
      rw [if_neg h1] at z
      exact z
theorem st_loop {i : Nat} {j c : Int} : ∀ (ws : List W), (∀ w ∈ ws, ∃ z : Int, w = .int z) → ∀ (f : Int) (a b : Option U), ∃ (f' : Int) (a' b' : Option U),
    dLoop (tgN 4) g__law_state_b1 ws [some (.o i), some (.v (.int j)), some (.v (.int c)), some (.v (.int f)), a, b] S = .ok (.nx [some (.o i), some (.v (.int j)), some (.v (.int c)), some (.v (.int f')), a', b']) S
  | [], _, f, a, b => ⟨f, a, b, rfl⟩
  | w :: r, h, f, a, b => by
    obtain ⟨z, rfl⟩ := h w List.mem_cons_self
    have m1 : fMul (.int 40) (.int j) = _ := mul_ok (.inl (by decide))
    have m2 : fMul (.int 7919) (.int (40 * j + z + 1)) = _ := mul_ok (.inl (by decide))
    have m3 : fMul (.int (c + 7919 * (40 * j + z + 1))) (.int 48271) = _ := mul_ok (.inr (by decide))
    have m4 : fMul (.int f) (.int 2147483629) = _ := mul_ok (.inr (by decide))
    have m5 : fMul (.int 2) (.int z) = _ := mul_ok (.inl (by decide))
    generalize hq : (c + 7919 * (40 * j + z + 1)) * 48271 % 2147483647 = q at *
    have q0 : 0 ≤ q := by rw [← hq]; exact Int.emod_nonneg _ (by decide)
    have q1 : q < 2147483647 := by rw [← hq]; exact Int.emod_lt_of_pos _ (by decide)
    have m6 : fMul (.int q) (.int (q + 2 * z + 1)) = _ := mul_ok (.inl ⟨by omega, by omega⟩)
    obtain ⟨f', a', b', e⟩ := st_loop r (fun w hw => h w (List.mem_cons_of_mem _ hw)) (f * 2147483629 + q * (q + 2 * z + 1) % 2147483629) (some (.v (.int z))) (some (.v (.int q)))
    refine ⟨f', a', b', ?_⟩
    rw [← e]
    simp [dLoop_cons, g__law_state_b1, m1, m2, m3, m4, m5, m6, fMod_int, hq]
theorem fin_own {o : Ob} : fin S.length (.o S.length) (S ++ [o]) = .ok (.o S.length) (S ++ [o]) := by
  simp [fin]
theorem state_is {i : Nat} {j : Int} {ns : List Int} (hS : S[i]? = some (.scr (ns.map W.int))) (h0 : 0 ≤ j) : ∃ n, g__law_state [.o i, .v (.int j)] S = .ok (.o S.length) (S ++ [stt n]) := by
  have hd : dr S (.o i) = some (.lst (ns.map W.int)) := by simp [dr, hS]
  have hp : fPow (.int 10) (.int 18) = some (.val (.int 1000000000000000000)) := rfl
  have lp := fun c => st_loop (S := S) (i := i) (j := j) (c := c) ((List.range 14).map fun (i : Nat) => W.int (i : Int)) (fun w hw => by
      obtain ⟨z, _, rfl⟩ := List.mem_map.mp hw
      exact ⟨_, rfl⟩) 0 none none
  by_cases hj : j < ns.length
  · have hl : j.toNat < ns.length := by omega
    have e := ix_pk (l := ns.map W.int) h0 (by simpa using hj)
    have e2 : pk (ns.map W.int) j = .int ns[j.toNat] := by simp [pk, hl]
    rw [e2] at e
    have ea : fAbs [.int ns[j.toNat]] = some (.val (.int (if ns[j.toNat] < 0 then -ns[j.toNat] else ns[j.toNat]))) := rfl
    generalize (if ns[j.toNat] < 0 then -ns[j.toNat] else ns[j.toNat]) = c at ea
    by_cases hb : (1000000000000000000 : Int) ≤ c
    · exact ⟨c - 1000000000000000000, by simp [g__law_state, hd, hj, e, ea, hp, hb, fin_own]⟩
    · obtain ⟨f, a, b, el⟩ := lp c
      exact ⟨f, by simp [g__law_state, hd, hj, e, ea, hp, hb, el, fin_own]⟩
  · obtain ⟨f, a, b, el⟩ := lp 0
    exact ⟨f, by simp [g__law_state, hd, hj, hp, el, fin_own]⟩
/-- the state at k, in the form in which the draws are told -/
theorem app_set {n : Int} : S ++ [stt n] = (S ++ [stt 0]).set S.length (stt n) := by simp
end
end Bel

/-! Terms. -/
namespace Bel
open PySem PySem.Spec PyProof.Rows L2
abbrev tNum : List Nat := [110, 117, 109, 98, 101, 114]
abbrev tBox : List Nat := [98, 111, 120]
abbrev tPlus : List Nat := [112, 108, 117, 115]
abbrev tLess : List Nat := [108, 101, 115, 115]
abbrev tSame : List Nat := [115, 97, 109, 101]
def signw : List (List Nat) := [tPlus, tLess, tSame]
mutual
/-- no error in it -/
def neW : W → Bool
  | .exc _ => false
  | .tup l => neWs l
  | _ => true
def neWs : List W → Bool
  | [] => true
  | w :: r => neW w && neWs r
end
@[simp] theorem neW_tup (l : List W) : neW (.tup l) = neWs l := by simp [neW]
@[simp] theorem neW_str (l : List Nat) : neW (.str l) = true := by simp [neW]
@[simp] theorem neW_int (i : Int) : neW (.int i) = true := by simp [neW]
@[simp] theorem neW_bl (i : Bool) : neW (.bl i) = true := by simp [neW]
@[simp] theorem neW_non : neW .non = true := by simp [neW]
@[simp] theorem neW_lst (l : List W) : neW (.lst l) = true := by simp [neW]
@[simp] theorem neW_dct (l : List (W × W)) : neW (.dct l) = true := by simp [neW]
@[simp] theorem neWs_nil : neWs [] = true := by simp [neWs]
@[simp] theorem neWs_cons (w : W) (r : List W) : neWs (w :: r) = (neW w && neWs r) := by simp [neWs]
theorem neWs_iff {l : List W} : neWs l = true ↔ ∀ w ∈ l, neW w = true := by
  induction l with
  | nil => simp
  | cons a r ih => simp [ih]
theorem neWs_app {l r : List W} : neWs (l ++ r) = (neWs l && neWs r) := by
  induction l with
  | nil => simp
  | cons a q ih => simp [ih, Bool.and_assoc]
theorem ne_exc {w : W} (h : neW w = true) : isExc w = false := by
  cases w with
  | exc c => simp [neW] at h
  | _ => rfl
def isnum (w : W) (m : Int) : Bool := match w with
  | .int i => decide (0 ≤ i ∧ i ≤ m)
  | _ => false
def isnm (w : W) : Bool := match w with
  | .str x => nm x
  | _ => false
def l1 (p : W → Bool) : List W → Bool
  | [a] => p a
  | _ => false
def l2 (p : W → Bool) : List W → Bool
  | [a, b] => p a && p b
  | _ => false
@[simp] theorem l1_0 (p : W → Bool) : l1 p [] = false := rfl
@[simp] theorem l1_1 (p : W → Bool) (a : W) : l1 p [a] = p a := rfl
@[simp] theorem l1_2 (p : W → Bool) (a b : W) (l : List W) : l1 p (a :: b :: l) = false := rfl
@[simp] theorem l2_0 (p : W → Bool) : l2 p [] = false := rfl
@[simp] theorem l2_1 (p : W → Bool) (a : W) : l2 p [a] = false := rfl
@[simp] theorem l2_2 (p : W → Bool) (a b : W) : l2 p [a, b] = (p a && p b) := rfl
@[simp] theorem l2_3 (p : W → Bool) (a b c : W) (l : List W) : l2 p (a :: b :: c :: l) = false := rfl
/-- a reckoning, so deep at most -/
def tm : Nat → W → Bool
  | 0, _ => false
  | d + 1, .tup (.str s :: l) => if s = tNum then l1 (fun a => isnum a 999) l else if s = tBox then l1 isnm l else if s ∈ signw then l2 (tm d) l else false
  | _ + 1, _ => false
@[simp] theorem tm_0 (w : W) : tm 0 w = false := rfl
@[simp] theorem tm_s (d : Nat) (s : List Nat) (l : List W) : tm (d + 1) (.tup (.str s :: l)) = if s = tNum then l1 (fun a => isnum a 999) l else if s = tBox then l1 isnm l else if s ∈ signw then l2 (tm d) l else false := rfl
theorem tm_o {d : Nat} {w : W} (h : ∀ s l, w ≠ .tup (.str s :: l)) : tm d w = false := by
  cases d with
  | zero => rfl
  | succ d =>
    unfold tm
    split
    · rfl
    · exact absurd rfl (h _ _)
    · rfl
section
variable {S : Store}
theorem is_number_w {w : W} {m : Int} (h : isExc w = false) : g_is_number [.v w, .v (.int m)] S = .ok (.v (.bl (isnum w m))) S := by
  cases w with
  | int i =>
    by_cases h0 : 0 ≤ i <;> simp [g_is_number, isnum, h0]
  | bl b => simp [g_is_number, isnum]
  | exc c => cases h
  | kdc l => simp [g_is_number, isnum, isInt, isExc]
  | _ => simp [g_is_number, isnum]
theorem is_name_w {w : W} (h : isExc w = false) : g_is_name [.v w] S = .ok (.v (.bl (isnm w))) S := by
  cases w with
  | str x => exact is_name_str
  | _ => exact is_name_other rfl h
theorem lname_w {w : W} (h : isExc w = false) : g__law_is_name [.v w] S = .ok (.v (.bl (isnm w))) S := by
  cases w with
  | str x => exact lname_str
  | _ => exact lname_other rfl h
theorem signs_look (s : List Nat) : (d_SIGNS.lookup s).isSome = decide (s ∈ signw) := by
  by_cases h1 : s = tPlus
  · subst h1; rfl
  by_cases h2 : s = tLess
  · subst h2; rfl
  by_cases h3 : s = tSame
  · subst h3; rfl
  have n1 : (s == tPlus) = false := by simpa using h1
  have n2 : (s == tLess) = false := by simpa using h2
  have n3 : (s == tSame) = false := by simpa using h3
  simp [d_SIGNS, List.lookup, n1, n2, n3, signw, h1, h2, h3]
theorem in_signs (s : List Nat) : fInO (.str s) c_SIGNS = some (.val (.bl (decide (s ∈ signw)))) := by
  rw [c_SIGNS, in_kdc, signs_look]
theorem cut1 {α : Type} (a : α) (l : List α) : cutL (a :: l) (some 1) none = l := by
  simp [cutL, HT.sIx]
theorem stands_w : ∀ (d r : Nat) (w : W) (i : Int), d + 1 ≤ r → i = 7 - d → neW w = true → g_stands_so r [.v w, .v (.int i)] S = .ok (.v (.bl (tm d w))) S
  | d, 0, w, i, h, _, _ => by omega
  | d, r + 1, w, i, h, hi, hw => by
    have hx := ne_exc hw
    cases d with
    | zero =>
      have h6 : (6 : Int) < i := by omega
      simp [g_stands_so, c_MOST_WITHIN, h6]
    | succ d =>
      have h6 : ¬ (6 : Int) < i := by omega
      have IH := fun (w : W) (hw : neW w = true) => stands_w d r w (i + 1) (by omega) (by omega) hw
      by_cases ht : isTup w = true
      · obtain ⟨l, rfl⟩ : ∃ l, w = .tup l := by cases w <;> simp [isTup] at ht; exact ⟨_, rfl⟩
        cases l with
        | nil => simp [g_stands_so, c_MOST_WITHIN, h6, tm_o]
        | cons x l =>
          simp at hw
          have hx := ne_exc hw.1
          by_cases hs : isStr x = true
          · obtain ⟨s, rfl⟩ : ∃ s, x = .str s := by cases x <;> simp [isStr] at hs; exact ⟨_, rfl⟩
            have len0 : ¬ (l.length : Int) + 1 = 0 := by omega
            by_cases h1 : s = tNum
            · subst h1
              match l, hw with
              | [], _ => simp [g_stands_so, c_MOST_WITHIN, h6]
              | [a], hw => simp at hw; simp [g_stands_so, c_MOST_WITHIN, h6, c_MOST_NUMBER, is_number_w (ne_exc hw)]
              | a :: b :: q, _ =>
                have e : ¬ (q.length : Int) + 1 + 1 + 1 = 2 := by omega
                have e0 : ¬ (q.length : Int) + 1 + 1 + 1 = 0 := by omega
                simp [g_stands_so, c_MOST_WITHIN, h6, e, e0]
            · by_cases h2 : s = tBox
              · subst h2
                match l, hw with
                | [], _ => simp [g_stands_so, c_MOST_WITHIN, h6]
                | [a], hw => simp at hw; simp [g_stands_so, c_MOST_WITHIN, h6, is_name_w (ne_exc hw)]
                | a :: b :: q, _ =>
                  have e : ¬ (q.length : Int) + 1 + 1 + 1 = 2 := by omega
                  have e0 : ¬ (q.length : Int) + 1 + 1 + 1 = 0 := by omega
                  simp [g_stands_so, c_MOST_WITHIN, h6, e, e0]
              · by_cases h3 : s ∈ signw
                · match l, hw with
                  | [], _ => simp [g_stands_so, c_MOST_WITHIN, h6, h1, h2, h3, in_signs]
                  | [a], _ => simp [g_stands_so, c_MOST_WITHIN, h6, h1, h2, h3, in_signs]
                  | [a, b], hw =>
                    simp at hw
                    have ez := lcL_map (t := tgN 2) (te := g_stands_so_e1 (g_stands_so r)) (env := wipeE [some (.v (.tup [.str s, a, b])), some (.v (.int i)), none] [2]) (S := S) id (fun w => .bl (tm d w)) [a, b] (fun x hx => ⟨_, rfl, by
                      have hn : neW x = true := by
                        simp at hx
                        rcases hx with rfl | rfl
                        · exact hw.1
                        · exact hw.2
                      simp [g_stands_so_e1, wipeE, IH x hn]⟩)
                    have ea := fAll_map (tm d) [a, b]
                    simp only [List.map_cons, List.map_nil, id] at ez ea
                    simp [g_stands_so, c_MOST_WITHIN, h6, h1, h2, h3, in_signs, cut1, ez, ea]
                  | a :: b :: c :: q, _ =>
                    have e : ¬ (q.length : Int) + 1 + 1 + 1 + 1 = 3 := by omega
                    have e0 : ¬ (q.length : Int) + 1 + 1 + 1 + 1 = 0 := by omega
                    simp [g_stands_so, c_MOST_WITHIN, h6, h1, h2, h3, in_signs, e, e0]
                · simp [g_stands_so, c_MOST_WITHIN, h6, h1, h2, h3, in_signs, len0]
          · have e := tm_o (d := d + 1) (w := .tup (x :: l)) (fun s l' z => by injection z with z; injection z with z; subst z; exact hs rfl)
            have len0 : ¬ (l.length : Int) + 1 = 0 := by omega
            simp [g_stands_so, c_MOST_WITHIN, h6, hx, hs, e, len0]
      · have e := tm_o (d := d + 1) (w := w) (fun s l z => by subst z; exact ht rfl)
        simp [g_stands_so, c_MOST_WITHIN, h6, hx, ht, e]
end
end Bel

/-! Terms drawn. -/
namespace Bel
open PySem PySem.Spec PyProof.Rows L2
theorem tm_mono : ∀ {d e : Nat} {w : W}, d ≤ e → tm d w = true → tm e w = true
  | 0, _, _, _, h => by simp at h
  | d + 1, 0, _, hl, _ => by omega
  | d + 1, e + 1, w, hl, h => by
    by_cases hh : ∃ s l, w = .tup (.str s :: l)
    · obtain ⟨s, l, rfl⟩ := hh
      by_cases h1 : s = tNum
      · simpa [h1] using h
      by_cases h2 : s = tBox
      · simpa [h2] using h
      by_cases h3 : s ∈ signw
      · simp only [tm_s, h1, h2, h3, if_true, if_false] at h ⊢
        match l, h with
        | [a, b], h =>
          simp at h ⊢
          exact ⟨tm_mono (by omega) h.1, tm_mono (by omega) h.2⟩
        | [], h => simp at h
        | [a], h => simp at h
        | a :: b :: c :: q, h => simp at h
      · simp [h1, h2, h3] at h
    · rw [tm_o (fun s l z => hh ⟨s, l, z⟩)] at h
      cases h
theorem tm_num {d : Nat} {i : Int} (h0 : 0 ≤ i) (h1 : i ≤ 999) : tm (d + 1) (.tup [.str tNum, .int i]) = true := by simp [isnum, h0, h1]
theorem tm_box {d : Nat} {x : List Nat} (h : nm x = true) : tm (d + 1) (.tup [.str tBox, .str x]) = true := by simp [isnm, h]
theorem tm_bin {d : Nat} {s : List Nat} {a b : W} (hs : s ∈ signw) (ha : tm d a = true) (hb : tm d b = true) : tm (d + 1) (.tup [.str s, a, b]) = true := by
  have h1 : s ≠ tNum := fun z => by subst z; revert hs; decide
  have h2 : s ≠ tBox := fun z => by subst z; revert hs; decide
  simp [h1, h2, hs, ha, hb]
theorem isnm_str {w : W} (h : isnm w = true) : ∃ x, w = .str x ∧ nm x = true := by
  cases w with
  | str x => exact ⟨x, rfl, h⟩
  | _ => cases h
theorem isnum_int {w : W} {m : Int} (h : isnum w m = true) : ∃ i, w = .int i ∧ 0 ≤ i ∧ i ≤ m := by
  cases w with
  | int i => exact ⟨i, rfl, by simpa [isnum] using h⟩
  | _ => cases h
/-- what a reckoning is made of -/
theorem tm_cases {d : Nat} {w : W} (h : tm (d + 1) w = true) : (∃ i, w = .tup [.str tNum, .int i] ∧ 0 ≤ i ∧ i ≤ 999) ∨ (∃ x, w = .tup [.str tBox, .str x] ∧ nm x = true) ∨ ∃ s a b, w = .tup [.str s, a, b] ∧ s ∈ signw ∧ tm d a = true ∧ tm d b = true := by
  by_cases hh : ∃ s l, w = .tup (.str s :: l)
  · obtain ⟨s, l, rfl⟩ := hh
    simp only [tm_s] at h
    split at h
    · rename_i e
      subst e
      match l, h with
      | [a], h => obtain ⟨i, rfl, h0, h1⟩ := isnum_int h; exact .inl ⟨i, rfl, h0, h1⟩
      | [], h => simp at h
      | a :: b :: q, h => simp at h
    split at h
    · rename_i e
      subst e
      match l, h with
      | [a], h => obtain ⟨x, rfl, h0⟩ := isnm_str h; exact .inr (.inl ⟨x, rfl, h0⟩)
      | [], h => simp at h
      | a :: b :: q, h => simp at h
    split at h
    · rename_i e
      match l, h with
      | [a, b], h => simp at h; exact .inr (.inr ⟨s, a, b, rfl, e, h.1, h.2⟩)
      | [], h => simp at h
      | [a], h => simp at h
      | a :: b :: c :: q, h => simp at h
    · cases h
  · rw [tm_o (fun s l z => hh ⟨s, l, z⟩)] at h
    cases h
theorem tm_ne : ∀ {d : Nat} {w : W}, tm d w = true → neW w = true
  | 0, _, h => by simp at h
  | d + 1, w, h => by
    rcases tm_cases h with ⟨i, rfl, _⟩ | ⟨x, rfl, _⟩ | ⟨s, a, b, rfl, _, ha, hb⟩
    · simp
    · simp
    · simp [tm_ne ha, tm_ne hb]
section
variable {S : Store} {k : Nat} {n m : Int}
theorem rem_lt {n m : Int} (h : 0 < m) : 0 ≤ n % m ∧ n % m < m := ⟨Int.emod_nonneg n (by omega), Int.emod_lt_of_pos n h⟩
theorem term_w (hk : k < S.length) {l : List W} (l0 : l ≠ []) (l1 : l.length < 1073741824) (hl : ∀ w ∈ l, isnm w = true) : ∀ (d r : Nat) (n : Int), 1 ≤ d → d ≤ r → ∃ t n', g__law_term r [.o k, .v (.lst l), .v (.int d)] (S.set k (stt n)) = .ok (.v t) (S.set k (stt n')) ∧ tm d t = true
  | d, 0, n, h, h2 => by omega
  | 0, r + 1, n, h, h2 => by omega
  | d + 1, r + 1, n, h, h2 => by
    have N := fun n => next_w (n := n) (m := 6) hk (by decide) (by decide)
    have N2 := fun n => next_w (n := n) (m := 1000) hk (by decide) (by decide)
    obtain ⟨r0, r1⟩ := rem_lt (n := n) (m := 6) (by decide)
    have N := N n
    generalize n % 6 = y at *
    by_cases hc : d = 0 ∨ y < 2
    · have hc' : ¬ (d = 0) → y < 2 := fun z => hc.elim (fun y => absurd y z) id
      by_cases he : y % 2 = 0
      · have P := pickL_w (n := n / 6) hk l0 l1
        obtain ⟨x, ex, hx⟩ := isnm_str (hl _ (pick_mem (n := n / 6) l0))
        rw [ex] at P
        by_cases hd : d = 0
        · subst hd; exact ⟨_, _, (by simp [g__law_term, N, fMod_int, he, P]; rfl), tm_box hx⟩
        · exact ⟨_, _, (by simp [g__law_term, N, hd, hc' hd, fMod_int, he, P]; rfl), tm_box hx⟩
      · obtain ⟨w, n', hw, P⟩ := pickL (n := n / 6 / 1000) hk (l := [.int 0, .int 1, .int 9, .int 10, .int 99, .int 100, .int 500, .int 998, .int 999, .int (n / 6 % 1000)]) (by simp) (by simp)
        obtain ⟨q0, q1⟩ := rem_lt (n := n / 6) (m := 1000) (by decide)
        obtain ⟨i, rfl, h0, h1⟩ : ∃ i, w = .int i ∧ 0 ≤ i ∧ i ≤ 999 := by
          simp only [List.mem_cons, List.not_mem_nil, or_false] at hw
          rcases hw with rfl | rfl | rfl | rfl | rfl | rfl | rfl | rfl | rfl | rfl <;> exact ⟨_, rfl, by omega, by omega⟩
        by_cases hd : d = 0
        · subst hd; exact ⟨_, _, (by simp [g__law_term, N, N2, fMod_int, he, P]; rfl), tm_num h0 h1⟩
        · exact ⟨_, _, (by simp [g__law_term, N, N2, hd, hc' hd, fMod_int, he, P]; rfl), tm_num h0 h1⟩
    · have hd : ¬ d = 0 := fun z => hc (.inl z)
      have hw2 : ¬ y < 2 := fun z => hc (.inr z)
      obtain ⟨a, n1, e1, h1⟩ := term_w hk l0 l1 hl d r (n / 6) (by omega) (by omega)
      obtain ⟨b, n2, e2, h3⟩ := term_w hk l0 l1 hl d r n1 (by omega) (by omega)
      have ei := ix_pk (l := [.str tPlus, .str tLess, .str tSame, .str tPlus]) (i := y - 2) (by omega) (by simp; omega)
      have em := pk_mem (l := [.str tPlus, .str tLess, .str tSame, .str tPlus]) (i := y - 2) (by omega) (by simp; omega)
      obtain ⟨s, es, hs⟩ : ∃ s, pk [.str tPlus, .str tLess, .str tSame, .str tPlus] (y - 2) = .str s ∧ s ∈ signw := by
        simp only [List.mem_cons, List.not_mem_nil, or_false] at em
        rcases em with e | e | e | e <;> exact ⟨_, e, by decide⟩
      rw [es] at ei
      have ed : ((d : Int) + 1 - 1) = d := by omega
      have hd1 : ¬ ((d : Int) + 1 = 1) := by omega
      exact ⟨_, _, (by simp [g__law_term, N, hd1, hw2, ed, e1, e2, ei]; rfl), tm_bin hs h1 h3⟩
theorem cut_rev (a b : W) : (Out.nt [a, b].reverse) = .nt [b, a] := rfl
theorem chain_loop (hk : k < S.length) {l : List W} (l0 : l ≠ []) (l1 : l.length < 1073741824) (hl : ∀ w ∈ l, isnm w = true) {x2 : Option U} : ∀ (ws : List W) (d : Nat) (t : W) (n : Int) (x4 x5 x6 : Option U), tm d t = true → 1 ≤ d → d + ws.length ≤ 7 → ∃ t' n' y4 y5 y6,
    dLoop (tgN 4) g__law_chain_b1 ws [some (.o k), some (.v (.lst l)), x2, some (.v t), x4, x5, x6] (S.set k (stt n)) = .ok (.nx [some (.o k), some (.v (.lst l)), x2, some (.v t'), y4, y5, y6]) (S.set k (stt n')) ∧ tm (d + ws.length) t' = true
  | [], d, t, n, x4, x5, x6, h, h1, h2 => ⟨t, n, x4, x5, x6, rfl, h⟩
  | w :: r, d, t, n, x4, x5, x6, h, h1, h2 => by
    obtain ⟨o, n1, e1, ho⟩ := term_w hk l0 l1 hl 1 8 n (by decide) (by decide)
    have ho := tm_mono h1 ho
    obtain ⟨sg, n2, hs, e2⟩ := pickL (n := n1) hk (l := [.str tPlus, .str tLess, .str tSame]) (by simp) (by simp)
    obtain ⟨s, rfl, hsg⟩ : ∃ s, sg = .str s ∧ s ∈ signw := by
      simp only [List.mem_cons, List.not_mem_nil, or_false] at hs
      rcases hs with e | e | e <;> exact ⟨_, e, by decide⟩
    have N := next_w (n := n2) (m := 2) hk (by decide) (by decide)
    obtain ⟨r0, r1⟩ := rem_lt (n := n2) (m := 2) (by decide)
    generalize n2 % 2 = y at *
    have e3 : ((1 : Nat) : Int) = 1 := rfl
    rw [e3] at e1
    simp only [List.length_cons] at h2
    obtain rfl | rfl : y = 0 ∨ y = 1 := by omega
    · obtain ⟨t', n', y4, y5, y6, e, h'⟩ := chain_loop hk l0 l1 hl r (d + 1) (.tup [.str s, t, o]) (n2 / 2) (some (.v w)) (some (.v (.tup [t, o]))) (some (.v (.str s))) (tm_bin hsg h ho) (by omega) (by omega)
      refine ⟨t', n', y4, y5, y6, ?_, by rw [List.length_cons, Nat.add_comm r.length, ← Nat.add_assoc]; exact h'⟩
      rw [← e]
      simp [dLoop_cons, g__law_chain_b1, e1, e2, N, fAdd_tup]
    · obtain ⟨t', n', y4, y5, y6, e, h'⟩ := chain_loop hk l0 l1 hl r (d + 1) (.tup [.str s, o, t]) (n2 / 2) (some (.v w)) (some (.v (.tup [t, o]))) (some (.v (.str s))) (tm_bin hsg ho h) (by omega) (by omega)
      refine ⟨t', n', y4, y5, y6, ?_, by rw [List.length_cons, Nat.add_comm r.length, ← Nat.add_assoc]; exact h'⟩
      rw [← e]
      simp [dLoop_cons, g__law_chain_b1, e1, e2, N, fAdd_tup]
theorem chain_w (hk : k < S.length) {l : List W} (l0 : l ≠ []) (l1 : l.length < 1073741824) (hl : ∀ w ∈ l, isnm w = true) {d : Nat} (h1 : 1 ≤ d) (h2 : d ≤ 6) : ∃ t n', g__law_chain [.o k, .v (.lst l), .v (.int d)] (S.set k (stt n)) = .ok (.v t) (S.set k (stt n')) ∧ tm d t = true := by
  obtain ⟨o, n1, e1, ho⟩ := term_w hk l0 l1 hl 1 8 n (by decide) (by decide)
  have e3 : ((1 : Nat) : Int) = 1 := rfl
  rw [e3] at e1
  obtain ⟨t', n', y4, y5, y6, e, h'⟩ := chain_loop hk l0 l1 hl (x2 := some (.v (.int d))) ((List.range (d - 1)).map fun (i : Nat) => W.int (i : Int)) 1 o n1 none none none ho (by decide) (by simp; omega)
  simp only [List.length_map, List.length_range] at h'
  rw [show 1 + (d - 1) = d by omega] at h'
  have f := for_rng (d := dBin false fSub (dVar 2) (dC (.int 1))) (e := [some (.o k), some (.v (.lst l)), some (.v (.int d)), some (.v o), none, none, none]) (S := S.set k (stt n1)) (S1 := S.set k (stt n1)) (i := (d : Int) - 1) (t := tgN 4) (b := g__law_chain_b1) (by simp) (by omega) (by omega)
  rw [show ((d : Int) - 1).toNat = d - 1 by omega, e] at f
  refine ⟨t', n', ?_, h'⟩
  simp only [dFor_ap, dRng1_ap, dBin_ap, dVar_ap, dC_ap] at f
  simp [g__law_chain, e1]
  simp at f
  simp [f]
theorem drawn_w (hk : k < S.length) {l : List W} (l0 : l ≠ []) (l1 : l.length < 1073741824) (hl : ∀ w ∈ l, isnm w = true) : ∃ t n', g__law_drawn [.o k, .v (.lst l)] (S.set k (stt n)) = .ok (.v t) (S.set k (stt n')) ∧ tm 6 t = true := by
  have N := next_w (n := n) (m := 6) hk (by decide) (by decide)
  have N2 := next_w (n := n / 6) (m := 2) hk (by decide) (by decide)
  obtain ⟨r0, r1⟩ := rem_lt (n := n) (m := 6) (by decide)
  obtain ⟨q0, q1⟩ := rem_lt (n := n / 6) (m := 2) (by decide)
  generalize n % 6 = y at *
  obtain ⟨d, hd⟩ : ∃ d : Nat, 1 + y = d := ⟨(1 + y).toNat, by omega⟩
  by_cases h : n / 6 % 2 = 0
  · obtain ⟨t, n', e, ht⟩ := chain_w (n := n / 6 / 2) hk l0 l1 hl (d := d) (by omega) (by omega)
    exact ⟨t, n', (by simp [g__law_drawn, N, N2, hd, h, e]), tm_mono (by omega) ht⟩
  · obtain ⟨t, n', e, ht⟩ := term_w hk l0 l1 hl d 8 (n / 6 / 2) (by omega) (by omega)
    exact ⟨t, n', (by simp [g__law_drawn, N, N2, hd, h, e]), tm_mono (by omega) ht⟩
end
end Bel

/-! Terms looked at by a row of what is left. -/
namespace Bel
open PySem PySem.Spec PyProof.Rows L2
theorem fPop_app {l : List W} {w : W} : fPop (l ++ [w]) [] = some (l, w) := by
  simp [fPop]
def cst : Nat → Nat
  | 0 => 1
  | d + 1 => 2 * cst d + 1
theorem cst_pos : ∀ d, 1 ≤ cst d
  | 0 => by decide
  | d + 1 => by unfold cst; omega
def csts (st : List (W × Nat)) : Nat := (st.map fun p => cst p.2).sum
theorem csts_len : ∀ st : List (W × Nat), st.length ≤ csts st
  | [] => by simp [csts]
  | p :: r => by
    have := csts_len r
    have := cst_pos p.2
    simp [csts] at *
    omega
def prw (p : W × Nat) : W := .tup [p.1, .int (7 - p.2)]
theorem notin_signs (s : List Nat) : fNotInO (.str s) (.tup [.str tPlus, .str tLess, .str tSame]) = some (.val (.bl (!decide (s ∈ signw)))) := notin_tup signw s
theorem whN_succ {t : DT} {b : DS} {n : Nat} {e : Env'} {S : Store} : whN t b (n + 1) e S = (t e S).st e fun k S1 => if k = true then (match b e S1 with
      | .ok (.nx e2) S2 => whN t b n e2 S2
      | .ok (.ct e2) S2 => whN t b n e2 S2
      | .ok (.bk e2) S2 => .ok (.nx e2) S2
      | r => r) else .ok (.nx e) S1 := rfl
theorem lt_turn {T : Store} {k : Nat} {l : List W} {w : W} {d : Nat} {x0 x2 x3 : Option U} (h5 : T[k]? = some (.lst (l ++ [prw (w, d)]))) (hw : neW w = true) (hd6 : d ≤ 6) (hl : l.length ≤ 5000) :
    (tm d w = true ∧ g__law_is_term_b1 [x0, some (.o k), x2, x3] T = .ok (.nx [x0, some (.o k), some (.v w), some (.v (.int (7 - d)))]) (T.set k (.lst l))) ∨
    (tm d w = false ∧ g__law_is_term_b1 [x0, some (.o k), x2, x3] T = .ok (.rt (.v (.bl false))) (T.set k (.lst l))) ∨
    (∃ a b d', d = d' + 1 ∧ tm d w = (tm d' a && tm d' b) ∧ neW a = true ∧ neW b = true ∧ g__law_is_term_b1 [x0, some (.o k), x2, x3] T = .ok (.nx [x0, some (.o T.length), some (.v w), some (.v (.int (7 - d)))]) (T.set k (.lst l) ++ [.lst (l ++ [prw (a, d'), prw (b, d')])])) := by
  have hk : k < T.length := lt_of_st h5
  have hx := ne_exc hw
  unfold prw at h5
  simp only at h5
  cases d with
  | zero =>
    refine .inr (.inl ⟨rfl, ?_⟩)
    simp [g__law_is_term_b1, h5, fPop_app]
  | succ d =>
    have h6 : ¬ (6 : Int) < 7 - ((d + 1 : Nat) : Int) := by omega
    generalize hi : (7 - ((d + 1 : Nat) : Int)) = i at *
    have hlen : l.length + 2 ≤ 16777216 := by omega
    by_cases ht : isTup w = true
    · obtain ⟨q, rfl⟩ : ∃ l, w = .tup l := by cases w <;> simp [isTup] at ht; exact ⟨_, rfl⟩
      cases q with
      | nil => exact .inr (.inl ⟨tm_o (by simp), by simp [g__law_is_term_b1, h5, fPop_app, h6]⟩)
      | cons x q =>
        simp at hw
        have hx := ne_exc hw.1
        by_cases hs : isStr x = true
        · obtain ⟨s, rfl⟩ : ∃ s, x = .str s := by cases x <;> simp [isStr] at hs; exact ⟨_, rfl⟩
          match q, hw with
          | [], _ =>
            refine .inr (.inl ⟨by simp, by simp [g__law_is_term_b1, h5, fPop_app, h6]⟩)
          | [a], hw =>
            simp at hw
            have ha := ne_exc hw
            by_cases h1 : s = tNum
            · subst h1
              cases a with
              | int j =>
                by_cases j0 : 0 ≤ j
                · by_cases j1 : j ≤ 999
                  · exact .inl ⟨by simp [isnum, j0, j1], by simp [g__law_is_term_b1, h5, fPop_app, h6, j0, j1]⟩
                  · exact .inr (.inl ⟨by simp [isnum, j0, j1], by simp [g__law_is_term_b1, h5, fPop_app, h6, j0, j1]⟩)
                · exact .inr (.inl ⟨by simp [isnum, j0], by simp [g__law_is_term_b1, h5, fPop_app, h6, j0]⟩)
              | exc c => cases ha
              | kdc c => exact .inr (.inl ⟨by simp [isnum], by simp [g__law_is_term_b1, h5, fPop_app, h6, isBl, isInt, isExc]⟩)
              | _ => exact .inr (.inl ⟨by simp [isnum], by simp [g__law_is_term_b1, h5, fPop_app, h6]⟩)
            · by_cases h2 : s = tBox
              · subst h2
                cases hn : isnm a with
                | true => exact .inl ⟨by simp [hn], by simp [g__law_is_term_b1, h5, fPop_app, h6, lname_w ha, hn]⟩
                | false => exact .inr (.inl ⟨by simp [hn], by simp [g__law_is_term_b1, h5, fPop_app, h6, lname_w ha, hn]⟩)
              · refine .inr (.inl ⟨by simp [h1, h2], ?_⟩)
                by_cases h3 : s ∈ signw <;> simp [g__law_is_term_b1, h5, fPop_app, h6, h1, h2, h3, notin_signs]
          | [a, b], hw =>
            simp at hw
            by_cases h1 : s = tNum
            · subst h1
              exact .inr (.inl ⟨by simp, by simp [g__law_is_term_b1, h5, fPop_app, h6]⟩)
            · by_cases h2 : s = tBox
              · subst h2
                exact .inr (.inl ⟨by simp, by simp [g__law_is_term_b1, h5, fPop_app, h6]⟩)
              · by_cases h3 : s ∈ signw
                · refine .inr (.inr ⟨a, b, d, rfl, by simp [h1, h2, h3], hw.1, hw.2, ?_⟩)
                  have e : (7 : Int) - d = i + 1 := by omega
                  have hd : dr (T.set k (.lst l)) (.o k) = some (.lst l) := dr_set hk
                  simp [g__law_is_term_b1, h5, fPop_app, h6, h1, h2, h3, notin_signs, prw, e, hd, fAdd_lst, hlen]
                · exact .inr (.inl ⟨by simp [h1, h2, h3], by simp [g__law_is_term_b1, h5, fPop_app, h6, h1, h2, h3, notin_signs]⟩)
          | a :: b :: c :: q, _ =>
            have e1 : ¬ ((q.length : Int) + 1 + 1 + 1 + 1 < 2) := by omega
            have e2 : ¬ ((q.length : Int) + 1 + 1 + 1 + 1 = 2) := by omega
            have e3 : ¬ ((q.length : Int) + 1 + 1 + 1 + 1 = 3) := by omega
            refine .inr (.inl ⟨by simp, ?_⟩)
            by_cases h1 : s = tNum
            · subst h1; simp [g__law_is_term_b1, h5, fPop_app, h6, e1, e2]
            · by_cases h2 : s = tBox
              · subst h2; simp [g__law_is_term_b1, h5, fPop_app, h6, e1, e2]
              · by_cases h3 : s ∈ signw <;> simp [g__law_is_term_b1, h5, fPop_app, h6, h1, h2, h3, notin_signs, e1, e3]
        · have e := tm_o (d := d + 1) (w := .tup (x :: q)) (fun s l' z => by injection z with z; injection z with z; subst z; exact hs rfl)
          refine .inr (.inl ⟨e, ?_⟩)
          by_cases hq : (q.length : Int) + 1 < 2 <;> simp [g__law_is_term_b1, h5, fPop_app, h6, hx, hs, hq]
    · have e := tm_o (d := d + 1) (w := w) (fun s l z => by subst z; exact ht rfl)
      exact .inr (.inl ⟨e, by simp [g__law_is_term_b1, h5, fPop_app, h6, hx, ht]⟩)
theorem lt_loop : ∀ (N : Nat) (st : List (W × Nat)) (n : Nat) (L : Nat) (T : Store) (k : Nat) (x0 x2 x3 : Option U), csts st ≤ N → N < n → N ≤ 2000 → (∀ p ∈ st, neW p.1 = true ∧ p.2 ≤ 6) → T[k]? = some (.lst (st.reverse.map prw)) → L ≤ k →
    ∃ T' e', T'.take L = T.take L ∧ whN (dT (dBin false fNeNil (dVar 1) (dDisp false .nl dNil))) g__law_is_term_b1 n [x0, some (.o k), x2, x3] T = cond (st.all (fun p => tm p.2 p.1)) (.ok (.nx e') T') (.ok (.rt (.v (.bl false))) T')
  | N, _, 0, _, _, _, _, _, _, _, h, _, _, _, _ => by omega
  | N, [], n + 1, L, T, k, x0, x2, x3, h1, h2, h3, h4, h5, h6 => by
    refine ⟨T, [x0, some (.o k), x2, x3], rfl, ?_⟩
    have hd : dr T (.o k) = some (.lst []) := by simp [dr, h5]
    rw [whN_succ]
    simp [hd]
  | 0, p :: st, n + 1, L, T, k, x0, x2, x3, h1, h2, h3, h4, h5, h6 => by
    have := cst_pos p.2
    simp [csts] at h1
    omega
  | N + 1, (w, d) :: st, n + 1, L, T, k, x0, x2, x3, h1, h2, h3, h4, h5, h6 => by
    have hcs : cst d + csts st ≤ N + 1 := by simpa [csts] using h1
    have hk : k < T.length := lt_of_st h5
    have h5' : T[k]? = some (.lst (st.reverse.map prw ++ [prw (w, d)])) := by simpa using h5
    have hd : dr T (.o k) = some (.lst (st.reverse.map prw ++ [prw (w, d)])) := by simp [dr, h5']
    obtain ⟨hw, hd6⟩ := h4 (w, d) List.mem_cons_self
    simp only at hw hd6
    have h4' := fun p hp => h4 p (List.mem_cons_of_mem _ hp)
    have ht : List.take L (T.set k (.lst (st.reverse.map prw))) = List.take L T := by
      rw [List.take_set_of_le h6]
    have hne : (st.reverse.map prw ++ [prw (w, d)]).isEmpty = false := by simp
    have hlen := csts_len st
    rw [whN_succ]
    simp only [dT_ap, dBin_ap, dVar_ap, List.getElem?_cons_succ, List.getElem?_cons_zero, Re.bind_ok, dDisp_ap, dNil_ap, fDisp_ap, allV_nil, List.length_nil, hd]
    rcases lt_turn (x0 := x0) (x2 := x2) (x3 := x3) h5' hw hd6 (by simp; omega) with ⟨e1, e2⟩ | ⟨e1, e2⟩ | ⟨a, b, d', rfl, e1, na, nb, e2⟩
    · obtain ⟨T', e', q1, q2⟩ := lt_loop N st n L (T.set k (.lst (st.reverse.map prw))) k x0 (some (.v w)) (some (.v (.int (7 - d)))) (by have := cst_pos d; omega) (by omega) (by omega) h4' (by simp [hk]) h6
      refine ⟨T', e', q1.trans ht, ?_⟩
      simp [hd, e2, -List.map_reverse]
      rw [q2]
      simp [e1]
    · exact ⟨T.set k (.lst (st.reverse.map prw)), [], ht, by simp [hd, e2, e1]⟩
    · have ht2 : List.take L (T.set k (.lst (st.reverse.map prw)) ++ [.lst (st.reverse.map prw ++ [prw (a, d'), prw (b, d')])]) = List.take L T := by
        rw [List.take_append_of_le_length (by simp; omega), ht]
      obtain ⟨T', e', q1, q2⟩ := lt_loop N ((b, d') :: (a, d') :: st) n L (T.set k (.lst (st.reverse.map prw)) ++ [.lst (st.reverse.map prw ++ [prw (a, d'), prw (b, d')])]) T.length x0 (some (.v w)) (some (.v (.int (7 - (d' + 1 : Nat)))))
        (by simp [csts, cst] at hcs ⊢; omega) (by omega) (by omega) (fun p hp => by
          rcases List.mem_cons.mp hp with rfl | hp
          · exact ⟨nb, by simp; omega⟩
          rcases List.mem_cons.mp hp with rfl | hp
          · exact ⟨na, by simp; omega⟩
          exact h4' p hp) (by rw [List.getElem?_append_right (by simp)]; simp) (by omega)
      refine ⟨T', e', q1.trans ht2, ?_⟩
      simp [hd, e2, -List.map_reverse]
      simp [-List.map_reverse] at q2
      rw [q2]
      simp [e1, Bool.and_comm, Bool.and_left_comm, Bool.and_assoc]
theorem lterm_w {S : Store} {w : W} (hw : neW w = true) : g__law_is_term [.v w] S = .ok (.v (.bl (tm 6 w))) S := by
  obtain ⟨T', e', q1, q2⟩ := lt_loop 127 [(w, 6)] 2000 S.length (S ++ [.lst [prw (w, 6)]]) S.length (some (.v w)) none none (by simp [csts, cst]) (by decide) (by decide) (fun p hp => by
    simp at hp; subst hp; exact ⟨hw, by simp⟩) (by simp) (Nat.le_refl _)
  have e : dWhileN 2000 (dT (dBin false fNeNil (dVar 1) (dDisp false .nl dNil))) g__law_is_term_b1 [some (.v w), some (.o S.length), none, none] (S ++ [.lst [prw (w, 6)]]) = _ := q2
  simp only [prw] at e
  simp at q1
  cases h : tm 6 w with
  | true =>
    simp [h] at e
    simp [g__law_is_term, e, q1]
  | false =>
    simp [h] at e
    simp [g__law_is_term, e, q1]
end Bel

/-! Terms within one another. -/
namespace Bel
open PySem PySem.Spec PyProof.Rows L2
/-- a loop over a range, its frame and store told turn by turn -/
theorem dLoop_rng' {i : Nat} {body : DS} (f : Nat → Env') (g : Nat → Store) : ∀ (c a : Nat), (∀ j, a ≤ j → j < a + c → body ((f j).set i (some (.v (.int j)))) (g j) = .ok (.nx (f (j + 1))) (g (j + 1))) → dLoop (tgN i) body ((List.range' a c).map fun (j : Nat) => W.int (j : Int)) (f a) (g a) = .ok (.nx (f (a + c))) (g (a + c))
  | 0, a, _ => rfl
  | c + 1, a, h => by
    rw [List.range'_succ, List.map_cons, dLoop_cons, tgN_ap]
    simp only [h a (Nat.le_refl _) (by omega)]
    rw [dLoop_rng' f g c (a + 1) fun j h1 h2 => h j (by omega) (by omega)]
    rw [show a + 1 + c = a + (c + 1) by omega]
theorem dLoop_rng {i : Nat} {body : DS} (f : Nat → Env') (g : Nat → Store) (c : Nat) (h : ∀ j, j < c → body ((f j).set i (some (.v (.int j)))) (g j) = .ok (.nx (f (j + 1))) (g (j + 1))) : dLoop (tgN i) body ((List.range c).map fun (j : Nat) => W.int (j : Int)) (f 0) (g 0) = .ok (.nx (f c)) (g c) := by
  have z := dLoop_rng' (i := i) (body := body) f g c 0 fun j _ h2 => h j (by omega)
  rw [← List.range_eq_range', Nat.zero_add] at z
  exact z
def nst : Nat → W
  | 0 => .tup [.str tBox, .str [120]]
  | j + 1 => if j % 2 = 0 then .tup [.str tPlus, nst j, .tup [.str tNum, .int 1]] else .tup [.str tSame, .tup [.str tNum, .int 0], nst j]
theorem nst_ne : ∀ j, neW (nst j) = true
  | 0 => by simp [nst]
  | j + 1 => by
    have := nst_ne j
    unfold nst
    split <;> simp [this]
theorem nested_w {S : Store} {m : Nat} (h1 : 1 ≤ m) (h2 : m ≤ 1000) : g__law_nested [.v (.int m)] S = .ok (.v (nst (m - 1))) S := by
  have lp := dLoop_rng (i := 2) (body := g__law_nested_b1) (fun j => [some (.v (.int m)), some (.v (nst j)), if j = 0 then none else some (.v (.int ((j : Int) - 1)))]) (fun _ => S) (m - 1) (fun j hj => by
    have e : ((j : Int) + 1 - 1) = j := by omega
    rcases Nat.mod_two_eq_zero_or_one j with h | h
    · have h' : (j : Int) % 2 = 0 := by omega
      simp [g__law_nested_b1, fMod_int, h', nst, h, e]
    · have h' : (j : Int) % 2 = 1 := by omega
      simp [g__law_nested_b1, fMod_int, h', nst, h, e])
  simp [nst] at lp
  have r := for_rng (d := dBin false fSub (dVar 0) (dC (.int 1))) (e := [some (.v (.int m)), some (.v (nst 0)), none]) (S := S) (S1 := S) (i := (m : Int) - 1) (t := tgN 2) (b := g__law_nested_b1) (by simp) (by omega) (by omega)
  rw [show ((m : Int) - 1).toNat = m - 1 by omega] at r
  simp only [nst] at r
  rw [lp] at r
  simp at r
  simp [g__law_nested, r]
end Bel

/-! shared mirrors -/
namespace Bel
open PySem PySem.Spec PyProof.Rows L2
def c_FIGURES : W := .str [48, 49, 50, 51, 52, 53, 54, 55, 56, 57]
def g__law_boxes_b1 : DS := (dIfS (dT (dBin false (fCmp fun i j => decide (j < i)) (dFn g__law_next 2 (dCons (dVar 0) (dCons (dC (.int 3)) dNil))) (dC (.int 0)))) (dSetD (dVar 2) (dVar 3) (dFn g__law_pick 2 (dCons (dVar 0) (dCons (dDisp false .nl (dCons (dC (.int 0)) (dCons (dC (.int 1)) (dCons (dC (.int 2)) (dCons (dC (.int 500)) (dCons (dC (.int 998)) (dCons (dC (.int 999)) (dCons (dFn g__law_next 2 (dCons (dVar 0) (dCons (dC (.int 1000)) dNil))) dNil)))))))) dNil)))) dNext)
def g__law_boxes : DF := fnD 4
    (dSeq (dAsg 2 (dDct true (((dC (.str [122, 122])), (dFn g__law_next 2 (dCons (dVar 0) (dCons (dC (.int 1000)) dNil)))) :: [])))
    (dSeq (dFor (dItL (dVar 1)) (tgN 3) g__law_boxes_b1)
    (dRet (dVar 2))))
def g__law_text : Nat → DF
  | 0 => fun _ _ => .no
  | r + 1 => fnD 2
    (dSeq (dIfS (dT (dBin false fInO (dBin false fIx (dVar 0) (dC (.int 0))) (dDisp false .nt (dCons (dC (.str [110, 117, 109, 98, 101, 114])) (dCons (dC (.str [98, 111, 120])) dNil))))) (dRet (dCall false fStr (dCons (dBin false fIx (dVar 0) (dC (.int 1))) dNil))) dNext)
    (dSeq (dAsg 1 (dBin false fIx (dDct false (((dC (.str [112, 108, 117, 115])), (dC (.str [43]))) :: ((dC (.str [108, 101, 115, 115])), (dC (.str [60]))) :: ((dC (.str [115, 97, 109, 101])), (dC (.str [61]))) :: [])) (dBin false fIx (dVar 0) (dC (.int 0)))))
    (dRet (dBin false fAdd (dBin false fAdd (dBin false fAdd (dBin false fAdd (dBin false fAdd (dBin false fAdd (dC (.str [40])) (dFn (g__law_text r) 1 (dCons (dBin false fIx (dVar 0) (dC (.int 1))) dNil))) (dC (.str [32]))) (dVar 1)) (dC (.str [32]))) (dFn (g__law_text r) 1 (dCons (dBin false fIx (dVar 0) (dC (.int 2))) dNil))) (dC (.str [41]))))))
def g_written : Nat → DF
  | 0 => fun _ _ => .no
  | r + 1 => fnD 1
    (dSeq (dIfS (dT (dBin false fEq (dCall false fLen (dCons (dVar 0) dNil)) (dC (.int 2)))) (dRet (dCall false fStr (dCons (dBin false fIx (dVar 0) (dC (.int 1))) dNil))) dNext)
    (dRet (dBin false fAdd (dBin false fAdd (dBin false fAdd (dBin false fAdd (dC (.str [40])) (dFn (g_written r) 1 (dCons (dBin false fIx (dVar 0) (dC (.int 1))) dNil))) (dBin false fIx (dC c_SIGNS) (dBin false fIx (dVar 0) (dC (.int 0))))) (dFn (g_written r) 1 (dCons (dBin false fIx (dVar 0) (dC (.int 2))) dNil))) (dC (.str [41])))))
def g_number_told_e1 : DE := (dBin false fInO (dVar 2) (dC c_FIGURES))
def g_number_told : DF := fnD 3
    (dSeq (dIfS (dOr (dNot (dT (dChain (fCmp fun i j => decide (i ≤ j)) (fCmp fun i j => decide (i ≤ j)) (dC (.int 1)) (dCall false fLen (dCons (dVar 0) dNil)) (dCall false fLen (dCons (dCall false fStr (dCons (dVar 1) dNil)) dNil))))) (dNot (dT (dCall false fAll (dCons (dLc false (dItS (dVar 0)) (tgN 2) dYes g_number_told_e1 [2]) dNil))))) (dRet (dC .non)) dNext)
    (dSeq (dIfS (dAnd (dT (dBin false fNe (dVar 0) (dC (.str [48])))) (dT (dMeth false isStr fStarts (dVar 0) (dCons (dC (.str [48])) dNil)))) (dRet (dC .non)) dNext)
    (dRet (dIf (dT (dBin false (fCmp fun i j => decide (i ≤ j)) (dCall false fIntW (dCons (dVar 0) dNil)) (dVar 1))) (dCall false fIntW (dCons (dVar 0) dNil)) (dC .non)))))
def g__law_worth : Nat → DF
  | 0 => fun _ _ => .no
  | r + 1 => fnD 4
    (dSeq (dIfS (dT (dBin false fEq (dBin false fIx (dVar 0) (dC (.int 0))) (dC (.str [110, 117, 109, 98, 101, 114])))) (dRet (dBin false fIx (dVar 0) (dC (.int 1)))) dNext)
    (dSeq (dIfS (dT (dBin false fEq (dBin false fIx (dVar 0) (dC (.int 0))) (dC (.str [98, 111, 120])))) (dRet (dGet2 (dVar 1) (dBin false fIx (dVar 0) (dC (.int 1))) (dC (.int 0)))) dNext)
    (dSeq (dPar 2 3 (dCons (dFn (g__law_worth r) 2 (dCons (dBin false fIx (dVar 0) (dC (.int 1))) (dCons (dVar 1) dNil))) (dCons (dFn (g__law_worth r) 2 (dCons (dBin false fIx (dVar 0) (dC (.int 2))) (dCons (dVar 1) dNil))) dNil)))
    (dSeq (dIfS (dT (dBin false fEq (dBin false fIx (dVar 0) (dC (.int 0))) (dC (.str [112, 108, 117, 115])))) (dRet (dBin false fMod (dBin false fAdd (dVar 2) (dVar 3)) (dC (.int 1000)))) dNext)
    (dRet (dIf (dT (dBin false fEq (dBin false fIx (dVar 0) (dC (.int 0))) (dC (.str [108, 101, 115, 115])))) (dCall false fIntW (dCons (dBin false (fCmp fun i j => decide (i < j)) (dVar 2) (dVar 3)) dNil)) (dCall false fIntW (dCons (dBin false fEq (dVar 2) (dVar 3)) dNil))))))))
def g_worth_e1 (rec : DF) : DE := (dFn rec 2 (dCons (dVar 4) (dCons (dVar 1) dNil)))
def g_worth : Nat → DF
  | 0 => fun _ _ => .no
  | r + 1 => fnD 5
    (dSeq (dIfS (dT (dBin false fEq (dBin false fIx (dVar 0) (dC (.int 0))) (dC (.str [110, 117, 109, 98, 101, 114])))) (dRet (dBin false fIx (dVar 0) (dC (.int 1)))) dNext)
    (dSeq (dIfS (dT (dBin false fEq (dBin false fIx (dVar 0) (dC (.int 0))) (dC (.str [98, 111, 120])))) (dRet (dGet2 (dVar 1) (dBin false fIx (dVar 0) (dC (.int 1))) (dC (.int 0)))) dNext)
    (dSeq (dAsgT (tgL 2 (tgs1 (tgN 2) (tgs1 (tgN 3) tgs0))) (dLc false (dItT (dSl false (dVar 0) (dPart (dC (.int 1))) dNoPart)) (tgN 4) dYes (g_worth_e1 (g_worth r)) [4]))
    (dSeq (dIfS (dT (dBin false fEq (dBin false fIx (dVar 0) (dC (.int 0))) (dC (.str [112, 108, 117, 115])))) (dRet (dBin false fMod (dBin false fAdd (dVar 2) (dVar 3)) (dBin false fAdd (dC c_MOST_NUMBER) (dC (.int 1))))) dNext)
    (dRet (dIf (dT (dBin false fEq (dBin false fIx (dVar 0) (dC (.int 0))) (dC (.str [108, 101, 115, 115])))) (dCall false fIntW (dCons (dBin false (fCmp fun i j => decide (i < j)) (dVar 2) (dVar 3)) dNil)) (dCall false fIntW (dCons (dBin false fEq (dVar 2) (dVar 3)) dNil))))))))
end Bel

/-! Terms as trees: their texts, their worth. -/
namespace Bel
open PySem PySem.Spec PyProof.Rows L2 TL
inductive Trm where
  | num (n : Nat)
  | box (x : List Nat)
  | bin (s : List Nat) (a b : Trm)
def Trm.w : Trm → W
  | .num n => .tup [.str tNum, .int n]
  | .box x => .tup [.str tBox, .str x]
  | .bin s a b => .tup [.str s, a.w, b.w]
@[simp] theorem w_num (n : Nat) : (Trm.num n).w = .tup [.str tNum, .int n] := rfl
@[simp] theorem w_box (x : List Nat) : (Trm.box x).w = .tup [.str tBox, .str x] := rfl
@[simp] theorem w_bin (s : List Nat) (a b : Trm) : (Trm.bin s a b).w = .tup [.str s, a.w, b.w] := rfl
def Trm.ok : Nat → Trm → Prop
  | 0, _ => False
  | _ + 1, .num n => n ≤ 999
  | _ + 1, .box x => nm x = true
  | d + 1, .bin s a b => s ∈ signw ∧ a.ok d ∧ b.ok d
theorem tm_T : ∀ {d : Nat} {w : W}, tm d w = true → ∃ t : Trm, w = t.w ∧ t.ok d
  | 0, _, h => by simp at h
  | d + 1, w, h => by
    rcases tm_cases h with ⟨i, rfl, h0, h1⟩ | ⟨x, rfl, h1⟩ | ⟨s, a, b, rfl, hs, ha, hb⟩
    · exact ⟨.num i.toNat, by simp; omega, by show i.toNat ≤ 999; omega⟩
    · exact ⟨.box x, rfl, h1⟩
    · obtain ⟨ta, rfl, oa⟩ := tm_T ha
      obtain ⟨tb, rfl, ob⟩ := tm_T hb
      exact ⟨.bin s ta tb, rfl, hs, oa, ob⟩
theorem ok_tm : ∀ {d : Nat} {t : Trm}, t.ok d → tm d t.w = true
  | 0, _, h => h.elim
  | d + 1, .num n, h => tm_num (by omega) (by have : n ≤ 999 := h; omega)
  | d + 1, .box x, h => tm_box h
  | d + 1, .bin s a b, h => tm_bin h.1 (ok_tm h.2.1) (ok_tm h.2.2)
def Trm.sz : Trm → Nat
  | .bin _ a b => 1 + a.sz + b.sz
  | _ => 1
theorem sz_ok : ∀ {d : Nat} {t : Trm}, t.ok d → t.sz < 2 ^ d
  | 0, _, h => h.elim
  | d + 1, .num n, h => by show 1 < 2 ^ (d + 1); have : 0 < 2 ^ d := Nat.two_pow_pos d; omega
  | d + 1, .box x, h => by show 1 < 2 ^ (d + 1); have : 0 < 2 ^ d := Nat.two_pow_pos d; omega
  | d + 1, .bin s a b, h => by
    have := sz_ok h.2.1
    have := sz_ok h.2.2
    show 1 + a.sz + b.sz < 2 ^ (d + 1)
    omega
def sg (s : List Nat) : List Nat := if s = tPlus then [32, 43, 32] else if s = tLess then [32, 60, 32] else [32, 61, 32]
def Trm.txt : Trm → List Nat
  | .num n => numL n
  | .box x => x
  | .bin s a b => 40 :: (a.txt ++ (sg s ++ (b.txt ++ [41])))
theorem sg_len (s : List Nat) : (sg s).length = 3 := by unfold sg; split <;> (try split) <;> rfl
theorem numL_3 {n : Nat} (h : n ≤ 999) : (numL n).length ≤ 3 := numL_len (by decide) (by omega)
theorem txt_len : ∀ {d : Nat} {t : Trm}, t.ok d → t.txt.length ≤ 6 * t.sz
  | 0, _, h => h.elim
  | d + 1, .num n, h => by have := numL_3 h; show (numL n).length ≤ 6 * 1; omega
  | d + 1, .box x, h => by have := (nm_len h).2; show x.length ≤ 6 * 1; omega
  | d + 1, .bin s a b, h => by
    have := txt_len h.2.1
    have := txt_len h.2.2
    have := sg_len s
    simp only [Trm.txt, Trm.sz, List.length_cons, List.length_append, List.length_nil]
    omega
theorem txt_6 {d : Nat} {t : Trm} (h : t.ok d) (hd : d ≤ 10) : t.txt.length ≤ 6144 := by
  have h1 := txt_len h
  have h2 := sz_ok h
  have h3 : 2 ^ d ≤ 2 ^ 10 := Nat.pow_le_pow_right (by decide) hd
  omega
theorem digL_nat (n : Nat) : digL (n : Int) = numL n := tl_num n
theorem numL_cp (n : Nat) : (numL n).all okCp = true := by
  rw [List.all_eq_true]
  intro c hc
  have := numL_digits n c hc
  simp [okCp]; omega
theorem fStr_num {n : Nat} (h : n ≤ 999) : fStr [.int n] = some (.val (.str (numL n))) := by
  have h1 : (n : Int).natAbs.log2 < 1920 := by
    have : (n : Int).natAbs = n := by omega
    rw [this]
    have : n < 2 ^ 10 := by omega
    by_cases h0 : n = 0
    · subst h0; decide
    · have := (Nat.log2_lt h0).mpr this
      omega
  have h2 := numL_3 h
  have h3 : (numL n).length ≤ 16777216 := by omega
  simp only [fStr, digL_nat, h1, h3, numL_cp, and_self, if_true]
theorem signw_3 {s : List Nat} (h : s ∈ signw) : s = tPlus ∨ s = tLess ∨ s = tSame := by simpa [signw] using h
section
variable {S : Store}
theorem written_w : ∀ (t : Trm) (d r : Nat), d ≤ r → d ≤ 10 → t.ok d → g_written r [.v t.w] S = .ok (.v (.str t.txt)) S
  | _, 0, _, _, _, h => h.elim
  | _, _ + 1, 0, h, _, _ => by omega
  | .num n, d + 1, r + 1, _, _, h => by
    have e := fStr_num h
    simp [g_written, e, Trm.txt]
  | .box x, d + 1, r + 1, _, _, h => by simp [g_written, Trm.txt]
  | .bin s a b, d + 1, r + 1, hr, hd, h => by
    obtain ⟨hs, ha, hb⟩ := h
    have ea := written_w a d r (by omega) (by omega) ha
    have eb := written_w b d r (by omega) (by omega) hb
    have la := txt_6 ha (by omega)
    have lb := txt_6 hb (by omega)
    have h2 : ¬ ((2 : Int) + 1 = 2) := by decide
    rcases signw_3 hs with rfl | rfl | rfl <;>
    simp (disch := first | (simp; done) | (simp; omega)) [g_written, ea, eb, c_SIGNS, d_SIGNS, List.lookup, fAdd_str, Trm.txt, sg]
theorem in_leaf (s : List Nat) : fInO (.str s) (.tup [.str tNum, .str tBox]) = some (.val (.bl (decide (s ∈ [tNum, tBox])))) := in_tup [tNum, tBox] s
theorem signd {s : List Nat} (h : s ∈ signw) : ∃ c, fIx (.dct (mrgW [] [(.str tPlus, .str [43]), (.str tLess, .str [60]), (.str tSame, .str [61])])) (.str s) = some (.val (.str [c])) ∧ sg s = [32, c, 32] := by
  rcases signw_3 h with rfl | rfl | rfl
  · exact ⟨43, rfl, rfl⟩
  · exact ⟨60, rfl, rfl⟩
  · exact ⟨61, rfl, rfl⟩
theorem ltext_w : ∀ (t : Trm) (d r : Nat), d ≤ r → d ≤ 10 → t.ok d → g__law_text r [.v t.w] S = .ok (.v (.str t.txt)) S
  | _, 0, _, _, _, h => h.elim
  | _, _ + 1, 0, h, _, _ => by omega
  | .num n, d + 1, r + 1, _, _, h => by
    have e := fStr_num h
    simp [g__law_text, e, Trm.txt, in_leaf]
  | .box x, d + 1, r + 1, _, _, h => by simp [g__law_text, Trm.txt, in_leaf]
  | .bin s a b, d + 1, r + 1, hr, hd, h => by
    obtain ⟨hs, ha, hb⟩ := h
    have ea := ltext_w a d r (by omega) (by omega) ha
    have eb := ltext_w b d r (by omega) (by omega) hb
    have la := txt_6 ha (by omega)
    have lb := txt_6 hb (by omega)
    have h1 : s ∉ [tNum, tBox] := by rcases signw_3 hs with rfl | rfl | rfl <;> decide
    obtain ⟨c, e1, e2⟩ := signd hs
    simp (disch := first | (simp; done) | (simp; omega)) [g__law_text, ea, eb, in_leaf, h1, e1, e2, fAdd_str, Trm.txt]
end
end Bel

/-! Worth, boxes. -/
namespace Bel
open PySem PySem.Spec PyProof.Rows L2 TL
/-- a dict of boxes -/
def dok (l : List (W × W)) : Prop := ∀ p ∈ l, (∃ x, p.1 = .str x) ∧ ∃ i : Int, p.2 = .int i ∧ 0 ≤ i ∧ i ≤ 999
def boxv (l : List (W × W)) (x : List Nat) : Int := match lookD (.str x) l with
  | some (.int i) => i
  | _ => 0
theorem look_ok {l : List (W × W)} (h : dok l) (x : List Nat) : (lookD (.str x) l).getD (.int 0) = .int (boxv l x) ∧ 0 ≤ boxv l x ∧ boxv l x ≤ 999 := by
  unfold boxv lookD
  cases e : l.find? fun p => eqK p.1 (.str x) with
  | none => simp
  | some p =>
    obtain ⟨_, i, h1, h2, h3⟩ := h p (List.mem_of_find?_eq_some e)
    obtain ⟨p1, p2⟩ := p
    subst h1
    simp [h2, h3]
def Trm.wor (l : List (W × W)) : Trm → Int
  | .num n => n
  | .box x => boxv l x
  | .bin s a b => if s = tPlus then (a.wor l + b.wor l) % 1000 else if s = tLess then b2n (decide (a.wor l < b.wor l)) else b2n (decide (a.wor l = b.wor l))
theorem wor_in {l : List (W × W)} (hl : dok l) : ∀ (t : Trm) (d : Nat), t.ok d → 0 ≤ t.wor l ∧ t.wor l ≤ 999
  | _, 0, h => h.elim
  | .num n, d + 1, h => by have : n ≤ 999 := h; simp only [Trm.wor]; omega
  | .box x, d + 1, h => (look_ok hl x).2
  | .bin s a b, d + 1, h => by
    have z : ∀ b, 0 ≤ b2n b ∧ b2n b ≤ 999 := fun b => by cases b <;> decide
    simp only [Trm.wor]
    split
    · omega
    · split <;> exact z _
section
variable {S : Store} {u : U} {l : List (W × W)}
theorem lworth_w (hu : dr S u = some (.dct l)) (hl : dok l) : ∀ (t : Trm) (d r : Nat), d ≤ r → t.ok d → g__law_worth r [.v t.w, u] S = .ok (.v (.int (t.wor l))) S
  | _, 0, _, _, h => h.elim
  | _, _ + 1, 0, h, _ => by omega
  | .num n, d + 1, r + 1, _, h => by simp [g__law_worth, Trm.wor]
  | .box x, d + 1, r + 1, _, h => by simp [g__law_worth, Trm.wor, hu, (look_ok hl x).1]
  | .bin s a b, d + 1, r + 1, hr, h => by
    obtain ⟨hs, ha, hb⟩ := h
    have ea := lworth_w hu hl a d r (by omega) ha
    have eb := lworth_w hu hl b d r (by omega) hb
    have hm : fMod (.int (a.wor l + b.wor l)) (.int 1000) = some (.val (.int ((a.wor l + b.wor l) % 1000))) := fMod_int (by decide)
    rcases signw_3 hs with rfl | rfl | rfl <;>
    simp [g__law_worth, ea, eb, Trm.wor, hm]
theorem worth_w (hu : dr S u = some (.dct l)) (hl : dok l) : ∀ (t : Trm) (d r : Nat), d ≤ r → t.ok d → g_worth r [.v t.w, u] S = .ok (.v (.int (t.wor l))) S
  | _, 0, _, _, h => h.elim
  | _, _ + 1, 0, h, _ => by omega
  | .num n, d + 1, r + 1, _, h => by simp [g_worth, Trm.wor]
  | .box x, d + 1, r + 1, _, h => by simp [g_worth, Trm.wor, hu, (look_ok hl x).1]
  | .bin s a b, d + 1, r + 1, hr, h => by
    obtain ⟨hs, ha, hb⟩ := h
    have ea := worth_w hu hl a d r (by omega) ha
    have eb := worth_w hu hl b d r (by omega) hb
    have hm : fMod (.int (a.wor l + b.wor l)) (.int 1000) = some (.val (.int ((a.wor l + b.wor l) % 1000))) := fMod_int (by decide)
    have hc : cutL [W.str s, a.w, b.w] (some 1) none = [a.w, b.w] := cut1 _ _
    have z : ∀ x2 x3 x4 : Option U, lcL (tgN 4) dYes (g_worth_e1 (g_worth r)) (wipeE [some (.v (.tup [.str s, a.w, b.w])), some u, x2, x3, x4] [4]) [a.w, b.w] S = .ok [.int (a.wor l), .int (b.wor l)] S := fun x2 x3 x4 => by
      simp [lcL_cons, lcL_nil, wipeE, g_worth_e1, ea, eb]
    rcases signw_3 hs with rfl | rfl | rfl <;>
    simp [g_worth, hc, z, Trm.wor, c_MOST_NUMBER, hm]
/-! ### boxes drawn -/
theorem putW_ok {k : List Nat} {i : Int} (hl : dok l) (h0 : 0 ≤ i) (h1 : i ≤ 999) : dok (putW (.str k) (.int i) l) ∧ (putW (.str k) (.int i) l).length ≤ l.length + 1 := by
  unfold putW
  split
  · refine ⟨fun p hp => ?_, by simp⟩
    obtain ⟨q, hq, rfl⟩ := List.mem_map.mp hp
    split
    · exact ⟨(hl q hq).1, i, rfl, h0, h1⟩
    · exact hl q hq
  · refine ⟨fun p hp => ?_, by simp⟩
    rcases List.mem_append.mp hp with hp | hp
    · exact hl p hp
    · simp at hp
      subst hp
      exact ⟨⟨k, rfl⟩, i, rfl, h0, h1⟩
theorem mrgW_ok : ∀ {m l : List (W × W)}, dok l → dok m → dok (mrgW l m) ∧ (mrgW l m).length ≤ l.length + m.length
  | [], l, hl, _ => ⟨hl, by simp [mrgW]⟩
  | p :: m, l, hl, hm => by
    obtain ⟨⟨k, e1⟩, i, e2, h0, h1⟩ := hm p List.mem_cons_self
    obtain ⟨p1, p2⟩ := p
    obtain rfl := e1
    obtain rfl := e2
    obtain ⟨q1, q2⟩ := putW_ok (k := k) hl h0 h1
    obtain ⟨q3, q4⟩ := mrgW_ok (m := m) q1 fun p hp => hm p (List.mem_cons_of_mem _ hp)
    exact ⟨q3, Nat.le_trans q4 (by simp; omega)⟩
theorem same_ok : ∀ {l : List (W × W)}, dok l → sameD l l = true
  | [], _ => rfl
  | p :: l, h => by
    obtain ⟨⟨k, e1⟩, i, e2, _⟩ := h p List.mem_cons_self
    have ih := same_ok (l := l) fun p hp => h p (List.mem_cons_of_mem _ hp)
    obtain ⟨p1, p2⟩ := p
    obtain rfl := e1
    obtain rfl := e2
    simp [sameD, sameP, ih, eqK, isFlat, eqD, toD, PyData.eqv]
variable {k : Nat} {n : Int}
theorem boxes_loop (hk : k < S.length) : ∀ (ws : List W), (∀ w ∈ ws, isnm w = true) → ∀ (l : List (W × W)) (n : Int) (x1 x3 : Option U), dok l → ws.length + l.length ≤ 1000 →
    ∃ l' n' y3, dLoop (tgN 3) g__law_boxes_b1 ws [some (.o k), x1, some (.o S.length), x3] (S.set k (stt n) ++ [.dct l]) = .ok (.nx [some (.o k), x1, some (.o S.length), y3]) (S.set k (stt n') ++ [.dct l']) ∧ dok l' ∧ l'.length ≤ ws.length + l.length
  | [], _, l, n, x1, x3, hl, _ => ⟨l, n, x3, rfl, hl, by simp⟩
  | w :: ws, hw, l, n, x1, x3, hl, hn => by
    obtain ⟨x, rfl, _⟩ := isnm_str (hw w List.mem_cons_self)
    have hk' : k < (S ++ [Ob.dct l]).length := by simp; omega
    have sw : ∀ n : Int, S.set k (stt n) ++ [Ob.dct l] = (S ++ [Ob.dct l]).set k (stt n) := fun n => (List.set_append_left _ _ hk).symm
    have N := next_w (n := n) (m := 3) hk' (by decide) (by decide)
    rw [dLoop_cons, tgN_ap]
    by_cases h0 : 0 < n % 3
    · have N2 := next_w (n := n / 3) (m := 1000) hk' (by decide) (by decide)
      have hp : ∃ i : Int, 0 ≤ i ∧ i ≤ 999 ∧ pk [.int 0, .int 1, .int 2, .int 500, .int 998, .int 999, .int (n / 3 % 1000)] (n / 3 / 1000 % (7 : Nat)) = .int i := by
        have hm := pick_mem (n := n / 3 / 1000) (l := [W.int 0, .int 1, .int 2, .int 500, .int 998, .int 999, .int (n / 3 % 1000)]) (by simp)
        have := rem_lt (n := n / 3) (m := 1000) (by decide)
        simp only [List.mem_cons, List.not_mem_nil, or_false] at hm
        rcases hm with e | e | e | e | e | e | e <;> exact ⟨_, by omega, by omega, e⟩
      obtain ⟨i, i0, i1, e1⟩ := hp
      have P := pickL_w (n := n / 3 / 1000) hk' (l := [W.int 0, .int 1, .int 2, .int 500, .int 998, .int 999, .int (n / 3 % 1000)]) (by simp) (by simp)
      obtain ⟨q1, q2⟩ := putW_ok (k := x) hl i0 i1
      have st : ∀ n : Int, ((S ++ [Ob.dct l]).set k (stt n))[S.length]? = some (.dct l) := fun n => by
        rw [List.getElem?_set_ne (by omega)]; simp
      have st' : ∀ (n : Int) (h : S.length < ((S ++ [Ob.dct l]).set k (stt n)).length), ((S ++ [Ob.dct l]).set k (stt n))[S.length]'h = .dct l := fun n h => by
        have z := st n
        rw [List.getElem?_eq_getElem h] at z
        exact Option.some.inj z
      have e1' : pk [.int 0, .int 1, .int 2, .int 500, .int 998, .int 999, .int (n / 3 % 1000)] (n / 3 / 1000 % 7) = .int i := e1
      have se : ∀ n : Int, ((S ++ [Ob.dct l]).set k (stt n)).set S.length (.dct (putW (.str x) (.int i) l)) = S.set k (stt n) ++ [.dct (putW (.str x) (.int i) l)] := fun n => by
        rw [← sw, List.set_append_right _ _ (by simp)]; simp
      have hl2 : l.length < 16777216 := by simp at hn; omega
      obtain ⟨l', n', y3, r1, r2, r3⟩ := boxes_loop hk ws (fun w hw' => hw w (List.mem_cons_of_mem _ hw')) (putW (.str x) (.int i) l) (n / 3 / 1000 / (7 : Nat)) x1 (some (.v (.str x))) q1 (by simp at hn; omega)
      refine ⟨l', n', y3, ?_, r2, by simp; omega⟩
      have eb : g__law_boxes_b1 [some (.o k), x1, some (.o S.length), some (.v (.str x))] (S.set k (stt n) ++ [.dct l]) = .ok (.nx [some (.o k), x1, some (.o S.length), some (.v (.str x))]) (S.set k (stt (n / 3 / 1000 / (7 : Nat))) ++ [.dct (putW (.str x) (.int i) l)]) := by
        rw [sw]
        simp only [List.length_cons, List.length_nil] at P
        simp [g__law_boxes_b1, N, h0, N2, P, e1', st', hl2, se]
      simp only [List.set_cons_succ, List.set_cons_zero, eb]
      exact r1
    · obtain ⟨l', n', y3, r1, r2, r3⟩ := boxes_loop hk ws (fun w hw' => hw w (List.mem_cons_of_mem _ hw')) l (n / 3) x1 (some (.v (.str x))) hl (by simp at hn; omega)
      refine ⟨l', n', y3, ?_, r2, by simp; omega⟩
      have eb : g__law_boxes_b1 [some (.o k), x1, some (.o S.length), some (.v (.str x))] (S.set k (stt n) ++ [.dct l]) = .ok (.nx [some (.o k), x1, some (.o S.length), some (.v (.str x))]) (S.set k (stt (n / 3)) ++ [.dct l]) := by
        rw [sw, sw]
        simp [g__law_boxes_b1, N, h0]
      simp only [List.set_cons_succ, List.set_cons_zero, eb]
      exact r1
theorem boxes_w (hk : k < S.length) {ws : List W} (hw : ∀ w ∈ ws, isnm w = true) (hl : ws.length ≤ 100) : ∃ l n', g__law_boxes [.o k, .v (.lst ws)] (S.set k (stt n)) = .ok (.o S.length) (S.set k (stt n') ++ [.dct l]) ∧ dok l ∧ l.length ≤ ws.length + 1 := by
  have N := next_w (n := n) (m := 1000) hk (by decide) (by decide)
  have := rem_lt (n := n) (m := 1000) (by decide)
  have d0 : dok (mrgW [] [(.str [122, 122], .int (n % 1000))]) := (mrgW_ok (l := []) (m := [(.str [122, 122], .int (n % 1000))]) (fun _ h => nomatch h) fun p hp => by
    simp at hp
    subst hp
    exact ⟨⟨_, rfl⟩, _, rfl, by omega, by omega⟩).1
  have l0 : (mrgW [] [(W.str [122, 122], W.int (n % 1000))]).length = 1 := rfl
  obtain ⟨l', n', y3, r1, r2, r3⟩ := boxes_loop hk ws hw _ (n / 1000) (some (.v (.lst ws))) none d0 (by rw [l0]; omega)
  refine ⟨l', n', ?_, r2, by rw [l0] at r3; exact r3⟩
  have hws : ws.length ≤ 16777216 := by omega
  have e0 : (S.set k (stt (n / 1000))).length = S.length := by simp
  have e1 : (Out.nd (mrgW [] [(W.str [122, 122], W.int (n % 1000))])).put true (S.set k (stt (n / 1000))) = .ok (.o S.length) (S.set k (stt (n / 1000)) ++ [.dct (mrgW [] [(W.str [122, 122], W.int (n % 1000))])]) := by
    rw [put_ndO, e0]
  have e2 := fin_own (S := S.set k (stt n')) (o := .dct l')
  rw [show (S.set k (stt n')).length = S.length by simp] at e2
  simp [g__law_boxes, N, e1, hws, r1, e2]
end
end Bel

/-! Numbers told, terms shown. -/
namespace Bel
open PySem PySem.Spec PyProof.Rows L2 TL
def figs : List Nat := [48, 49, 50, 51, 52, 53, 54, 55, 56, 57]
theorem numL_figs (n : Nat) : ∀ c ∈ numL n, c ∈ figs := fun c hc => by
  have := numL_digits n c hc
  have h : ∀ d : Nat, d < 58 → 48 ≤ d → d ∈ figs := by decide
  exact h c (by omega) (by omega)
theorem int_numL {n : Nat} (h : n ≤ 999) : PySem.intText? (mkS (numL n)) = some (n : Int) := by
  have h3 := numL_3 h
  have e := int_num (n := n) (by omega)
  rw [show (Str.ofString (toString ((n : Nat) : Int))) = mkS (numL n) by rw [← tl_num]] at e
  exact e
theorem fIntW_num {n : Nat} (h : n ≤ 999) : fIntW [.str (numL n)] = some (.val (.int n)) := by
  have h3 := numL_3 h
  have h4 : (numL n).length ≤ 640 := by omega
  simp [fIntW, int_numL h, h4]
theorem zero_first {n : Nat} (h : n ≤ 999) (hz : numL n ≠ [48]) : Txt.startswith (mkS (numL n)) (mkS [48]) = false := by
  have h' : ∀ n : Nat, n < 1000 → numL n = [48] ∨ Txt.startswith (mkS (numL n)) (mkS [48]) = false := by decide +kernel
  exact (h' n (by omega)).resolve_left hz
section
variable {S : Store}
theorem told_w {n : Nat} (h : n ≤ 999) : g_number_told [.v (.str (numL n)), .v (.int 999)] S = .ok (.v (.int n)) S := by
  have h3 := numL_3 h
  have h1 : 1 ≤ (numL n).length := by
    have := numL_ne n
    cases e : numL n with
    | nil => exact absurd e this
    | cons a l => simp
  have z : ∀ x0 x1 x2 : Option U, lcL (tgN 2) dYes g_number_told_e1 (wipeE [x0, x1, x2] [2]) ((numL n).map fun c => .str [c]) S = .ok ((numL n).map fun c => W.bl (decide (c ∈ figs))) S := fun x0 x1 x2 =>
    lcL_map (fun c => .str [c]) _ _ fun c hc => ⟨_, rfl, by simp [g_number_told_e1, wipeE, c_FIGURES, figs]⟩
  have a : (numL n).all (fun c => decide (c ∈ figs)) = true := List.all_eq_true.mpr fun c hc => decide_eq_true (numL_figs n c hc)
  have s9 : fStr [.int 999] = some (.val (.str [57, 57, 57])) := by
    have e := fStr_num (n := 999) (by decide)
    rw [show numL 999 = [57, 57, 57] by decide +kernel] at e
    exact e
  have hl : (numL n).length ≤ 16777216 := by omega
  have c1 : (1 : Int) ≤ (numL n).length := by omega
  have c2 : ((numL n).length : Int) ≤ 3 := by omega
  have c3 : (n : Int) ≤ 999 := by omega
  have ap := fAll_map (fun c => decide (c ∈ figs)) (numL n)
  rw [a] at ap
  by_cases hz : numL n = [48]
  · have e := fIntW_num h
    rw [hz] at e z ap
    simp only [List.map_cons, List.map_nil] at z ap
    simp [g_number_told, s9, z, ap, e, c3, hz]
  · have st : fStarts (.str (numL n)) [.str [48]] = some (.val (.bl false)) := by rw [fStarts, zero_first h hz]
    simp [g_number_told, s9, z, hl, c1, c2, ap, st, fIntW_num h, c3, hz]
end
end Bel

/-! Terms shown. -/
namespace Bel
open PySem PySem.Spec PyProof.Rows L2 TL
theorem tl_app (x y : Str) : (x ++ y).cps.toList = x.cps.toList ++ y.cps.toList := by
  show (x.cps ++ y.cps).toList = _
  rw [Array.toList_append]
theorem rchar : ∀ c ∈ abc, Builtin.Str.reprChar 39 c = [c] := by decide +kernel
theorem rep_abc {x : List Nat} (h : ∀ c ∈ x, c ∈ abc) : (reprText (mkS x)).cps.toList = 39 :: (x ++ [39]) := by
  have hq : reprQuote (mkS x) = 39 := by
    unfold reprQuote
    have : (mkS x).cps.contains 39 = false := by
      cases e : (mkS x).cps.contains 39 with
      | false => rfl
      | true =>
        have : (39 : Nat) ∈ x := by simpa [mkS] using e
        exact absurd (h _ this) (by decide)
    rw [this]; rfl
  have fo : ∀ (x : List Nat), (∀ c ∈ x, c ∈ abc) → ∀ acc : Array Nat, (x.foldl (fun out c => out ++ (Builtin.Str.reprChar 39 c).toArray) acc).toList = acc.toList ++ x := by
    intro x
    induction x with
    | nil => intro _ acc; simp
    | cons c r ih =>
      intro h acc
      rw [List.foldl_cons, ih (fun c hc => h c (List.mem_cons_of_mem _ hc)), rchar c (h c List.mem_cons_self)]
      simp
  unfold reprText
  rw [hq, ← Array.foldl_toList]
  show (Array.push _ 39).toList = _
  rw [Array.toList_push]
  have := fo x h #[39]
  rw [show (mkS x).cps.toList = x from rfl, this]
  simp
theorem shown_s {x : List Nat} (h : ∀ c ∈ x, c ∈ abc) : shownL (.str x) = 39 :: (x ++ [39]) := by
  unfold shownL
  rw [toD, PyData.shown_str]
  exact rep_abc h
theorem shown_i (n : Nat) : shownL (.int n) = numL n := by
  unfold shownL
  rw [toD, PyData.shown_int]
  exact tl_num n
theorem lt1 : (Str.ofString "(").cps.toList = [40] := rfl
theorem lt2 : (Str.ofString ", ").cps.toList = [44, 32] := rfl
theorem lt3 : (Str.ofString ")").cps.toList = [41] := rfl
theorem shown_2 (a b : W) : shownL (.tup [a, b]) = 40 :: (shownL a ++ (44 :: 32 :: (shownL b ++ [41]))) := by
  unfold shownL
  have h : (([toD a, toD b].length == 1) = true) = False := by simp
  simp only [toD, toDs, PyData.shown_tuple, PyData.shownAll_cons, PyData.shownAll_nil, Str.join, tl_app, h, if_false, lt1, lt2, lt3]
  simp only [List.append_assoc, List.cons_append, List.nil_append]
theorem shown_3 (a b c : W) : shownL (.tup [a, b, c]) = 40 :: (shownL a ++ (44 :: 32 :: (shownL b ++ (44 :: 32 :: (shownL c ++ [41]))))) := by
  unfold shownL
  have h : (([toD a, toD b, toD c].length == 1) = true) = False := by simp
  simp only [toD, toDs, PyData.shown_tuple, PyData.shownAll_cons, PyData.shownAll_nil, Str.join, tl_app, h, if_false, lt1, lt2, lt3]
  simp only [List.append_assoc, List.cons_append, List.nil_append]
theorem sw_abc {s : List Nat} (h : s ∈ signw) : (∀ c ∈ s, c ∈ abc) ∧ s.length = 4 := by
  rcases signw_3 h with rfl | rfl | rfl <;> exact ⟨by decide, rfl⟩
theorem abc_cp : ∀ c ∈ abc, okCp c = true := by decide
theorem shown_len : ∀ {d : Nat} {t : Trm}, t.ok d → (shownL t.w).length ≤ 20 * t.sz ∧ ∀ c ∈ shownL t.w, okCp c = true
  | 0, _, h => h.elim
  | d + 1, .num n, h => by
    have := numL_3 h
    have cp := List.all_eq_true.mp (numL_cp n)
    rw [w_num, shown_2, shown_s (by decide), shown_i]
    refine ⟨by simp [Trm.sz]; omega, fun c hc => ?_⟩
    simp only [List.mem_cons, List.mem_append, List.not_mem_nil, or_false] at hc
    rcases hc with rfl | (rfl | h | rfl) | rfl | rfl | h | rfl <;> first | rfl | exact cp _ h | (rcases h with rfl | rfl | rfl | rfl | rfl | rfl <;> rfl)
  | d + 1, .box x, h => by
    have := (nm_len h).2
    have ab := nm_abc h
    rw [w_box, shown_2, shown_s (by decide), shown_s ab]
    refine ⟨by simp [Trm.sz]; omega, fun c hc => ?_⟩
    simp only [List.mem_cons, List.mem_append, List.not_mem_nil, or_false] at hc
    rcases hc with rfl | (rfl | h | rfl) | rfl | rfl | (rfl | h | rfl) | rfl <;> first | rfl | exact abc_cp _ (ab _ h) | (rcases h with rfl | rfl | rfl <;> rfl)
  | d + 1, .bin s a b, h => by
    obtain ⟨hs, ha, hb⟩ := h
    obtain ⟨a1, a2⟩ := shown_len ha
    obtain ⟨b1, b2⟩ := shown_len hb
    obtain ⟨ab, l4⟩ := sw_abc hs
    rw [w_bin, shown_3, shown_s ab]
    refine ⟨by simp [Trm.sz]; omega, fun c hc => ?_⟩
    simp only [List.mem_cons, List.mem_append, List.not_mem_nil, or_false] at hc
    rcases hc with rfl | (rfl | h | rfl) | rfl | rfl | h | rfl | rfl | h | rfl <;> first | rfl | exact a2 _ h | exact b2 _ h | exact abc_cp _ (ab _ h)
theorem show_ok : ∀ {d m : Nat} {t : Trm}, t.ok d → d ≤ m → shp m t.w = true ∧ (toD t.w).showable = true
  | 0, _, _, h, _ => h.elim
  | _ + 1, 0, _, _, h => by omega
  | d + 1, m + 1, .num n, h, _ => by
    have h1 : n.log2 < 1920 := by
      have h2 : n ≤ 999 := h
      by_cases h0 : n = 0
      · subst h0; decide
      · have := (Nat.log2_lt h0).mpr (show n < 2 ^ 10 by omega)
        omega
    simp [shp, shps, toD, toDs, PyData.showable, PyData.showableAll, h1]
  | d + 1, m + 1, .box x, h, _ => by simp [shp, shps, toD, toDs, PyData.showable, PyData.showableAll]
  | d + 1, m + 1, .bin s a b, h, hd => by
    obtain ⟨a1, a2⟩ := show_ok (m := m) h.2.1 (by omega)
    obtain ⟨b1, b2⟩ := show_ok (m := m) h.2.2 (by omega)
    simp [shp, shps, toD, toDs, PyData.showable, PyData.showableAll, a1, a2, b1, b2]
theorem isSq_w (t : Trm) : isSq t.w = true := by cases t <;> rfl
theorem repr_w {t : Trm} (h : t.ok 6) : fRepr [t.w] = some (.val (.str (shownL t.w))) := by
  obtain ⟨h1, h2⟩ := show_ok (m := 64) h (by decide)
  obtain ⟨h3, h4⟩ := shown_len h
  have h5 := sz_ok h
  have h6 : (shownL t.w).length ≤ 16777216 := by omega
  have h7 : (shownL t.w).all okCp = true := List.all_eq_true.mpr h4
  simp only [fRepr, isSq_w, h1, h2, h6, h7, and_self, if_true]
/-! ### texts: places, stretches -/
theorem cut_nat (T : List Nat) (p q : Nat) (h : p ≤ q) : cutL T (some (p : Int)) (some (q : Int)) = (T.drop p).take (q - p) := by
  unfold cutL
  rw [HT.sIx_nat, HT.sIx_nat]
  by_cases hp : p ≤ T.length
  · rw [Nat.min_eq_left hp]
    by_cases hq : q ≤ T.length
    · rw [Nat.min_eq_left hq]
    · rw [Nat.min_eq_right (by omega), List.take_of_length_le (by simp), List.take_of_length_le (by simp; omega)]
  · rw [Nat.min_eq_right (by omega), Nat.min_eq_right (by omega), List.drop_of_length_le (Nat.le_refl _), List.drop_of_length_le (by omega)]
    simp
theorem drop_at {T r : List Nat} {p c : Nat} (h : T.drop p = c :: r) : p < T.length ∧ T[p]? = some c ∧ T.drop (p + 1) = r := by
  have hl : p < T.length := by
    by_cases hp : p < T.length
    · exact hp
    · rw [List.drop_of_length_le (by omega)] at h; cases h
  refine ⟨hl, ?_, ?_⟩
  · have := List.getElem?_drop (xs := T) (i := p) (j := 0)
    rw [h] at this
    simpa using this.symm
  · rw [← List.drop_drop, h]; rfl
theorem drop_more {T a r : List Nat} {p : Nat} (h : T.drop p = a ++ r) : T.drop (p + a.length) = r := by
  rw [← List.drop_drop, h, List.drop_left]
theorem ix_str {T : List Nat} {p c : Nat} (h : T[p]? = some c) : fIx (.str T) (.int p) = some (.val (.str [c])) := by
  have hl : p < T.length := (List.getElem?_eq_some_iff.mp h).1
  simp [fIx, atW_in (l := T) (i := (p : Int)) (by omega) (by omega), h]
def an : List Nat := abc ++ figs
/-- what stands behind a word -/
def endw (post : List Nat) : Prop := ∀ c r, post = c :: r → c ∉ an
theorem nm_num (n : Nat) : nm (numL n) = false := by
  cases e : nm (numL n) with
  | false => rfl
  | true =>
    have ne := numL_ne n
    cases e2 : numL n with
    | nil => exact absurd e2 ne
    | cons c r =>
      have h1 := nm_abc e c (by rw [e2]; exact List.mem_cons_self)
      have h2 := numL_figs n c (by rw [e2]; exact List.mem_cons_self)
      have : ∀ c ∈ figs, c ∉ abc := by decide
      exact absurd h1 (this c h2)
theorem is_term_w {S : Store} {w : W} (h : neW w = true) : g_is_term [.v w] S = .ok (.v (.bl (tm 6 w))) S := by
  have e := stands_w (S := S) 6 8 w 1 (by decide) (by decide) h
  simp [g_is_term, e]
end Bel

/-! The engine, part La: a lambda without parameters, made and tried. -/
namespace Bel
open PySem PySem.Spec PyProof.Rows L2 LamX
section
variable {F : Fx} {H : Hp} {ι : List Addr} {S : Store} {B : Addr → Prop}
/-- an own table grows -/
theorem RS.tblW (R : RS F ι S B H) {n : Nat} {x q : Str} {P : Addr} {ps ps' : Array Value} (h : S[n]? = some (.tbl x q)) (ha : ι[n]? = some P) (hP : H P = some (.tbl ps)) (ht : TriplesOk ps'.toList)
    (hc : ∀ (pos : Pos) (cv : Value), codeAmong pos ps'.toList = some cv → ∃ c, cv = .ref c ∧ H c = some (CodeO c q) ∧ ¬ Oq ι S B c) : RS F ι S B (upd H P (.tbl ps')) ∧ Go ι S H ι S (upd H P (.tbl ps')) := by
  have oa : Ow ι S P := ⟨n, _, h, by simp, ha⟩
  have G : Go ι S H ι S (upd H P (.tbl ps')) := ⟨fun y z hz nz => by rw [upd_ne (fun e => nz (by rw [e]; exact oa))]; exact hz, fun _ z => .inl z, [], by simp⟩
  refine ⟨⟨R.len, R.nd, fun m o b h1 h2 => ?_, fun b hb => ?_⟩, G⟩
  · by_cases hm : n = m
    · subst hm
      rw [ha] at h2
      cases h2
      rw [h] at h1
      cases h1
      obtain ⟨z1, _⟩ := show TblR F H (Oq ι S B) P x q from R.ob n _ P h ha
      refine ⟨z1, ps', upd_same, ht, fun pos cv hv => ?_⟩
      obtain ⟨c, e1, e2, e3⟩ := hc pos cv hv
      exact ⟨c, e1, by rw [upd_ne (fun e => e3 (.inl (by rw [e]; exact oa)))]; exact e2, e3⟩
    · have hne : b ≠ P := by
        rintro rfl
        obtain ⟨h4, h5⟩ := List.getElem?_eq_some_iff.mp ha
        obtain ⟨h6, h7⟩ := List.getElem?_eq_some_iff.mp h2
        exact hm ((List.getElem_inj R.nd).mp (h5.trans h7.symm))
      have z := R.ob m o b h1 h2
      cases o with
      | lst ws => obtain ⟨vs, e, r⟩ := z; exact ⟨vs, by rw [upd_ne hne]; exact e, r.go G⟩
      | dct ws => obtain ⟨vs, e, r⟩ := z; exact ⟨vs, by rw [upd_ne hne]; exact e, r.go G⟩
      | scr ws => obtain ⟨vs, y, e, d, r⟩ := z; exact ⟨vs, y, by rw [upd_ne hne]; exact e, d.imp (fun d => by rw [upd_ne hne]; exact d) fun ⟨o, d⟩ => ⟨o, by rw [upd_ne hne]; exact d⟩, r.go G⟩
      | tbl x q => exact TblR.ext z G.extq G.ownq fun _ e => by rw [upd_ne hne]; exact e
      | dead => obtain ⟨y, e⟩ := z; exact ⟨y, by rw [upd_ne hne]; exact e⟩
  · obtain ⟨⟨y, e⟩, nb⟩ := R.hid b hb
    exact ⟨⟨y, by rw [upd_ne (fun z => nb (by rw [z]; exact List.mem_of_getElem? ha))]; exact e⟩, nb⟩
end
/-- the maker: its code object, its table -/
def TbM (K : PySem.W.Frag) (mg : Str → Option Value) (base : Heap) (x : Str) : Prop := TabB base mg (He.cT K (x, none)).1 (He.cT K (x, none)).2
section
variable {X : Cx} {pins : List (Addr × Obj)} {σ : L2.St} {H : Hp} {s : Shared} {ec : Nat → Value} {ι : List Addr} {S : Store} {B : Addr → Prop}
/-- lambda: body, made -/
theorem lam_new {n : Nat} {x q : Str} {params : Arguments} {body : Expr} {scope : Scope} {pos : Pos} {E : Value → Shared → Prop} {Q : Value → Shared → Prop} (I : Inv X pins σ H s) (R : RS (fx ec X) ι S B H) (hS : S[n]? = some (.tbl x q))
    (TB : TbM X.K X.mg X.base x) (hcode : X.env.code = .ref (He.cT X.K (x, none)).1) (hq : X.env.qual ++ "<lambda>" = q) (hdef : defaultsOf params X.env = ([], [])) (hfree : ∀ y ∈ scope.names, y.2 = .free → ∃ c, X.env.cells.lookup y.1 = some c)
    (h : ∀ (f c' : Addr) (pm ctv : Value) (H1 : Hp) (s' : Shared), Inv X pins σ H1 s' → Go ι S H ι S H1 → RS (fx ec X) ι S B H1 →
      s'.heap.get? f = some (PySem.W.kla_obj "<lambda>" q params body scope (cloFrom X.env.cells scope.names []) pm c' ctv) → H1 f = none → f ∉ frs X.stack → H1 c' = some (CodeO c' q) → Q (.ref f) s') :
    wpAny (model X.prog X.w) X.A (eval (.Lambda params body scope pos) X.env) Q E s := by
  subst hq
  generalize hc : (He.cT X.K (x, none)).1 = c at *
  have hn : n < ι.length := by rw [R.len]; exact (List.getElem?_eq_some_iff.mp hS).1
  have ha : ι[n]? = some ι[n] := List.getElem?_eq_getElem hn
  generalize ι[n] = P at ha
  obtain ⟨z1, ps, hP, ht, hcs⟩ := show TblR (fx ec X) H (Oq ι S B) P x _ from R.ob n _ P hS ha
  have TB' : TabB X.base X.mg c P := by rw [z1, ← hc]; exact TB
  have fresh : ∀ f, s.heap.objs.size ≤ f → H f = none ∧ f ∉ frs X.stack := fun f hf => ⟨I.hok.fresh hf, fun z => by
    rcases List.mem_cons.mp (I.stkSub _ z) with e | e
    · have h1 := I.lt
      rw [← e] at h1
      exact Nat.lt_irrefl _ (Nat.lt_of_lt_of_le h1 hf)
    · exact I.nofs hf e⟩
  have hP' : s.heap.get? P = some { cls := .none, data := .fields ps } := I.hok P _ hP
  refine PySem.W.kla_eval hdef ?_
  cases hit : codeAmong pos ps.toList with
  | some cv =>
    obtain ⟨c', rfl, co, no⟩ := hcs pos cv hit
    refine PySem.W.kla_makeFunctionHit (mg := X.mg) (c := c) (P := P) (ps := ps) (closure_ok hfree) I.ok.glob (I.mod.glob.keeps I.bk) hcode (TB'.code.keeps I.bk) hP' ht hit (TB'.bm.keeps I.bk) fun ctv h' tk old big => ?_
    obtain ⟨f1, f2⟩ := fresh _ big
    exact h h'.objs.size c' ((X.mg "__name__").getD .none) ctv H _ (I.kept fun b o e => Heap.get?_push_of_some _ (old b o e)) .refl R (Heap.get?_push_size _ rfl) f1 f2 co
  | none =>
    refine PySem.W.kla_makeFunction (mg := X.mg) (c := c) (P := P) (ps := ps) (closure_ok hfree) I.ok.glob (I.mod.glob.keeps I.bk) hcode (TB'.code.keeps I.bk) hP' ht hit TB'.gP (TB'.bm.keeps I.bk) fun c' ctv h' tk old big small rec grown => ?_
    obtain ⟨c2, oc, vs, t, e2, hoc, hd, hv⟩ := rec
    cases e2
    have cN : H c' = none := (fresh c' big).1
    have PC : P ≠ c' := ne_of_none hP cN
    have I1 := inv_table (t' := tk) (more := #[rawInt pos.line, rawInt pos.col, .ref c']) (h' := h'.push (PySem.W.kla_obj "<lambda>" (X.env.qual ++ "<lambda>") params body scope (cloFrom X.env.cells scope.names []) ((X.mg "__name__").getD .none) c' ctv)) I hP
      (fun b o hb e => Heap.get?_push_of_some _ (old b o hb e)) (Heap.get?_push_of_some _ grown) big ⟨oc, vs, t, Heap.get?_push_of_some _ hoc, hd, hv⟩
    obtain ⟨R1, G1, n1⟩ := R.fresh (CodeO c' (X.env.qual ++ "<lambda>")) cN
    have eL : (ps ++ #[rawInt pos.line, rawInt pos.col, .ref c']).toList = ps.toList ++ [rawInt pos.line, rawInt pos.col, .ref c'] := by simp
    obtain ⟨R2, G2⟩ := R1.tblW (ps' := ps ++ #[rawInt pos.line, rawInt pos.col, .ref c']) hS ha (by rw [upd_ne PC]; exact hP) (by rw [eL]; exact PySem.TriplesOk_snoc _ _ _ _ ht) (fun p cv hv => by
      rw [eL] at hv
      rcases among_app _ ht hv with z | rfl
      · obtain ⟨c0, e1, e2, e3⟩ := hcs p cv z
        exact ⟨c0, e1, by rw [upd_ne (ne_of_none e2 cN)]; exact e2, e3⟩
      · exact ⟨c', rfl, upd_same, n1⟩)
    have eH : upd (upd H c' (CodeO c' (X.env.qual ++ "<lambda>"))) P (.tbl (ps ++ #[rawInt pos.line, rawInt pos.col, .ref c'])) = upd (upd H P (.tbl (ps ++ #[rawInt pos.line, rawInt pos.col, .ref c']))) c' (CodeO c' (X.env.qual ++ "<lambda>")) := by
      funext b
      by_cases b1 : b = P
      · rw [b1, upd_same, upd_ne PC, upd_same]
      · by_cases b2 : b = c'
        · rw [b2, upd_ne (Ne.symm PC), upd_same, upd_same]
        · rw [upd_ne b1, upd_ne b2, upd_ne b2, upd_ne b1]
    rw [eH] at R2 G2
    have up : s.heap.objs.size ≤ h'.objs.size := by omega
    obtain ⟨f1, f2⟩ := fresh _ up
    refine h h'.objs.size c' ((X.mg "__name__").getD .none) ctv _ _ I1 (G1.trans G2) R2 (Heap.get?_push_size _ rfl) ?_ f2 upd_same
    rw [upd_ne (Nat.ne_of_gt small), upd_ne (fun z => ne_of_none hP f1 z.symm)]
    exact f1
end
end Bel

/-! The engine, part Lb: what was made, called. -/
namespace Bel
open PySem PySem.Spec PyProof.Rows L2 LamX
/-- what the inner body asks, at the maker's frame -/
def InR (F : Fx) (W : XK) (d : DE) (σ : L2.St) (H : Hp) (Q : VK) : Prop := ∃ (env : Env') (S : Store) (ι : List Addr) (B : Addr → Prop), RS F ι S B H ∧ ER F H ι S B env σ ∧ PoE F (fun cls d _ H => W cls d H) σ ι S B H (d env S) Q
section
variable {X : Cx} {pins : List (Addr × Obj)} {σ : L2.St} {H HZ : Hp} {s s1 : Shared} {ec : Nat → Value} {d : DE} {k : Nat} {q : Str} {params : Arguments} {body : Expr} {scope : Scope} {pm ctv : Value} {f c' : Addr}
theorem lam_run {A : Around} {outer : List Env} {E : XK} {Q : VK} (I : Inv X pins σ H s) (L : LamS X.env.scope scope) (hq : X.env.qual ++ "<lambda>" = q) (e0 : Env0 X.prog X.w X.K X.mg X.base A outer s1 HZ) (un : Un (frs X.stack) [] H HZ s.heap s1.heap)
    (of1 : s1.heap.get? f = some (PySem.W.kla_obj "<lambda>" q params body scope (cloFrom X.env.cells scope.names []) pm c' ctv)) (hc : HZ c' = some (CodeO c' q))
    (hbind : bindArgs (PySem.W.kla_fn "<lambda>" q params body scope (cloFrom X.env.cells scope.names []) pm (.ref c') ctv) ⟨[], []⟩ = pure []) (hr : RoomG (k + 1) A)
    (hbody : ∀ (A : Around) (outer : List Env) (s : Shared) (H : Hp) (E : XK), RoomG k (A.deeper (lamEnv X scope s.heap.objs.size f c')) → PEv ec (lamCx X A outer s H E scope f c') body d)
    (h : InR (fx ec X) E d σ HZ Q) : codeAny (model X.prog X.w) A (.call (.ref f) ⟨[], []⟩) (CR (L2.CX X.prog X.w) outer X.prog X.w HZ s1 Q E) s1 := by
  subst hq
  obtain ⟨⟨oc, vs, t, g1, g2, g3⟩, _, _⟩ := e0.hok c' _ hc
  refine PySem.W.kla_callFunE hr.r.depth of1 rfl L.co L.gen rfl ⟨c', oc, vs, t, rfl, g1, g2, g3⟩ ?_
  rw [hbind]
  have lim : s1.heap.NoLimit := e0.mod.nolimit.keeps fun b o e => (e0.bs b o e).1
  refine wpAny_pure (wpAny_newFunctionEnv (fun y hy => (L.own y hy).2) (fun y hy => absurd hy List.not_mem_nil) (fun h₁ hns hsb => ⟨lim.fresh _ hsb, ?_⟩) L.kind)
  have kp : ∀ b o, s1.heap.get? b = some o → h₁.get? b = some o := fun b o e => hsb.extBut b o (Nat.ne_of_lt (Heap.lt_size e)) (Heap.get?_push_of_some _ e)
  have J : Inv (lamCx X A outer s1 HZ E scope f c') [] σ HZ { s1 with heap := h₁, toks := s1.toks + ([] : List (Str × Value)).length } := lam_start2 I L e0 hr.r.hd un hns kp
  have tk : Takes (lamCx X A outer s1 HZ E scope f c') (fun cls d _ H => E cls d H) := takes_of rfl rfl rfl rfl
  refine PySem.W.kla_codeExpr (wpAny_mono (((hbody A outer s1 HZ E hr.down).run [] (lamCx X A outer s1 HZ E scope f c').xe _ tk).run [] _ σ HZ Q J h) ?_ fun _ _ z => z)
  rintro v s2 ⟨w2, H2, J2, rv, q2⟩
  exact ⟨w2, H2, J2.os, J2.bare, J2.base, J2.hok, rv, q2⟩
/-- a(), in the def that was handed the lambda: entered at s from the maker's frame -/
theorem lam_call {Eg : XK} {Ng : List Str} {qg : Str} {sg : Scope} {g : Addr} {cdg : Value} {a : Str} {pn : List (Addr × Obj)} {xe : Value → Shared → Prop} {Wx : WX} {p1 p2 : Pos} {i : Nat}
    (I : Inv X pins σ H s) (L : LamS X.env.scope scope) (hq : X.env.qual ++ "<lambda>" = q) (hf : s.heap.get? f = some (PySem.W.kla_obj "<lambda>" q params body scope (cloFrom X.env.cells scope.names []) pm c' ctv)) (hn : H f = none) (hfr : f ∉ frs X.stack)
    (hbind : bindArgs (PySem.W.kla_fn "<lambda>" q params body scope (cloFrom X.env.cells scope.names []) pm (.ref c') ctv) ⟨[], []⟩ = pure []) (hr : RoomG (k + 1) (X.A.deeper (envOfC qg sg s.heap.objs.size g cdg)))
    (hbody : ∀ (A : Around) (outer : List Env) (s : Shared) (H : Hp) (E : XK), RoomG k (A.deeper (lamEnv X scope s.heap.objs.size f c')) → PEv ec (lamCx X A outer s H E scope f c') body d)
    (tk : Takes ((cxOf (L2.CX X.prog X.w) X.prog X.w X.K X.mg X.base Ng qg sg g cdg X.A X.stack s H Eg).tr pn xe) Wx) (hN : Ng[i]? = some a) (hv : Vis sg a) (hd : (a == ("__debug__" : Str)) = false := by decide) (hcd : (a == ("__classdict__" : Str)) = false := by decide) :
    PE ((cxOf (L2.CX X.prog X.w) X.prog X.w X.K X.mg X.base Ng qg sg g cdg X.A X.stack s H Eg).tr pn xe) (.Call (.Name a p1) [] [] p2)
      (fun σZ HZ Q => σZ[i]? = some (some (.ref f)) ∧ HZ c' = some (CodeO c' q) ∧ InR (fx ec X) (WE Wx σZ) d σ HZ Q) := by
  refine ⟨fun pinsZ sZ σZ HZ Q IZ h => ?_⟩
  obtain ⟨h1, h2, h3⟩ := h
  refine wpAny_Call_Name_kw (thn ((pe_var (pos := p1) (i := i) hN hv hd hcd).run pinsZ sZ σZ HZ (fun v H1 => v = .ref f ∧ H1 = HZ) IZ ⟨.ref f, h1, rfl, rfl⟩) ?_)
  rintro u s1 ⟨v, H1, I1, r1, rfl, rfl⟩
  obtain rfl : u = Value.ref f := r1
  have un : Un (frs X.stack) [] H H1 s.heap s1.heap := I1.base
  have of1 := un.keep f _ hf hn hfr (fun z => absurd (show f ∈ ([] : List Addr) from z) List.not_mem_nil)
  refine PySem.W.callWith_F0 ⟨_, _, _, _, of1⟩ (wpAny_call (codeAny_mono (lam_run (X := X) (A := X.A.deeper (envOfC qg sg s.heap.objs.size g cdg)) (outer := envOfC qg sg s.heap.objs.size g cdg :: X.stack) (E := WE Wx σZ) (Q := Q) I L hq I1.env0 un of1 h2 hbind hr hbody h3) ?_))
  intro r s2 hq2
  match r, hq2 with
  | .error e, hq2 => exact passAt tk σZ pinsZ H1 s1 e s2 I1 hq2
  | .ok (.ret u), hq2 => exact I1.after hq2
  | .ok .next, hq2 => cases hq2
  | .ok .brk, hq2 => cases hq2
  | .ok .cont, hq2 => cases hq2
end
end Bel

/-! The engine, part Lc: tried(lambda: body). -/
namespace Bel
open PySem PySem.Spec PyProof.Rows L2 LamX
def trd : Rs → Re U
  | .ok (.rt u) S => .ok u S
  | _ => .no
/-- tried(lambda: d), made in the def x at the table n; ret: what tried returns at the end -/
def dTried (n : Nat) (x q : Str) (ret : DS) (d : DE) : DE := fun e S => match S[n]? with
  | some (.tbl x' q') => if x' = x ∧ q' = q then (match d e S with
    | .ok u S1 => trd (ret [none, some u, some (.v .non), none] S1)
    | .ex c S1 => trd (ret [none, some (.v .non), some (.v (.exc c)), none] S1)
    | .no => .no) else .no
  | _ => .no
section
variable {X : Cx} {ret : DS} {d : DE} {k n : Nat} {mk q x qual : Str} {params lparams : Arguments} {body : Expr} {scope sg : Scope} {p lpos pos : Pos} {a fo ca er : Str} {p1 p2 p3 p4 p5 p6 p7 p8 p9 p10 p11 p12 p13 p14 lpos' pos' : Pos} {j1 j2 : Nat} {st4 : Stmt} {fa : List He.Fa} {fn : List He.DefD} {kc : List Con'}
theorem er_tried {F : Fx} {H : Hp} {ι : List Addr} {S : Store} {B : Addr → Prop} {u1 u2 : U} {v0 v1 v2 : V} {o : Option V} (r1 : RU F H ι S B u1 v1) (r2 : RU F H ι S B u2 v2) : ER F H ι S B [none, some u1, some u2, none] [some v0, some v1, some v2, o] :=
  ⟨rfl, fun i u h => by
    match i with
    | 0 => simp at h
    | 1 => simp at h; subst h; exact ⟨v1, rfl, r1⟩
    | 2 => simp at h; subst h; exact ⟨v2, rfl, r2⟩
    | 3 => simp at h
    | i + 4 => simp at h⟩
theorem ev_tried {ec : Nat → Value} (hec : ec = ecG X.K) (Z : Hd X.K X.mg fa fn kc) (G : Errs X.K X.mg) (i j : Nat) (hfn : fn[i]? = some ⟨(x, none), x, qual, params, [.Assign [.Name fo p1] (.Constant .none j1 p2) p3, .Assign [.Name ca p4] (.Constant .none j2 p5) p6,
      .Try [.Assign [.Name fo p7] (.Call (.Name a p8) [] [] p9) p10] [.ExceptHandler (some (.Name "YardError" p11)) (some er) [.Assign [.Name ca p12] (.Name er p13) p14] lpos'] [] [] pos', st4], sg, [], []⟩)
    (hfa : fa[j]? = some (.glo x)) (Sg : FnScope [a, fo, ca, er] [a] sg) (hr : RoomG (k + 2) X.A) (hg : Gl X x)
    (hbi : ∀ (kV doc pm : Value) (an : Option Addr) (cdv ct : Value) (us : List Value), us.length = [a].length → bindArgs (PySem.W.fnOf x qual params [.Assign [.Name fo p1] (.Constant .none j1 p2) p3, .Assign [.Name ca p4] (.Constant .none j2 p5) p6,
      .Try [.Assign [.Name fo p7] (.Call (.Name a p8) [] [] p9) p10] [.ExceptHandler (some (.Name "YardError" p11)) (some er) [.Assign [.Name ca p12] (.Name er p13) p14] lpos'] [] [] pos', st4] sg .none kV doc pm an cdv ct) ⟨us, []⟩ = pure ([a].zip us))
    (TB : TbM X.K X.mg X.base mk) (hcode : X.env.code = .ref (He.cT X.K (mk, none)).1) (hq : X.env.qual ++ "<lambda>" = q) (L : LamS X.env.scope scope) (hdef : defaultsOf lparams X.env = ([], []))
    (hbind : ∀ (q : Str) (cl : List (Str × Addr)) (pm cv ctv : Value), bindArgs (PySem.W.kla_fn "<lambda>" q lparams body scope cl pm cv ctv) ⟨[], []⟩ = pure [])
    (hbody : ∀ (A : Around) (outer : List Env) (s : Shared) (H : Hp) (E : XK) (f c' : Addr), RoomG k (A.deeper (lamEnv X scope s.heap.objs.size f c')) → PEv ec (lamCx X A outer s H E scope f c') body d)
    (hret : ∀ (g : Addr) (cdv : Value) (A : Around) (fs : List Env) (s : Shared) (H : Hp) (E : XK), RoomG (k + 1) (A.deeper (envOfC qual sg s.heap.objs.size g cdv)) → PSv ec (cxOf (L2.CX X.prog X.w) X.prog X.w X.K X.mg X.base [a, fo, ca, er] qual sg g cdv A fs s H E) st4 ret)
    (l1 : Loc sg fo) (l2 : Loc sg ca) (lf1 : sg.names.lookup fo = some .local) (lf2 : sg.names.lookup ca = some .local) (l3 : sg.names.lookup er = some .local) (va : Vis sg a) (gY : sg.names.lookup ("YardError" : Str) = some NameKind.globalImplicit)
    (hdb : (x == ("__debug__" : Str)) = false := by decide) (d1 : (a == ("__debug__" : Str)) = false := by decide) (d2 : (a == ("__classdict__" : Str)) = false := by decide) (d3 : (er == ("__debug__" : Str)) = false := by decide) (d4 : (er == ("__classdict__" : Str)) = false := by decide) :
    PEv ec X (.Call (.Name x p) [.Lambda lparams body scope lpos] [] pos) (dTried n mk q ret d) := by
  subst hec
  obtain ⟨fd, Fn⟩ := Z.says.def_ i hfn
  have hm := Z.gl x (Z.says.fact j hfa)
  have hb := Fn.bindsN hbi
  have hk := Fn.kp
  obtain ⟨oc, od, dV, kV, doc, pmv, an, cdv, ct, osl, rfl, lk, hcd, _, _⟩ := Fn.ex
  refine ⟨fun pn xe Wx tk => ⟨fun pins s σ H Q I h => ?_⟩⟩
  obtain ⟨env, S, ι, B, R, E, h⟩ := h
  unfold dTried at h
  split at h
  rotate_left
  · exact h.elim
  rename_i x' q' hS
  split at h
  rotate_left
  · exact h.elim
  rename_i hxq
  obtain ⟨rfl, rfl⟩ := hxq
  refine wpAny_Call_Name_kw (ld_glob (X := X.tr pn xe) I hg hm ?_ hdb)
  refine PySem.W.callWith_K (h₀ := X.base) I.ok.mod.kin hk ?_ (by rfl) (by rfl)
  show wpAny _ _ (spliced ((false, eval (.Lambda lparams body scope lpos) X.env) :: backTo pos (starEach [] X.env))) _ _ s
  refine Calls.spliced_cons (lam_new (X := X.tr pn xe) (ec := ecG X.K) I R hS TB hcode hq hdef (LamS.has (X := X.tr pn xe) L I.ok) fun f c' pm' ctv H1 s' I1 G1 R1 hf hfn hfr hco => ?_)
  refine Calls.spliced_nil ⟨I1.kIn, ?_⟩
  have E1 := E.go G1
  let E0 : XK := fun _ _ _ => False
  have rc : codeAny (model X.prog X.w) X.A (.call (.ref (He.ga X.K x)) ⟨[.ref f], []⟩) (CR (L2.CX X.prog X.w) X.stack X.prog X.w H1 s' Q E0) s' := by
    refine run_ofS (N := [a, fo, ca, er]) (ps := [a]) (us := [.ref f]) (vs := [.ref f]) lk hcd Sg (hr.r.mono (Nat.le_refl _)) I1.env0 (hb s' [.ref f] I1.kIn rfl) (.cons rfl .nil) rfl fun hr' => ?_
    have hr2 : RoomG (k + 1) (X.A.deeper (envOfC qual sg s'.heap.objs.size (He.ga X.K x) cdv)) := ⟨hr', hr.g⟩
    let Zc := cxOf (L2.CX X.prog X.w) X.prog X.w X.K X.mg X.base [a, fo, ca, er] qual sg (He.ga X.K x) cdv X.A X.stack s' H1 E0
    let Wo : WX := fun cls d _ H => E0 cls d H
    have tk0 : Takes Zc Wo := takes_of rfl rfl rfl rfl
    have po0 : PassesOwn (model Zc.prog Zc.w) Zc.A Zc.env Zc.xe := passes_of rfl
    have s1 : PS Zc (.Assign [.Name fo p1] (.Constant .none j1 p2) p3) _ := ps_set (i := 1) Sg.nd rfl l1 pe_non rfl (.inr lf1)
    have s2 : PS Zc (.Assign [.Name ca p4] (.Constant .none j2 p5) p6) _ := ps_set (i := 2) Sg.nd rfl l2 pe_non rfl (.inr lf2)
    have s3 := ps_try_keep (X := Zc) (i := 3) (j := 2) (n := er) (m := ca) (np := p11) (pm := p12) (pn' := p13) (pa := p14) (pos := pos') (pos' := lpos') (c := .ref (He.ga X.K "YardError")) (x := "YardError") (Wo := Wo)
      (tb := fun W D σZ HZ => σZ[0]? = some (some (.ref f)) ∧ HZ c' = some (CodeO c' _) ∧ InR (fx (ecG X.K) X) (WE W σZ) d σ HZ (fun v H' => D.nx (σZ.set 1 (some v)) H'))
      (body := [.Assign [.Name fo p7] (.Call (.Name a p8) [] [] p9) p10]) rfl rfl Sg.nd rfl l3 rfl lf2 (by decide) ⟨gY, by decide, .inl (G.at_ "YardError" (by decide +kernel)).1⟩ tk0
      (fun W pn2 xe2 tk2 po2 => pss_one (ps_set (X := Zc.tr pn2 xe2) (i := 1) Sg.nd rfl l1 (lam_call (X := X.tr pn xe) (i := 0) (ec := ecG X.K) I1 L hq hf hfn hfr (hbind _ _ _ _ _) hr2 (fun A outer s H E r => hbody A outer s H E f c' r) tk2 rfl va d1 d2) rfl (.inr lf1))) rfl d3 d4
    have s4 := (hret (He.ga X.K x) cdv X.A X.stack s' H1 E0 hr2).run Zc.pn Zc.xe Wo tk0 po0
    refine ⟨_, pss_cons s1 (pss_cons s2 (pss_cons s3 (pss_one s4))), ?_⟩
    let D0 : Ends := { nx := fun _ H' => Q .non H', rt := Q }
    -- from where tried's last row stands
    have last : ∀ {S1 : Store} {ι1 : List Addr} {H2 : Hp} {u1 u2 : U} {v1 v2 : V} {o : Option V}, Go ι S H ι1 S1 H2 → RS (fx (ecG X.K) X) ι1 S1 B H2 → RU (fx (ecG X.K) X) H2 ι1 S1 B u1 v1 → RU (fx (ecG X.K) X) H2 ι1 S1 B u2 v2 →
        PoE (fx (ecG X.K) X) Wx σ ι S B H (trd (ret [none, some u1, some u2, none] S1)) Q → LS (fx (ecG X.K) Zc) Wo ret D0 [some (.ref f), some v1, some v2, none] H2 := by
      intro S1 ι1 H2 u1 u2 v1 v2 o G2 R2 r1 r2 h2
      refine ⟨_, S1, ι1, B, R2, er_tried (u1 := u1) (u2 := u2) r1 r2, ?_⟩
      cases e : ret [none, some u1, some u2, none] S1 with
      | no => rw [e] at h2; exact h2.elim
      | ex c e1 S2 => rw [e] at h2; exact h2.elim
      | ok fl S2 =>
        rw [e] at h2
        cases fl with
        | rt u => exact fun v H3 ι3 G3 R3 r3 => h2 v H3 ι3 (G2.trans G3) R3 r3
        | nx e1 => exact h2.elim
        | bk e1 => exact h2.elim
        | ct e1 => exact h2.elim
    show _ ∧ _ ∧ _
    refine ⟨rfl, hco, env, S, ι, B, R1, E1, ?_⟩
    cases e : d env S with
    | no => rw [e] at h; exact h.elim
    | ok u S1 =>
      rw [e] at h
      exact fun v H2 ι2 G2 R2 r2 => last (u2 := .v .non) (o := none) (G1.trans G2) R2 r2 Rp.non h
    | ex c S1 =>
      rw [e] at h
      intro H2 ι2 G2 R2
      refine ⟨true, (G.at_ (ern c) (ern_mem c)).2.2.2.1, fun _ => ⟨rfl, fun b hb2 => ?_⟩, fun z => nomatch z⟩
      obtain ⟨R3, G3, n3⟩ := R2.fresh (ExV (ecG X.K c) b) hb2
      exact last (u1 := .v .non) (u2 := .v (.exc c)) (o := none) ((G1.trans G2).trans G3) R3 Rp.non (Rp.exc upd_same n3) h
  refine wpAny_call (codeAny_mono rc ?_)
  intro r s2 hq2
  match r, hq2 with
  | .error e, hq2 => 
    obtain ⟨_, _, _, _, _, _, _, _, _, _, _, _, z⟩ := hq2
    exact z.elim
  | .ok (.ret u), hq2 => exact I1.after hq2
  | .ok .next, hq2 => cases hq2
  | .ok .brk, hq2 => cases hq2
  | .ok .cont, hq2 => cases hq2
end
end Bel

/-! The engine, part Ld: defs that make inner code; a law's end with their tables. -/
namespace Bel
open PySem PySem.Spec PyProof.Rows L2 LamX
/-- the defs that make a lambda: all tables known -/
def TBs (K : PySem.W.Frag) (mg : Str → Option Value) (base : Heap) (tf : List Str) : Prop := ∀ x ∈ tf, TbM K mg base x
def tq (x : Str) : Str := x ++ ".<locals>." ++ "<lambda>"
section
variable {P : Program} {w : World} {K : PySem.W.Frag} {mg : Str → Option Value} {base : Heap} {ec : Nat → Value}
theorem defGc {x qual : Str} {params : Arguments} {body : List Stmt} {scope : Scope} {dvs : List V} {kws : List (Str × V)} {f : Addr} {fd : FuncData} {N ps : List Str} {k n nl : Nat} {d : DS} (Fn : FunD K x qual params body scope dvs kws f fd) (hf : f = He.fAd K (x, none)) (Sc : FnScope N ps scope) (hn : ps.length = n) (hnl : N.length = nl)
    (hb : ∀ (cdv : Value) (A : Around) (fs : List Env) (s : Shared) (H : Hp) (E : XK), cdv = .ref (He.cT K (x, none)).1 → RoomG k (A.deeper (envOfC qual scope s.heap.objs.size f cdv)) →
      PSsv ec (cxOf (L2.CX P w) P w K mg base N qual scope f cdv A fs s H E) body d) : FnG P w K mg base (k + 1) f fd ps (spD ⟨K, w, ec⟩ (fnD nl d) n) := by
  subst hn hnl
  refine ⟨spD_len, fun A fs s H as us xs Q E r e0 bi rv h => ?_⟩
  obtain ⟨oc, od, dV, kV, doc, pm, an, cdv, ct, osl, rfl, lk, hcd, _, _⟩ := Fn.ex
  have hc : cdv = .ref (He.cT K (x, none)).1 := by
    obtain ⟨c, rfl⟩ := He.codeIn_ref hcd
    rw [hf] at lk
    have z := He.codeOf_eq (p := (x, none)) lk (c := c) rfl
    show Value.ref c = .ref (He.codeOf K (x, none))
    rw [z]
  refine run_ofS (CX := L2.CX P w) lk hcd Sc r.r e0 bi rv (spD_len _ _ _ _ h) fun _ => ?_
  refine ⟨LS ⟨K, w, ec⟩ (fun cls d _ H => E cls d H) d, (hb cdv A fs s H E hc r.down).run [] _ _ (takes_of rfl rfl rfl rfl) (passes_of rfl), ?_⟩
  obtain ⟨us, St, ι, B, R, rr, hl, h⟩ := h
  refine ⟨_, St, ι, B, R, rr.begin_ N, ?_⟩
  unfold fnD at h
  cases e : d (us.map some ++ List.replicate (N.length - us.length) none) St with
  | no => rw [e] at h; exact h
  | ex c e1 S1 =>
    rw [e] at h
    intro σ' H' ι' G R' E'
    obtain ⟨R2, G2⟩ := cut_go R R' G
    exact h H' ι G2 R2
  | ok fl S1 =>
    rw [e] at h
    cases fl with
    | bk e1 => exact h.elim
    | ct e1 => exact h.elim
    | nx e1 =>
      intro σ' H' ι' G R' E'
      simp only at h
      cases e2 : fin St.length (.v .non) S1 with
      | ok u2 S2 =>
        rw [e2] at h
        obtain ⟨ι2, R2, G2, r2⟩ := fin_ok R R' G (u := .v .non) (v := .non) .non e2
        exact h _ H' ι2 G2 R2 r2
      | ex c S2 => cases e2
      | no => rw [e2] at h; exact h.elim
    | rt u =>
      intro v H' ι' G R' ru
      simp only at h
      cases e2 : fin St.length u S1 with
      | ok u2 S2 =>
        rw [e2] at h
        obtain ⟨ι2, R2, G2, r2⟩ := fin_ok R R' G ru e2
        exact h _ H' ι2 G2 R2 r2
      | ex c S2 =>
        unfold fin at e2
        split at e2
        · cases e2
        · split at e2
          · cases e2
          · split at e2 <;> cases e2
      | no => rw [e2] at h; exact h.elim
variable {fa : List He.Fa} {fn : List He.DefD} {kc : List Con'}
theorem Hd.defGc_ (Z : Hd K mg fa fn kc) (i j : Nat) {x qual : Str} {params : Arguments} {body : List Stmt} {scope : Scope} {N ps : List Str} {k n nl : Nat} {d : DS}
    (h : fn[i]? = some ⟨(x, none), x, qual, params, body, scope, [], []⟩) (hg : fa[j]? = some (.glo x)) (Sc : FnScope N ps scope) (hn : ps.length = n) (hnl : N.length = nl)
    (hbi : ∀ (kV doc pm : Value) (an : Option Addr) (cdv ct : Value) (us : List Value), us.length = ps.length → bindArgs (PySem.W.fnOf x qual params body scope .none kV doc pm an cdv ct) ⟨us, []⟩ = pure (ps.zip us))
    (hb : ∀ (f : Addr) (cdv : Value) (A : Around) (fs : List Env) (s : Shared) (H : Hp) (E : XK), cdv = .ref (He.cT K (x, none)).1 → RoomG k (A.deeper (envOfC qual scope s.heap.objs.size f cdv)) →
      PSsv ec (cxOf (L2.CX P w) P w K mg base N qual scope f cdv A fs s H E) body d) : HasG P w K mg base ec x (k + 1) n (fnD nl d) := by
  obtain ⟨fd, F⟩ := Z.says.def_ i h
  exact ⟨He.ga K x, fd, ps, defGc (P := P) (w := w) (mg := mg) (base := base) F rfl Sc hn hnl fun cdv A fs s H E hc hr => hb _ cdv A fs s H E hc hr, Z.gl x (Z.says.fact j hg), F.kp, F.bindsN hbi⟩
/-- the law's def, where tables are known -/
theorem Hd.lawGc_ (Z : Hd K mg fa fn kc) (i : Nat) {tf : List Str} {x y qual : Str} {params : Arguments} {body : List Stmt} {scope : Scope} {N : List Str} {k nl : Nat} {d : DS}
    (h : fn[i]? = some ⟨(x, none), x, qual, params, body, scope, [], []⟩) (Sc : FnScope N [y] scope) (hnl : N.length = nl)
    (hbi : ∀ (kV doc pm : Value) (an : Option Addr) (cdv ct : Value) (us : List Value), us.length = [y].length → bindArgs (PySem.W.fnOf x qual params body scope .none kV doc pm an cdv ct) ⟨us, []⟩ = pure ([y].zip us))
    (hb : ∀ (base : Heap) (f : Addr) (cdv : Value) (A : Around) (fs : List Env) (s : Shared) (H : Hp) (E : XK), TBs K mg base tf → cdv = .ref (He.cT K (x, none)).1 → RoomG k (A.deeper (envOfC qual scope s.heap.objs.size f cdv)) →
      PSsv ec (cxOf (L2.CX P w) P w K mg base N qual scope f cdv A fs s H E) body d) :
    ∃ fd, (∀ (s : Shared) (u : Value), BindsTo s fd ⟨[u], []⟩ [(y, u)]) ∧ ∀ base : Heap, TBs K mg base tf → FnG P w K mg base (k + 1) (He.ga K x) fd [y] (spD ⟨K, w, ec⟩ (fnD nl d) 1) := by
  obtain ⟨fd, F⟩ := Z.says.def_ i h
  exact ⟨fd, fun s u => F.bindsA hbi s [u] rfl, fun base TB => defGc (P := P) (w := w) (mg := mg) (base := base) F rfl Sc rfl hnl fun cdv A fs s H E hc hr => hb base _ cdv A fs s H E TB hc hr⟩
end
/-! ### the law's end -/
/-- the script and the empty tables are told -/
def tabH (b : Addr) (o : Obj) (ns : List Int) (Ps : List Addr) : Hp := fun c => if c = b then some (.frz o (.lst (ns.map V.int))) else if c ∈ Ps then some (.tbl #[]) else none
section
variable {b c : Addr} {o : Obj} {ns : List Int} {Ps : List Addr}
theorem tabH_at : tabH b o ns Ps b = some (.frz o (.lst (ns.map V.int))) := if_pos rfl
theorem tabH_tab (h : c ∈ Ps) (n : c ≠ b) : tabH b o ns Ps c = some (.tbl #[]) := (if_neg n).trans (if_pos h)
theorem tabH_out (n : c ≠ b) (h : c ∉ Ps) : tabH b o ns Ps c = none := (if_neg n).trans (if_neg h)
end
theorem law_spT {F : Fx} {df : DF} {tf : List Str} {b : Addr} {o : Obj} {ns : List Int} (nd : (tf.map fun x => (He.cT F.K (x, none)).2).Nodup) (nb : ∀ P ∈ tf.map fun x => (He.cT F.K (x, none)).2, P ≠ b)
    (h : ∃ S', df [.o 0] (.scr (ns.map W.int) :: tf.map fun x => .tbl x (tq x)) = .ok (.v (.bl true)) S') : spD F df 1 [.ref b] (tabH b o ns (tf.map fun x => (He.cT F.K (x, none)).2)) (fun v _ => v = .bl true) fun _ _ _ => False := by
  obtain ⟨S', h⟩ := h
  have rp : ∀ H O, RpL F H O (ns.map W.int) (ns.map V.int) := fun H O => by
    clear h
    induction ns with
    | nil => exact .nil
    | cons i r ih => exact .cons (.int i) ih
  refine ⟨[.o 0], .scr (ns.map W.int) :: tf.map fun x => .tbl x (tq x), b :: tf.map fun x => (He.cT F.K (x, none)).2, fun _ => False, ⟨by simp, List.nodup_cons.mpr ⟨fun z => nb _ z rfl, nd⟩, fun m ob a e1 e2 => ?_, fun _ z => z.elim⟩, .cons ⟨b, rfl, rfl⟩ .nil, rfl, ?_⟩
  · cases m with
    | zero =>
      simp at e1 e2
      subst e1 e2
      exact ⟨_, _, tabH_at, .inr ⟨o, tabH_at⟩, rp _ _⟩
    | succ m =>
      simp at e1 e2
      obtain ⟨x, h1, rfl⟩ := e1
      obtain ⟨x2, h2, rfl⟩ := e2
      rw [h1] at h2
      cases h2
      have hm : (He.cT F.K (x, none)).2 ∈ tf.map fun x => (He.cT F.K (x, none)).2 := List.mem_map.mpr ⟨x, List.mem_of_getElem? h1, rfl⟩
      exact ⟨rfl, #[], tabH_tab hm (nb _ hm), trivial, fun pos cv hc => by
        have z : codeAmong pos [] = some cv := hc
        simp [codeAmong] at z⟩
  · rw [h]
    intro v H' ι' G R r
    exact Rp.bl_inv r
theorem lawGT {P : Program} {w : World} {K : PySem.W.Frag} {mg mb : Str → Option Value} {k : Nat} {fa b : Addr} {fd : FuncData} {y : Str} {sp : Sp} {t : Shared} {its : List Value} {ns : List Int} {tf : List Str}
    (KX : K.In t.heap) (gm : t.heap.Ns mainGlobals mg) (gb : t.heap.Ns builtinsNs mb) (bb : ∀ x : Str, x ≠ "__name__" → mb x = bootBuiltins x) (nl : t.heap.NoLimit) (ng : t.gens = #[])
    (bmn : ∃ (bm : Addr) (ob : Obj), mg "__builtins__" = some (.ref bm) ∧ bm ≠ builtinsNs ∧ t.heap.get? bm = some ob ∧ ob.cls = .type "module" ∧ ob.dict = some builtinsNs ∧ ob.data = .plain)
    (hb : t.heap.get? b = some { cls := .type "list", data := .seq its.toArray }) (hi : IntsAre its ns) (hl : ns.length ≤ sizeLine) (hr : RoomG k callerA) (hno : ∀ o, K.lookup b = some o → False)
    (tc : ∀ x ∈ tf, PySem.W.codeHdIn K (He.cT K (x, none)).1 (He.cT K (x, none)).2 = true) (tn : ∀ x ∈ tf, K.lookup (He.cT K (x, none)).2 = none) (te : ∀ x ∈ tf, t.heap.get? (He.cT K (x, none)).2 = some { cls := .none, data := .fields #[] })
    (F : ∀ base : Heap, TBs K mg base tf → FnG P w K mg base k fa fd [y] sp) (bi : ∀ (s : Shared) (u : Value), BindsTo s fd ⟨[u], []⟩ [(y, u)])
    (hsp : ∀ o, (∀ P ∈ tf.map fun x => (He.cT K (x, none)).2, P ≠ b) → sp [.ref b] (tabH b o ns (tf.map fun x => (He.cT K (x, none)).2)) (fun v _ => v = .bl true) fun _ _ _ => False) :
    codeAny (model P w) callerA (.call (.ref fa) ⟨[.ref b], []⟩) (fun r s' => r = .ok (.ret (.bool true)) ∧ OldK t.heap s'.heap ∧ s'.os = t.os ∧ AllBare s'.gens) t := by
  let ob : Obj := { cls := .type "list", data := .seq its.toArray }
  let Ps : List Addr := tf.map fun x => (He.cT K (x, none)).2
  let H : Hp := tabH b ob ns Ps
  have isT : ∀ c ∈ Ps, t.heap.get? c = some { cls := .none, data := .fields #[] } ∧ K.lookup c = none := fun c hc => by
    obtain ⟨x, hx, rfl⟩ := List.mem_map.mp hc
    exact ⟨te x hx, tn x hx⟩
  have nT : ∀ c ∈ Ps, c ≠ b := fun c hc z => by
    have h1 := (isT c hc).1
    rw [z, hb] at h1
    cases h1
  have kind : ∀ {c : Addr} {u : HO}, H c = some u → (c = b ∧ u = .frz ob (.lst (ns.map V.int))) ∨ (c ∈ Ps ∧ u = .tbl #[]) := fun {c u} h => by
    by_cases e : c = b
    · subst e
      exact .inl ⟨rfl, (Option.some.inj (tabH_at.symm.trans h)).symm⟩
    · by_cases m : c ∈ Ps
      · exact .inr ⟨m, (Option.some.inj ((tabH_tab m e).symm.trans h)).symm⟩
      · exact absurd ((tabH_out e m).symm.trans h) (by simp)
  have low : ∀ {c : Addr} {o : Obj}, t.heap.get? c = some o → c ≠ b → c ∉ Ps → (hidT t.heap H).get? c = some o := fun h hc hp => hidT_get h (tabH_out hc hp)
  have apart : ∀ {c : Addr} {o : Obj}, t.heap.get? c = some o → (∀ vs n, o.data ≠ .seq vs n) → o.data ≠ .fields #[] → c ≠ b ∧ c ∉ Ps := fun {c o} h h1 h2 => by
    refine ⟨fun z => ?_, fun z => ?_⟩
    · rw [z, hb] at h
      cases h
      exact h1 _ _ rfl
    · rw [(isT c z).1] at h
      cases h
      exact h2 rfl
  have lowD : ∀ {c : Addr} {o : Obj}, t.heap.get? c = some o → (∀ vs n, o.data ≠ .seq vs n) → o.data ≠ .fields #[] → (hidT t.heap H).get? c = some o := fun h h1 h2 => low h (apart h h1 h2).1 (apart h h1 h2).2
  have lowNs : ∀ {c : Addr} {m : Str → Option Value}, t.heap.Ns c m → (hidT t.heap H).Ns c m := by
    rintro c m ⟨o, es, ep, h1, h2, h3⟩
    exact ⟨o, es, ep, lowD h1 (fun vs n z => by rw [h2] at z; cases z) (fun z => by rw [h2] at z; cases z), h2, h3⟩
  have lowK : K.In (hidT t.heap H) := fun c o h => low (KX c o h) (fun z => hno o (z ▸ h)) (fun z => by rw [(isT c z).2] at h; cases h)
  have tells : HOk P w H t.heap := by
    intro c u h
    rcases kind h with ⟨rfl, rfl⟩ | ⟨hc, rfl⟩
    · exact ⟨hb, by rw [List.length_map]; exact hl, its, _, vals_ints hi, hb⟩
    · exact (isT c hc).1
  have md : Mod K mg (hidT t.heap H) := by
    obtain ⟨mc, c1, c2⟩ := nl
    exact ⟨lowK, lowNs gm, ⟨mb, lowNs gb, bb⟩, ⟨mc, lowNs c1, c2⟩⟩
  have TB : TBs K mg (hidT t.heap H) tf := fun x hx => by
    have hP := te x hx
    refine NdefX.tabB_of_K lowK (tc x hx) ?_ fun z => ?_
    · obtain ⟨bm, o1, b1, b2, b3, b4, b5, b6⟩ := bmn
      have nG : bm ≠ mainGlobals := fun z => by
        obtain ⟨o, es, ep, e, hd, _⟩ := gm
        rw [z, e] at b3
        cases b3
        rw [hd] at b6
        cases b6
      have nP : bm ≠ (He.cT K (x, none)).2 := fun z => by
        rw [z, hP] at b3
        cases b3
        cases b6
      exact ⟨bm, o1, b1, b2, nG, nP, lowD b3 (fun vs n z => by rw [b6] at z; cases z) (fun z => by rw [b6] at z; cases z), b4, b5, b6⟩
    · obtain ⟨o, es, ep, e, hd, _⟩ := gm
      rw [z, hP] at e
      cases e
      cases hd
  have env : Env0 P w K mg (hidT t.heap H) callerA [] t H :=
    { frames := rfl, mod := md, bs := fun c o h => of_hidT h, bsz := Nat.le_of_eq (hidT_size _ _), funs := trivial, frf := fun c h => absurd (show c ∈ ([] : List Addr) from h) List.not_mem_nil, hok := tells, bare := .of_eq ng }
  have call := (F (hidT t.heap H) TB).go callerA [] t H ⟨[.ref b], []⟩ [.ref b] [.ref b] (fun v _ => v = .bl true) (fun _ _ _ => False) hr env (bi t _) (.cons rfl .nil) (hsp ob nT)
  apply codeAny_mono call
  intro r s' h
  match r, h with
  | .error e, h => exact (cx_none h).elim
  | .ok .next, h => cases h
  | .ok .brk, h => cases h
  | .ok .cont, h => cases h
  | .ok (.ret u), h =>
    obtain ⟨v, H2, os, bare, un, hk2, rv, rfl⟩ := h
    obtain rfl : u = Value.bool true := rv
    have rest : ∀ c o, c ∉ Ps → t.heap.get? c = some o → s'.heap.get? c = some o := fun c o hp ho => by
      by_cases hc : c = b
      · subst hc
        have z := un.frzs c ob _ tabH_at
        obtain ⟨e2, _⟩ := hk2 c _ z
        rw [hb] at ho
        rw [← Option.some.inj ho]
        exact e2
      · exact un.keep c o ho (tabH_out hc hp) (fun z => absurd (show c ∈ ([] : List Addr) from z) List.not_mem_nil) List.not_mem_nil
    have grown : ∀ c ∈ Ps, ∃ more : Array Value, s'.heap.get? c = some { cls := .none, data := .fields more } := fun c hc => by
      obtain ⟨more, z⟩ := un.tbls c #[] (tabH_tab hc (nT c hc))
      exact ⟨_, hk2 c _ z⟩
    refine ⟨rfl, ⟨fun c o ho => ?_, fun c o ho => ?_⟩, os, bare⟩
    · by_cases hp : c ∈ Ps
      · obtain ⟨more, hm⟩ := grown c hp
        obtain ⟨x, hx, rfl⟩ := List.mem_map.mp hp
        rw [te x hx] at ho
        cases ho
        exact .inr (.inl ⟨((PySem.W.codeHd_of_K KX (tc x hx)).tab (te x hx)).isCodeTable, rfl, #[], more, rfl, by rw [Array.empty_append]; exact hm⟩)
      · exact .inl (rest c o hp ho)
    · by_cases hp : c ∈ Ps
      · obtain ⟨more, hm⟩ := grown c hp
        exact ⟨_, hm⟩
      · exact ⟨o, rest c o hp ho⟩
def exT (tf : List Str) (kc : List Con') (kd : List Kd) (be : Bool) (K : PySem.W.Frag) : Bool := exE kc kd be K && decide ((tf.map fun x => (He.cT K (x, none)).2).Nodup)
def tfs (tf : List Str) : List He.Defn := tf.map fun x => (x, none)
theorem law_endT {l : PySem.W.OpenLaw} {n k : Nat} {q : Program} {loose : List Str} {XP : (Str → Option Value) → Heap → Prop} {d : DefRec} {x y : Str} {fa : List He.Fa} {fn : List He.DefD} {kc : List Con'} {kd : List Kd} {be : Bool} {m : Nat} {tf : List Str}
    (hn : l.most = some n) (hn2 : n ≤ sizeLine) (hdf : d.params.defaults = []) (hr : Room k callerA) (hx : d.name = x) (j : Nat) (hj : fa[j]? = some (.glo x)) (df : DF)
    (F : ∀ (w : World) (mg : Str → Option Value) (K : PySem.W.Frag), HdE K mg w fa fn kc kd be → ∃ (ec : Nat → Value) (fd : FuncData), (∀ (s : Shared) (u : Value), BindsTo s fd ⟨[u], []⟩ [(y, u)]) ∧
      ∀ base : Heap, TBs K mg base tf → FnG l.prog w K mg base k (He.ga K x) fd [y] (spD ⟨K, w, ec⟩ df 1))
    (L : ∀ ns : List Int, ns.length ≤ n → ∃ S', df [.o 0] (.scr (ns.map W.int) :: tf.map fun x => .tbl x (tq x)) = .ok (.v (.bl true)) S') :
    PySem.W.WalkO q loose XP (He.hookX m fa fn (tabs kd) (tfs tf) (exT tf kc kd be)).says l.row.toRowW d [] (fun f vs => PySem.call f vs) := by
  refine Att.attach_call hn hdf fun w s₀ s₁ mg mb ad o pm cd doc a vs ns G Y ho hd hcd hmg hobj hints hlen hg => ?_
  obtain ⟨K, KX, c⟩ := Y
  obtain ⟨zt, znd⟩ := He.ba c.more
  have nd := of_decide_eq_true znd
  obtain ⟨z0, ze⟩ := He.ba zt
  obtain ⟨z1, z⟩ := He.ba z0
  obtain ⟨z2, z⟩ := He.ba z
  obtain ⟨z3, z4⟩ := He.ba z
  have Z0 : Hd K mg fa fn kc := ⟨c.t.d, fun x e => He.glo_ok KX G.T.g e, fun x e => He.free_ok KX G.T.g e, fun p hp => konB_ok KX G.T.g (List.all_eq_true.mp z2 p hp), z1⟩
  have Z1 : HdW K mg w fa fn kc kd := ⟨Z0, fun p hp => by
    obtain ⟨i, hi, e⟩ := List.mem_iff_getElem.mp hp
    have ht : (tabs kd)[i]? = some ((fun K => He.ga K p.1), p.2.map fun q => (⟨q.1.toArray⟩ : Str)) := by
      unfold tabs
      rw [List.getElem?_map, List.getElem?_eq_getElem hi, e]
      rfl
    exact kdB_ok (Z0.gl _ (List.all_eq_true.mp z4 p hp)) (c.t.tab i ht) (List.all_eq_true.mp z3 p hp)⟩
  have Z : HdE K mg w fa fn kc kd be := ⟨Z1, fun hbe => by
    subst hbe
    exact errB_ok Z0.gl ze⟩
  obtain ⟨ec, fd, hb, hF⟩ := F w mg K Z
  have e := hmg.symm.trans (hx ▸ Z0.gl x (c.t.d.fact j hj))
  have ea : ad = He.ga K x := by
    injection e with e
    injection e with e
    rw [e, hx]
  subst ea
  have hno : ∀ o, K.lookup a = some o → False := fun o h => noLst_ok z1 h (by
    have := KX a o h
    rw [hobj] at this
    rw [← Option.some.inj this])
  have mem : ∀ x ∈ tf, (x, none) ∈ tfs tf := fun x hx => List.mem_map.mpr ⟨x, hx, rfl⟩
  exact lawGT (sp := spD ⟨K, w, ec⟩ df 1) KX G.T.g G.T.b G.T.builtins G.T.nolimit hg G.T.bmain hobj hints (Nat.le_trans hlen hn2) ⟨hr, rfl⟩ hno (fun x hx => c.hd _ (mem x hx)) (fun x hx => c.out _ (mem x hx)) (fun x hx => c.empty _ (mem x hx)) hF hb
    (fun o nb => law_spT (F := ⟨K, w, ec⟩) nd nb (L ns hlen))
end Bel

/-! The engine, part Le: index, count of lists. -/
namespace Bel
open PySem PySem.Spec PyProof.Rows L2
def rCountF (K : PySem.W.Frag) : V → List V → Hp → VK → Prop := fun x xs H Q => ∃ (a : Addr) (ys : List V) (y : V), x = V.ref a ∧ xs = [y] ∧ SqL K H a ys ∧ flatV y = true ∧ ys.all flatV = true ∧ Q (.int (ys.countP (fun z => eqV z y) : Nat)) H
theorem count_eqU {x : V} : ∀ {xs : List V} {us : List Value}, Vals xs us → xs.all flatV = true → us.countP (eqU x) = xs.countP fun y => eqV y x
  | _, _, .nil, _ => rfl
  | y :: xs, u :: us, .cons r t, f => by
    rw [List.all_cons, Bool.and_eq_true] at f
    rw [List.countP_cons, List.countP_cons, count_eqU t f.2, eqU_of r f.1]
theorem mt_countF {X : Cx} : MtR X "list.count" (rCountF X.K) := by
  intro pins s σ H x xs v us Q I rx rxs h
  obtain ⟨a, ys, y, rfl, rfl, hs, fy, fys, q⟩ := h
  cases rx
  obtain ⟨u, rfl, ru⟩ := rxs.one
  obtain ⟨its, rv, ⟨⟨cls, dd, data, sl⟩, n, ho, hc, hdn, hd⟩, hlen⟩ := I.list hs
  simp only at hc hd
  subst hc hd
  refine call_meets PySem.F.slot_list_count ⟨_, ho, rfl⟩ PySem.F.entry_list_count (PySem.F.args_list_count_2 _ _)
    (SeqAt.list_countAt a its.toArray n dd sl u (eqU y)) ⟨ho, fun z hz => mem_eqAt ru fy rv fys z (by simpa using hz), ?_⟩
  refine ⟨.int (ys.countP (fun z => eqV z y) : Nat), H, I.tok _, ⟨s.toks, ?_⟩, q⟩
  show Value.int ((its.toArray.toList.countP (eqU y) : Nat) : Int) s.toks = Value.int ((ys.countP (fun z => eqV z y) : Nat) : Int) s.toks
  rw [show its.toArray.toList = its by simp, count_eqU rv fys]
def fCountM : W → List W → Option Out
  | .lst l, [y] => if isFlat y = true ∧ l.all isFlat = true then some (.val (.int (l.countP fun z => eqD z y : Nat))) else none
  | _, _ => none
def fIndexM : W → List W → Option Out
  | .lst l, [y] => if isFlat y = true ∧ l.all isFlat = true then (l.findIdx? fun z => eqD z y).map fun j => .val (.int (j : Nat)) else none
  | _, _ => none
section
variable {F : Fx} {H : Hp} {O : Addr → Prop}
theorem flat_rt {w : W} {v : V} (h : isFlat w = true) (r : RT F H O w v) : Rp F H O w v := by
  cases w <;> first | exact r | cases h
theorem count_rp {y : W} {vy : V} (fy : isFlat y = true) (ry : Rp F H O y vy) : ∀ {l : List W} {vs : List V}, RpL F H O l vs → l.all isFlat = true → vs.countP (fun z => eqV z vy) = l.countP fun z => eqD z y
  | [], vs, r, _ => by rw [r.nil_iff]; rfl
  | w :: l, vs, r, f => by
    obtain ⟨v, vs', rfl, r1, r2⟩ := r.cons_iff
    rw [List.all_cons, Bool.and_eq_true] at f
    rw [List.countP_cons, List.countP_cons, count_rp fy ry r2 f.2, eqv_flat f.1 fy r1 ry]
theorem om_count : OpM F fCountM (rCountF F.K) := by
  intro H O x xs w ws o Q rx rs e q
  unfold fCountM at e
  split at e
  · rename_i l y
    split at e
    · rename_i hf
      cases some_inj e
      obtain ⟨a, vs, rfl, h1, r1⟩ := rx
      cases rs with
      | cons r2 r3 =>
        cases r3
        have ry := flat_rt hf.1 r2
        refine ⟨a, vs, _, rfl, rfl, .inl h1, flat_v hf.1 ry, flat_all r1 hf.2, ?_⟩
        rw [count_rp hf.1 ry r1 hf.2]
        exact q _ (.int _)
    · cases e
  · cases e
theorem om_index : OpM F fIndexM (rIndex F.K) := by
  intro H O x xs w ws o Q rx rs e q
  unfold fIndexM at e
  split at e
  · rename_i l y
    split at e
    · rename_i hf
      cases e1 : l.findIdx? fun z => eqD z y with
      | none => rw [e1] at e; cases e
      | some j =>
        rw [e1] at e
        cases some_inj e
        obtain ⟨a, vs, rfl, h1, r1⟩ := rx
        cases rs with
        | cons r2 r3 =>
          cases r3
          have ry := flat_rt hf.1 r2
          obtain ⟨hj, h3, h4⟩ := List.findIdx?_eq_some_iff_getElem.mp e1
          have hv : j < vs.length := by rw [← r1.1]; exact hj
          have at_ : ∀ m (hm : m < l.length) (hm' : m < vs.length), eqV vs[m] _ = eqD l[m] y := fun m hm hm' => eqv_flat (List.all_eq_true.mp hf.2 _ (List.getElem_mem hm)) hf.1 (r1.2 m _ _ (List.getElem?_eq_getElem hm) (List.getElem?_eq_getElem hm')) ry
          refine ⟨a, vs, _, j, vs[j], rfl, rfl, .inl h1, flat_v hf.1 ry, flat_all r1 hf.2, List.getElem?_eq_getElem hv, by rw [at_ j hj hv]; exact h3, fun m z hm hz => ?_, q _ (.int _)⟩
          obtain ⟨hm', rfl⟩ := List.getElem?_eq_some_iff.mp hz
          have := h4 m hm
          rw [at_ m (by omega) hm']
          simpa using this
    · cases e
  · cases e
end
end Bel

/-! The engine, part Lf: index of tuples of texts. -/
namespace Bel
open PySem PySem.Spec PyProof.Rows L2
def fIndexT : W → List W → Option Out
  | .tup l, [.str x] => match txts l with
    | some ps => (ps.findIdx? fun z => decide (z = x)).map fun j => .val (.int (j : Nat))
    | none => none
  | _, _ => none
theorem om_tindex {F : Fx} : OpM F fIndexT (fun x xs H Q => ∃ p, ∃ ys : List Str, ∃ z j, x = .ref p ∧ xs = [.str z] ∧ SqT F.K H p (ys.map V.str) ∧ ys[j]? = some z ∧ (∀ m, m < j → ys[m]? ≠ some z) ∧ Q (.int (j : Nat)) H) := by
  intro H O x xs w ws o Q rx rs e q
  unfold fIndexT at e
  split at e
  · rename_i l z
    cases e1 : txts l with
    | none => simp only [e1] at e; cases e
    | some ps =>
      simp only [e1] at e
      cases e2 : ps.findIdx? fun y => decide (y = z) with
      | none => rw [e2] at e; cases e
      | some j =>
        rw [e2] at e
        cases some_inj e
        obtain ⟨a, vs, rfl, h1, r1⟩ := Rp.tup_inv rx
        obtain ⟨rfl, _⟩ := txts_rp r1 e1
        cases rs with
        | cons r2 r3 =>
          cases r3
          obtain ⟨rfl, _⟩ := Rp.str_inv r2
          obtain ⟨hj, h3, h4⟩ := List.findIdx?_eq_some_iff_getElem.mp e2
          refine ⟨a, ps.map mkS, _, j, rfl, rfl, h1.sq, ?_, fun m hm z2 => ?_, q _ (.int _)⟩
          · rw [List.getElem?_map, List.getElem?_eq_getElem hj]
            simp at h3
            rw [h3]; rfl
          · rw [List.getElem?_map] at z2
            have hm2 : m < ps.length := by omega
            rw [List.getElem?_eq_getElem hm2] at z2
            have z3 : ps[m] = z := by
              have := Option.some.inj z2
              injection this with this
              simpa using this
            have := h4 m hm
            simp [z3] at this
  · cases e
/-- a method of a tuple of the module -/
theorem kon_tuple {ec : Nat → Value} {X : Cx} {x : Str} {l : List W} (h : Kon ec X x (.tup l)) : ∃ (v : V) (u : Value), X.mg x = some u ∧ RelV v u ∧ (∀ H O, Rp (fx ec X) H O (.tup l) v) ∧ ∀ H, tyV X.K "tuple" v H := by
  obtain ⟨v, u, hm, r, hr⟩ := h.ex
  refine ⟨v, u, hm, r, hr, fun H => ?_⟩
  obtain ⟨a, vs, rfl, h1, _⟩ := Rp.tup_inv (hr (fun _ => none) fun _ => False)
  rcases h1 with ⟨h1, _⟩ | ⟨o, its, n, h1, h2, h3, _⟩
  · rcases h1 with z | ⟨o, z⟩ <;> cases z
  · exact .inr (.inl ⟨rfl, o, h1, h2, h3⟩)
section
variable {ec : Nat → Value} {X : Cx} {e : Expr} {es : List Expr} {das : DA} {p apos cpos : Pos}
theorem ev_methK {own : Bool} {id : String} {name x : Str} {l : List W} {f : W → List W → Option Out} {r : V → List V → Hp → VK → Prop} (pa : PlainAttrs "tuple") (slot : Slot "tuple" name id) (hty : typeOf (.builtin id) = pure (.type "method_descriptor")) (hm : ∀ pn xe, MtR (X.tr pn xe) id r)
    (hf : OpM (fx ec X) f r) (hg : Gl X x) (hk : Kon ec X x (.tup l)) (ha : PAv ec X (e :: es) das) (hdb : (x == ("__debug__" : Str)) = false := by decide)
    (hbase : attributeBase (.Name x p) name X.env (eval (.Name x p) X.env) = eval (.Name x p) X.env := by rfl)
    (hfew : ((backTo cpos (starEach (e :: es) X.env)).all (fun x => !x.1) && (backToKw cpos (keywordEach [] X.env)).all (fun x => x.1.isSome)
      && decide ((e :: es).length + ([] : List Keyword).length + (if ([] : List Keyword).isEmpty then 0 else 1) < 30)) = true := by rfl)
    (hline : (apos.endLine == cpos.line) = true := by rfl) (hs : starEach (e :: es) X.env = (false, eval e X.env) :: starEach es X.env := by rfl) (hplain : (backTo cpos (starEach es X.env)).any (·.1) = false := by rfl) :
    PEv ec X (.Call (.Attribute (.Name x p) name apos) (e :: es) [] cpos) (dMeth own isTup f (dC (.tup l)) das) := by
  obtain ⟨v, u, hmg, rv, hr, ty⟩ := kon_tuple hk
  refine ⟨fun pn xe Wx tk => (pe_bm (X := X.tr pn xe) pa slot hty (hm pn xe) (pe_glob (X := X.tr pn xe) hg hmg rv hdb) (ha.run pn xe Wx tk) hbase hfew hline hs hplain).imp fun σ H Q h => ?_⟩
  obtain ⟨env, S, ι, B, R, E, h⟩ := h
  have h1 : PoE (fx ec X) Wx σ ι S B H ((das env S).bind fun us S2 => match dr S2 (.v (.tup l)), drs S2 us with
      | some w', some ws => putO own (f w' ws) S2
      | _, _ => .no) Q := h
  refine ⟨ty H, LA.then_ R E h1 fun us S2 xs H2 ι2 G2 R2 E2 rus h2 => ?_⟩
  cases e3 : drs S2 us with
  | none => simp only [e3] at h2; exact h2.elim
  | some ws =>
    simp only [e3] at h2
    obtain ⟨o, he, q⟩ := putO_ok R2 h2
    exact hf H2 _ v xs (.tup l) ws o Q (hr H2 _) (drs_rt R2 rus e3) he q
end
end Bel

/-! The engine, part Ma: enumerate over a text. -/
namespace Bel
open PySem PySem.Spec PyProof.Rows L2
def IteS (x : Str) : It := ⟨fun i _ => i < x.cps.size, fun i H v H' => ∃ T c, v = .ref T ∧ H T = none ∧ H' = upd H T (.tup [.int (i : Nat), .str ⟨#[c]⟩]) ∧ x.cps[i]? = some c, fun i _ => x.cps.size ≤ i⟩
theorem drawsS {P : Program} {w : World} {A : Around} (h : A.handled = none) (it : Addr) (x : Str) (t : Tok) :
    Draws P w A.in1 it [it] x.cps.size (fun i v => ∃ c u, x.cps[i]? = some c ∧ v = Value.str ⟨#[c]⟩ u) fun i h => h.IsStrIter it (strIterType x) x t i := by
  unfold strIterType
  split
  · exact Draws.strAscii (A := A.in1) h it x t
  · exact Draws.strWide (A := A.in1) h it x t
theorem turn_enumS {P : Program} {w : World} {K : PySem.W.Frag} {elts : List Expr} {kk : Nat} {tpos : Pos} (x : Str) (t : Tok) (e it : Addr) :
    Turn P w K (.Tuple elts kk tpos) (IteS x) [e, it] e fun i h => (∃ old, IsEnum h e it (i : Nat) old) ∧ h.IsStrIter it (strIterType x) x t i ∧ e ≠ it ∧ i ≤ x.cps.size where
  mem := List.mem_cons_self
  obj i h st b hb := by
    obtain ⟨⟨old, he⟩, ⟨o, ho, hc, hd⟩, _⟩ := st
    simp only [List.mem_cons, List.not_mem_nil, or_false] at hb
    rcases hb with rfl | rfl
    · exact ⟨_, he, fun v q => nomatch q⟩
    · exact ⟨o, ho, fun v q => by rw [hd] at q; cases q⟩
  keep i h h' st k := by
    obtain ⟨⟨old, he⟩, ⟨o, ho, hc, hd⟩, hne, hi⟩ := st
    exact ⟨⟨old, k e List.mem_cons_self _ he⟩, ⟨o, k it (by simp) o ho, hc, hd⟩, hne, hi⟩
  item X hP hw hK hc i pins s σ H E I hf st hg := by
    subst hP hw hK
    obtain ⟨⟨old, he⟩, hit, hne, hi⟩ := st
    have hel := Heap.lt_size he
    have hil : it < s.heap.objs.size := by obtain ⟨o, q, _⟩ := hit; exact Heap.lt_size q
    refine wpAny_pyNext_enum_itemD (drawsS (I.ok.hd hc) it x t) he hit hg hne (by simpa using hne) fun y h' tk hy ho hit' hT hsz hk => ?_
    obtain ⟨c, u, hx, rfl⟩ := hy
    refine ⟨_, rfl, wpAny_letOwnedTupleGo_enum ho fun h'' he' sb => ?_⟩
    have hT2 := (sb.2 s.heap.objs.size (Nat.ne_of_gt hel)).trans hT
    have I1 := Inv.turnedNew (t' := tk + 1) I (ch := [e, it]) (T := s.heap.objs.size) (ob := .tup [.int (i : Nat), .str ⟨#[c]⟩])
      (h' := h'') (fun b ob hb q => by
        have h1 : b ≠ e := fun z => hb (by simp [z])
        have h2 : b ≠ it := fun z => hb (by simp [z])
        exact (sb.2 b h1).trans (hk b ob h1 h2 q)) hf (Nat.le_refl _)
      ⟨(show 2 ≤ sizeLine from by decide), [.int (i : Nat) tk, .str ⟨#[c]⟩ u], .cons ⟨tk, rfl⟩ (.cons ⟨u, rfl⟩ .nil), ⟨_, hT2, rfl, 0, rfl⟩⟩
    refine ⟨.ref s.heap.objs.size, _, I1, rfl, ⟨_, c, rfl, HOk.fresh I.hok (Nat.le_refl _), rfl, hx⟩, ⟨⟨.str ⟨#[c]⟩ u, ?_⟩, ?_, hne, by have : i < x.cps.size := hg; omega⟩, fun b hb => ?_⟩
    · rw [show ((i + 1 : Nat) : Int) = (i : Nat) + 1 by omega]; exact he'
    · obtain ⟨o, q, r⟩ := hit'
      exact ⟨o, (sb.2 it (Ne.symm hne)).trans q, r⟩
    · have hb' : b < s.heap.objs.size := by
        simp only [List.mem_cons, List.not_mem_nil, or_false] at hb
        rcases hb with rfl | rfl
        · exact hel
        · exact hil
      rw [upd_ne (Nat.ne_of_lt hb')]
      exact (hf b hb).1
  done X hP hw hK hc i pins s σ H E I hf st hg := by
    subst hP hw hK
    obtain ⟨⟨old, he⟩, hit, hne, hi⟩ := st
    have hin : i = x.cps.size := Nat.le_antisymm hi hg
    subst hin
    obtain ⟨f0, f1, f2, f3, f4, f5⟩ := hf it (by simp)
    exact wpAny_pyNext_enum_endD (drawsS (I.ok.hd hc) it x t) he hit fun h' eb => ⟨rfl, Inv.turned I (fun b o hb q => eb b o hb q) f0 f1 f3 f4 f5⟩
  self A i s Q E st h := by
    obtain ⟨⟨old, he⟩, _⟩ := st
    exact wpAny_pyIter_enum he h
def iEnumS (ta : TA) : TI := fun σ H R => ta σ H fun vs H1 => ∃ x, vs = [V.str x] ∧ R (IteS x) H1
theorem pi_enumS {X : Cx} {e : Expr} {ta : TA} {p pos tpos : Pos} {elts : List Expr} {kk : Nat} (hg : Gl X "enumerate") (hm : X.mg "enumerate" = none) (ha : PA X [e] ta) (hs : starEach [e] X.env = [(false, eval e X.env)] := by rfl) :
    PI X (.Tuple elts kk tpos) (.Call (.Name "enumerate" p) [e] [] pos) (iEnumS ta) where
  run pins s σ H R I h := by
    refine Call_ (ld_blt I hg hm boot_enumerate (PyProof.Rows.callWith_type1 (thn (ha.run pos pins s σ H (fun vs H1 => ∃ x, vs = [V.str x] ∧ R (IteS x) H1) I h) fun us s1 x => ?_) (by rw [hs]; rfl) (by rfl)))
    obtain ⟨vs, H1, I1, r1, y, rfl, q⟩ := x
    cases r1 with
    | cons r rr =>
      cases rr
      obtain ⟨t, rfl⟩ := r
      refine call_enumerate_str fun h' he hit hsz hk => wpAny_pyIter_enum he ?_
      refine ⟨_, [s1.heap.objs.size + 1, s1.heap.objs.size], _, IteS y, H1, rfl, Inv.kept I1 hk, turn_enumS y t _ _, ⟨⟨_, he⟩, hit, Nat.succ_ne_self _, Nat.zero_le _⟩, fun b hb => ?_, q⟩
      have hle : s1.heap.objs.size ≤ b := by
        simp only [List.mem_cons, List.not_mem_nil, or_false] at hb
        rcases hb with rfl | rfl <;> omega
      exact Inv.fpOk I1 hle (HOk.fresh I1.hok hle)
theorem walk_enumS {x : Str} : Walk (IteS x) x.cps.size (fun _ => True) fun i H v H' => ∃ T c, v = .ref T ∧ H T = none ∧ H' = upd H T (.tup [.int (i : Nat), .str ⟨#[c]⟩]) ∧ x.cps[i]? = some c :=
  ⟨fun _ _ h _ => h, fun _ _ => Nat.le_refl _, fun _ _ _ _ _ _ h => h⟩
def enumW (i : Nat) : List Nat → List W
  | [] => []
  | c :: r => .tup [.int (i : Nat), .str [c]] :: enumW (i + 1) r
theorem enumW_len : ∀ (x : List Nat) (i : Nat), (enumW i x).length = x.length
  | [], _ => rfl
  | c :: r, i => by simp [enumW, enumW_len r]
theorem enumW_get : ∀ (x : List Nat) (i j : Nat), (enumW i x)[j]? = x[j]?.map fun c => W.tup [.int ((i + j : Nat) : Int), .str [c]]
  | [], _, _ => rfl
  | c :: r, i, 0 => rfl
  | c :: r, i, j + 1 => by
    rw [show i + (j + 1) = (i + 1) + j by omega]
    simpa [enumW] using enumW_get r (i + 1) j
/-- enumerate(text) -/
def dEnS (d : DE) : DI := fun e S => (d e S).bind fun u S1 => match u with
  | .v (.str x) => .ok (enumW 0 x) S1
  | _ => .no
section
variable {ec : Nat → Value} {X : Cx} {e : Expr} {da : DE} {p pos tpos : Pos} {elts : List Expr} {kk : Nat}
theorem iv_enS (hg : Gl X "enumerate") (hm : X.mg "enumerate" = none) (h : PEv ec X e da) (h1 : starEach [e] X.env = (false, eval e X.env) :: starEach [] X.env := by rfl) (hs : starEach [e] X.env = [(false, eval e X.env)] := by rfl) : PIv ec X (.Tuple elts kk tpos) (.Call (.Name "enumerate" p) [e] [] pos) (dEnS da) :=
  ⟨fun pn xe Wx tk => (pi_enumS (X := X.tr pn xe) hg hm (pa_cons (h.run pn xe Wx tk) pa_nil h1) hs).imp fun σ H Q ⟨env, S, ι, B, R, E, h⟩ => LE.thenI R E h fun u S1 v H1 ι1 G1 R1 E1 ru h1 => by
    cases u with
    | o n => exact h1.elim
    | v w =>
      cases w with
      | str l =>
        obtain ⟨rfl, h2, h3⟩ := Rp.str_inv ru
        refine ⟨_, rfl, h1 _ H1 ι1 .refl R1 ⟨_, _, (by have := walk_enumS (x := (⟨l.toArray⟩ : Str)); rw [enumW_len]; exact this), fun ι2 S2 B2 H2 x o R2 => ⟨trivial, fun i y H3 w hw hy => ?_⟩⟩⟩
        obtain ⟨T, c, rfl, hT, rfl, hc⟩ := hy
        have hc' : l[i]? = some c := by simpa using hc
        rw [enumW_get, hc'] at hw
        cases some_inj hw
        have hm : c ∈ l := List.mem_of_getElem? hc'
        have hcp := List.all_eq_true.mp h3 c hm
        obtain ⟨f1, f2, f3⟩ := R2.fresh (.tup [.int (i : Nat), .str ⟨#[c]⟩]) hT
        refine ⟨?_, f1, f2, fun y z hz => ?_⟩
        · rw [Nat.zero_add]
          exact Rp.mkTup (.inl ⟨.inl upd_same, f3⟩) (.cons (.int _) (.cons (.str [c] one_line (by simp [hcp])) .nil))
        · rw [upd_ne (ne_of_none hz hT)]; exact hz
      | _ => exact h1.elim⟩
end
end Bel

/-! The engine, part Mb: a text times a number; reverse; pop with a default. -/
namespace Bel
open PySem PySem.Spec PyProof.Rows L2
theorem rep_size (x : Array Nat) : ∀ (n : Nat) (acc : Array Nat), ((List.replicate n x).foldl (fun a b => a ++ b) acc).toList = acc.toList ++ (List.replicate n x.toList).flatten
  | 0, acc => by simp
  | n + 1, acc => by
    rw [List.replicate_succ, List.foldl_cons, rep_size x n]
    simp [List.replicate_succ]
theorem rep_len (x : List Nat) : ∀ n, (List.replicate n x).flatten.length = x.length * n
  | 0 => rfl
  | n + 1 => by rw [List.replicate_succ, List.flatten_cons, List.length_append, rep_len x n, Nat.mul_succ]; omega
theorem op_repS {X : Cx} : OpR X (binaryOp .Mult) (fun x y H Q => ∃ (i : Str) (k : Int), x = .str i ∧ y = .int k ∧ 2 ≤ k ∧ k ≤ 100000 ∧ i.length ≠ 0 ∧ i.length * k.toNat ≤ sizeLine ∧ Q (.str ⟨((List.replicate k.toNat i.cps.toList).flatten).toArray⟩) H) := by
  intro pins s σ H x y v u Q I rx ry h
  obtain ⟨i, k, rfl, rfl, h2, hk, h0, hl, q⟩ := h
  obtain ⟨t, rfl⟩ := rx
  obtain ⟨t', rfl⟩ := ry
  have g1 : k ≥ -2 ^ 63 := Int.le_trans (by decide +kernel) h2
  have g2 : k < 2 ^ 63 := Int.lt_of_le_of_lt hk (by decide +kernel)
  have g3 : ¬ k < 1 := by omega
  have g4 : (k == 1 || i.length == 0) = false := by
    have : (k == 1) = false := beq_false_of_ne (by omega)
    rw [this]; simpa using h0
  have hs : sizeLine = 16777216 := sizeLine_is
  refine P.mul_str (by rw [Bool.or_eq_false_iff]; exact ⟨decide_eq_false (Int.not_lt.mpr g1), decide_eq_false (Int.not_le.mpr g2)⟩) (fun _ _ => ?_) (fun _ _ => ?_) ?_
  · have h5 : (i.length : Int) ≤ 16777216 := by
      have : i.length * 1 ≤ i.length * k.toNat := Nat.mul_le_mul_left _ (by omega)
      omega
    have h6 : (16777216 : Int) ≤ (2 ^ 63 - 1) / k := by
      apply Int.le_ediv_of_mul_le (by omega)
      have : (16777216 : Int) * k ≤ 16777216 * 100000 := Int.mul_le_mul_of_nonneg_left hk (by decide)
      exact Int.le_trans this (by decide +kernel)
    omega
  · unfold Builtin.Str.tooLong
    exact decide_eq_false (by omega)
  · rw [if_neg g3, if_neg (by rw [g4]; simp)]
    have e : (⟨(List.replicate k.toNat i.cps).foldl (fun x1 x2 => x1 ++ x2) #[]⟩ : Str) = ⟨((List.replicate k.toNat i.cps.toList).flatten).toArray⟩ := by
      have := rep_size i.cps k.toNat #[]
      simp only [List.nil_append] at this
      rw [← this]
    rw [e]
    refine ⟨?_, .str ⟨((List.replicate k.toNat i.cps.toList).flatten).toArray⟩, H, Inv.tok I _, ⟨_, rfl⟩, q⟩
    rw [str_len, rep_len]
    exact hl
def fMulS : W → W → Option Out
  | .str x, .int k => if 2 ≤ k ∧ k ≤ 100000 ∧ x.length ≠ 0 ∧ x.length * k.toNat ≤ 16777216 then some (.val (.str (List.replicate k.toNat x).flatten)) else none
  | _, _ => none
theorem ow_repS {F : Fx} : OpW F fMulS (fun x y H Q => ∃ (i : Str) (k : Int), x = .str i ∧ y = .int k ∧ 2 ≤ k ∧ k ≤ 100000 ∧ i.length ≠ 0 ∧ i.length * k.toNat ≤ sizeLine ∧ Q (.str ⟨((List.replicate k.toNat i.cps.toList).flatten).toArray⟩) H) := by
  intro H O x y w z o Q rx ry e q
  unfold fMulS at e
  split at e
  · rename_i a k
    split at e
    · rename_i hc
      obtain ⟨c1, c2, c3, c4⟩ := hc
      cases some_inj e
      obtain ⟨rfl, h1, h2⟩ := Rp.str_inv rx
      obtain rfl := Rp.int_inv ry
      refine ⟨_, k, rfl, rfl, c1, c2, by rw [str_len]; exact c3, by rw [str_len, sizeLine_is]; exact c4, ?_⟩
      refine q _ (.str _ (by rw [rep_len, sizeLine_is]; exact c4) ?_)
      rw [List.all_eq_true]
      intro c hc
      obtain ⟨l, hl, hc⟩ := List.mem_flatten.mp hc
      rw [(List.mem_replicate.mp hl).2] at hc
      exact List.all_eq_true.mp h2 c hc
    · cases e
  · cases e
def fReverse : List W → List W → Option (List W × W)
  | l, [] => some (l.reverse, .non)
  | _, _ => none
theorem om_reverse {F : Fx} : OpMu F fReverse rReverse := by
  intro H O a vs xs l ws l' w Q h1 r1 r2 e q
  unfold fReverse at e
  split at e
  · obtain ⟨rfl, rfl⟩ := Prod.mk.inj (some_inj e)
    have e2 := r2.nil_iff
    subst e2
    exact ⟨a, vs, rfl, rfl, h1, q _ .non r1.reverse .non⟩
  · cases e
/-! d.pop(k, x): d an own dict -/
def dropW (k : W) (l : List (W × W)) : List (W × W) := l.filter fun p => !eqK p.1 k
def dPop2 (o k x : DE) : DE := fun e S => (o e S).bind fun u S1 => match u with
  | .o n => match S1[n]? with
    | some (.dct _) => (k e S1).bind fun y S2 => (x e S2).bind fun z S3 => match S3[n]?, y, z with
      | some (.dct l), .v y, .v z => if isKey y = true then (match lookD y l with
        | some w => .ok (.v w) (S3.set n (.dct (dropW y l)))
        | none => .ok (.v z) S3) else .no
      | _, _, _ => .no
    | _ => .no
  | .v _ => .no
theorem drop_rp {F : Fx} {H : Hp} {O : Addr → Prop} {k : W} {κ : Key} (hk : keyK k = some κ) : ∀ {ws : List (W × W)} {kvs : List (Key × V)}, RpD F H O ws kvs → RpD F H O (dropW k ws) (dropK kvs κ) := by
  intro ws
  induction ws with
  | nil => intro kvs r; rw [r.nil_iff]; exact .nil
  | cons p ws ih =>
    intro kvs r
    obtain ⟨κ', v', kvs', rfl, h1, h2, r'⟩ := r.cons_iff
    unfold dropW dropK
    rw [List.filter_cons, List.filter_cons, eqK_iff (key_of_rp h1) hk]
    by_cases hc : κ' = κ
    · simp only [hc, decide_true, Bool.not_true, ne_eq, not_true_eq_false, decide_false]
      exact ih r'
    · simp only [hc, decide_false, Bool.not_false, ne_eq, not_false_eq_true, decide_true, if_true]
      exact .cons h1 h2 (ih r')
section
variable {ec : Nat → Value} {X : Cx} {o k x : Expr} {da db dc : DE} {apos cpos : Pos}
theorem ev_dpop2 (ho : PEv ec X o da) (hk : PEv ec X k db) (hx : PEv ec X x dc) (m : ∀ pn xe, M2 (X.tr pn xe) o "pop" apos k x cpos) : PEv ec X (.Call (.Attribute o "pop" apos) [k, x] [] cpos) (dPop2 da db dc) :=
  ⟨fun pn xe Wx tk => (pe_dpop2 (X := X.tr pn xe) (ho.run pn xe Wx tk) (hk.run pn xe Wx tk) (hx.run pn xe Wx tk) (m pn xe)).imp fun σ H Q ⟨env, S, ι, B, R, E, h⟩ => by
    refine LE.then_ R E h fun u S1 v H1 ι1 G1 R1 E1 ru h1 => ?_
    split at h1
    · rename_i n
      obtain ⟨a, ha1, rfl⟩ := ru
      split at h1
      · rename_i l0 e1
        obtain ⟨kvs0, hH0, _⟩ := R1.dct e1 ha1
        refine ⟨a, rfl, .inl ⟨kvs0, .inl hH0⟩, LE.then_ R1 E1 h1 fun u2 S2 v2 H2 ι2 G2 R2 E2 ru2 h2 => LE.then_ R2 E2 h2 fun u3 S3 v3 H3 ι3 G3 R3 E3 ru3 h3 => ?_⟩
        have ha3 : ι3[n]? = some a := by
          obtain ⟨t, rfl⟩ := G2.pre
          obtain ⟨t', rfl⟩ := G3.pre
          rw [List.getElem?_append_left (by rw [List.length_append]; have := (List.getElem?_eq_some_iff.mp ha1).1; omega), List.getElem?_append_left (List.getElem?_eq_some_iff.mp ha1).1]
          exact ha1
        split at h3
        · rename_i l y z e3
          split at h3
          · rename_i hkey
            obtain ⟨kvs, hH, rl⟩ := R3.dct e3 ha3
            have ry : Rp (fx ec X) H3 (Oq ι3 S3 B) y v2 := Rp.go G3 ru2
            obtain ⟨κ, hκ, rfl⟩ := isKey_k hkey ry
            refine ⟨kvs, κ, hH, rfl, ?_, ?_⟩
            · intro v hv
              rcases look_rp rl hκ with ⟨_, e⟩ | ⟨w, v', e4, e5, rv⟩
              · rw [e] at hv; cases hv
              · rw [hv] at e5
                cases some_inj e5
                simp only [e4] at h3
                obtain ⟨R', G'⟩ := R3.write (ho := .dK (dropK kvs κ)) (o' := .dct (dropW y l)) e3 (fun z => nomatch z) ha3 ⟨_, rfl, drop_rp hκ rl⟩
                exact h3 _ _ ι3 G' R' (Rp.go G' rv)
            · intro hv
              rcases look_rp rl hκ with ⟨e4, _⟩ | ⟨w, v', e4, e5, rv⟩
              · simp only [e4] at h3
                exact h3 _ _ ι3 .refl R3 ru3
              · rw [hv] at e5; cases e5
          · exact h3.elim
        · exact h3.elim
      · exact h1.elim
    · exact h1.elim⟩
end
end Bel

/-! The engine, part Tb: more rules for reckoning. -/
namespace Bel
open PySem PySem.Spec PyProof.Rows L2
@[simp] theorem dEnS_ap (d : DE) (e : Env') (S : Store) : dEnS d e S = (d e S).bind fun u S1 => match u with
  | .v (.str x) => .ok (enumW 0 x) S1
  | _ => .no := rfl
@[simp] theorem dPop2_ap (o k x : DE) (e : Env') (S : Store) : dPop2 o k x e S = (o e S).bind fun u S1 => match u with
  | .o n => match S1[n]? with
    | some (.dct _) => (k e S1).bind fun y S2 => (x e S2).bind fun z S3 => match S3[n]?, y, z with
      | some (.dct l), .v y, .v z => if isKey y = true then (match lookD y l with
        | some w => .ok (.v w) (S3.set n (.dct (dropW y l)))
        | none => .ok (.v z) S3) else .no
      | _, _, _ => .no
    | _ => .no
  | .v _ => .no := rfl
theorem fMulS_is {x : List Nat} {k : Int} (h1 : 2 ≤ k) (h2 : k ≤ 100000) (h3 : x.length ≠ 0) (h4 : x.length * k.toNat ≤ 16777216) : fMulS (.str x) (.int k) = some (.val (.str (List.replicate k.toNat x).flatten)) := if_pos ⟨h1, h2, h3, h4⟩
@[simp] theorem fReverse_ap (l : List W) : fReverse l [] = some (l.reverse, .non) := rfl
end Bel

/-! shared mirrors -/
namespace Bel
open PySem PySem.Spec PyProof.Rows L2
def d_WORDS : List (List Nat × W) := [([32, 43, 32], .str [112, 108, 117, 115]), ([32, 60, 32], .str [108, 101, 115, 115]), ([32, 61, 32], .str [115, 97, 109, 101])]
def c_WORDS : W := .kdc d_WORDS
def g__law_class : DF := fnD 3
    (dSeq (dAsg 1 (dDisp true .nl (dCons (dIsC (errIs 0) (dVar 0)) (dCons (dIsC (errIs 1) (dVar 0)) (dCons (dIsC (errIs 2) (dVar 0)) (dCons (dIsC (errIs 3) (dVar 0)) dNil))))))
    (dSeq (dAsg 1 (dBin true fAdd (dVar 1) (dDisp false .nl (dCons (dIsC (errIs 4) (dVar 0)) (dCons (dIsC (errIs 5) (dVar 0)) (dCons (dIsC (errIs 6) (dVar 0)) (dCons (dIsC (errIs 7) (dVar 0)) dNil)))))))
    (dSeq (dDrop (dMut fAppend (dVar 1) (dCons (dIsC (errIs 8) (dVar 0)) dNil)))
    (dSeq (dIfS (dOr (dT (dBin false fNe (dMeth false isLst fCountM (dVar 1) (dCons (dC (.bl true)) dNil)) (dC (.int 1)))) (dNot (dT (dIsC (fun _ => true) (dVar 0))))) (dRet (dC (.str [115, 101, 118, 101, 114, 97, 108]))) dNext)
    (dSeq (dAsg 2 (dDisp false .nl (dCons (dC (.str [78, 111, 84, 101, 114, 109])) (dCons (dC (.str [78, 111, 66, 111, 111, 107])) (dCons (dC (.str [78, 111, 84, 101, 120, 116])) (dCons (dC (.str [78, 111, 89, 97, 114, 100])) (dCons (dC (.str [78, 111, 84, 97, 115, 107])) (dCons (dC (.str [78, 111, 83, 116, 101, 112])) (dCons (dC (.str [78, 111, 82, 101, 99, 111, 114, 100])) (dCons (dC (.str [78, 111, 74, 111, 98])) (dCons (dC (.str [84, 111, 111, 77, 97, 110, 121])) dNil)))))))))))
    (dRet (dBin false fIx (dVar 2) (dMeth false isLst fIndexM (dVar 1) (dCons (dC (.bl true)) dNil)))))))))
def g__law_cuts_b1 : DS := (dSeq (dAsg 2 (dBin false fSub (dBin false fAdd (dVar 2) (dCall false fIntW (dCons (dBin false fEq (dVar 4) (dC (.str [40]))) dNil))) (dCall false fIntW (dCons (dBin false fEq (dVar 4) (dC (.str [41]))) dNil))))
    (dIfS (dAnd (dT (dBin false fEq (dVar 2) (dC (.int 0)))) (dT (dBin false fInO (dSl false (dVar 0) (dPart (dVar 3)) (dPart (dBin false fAdd (dVar 3) (dC (.int 3))))) (dDisp false .nt (dCons (dC (.str [32, 43, 32])) (dCons (dC (.str [32, 60, 32])) (dCons (dC (.str [32, 61, 32])) dNil))))))) (dDrop (dMut fAppend (dVar 1) (dCons (dVar 3) dNil))) dNext))
def g__law_cuts : DF := fnD 5
    (dSeq (dAsg 1 (dDisp true .nl dNil))
    (dSeq (dAsg 2 (dC (.int 0)))
    (dSeq (dFor (dEnS (dVar 0)) (tgT 2 (tgs1 (tgN 3) (tgs1 (tgN 4) tgs0))) g__law_cuts_b1)
    (dRet (dVar 1)))))
def g__law_leaf_t1 : DT := (dT (dBin false fNotInO (dVar 1) (dC (.str [48, 49, 50, 51, 52, 53, 54, 55, 56, 57]))))
def g__law_leaf : DF := fnD 2
    (dSeq (dIfS (dT (dFn g__law_is_name 1 (dCons (dVar 0) dNil))) (dRet (dDisp false .nt (dCons (dC (.str [98, 111, 120])) (dCons (dVar 0) dNil)))) dNext)
    (dSeq (dIfS (dOr (dT (dBin false fEq (dVar 0) (dC (.str [])))) (dOr (dT (dBin false (fCmp fun i j => decide (j < i)) (dCall false fLen (dCons (dVar 0) dNil)) (dC (.int 3)))) (dT (dBin false fNeNil (dLc false (dItS (dVar 0)) (tgN 1) g__law_leaf_t1 (dVar 1) [1]) (dDisp false .nl dNil))))) (dRet (dC .non)) dNext)
    (dRet (dIf (dAnd (dT (dBin false (fCmp fun i j => decide (j < i)) (dCall false fLen (dCons (dVar 0) dNil)) (dC (.int 1)))) (dT (dBin false fEq (dBin false fIx (dVar 0) (dC (.int 0))) (dC (.str [48]))))) (dC .non) (dDisp false .nt (dCons (dC (.str [110, 117, 109, 98, 101, 114])) (dCons (dCall false fIntW (dCons (dVar 0) dNil)) dNil)))))))
def g__law_read : Nat → DF
  | 0 => fun _ _ => .no
  | r + 1 => fnD 7
    (dSeq (dIfS (dT (dBin false (fCmp fun i j => decide (j < i)) (dVar 1) (dC (.int 6)))) (dRet (dC .non)) dNext)
    (dSeq (dIfS (dT (dBin false fNe (dSl false (dVar 0) dNoPart (dPart (dC (.int 1)))) (dC (.str [40])))) (dRet (dFn g__law_leaf 1 (dCons (dVar 0) dNil))) dNext)
    (dSeq (dAsg 2 (dSl false (dVar 0) (dPart (dC (.int 1))) (dPart (dNeg (dC (.int 1))))))
    (dSeq (dAsg 3 (dFn g__law_cuts 1 (dCons (dVar 2) dNil)))
    (dSeq (dIfS (dOr (dT (dBin false fNe (dSl false (dVar 0) (dPart (dNeg (dC (.int 1)))) dNoPart) (dC (.str [41])))) (dT (dBin false fNe (dCall false fLen (dCons (dVar 3) dNil)) (dC (.int 1))))) (dRet (dC .non)) dNext)
    (dSeq (dAsg 4 (dBin false fIx (dVar 3) (dC (.int 0))))
    (dSeq (dPar 5 6 (dCons (dFn (g__law_read r) 2 (dCons (dSl false (dVar 2) dNoPart (dPart (dVar 4))) (dCons (dBin false fAdd (dVar 1) (dC (.int 1))) dNil))) (dCons (dFn (g__law_read r) 2 (dCons (dSl false (dVar 2) (dPart (dBin false fAdd (dVar 4) (dC (.int 3)))) dNoPart) (dCons (dBin false fAdd (dVar 1) (dC (.int 1))) dNil))) dNil)))
    (dSeq (dIfS (dOr (dT (dBin false fIs (dVar 5) (dC .non))) (dT (dBin false fIs (dVar 6) (dC .non)))) (dRet (dC .non)) dNext)
    (dRet (dDisp false .nt (dCons (dBin false fIx (dDct false (((dC (.str [43])), (dC (.str [112, 108, 117, 115]))) :: ((dC (.str [60])), (dC (.str [108, 101, 115, 115]))) :: ((dC (.str [61])), (dC (.str [115, 97, 109, 101]))) :: [])) (dBin false fIx (dVar 2) (dBin false fAdd (dVar 4) (dC (.int 1))))) (dCons (dVar 5) (dCons (dVar 6) dNil)))))))))))))
def g_leaf_at_b1 : DS := (dAug 2 fAddI (dC (.int 1)))
def g_leaf_at : DF := fnD 5
    (dSeq (dAsg 2 (dVar 1))
    (dSeq (dWhileN 20000 (dAnd (dT (dBin false (fCmp fun i j => decide (i < j)) (dVar 2) (dCall false fLen (dCons (dVar 0) dNil)))) (dT (dBin false fInO (dBin false fIx (dVar 0) (dVar 2)) (dBin false fAdd (dC c_LETTERS) (dC c_FIGURES))))) g_leaf_at_b1)
    (dSeq (dAsg 3 (dSl false (dVar 0) (dPart (dVar 1)) (dPart (dVar 2))))
    (dSeq (dIfS (dT (dFn g_is_name 1 (dCons (dVar 3) dNil))) (dRet (dDisp false .nt (dCons (dDisp false .nt (dCons (dC (.str [98, 111, 120])) (dCons (dVar 3) dNil))) (dCons (dVar 2) dNil)))) dNext)
    (dSeq (dAsg 4 (dFn g_number_told 2 (dCons (dVar 3) (dCons (dC c_MOST_NUMBER) dNil))))
    (dSeq (dIfS (dT (dBin false fIs (dVar 4) (dC .non))) (dRaise 2) dNext)
    (dRet (dDisp false .nt (dCons (dDisp false .nt (dCons (dC (.str [110, 117, 109, 98, 101, 114])) (dCons (dVar 4) dNil))) (dCons (dVar 2) dNil))))))))))
def g_term_at : Nat → DF
  | 0 => fun _ _ => .no
  | r + 1 => fnD 8
    (dSeq (dIfS (dT (dBin false (fCmp fun i j => decide (j < i)) (dVar 2) (dC c_MOST_WITHIN))) (dRaise 2) dNext)
    (dSeq (dIfS (dT (dBin false fNe (dSl false (dVar 0) (dPart (dVar 1)) (dPart (dBin false fAdd (dVar 1) (dC (.int 1))))) (dC (.str [40])))) (dRet (dFn g_leaf_at 2 (dCons (dVar 0) (dCons (dVar 1) dNil)))) dNext)
    (dSeq (dAsgT (tgT 2 (tgs1 (tgN 4) (tgs1 (tgN 5) tgs0))) (dFn (g_term_at r) 3 (dCons (dVar 0) (dCons (dBin false fAdd (dVar 1) (dC (.int 1))) (dCons (dBin false fAdd (dVar 2) (dC (.int 1))) dNil)))))
    (dSeq (dAsg 3 (dSl false (dVar 0) (dPart (dVar 5)) (dPart (dBin false fAdd (dVar 5) (dC (.int 3))))))
    (dSeq (dIfS (dT (dBin false fNotInO (dVar 3) (dC c_WORDS))) (dRaise 2) dNext)
    (dSeq (dAsgT (tgT 2 (tgs1 (tgN 6) (tgs1 (tgN 7) tgs0))) (dFn (g_term_at r) 3 (dCons (dVar 0) (dCons (dBin false fAdd (dVar 5) (dC (.int 3))) (dCons (dBin false fAdd (dVar 2) (dC (.int 1))) dNil)))))
    (dSeq (dIfS (dT (dBin false fNe (dSl false (dVar 0) (dPart (dVar 7)) (dPart (dBin false fAdd (dVar 7) (dC (.int 1))))) (dC (.str [41])))) (dRaise 2) dNext)
    (dRet (dDisp false .nt (dCons (dDisp false .nt (dCons (dBin false fIx (dC c_WORDS) (dVar 3)) (dCons (dVar 4) (dCons (dVar 6) dNil)))) (dCons (dBin false fAdd (dVar 7) (dC (.int 1))) dNil)))))))))))
def g_read_term : DF := fnD 3
    (dSeq (dIfS (dNot (dT (dIsT isStr (dVar 0)))) (dRaise 2) dNext)
    (dSeq (dAsgT (tgT 2 (tgs1 (tgN 1) (tgs1 (tgN 2) tgs0))) (dFn (g_term_at 8) 3 (dCons (dVar 0) (dCons (dC (.int 0)) (dCons (dC (.int 1)) dNil)))))
    (dSeq (dIfS (dT (dBin false (fCmp fun i j => decide (i < j)) (dVar 2) (dCall false fLen (dCons (dVar 0) dNil)))) (dRaise 2) dNext)
    (dRet (dVar 1)))))
end Bel

/-! The engine, part Mc: repr of numbers, of texts. -/
namespace Bel
open PySem PySem.Spec PyProof.Rows L2
theorem call_repr_text {X : Cx} : CallR X (.builtin "repr") (fun xs H Q => ∃ a : Str, xs = [V.str a] ∧ (reprText a).length ≤ sizeLine ∧ Q (.str (reprText a)) H) := by
  intro pins s σ H xs us Q I r h
  obtain ⟨a, rfl, hz, q⟩ := h
  obtain ⟨u, rfl, rx⟩ := vals1 r
  obtain ⟨t, rfl⟩ := rx
  exact P.repr_of_str ⟨.str _, H, I.tok _, ⟨_, rfl⟩, q⟩ hz
def reprL (x : List Nat) : List Nat := (reprText (mkS x)).cps.toList
def fReprA : List W → Option Out
  | [.int i] => if i.natAbs.log2 < 1920 ∧ (digL i).length ≤ 16777216 ∧ (digL i).all okCp = true then some (.val (.str (digL i))) else none
  | [.str x] => if (reprL x).length ≤ 16777216 ∧ (reprL x).all okCp = true then some (.val (.str (reprL x))) else none
  | ws => fRepr ws
theorem oc_reprA {F : Fx} : OpC F fReprA (fun xs H Q => (∃ i : Int, xs = [V.int i] ∧ i.natAbs.log2 < 1920 ∧ Q (.str (Str.ofString (toString i))) H) ∨ (∃ a : Str, xs = [V.str a] ∧ (reprText a).length ≤ sizeLine ∧ Q (.str (reprText a)) H) ∨
    ∃ (a : Addr) (d : PyData), xs = [V.ref a] ∧ Dp F.K H (.ref a) d ∧ d.canLay0 = true ∧ d.depth ≤ 64 ∧ d.showable = true ∧ d.shown.length ≤ sizeLine ∧ Q (.str d.shown) H) := by
  refine oc1 (fun ws o e => ?_) fun H O x w o Q r e q => ?_
  · unfold fReprA at e
    split at e <;> first | exact ⟨_, rfl⟩ | skip
    unfold fRepr at e
    split at e <;> first | exact ⟨_, rfl⟩ | cases e
  · have rest : fRepr [w] = some o → _ := fun e => oc_repr (F := F) H O [x] [w] o Q (.cons r .nil) e q
    cases w with
    | int i =>
      simp only [fReprA] at e
      split at e
      · rename_i hc
        cases some_inj e
        obtain rfl := Rp.int_inv r
        refine .inl ⟨i, rfl, hc.1, ?_⟩
        have hs : (Str.ofString (toString i)) = ⟨(digL i).toArray⟩ := by unfold digL; simp
        rw [hs]
        exact q _ (.str _ (by rw [sizeLine_is]; exact hc.2.1) hc.2.2)
      · cases e
    | str y =>
      simp only [fReprA] at e
      split at e
      · rename_i hc
        cases some_inj e
        obtain ⟨rfl, _⟩ := Rp.str_inv r
        have hs : reprText ⟨y.toArray⟩ = ⟨(reprL y).toArray⟩ := by unfold reprL mkS; simp
        refine .inr (.inl ⟨_, rfl, ?_, ?_⟩)
        · rw [hs, sizeLine_is]
          simpa [Str.length] using hc.1
        · rw [hs]
          exact q _ (.str _ (by rw [sizeLine_is]; exact hc.1) hc.2)
      · cases e
    | _ => exact .inr (.inr (rest e))
end Bel

/-! the law's mirrors -/
namespace BelLaw
open PySem PySem.Spec PyProof.Rows L2 Bel

def m__law_far : Nat → DF
  | 0 => fun _ _ => .no
  | r + 1 => fnD 1
    (dSeq (dIfS (dT (dBin false fInO (dBin false fIx (dVar 0) (dC (.int 0))) (dDisp false .nt (dCons (dC (.str [110, 117, 109, 98, 101, 114])) (dCons (dC (.str [98, 111, 120])) dNil))))) (dRet (dC (.int 1))) dNext)
    (dRet (dBin false fAdd (dC (.int 1)) (dCall false fMax2 (dCons (dFn (m__law_far r) 1 (dCons (dBin false fIx (dVar 0) (dC (.int 1))) dNil)) (dCons (dFn (m__law_far r) 1 (dCons (dBin false fIx (dVar 0) (dC (.int 2))) dNil)) dNil))))))
def m__law_three : DF := fnD 6
    (dSeq (dAsg 2 (dFn g__law_drawn 2 (dCons (dVar 0) (dCons (dVar 1) dNil))))
    (dSeq (dAsg 3 (dFn g__law_pick 2 (dCons (dVar 0) (dCons (dDisp false .nl (dCons (dC (.str [112, 108, 117, 115])) (dCons (dC (.str [108, 101, 115, 115])) (dCons (dC (.str [115, 97, 109, 101])) dNil)))) dNil))))
    (dSeq (dAsg 4 (dIf (dT (dBin false (fCmp fun i j => decide (i < j)) (dFn (m__law_far 8) 1 (dCons (dVar 2) dNil)) (dC (.int 6)))) (dDisp false .nt (dCons (dVar 3) (dCons (dVar 2) (dCons (dVar 2) dNil)))) (dDisp false .nt (dCons (dC (.str [112, 108, 117, 115])) (dCons (dBin false fIx (dVar 2) (dC (.int 1))) (dCons (dBin false fIx (dVar 2) (dC (.int 1))) dNil))))))
    (dSeq (dAsg 5 (dIf (dT (dBin false (fCmp fun i j => decide (i < j)) (dFn (m__law_far 8) 1 (dCons (dVar 4) dNil)) (dC (.int 6)))) (dDisp false .nt (dCons (dC (.str [112, 108, 117, 115])) (dCons (dDisp false .nt (dCons (dC (.str [98, 111, 120])) (dCons (dBin false fIx (dVar 1) (dC (.int 0))) dNil))) (dCons (dVar 4) dNil)))) (dDisp false .nt (dCons (dC (.str [108, 101, 115, 115])) (dCons (dBin false fIx (dVar 4) (dC (.int 2))) (dCons (dBin false fIx (dVar 4) (dC (.int 1))) dNil))))))
    (dRet (dDisp false .nl (dCons (dVar 2) (dCons (dVar 4) (dCons (dVar 5) dNil)))))))))
def m__law_text_otherwise : DF := fnD 5
    (dSeq (dAsg 2 (dBin false fAdd (dBin false fDiv (dCall false fLen (dCons (dVar 1) dNil)) (dC (.int 2))) (dFn g__law_next 2 (dCons (dVar 0) (dCons (dBin false fSub (dCall false fLen (dCons (dVar 1) dNil)) (dBin false fDiv (dCall false fLen (dCons (dVar 1) dNil)) (dC (.int 2)))) dNil)))))
    (dSeq (dAsg 3 (dFn g__law_pick 2 (dCons (dVar 0) (dCons (dC (.str [97, 98, 99, 100, 101, 102, 103, 104, 105, 106, 107, 108, 109, 110, 111, 112, 113, 114, 115, 116, 117, 118, 119, 120, 121, 122, 48, 49, 50, 51, 52, 53, 54, 55, 56, 57, 32, 40, 41, 43, 60, 61])) dNil))))
    (dSeq (dAsg 4 (dFn g__law_next 2 (dCons (dVar 0) (dCons (dC (.int 3)) dNil))))
    (dRet (dBin false fAdd (dBin false fAdd (dSl false (dVar 1) dNoPart (dPart (dVar 2))) (dBin false fIx (dDisp false .nl (dCons (dVar 3) (dCons (dVar 3) (dCons (dC (.str [])) dNil)))) (dVar 4))) (dSl false (dVar 1) (dPart (dBin false fAdd (dVar 2) (dCall false fIntW (dCons (dBin false (fCmp fun i j => decide (j < i)) (dVar 4) (dC (.int 0))) dNil)))) dNoPart))))))
def m__law_tried_ret : DS := (dRet (dIf (dT (dBin false fIs (dVar 2) (dC .non))) (dDisp false .nl (dCons (dVar 1) dNil)) (dFn g__law_class 1 (dCons (dVar 2) dNil))))
def m_bells : DF := fnD 0
    (dRet (dCall true fList (dCons (dC c_BELLS) dNil)))
def m_bell_number : DF := fnD 1
    (dSeq (dIfS (dOr (dNot (dT (dIsT isStr (dVar 0)))) (dT (dBin false fNotInO (dVar 0) (dC c_BELLS)))) (dRaise 0) dNext)
    (dRet (dMeth false isTup fIndexT (dC c_BELLS) (dCons (dVar 0) dNil))))
def m__law_bells_told : DF := fnD 5
    (dSeq (dAsg 2 (dDisp false .nl (dCons (dC (.str [107, 105, 108, 108])) (dCons (dC (.str [104, 97, 108, 116])) (dCons (dC (.str [115, 116, 111, 112])) (dCons (dC (.str [104, 97, 110, 103])) (dCons (dC (.str [101, 110, 100])) (dCons (dC (.str [119, 97, 107, 101])) (dCons (dC (.str [103, 111])) (dCons (dC (.str [100, 111, 110, 101])) dNil))))))))))
    (dSeq (dAsg 3 (dFn m_bells 0 dNil))
    (dSeq (dAsg 4 (dFn g__law_next 2 (dCons (dVar 0) (dCons (dC (.int 8)) dNil))))
    (dSeq (dIfS (dOr (dT (dBin false fNe (dVar 3) (dVar 2))) (dOr (dT (dBin false fNe (dFn m_bell_number 1 (dCons (dBin false fIx (dVar 3) (dVar 4)) dNil)) (dVar 4))) (dOr (dT (dBin false fIsNot (dFn g_is_name 1 (dCons (dVar 1) dNil)) (dC (.bl true)))) (dT (dBin false fIsNot (dFn g_is_name 1 (dCons (dBin false fIx (dVar 3) (dVar 4)) dNil)) (dC (.bl false))))))) (dRet (dC (.bl false))) dNext)
    (dSeq (dDrop (dMut fReverse (dVar 3) dNil))
    (dRet (dBin false fEq (dFn m_bells 0 dNil) (dVar 2))))))))
def m_need_term : DF := fnD 1
    (dIfS (dNot (dT (dFn g_is_term 1 (dCons (dVar 0) dNil)))) (dRaise 0) dNext)
def m_reckoned : DF := fnD 2
    (dSeq (dDrop (dFn m_need_term 1 (dCons (dVar 0) dNil)))
    (dRet (dFn (g_worth 8) 2 (dCons (dVar 0) (dCons (dVar 1) dNil)))))
def m_term_text : DF := fnD 1
    (dSeq (dDrop (dFn m_need_term 1 (dCons (dVar 0) dNil)))
    (dRet (dFn (g_written 8) 1 (dCons (dVar 0) dNil))))
def m__law_told : DF := fnD 4
    (dSeq (dAsg 2 (dFn (g__law_text 8) 1 (dCons (dVar 0) dNil)))
    (dSeq (dAsg 3 (dCall true fDict (dCons (dVar 1) dNil)))
    (dSeq (dIfS (dOr (dT (dBin false fIsNot (dFn g_is_term 1 (dCons (dVar 0) dNil)) (dC (.bl true)))) (dOr (dT (dBin false fNe (dCall false fReprA (dCons (dFn m_reckoned 2 (dCons (dVar 0) (dCons (dVar 1) dNil))) dNil)) (dCall false fReprA (dCons (dFn (g__law_worth 8) 2 (dCons (dVar 0) (dCons (dVar 1) dNil))) dNil)))) (dT (dBin false fNeDD (dVar 1) (dVar 3))))) (dRet (dC (.bl false))) dNext)
    (dRet ((dAndV (dBin false fEq (dCall false fReprA (dCons (dFn m_term_text 1 (dCons (dVar 0) dNil)) dNil)) (dCall false fReprA (dCons (dVar 2) dNil))) (dBin false fEq (dCall false fReprA (dCons (dFn g_read_term 1 (dCons (dVar 2) dNil)) dNil)) (dCall false fReprA (dCons (dVar 0) dNil)))))))))
def m_law_e1 : DE := (dFn g__law_name 1 (dCons (dVar 2) dNil))
def m_law_t2 : DT := (dNot (dT (dFn m__law_told 2 (dCons (dVar 7) (dCons (dVar 5) dNil)))))
def m_law_b3 : DS := (dSeq (dIfS (dT (dBin false fNeNil (dLc false (dItL (dBin false fAdd (dVar 4) (dSl false (dVar 4) dNoPart (dPart (dC (.int 1)))))) (tgN 7) m_law_t2 (dVar 7) [7]) (dDisp false .nl dNil))) (dRet (dC (.bl false))) dNext)
    (dSeq (dIfS (dNot (dT (dFn m__law_bells_told 2 (dCons (dVar 2) (dCons (dBin false fIx (dVar 3) (dVar 6)) dNil))))) (dRet (dC (.bl false))) dNext)
    (dSeq (dSetD (dVar 5) (dBin false fIx (dVar 3) (dVar 6)) (dFn g__law_pick 2 (dCons (dVar 2) (dCons (dDisp false .nl (dCons (dC (.int 0)) (dCons (dC (.int 1)) (dCons (dC (.int 999)) (dCons (dFn g__law_next 2 (dCons (dVar 2) (dCons (dC (.int 1000)) dNil))) dNil))))) dNil))))
    (dDrop (dPop2 (dVar 5) (dFn g__law_pick 2 (dCons (dVar 2) (dCons (dBin false fAdd (dVar 3) (dDisp false .nl (dCons (dC (.str [122, 122])) dNil))) dNil))) (dC .non))))))
def m_law_b4 : DS := (dSeq (dAsg 8 (dFn m__law_text_otherwise 2 (dCons (dVar 2) (dCons (dFn (g__law_text 8) 1 (dCons (dVar 7) dNil)) dNil))))
    (dSeq (dAsg 9 (dFn (g__law_read 8) 2 (dCons (dVar 8) (dCons (dC (.int 1)) dNil))))
    (dSeq (dAsg 10 (dTried 1 "law" (tq "law") m__law_tried_ret (dFn g_read_term 1 (dCons (dVar 8) dNil))))
    (dIfS (dOr (dAnd (dT (dBin false fIs (dVar 9) (dC .non))) (dT (dBin false fNe (dVar 10) (dC (.str [78, 111, 84, 101, 120, 116]))))) (dAnd (dT (dBin false fIsNot (dVar 9) (dC .non))) (dT (dBin false fNe (dCall false fReprA (dCons (dVar 10) dNil)) (dCall false fReprA (dCons (dDisp false .nl (dCons (dVar 9) dNil)) dNil)))))) (dRet (dC (.bl false))) dNext))))
def m_law_b5 : DS := (dSeq (dAsg 2 (dFn g__law_state 2 (dCons (dVar 0) (dCons (dVar 1) dNil))))
    (dSeq (dAsg 3 (dLc false (dRng1 (dC (.int 3))) (tgN 6) dYes m_law_e1 [6]))
    (dSeq (dAsg 4 (dFn m__law_three 2 (dCons (dVar 2) (dCons (dVar 3) dNil))))
    (dSeq (dAsg 5 (dFn g__law_boxes 2 (dCons (dVar 2) (dCons (dVar 3) dNil))))
    (dSeq (dFor (dRng1 (dC (.int 3))) (tgN 6) m_law_b3)
    (dFor (dItL (dVar 4)) (tgN 7) m_law_b4))))))
def m_law : DF := fnD 11
    (dSeq (dFor (dRng1 (dBin false fAdd (dCall false fMin2 (dCons (dCall false fLen (dCons (dVar 0) dNil)) (dCons (dC (.int 12)) dNil))) (dC (.int 1)))) (tgN 1) m_law_b5)
    (dRet (dC (.bl true))))
end BelLaw

/-! Readers of terms' texts, as plain functions. -/
namespace Bel
open PySem PySem.Spec PyProof.Rows L2 TL
def numT (x : List Nat) : Option Nat := (List.range 1000).find? fun n => decide (numL n = x)
theorem numT_some {x : List Nat} {n : Nat} (h : numT x = some n) : n ≤ 999 ∧ numL n = x := by
  unfold numT at h
  have h1 := List.find?_some h
  have h2 := List.mem_range.mp (List.mem_of_find?_eq_some h)
  exact ⟨by omega, by simpa using h1⟩
theorem numL_inj {m n : Nat} (hm : m ≤ 999) (hn : n ≤ 999) (h : numL m = numL n) : m = n := by
  have e1 := int_numL hm
  have e2 := int_numL hn
  rw [h, e2] at e1
  have := Option.some.inj e1
  omega
theorem numT_num {n : Nat} (h : n ≤ 999) : numT (numL n) = some n := by
  cases e : numT (numL n) with
  | none =>
    unfold numT at e
    rw [List.find?_eq_none] at e
    have := e n (List.mem_range.mpr (by omega))
    simp at this
  | some m =>
    obtain ⟨h1, h2⟩ := numT_some e
    rw [numL_inj h1 h h2]
def dg (c : Nat) : Nat := c - 48
theorem figs1 : ∀ a ∈ figs, numL (dg a) = [a] ∧ dg a ≤ 999 := by decide +kernel
theorem figs2 : ∀ a ∈ figs, ∀ b ∈ figs, a ≠ 48 → numL (10 * dg a + dg b) = [a, b] ∧ 10 * dg a + dg b ≤ 999 := by decide +kernel
theorem figs3 : ∀ a ∈ figs, ∀ b ∈ figs, ∀ c ∈ figs, a ≠ 48 → numL (100 * dg a + 10 * dg b + dg c) = [a, b, c] ∧ 100 * dg a + 10 * dg b + dg c ≤ 999 := by decide +kernel
/-- what is a number's text -/
theorem is_num {x : List Nat} (h1 : 1 ≤ x.length) (h2 : x.length ≤ 3) (h3 : ∀ c ∈ x, c ∈ figs) (h4 : x = [48] ∨ x.head? ≠ some 48) : ∃ n, n ≤ 999 ∧ x = numL n := by
  match x, h1, h2, h3, h4 with
  | [a], _, _, h3, _ =>
    obtain ⟨e, l⟩ := figs1 a (h3 a (by simp))
    exact ⟨_, l, e.symm⟩
  | [a, b], _, _, h3, h4 =>
    have ha : a ≠ 48 := fun z => by subst z; simp at h4
    obtain ⟨e, l⟩ := figs2 a (h3 a (by simp)) b (h3 b (by simp)) ha
    exact ⟨_, l, e.symm⟩
  | [a, b, c], _, _, h3, h4 =>
    have ha : a ≠ 48 := fun z => by subst z; simp at h4
    obtain ⟨e, l⟩ := figs3 a (h3 a (by simp)) b (h3 b (by simp)) c (h3 c (by simp)) ha
    exact ⟨_, l, e.symm⟩
  | a :: b :: c :: d :: r, _, h2, _, _ => simp at h2
theorem num_not {x : List Nat} (h : numT x = none) : ∀ n, n ≤ 999 → x ≠ numL n := fun n hn e => by
  rw [e, numT_num hn] at h
  cases h
/-- a word: a box, a number -/
def leafT (x : List Nat) : Option Trm := if nm x = true then some (.box x) else (numT x).map .num
theorem leafT_some {x : List Nat} {t : Trm} (h : leafT x = some t) : x = t.txt ∧ ∀ d, t.ok (d + 1) := by
  unfold leafT at h
  split at h
  · rename_i e
    cases h
    exact ⟨rfl, fun _ => e⟩
  · cases e : numT x with
    | none => rw [e] at h; cases h
    | some n =>
      rw [e] at h
      cases h
      obtain ⟨h1, h2⟩ := numT_some e
      exact ⟨h2.symm, fun _ => h1⟩
theorem leafT_num {n : Nat} (h : n ≤ 999) : leafT (numL n) = some (.num n) := by
  unfold leafT
  rw [nm_num, numT_num h]
  rfl
theorem leafT_box {x : List Nat} (h : nm x = true) : leafT x = some (.box x) := if_pos h
theorem leafT_an {x : List Nat} {t : Trm} (h : leafT x = some t) : (∀ c ∈ x, c ∈ an) ∧ x ≠ [] := by
  unfold leafT at h
  split at h
  · rename_i e
    exact ⟨fun c hc => List.mem_append_left _ (nm_abc e c hc), fun z => by have := (nm_len e).1; rw [z] at this; simp at this⟩
  · cases e : numT x with
    | none => rw [e] at h; cases h
    | some n =>
      obtain ⟨h1, h2⟩ := numT_some e
      subst h2
      exact ⟨fun c hc => List.mem_append_right _ (numL_figs n c hc), numL_ne n⟩
/-- a leaf's text -/
theorem leaf_txt {d : Nat} {t : Trm} (h : t.ok d) (hb : ∀ s a b, t ≠ .bin s a b) : leafT t.txt = some t := by
  match d, t, h with
  | 0, _, h => exact h.elim
  | d + 1, .num n, h => exact leafT_num h
  | d + 1, .box x, h => exact leafT_box h
  | d + 1, .bin s a b, h => exact absurd rfl (hb s a b)
def sgT (x : List Nat) : Option (List Nat) := if x = [32, 43, 32] then some tPlus else if x = [32, 60, 32] then some tLess else if x = [32, 61, 32] then some tSame else none
theorem sgT_some {x s : List Nat} (h : sgT x = some s) : s ∈ signw ∧ x = sg s := by
  unfold sgT at h
  split at h
  · cases h; exact ⟨by decide, by assumption⟩
  split at h
  · cases h; exact ⟨by decide, by assumption⟩
  split at h
  · cases h; exact ⟨by decide, by assumption⟩
  · cases h
theorem sgT_sg {s : List Nat} (h : s ∈ signw) : sgT (sg s) = some s := by
  rcases signw_3 h with rfl | rfl | rfl <;> rfl
def runW (y : List Nat) : List Nat := y.takeWhile fun c => decide (c ∈ an)
theorem run_is (y : List Nat) : ∃ post, y = runW y ++ post ∧ endw post ∧ ∀ c ∈ runW y, c ∈ an := by
  refine ⟨y.dropWhile fun c => decide (c ∈ an), (List.takeWhile_append_dropWhile).symm, fun c r h => ?_, fun c hc => ?_⟩
  · have := List.head?_dropWhile_not (fun c => decide (c ∈ an)) y
    rw [h] at this
    simpa using this
  · induction y with
    | nil => simp [runW] at hc
    | cons a r ih =>
      unfold runW at hc
      rw [List.takeWhile_cons] at hc
      split at hc
      · rename_i ha
        rcases List.mem_cons.mp hc with rfl | hc
        · simpa using ha
        · exact ih hc
      · simp at hc
theorem run_of {x post : List Nat} (hx : ∀ c ∈ x, c ∈ an) (hp : endw post) : runW (x ++ post) = x := by
  induction x with
  | nil =>
    cases post with
    | nil => rfl
    | cons c r => simp [runW, List.takeWhile_cons, hp c r rfl]
  | cons a x ih =>
    have := ih fun c hc => hx c (List.mem_cons_of_mem _ hc)
    unfold runW at this ⊢
    rw [List.cons_append, List.takeWhile_cons, if_pos (by simpa using hx a List.mem_cons_self), this]
/-- the program's reader -/
def rd : Nat → List Nat → Option (Trm × List Nat)
  | 0, _ => none
  | k + 1, y => if y.take 1 = [40] then
      match rd k (y.drop 1) with
      | none => none
      | some (a, z) => match sgT (z.take 3) with
        | none => none
        | some s => match rd k (z.drop 3) with
          | none => none
          | some (b, u) => if u.take 1 = [41] then some (.bin s a b, u.drop 1) else none
    else (leafT (runW y)).map fun t => (t, y.drop (runW y).length)
theorem take1 {y : List Nat} {c : Nat} (h : y.take 1 = [c]) : y = c :: y.drop 1 := by
  cases y with
  | nil => simp at h
  | cons a r => simp at h; simp [h]
theorem rd_sound : ∀ (k : Nat) (y : List Nat) (t : Trm) (z : List Nat), rd k y = some (t, z) → t.ok k ∧ y = t.txt ++ z
  | 0, _, _, _, h => by cases h
  | k + 1, y, t, z, h => by
    unfold rd at h
    split at h
    · rename_i e
      split at h
      · cases h
      · rename_i a z1 e1
        split at h
        · cases h
        · rename_i s e2
          split at h
          · cases h
          · rename_i b u e3
            split at h
            · rename_i e4
              cases h
              obtain ⟨oa, ya⟩ := rd_sound k _ _ _ e1
              obtain ⟨ob, yb⟩ := rd_sound k _ _ _ e3
              obtain ⟨hs, es⟩ := sgT_some e2
              refine ⟨⟨hs, oa, ob⟩, ?_⟩
              have h1 := take1 e
              have h4 := take1 e4
              have h3 : z1 = sg s ++ z1.drop 3 := by rw [← es, List.take_append_drop]
              rw [h1, ya, h3, yb, h4]
              simp [Trm.txt]
            · cases h
    · cases e : leafT (runW y) with
      | none => rw [e] at h; cases h
      | some t' =>
        rw [e] at h
        cases h
        obtain ⟨e1, o⟩ := leafT_some e
        refine ⟨o k, ?_⟩
        rw [← e1]
        obtain ⟨post, h1, _, _⟩ := run_is y
        have h2 : y.drop (runW y).length = post := by
          conv => lhs; arg 2; rw [h1]
          rw [List.drop_left]
        rw [h2, ← h1]
theorem endw_nil : endw [] := fun _ _ h => nomatch h
theorem endw_sg (s r : List Nat) : endw (sg s ++ r) := fun c r' h => by
  unfold sg at h
  split at h <;> (try split at h) <;> (cases h; decide)
theorem endw_shut (r : List Nat) : endw (41 :: r) := fun c r' h => by cases h; decide
theorem an_40 : 40 ∉ an := by decide
theorem leaf_take {x z : List Nat} {t : Trm} (h : leafT x = some t) : (x ++ z).take 1 ≠ [40] := fun e => by
  obtain ⟨h1, h2⟩ := leafT_an h
  cases x with
  | nil => exact h2 rfl
  | cons c r =>
    simp at e
    subst e
    exact an_40 (h1 _ List.mem_cons_self)
theorem rd_leaf {k : Nat} {x z : List Nat} {t : Trm} (h : leafT x = some t) (hz : endw z) : rd (k + 1) (x ++ z) = some (t, z) := by
  unfold rd
  rw [if_neg (leaf_take h), run_of (leafT_an h).1 hz, h, List.drop_left]
  rfl
theorem rd_complete : ∀ (k : Nat) (t : Trm) (z : List Nat), t.ok k → endw z → rd k (t.txt ++ z) = some (t, z)
  | 0, _, _, h, _ => h.elim
  | k + 1, .num n, z, h, hz => rd_leaf (leafT_num h) hz
  | k + 1, .box x, z, h, hz => rd_leaf (leafT_box h) hz
  | k + 1, .bin s a b, z, h, hz => by
    obtain ⟨hs, ha, hb⟩ := h
    have e1 : (Trm.bin s a b).txt ++ z = 40 :: (a.txt ++ (sg s ++ (b.txt ++ (41 :: z)))) := by simp [Trm.txt]
    rw [e1]
    unfold rd
    have e0 : (40 :: (a.txt ++ (sg s ++ (b.txt ++ (41 :: z))))).take 1 = [40] := rfl
    rw [if_pos e0, List.drop_succ_cons, List.drop_zero, rd_complete k a _ ha (endw_sg s _)]
    have e2 : (sg s ++ (b.txt ++ (41 :: z))).take 3 = sg s := by rw [← sg_len s, List.take_left]
    have e3 : (sg s ++ (b.txt ++ (41 :: z))).drop 3 = b.txt ++ (41 :: z) := by rw [← sg_len s, List.drop_left]
    simp only [e2, e3, sgT_sg hs, rd_complete k b _ hb (endw_shut z)]
    rfl
def rdAll (x : List Nat) : Option Trm := match rd 6 x with
  | some (t, []) => some t
  | _ => none
theorem rdAll_iff {x : List Nat} {t : Trm} : rdAll x = some t ↔ t.ok 6 ∧ x = t.txt := by
  constructor
  · intro h
    unfold rdAll at h
    split at h
    · rename_i e
      cases h
      obtain ⟨h1, h2⟩ := rd_sound _ _ _ _ e
      exact ⟨h1, by simpa using h2⟩
    · cases h
  · rintro ⟨h1, rfl⟩
    have := rd_complete 6 t [] h1 endw_nil
    rw [List.append_nil] at this
    simp [rdAll, this]
/-! ### the law's reader -/
def lev (lv : Int) (c : Nat) : Int := lv + (if c = 40 then 1 else 0) - (if c = 41 then 1 else 0)
def cutsL : Nat → Int → List Nat → List Nat
  | _, _, [] => []
  | i, lv, c :: r => (if lev lv c = 0 ∧ (sgT ((c :: r).take 3)).isSome = true then [i] else []) ++ cutsL (i + 1) (lev lv c) r
theorem cuts_mem : ∀ (x : List Nat) (i : Nat) (lv : Int), ∀ p ∈ cutsL i lv x, i ≤ p ∧ p < i + x.length ∧ (sgT ((x.drop (p - i)).take 3)).isSome = true
  | [], _, _, p, h => by cases h
  | c :: r, i, lv, p, h => by
    unfold cutsL at h
    rcases List.mem_append.mp h with h | h
    · split at h
      · rename_i e
        simp at h
        subst h
        exact ⟨Nat.le_refl _, by simp, by simpa using e.2⟩
      · cases h
    · obtain ⟨h1, h2, h3⟩ := cuts_mem r (i + 1) _ p h
      refine ⟨by omega, by simp; omega, ?_⟩
      rw [show p - i = (p - (i + 1)) + 1 by omega, List.drop_succ_cons]
      exact h3
theorem sgT_not {c : Nat} {r : List Nat} (h : c ≠ 32) : (sgT ((c :: r).take 3)).isSome = false := by
  cases e : sgT ((c :: r).take 3) with
  | none => rfl
  | some s =>
    obtain ⟨hs, e2⟩ := sgT_some e
    rcases signw_3 hs with rfl | rfl | rfl <;> (simp [sg] at e2; exact absurd e2.1 h)
theorem cuts_not {i : Nat} {lv : Int} {c : Nat} {r : List Nat} (h : c ≠ 32 ∨ lev lv c ≠ 0) : cutsL i lv (c :: r) = cutsL (i + 1) (lev lv c) r := by
  rw [cutsL, if_neg, List.nil_append]
  rintro ⟨h1, h2⟩
  rcases h with h | h
  · rw [sgT_not h] at h2; cases h2
  · exact h h1
theorem an_flat : ∀ c ∈ an, c ≠ 32 ∧ c ≠ 40 ∧ c ≠ 41 ∧ c ≠ 43 ∧ c ≠ 60 ∧ c ≠ 61 := by decide
theorem cuts_an : ∀ (x R : List Nat) (i : Nat) (lv : Int), (∀ c ∈ x, c ∈ an) → cutsL i lv (x ++ R) = cutsL (i + x.length) lv R
  | [], R, i, lv, _ => rfl
  | c :: x, R, i, lv, h => by
    obtain ⟨h1, h2, h3, _⟩ := an_flat c (h c List.mem_cons_self)
    have hl : lev lv c = lv := by simp [lev, h2, h3]
    rw [List.cons_append, cuts_not (.inl h1), hl, cuts_an x R _ _ fun c hc => h c (List.mem_cons_of_mem _ hc)]
    rw [show i + 1 + x.length = i + (c :: x).length by simp; omega]
theorem lev_plain {lv : Int} {c : Nat} (h1 : c ≠ 40) (h2 : c ≠ 41) : lev lv c = lv := by simp [lev, h1, h2]
theorem sg_is {s : List Nat} (h : s ∈ signw) : ∃ c, sg s = [32, c, 32] ∧ (c = 43 ∨ c = 60 ∨ c = 61) := by
  rcases signw_3 h with rfl | rfl | rfl
  · exact ⟨43, rfl, .inl rfl⟩
  · exact ⟨60, rfl, .inr (.inl rfl)⟩
  · exact ⟨61, rfl, .inr (.inr rfl)⟩
theorem cuts_txt : ∀ (k : Nat) (t : Trm) (R : List Nat) (i : Nat) (lv : Int), t.ok k → 0 ≤ lv → cutsL i lv (t.txt ++ R) = cutsL (i + t.txt.length) lv R
  | 0, _, _, _, _, h, _ => h.elim
  | k + 1, .num n, R, i, lv, h, _ => cuts_an _ R i lv (leafT_an (leafT_num h)).1
  | k + 1, .box x, R, i, lv, h, _ => cuts_an _ R i lv (leafT_an (leafT_box h)).1
  | k + 1, .bin s a b, R, i, lv, h, hl => by
    obtain ⟨hs, ha, hb⟩ := h
    obtain ⟨c, es, hc⟩ := sg_is hs
    have e1 : (Trm.bin s a b).txt ++ R = 40 :: (a.txt ++ (32 :: c :: 32 :: (b.txt ++ (41 :: R)))) := by simp [Trm.txt, es]
    have l0 : lev lv 40 = lv + 1 := by simp [lev]
    have l1 : lev (lv + 1) 32 = lv + 1 := lev_plain (by decide) (by decide)
    have l2 : lev (lv + 1) c = lv + 1 := lev_plain (by omega) (by omega)
    have l3 : lev (lv + 1) 41 = lv := by simp [lev]
    rw [e1, cuts_not (.inl (by decide)), l0, cuts_txt k a _ _ _ ha (by omega), cuts_not (.inr (by rw [l1]; omega)), l1, cuts_not (.inr (by rw [l2]; omega)), l2, cuts_not (.inr (by rw [l1]; omega)), l1,
      cuts_txt k b _ _ _ hb (by omega), cuts_not (.inl (by decide)), l3]
    congr 1
    simp [Trm.txt, es]; omega
theorem txt_head {k : Nat} {t : Trm} (h : t.ok k) : ∃ c r, t.txt = c :: r ∧ c ≠ 32 ∧ c ≠ 43 ∧ c ≠ 60 ∧ c ≠ 61 := by
  match k, t, h with
  | 0, _, h => exact h.elim
  | k + 1, .num n, h =>
    obtain ⟨h1, h2⟩ := leafT_an (leafT_num h)
    cases e : numL n with
    | nil => exact absurd e h2
    | cons c r =>
      obtain ⟨q1, _, _, q2, q3, q4⟩ := an_flat c (h1 c (by rw [e]; exact List.mem_cons_self))
      exact ⟨c, r, e, q1, q2, q3, q4⟩
  | k + 1, .box x, h =>
    obtain ⟨h1, h2⟩ := leafT_an (leafT_box h)
    cases e : x with
    | nil => exact absurd e h2
    | cons c r =>
      obtain ⟨q1, _, _, q2, q3, q4⟩ := an_flat c (h1 c (by rw [e]; exact List.mem_cons_self))
      exact ⟨c, r, rfl, q1, q2, q3, q4⟩
  | k + 1, .bin s a b, h => exact ⟨40, _, rfl, by decide, by decide, by decide, by decide⟩
theorem cuts_one {k : Nat} {s : List Nat} {a b : Trm} (hs : s ∈ signw) (ha : a.ok k) (hb : b.ok k) : cutsL 0 0 (a.txt ++ (sg s ++ b.txt)) = [a.txt.length] := by
  obtain ⟨c, es, hc⟩ := sg_is hs
  obtain ⟨c1, r1, eb, q1, q2, q3, q4⟩ := txt_head hb
  have l1 : lev 0 32 = 0 := lev_plain (by decide) (by decide)
  have l2 : lev 0 c = 0 := lev_plain (by omega) (by omega)
  have w1 : (sgT ((32 :: c :: 32 :: b.txt).take 3)).isSome = true := by
    have := sgT_sg hs
    rw [es] at this
    simp [this]
  have w2 : (sgT ((32 :: b.txt).take 3)).isSome = false := by
    cases e : sgT ((32 :: b.txt).take 3) with
    | none => rfl
    | some s' =>
      obtain ⟨hs', e2⟩ := sgT_some e
      obtain ⟨c', es', hc'⟩ := sg_is hs'
      rw [es', eb] at e2
      simp at e2
      omega
  rw [cuts_txt k a _ _ _ ha (by decide), es]
  show cutsL _ 0 (32 :: c :: 32 :: b.txt) = _
  rw [cutsL, l1, if_pos ⟨rfl, w1⟩, cuts_not (.inl (by omega)), l2, cutsL, l1, if_neg (by rw [w2]; simp)]
  have := cuts_txt k b [] (0 + a.txt.length + 1 + 1 + 1) 0 hb (by decide)
  rw [List.append_nil] at this
  rw [this]
  simp [cutsL]
def lrd : Nat → List Nat → Option Trm
  | 0, _ => none
  | k + 1, x => if x.take 1 = [40] then
      (if cutL x (some (-1)) none = [41] then
        match cutsL 0 0 (cutL x (some 1) (some (-1))) with
        | [p] => match lrd k ((cutL x (some 1) (some (-1))).take p), lrd k ((cutL x (some 1) (some (-1))).drop (p + 3)) with
          | some a, some b => (sgT (((cutL x (some 1) (some (-1))).drop p).take 3)).map fun s => .bin s a b
          | _, _ => none
        | _ => none
      else none)
    else leafT x
theorem leaf_no {k : Nat} {t : Trm} {x : List Nat} (h : t.ok k) (e : x = t.txt) (h1 : x.take 1 = [40]) : ∃ s a b, t = .bin s a b := by
  cases t with
  | num n => subst e; exact absurd (by rw [List.append_nil]; exact h1) (leaf_take (z := []) (leaf_txt h fun _ _ _ z => nomatch z))
  | box y => subst e; exact absurd (by rw [List.append_nil]; exact h1) (leaf_take (z := []) (leaf_txt h fun _ _ _ z => nomatch z))
  | bin s a b => exact ⟨s, a, b, rfl⟩
theorem ends_is {y : List Nat} {c : Nat} : cutL (40 :: (y ++ [c])) (some 1) (some (-1)) = y ∧ cutL (40 :: (y ++ [c])) (some (-1)) none = [c] := by
  have h1 : HT.sIx (40 :: (y ++ [c])).length 0 (some 1) = 1 := by simp [HT.sIx]
  have h2 : ∀ d, HT.sIx (40 :: (y ++ [c])).length d (some (-1)) = y.length + 1 := fun d => by
    simp [HT.sIx]; omega
  have h3 : HT.sIx (40 :: (y ++ [c])).length (40 :: (y ++ [c])).length none = y.length + 2 := by simp [HT.sIx]
  unfold cutL
  rw [h1, h2, h2, h3]
  constructor
  · simp
  · rw [List.drop_succ_cons, List.drop_left, show y.length + 2 - (y.length + 1) = 1 by omega]
    rfl
theorem lrd_iff : ∀ (k : Nat) (x : List Nat) (t : Trm), lrd k x = some t ↔ t.ok k ∧ x = t.txt
  | 0, x, t => ⟨(fun h => by cases h), fun h => h.1.elim⟩
  | k + 1, x, t => by
    unfold lrd
    by_cases h1 : x.take 1 = [40]
    · rw [if_pos h1]
      have bin : t.ok (k + 1) ∧ x = t.txt → ∃ s a b, t = .bin s a b ∧ s ∈ signw ∧ a.ok k ∧ b.ok k ∧ x = 40 :: ((a.txt ++ (sg s ++ b.txt)) ++ [41]) := fun ⟨h2, h3⟩ => by
        obtain ⟨s, a, b, rfl⟩ := leaf_no h2 h3 h1
        exact ⟨s, a, b, rfl, h2.1, h2.2.1, h2.2.2, by rw [h3]; simp [Trm.txt]⟩
      by_cases h41 : cutL x (some (-1)) none = [41]
      · rw [if_pos h41]
        obtain ⟨y, rfl⟩ : ∃ y, x = 40 :: (y ++ [41]) := by
          obtain ⟨q, rfl⟩ : ∃ q, x = 40 :: q := ⟨_, take1 h1⟩
          rcases List.eq_nil_or_concat q with rfl | ⟨y, c, rfl⟩
          · exact absurd h41 (by decide)
          · rw [List.concat_eq_append] at h41 ⊢
            rw [(ends_is (y := y) (c := c)).2] at h41
            cases h41
            exact ⟨y, rfl⟩
        rw [(ends_is (y := y) (c := 41)).1]
        constructor
        · intro h
          split at h
          · rename_i p ep
            split at h
            · rename_i a b ea eb
              cases es : sgT ((y.drop p).take 3) with
              | none => rw [es] at h; cases h
              | some s =>
                rw [es] at h
                cases h
                obtain ⟨hs, e3⟩ := sgT_some es
                obtain ⟨oa, xa⟩ := (lrd_iff k _ _).mp ea
                obtain ⟨ob, xb⟩ := (lrd_iff k _ _).mp eb
                refine ⟨⟨hs, oa, ob⟩, ?_⟩
                have hy : y = a.txt ++ (sg s ++ b.txt) := by
                  rw [← xa, ← xb, ← e3, ← List.drop_drop, List.take_append_drop, List.take_append_drop]
                rw [hy]
                simp [Trm.txt]
            · cases h
          · cases h
        · intro h
          obtain ⟨s, a, b, rfl, hs, ha, hb, hx⟩ := bin h
          have hy : y = a.txt ++ (sg s ++ b.txt) := by
            simp only [List.cons.injEq, true_and] at hx
            exact List.append_cancel_right hx
          subst hy
          rw [cuts_one hs ha hb]
          have t1 : (a.txt ++ (sg s ++ b.txt)).take a.txt.length = a.txt := List.take_left
          have t2 : (a.txt ++ (sg s ++ b.txt)).drop a.txt.length = sg s ++ b.txt := List.drop_left
          have t3 : (a.txt ++ (sg s ++ b.txt)).drop (a.txt.length + 3) = b.txt := by
            rw [← List.drop_drop, t2, ← sg_len s, List.drop_left]
          have t4 : (sg s ++ b.txt).take 3 = sg s := by rw [← sg_len s, List.take_left]
          simp only [t1, t2, t3, t4, (lrd_iff k _ _).mpr ⟨ha, rfl⟩, (lrd_iff k _ _).mpr ⟨hb, rfl⟩, sgT_sg hs, Option.map_some]
      · rw [if_neg h41]
        refine ⟨(fun h => by cases h), fun h => ?_⟩
        obtain ⟨s, a, b, rfl, hs, ha, hb, hx⟩ := bin h
        rw [hx, ends_is.2] at h41
        exact absurd rfl h41
    · rw [if_neg h1]
      constructor
      · intro h
        obtain ⟨h2, h3⟩ := leafT_some h
        exact ⟨h3 k, h2⟩
      · rintro ⟨h2, rfl⟩
        exact leaf_txt h2 fun s a b z => by subst z; exact h1 rfl
theorem rd_lrd (x : List Nat) : rdAll x = lrd 6 x := Option.ext fun t => rdAll_iff.trans (lrd_iff 6 x t).symm
end Bel

/-! What the readers tell. -/
namespace Bel
open PySem PySem.Spec PyProof.Rows L2 TL
theorem st1 : (∀ b ∈ figs, Txt.startswith (mkS [48, b]) (mkS [48]) = true) ∧ ∀ b ∈ figs, ∀ c ∈ figs, Txt.startswith (mkS [48, b, c]) (mkS [48]) = true := by decide +kernel
theorem numL_0 : numL 0 = [48] := by decide +kernel
section
variable {S : Store}
def optW : Option Trm → W
  | some t => t.w
  | none => .non
theorem told_any {x : List Nat} (hl : x.length ≤ 16777216) : g_number_told [.v (.str x), .v (.int 999)] S = .ok (.v (match numT x with | some n => .int n | none => .non)) S := by
  cases e : numT x with
  | some n =>
    obtain ⟨h1, h2⟩ := numT_some e
    subst h2
    exact told_w h1
  | none =>
    have hn := num_not e
    have z : ∀ x0 x1 x2 : Option U, lcL (tgN 2) dYes g_number_told_e1 (wipeE [x0, x1, x2] [2]) (x.map fun c => .str [c]) S = .ok (x.map fun c => W.bl (decide (c ∈ figs))) S := fun x0 x1 x2 =>
      lcL_map (fun c => .str [c]) _ _ fun c hc => ⟨_, rfl, by simp [g_number_told_e1, wipeE, c_FIGURES, figs]⟩
    have s9 : fStr [.int 999] = some (.val (.str [57, 57, 57])) := by
      have e := fStr_num (n := 999) (by decide)
      rw [show numL 999 = [57, 57, 57] by decide +kernel] at e
      exact e
    have ap := fAll_map (fun c => decide (c ∈ figs)) x
    by_cases c1 : 1 ≤ x.length
    · have c1' : (1 : Int) ≤ x.length := by omega
      by_cases c2 : x.length ≤ 3
      · have c2' : (x.length : Int) ≤ 3 := by omega
        cases ha : x.all (fun c => decide (c ∈ figs)) with
        | false =>
          rw [ha] at ap
          simp [g_number_told, s9, z, hl, c1', c2', ap]
        | true =>
          rw [ha] at ap
          have hf : ∀ c ∈ x, c ∈ figs := fun c hc => by simpa using List.all_eq_true.mp ha c hc
          have h48 : x ≠ [48] := fun h => hn 0 (by decide) (by rw [h, numL_0])
          have hh : x.head? = some 48 := Classical.byContradiction fun z => by
            obtain ⟨n, h1, h2⟩ := is_num c1 c2 hf (.inr z)
            exact hn n h1 h2
          have st : fStarts (.str x) [.str [48]] = some (.val (.bl true)) := by
            rw [fStarts]
            congr 3
            match x, c1, c2, hf, h48, hh with
            | [a], _, _, _, h48, hh => simp at hh; subst hh; exact absurd rfl h48
            | [a, b], _, _, hf, _, hh => simp at hh; subst hh; exact st1.1 b (hf b (by simp))
            | [a, b, c], _, _, hf, _, hh => simp at hh; subst hh; exact st1.2 b (hf b (by simp)) c (hf c (by simp))
            | a :: b :: c :: d :: r, _, c2, _, _, _ => simp at c2
          simp [g_number_told, s9, z, hl, c1', c2', ap, h48, st]
      · have c2' : ¬ (x.length : Int) ≤ 3 := by omega
        simp [g_number_told, s9, c1', c2']
    · have c1' : ¬ (1 : Int) ≤ x.length := by omega
      simp [g_number_told, s9, c1']
theorem lleaf_any {x : List Nat} (hl : x.length ≤ 16777216) : g__law_leaf [.v (.str x)] S = .ok (.v (optW (leafT x))) S := by
  have e1 := lname_str (S := S) (x := x)
  unfold leafT
  cases hn : nm x with
  | true =>
    rw [hn] at e1
    simp [g__law_leaf, e1, optW]
  | false =>
    rw [hn] at e1
    have z := lcL_pure (t := tgN 1) (tt := g__law_leaf_t1) (te := dVar 1) (env := wipeE [some (.v (.str x)), none] [1]) (S := S) (fun w => match w with | .str [c] => !decide (c ∈ figs) | _ => true) id (x.map fun c => W.str [c]) (fun w hw => by
      obtain ⟨c, hc, rfl⟩ := List.mem_map.mp hw
      exact ⟨_, rfl, by simp [g__law_leaf_t1, wipeE, figs], fun _ => rfl⟩)
    have z2 : List.map id (List.filter (fun w => match w with | .str [c] => !decide (c ∈ figs) | _ => true) (x.map fun c => W.str [c])) = ((x.filter fun c => !decide (c ∈ figs)).map fun c => [c]).map W.str := by
      simp [List.filter_map, Function.comp_def]
    rw [z2] at z
    generalize hy : ((x.filter fun c => !decide (c ∈ figs)).map fun c => [c]).map W.str = ys at *
    have hye : ys.isEmpty = x.all fun c => decide (c ∈ figs) := by
      rw [← hy, isEmpty_strs, Bool.eq_iff_iff]
      simp
    cases e : numT x with
    | some n =>
      obtain ⟨h1, h2⟩ := numT_some e
      have h3 := numL_3 h1
      have hz : ys.isEmpty = true := by
        rw [hye, ← h2]
        exact List.all_eq_true.mpr fun c hc => by simpa using numL_figs n c hc
      have hne := numL_ne n
      have hlen : ¬ (3 : Int) < x.length := by rw [← h2]; omega
      rw [h2] at hne
      have fi := fIntW_num h1
      rw [h2] at fi
      have h0 : ∀ c, x[0]? = some c → 1 < x.length → c ≠ 48 := fun c hc h1l z => by
        subst z
        rw [← h2] at hc h1l
        have : numL n ≠ [48] := fun z => by rw [z] at h1l; simp at h1l
        have hd : ∀ n, n < 1000 → (numL n).head? = some 48 → numL n = [48] := by decide +kernel
        exact this (hd n (by omega) (by rw [List.head?_eq_getElem?]; exact hc))
      obtain ⟨c, hc⟩ : ∃ c, x[0]? = some c := by
        cases x with
        | nil => exact absurd rfl hne
        | cons c r => exact ⟨c, rfl⟩
      have hi : fIx (.str x) (.int 0) = some (.val (.str [c])) := ix_str (p := 0) hc
      have hlen' : ¬ (3 : Int) < x.length := by omega
      by_cases h1l : 1 < x.length
      · have h48 := h0 c hc h1l
        have h1l' : (1 : Int) < x.length := by omega
        simp [g__law_leaf, e1, hne, hlen', hl, z, hz, h1l', hi, h48, fi, optW]
      · have h1l' : ¬ (1 : Int) < x.length := by omega
        simp [g__law_leaf, e1, hne, hlen', hl, z, hz, h1l', fi, optW]
    | none =>
      have hn := num_not e
      by_cases hne : x = []
      · subst hne
        simp [g__law_leaf, e1, optW]
      · by_cases hlen : 3 < x.length
        · have hlen' : (3 : Int) < x.length := by omega
          simp [g__law_leaf, e1, hne, hlen', optW]
        · have hlen' : ¬ (3 : Int) < x.length := by omega
          cases hz : ys.isEmpty with
          | false => simp [g__law_leaf, e1, hne, hlen', hl, z, hz, optW]
          | true =>
            obtain ⟨c, hc⟩ : ∃ c, x[0]? = some c := by
              cases x with
              | nil => exact absurd rfl hne
              | cons c r => exact ⟨c, rfl⟩
            have hi : fIx (.str x) (.int 0) = some (.val (.str [c])) := ix_str (p := 0) hc
            have hf : ∀ c ∈ x, c ∈ figs := fun c hc => by
              rw [hz] at hye
              simpa using List.all_eq_true.mp hye.symm c hc
            have hp : 1 ≤ x.length := List.length_pos_iff.mpr hne
            have h48 : x ≠ [48] := fun h => hn 0 (by decide) (by rw [h, numL_0])
            have hh : x.head? = some 48 := Classical.byContradiction fun z => by
              obtain ⟨n, h1, h2⟩ := is_num hp (by omega) hf (.inr z)
              exact hn n h1 h2
            have hc48 : c = 48 := by
              rw [List.head?_eq_getElem?, hc] at hh
              exact Option.some.inj hh
            subst hc48
            have h1l : 1 < x.length := Classical.byContradiction fun z => by
              have : x.length = 1 := by omega
              obtain ⟨a, rfl⟩ := List.length_eq_one_iff.mp this
              simp at hh
              subst hh
              exact h48 rfl
            have h1l' : (1 : Int) < x.length := by omega
            simp [g__law_leaf, e1, hne, hlen', hl, z, hz, h1l', hi, optW]
theorem leaf_loop {T post : List Nat} (hp : endw post) : ∀ (x : List Nat) (p n : Nat) (x1 x3 x4 : Option U), T.drop p = x ++ post → (∀ c ∈ x, c ∈ an) → x.length < n →
    whN (dAnd (dT (dBin false (fCmp fun i j => decide (i < j)) (dVar 2) (dCall false fLen (dCons (dVar 0) dNil)))) (dT (dBin false fInO (dBin false fIx (dVar 0) (dVar 2)) (dBin false fAdd (dC c_LETTERS) (dC c_FIGURES))))) g_leaf_at_b1 n [some (.v (.str T)), x1, some (.v (.int p)), x3, x4] S
      = .ok (.nx [some (.v (.str T)), x1, some (.v (.int (p + x.length : Nat))), x3, x4]) S
  | _, _, 0, _, _, _, _, _, h => by omega
  | [], p, n + 1, x1, x3, x4, h, _, _ => by
    have ha : fAdd c_LETTERS c_FIGURES = some (.val (.str an)) := fAdd_str (by decide)
    rw [whN_succ]
    cases e : post with
    | nil =>
      have hl : ¬ p < T.length := fun z => by
        have := congrArg List.length h
        rw [e] at this
        simp at this
        omega
      simp [hl]
    | cons c r =>
      obtain ⟨h1, h2, h3⟩ := drop_at (T := T) (p := p) (c := c) (r := r) (by rw [h, e]; rfl)
      have h4 := hp c r e
      have h5 := ix_str h2
      simp [h1, h5, ha, h4]
  | c :: x, p, n + 1, x1, x3, x4, h, hx, hn => by
    have ha : fAdd c_LETTERS c_FIGURES = some (.val (.str an)) := fAdd_str (by decide)
    obtain ⟨h1, h2, h3⟩ := drop_at (T := T) (p := p) (c := c) (r := x ++ post) h
    have h4 := hx c List.mem_cons_self
    have h5 := ix_str h2
    have ih := leaf_loop hp x (p + 1) n x1 x3 x4 h3 (fun c hc => hx c (List.mem_cons_of_mem _ hc)) (by simp at hn; omega)
    have hb : g_leaf_at_b1 [some (.v (.str T)), x1, some (.v (.int p)), x3, x4] S = .ok (.nx [some (.v (.str T)), x1, some (.v (.int (p + 1 : Nat))), x3, x4]) S := by simp [g_leaf_at_b1]
    rw [whN_succ]
    simp only [dAnd_ap, dT_ap, dBin_ap, dVar_ap, dCall_ap, dCons_ap, dNil_ap, dC_ap, List.getElem?_cons_succ, List.getElem?_cons_zero, Re.bind_ok, dr_v, drs_cons, drs_nil, fLen_str, putO_some, put_val, fCmp_int, h5, ha, in_sign, h4, hb]
    have h1' : (p : Int) < T.length := by omega
    have e9 : p + 1 + x.length = p + (c :: x).length := by simp; omega
    rw [e9] at ih
    simp only [h1', decide_true, if_true, Re.bind_ok, Re.st_ok]
    rw [hb]
    exact ih
theorem leaf_any {T : List Nat} {p : Nat} (hT : T.length < 20000) : g_leaf_at [.v (.str T), .v (.int p)] S = match leafT (runW (T.drop p)) with
    | some t => .ok (.v (.tup [t.w, .int (p + (runW (T.drop p)).length : Nat)])) S
    | none => .ex 2 S := by
  obtain ⟨post, h, hp, ha⟩ := run_is (T.drop p)
  have hl : (runW (T.drop p)).length ≤ T.length := by
    have := congrArg List.length h
    simp at this
    omega
  generalize runW (T.drop p) = x at *
  have e1 : ∀ x1 x3 x4, dWhileN 20000 (dAnd (dT (dBin false (fCmp fun i j => decide (i < j)) (dVar 2) (dCall false fLen (dCons (dVar 0) dNil)))) (dT (dBin false fInO (dBin false fIx (dVar 0) (dVar 2)) (dBin false fAdd (dC c_LETTERS) (dC c_FIGURES))))) g_leaf_at_b1 [some (.v (.str T)), x1, some (.v (.int p)), x3, x4] S = _ := fun x1 x3 x4 => leaf_loop hp x p 20000 x1 x3 x4 h ha (by omega)
  have e2 : cutL T (some (p : Int)) (some ((p + x.length : Nat) : Int)) = x := by
    rw [cut_nat T p _ (by omega), h, show p + x.length - p = x.length by omega, List.take_left]
  have e3 := is_name_str (S := S) (x := x)
  have e4 := told_any (S := S) (x := x) (by omega)
  simp only [g_leaf_at, fnD_ap, dSeq_ap, List.map_cons, List.map_nil, List.length_cons, List.length_nil, List.replicate, List.cons_append, List.nil_append, dAsg_ap, dVar_ap, List.getElem?_cons_succ, List.getElem?_cons_zero, Re.st_ok, List.set_cons_succ, List.set_cons_zero, Rs.bind_nx, e1, dSl_ap, dPart_ap, Re.bind_ok, dr_v, fSl_str, e2, putO_some, put_val]
  unfold leafT
  cases hn : nm x with
  | true =>
    rw [hn] at e3
    simp [e3]
  | false =>
    rw [hn] at e3
    cases e : numT x with
    | none =>
      rw [e] at e4
      simp [e3, e4, c_MOST_NUMBER, Bel.isNon]
    | some n =>
      rw [e] at e4
      simp [e3, e4, c_MOST_NUMBER, Bel.isNon]
theorem words_look (x : List Nat) : d_WORDS.lookup x = (sgT x).map W.str := by
  unfold d_WORDS sgT
  by_cases h1 : x = [32, 43, 32]
  · subst h1; rfl
  by_cases h2 : x = [32, 60, 32]
  · subst h2; rfl
  by_cases h3 : x = [32, 61, 32]
  · subst h3; rfl
  have b : ∀ y : List Nat, x ≠ y → (x == y) = false := fun y h => beq_false_of_ne h
  simp only [List.lookup, b _ h1, b _ h2, b _ h3, if_neg h1, if_neg h2, if_neg h3, Option.map_none]
def rdW (p : Nat) : Option (Trm × List Nat) → Store → Re U
  | some (t, _), S => .ok (.v (.tup [t.w, .int (p + t.txt.length : Nat)])) S
  | none, S => .ex 2 S
theorem at_any : ∀ (d r : Nat) (T : List Nat) (p : Nat) (i : Int), d + 1 ≤ r → d ≤ 6 → i = 7 - d → T.length < 20000 → g_term_at r [.v (.str T), .v (.int p), .v (.int i)] S = rdW p (rd d (T.drop p)) S
  | _, 0, _, _, _, h, _, _, _ => by omega
  | 0, r + 1, T, p, i, hr, hd, hi, hT => by
    have h6 : (6 : Int) < i := by omega
    simp [g_term_at, c_MOST_WITHIN, h6, rd, rdW]
  | d + 1, r + 1, T, p, i, hr, hd, hi, hT => by
    have h6 : ¬ (6 : Int) < i := by omega
    have e1 : cutL T (some (p : Int)) (some ((p : Int) + 1)) = (T.drop p).take 1 := by
      have := cut_nat T p (p + 1) (by omega)
      rw [show p + 1 - p = 1 by omega] at this
      exact this
    by_cases e3 : (T.drop p).take 1 = [40]
    · have c1 : (p : Int) + 1 = ((p + 1 : Nat) : Int) := by omega
      have z1 : ∀ x3 x4 x5 x6 x7 : Option U, dIfS (dT (dBin false (fCmp fun i j => decide (j < i)) (dVar 2) (dC c_MOST_WITHIN))) (dRaise 2) dNext [some (.v (.str T)), some (.v (.int p)), some (.v (.int i)), x3, x4, x5, x6, x7] S = .ok (.nx [some (.v (.str T)), some (.v (.int p)), some (.v (.int i)), x3, x4, x5, x6, x7]) S := fun _ _ _ _ _ => by simp [c_MOST_WITHIN, h6]
      have z2 : ∀ x3 x4 x5 x6 x7 : Option U, dIfS (dT (dBin false fNe (dSl false (dVar 0) (dPart (dVar 1)) (dPart (dBin false fAdd (dVar 1) (dC (.int 1))))) (dC (.str [40])))) (dRet (dFn g_leaf_at 2 (dCons (dVar 0) (dCons (dVar 1) dNil)))) dNext [some (.v (.str T)), some (.v (.int p)), some (.v (.int i)), x3, x4, x5, x6, x7] S = .ok (.nx [some (.v (.str T)), some (.v (.int p)), some (.v (.int i)), x3, x4, x5, x6, x7]) S := fun _ _ _ _ _ => by simp [e1, e3]
      have e4 := at_any d r T (p + 1) (i + 1) (by omega) (by omega) (by omega) hT
      have dr1 : (T.drop p).drop 1 = T.drop (p + 1) := by rw [List.drop_drop]
      rw [rd, if_pos e3, dr1]
      simp only [g_term_at, fnD_ap, dSeq_ap, List.map_cons, List.map_nil, List.length_cons, List.length_nil, Nat.reduceAdd, Nat.reduceSub, List.replicate, List.cons_append, List.nil_append, z1, z2, Rs.bind_nx]
      have hp4 : ∀ (s : List Nat) (a b : Trm), p + (Trm.bin s a b).txt.length = p + 1 + a.txt.length + 3 + b.txt.length + 1 := fun s a b => by simp [Trm.txt, sg_len]; omega
      clear dr1 e1 z1 z2
      generalize p + 1 = q at *
      cases ea : rd d (T.drop q) with
      | none =>
        rw [ea] at e4
        simp [c1, e4, rdW]
      | some q =>
        obtain ⟨a, za⟩ := q
        rw [ea] at e4
        obtain ⟨_, ya⟩ := rd_sound _ _ _ _ ea
        have hza : za = T.drop (q + a.txt.length) := (drop_more ya).symm
        simp only [rdW] at e4
        have z3 : ∀ x3 x4 x5 x6 x7 : Option U, dAsgT (tgT 2 (tgs1 (tgN 4) (tgs1 (tgN 5) tgs0))) (dFn (g_term_at r) 3 (dCons (dVar 0) (dCons (dBin false fAdd (dVar 1) (dC (.int 1))) (dCons (dBin false fAdd (dVar 2) (dC (.int 1))) dNil)))) [some (.v (.str T)), some (.v (.int p)), some (.v (.int i)), x3, x4, x5, x6, x7] S = .ok (.nx [some (.v (.str T)), some (.v (.int p)), some (.v (.int i)), x3, some (.v a.w), some (.v (.int (q + a.txt.length : Nat))), x6, x7]) S := fun _ _ _ _ _ => by
          simp [c1, e4]
        have e6 : cutL T (some ((q + a.txt.length : Nat) : Int)) (some ((q + a.txt.length + 3 : Nat) : Int)) = za.take 3 := by
          rw [cut_nat T _ _ (by omega), hza, show q + a.txt.length + 3 - (q + a.txt.length) = 3 by omega]
        have e5 := at_any d r T (q + a.txt.length + 3) (i + 1) (by omega) (by omega) (by omega) hT
        have hz3 : za.drop 3 = T.drop (q + a.txt.length + 3) := by rw [hza, List.drop_drop]
        rw [← hz3] at e5
        have c2 : ((q + a.txt.length : Nat) : Int) + 3 = ((q + a.txt.length + 3 : Nat) : Int) := by omega
        have hp4 := fun s => hp4 s a
        generalize hm2 : q + a.txt.length + 3 = m2 at *
        generalize q + a.txt.length = m1 at *
        have z4 : ∀ x3 x6 x7 : Option U, dAsg 3 (dSl false (dVar 0) (dPart (dVar 5)) (dPart (dBin false fAdd (dVar 5) (dC (.int 3))))) [some (.v (.str T)), some (.v (.int p)), some (.v (.int i)), x3, some (.v a.w), some (.v (.int m1)), x6, x7] S = .ok (.nx [some (.v (.str T)), some (.v (.int p)), some (.v (.int i)), some (.v (.str (za.take 3))), some (.v a.w), some (.v (.int m1)), x6, x7]) S := fun _ _ _ => by
          simp [c2, e6]
        simp only [z3, z4, dSeq_ap, Rs.bind_nx]
        have wl := words_look (za.take 3)
        cases es : sgT (za.take 3) with
        | none =>
          rw [es] at wl
          simp [c_WORDS, wl, rdW, es]
        | some s =>
          rw [es] at wl
          simp only [Option.map_some] at wl
          have z5 : ∀ x6 x7 : Option U, dIfS (dT (dBin false fNotInO (dVar 3) (dC c_WORDS))) (dRaise 2) dNext [some (.v (.str T)), some (.v (.int p)), some (.v (.int i)), some (.v (.str (za.take 3))), some (.v a.w), some (.v (.int m1)), x6, x7] S = .ok (.nx [some (.v (.str T)), some (.v (.int p)), some (.v (.int i)), some (.v (.str (za.take 3))), some (.v a.w), some (.v (.int m1)), x6, x7]) S := fun _ _ => by
            simp [c_WORDS, wl]
          simp only [z5, dSeq_ap, Rs.bind_nx]
          cases eb : rd d (za.drop 3) with
          | none =>
            rw [eb] at e5
            simp [c2, e5, rdW, es, eb]
          | some q =>
            obtain ⟨b, zb⟩ := q
            rw [eb] at e5
            simp only [rdW] at e5
            obtain ⟨_, yb⟩ := rd_sound _ _ _ _ eb
            rw [hz3] at yb
            have hzb : zb = T.drop (m2 + b.txt.length) := (drop_more yb).symm
            have z6 : ∀ x6 x7 : Option U, dAsgT (tgT 2 (tgs1 (tgN 6) (tgs1 (tgN 7) tgs0))) (dFn (g_term_at r) 3 (dCons (dVar 0) (dCons (dBin false fAdd (dVar 5) (dC (.int 3))) (dCons (dBin false fAdd (dVar 2) (dC (.int 1))) dNil)))) [some (.v (.str T)), some (.v (.int p)), some (.v (.int i)), some (.v (.str (za.take 3))), some (.v a.w), some (.v (.int m1)), x6, x7] S = .ok (.nx [some (.v (.str T)), some (.v (.int p)), some (.v (.int i)), some (.v (.str (za.take 3))), some (.v a.w), some (.v (.int m1)), some (.v b.w), some (.v (.int (m2 + b.txt.length : Nat)))]) S := fun _ _ => by
              simp [c2, e5]
            have e7 : cutL T (some ((m2 + b.txt.length : Nat) : Int)) (some ((m2 + b.txt.length + 1 : Nat) : Int)) = zb.take 1 := by
              rw [cut_nat T _ _ (by omega), hzb, show m2 + b.txt.length + 1 - (m2 + b.txt.length) = 1 by omega]
            have c3 : ((m2 + b.txt.length : Nat) : Int) + 1 = ((m2 + b.txt.length + 1 : Nat) : Int) := by omega
            have hp4' := hp4 s b
            simp only [z6, dSeq_ap, Rs.bind_nx, es, eb]
            generalize m2 + b.txt.length + 1 = m4 at *
            generalize m2 + b.txt.length = m3 at *
            by_cases h41 : zb.take 1 = [41]
            · rw [if_pos h41]
              simp [c3, e7, h41, c_WORDS, wl, rdW, hp4']
            · rw [if_neg h41]
              simp [c3, e7, h41, rdW]
    · have e2 := leaf_any (S := S) (T := T) (p := p) hT
      rw [rd, if_neg e3]
      cases el : leafT (runW (T.drop p)) with
      | none =>
        rw [el] at e2
        simp [g_term_at, c_MOST_WITHIN, h6, e1, e3, e2, rdW]
      | some t =>
        rw [el] at e2
        obtain ⟨h1, _⟩ := leafT_some el
        rw [h1] at e2
        simp [g_term_at, c_MOST_WITHIN, h6, e1, e3, e2, rdW]
theorem read_any {T : List Nat} (hT : T.length < 20000) : g_read_term [.v (.str T)] S = match rdAll T with
    | some t => .ok (.v t.w) S
    | none => .ex 2 S := by
  have e := at_any (S := S) 6 8 T 0 1 (by decide) (by decide) (by decide) hT
  rw [List.drop_zero] at e
  have e' : g_term_at 8 [.v (.str T), .v (.int 0), .v (.int 1)] S = _ := e
  unfold rdAll
  cases er : rd 6 T with
  | none =>
    rw [er] at e'
    simp [g_read_term, e', rdW]
  | some q =>
    obtain ⟨t, z⟩ := q
    rw [er] at e'
    simp only [rdW, Nat.zero_add] at e'
    obtain ⟨_, y⟩ := rd_sound _ _ _ _ er
    cases z with
    | nil =>
      rw [List.append_nil] at y
      have hl : ¬ ((t.txt.length : Int) < T.length) := by rw [y]; omega
      simp [g_read_term, e', hl]
    | cons c r =>
      have hl : (t.txt.length : Int) < T.length := by
        have := congrArg List.length y
        simp at this
        omega
      simp [g_read_term, e', hl]
theorem read_not {w : W} (h : neW w = true) (hs : isStr w = false) : g_read_term [.v w] S = .ex 2 S := by
  simp [g_read_term, hs, ne_exc h]
end
end Bel

/-! What the law's reader tells. -/
namespace Bel
open PySem PySem.Spec PyProof.Rows L2 TL
theorem cut_to (T : List Nat) (p : Nat) : cutL T none (some (p : Int)) = T.take p := by
  unfold cutL
  rw [HT.sIx_nat, show HT.sIx T.length 0 none = 0 from rfl, Nat.sub_zero, List.drop_zero]
  by_cases hp : p ≤ T.length
  · rw [Nat.min_eq_left hp]
  · rw [Nat.min_eq_right (by omega), List.take_of_length_le (Nat.le_refl _), List.take_of_length_le (by omega)]
theorem cut_from (T : List Nat) (p : Nat) : cutL T (some (p : Int)) none = T.drop p := by
  unfold cutL
  rw [HT.sIx_nat, show HT.sIx T.length T.length none = T.length from rfl]
  by_cases hp : p ≤ T.length
  · rw [Nat.min_eq_left hp, List.take_of_length_le (by simp)]
  · rw [Nat.min_eq_right (by omega), Nat.sub_self, List.take_zero, List.drop_of_length_le (by omega)]
theorem sg_in (x : List Nat) : fInO (.str x) (.tup [.str [32, 43, 32], .str [32, 60, 32], .str [32, 61, 32]]) = some (.val (.bl (sgT x).isSome)) := by
  have := in_tup [[32, 43, 32], [32, 60, 32], [32, 61, 32]] x
  simp only [List.map_cons, List.map_nil] at this
  rw [this]
  congr 3
  unfold sgT
  by_cases h1 : x = [32, 43, 32]
  · subst h1; rfl
  by_cases h2 : x = [32, 60, 32]
  · subst h2; rfl
  by_cases h3 : x = [32, 61, 32]
  · subst h3; rfl
  simp [h1, h2, h3]
theorem lev_is (lv : Int) (c : Nat) : lev lv c = lv + b2n (decide (c = 40)) - b2n (decide (c = 41)) := by
  unfold lev
  by_cases h1 : c = 40
  · subst h1; rfl
  by_cases h2 : c = 41
  · subst h2; rfl
  simp [h1, h2, b2n]
theorem cuts_loop {S : Store} {T : List Nat} : ∀ (y : List Nat) (i : Nat) (lv : Int) (L : List W) (x3 x4 : Option U), T.drop i = y → L.length + y.length < 16777216 →
    ∃ lv' x3' x4', dLoop (tgT 2 (tgs1 (tgN 3) (tgs1 (tgN 4) tgs0))) g__law_cuts_b1 (enumW i y) [some (.v (.str T)), some (.o S.length), some (.v (.int lv)), x3, x4] (S ++ [.lst L])
      = .ok (.nx [some (.v (.str T)), some (.o S.length), some (.v (.int lv')), x3', x4']) (S ++ [.lst (L ++ (cutsL i lv y).map fun (p : Nat) => W.int (p : Int))])
  | [], i, lv, L, x3, x4, _, _ => ⟨lv, x3, x4, by simp [enumW, cutsL]⟩
  | c :: y, i, lv, L, x3, x4, h, hl => by
    obtain ⟨h1, h2, h3⟩ := drop_at h
    have e1 : cutL T (some (i : Int)) (some ((i : Int) + 3)) = (c :: y).take 3 := by
      have := cut_nat T i (i + 3) (by omega)
      rw [show i + 3 - i = 3 by omega, h] at this
      exact this
    have st : (S ++ [Ob.lst L])[S.length]? = some (.lst L) := by simp
    have se : ∀ q, (S ++ [Ob.lst L]).set S.length (.lst q) = S ++ [Ob.lst q] := fun q => by simp
    have l1 : L.length < 16777216 := by omega
    have b1 : ∀ x3 : Option U, dAsg 2 (dBin false fSub (dBin false fAdd (dVar 2) (dCall false fIntW (dCons (dBin false fEq (dVar 4) (dC (.str [40]))) dNil))) (dCall false fIntW (dCons (dBin false fEq (dVar 4) (dC (.str [41]))) dNil))) [some (.v (.str T)), some (.o S.length), some (.v (.int lv)), x3, some (.v (.str [c]))] (S ++ [.lst L])
        = .ok (.nx [some (.v (.str T)), some (.o S.length), some (.v (.int (lev lv c))), x3, some (.v (.str [c]))]) (S ++ [.lst L]) := fun x3 => by
      rw [lev_is]
      simp
    have e2 := sg_in ((c :: y).take 3)
    rw [enumW, dLoop_cons]
    simp only [tgT_ap, tgs1_ap, tgs0_ap, tgN_ap, List.length_cons, List.length_nil, Nat.reduceAdd, if_true, Option.bind_some, List.set_cons_succ, List.set_cons_zero]
    rw [cutsL]
    generalize (c :: y).take 3 = tk at *
    generalize lev lv c = l at *
    by_cases hc : l = 0 ∧ (sgT tk).isSome = true
    · obtain ⟨rfl, hc2⟩ := hc
      rw [if_pos ⟨rfl, hc2⟩]
      obtain ⟨lv', x3', x4', ih⟩ := cuts_loop (S := S) y (i + 1) 0 (L ++ [.int (i : Nat)]) (some (.v (.int (i : Nat)))) (some (.v (.str [c]))) h3 (by simp at hl ⊢; omega)
      refine ⟨lv', x3', x4', ?_⟩
      have z : (dIfS (dAnd (dT (dBin false fEq (dVar 2) (dC (.int 0)))) (dT (dBin false fInO (dSl false (dVar 0) (dPart (dVar 3)) (dPart (dBin false fAdd (dVar 3) (dC (.int 3))))) (dDisp false .nt (dCons (dC (.str [32, 43, 32])) (dCons (dC (.str [32, 60, 32])) (dCons (dC (.str [32, 61, 32])) dNil))))))) (dDrop (dMut fAppend (dVar 1) (dCons (dVar 3) dNil))) dNext) [some (.v (.str T)), some (.o S.length), some (.v (.int 0)), some (.v (.int (i : Nat))), some (.v (.str [c]))] (S ++ [.lst L])
          = .ok (.nx [some (.v (.str T)), some (.o S.length), some (.v (.int 0)), some (.v (.int (i : Nat))), some (.v (.str [c]))]) (S ++ [.lst (L ++ [.int (i : Nat)])]) := by
        simp [e1, e2, hc2, fAppend, l1]
      have hb := (by unfold g__law_cuts_b1; rw [dSeq_ap, b1, Rs.bind_nx] : g__law_cuts_b1 [some (.v (.str T)), some (.o S.length), some (.v (.int lv)), some (.v (.int (i : Nat))), some (.v (.str [c]))] (S ++ [.lst L]) = _)
      rw [hb, z]
      simp only [ih, List.map_append, List.map_cons, List.map_nil, List.append_assoc]
    · rw [if_neg hc]
      obtain ⟨lv', x3', x4', ih⟩ := cuts_loop (S := S) y (i + 1) l L (some (.v (.int (i : Nat)))) (some (.v (.str [c]))) h3 (by simp at hl ⊢; omega)
      refine ⟨lv', x3', x4', ?_⟩
      have z : (dIfS (dAnd (dT (dBin false fEq (dVar 2) (dC (.int 0)))) (dT (dBin false fInO (dSl false (dVar 0) (dPart (dVar 3)) (dPart (dBin false fAdd (dVar 3) (dC (.int 3))))) (dDisp false .nt (dCons (dC (.str [32, 43, 32])) (dCons (dC (.str [32, 60, 32])) (dCons (dC (.str [32, 61, 32])) dNil))))))) (dDrop (dMut fAppend (dVar 1) (dCons (dVar 3) dNil))) dNext) [some (.v (.str T)), some (.o S.length), some (.v (.int l)), some (.v (.int (i : Nat))), some (.v (.str [c]))] (S ++ [.lst L])
          = .ok (.nx [some (.v (.str T)), some (.o S.length), some (.v (.int l)), some (.v (.int (i : Nat))), some (.v (.str [c]))]) (S ++ [.lst L]) := by
        by_cases h0 : l = 0
        · have hs : (sgT tk).isSome = false := by
            cases e : (sgT tk).isSome with
            | false => rfl
            | true => exact absurd ⟨h0, e⟩ hc
          rw [hs] at e2
          simp [e1, e2, h0]
        · simp [h0]
      have hb := (by unfold g__law_cuts_b1; rw [dSeq_ap, b1, Rs.bind_nx] : g__law_cuts_b1 [some (.v (.str T)), some (.o S.length), some (.v (.int lv)), some (.v (.int (i : Nat))), some (.v (.str [c]))] (S ++ [.lst L]) = _)
      rw [hb, z]
      simp only [ih, List.nil_append]
theorem cuts_w {S : Store} {x : List Nat} (hl : x.length < 16777216) : g__law_cuts [.v (.str x)] S = .ok (.o S.length) (S ++ [.lst ((cutsL 0 0 x).map fun (p : Nat) => W.int (p : Int))]) := by
  obtain ⟨lv', x3', x4', e⟩ := cuts_loop (S := S) (T := x) x 0 0 [] none none rfl (by simpa using hl)
  rw [List.nil_append] at e
  simp [g__law_cuts, e, fin_own]
theorem isNon_w (t : Trm) : Bel.isNon t.w = false := by cases t <;> rfl
theorem sgC {s x : List Nat} {p : Nat} (h : sgT ((x.drop p).take 3) = some s) : ∃ c, x[p + 1]? = some c ∧ fIx (.dct (mrgW [] [(.str [43], .str tPlus), (.str [60], .str tLess), (.str [61], .str tSame)])) (.str [c]) = some (.val (.str s)) := by
  obtain ⟨hs, e⟩ := sgT_some h
  have g : ∀ c, (x.drop p).take 3 = [32, c, 32] → x[p + 1]? = some c := fun c h => by
    have h1 : ((x.drop p).take 3)[1]? = some c := by rw [h]; rfl
    rw [List.getElem?_take, if_pos (by decide), List.getElem?_drop] at h1
    exact h1
  rcases signw_3 hs with rfl | rfl | rfl
  · exact ⟨43, g _ e, rfl⟩
  · exact ⟨60, g _ e, rfl⟩
  · exact ⟨61, g _ e, rfl⟩
theorem lread_w : ∀ (d r : Nat) (S : Store) (x : List Nat) (i : Int), d + 1 ≤ r → d ≤ 6 → i = 7 - d → x.length < 16000000 → g__law_read r [.v (.str x), .v (.int i)] S = .ok (.v (optW (lrd d x))) S
  | _, 0, _, _, _, h, _, _, _ => by omega
  | 0, r + 1, S, x, i, hr, hd, hi, hx => by
    have h6 : (6 : Int) < i := by omega
    simp [g__law_read, h6, lrd, optW]
  | d + 1, r + 1, S, x, i, hr, hd, hi, hx => by
    have h6 : ¬ (6 : Int) < i := by omega
    have e1 : cutL x none (some 1) = x.take 1 := cut_to x 1
    rw [lrd]
    by_cases h40 : x.take 1 = [40]
    · rw [if_pos h40]
      have ly := (cut_sub x (some 1) (some (-1))).2
      have ec := cuts_w (S := S) (x := cutL x (some 1) (some (-1))) (by omega)
      have hm := cuts_mem (cutL x (some 1) (some (-1))) 0 0
      generalize hy : cutL x (some 1) (some (-1)) = y at *
      have z1 : ∀ x2 x3 x4 x5 x6 : Option U, dIfS (dT (dBin false (fCmp fun i j => decide (j < i)) (dVar 1) (dC (.int 6)))) (dRet (dC .non)) dNext [some (.v (.str x)), some (.v (.int i)), x2, x3, x4, x5, x6] S = .ok (.nx [some (.v (.str x)), some (.v (.int i)), x2, x3, x4, x5, x6]) S := fun _ _ _ _ _ => by simp [h6]
      have z2 : ∀ x2 x3 x4 x5 x6 : Option U, dIfS (dT (dBin false fNe (dSl false (dVar 0) dNoPart (dPart (dC (.int 1)))) (dC (.str [40])))) (dRet (dFn g__law_leaf 1 (dCons (dVar 0) dNil))) dNext [some (.v (.str x)), some (.v (.int i)), x2, x3, x4, x5, x6] S = .ok (.nx [some (.v (.str x)), some (.v (.int i)), x2, x3, x4, x5, x6]) S := fun _ _ _ _ _ => by simp [e1, h40]
      have z3 : ∀ x2 x3 x4 x5 x6 : Option U, dAsg 2 (dSl false (dVar 0) (dPart (dC (.int 1))) (dPart (dNeg (dC (.int 1))))) [some (.v (.str x)), some (.v (.int i)), x2, x3, x4, x5, x6] S = .ok (.nx [some (.v (.str x)), some (.v (.int i)), some (.v (.str y)), x3, x4, x5, x6]) S := fun _ _ _ _ _ => by simp [hy]
      generalize hcs : cutsL 0 0 y = cs at *
      have hd : dr (S ++ [Ob.lst (cs.map fun (p : Nat) => W.int (p : Int))]) (.o S.length) = some (.lst (cs.map fun (p : Nat) => W.int (p : Int))) := by simp [dr]
      have z4 : ∀ x3 x4 x5 x6 : Option U, dAsg 3 (dFn g__law_cuts 1 (dCons (dVar 2) dNil)) [some (.v (.str x)), some (.v (.int i)), some (.v (.str y)), x3, x4, x5, x6] S = .ok (.nx [some (.v (.str x)), some (.v (.int i)), some (.v (.str y)), some (.o S.length), x4, x5, x6]) (S ++ [Ob.lst (cs.map fun (p : Nat) => W.int (p : Int))]) := fun _ _ _ _ => by simp [ec]
      simp only [g__law_read, fnD_ap, dSeq_ap, List.map_cons, List.map_nil, List.length_cons, List.length_nil, Nat.reduceAdd, Nat.reduceSub, List.replicate, List.cons_append, List.nil_append, z1, z2, z3, z4, Rs.bind_nx]
      clear z1 z2 z3 z4 ec
      have tk : ∀ o, List.take S.length (S ++ [o]) = S := fun o => by simp
      generalize hS1 : S ++ [Ob.lst (cs.map fun (p : Nat) => W.int (p : Int))] = S1 at *
      have tk1 : List.take S.length S1 = S := by rw [← hS1]; simp
      by_cases h41 : cutL x (some (-1)) none = [41]
      · rw [if_pos h41]
        match cs, hd, hm with
        | [], hd, _ => simp [h41, hd, tk1, optW]
        | p :: q :: r, hd, _ =>
          have : ¬ ((r.length : Int) + 1 + 1 = 1) := by omega
          simp [h41, hd, tk1, optW, this]
        | [p], hd, hm =>
          obtain ⟨_, hp, hs⟩ := hm p (by simp)
          rw [Nat.sub_zero] at hs
          have z5 : ∀ x4 x5 x6 : Option U, dIfS (dOr (dT (dBin false fNe (dSl false (dVar 0) (dPart (dNeg (dC (.int 1)))) dNoPart) (dC (.str [41])))) (dT (dBin false fNe (dCall false fLen (dCons (dVar 3) dNil)) (dC (.int 1))))) (dRet (dC .non)) dNext [some (.v (.str x)), some (.v (.int i)), some (.v (.str y)), some (.o S.length), x4, x5, x6] S1 = .ok (.nx [some (.v (.str x)), some (.v (.int i)), some (.v (.str y)), some (.o S.length), x4, x5, x6]) S1 := fun _ _ _ => by simp [h41, hd]
          have z6 : ∀ x4 x5 x6 : Option U, dAsg 4 (dBin false fIx (dVar 3) (dC (.int 0))) [some (.v (.str x)), some (.v (.int i)), some (.v (.str y)), some (.o S.length), x4, x5, x6] S1 = .ok (.nx [some (.v (.str x)), some (.v (.int i)), some (.v (.str y)), some (.o S.length), some (.v (.int (p : Nat))), x5, x6]) S1 := fun _ _ _ => by simp [hd]
          have ea := lread_w d r S1 (y.take p) (i + 1) (by omega) (by omega) (by omega) (by rw [List.length_take]; omega)
          have eb := lread_w d r S1 (y.drop (p + 3)) (i + 1) (by omega) (by omega) (by omega) (by rw [List.length_drop]; omega)
          have c1 := cut_to y p
          have c2 := cut_from y (p + 3)
          have c3 : (p : Int) + 3 = ((p + 3 : Nat) : Int) := by omega
          rw [← c3] at c2
          have z7 : ∀ x5 x6 : Option U, dPar 5 6 (dCons (dFn (g__law_read r) 2 (dCons (dSl false (dVar 2) dNoPart (dPart (dVar 4))) (dCons (dBin false fAdd (dVar 1) (dC (.int 1))) dNil))) (dCons (dFn (g__law_read r) 2 (dCons (dSl false (dVar 2) (dPart (dBin false fAdd (dVar 4) (dC (.int 3)))) dNoPart) (dCons (dBin false fAdd (dVar 1) (dC (.int 1))) dNil))) dNil)) [some (.v (.str x)), some (.v (.int i)), some (.v (.str y)), some (.o S.length), some (.v (.int (p : Nat))), x5, x6] S1 = .ok (.nx [some (.v (.str x)), some (.v (.int i)), some (.v (.str y)), some (.o S.length), some (.v (.int (p : Nat))), some (.v (optW (lrd d (y.take p)))), some (.v (optW (lrd d (y.drop (p + 3)))))]) S1 := fun _ _ => by
            simp [c1, c2, ea, eb]
          simp only [z5, z6, z7, dSeq_ap, Rs.bind_nx]
          cases la : lrd d (y.take p) with
          | none => simp [optW, tk1, Bel.isNon]
          | some a =>
            cases lb : lrd d (y.drop (p + 3)) with
            | none => simp [optW, tk1, isNon_w, Bel.isNon]
            | some b =>
              cases es : sgT ((y.drop p).take 3) with
              | none => rw [es] at hs; cases hs
              | some s =>
                obtain ⟨c, g1, g2⟩ := sgC es
                have g3 := ix_str g1
                have c4 : ((p + 1 : Nat) : Int) = (p : Int) + 1 := by omega
                rw [c4] at g3
                simp [optW, tk1, isNon_w, g3, g2, es]
      · rw [if_neg h41]
        simp [h41, tk1, optW]
    · have e2 := lleaf_any (S := S) (x := x) (by omega)
      rw [if_neg h40]
      simp [g__law_read, h6, e1, h40, e2]
end Bel

/-! Refusals told by their class; terms shown in a list. -/
namespace Bel
open PySem PySem.Spec PyProof.Rows L2 TL
theorem pk_ne {L : List W} {i : Int} (h : ∀ w ∈ L, neW w = true) : neW (pk L i) = true := by
  unfold pk
  cases e : L[i.toNat]? with
  | none => simp
  | some w => simpa using h w (List.mem_of_getElem? e)
section
variable {S : Store}
abbrev noTextW : List Nat := [78, 111, 84, 101, 120, 116]
abbrev noTermW : List Nat := [78, 111, 84, 101, 114, 109]
theorem errs0 : errIs 0 0 = true ∧ errIs 1 0 = false ∧ errIs 2 0 = false ∧ errIs 3 0 = false ∧ errIs 4 0 = false ∧ errIs 5 0 = false ∧ errIs 6 0 = false ∧ errIs 7 0 = false ∧ errIs 8 0 = false := by decide +kernel
theorem errs2 : errIs 0 2 = false ∧ errIs 1 2 = false ∧ errIs 2 2 = true ∧ errIs 3 2 = false ∧ errIs 4 2 = false ∧ errIs 5 2 = false ∧ errIs 6 2 = false ∧ errIs 7 2 = false ∧ errIs 8 2 = false := by decide +kernel
theorem cnt0 : fCountM (.lst [.bl true, .bl false, .bl false, .bl false, .bl false, .bl false, .bl false, .bl false, .bl false]) [.bl true] = some (.val (.int 1)) := by
  simp [fCountM, isFlat, eqD, toD, PyData.eqv]
theorem idx0 : fIndexM (.lst [.bl true, .bl false, .bl false, .bl false, .bl false, .bl false, .bl false, .bl false, .bl false]) [.bl true] = some (.val (.int 0)) := by
  simp [fIndexM, isFlat, eqD, toD, PyData.eqv, List.findIdx?_cons]
theorem cnt2 : fCountM (.lst [.bl false, .bl false, .bl true, .bl false, .bl false, .bl false, .bl false, .bl false, .bl false]) [.bl true] = some (.val (.int 1)) := by
  simp [fCountM, isFlat, eqD, toD, PyData.eqv]
theorem idx2 : fIndexM (.lst [.bl false, .bl false, .bl true, .bl false, .bl false, .bl false, .bl false, .bl false, .bl false]) [.bl true] = some (.val (.int 2)) := by
  simp [fIndexM, isFlat, eqD, toD, PyData.eqv, List.findIdx?_cons]
theorem app_is {l : List W} {w : W} (h : l.length < 16777216) : fAppend l [w] = some (l ++ [w], .non) := by
  simp [fAppend]; omega
theorem gclass0 : g__law_class [.v (.exc 0)] S = .ok (.v (.str noTermW)) S := by
  obtain ⟨h0, h1, h2, h3, h4, h5, h6, h7, h8⟩ := errs0
  simp [g__law_class, h0, h1, h2, h3, h4, h5, h6, h7, h8, cnt0, idx0, fAdd_lst, dr, app_is]
theorem ix2_lst {a b c : W} {l : List W} : fIx (.lst (a :: b :: c :: l)) (.int 2) = some (.val c) := by
  rw [ix_pk (by decide) (by simp; omega)]; rfl
theorem gclass2 : g__law_class [.v (.exc 2)] S = .ok (.v (.str noTextW)) S := by
  obtain ⟨h0, h1, h2, h3, h4, h5, h6, h7, h8⟩ := errs2
  simp [g__law_class, h0, h1, h2, h3, h4, h5, h6, h7, h8, cnt2, idx2, ix2_lst, fAdd_lst, dr, app_is]
theorem lb1 : (Str.ofString "[").cps.toList = [91] := rfl
theorem lb2 : (Str.ofString "]").cps.toList = [93] := rfl
theorem shown_l1 (a : W) : shownL (.lst [a]) = 91 :: (shownL a ++ [93]) := by
  unfold shownL
  simp only [toD, toDs, PyData.shown_list, PyData.shownAll_cons, PyData.shownAll_nil, Str.join, tl_app, lb1, lb2]
  simp only [List.cons_append, List.nil_append]
theorem repr_l1 {t : Trm} (h : t.ok 6) : fRepr [.lst [t.w]] = some (.val (.str (shownL (.lst [t.w])))) := by
  obtain ⟨h1, h2⟩ := show_ok (m := 63) h (by decide)
  obtain ⟨h3, h4⟩ := shown_len h
  have h5 := sz_ok h
  have s1 : shp 64 (.lst [t.w]) = true := by simp [shp, shps, h1]
  have s2 : (toD (.lst [t.w])).showable = true := by simp [toD, toDs, PyData.showable, PyData.showableAll, h2]
  have h6 : (shownL (.lst [t.w])).length ≤ 16777216 := by rw [shown_l1]; simp; omega
  have h7 : (shownL (.lst [t.w])).all okCp = true := List.all_eq_true.mpr fun c hc => by
    rw [shown_l1] at hc
    simp only [List.mem_cons, List.mem_append, List.not_mem_nil, or_false] at hc
    rcases hc with rfl | h | rfl <;> first | rfl | exact h4 _ h
  have h8 : isSq (.lst [t.w]) = true := rfl
  simp only [fRepr, h8, s1, s2, h6, h7, and_self, if_true]
theorem lrd_ok {x : List Nat} {t : Trm} (h : lrd 6 x = some t) : t.ok 6 := ((lrd_iff 6 x t).mp h).1
/-- a text told many times -/
def rp (x : List Nat) (k : Nat) : List Nat := (List.replicate k x).flatten
theorem rp_len (x : List Nat) (k : Nat) : (rp x k).length = x.length * k := rep_len x k
theorem fMulS_rp {x : List Nat} {k : Int} (h1 : 2 ≤ k) (h2 : k ≤ 100000) (h3 : x.length ≠ 0) (h4 : x.length * k.toNat ≤ 16777216) : fMulS (.str x) (.int k) = some (.val (.str (rp x k.toNat))) := fMulS_is h1 h2 h3 h4
theorem most_is {ns : List Int} {m : Int} (h0 : 0 ≤ m) {x : List (Option U)} {R : Store} : dBin false fAdd (dCall false fMin2 (dCons (dCall false fLen (dCons (dVar 0) dNil)) (dCons (dC (.int m)) dNil))) (dC (.int 1)) (some (.o 0) :: x) (.scr (ns.map W.int) :: R) = .ok (.v (.int ((min ns.length m.toNat : Nat) + 1))) (.scr (ns.map W.int) :: R) := by
  have hmin : fMin2 [.int ns.length, .int m] = some (.val (.int ((min ns.length m.toNat : Nat) : Int))) := by
    unfold fMin2
    by_cases h : m < ns.length
    · have : min ns.length m.toNat = m.toNat := by omega
      simp [h, this]; omega
    · have : min ns.length m.toNat = ns.length := by omega
      simp [h, this]
  have hd : dr (.scr (ns.map W.int) :: R) (.o 0) = some (.lst (ns.map W.int)) := rfl
  simp [hd, hmin]
/-- names drawn -/
theorem names_w {s : Nat} {T : Store} {n : Int} (hk : s < T.length) {te : DE} {i : Nat} {env : Env'} (ws : List W) (h : ∀ (w : W) (n : Int), te (env.set i (some (.v w))) (T.set s (stt n)) = g__law_name [.o s] (T.set s (stt n))) :
    ∃ l n', lcL (tgN i) dYes te env ws (T.set s (stt n)) = .ok l (T.set s (stt n')) ∧ l.length = ws.length ∧ ∀ w ∈ l, isnm w = true := by
  obtain ⟨l, T', e2, ⟨n1, rfl⟩, hl, hp⟩ := lcL_rel (t := tgN i) (te := te) (env := env) (fun U => ∃ n, U = T.set s (stt n)) (fun w => isnm w = true) ws (T.set s (stt n)) ⟨n, rfl⟩ (by
    rintro w hw U ⟨n, rfl⟩
    obtain ⟨x, n', e, hx⟩ := name_w (n := n) hk
    exact ⟨_, .str x, T.set s (stt n'), rfl, (h w n).trans e, ⟨_, rfl⟩, hx⟩)
  exact ⟨l, n1, e2, hl, hp⟩
end
end Bel

namespace BelLaw
open PySem PySem.Spec PyProof.Rows L2 Bel TL
/-! ### terms' depths -/
def dep : Trm → Nat
  | .bin _ a b => 1 + max (dep a) (dep b)
  | _ => 1
theorem ok_mono : ∀ {d e : Nat} {t : Trm}, t.ok d → d ≤ e → t.ok e
  | 0, _, _, h, _ => h.elim
  | d + 1, 0, _, _, h => by omega
  | d + 1, e + 1, .num n, h, _ => h
  | d + 1, e + 1, .box x, h, _ => h
  | d + 1, e + 1, .bin s a b, h, hl => ⟨h.1, ok_mono h.2.1 (by omega), ok_mono h.2.2 (by omega)⟩
theorem dep_ok : ∀ {d : Nat} {t : Trm}, t.ok d → t.ok (dep t) ∧ 1 ≤ dep t ∧ dep t ≤ d
  | 0, _, h => h.elim
  | d + 1, .num n, h => ⟨h, by simp [dep], by simp [dep]⟩
  | d + 1, .box x, h => ⟨h, by simp [dep], by simp [dep]⟩
  | d + 1, .bin s a b, h => by
    obtain ⟨a1, a2, a3⟩ := dep_ok h.2.1
    obtain ⟨b1, b2, b3⟩ := dep_ok h.2.2
    have e : dep (.bin s a b) = max (dep a) (dep b) + 1 := by simp [dep]; omega
    refine ⟨?_, by omega, by omega⟩
    rw [e]
    exact ⟨h.1, ok_mono a1 (by omega), ok_mono b1 (by omega)⟩
section
variable {S : Store} {k : Nat} {n m : Int}
theorem max_is (a b : Nat) : fMax2 [.int (a : Int), .int (b : Int)] = some (.val (.int ((max a b : Nat) : Int))) := by
  unfold fMax2
  by_cases h : (b : Int) > a
  · have : max a b = b := by omega
    simp [h, this]
  · have : max a b = a := by omega
    simp [h, this]
theorem far_w : ∀ (t : Trm) (d r : Nat), d ≤ r → t.ok d → m__law_far r [.v t.w] S = .ok (.v (.int (dep t : Nat))) S
  | _, 0, _, _, h => h.elim
  | _, _ + 1, 0, h, _ => by omega
  | .num n, d + 1, r + 1, _, h => by simp [m__law_far, in_leaf, dep]
  | .box x, d + 1, r + 1, _, h => by simp [m__law_far, in_leaf, dep]
  | .bin s a b, d + 1, r + 1, hr, h => by
    have ea := far_w a d r (by omega) h.2.1
    have eb := far_w b d r (by omega) h.2.2
    have h1 : s ∉ [tNum, tBox] := by rcases signw_3 h.1 with rfl | rfl | rfl <;> decide
    have mx := max_is (dep a) (dep b)
    have ed : ((dep (.bin s a b) : Nat) : Int) = 1 + ((max (dep a) (dep b) : Nat) : Int) := by simp [dep]
    rw [ed]
    generalize ((max (dep a) (dep b) : Nat) : Int) = mm at *
    simp [m__law_far, in_leaf, h1, ea, eb, mx]
theorem three_w (hk : k < S.length) {l : List W} (hl : l.length = 3) (hp : ∀ w ∈ l, isnm w = true) : ∃ (t1 t2 t3 : Trm) (n' : Int), m__law_three [.o k, .v (.lst l)] (S.set k (stt n)) = .ok (.v (.lst [t1.w, t2.w, t3.w])) (S.set k (stt n')) ∧ t1.ok 6 ∧ t2.ok 6 ∧ t3.ok 6 := by
  have l0 : l ≠ [] := fun z => by subst z; simp at hl
  obtain ⟨t, n1, e1, ht⟩ := drawn_w (n := n) hk l0 (by omega) hp
  obtain ⟨t1, rfl, o1⟩ := tm_T ht
  obtain ⟨w, n2, hm, P⟩ := pickL (n := n1) hk (l := [.str tPlus, .str tLess, .str tSame]) (by simp) (by simp)
  obtain ⟨s, rfl, hs⟩ : ∃ s, w = .str s ∧ s ∈ signw := by
    simp only [List.mem_cons, List.not_mem_nil, or_false] at hm
    rcases hm with rfl | rfl | rfl <;> exact ⟨_, rfl, by decide⟩
  obtain ⟨x, r, rfl⟩ : ∃ x r, l = x :: r := by
    cases l with
    | nil => exact absurd rfl l0
    | cons x r => exact ⟨x, r, rfl⟩
  obtain ⟨nx, rfl, hnx⟩ := isnm_str (hp _ List.mem_cons_self)
  obtain ⟨d1, d2, d3⟩ := dep_ok o1
  have f1 := fun S => far_w (S := S) t1 6 8 (by decide) o1
  -- the second
  obtain ⟨s2, a2, b2, hs2, oa2, ob2, e2⟩ : ∃ (s2 : List Nat) (a2 b2 : Trm), s2 ∈ signw ∧ a2.ok 5 ∧ b2.ok 5 ∧ ∀ x4 x5 : Option U,
      dAsg 4 (dIf (dT (dBin false (fCmp fun i j => decide (i < j)) (dFn (m__law_far 8) 1 (dCons (dVar 2) dNil)) (dC (.int 6)))) (dDisp false .nt (dCons (dVar 3) (dCons (dVar 2) (dCons (dVar 2) dNil)))) (dDisp false .nt (dCons (dC (.str [112, 108, 117, 115])) (dCons (dBin false fIx (dVar 2) (dC (.int 1))) (dCons (dBin false fIx (dVar 2) (dC (.int 1))) dNil))))) [some (.o k), some (.v (.lst (.str nx :: r))), some (.v t1.w), some (.v (.str s)), x4, x5] (S.set k (stt n2))
        = .ok (.nx [some (.o k), some (.v (.lst (.str nx :: r))), some (.v t1.w), some (.v (.str s)), some (.v (Trm.bin s2 a2 b2).w), x5]) (S.set k (stt n2)) := by
    by_cases h6 : dep t1 < 6
    · have h6' : ((dep t1 : Nat) : Int) < 6 := by omega
      exact ⟨s, t1, t1, hs, ok_mono d1 (by omega), ok_mono d1 (by omega), fun _ _ => by simp [f1, h6']⟩
    · have h6' : ¬ ((dep t1 : Nat) : Int) < 6 := by omega
      cases t1 with
      | num n => simp [dep] at h6
      | box y => simp [dep] at h6
      | bin s' a b => exact ⟨tPlus, a, a, by decide, o1.2.1, o1.2.1, fun _ _ => by simp only [w_bin] at f1; simp [f1, h6']⟩
  have o2 : (Trm.bin s2 a2 b2).ok 6 := ⟨hs2, oa2, ob2⟩
  obtain ⟨c1, c2, c3⟩ := dep_ok o2
  have f2 := fun S => far_w (S := S) (Trm.bin s2 a2 b2) 6 8 (by decide) o2
  obtain ⟨t3, o3, e3⟩ : ∃ t3 : Trm, t3.ok 6 ∧ ∀ x5 : Option U, dAsg 5 (dIf (dT (dBin false (fCmp fun i j => decide (i < j)) (dFn (m__law_far 8) 1 (dCons (dVar 4) dNil)) (dC (.int 6)))) (dDisp false .nt (dCons (dC (.str [112, 108, 117, 115])) (dCons (dDisp false .nt (dCons (dC (.str [98, 111, 120])) (dCons (dBin false fIx (dVar 1) (dC (.int 0))) dNil))) (dCons (dVar 4) dNil)))) (dDisp false .nt (dCons (dC (.str [108, 101, 115, 115])) (dCons (dBin false fIx (dVar 4) (dC (.int 2))) (dCons (dBin false fIx (dVar 4) (dC (.int 1))) dNil))))) [some (.o k), some (.v (.lst (.str nx :: r))), some (.v t1.w), some (.v (.str s)), some (.v (Trm.bin s2 a2 b2).w), x5] (S.set k (stt n2))
      = .ok (.nx [some (.o k), some (.v (.lst (.str nx :: r))), some (.v t1.w), some (.v (.str s)), some (.v (Trm.bin s2 a2 b2).w), some (.v t3.w)]) (S.set k (stt n2)) := by
    by_cases h6 : dep (Trm.bin s2 a2 b2) < 6
    · have h6' : ((dep (Trm.bin s2 a2 b2) : Nat) : Int) < 6 := by omega
      refine ⟨.bin tPlus (.box nx) (Trm.bin s2 a2 b2), ⟨by decide, hnx, ok_mono c1 (show dep (Trm.bin s2 a2 b2) ≤ 5 by omega)⟩, fun _ => ?_⟩
      generalize dep (Trm.bin s2 a2 b2) = dd at *
      simp only [w_bin] at f2
      simp [f2, h6']
    · have h6' : ¬ ((dep (Trm.bin s2 a2 b2) : Nat) : Int) < 6 := by omega
      refine ⟨.bin tLess b2 a2, ⟨by decide, ob2, oa2⟩, fun _ => ?_⟩
      generalize dep (Trm.bin s2 a2 b2) = dd at *
      simp only [w_bin] at f2
      simp [f2, h6']
  refine ⟨t1, .bin s2 a2 b2, t3, n2, ?_, o1, o2, o3⟩
  have z1 : ∀ x2 x3 x4 x5 : Option U, dAsg 2 (dFn g__law_drawn 2 (dCons (dVar 0) (dCons (dVar 1) dNil))) [some (.o k), some (.v (.lst (.str nx :: r))), x2, x3, x4, x5] (S.set k (stt n)) = .ok (.nx [some (.o k), some (.v (.lst (.str nx :: r))), some (.v t1.w), x3, x4, x5]) (S.set k (stt n1)) := fun _ _ _ _ => by simp [e1]
  have z2 : ∀ x3 x4 x5 : Option U, dAsg 3 (dFn g__law_pick 2 (dCons (dVar 0) (dCons (dDisp false .nl (dCons (dC (.str [112, 108, 117, 115])) (dCons (dC (.str [108, 101, 115, 115])) (dCons (dC (.str [115, 97, 109, 101])) dNil)))) dNil))) [some (.o k), some (.v (.lst (.str nx :: r))), some (.v t1.w), x3, x4, x5] (S.set k (stt n1)) = .ok (.nx [some (.o k), some (.v (.lst (.str nx :: r))), some (.v t1.w), some (.v (.str s)), x4, x5]) (S.set k (stt n2)) := fun _ _ _ => by simp [P]
  simp only [m__law_three, fnD_ap, dSeq_ap, List.map_cons, List.map_nil, List.length_cons, List.length_nil, Nat.reduceAdd, Nat.reduceSub, List.replicate, List.cons_append, List.nil_append, z1, z2, e2, e3, Rs.bind_nx]
  simp
end
def an2 : List Nat := an ++ [32, 40, 41, 43, 60, 61]
theorem txt_an : ∀ {d : Nat} {t : Trm}, t.ok d → ∀ c ∈ t.txt, c ∈ an2
  | 0, _, h => h.elim
  | d + 1, .num n, h => fun c hc => List.mem_append_left _ (List.mem_append_right _ (numL_figs n c hc))
  | d + 1, .box x, h => fun c hc => List.mem_append_left _ (List.mem_append_left _ (nm_abc h c hc))
  | d + 1, .bin s a b, h => fun c hc => by
    obtain ⟨hs, ha, hb⟩ := h
    simp only [Trm.txt, List.mem_cons, List.mem_append, List.not_mem_nil, or_false] at hc
    rcases hc with rfl | h | h | h | rfl
    · decide
    · exact txt_an ha c h
    · have : ∀ s ∈ signw, ∀ c ∈ sg s, c ∈ an2 := by decide
      exact this s hs c h
    · exact txt_an hb c h
    · decide
theorem rchar2 : ∀ c ∈ an2, Builtin.Str.reprChar 39 c = [c] := by decide +kernel
theorem an2_cp : ∀ c ∈ an2, okCp c = true := by decide
theorem rep_an {x : List Nat} (h : ∀ c ∈ x, c ∈ an2) : (reprText (mkS x)).cps.toList = 39 :: (x ++ [39]) := by
  have hq : reprQuote (mkS x) = 39 := by
    unfold reprQuote
    have : (mkS x).cps.contains 39 = false := by
      cases e : (mkS x).cps.contains 39 with
      | false => rfl
      | true =>
        have : (39 : Nat) ∈ x := by simpa [mkS] using e
        exact absurd (h _ this) (by decide)
    rw [this]; rfl
  have fo : ∀ (x : List Nat), (∀ c ∈ x, c ∈ an2) → ∀ acc : Array Nat, (x.foldl (fun out c => out ++ (Builtin.Str.reprChar 39 c).toArray) acc).toList = acc.toList ++ x := by
    intro x
    induction x with
    | nil => intro _ acc; simp
    | cons c r ih =>
      intro h acc
      rw [List.foldl_cons, ih (fun c hc => h c (List.mem_cons_of_mem _ hc)), rchar2 c (h c List.mem_cons_self)]
      simp
  unfold reprText
  rw [hq, ← Array.foldl_toList]
  show (Array.push _ 39).toList = _
  rw [Array.toList_push]
  have := fo x h #[39]
  rw [show (mkS x).cps.toList = x from rfl, this]
  simp
abbrev bellq : W := .lst (bellw.map W.str)
/-- the places of the bells -/
theorem bell_ix : ∀ x ∈ bellw, ∃ i : Nat, i < 8 ∧ fIndexT (.tup (bellw.map W.str)) [.str x] = some (.val (.int i)) ∧ fIndexM bellq [.str x] = some (.val (.int i)) := by
  intro x hx
  simp only [bellw, List.mem_cons, List.not_mem_nil, or_false] at hx
  rcases hx with rfl | rfl | rfl | rfl | rfl | rfl | rfl | rfl
  · exact ⟨0, by decide, by simp [bellw, fIndexT, txts, List.findIdx?_cons], by simp [bellw, fIndexM, isFlat, List.findIdx?_cons]⟩
  · exact ⟨1, by decide, by simp [bellw, fIndexT, txts, List.findIdx?_cons], by simp [bellw, fIndexM, isFlat, List.findIdx?_cons]⟩
  · exact ⟨2, by decide, by simp [bellw, fIndexT, txts, List.findIdx?_cons], by simp [bellw, fIndexM, isFlat, List.findIdx?_cons]⟩
  · exact ⟨3, by decide, by simp [bellw, fIndexT, txts, List.findIdx?_cons], by simp [bellw, fIndexM, isFlat, List.findIdx?_cons]⟩
  · exact ⟨4, by decide, by simp [bellw, fIndexT, txts, List.findIdx?_cons], by simp [bellw, fIndexM, isFlat, List.findIdx?_cons]⟩
  · exact ⟨5, by decide, by simp [bellw, fIndexT, txts, List.findIdx?_cons], by simp [bellw, fIndexM, isFlat, List.findIdx?_cons]⟩
  · exact ⟨6, by decide, by simp [bellw, fIndexT, txts, List.findIdx?_cons], by simp [bellw, fIndexM, isFlat, List.findIdx?_cons]⟩
  · exact ⟨7, by decide, by simp [bellw, fIndexT, txts, List.findIdx?_cons], by simp [bellw, fIndexM, isFlat, List.findIdx?_cons]⟩
theorem bell_at {i : Int} (h0 : 0 ≤ i) (h1 : i < 8) : ∃ x, x ∈ bellw ∧ fIx bellq (.int i) = some (.val (.str x)) ∧ fIndexT (.tup (bellw.map W.str)) [.str x] = some (.val (.int i)) := by
  obtain rfl | rfl | rfl | rfl | rfl | rfl | rfl | rfl : i = 0 ∨ i = 1 ∨ i = 2 ∨ i = 3 ∨ i = 4 ∨ i = 5 ∨ i = 6 ∨ i = 7 := by omega
  · exact ⟨[107, 105, 108, 108], by decide, ix_pk (by decide) (by decide), by simp [bellw, fIndexT, txts, List.findIdx?_cons]⟩
  · exact ⟨[104, 97, 108, 116], by decide, ix_pk (by decide) (by decide), by simp [bellw, fIndexT, txts, List.findIdx?_cons]⟩
  · exact ⟨[115, 116, 111, 112], by decide, ix_pk (by decide) (by decide), by simp [bellw, fIndexT, txts, List.findIdx?_cons]⟩
  · exact ⟨[104, 97, 110, 103], by decide, ix_pk (by decide) (by decide), by simp [bellw, fIndexT, txts, List.findIdx?_cons]⟩
  · exact ⟨[101, 110, 100], by decide, ix_pk (by decide) (by decide), by simp [bellw, fIndexT, txts, List.findIdx?_cons]⟩
  · exact ⟨[119, 97, 107, 101], by decide, ix_pk (by decide) (by decide), by simp [bellw, fIndexT, txts, List.findIdx?_cons]⟩
  · exact ⟨[103, 111], by decide, ix_pk (by decide) (by decide), by simp [bellw, fIndexT, txts, List.findIdx?_cons]⟩
  · exact ⟨[100, 111, 110, 101], by decide, ix_pk (by decide) (by decide), by simp [bellw, fIndexT, txts, List.findIdx?_cons]⟩
section
variable {S : Store} {k : Nat} {n m : Int}
theorem bell_ok {x : List Nat} {i : Int} (h : x ∈ bellw) (e : fIndexT (.tup (bellw.map W.str)) [.str x] = some (.val (.int i))) : m_bell_number [.v (.str x)] S = .ok (.v (.int i)) S := by
  simp [m_bell_number, c_bells, notin_tup, h, e]
theorem bells_w : m_bells [] S = .ok (.o S.length) (S ++ [.lst (bellw.map W.str)]) := by
  simp [m_bells, c_bells, fin_own]
theorem same_q : fNe bellq bellq = some (.val (.bl false)) := by
  simp [bellw, fNe, shp, shps, toD, toDs, PyData.eqv, PyData.eqvAll]
theorem need_ok {w : W} (h : neW w = true) : m_need_term [.v w] S = cond (tm 6 w) (.ok (.v .non) S) (.ex 0 S) := by
  cases e : tm 6 w <;> simp [m_need_term, is_term_w h, e]
theorem reck_ok {t : Trm} {u : U} {l : List (W × W)} (h : t.ok 6) (hu : dr S u = some (.dct l)) (hl : dok l) : m_reckoned [.v t.w, u] S = .ok (.v (.int (t.wor l))) S := by
  have e := need_ok (S := S) (tm_ne (ok_tm h))
  rw [ok_tm h] at e
  simp [m_reckoned, e, worth_w hu hl t 6 8 (by decide) h]
theorem text_ok {t : Trm} (h : t.ok 6) : m_term_text [.v t.w] S = .ok (.v (.str t.txt)) S := by
  have e := need_ok (S := S) (tm_ne (ok_tm h))
  rw [ok_tm h] at e
  simp [m_term_text, e, written_w t 6 8 (by decide) (by decide) h]
theorem repA_w (t : Trm) : fReprA [t.w] = fRepr [t.w] := by cases t <;> rfl
theorem repA_s {t : Trm} (h : t.ok 6) : ∃ r, fReprA [.str t.txt] = some (.val (.str r)) := by
  have ha := txt_an h
  have e := rep_an ha
  have e2 : reprL t.txt = 39 :: (t.txt ++ [39]) := e
  have h1 := txt_6 h (by decide)
  have h2 : (reprL t.txt).length ≤ 16777216 := by rw [e2]; simp; omega
  have h3 : (reprL t.txt).all okCp = true := List.all_eq_true.mpr fun c hc => by
    rw [e2] at hc
    simp only [List.mem_cons, List.mem_append, List.not_mem_nil, or_false] at hc
    rcases hc with rfl | h | rfl <;> first | rfl | exact an2_cp _ (ha _ h)
  exact ⟨_, if_pos ⟨h2, h3⟩⟩
theorem repA_i {i : Int} (h0 : 0 ≤ i) (h1 : i ≤ 999) : ∃ r, fReprA [.int i] = some (.val (.str r)) := by
  obtain ⟨n, rfl⟩ : ∃ n : Nat, i = n := ⟨i.toNat, by omega⟩
  exact ⟨_, fStr_num (n := n) (by omega)⟩
theorem told_w {t : Trm} {B : Nat} {l : List (W × W)} (h : t.ok 6) (hB : S[B]? = some (.dct l)) (hl : dok l) : m__law_told [.v t.w, .o B] S = .ok (.v (.bl true)) S := by
  have hBl := lt_of_st hB
  have e1 := ltext_w (S := S) t 6 8 (by decide) (by decide) h
  have d0 : dr S (.o B) = some (.dct l) := by unfold dr; dsimp only; rw [hB]
  have d1 : dr (S ++ [Ob.dct l]) (.o B) = some (.dct l) := by unfold dr; dsimp only; rw [List.getElem?_append_left hBl, hB]
  have d2 : dr (S ++ [Ob.dct l]) (.o S.length) = some (.dct l) := by simp [dr]
  have tk : List.take S.length (S ++ [Ob.dct l]) = S := by simp
  have z2 : ∀ x2 x3 : Option U, dAsg 2 (dFn (g__law_text 8) 1 (dCons (dVar 0) dNil)) [some (.v t.w), some (.o B), x2, x3] S = .ok (.nx [some (.v t.w), some (.o B), some (.v (.str t.txt)), x3]) S := fun _ _ => by simp [e1]
  have z3 : ∀ x3 : Option U, dAsg 3 (dCall true fDict (dCons (dVar 1) dNil)) [some (.v t.w), some (.o B), some (.v (.str t.txt)), x3] S = .ok (.nx [some (.v t.w), some (.o B), some (.v (.str t.txt)), some (.o S.length)]) (S ++ [Ob.dct l]) := fun _ => by simp [d0]
  simp only [m__law_told, fnD_ap, dSeq_ap, List.map_cons, List.map_nil, List.length_cons, List.length_nil, Nat.reduceAdd, Nat.reduceSub, List.replicate, List.cons_append, List.nil_append, z2, z3, Rs.bind_nx]
  generalize S ++ [Ob.dct l] = S1 at *
  have it := is_term_w (S := S1) (tm_ne (ok_tm h))
  rw [ok_tm h] at it
  have rk := reck_ok h d1 hl
  have lw := lworth_w d1 hl t 6 8 (by decide) h
  obtain ⟨w0, w1⟩ := wor_in hl t 6 h
  obtain ⟨r1, er1⟩ := repA_i w0 w1
  obtain ⟨r2, er2⟩ := repA_s h
  have er3 := (repA_w t).trans (repr_w h)
  have hd : fNeDD (.dct l) (.dct l) = some (.val (.bl false)) := if_pos (same_ok hl)
  have tx := text_ok (S := S1) h
  have l6 := txt_6 h (by decide)
  have ra := read_any (S := S1) (T := t.txt) (by omega)
  rw [rdAll_iff.mpr ⟨h, rfl⟩] at ra
  simp only at ra
  simp [it, rk, lw, er1, d1, d2, hd, tx, er2, ra, er3, tk]
theorem bell_nm : ∀ x ∈ bellw, nm x = false := by decide +kernel
theorem sameE_q : fEq bellq bellq = some (.val (.bl true)) := by
  simp [bellw, fEq, shp, shps, toD, toDs, PyData.eqv, PyData.eqvAll]
theorem bells_told_w (hk : k < S.length) {x : List Nat} (hx : nm x = true) : ∃ n', m__law_bells_told [.o k, .v (.str x)] (S.set k (stt n)) = .ok (.v (.bl true)) (S.set k (stt n')) := by
  have eb := bells_w (S := S.set k (stt n))
  have hl : (S.set k (stt n)).length = S.length := by simp
  rw [hl, ← List.set_append_left (t := [Ob.lst (bellw.map W.str)]) _ _ hk] at eb
  let U : List W → Int → Store := fun l n => (S ++ [Ob.lst l]).set k (stt n)
  have eU : (S ++ [Ob.lst (bellw.map W.str)]).set k (stt n) = U (bellw.map W.str) n := rfl
  rw [eU] at eb
  have Ul : ∀ l n, (U l n)[S.length]? = some (.lst l) := fun l n => by
    simp only [U]; rw [List.getElem?_set_ne (by omega)]; simp
  have Uw : ∀ l n l', (U l n).set S.length (.lst l') = U l' n := fun l n l' => by
    simp only [U]; rw [List.set_comm _ _ (by omega)]; simp
  have Us : ∀ l n n', (U l n).set k (stt n') = U l n' := fun l n n' => by simp only [U]; simp
  have Uk : ∀ l n, k < (U l n).length := fun l n => by simp [U]; omega
  have Ud : ∀ l n, dr (U l n) (.o S.length) = some (.lst l) := fun l n => by unfold dr; dsimp only; rw [Ul]
  have Ut : ∀ l n o, (U l n ++ [o]).take S.length = S.set k (stt n) := fun l n o => by
    simp only [U]
    rw [List.set_append_left _ _ hk, List.append_assoc, show S.length = (S.set k (stt n)).length by simp, List.take_left]
  clear_value U
  have N := next_w (S := U (bellw.map W.str) n) (n := n) (m := 8) (Uk _ _) (by decide) (by decide)
  rw [Us, Us] at N
  obtain ⟨a0, a1⟩ := Bel.rem_lt (n := n) (m := 8) (by decide)
  generalize n % 8 = a at *
  generalize n / 8 = n2 at *
  obtain ⟨y, hy, ey, ei⟩ := bell_at a0 a1
  have b1 := fun S => bell_ok (S := S) hy ei
  have n1 := fun S => is_name_str (S := S) (x := x)
  have n2' := fun S => is_name_str (S := S) (x := y)
  rw [hx] at n1
  rw [bell_nm y hy] at n2'
  have lst : ∀ U : Store, dr (U ++ [.lst (bellw.map W.str)]) (.o U.length) = some bellq := fun U => by simp [dr]
  refine ⟨n2, ?_⟩
  have hb : bellq = .lst [.str [107, 105, 108, 108], .str [104, 97, 108, 116], .str [115, 116, 111, 112], .str [104, 97, 110, 103], .str [101, 110, 100], .str [119, 97, 107, 101], .str [103, 111], .str [100, 111, 110, 101]] := rfl
  have z2 : ∀ (S : Store) (x2 x3 x4 : Option Bel.U), dAsg 2 (dDisp false .nl (dCons (dC (.str [107, 105, 108, 108])) (dCons (dC (.str [104, 97, 108, 116])) (dCons (dC (.str [115, 116, 111, 112])) (dCons (dC (.str [104, 97, 110, 103])) (dCons (dC (.str [101, 110, 100])) (dCons (dC (.str [119, 97, 107, 101])) (dCons (dC (.str [103, 111])) (dCons (dC (.str [100, 111, 110, 101])) dNil))))))))) [some (.o k), some (.v (.str x)), x2, x3, x4] S = .ok (.nx [some (.o k), some (.v (.str x)), some (.v bellq), x3, x4]) S := fun _ _ _ _ => by
    rw [hb]; simp
  have z3 : ∀ x3 x4 : Option Bel.U, dAsg 3 (dFn m_bells 0 dNil) [some (.o k), some (.v (.str x)), some (.v bellq), x3, x4] (S.set k (stt n)) = .ok (.nx [some (.o k), some (.v (.str x)), some (.v bellq), some (.o S.length), x4]) (U (bellw.map W.str) n) := fun _ _ => by
    simp [eb]
  have z4 : ∀ x4 : Option Bel.U, dAsg 4 (dFn g__law_next 2 (dCons (dVar 0) (dCons (dC (.int 8)) dNil))) [some (.o k), some (.v (.str x)), some (.v bellq), some (.o S.length), x4] (U (bellw.map W.str) n) = .ok (.nx [some (.o k), some (.v (.str x)), some (.v bellq), some (.o S.length), some (.v (.int a))]) (U (bellw.map W.str) n2) := fun _ => by
    simp [N]
  simp only [m__law_bells_told, fnD_ap, dSeq_ap, List.map_cons, List.map_nil, List.length_cons, List.length_nil, Nat.reduceAdd, Nat.reduceSub, List.replicate, List.cons_append, List.nil_append, z2, z3, z4, Rs.bind_nx, hl]
  simp [Ud, same_q, ey, b1, n1, n2', Ul, Uw, bells_w, lst, sameE_q, Ut]
theorem otherwise_w (hk : k < S.length) {x : List Nat} (h0 : x ≠ []) (hx : x.length ≤ 10000) : ∃ y n', m__law_text_otherwise [.o k, .v (.str x)] (S.set k (stt n)) = .ok (.v (.str y)) (S.set k (stt n')) ∧ y.length ≤ 2 * x.length + 1 := by
  have hp : 0 < x.length := List.length_pos_iff.mpr h0
  have fd : fDiv (.int (x.length : Int)) (.int 2) = some (.val (.int ((x.length : Int) / 2))) := fDiv_int (by decide) (by decide)
  have N := next_w (n := n) (m := (x.length : Int) - (x.length : Int) / 2) hk (by omega) (by omega)
  generalize n % ((x.length : Int) - (x.length : Int) / 2) = a at *
  generalize n / ((x.length : Int) - (x.length : Int) / 2) = n0 at *
  obtain ⟨c, n1, hc, e1⟩ := pickS (n := n0) (l := [97, 98, 99, 100, 101, 102, 103, 104, 105, 106, 107, 108, 109, 110, 111, 112, 113, 114, 115, 116, 117, 118, 119, 120, 121, 122, 48, 49, 50, 51, 52, 53, 54, 55, 56, 57, 32, 40, 41, 43, 60, 61]) hk (by simp) (by simp)
  have N2 := next_w (n := n1) (m := 3) hk (by decide) (by decide)
  obtain ⟨b0, b1⟩ := Bel.rem_lt (n := n1) (m := 3) (by decide)
  generalize n1 % 3 = y at *
  generalize n1 / 3 = n2 at *
  generalize hq : (x.length : Int) / 2 + a = q at *
  have l1 := fun b => (cut_sub x none (some b)).2
  have l2 := fun b => (cut_sub x (some b) none).2
  have s1 := fAdd_str (x := cutL x none (some q)) (y := [c]) (by have := l1 q; simp; omega)
  have s2 := fun r => fAdd_str (x := cutL x none (some q) ++ [c]) (y := cutL x (some r) none) (by have := l1 q; have := l2 r; simp; omega)
  have s3 := fAdd_str (x := cutL x none (some q)) (y := []) (by have := l1 q; simp; omega)
  have s4 := fun r => fAdd_str (x := cutL x none (some q)) (y := cutL x (some r) none) (by have := l1 q; have := l2 r; omega)
  rw [List.append_nil] at s3
  have w2 : ∀ r, (cutL x none (some q) ++ [c] ++ cutL x (some r) none).length ≤ 2 * x.length + 1 := fun r => by
    have := l1 q; have := l2 r; simp; omega
  have w4 : ∀ r, (cutL x none (some q) ++ cutL x (some r) none).length ≤ 2 * x.length + 1 := fun r => by
    have := l1 q; have := l2 r; simp; omega
  have i2 : ∀ z : W, fIx (.lst [z, z, .str []]) (.int 2) = some (.val (.str [])) := fun z => by rw [ix_pk (by decide) (by simp)]; rfl
  obtain rfl | rfl | rfl : y = 0 ∨ y = 1 ∨ y = 2 := by omega
  · exact ⟨cutL x none (some q) ++ [c] ++ cutL x (some q) none, n2, (by simp [m__law_text_otherwise, fd, N, e1, N2, hq, s1, s2, b2n]), w2 _⟩
  · exact ⟨cutL x none (some q) ++ [c] ++ cutL x (some (q + 1)) none, n2, (by simp [m__law_text_otherwise, fd, N, e1, N2, hq, s1, s2, b2n]), w2 _⟩
  · exact ⟨cutL x none (some q) ++ cutL x (some (q + 1)) none, n2, (by simp [m__law_text_otherwise, fd, N, e1, N2, hq, s3, s4, i2, b2n]), w4 _⟩
theorem drop_ok {l : List (W × W)} (h : dok l) (k : W) : dok (dropW k l) ∧ (dropW k l).length ≤ l.length :=
  ⟨fun p hp => h p (List.mem_filter.mp hp).1, List.length_filter_le _ _⟩
theorem tried_ok {d : DE} {e : Env'} {x : W} (hS : S[1]? = some (.tbl "law" (tq "law"))) (hd : d e S = .ok (.v x) S) : dTried 1 "law" (tq "law") m__law_tried_ret d e S = .ok (.v (.lst [x])) S := by
  simp only [dTried, hS, and_self, if_true, hd]
  simp [m__law_tried_ret, trd]
theorem tried_ex {d : DE} {e : Env'} (hS : S[1]? = some (.tbl "law" (tq "law"))) (hd : d e S = .ex 2 S) : dTried 1 "law" (tq "law") m__law_tried_ret d e S = .ok (.v (.str noTextW)) S := by
  simp only [dTried, hS, and_self, if_true, hd]
  simp [m__law_tried_ret, trd, gclass2, Bel.isNon]
theorem step_w {s B : Nat} {V : List (W × W) → Int → Store} (Vb : ∀ l n, (V l n)[B]? = some (.dct l)) (Vw : ∀ l n l', (V l n).set B (.dct l') = V l' n) (Vs : ∀ l n n', (V l n).set s (stt n') = V l n') (Vk : ∀ l n, s < (V l n).length)
    {t1 t2 t3 : Trm} (o1 : t1.ok 6) (o2 : t2.ok 6) (o3 : t3.ok 6) {a b c x : List Nat} (na : nm a = true) (nb : nm b = true) (nc : nm c = true) {i : Int} (hi : fIx (.lst [.str a, .str b, .str c]) (.int i) = some (.val (.str x))) (nx : nm x = true) {l : List (W × W)} {n : Int} (hl : dok l) (ll : l.length < 1000) {x0 x1 x7 x8 x9 x10 : Option U} :
    ∃ l' n', m_law_b3 [x0, x1, some (.o s), some (.v (.lst [.str a, .str b, .str c])), some (.v (.lst [t1.w, t2.w, t3.w])), some (.o B), some (.v (.int i)), x7, x8, x9, x10] (V l n) = .ok (.nx [x0, x1, some (.o s), some (.v (.lst [.str a, .str b, .str c])), some (.v (.lst [t1.w, t2.w, t3.w])), some (.o B), some (.v (.int i)), x7, x8, x9, x10]) (V l' n') ∧ dok l' ∧ l'.length ≤ l.length + 1 := by
  have z := lcL_pure (t := tgN 7) (tt := m_law_t2) (te := dVar 7) (env := wipeE [x0, x1, some (.o s), some (.v (.lst [.str a, .str b, .str c])), some (.v (.lst [t1.w, t2.w, t3.w])), some (.o B), some (.v (.int i)), x7, x8, x9, x10] [7]) (S := V l n) (fun _ => false) id [t1.w, t2.w, t3.w, t1.w] (fun w hw => ⟨_, rfl, by
    obtain ⟨t, rfl, ot⟩ : ∃ t : Trm, w = t.w ∧ t.ok 6 := by
      simp only [List.mem_cons, List.not_mem_nil, or_false] at hw
      rcases hw with rfl | rfl | rfl | rfl
      · exact ⟨t1, rfl, o1⟩
      · exact ⟨t2, rfl, o2⟩
      · exact ⟨t3, rfl, o3⟩
      · exact ⟨t1, rfl, o1⟩
    have r := told_w ot (Vb l n) hl
    simp [m_law_t2, wipeE, r], fun h => by cases h⟩)
  have hf : List.map id (List.filter (fun _ => false) [t1.w, t2.w, t3.w, t1.w]) = [] := by simp
  rw [hf] at z
  have ad := fAdd_lst (l := [t1.w, t2.w, t3.w]) (r := [t1.w]) (by simp)
  have ct : cutL [t1.w, t2.w, t3.w] none (some 1) = [t1.w] := rfl
  simp only [List.cons_append, List.nil_append] at ad
  have s1 : dIfS (dT (dBin false fNeNil (dLc false (dItL (dBin false fAdd (dVar 4) (dSl false (dVar 4) dNoPart (dPart (dC (.int 1)))))) (tgN 7) m_law_t2 (dVar 7) [7]) (dDisp false .nl dNil))) (dRet (dC (.bl false))) dNext [x0, x1, some (.o s), some (.v (.lst [.str a, .str b, .str c])), some (.v (.lst [t1.w, t2.w, t3.w])), some (.o B), some (.v (.int i)), x7, x8, x9, x10] (V l n) = .ok (.nx [x0, x1, some (.o s), some (.v (.lst [.str a, .str b, .str c])), some (.v (.lst [t1.w, t2.w, t3.w])), some (.o B), some (.v (.int i)), x7, x8, x9, x10]) (V l n) := by
    simp [ct, ad, z]
  obtain ⟨n1, e2⟩ := bells_told_w (S := V l n) (k := s) (n := n) (Vk _ _) nx
  rw [Vs, Vs] at e2
  have s2 : dIfS (dNot (dT (dFn m__law_bells_told 2 (dCons (dVar 2) (dCons (dBin false fIx (dVar 3) (dVar 6)) dNil))))) (dRet (dC (.bl false))) dNext [x0, x1, some (.o s), some (.v (.lst [.str a, .str b, .str c])), some (.v (.lst [t1.w, t2.w, t3.w])), some (.o B), some (.v (.int i)), x7, x8, x9, x10] (V l n) = .ok (.nx [x0, x1, some (.o s), some (.v (.lst [.str a, .str b, .str c])), some (.v (.lst [t1.w, t2.w, t3.w])), some (.o B), some (.v (.int i)), x7, x8, x9, x10]) (V l n1) := by
    simp [hi, e2]
  have N := next_w (S := V l n1) (k := s) (n := n1) (m := 1000) (Vk _ _) (by decide) (by decide)
  rw [Vs, Vs] at N
  obtain ⟨r0, r1⟩ := Bel.rem_lt (n := n1) (m := 1000) (by decide)
  generalize n1 % 1000 = g at *
  generalize n1 / 1000 = n2 at *
  obtain ⟨w, n3, hm, P⟩ := pickL (S := V l n2) (k := s) (n := n2) (Vk _ _) (l := [.int 0, .int 1, .int 999, .int g]) (by simp) (by simp)
  rw [Vs, Vs] at P
  obtain ⟨v, rfl, v0, v1⟩ : ∃ v, w = .int v ∧ 0 ≤ v ∧ v ≤ 999 := by
    simp only [List.mem_cons, List.not_mem_nil, or_false] at hm
    rcases hm with rfl | rfl | rfl | rfl <;> exact ⟨_, rfl, by omega, by omega⟩
  obtain ⟨p1, p2⟩ := putW_ok (k := x) hl v0 v1
  have hll : l.length < 16777216 := by omega
  have s3 : dSetD (dVar 5) (dBin false fIx (dVar 3) (dVar 6)) (dFn g__law_pick 2 (dCons (dVar 2) (dCons (dDisp false .nl (dCons (dC (.int 0)) (dCons (dC (.int 1)) (dCons (dC (.int 999)) (dCons (dFn g__law_next 2 (dCons (dVar 2) (dCons (dC (.int 1000)) dNil))) dNil))))) dNil))) [x0, x1, some (.o s), some (.v (.lst [.str a, .str b, .str c])), some (.v (.lst [t1.w, t2.w, t3.w])), some (.o B), some (.v (.int i)), x7, x8, x9, x10] (V l n1) = .ok (.nx [x0, x1, some (.o s), some (.v (.lst [.str a, .str b, .str c])), some (.v (.lst [t1.w, t2.w, t3.w])), some (.o B), some (.v (.int i)), x7, x8, x9, x10]) (V (putW (.str x) (.int v) l) n3) := by
    simp [N, P, hi, Vb, hll, Vw]
  generalize putW (.str x) (.int v) l = l2 at *
  obtain ⟨w, n4, hm, P2⟩ := pickL (S := V l2 n3) (k := s) (n := n3) (Vk _ _) (l := [.str a, .str b, .str c, .str [122, 122]]) (by simp) (by simp)
  rw [Vs, Vs] at P2
  obtain ⟨y, rfl⟩ : ∃ y, w = .str y := by
    simp only [List.mem_cons, List.not_mem_nil, or_false] at hm
    rcases hm with rfl | rfl | rfl | rfl <;> exact ⟨_, rfl⟩
  have ad2 := fAdd_lst (l := [.str a, .str b, .str c]) (r := [.str [122, 122]]) (by simp)
  simp only [List.cons_append, List.nil_append] at ad2
  obtain ⟨l3, h3, q1, q2⟩ : ∃ l3, dDrop (dPop2 (dVar 5) (dFn g__law_pick 2 (dCons (dVar 2) (dCons (dBin false fAdd (dVar 3) (dDisp false .nl (dCons (dC (.str [122, 122])) dNil))) dNil))) (dC .non)) [x0, x1, some (.o s), some (.v (.lst [.str a, .str b, .str c])), some (.v (.lst [t1.w, t2.w, t3.w])), some (.o B), some (.v (.int i)), x7, x8, x9, x10] (V l2 n3) = .ok (.nx [x0, x1, some (.o s), some (.v (.lst [.str a, .str b, .str c])), some (.v (.lst [t1.w, t2.w, t3.w])), some (.o B), some (.v (.int i)), x7, x8, x9, x10]) (V l3 n4) ∧ dok l3 ∧ l3.length ≤ l2.length := by
    cases e : lookD (.str y) l2 with
    | none => exact ⟨l2, by simp [Vb, ad2, P2, e], p1, Nat.le_refl _⟩
    | some w => exact ⟨dropW (.str y) l2, by simp [Vb, ad2, P2, e, Vw], (drop_ok p1 _).1, (drop_ok p1 _).2⟩
  refine ⟨l3, n4, ?_, q1, by omega⟩
  simp only [m_law_b3, dSeq_ap, s1, s2, s3, h3, Rs.bind_nx]
theorem txt_ne {t : Trm} (h : t.ok 6) : t.txt ≠ [] := by
  obtain ⟨c, r, e, _⟩ := txt_head h
  rw [e]; simp
theorem last_w {s : Nat} {U : Int → Store} (Us : ∀ n n', (U n).set s (stt n') = U n') (Uk : ∀ n, s < (U n).length) (U1 : ∀ n, (U n)[1]? = some (.tbl "law" (tq "law")))
    {t : Trm} (ot : t.ok 6) {n : Int} {x0 x1 x3 x4 x5 x6 x8 x9 x10 : Option Bel.U} :
    ∃ n' y8 y9 y10, m_law_b4 [x0, x1, some (.o s), x3, x4, x5, x6, some (.v t.w), x8, x9, x10] (U n) = .ok (.nx [x0, x1, some (.o s), x3, x4, x5, x6, some (.v t.w), y8, y9, y10]) (U n') := by
  have e1 := ltext_w (S := U n) t 6 8 (by decide) (by decide) ot
  have tl : t.txt.length ≤ 384 := by
    have q1 := txt_len ot
    have q2 := sz_ok ot
    omega
  obtain ⟨y, n1, e2, ly⟩ := otherwise_w (S := U n) (k := s) (n := n) (Uk _) (txt_ne ot) (by omega)
  rw [Us, Us] at e2
  have e3 := lread_w 6 8 (U n1) y 1 (by decide) (by decide) (by decide) (by omega)
  have e4 := read_any (S := U n1) (T := y) (by omega)
  rw [rd_lrd] at e4
  have s1 : dAsg 8 (dFn m__law_text_otherwise 2 (dCons (dVar 2) (dCons (dFn (g__law_text 8) 1 (dCons (dVar 7) dNil)) dNil))) [x0, x1, some (.o s), x3, x4, x5, x6, some (.v t.w), x8, x9, x10] (U n) = .ok (.nx [x0, x1, some (.o s), x3, x4, x5, x6, some (.v t.w), some (.v (.str y)), x9, x10]) (U n1) := by
    simp [e1, e2]
  have s2 : dAsg 9 (dFn (g__law_read 8) 2 (dCons (dVar 8) (dCons (dC (.int 1)) dNil))) [x0, x1, some (.o s), x3, x4, x5, x6, some (.v t.w), some (.v (.str y)), x9, x10] (U n1) = .ok (.nx [x0, x1, some (.o s), x3, x4, x5, x6, some (.v t.w), some (.v (.str y)), some (.v (optW (lrd 6 y))), x10]) (U n1) := by
    simp [e3]
  cases e : lrd 6 y with
  | none =>
    rw [e] at e4 s2
    have t1 : ∀ x10 : Option Bel.U, dTried 1 "law" (tq "law") m__law_tried_ret (dFn g_read_term 1 (dCons (dVar 8) dNil)) [x0, x1, some (.o s), x3, x4, x5, x6, some (.v t.w), some (.v (.str y)), some (.v (optW none)), x10] (U n1) = _ := fun x10 => tried_ex (U1 _) (by simp [e4])
    exact ⟨n1, some (.v (.str y)), some (.v (optW none)), some (.v (.str noTextW)), by
      simp only [m_law_b4, dSeq_ap, s1, s2, Rs.bind_nx]
      simp only [dAsg_ap, t1, Re.st_ok, Rs.bind_nx]
      simp [ optW, Bel.isNon]⟩
  | some t' =>
    rw [e] at e4 s2
    have t1 : ∀ x10 : Option Bel.U, dTried 1 "law" (tq "law") m__law_tried_ret (dFn g_read_term 1 (dCons (dVar 8) dNil)) [x0, x1, some (.o s), x3, x4, x5, x6, some (.v t.w), some (.v (.str y)), some (.v (optW (some t'))), x10] (U n1) = _ := fun x10 => tried_ok (U1 _) (x := t'.w) (by simp [e4])
    have r : fReprA [.lst [t'.w]] = some (.val (.str (shownL (.lst [t'.w])))) := repr_l1 (lrd_ok e)
    exact ⟨n1, some (.v (.str y)), some (.v (optW (some t'))), some (.v (.lst [t'.w])), by
      simp only [m_law_b4, dSeq_ap, s1, s2, Rs.bind_nx]
      simp only [dAsg_ap, t1, Re.st_ok, Rs.bind_nx]
      simp [ optW, isNon_w, r]⟩
theorem turn {ns : List Int} {j : Int} (h0 : 0 ≤ j) (hS : S[0]? = some (.scr (ns.map W.int))) (hS1 : S[1]? = some (.tbl "law" (tq "law"))) {x2 x3 x4 x5 x6 x7 x8 x9 x10 : Option U} :
    ∃ y2 y3 y4 y5 y6 y7 y8 y9 y10 T, m_law_b5 [some (.o 0), some (.v (.int j)), x2, x3, x4, x5, x6, x7, x8, x9, x10] S = .ok (.nx [some (.o 0), some (.v (.int j)), y2, y3, y4, y5, y6, y7, y8, y9, y10]) T ∧ T[0]? = some (.scr (ns.map W.int)) ∧ T[1]? = some (.tbl "law" (tq "law")) := by
  obtain ⟨n, e1⟩ := state_is hS h0
  rw [app_set] at e1
  have hk : S.length < (S ++ [stt 0]).length := by simp
  have h1S := lt_of_st hS1
  have hS' : ∀ (o : Ob) (i : Nat), i < S.length → ((S ++ [stt 0]).set S.length o)[i]? = S[i]? := fun o i hi => by
    rw [List.getElem?_set_ne (by omega), List.getElem?_append_left hi]
  have hS0 : ∀ o : Ob, ((S ++ [stt 0]).set S.length o)[0]? = some (.scr (ns.map W.int)) := fun o => (hS' o 0 (by omega)).trans hS
  have hS1' : ∀ o : Ob, ((S ++ [stt 0]).set S.length o)[1]? = some (.tbl "law" (tq "law")) := fun o => (hS' o 1 h1S).trans hS1
  clear hS'
  generalize S ++ [stt 0] = T at *
  generalize S.length = s at *
  obtain ⟨l, n1, e2, hl, hp⟩ := names_w (n := n) hk (te := m_law_e1) (i := 6) (env := [some (.o 0), some (.v (.int j)), some (.o s), x3, x4, x5, none, x7, x8, x9, x10]) [.int 0, .int 1, .int 2] (fun w n => by simp [m_law_e1])
  obtain ⟨a, b, c, rfl, na, nb, nc⟩ : ∃ a b c : List Nat, l = [.str a, .str b, .str c] ∧ nm a = true ∧ nm b = true ∧ nm c = true := by
    match l, hl, hp with
    | [a, b, c], _, hp =>
      obtain ⟨a, rfl, na⟩ := isnm_str (hp a (by simp))
      obtain ⟨b, rfl, nb⟩ := isnm_str (hp b (by simp))
      obtain ⟨c, rfl, nc⟩ := isnm_str (hp c (by simp))
      exact ⟨a, b, c, rfl, na, nb, nc⟩
  obtain ⟨t1, t2, t3, n2, e3, o1, o2, o3⟩ := three_w (n := n1) hk rfl hp
  obtain ⟨l1, n3, e4, ok1, nb1⟩ := boxes_w (n := n2) hk hp (by simp)
  rw [← List.set_append_left (t := [Ob.dct l1]) _ _ hk] at e4
  let V : List (W × W) → Int → Store := fun l n => (T ++ [Ob.dct l]).set s (stt n)
  have eV : (T ++ [Ob.dct l1]).set s (stt n3) = V l1 n3 := rfl
  rw [eV] at e4
  have Vb : ∀ l n, (V l n)[T.length]? = some (.dct l) := fun l n => by
    simp only [V]; rw [List.getElem?_set_ne (by omega)]; simp
  have Vw : ∀ l n l', (V l n).set T.length (.dct l') = V l' n := fun l n l' => by
    simp only [V]; rw [List.set_comm _ _ (by omega)]; simp
  have Vs : ∀ l n n', (V l n).set s (stt n') = V l n' := fun l n n' => by simp only [V]; simp
  have Vk : ∀ l n, s < (V l n).length := fun l n => by simp [V]; omega
  have V0 : ∀ l n, (V l n)[0]? = some (.scr (ns.map W.int)) := fun l n => by
    simp only [V]; rw [List.set_append_left _ _ hk, List.getElem?_append_left (by simp; omega)]; exact hS0 _
  have V1 : ∀ l n, (V l n)[1]? = some (.tbl "law" (tq "law")) := fun l n => by
    simp only [V]; rw [List.set_append_left _ _ hk, List.getElem?_append_left (by simp; omega)]; exact hS1' _
  clear_value V
  have nb1' : l1.length ≤ 100 := by simp at nb1; omega
  have i0 : fIx (.lst [.str a, .str b, .str c]) (.int 0) = some (.val (.str a)) := rfl
  have i1 : fIx (.lst [.str a, .str b, .str c]) (.int 1) = some (.val (.str b)) := rfl
  have i2 : fIx (.lst [.str a, .str b, .str c]) (.int 2) = some (.val (.str c)) := rfl
  obtain ⟨l2, n4, g1, ok2, nb2⟩ := step_w Vb Vw Vs Vk o1 o2 o3 na nb nc i0 na (n := n3) ok1 (by omega) (x0 := some (.o 0)) (x1 := some (.v (.int j))) (x7 := x7) (x8 := x8) (x9 := x9) (x10 := x10)
  obtain ⟨l3, n5, g2, ok3, nb3⟩ := step_w Vb Vw Vs Vk o1 o2 o3 na nb nc i1 nb (n := n4) ok2 (by omega) (x0 := some (.o 0)) (x1 := some (.v (.int j))) (x7 := x7) (x8 := x8) (x9 := x9) (x10 := x10)
  obtain ⟨l4, n6, g3, ok4, nb4⟩ := step_w Vb Vw Vs Vk o1 o2 o3 na nb nc i2 nc (n := n5) ok3 (by omega) (x0 := some (.o 0)) (x1 := some (.v (.int j))) (x7 := x7) (x8 := x8) (x9 := x9) (x10 := x10)
  have er : List.map (fun (i : Nat) => W.int (i : Int)) (List.range 3) = [.int 0, .int 1, .int 2] := rfl
  have lp : ∀ x6 : Option U, dLoop (tgN 6) m_law_b3 [.int 0, .int 1, .int 2] [some (.o 0), some (.v (.int j)), some (.o s), some (.v (.lst [.str a, .str b, .str c])), some (.v (.lst [t1.w, t2.w, t3.w])), some (.o T.length), x6, x7, x8, x9, x10] (V l1 n3)
      = .ok (.nx [some (.o 0), some (.v (.int j)), some (.o s), some (.v (.lst [.str a, .str b, .str c])), some (.v (.lst [t1.w, t2.w, t3.w])), some (.o T.length), some (.v (.int 2)), x7, x8, x9, x10]) (V l4 n6) := fun x6 => by
    simp only [dLoop_cons, dLoop_nil, tgN_ap, List.set_cons_succ, List.set_cons_zero, g1, g2, g3]
  obtain ⟨m1, a8, a9, a10, k1⟩ := last_w (U := fun n => V l4 n) (fun n n' => Vs _ _ _) (fun n => Vk _ _) (fun n => V1 _ _) o1 (n := n6) (x0 := some (.o 0)) (x1 := some (.v (.int j))) (x3 := some (.v (.lst [.str a, .str b, .str c]))) (x4 := some (.v (.lst [t1.w, t2.w, t3.w]))) (x5 := some (.o T.length)) (x6 := some (.v (.int 2))) (x8 := x8) (x9 := x9) (x10 := x10)
  obtain ⟨m2, b8, b9, b10, k2⟩ := last_w (U := fun n => V l4 n) (fun n n' => Vs _ _ _) (fun n => Vk _ _) (fun n => V1 _ _) o2 (n := m1) (x0 := some (.o 0)) (x1 := some (.v (.int j))) (x3 := some (.v (.lst [.str a, .str b, .str c]))) (x4 := some (.v (.lst [t1.w, t2.w, t3.w]))) (x5 := some (.o T.length)) (x6 := some (.v (.int 2))) (x8 := a8) (x9 := a9) (x10 := a10)
  obtain ⟨m3, c8, c9, c10, k3⟩ := last_w (U := fun n => V l4 n) (fun n n' => Vs _ _ _) (fun n => Vk _ _) (fun n => V1 _ _) o3 (n := m2) (x0 := some (.o 0)) (x1 := some (.v (.int j))) (x3 := some (.v (.lst [.str a, .str b, .str c]))) (x4 := some (.v (.lst [t1.w, t2.w, t3.w]))) (x5 := some (.o T.length)) (x6 := some (.v (.int 2))) (x8 := b8) (x9 := b9) (x10 := b10)
  have lq : ∀ x7 : Option U, dLoop (tgN 7) m_law_b4 [t1.w, t2.w, t3.w] [some (.o 0), some (.v (.int j)), some (.o s), some (.v (.lst [.str a, .str b, .str c])), some (.v (.lst [t1.w, t2.w, t3.w])), some (.o T.length), some (.v (.int 2)), x7, x8, x9, x10] (V l4 n6)
      = .ok (.nx [some (.o 0), some (.v (.int j)), some (.o s), some (.v (.lst [.str a, .str b, .str c])), some (.v (.lst [t1.w, t2.w, t3.w])), some (.o T.length), some (.v (.int 2)), some (.v t3.w), c8, c9, c10]) (V l4 m3) := fun x7 => by
    simp only [dLoop_cons, dLoop_nil, tgN_ap, List.set_cons_succ, List.set_cons_zero, k1, k2, k3]
  exact ⟨some (.o s), some (.v (.lst [.str a, .str b, .str c])), some (.v (.lst [t1.w, t2.w, t3.w])), some (.o T.length), some (.v (.int 2)), some (.v t3.w), c8, c9, c10, V l4 m3, (by
    simp [m_law_b5, e1, er, wipeE, e2, e3, e4, lp, lq]), V0 _ _, V1 _ _⟩
theorem law_true : ∀ ns : List Int, ns.length ≤ 63 → ∃ S', m_law [.o 0] (.scr (ns.map W.int) :: (["law"] : List Str).map fun x => .tbl x (tq x)) = .ok (.v (.bl true)) S' := fun ns hn => by
  have r := for_rng (t := tgN 1) (b := m_law_b5) (most_is (ns := ns) (m := 12) (by decide) (x := [none, none, none, none, none, none, none, none, none, none]) (R := [.tbl "law" (tq "law")])) (by omega) (by omega)
  generalize hc : ((min ns.length (12 : Int).toNat : Nat) : Int) + 1 = c at *
  have hc2 : c.toNat = min ns.length (12 : Int).toNat + 1 := by omega
  rw [hc2] at r
  obtain ⟨e', S', e, x1, x2, x3, x4, x5, x6, x7, x8, x9, x10, rfl, hS, hS1⟩ := dLoop_inv (t := tgN 1) (body := m_law_b5) (fun e S => ∃ x1 x2 x3 x4 x5 x6 x7 x8 x9 x10, e = [some (.o 0), x1, x2, x3, x4, x5, x6, x7, x8, x9, x10] ∧ S[0]? = some (.scr (ns.map W.int)) ∧ S[1]? = some (.tbl "law" (tq "law"))) ((List.range (min ns.length (12 : Int).toNat + 1)).map fun (i : Nat) => W.int (i : Int)) [some (.o 0), none, none, none, none, none, none, none, none, none, none] [.scr (ns.map W.int), .tbl "law" (tq "law")] ⟨_, _, _, _, _, _, _, _, _, _, rfl, rfl, rfl⟩ (by
    rintro w hw e S ⟨x1, x2, x3, x4, x5, x6, x7, x8, x9, x10, rfl, hS, hS1⟩
    obtain ⟨z, _, rfl⟩ := List.mem_map.mp hw
    obtain ⟨y2, y3, y4, y5, y6, y7, y8, y9, y10, T, e1, h1, h2⟩ := turn (by omega : (0 : Int) ≤ z) hS hS1 (x2 := x2) (x3 := x3) (x4 := x4) (x5 := x5) (x6 := x6) (x7 := x7) (x8 := x8) (x9 := x9) (x10 := x10)
    exact ⟨_, _, _, rfl, e1, _, _, _, _, _, _, _, _, _, _, rfl, h1, h2⟩)
  have hr := r.trans e
  refine ⟨S'.take 2, ?_⟩
  show m_law [.o 0] [.scr (ns.map W.int), .tbl "law" (tq "law")] = _
  simp only [m_law, fnD_ap, dSeq_ap, List.map_cons, List.map_nil, List.length_cons, List.length_nil, List.replicate, List.cons_append, List.nil_append, hr, Rs.bind_nx]
  simp
end
end BelLaw

/-! the law's derivations -/
namespace BelLaw
open PySem PySem.Spec PyProof.Rows L2 Bel
/-! ### the top: what the head tells -/
def top (i : Nat) : Stmt := PySem.Challenge.pw_bellyard_k12_again_and_shared.main.body.getD i (.Pass ⟨0, 0, 0, 0⟩)
abbrev dd (x : Str) (i : Nat) : He.DefD := ⟨(x, none), x, x, defArgs (top i), defBody (top i), defScope (top i), [], []⟩
def fn : List He.DefD := [dd "_law_state" 38, dd "_law_next" 39, dd "_law_pick" 40, dd "_law_term" 43, dd "_law_chain" 44, dd "_law_drawn" 45, dd "_law_far" 55, dd "_law_three" 56, dd "_law_boxes" 49, dd "_law_kept" 41, dd "_law_name" 42, dd "_law_text_otherwise" 59, dd "_law_cuts" 53, dd "_law_is_name" 46, dd "_law_leaf" 52, dd "_law_read" 54, dd "_law_class" 50, dd "_law_tried" 51, dd "bells" 19, dd "bell_number" 20, dd "is_name" 17, dd "_law_bells_told" 58, dd "_law_text" 47, dd "number_told" 21, dd "leaf_at" 34, dd "term_at" 35, dd "read_term" 36, dd "is_number" 18, dd "stands_so" 27, dd "is_term" 28, dd "need_term" 29, dd "worth" 30, dd "reckoned" 31, dd "_law_worth" 48, dd "written" 32, dd "term_text" 33, dd "_law_told" 57, dd "law" 60]
def fa : List He.Fa := [.glo "_law_state", .glo "_law_next", .glo "_law_pick", .glo "_law_term", .glo "_law_chain", .glo "_law_drawn", .glo "_law_far", .glo "_law_three", .glo "_law_boxes", .glo "_law_kept", .glo "_law_name", .glo "_law_text_otherwise", .glo "_law_cuts", .glo "_law_is_name", .glo "_law_leaf", .glo "_law_read", .glo "_law_class", .glo "_law_tried", .glo "bells", .glo "bell_number", .glo "is_name", .glo "_law_bells_told", .glo "_law_text", .glo "number_told", .glo "leaf_at", .glo "term_at", .glo "read_term", .glo "is_number", .glo "stands_so", .glo "is_term", .glo "need_term", .glo "worth", .glo "reckoned", .glo "_law_worth", .glo "written", .glo "term_text", .glo "_law_told", .glo "law", .free "len", .free "abs", .free "range", .free "max", .free "int", .free "enumerate", .free "isinstance", .free "str", .free "ValueError", .free "list", .free "all", .free "bool", .free "tuple", .free "dict", .free "repr", .free "min"]
def kc : List Con' := [("BELLS", c_BELLS), ("MOST_LETTERS", c_MOST_LETTERS), ("KEPT", c_KEPT), ("LETTERS", c_LETTERS), ("FIGURES", c_FIGURES), ("MOST_NUMBER", c_MOST_NUMBER), ("MOST_WITHIN", c_MOST_WITHIN)]
def kd : List Kd := [("WORDS", d_WORDS), ("SIGNS", d_SIGNS)]
abbrev tf : List Str := ["law"]
abbrev be : Bool := true
theorem bo_len : bootBuiltins "len" = some (.builtin "len") := by decide +kernel
theorem bo_abs : bootBuiltins "abs" = some (.builtin "abs") := by decide +kernel
theorem bo_max : bootBuiltins "max" = some (.builtin "max") := by decide +kernel
theorem bo_int : bootBuiltins "int" = some (.type "int") := by decide +kernel
theorem bo_str : bootBuiltins "str" = some (.type "str") := by decide +kernel
theorem bo_ValueError : bootBuiltins "ValueError" = some (.type "ValueError") := by decide +kernel
theorem bo_list : bootBuiltins "list" = some (.type "list") := by decide +kernel
theorem bo_all : bootBuiltins "all" = some (.builtin "all") := by decide +kernel
theorem bo_bool : bootBuiltins "bool" = some (.type "bool") := by decide +kernel
theorem bo_tuple : bootBuiltins "tuple" = some (.type "tuple") := by decide +kernel
theorem bo_dict : bootBuiltins "dict" = some (.type "dict") := by decide +kernel
theorem bo_repr : bootBuiltins "repr" = some (.builtin "repr") := by decide +kernel
theorem bo_min : bootBuiltins "min" = some (.builtin "min") := by decide +kernel
theorem lt_0 : Lit "box" [98, 111, 120] := ⟨by decide +kernel, by rw [sizeLine_is]; decide, by decide +kernel⟩
theorem lt_1 : Lit "number" [110, 117, 109, 98, 101, 114] := ⟨by decide +kernel, by rw [sizeLine_is]; decide, by decide +kernel⟩
theorem lt_2 : Lit "plus" [112, 108, 117, 115] := ⟨by decide +kernel, by rw [sizeLine_is]; decide, by decide +kernel⟩
theorem lt_3 : Lit "same" [115, 97, 109, 101] := ⟨by decide +kernel, by rw [sizeLine_is]; decide, by decide +kernel⟩
theorem lt_4 : Lit "less" [108, 101, 115, 115] := ⟨by decide +kernel, by rw [sizeLine_is]; decide, by decide +kernel⟩
theorem lt_5 : Lit "zz" [122, 122] := ⟨by decide +kernel, by rw [sizeLine_is]; decide, by decide +kernel⟩
theorem lt_6 : Lit "read" [114, 101, 97, 100] := ⟨by decide +kernel, by rw [sizeLine_is]; decide, by decide +kernel⟩
theorem lt_7 : Lit "back" [98, 97, 99, 107] := ⟨by decide +kernel, by rw [sizeLine_is]; decide, by decide +kernel⟩
theorem lt_8 : Lit "rest" [114, 101, 115, 116] := ⟨by decide +kernel, by rw [sizeLine_is]; decide, by decide +kernel⟩
theorem lt_9 : Lit "free" [102, 114, 101, 101] := ⟨by decide +kernel, by rw [sizeLine_is]; decide, by decide +kernel⟩
theorem lt_10 : Lit "hold" [104, 111, 108, 100] := ⟨by decide +kernel, by rw [sizeLine_is]; decide, by decide +kernel⟩
theorem lt_11 : Lit "trap" [116, 114, 97, 112] := ⟨by decide +kernel, by rw [sizeLine_is]; decide, by decide +kernel⟩
theorem lt_12 : Lit "ring" [114, 105, 110, 103] := ⟨by decide +kernel, by rw [sizeLine_is]; decide, by decide +kernel⟩
theorem lt_13 : Lit "watch" [119, 97, 116, 99, 104] := ⟨by decide +kernel, by rw [sizeLine_is]; decide, by decide +kernel⟩
theorem lt_14 : Lit "wait" [119, 97, 105, 116] := ⟨by decide +kernel, by rw [sizeLine_is]; decide, by decide +kernel⟩
theorem lt_15 : Lit "start" [115, 116, 97, 114, 116] := ⟨by decide +kernel, by rw [sizeLine_is]; decide, by decide +kernel⟩
theorem lt_16 : Lit "say" [115, 97, 121] := ⟨by decide +kernel, by rw [sizeLine_is]; decide, by decide +kernel⟩
theorem lt_17 : Lit "jump" [106, 117, 109, 112] := ⟨by decide +kernel, by rw [sizeLine_is]; decide, by decide +kernel⟩
theorem lt_18 : Lit "set" [115, 101, 116] := ⟨by decide +kernel, by rw [sizeLine_is]; decide, by decide +kernel⟩
theorem lt_19 : Lit "none" [110, 111, 110, 101] := ⟨by decide +kernel, by rw [sizeLine_is]; decide, by decide +kernel⟩
theorem lt_20 : Lit "script" [115, 99, 114, 105, 112, 116] := ⟨by decide +kernel, by rw [sizeLine_is]; decide, by decide +kernel⟩
theorem lt_21 : Lit "plain" [112, 108, 97, 105, 110] := ⟨by decide +kernel, by rw [sizeLine_is]; decide, by decide +kernel⟩
theorem lt_22 : Lit "fall" [102, 97, 108, 108] := ⟨by decide +kernel, by rw [sizeLine_is]; decide, by decide +kernel⟩
theorem lt_23 : Lit "job" [106, 111, 98] := ⟨by decide +kernel, by rw [sizeLine_is]; decide, by decide +kernel⟩
theorem lt_24 : Lit "child" [99, 104, 105, 108, 100] := ⟨by decide +kernel, by rw [sizeLine_is]; decide, by decide +kernel⟩
theorem lt_25 : Lit "up" [117, 112] := ⟨by decide +kernel, by rw [sizeLine_is]; decide, by decide +kernel⟩
theorem lt_26 : Lit "new" [110, 101, 119] := ⟨by decide +kernel, by rw [sizeLine_is]; decide, by decide +kernel⟩
theorem lt_27 : Lit "own" [111, 119, 110] := ⟨by decide +kernel, by rw [sizeLine_is]; decide, by decide +kernel⟩
theorem lt_28 : Lit "front" [102, 114, 111, 110, 116] := ⟨by decide +kernel, by rw [sizeLine_is]; decide, by decide +kernel⟩
theorem lt_29 : Lit "done" [100, 111, 110, 101] := ⟨by decide +kernel, by rw [sizeLine_is]; decide, by decide +kernel⟩
theorem lt_30 : Lit "go" [103, 111] := ⟨by decide +kernel, by rw [sizeLine_is]; decide, by decide +kernel⟩
theorem lt_31 : Lit "wake" [119, 97, 107, 101] := ⟨by decide +kernel, by rw [sizeLine_is]; decide, by decide +kernel⟩
theorem lt_32 : Lit "end" [101, 110, 100] := ⟨by decide +kernel, by rw [sizeLine_is]; decide, by decide +kernel⟩
theorem lt_33 : Lit "hang" [104, 97, 110, 103] := ⟨by decide +kernel, by rw [sizeLine_is]; decide, by decide +kernel⟩
theorem lt_34 : Lit "stop" [115, 116, 111, 112] := ⟨by decide +kernel, by rw [sizeLine_is]; decide, by decide +kernel⟩
theorem lt_35 : Lit "halt" [104, 97, 108, 116] := ⟨by decide +kernel, by rw [sizeLine_is]; decide, by decide +kernel⟩
theorem lt_36 : Lit "kill" [107, 105, 108, 108] := ⟨by decide +kernel, by rw [sizeLine_is]; decide, by decide +kernel⟩
theorem lt_37 : Lit "" [] := ⟨by decide +kernel, by rw [sizeLine_is]; decide, by decide +kernel⟩
theorem lt_38 : Lit "s" [115] := ⟨by decide +kernel, by rw [sizeLine_is]; decide, by decide +kernel⟩
theorem lt_39 : Lit "abcdefghijklmnopqrstuvwxyz" [97, 98, 99, 100, 101, 102, 103, 104, 105, 106, 107, 108, 109, 110, 111, 112, 113, 114, 115, 116, 117, 118, 119, 120, 121, 122] := ⟨by decide +kernel, by rw [sizeLine_is]; decide, by decide +kernel⟩
theorem lt_40 : Lit "q" [113] := ⟨by decide +kernel, by rw [sizeLine_is]; decide, by decide +kernel⟩
theorem lt_41 : Lit "abcdefghijklmnopqrstuvwxyz0123456789 ()+<=" [97, 98, 99, 100, 101, 102, 103, 104, 105, 106, 107, 108, 109, 110, 111, 112, 113, 114, 115, 116, 117, 118, 119, 120, 121, 122, 48, 49, 50, 51, 52, 53, 54, 55, 56, 57, 32, 40, 41, 43, 60, 61] := ⟨by decide +kernel, by rw [sizeLine_is]; decide, by decide +kernel⟩
theorem lt_42 : Lit "(" [40] := ⟨by decide +kernel, by rw [sizeLine_is]; decide, by decide +kernel⟩
theorem lt_43 : Lit ")" [41] := ⟨by decide +kernel, by rw [sizeLine_is]; decide, by decide +kernel⟩
theorem lt_44 : Lit " = " [32, 61, 32] := ⟨by decide +kernel, by rw [sizeLine_is]; decide, by decide +kernel⟩
theorem lt_45 : Lit " < " [32, 60, 32] := ⟨by decide +kernel, by rw [sizeLine_is]; decide, by decide +kernel⟩
theorem lt_46 : Lit " + " [32, 43, 32] := ⟨by decide +kernel, by rw [sizeLine_is]; decide, by decide +kernel⟩
theorem lt_47 : Lit "0123456789" [48, 49, 50, 51, 52, 53, 54, 55, 56, 57] := ⟨by decide +kernel, by rw [sizeLine_is]; decide, by decide +kernel⟩
theorem lt_48 : Lit "0" [48] := ⟨by decide +kernel, by rw [sizeLine_is]; decide, by decide +kernel⟩
theorem lt_49 : Lit "=" [61] := ⟨by decide +kernel, by rw [sizeLine_is]; decide, by decide +kernel⟩
theorem lt_50 : Lit "<" [60] := ⟨by decide +kernel, by rw [sizeLine_is]; decide, by decide +kernel⟩
theorem lt_51 : Lit "+" [43] := ⟨by decide +kernel, by rw [sizeLine_is]; decide, by decide +kernel⟩
theorem lt_52 : Lit "several" [115, 101, 118, 101, 114, 97, 108] := ⟨by decide +kernel, by rw [sizeLine_is]; decide, by decide +kernel⟩
theorem lt_53 : Lit "TooMany" [84, 111, 111, 77, 97, 110, 121] := ⟨by decide +kernel, by rw [sizeLine_is]; decide, by decide +kernel⟩
theorem lt_54 : Lit "NoJob" [78, 111, 74, 111, 98] := ⟨by decide +kernel, by rw [sizeLine_is]; decide, by decide +kernel⟩
theorem lt_55 : Lit "NoRecord" [78, 111, 82, 101, 99, 111, 114, 100] := ⟨by decide +kernel, by rw [sizeLine_is]; decide, by decide +kernel⟩
theorem lt_56 : Lit "NoStep" [78, 111, 83, 116, 101, 112] := ⟨by decide +kernel, by rw [sizeLine_is]; decide, by decide +kernel⟩
theorem lt_57 : Lit "NoTask" [78, 111, 84, 97, 115, 107] := ⟨by decide +kernel, by rw [sizeLine_is]; decide, by decide +kernel⟩
theorem lt_58 : Lit "NoYard" [78, 111, 89, 97, 114, 100] := ⟨by decide +kernel, by rw [sizeLine_is]; decide, by decide +kernel⟩
theorem lt_59 : Lit "NoText" [78, 111, 84, 101, 120, 116] := ⟨by decide +kernel, by rw [sizeLine_is]; decide, by decide +kernel⟩
theorem lt_60 : Lit "NoBook" [78, 111, 66, 111, 111, 107] := ⟨by decide +kernel, by rw [sizeLine_is]; decide, by decide +kernel⟩
theorem lt_61 : Lit "NoTerm" [78, 111, 84, 101, 114, 109] := ⟨by decide +kernel, by rw [sizeLine_is]; decide, by decide +kernel⟩
theorem lt_62 : Lit " " [32] := ⟨by decide +kernel, by rw [sizeLine_is]; decide, by decide +kernel⟩
section
variable {P : Program} {w : World} {K : PySem.W.Frag} {mg : Str → Option Value} {base : Heap}
theorem sc__law_state : FnScope ["_law_script", "_law_k", "_law_cell", "_law_found", "_law_j", "_law_one"] ["_law_script", "_law_k"] (defScope (top 38)) := ⟨rfl, rfl, rfl, by decide +kernel, rfl, by decide +kernel, by decide +kernel⟩
theorem ok__law_state (Z : HdE K mg w fa fn kc kd be) (TB : TBs K mg base tf) : HasG P w K mg base (ecG K) "_law_state" 1 2 g__law_state := by
  exact Z.defG_ 0 0 rfl rfl sc__law_state rfl rfl (fun _ _ _ _ _ _ us hl => match us, hl with | [_, _], _ => rfl) fun f cdv A outer s H E hr =>
    (bv_cons (sv_set (i := 2) sc__law_state.nd rfl (by first | exact .inl rfl | exact .inr rfl) (ev_if (tv_cmp (fun _ _ => op_lt) (ow_cmp _) (ev_var (i := 1) rfl (by first | exact .inl rfl | exact .inr (.inl rfl) | exact .inr (.inr rfl))) (ev_callB (own := false) (fun _ _ => call_lenW) oc_len rfl (Z.free 38) bo_len (av_cons (ev_var (i := 0) rfl (by first | exact .inl rfl | exact .inr (.inl rfl) | exact .inr (.inr rfl))) av_nil)) rfl) (ev_callB (own := false) (fun _ _ => call_abs) oc_abs rfl (Z.free 39) bo_abs (av_cons (ev_ix (r65 hr.r) (ev_var (i := 0) rfl (by first | exact .inl rfl | exact .inr (.inl rfl) | exact .inr (.inr rfl))) (ev_var (i := 1) rfl (by first | exact .inl rfl | exact .inr (.inl rfl) | exact .inr (.inr rfl)))) av_nil)) ev_int))
    (bv_cons (sv_if (tv_cmp (fun _ _ => op_ge) (ow_cmp _) (ev_var (i := 2) rfl (by first | exact .inl rfl | exact .inr (.inl rfl) | exact .inr (.inr rfl))) (ev_bin (own := false) (fun _ _ => op_pow) ow_pow ev_int ev_int) rfl) (bv_one (sv_ret (ev_lst (own := true) (av_cons (ev_bin (own := false) (fun _ _ => op_sub) ow_sub (ev_var (i := 2) rfl (by first | exact .inl rfl | exact .inr (.inl rfl) | exact .inr (.inr rfl))) (ev_bin (own := false) (fun _ _ => op_pow) ow_pow ev_int ev_int)) av_nil)))) bv_nil)
    (bv_cons (sv_set (i := 3) sc__law_state.nd rfl (by first | exact .inl rfl | exact .inr rfl) ev_int)
    (bv_cons (sv_for rfl (iv_rng1 rfl (Z.free 40) ev_int) (gv_name (i := 4) sc__law_state.nd rfl (by first | exact .inl rfl | exact .inr rfl)) (bv_cons (sv_set (i := 5) sc__law_state.nd rfl (by first | exact .inl rfl | exact .inr rfl) (ev_bin (own := false) (fun _ _ => op_mod) ow_mod (ev_bin (own := false) (fun _ _ => op_mul) ow_mul (ev_bin (own := false) (fun _ _ => op_addW) ow_add (ev_var (i := 2) rfl (by first | exact .inl rfl | exact .inr (.inl rfl) | exact .inr (.inr rfl))) (ev_bin (own := false) (fun _ _ => op_mul) ow_mul ev_int (ev_bin (own := false) (fun _ _ => op_addW) ow_add (ev_bin (own := false) (fun _ _ => op_addW) ow_add (ev_bin (own := false) (fun _ _ => op_mul) ow_mul ev_int (ev_var (i := 1) rfl (by first | exact .inl rfl | exact .inr (.inl rfl) | exact .inr (.inr rfl)))) (ev_var (i := 4) rfl (by first | exact .inl rfl | exact .inr (.inl rfl) | exact .inr (.inr rfl)))) ev_int))) ev_int) ev_int))
    (bv_one (sv_set (i := 3) sc__law_state.nd rfl (by first | exact .inl rfl | exact .inr rfl) (ev_bin (own := false) (fun _ _ => op_addW) ow_add (ev_bin (own := false) (fun _ _ => op_mul) ow_mul (ev_var (i := 3) rfl (by first | exact .inl rfl | exact .inr (.inl rfl) | exact .inr (.inr rfl))) ev_int) (ev_bin (own := false) (fun _ _ => op_mod) ow_mod (ev_bin (own := false) (fun _ _ => op_mul) ow_mul (ev_var (i := 5) rfl (by first | exact .inl rfl | exact .inr (.inl rfl) | exact .inr (.inr rfl))) (ev_bin (own := false) (fun _ _ => op_addW) ow_add (ev_bin (own := false) (fun _ _ => op_addW) ow_add (ev_var (i := 5) rfl (by first | exact .inl rfl | exact .inr (.inl rfl) | exact .inr (.inr rfl))) (ev_bin (own := false) (fun _ _ => op_mul) ow_mul ev_int (ev_var (i := 4) rfl (by first | exact .inl rfl | exact .inr (.inl rfl) | exact .inr (.inr rfl))))) ev_int)) ev_int))))))
    (bv_one (sv_ret (ev_lst (own := true) (av_cons (ev_var (i := 3) rfl (by first | exact .inl rfl | exact .inr (.inl rfl) | exact .inr (.inr rfl))) av_nil))))))))
theorem sc__law_next : FnScope ["_law_state_here", "_law_many", "_law_found"] ["_law_state_here", "_law_many"] (defScope (top 39)) := ⟨rfl, rfl, rfl, by decide +kernel, rfl, by decide +kernel, by decide +kernel⟩
theorem ok__law_next (Z : HdE K mg w fa fn kc kd be) (TB : TBs K mg base tf) : HasG P w K mg base (ecG K) "_law_next" 1 2 g__law_next := by
  exact Z.defG_ 1 1 rfl rfl sc__law_next rfl rfl (fun _ _ _ _ _ _ us hl => match us, hl with | [_, _], _ => rfl) fun f cdv A outer s H E hr =>
    (bv_cons (sv_set (i := 2) sc__law_next.nd rfl (by first | exact .inl rfl | exact .inr rfl) (ev_bin (own := false) (fun _ _ => op_mod) ow_mod (ev_ix (r65 hr.r) (ev_var (i := 0) rfl (by first | exact .inl rfl | exact .inr (.inl rfl) | exact .inr (.inr rfl))) ev_int) (ev_var (i := 1) rfl (by first | exact .inl rfl | exact .inr (.inl rfl) | exact .inr (.inr rfl)))))
    (bv_cons (sv_setL (ev_var (i := 0) rfl (by first | exact .inl rfl | exact .inr (.inl rfl) | exact .inr (.inr rfl))) ev_int (ev_bin (own := false) (fun _ _ => op_fdiv) ow_div (ev_ix (r65 hr.r) (ev_var (i := 0) rfl (by first | exact .inl rfl | exact .inr (.inl rfl) | exact .inr (.inr rfl))) ev_int) (ev_var (i := 1) rfl (by first | exact .inl rfl | exact .inr (.inl rfl) | exact .inr (.inr rfl)))))
    (bv_one (sv_ret (ev_var (i := 2) rfl (by first | exact .inl rfl | exact .inr (.inl rfl) | exact .inr (.inr rfl)))))))
theorem sc__law_pick : FnScope ["_law_state_here", "_law_some"] ["_law_state_here", "_law_some"] (defScope (top 40)) := ⟨rfl, rfl, rfl, by decide +kernel, rfl, by decide +kernel, by decide +kernel⟩
theorem ok__law_pick (Z : HdE K mg w fa fn kc kd be) (TB : TBs K mg base tf) : HasG P w K mg base (ecG K) "_law_pick" 2 2 g__law_pick := by
  have h__law_next := ok__law_next (P := P) (w := w) (base := base) Z TB
  exact Z.defG_ 2 2 rfl rfl sc__law_pick rfl rfl (fun _ _ _ _ _ _ us hl => match us, hl with | [_, _], _ => rfl) fun f cdv A outer s H E hr =>
    (bv_one (sv_ret (ev_ix (r65 hr.r) (ev_var (i := 1) rfl (by first | exact .inl rfl | exact .inr (.inl rfl) | exact .inr (.inr rfl))) (ev_fnG (h__law_next.mono (by decide)) hr rfl (av_cons (ev_var (i := 0) rfl (by first | exact .inl rfl | exact .inr (.inl rfl) | exact .inr (.inr rfl))) (av_cons (ev_callB (own := false) (fun _ _ => call_lenW) oc_len rfl (Z.free 38) bo_len (av_cons (ev_var (i := 1) rfl (by first | exact .inl rfl | exact .inr (.inl rfl) | exact .inr (.inr rfl))) av_nil)) av_nil))))))
theorem sc__law_term : FnScope ["_law_state_here", "_law_names", "_law_deep", "_law_way", "_law_one"] ["_law_state_here", "_law_names", "_law_deep"] (defScope (top 43)) := ⟨rfl, rfl, rfl, by decide +kernel, rfl, by decide +kernel, by decide +kernel⟩
theorem ok__law_term (Z : HdE K mg w fa fn kc kd be) (TB : TBs K mg base tf) : ∀ r : Nat, HasG P w K mg base (ecG K) "_law_term" (2 + r) 3 (g__law_term r)
  | 0 => Z.zeroG 3 3 (ps := ["_law_state_here", "_law_names", "_law_deep"]) rfl rfl rfl (fun _ _ _ _ _ _ us hl => match us, hl with | [_, _, _], _ => rfl)
  | r + 1 => by
    have ih := ok__law_term Z TB r
    have h__law_next := ok__law_next (P := P) (w := w) (base := base) Z TB
    have h__law_pick := ok__law_pick (P := P) (w := w) (base := base) Z TB
    exact Z.defG_ (k := 2 + r) 3 3 rfl rfl sc__law_term rfl rfl (fun _ _ _ _ _ _ us hl => match us, hl with | [_, _, _], _ => rfl) fun f cdv A outer s H E hr =>
    (bv_cons (sv_set (i := 3) sc__law_term.nd rfl (by first | exact .inl rfl | exact .inr rfl) (ev_fnG (h__law_next.mono (by omega)) hr rfl (av_cons (ev_var (i := 0) rfl (by first | exact .inl rfl | exact .inr (.inl rfl) | exact .inr (.inr rfl))) (av_cons ev_int av_nil))))
    (bv_cons (sv_if (tv_w (tw_or (tv_cmp (fun _ _ => op_eqD (Room.units hr.r)) ow_eq (ev_var (i := 2) rfl (by first | exact .inl rfl | exact .inr (.inl rfl) | exact .inr (.inr rfl))) ev_int rfl) (tw_or1 (tv_cmp (fun _ _ => op_lt) (ow_cmp _) (ev_var (i := 3) rfl (by first | exact .inl rfl | exact .inr (.inl rfl) | exact .inr (.inr rfl))) ev_int rfl)))) (bv_cons (sv_if (tv_cmp (fun _ _ => op_eqD (Room.units hr.r)) ow_eq (ev_bin (own := false) (fun _ _ => op_mod) ow_mod (ev_var (i := 3) rfl (by first | exact .inl rfl | exact .inr (.inl rfl) | exact .inr (.inr rfl))) ev_int) ev_int rfl) (bv_one (sv_ret (ev_tup (av_cons (ev_str lt_0) (av_cons (ev_fnG (h__law_pick.mono (by omega)) hr rfl (av_cons (ev_var (i := 0) rfl (by first | exact .inl rfl | exact .inr (.inl rfl) | exact .inr (.inr rfl))) (av_cons (ev_var (i := 1) rfl (by first | exact .inl rfl | exact .inr (.inl rfl) | exact .inr (.inr rfl))) av_nil))) av_nil))))) bv_nil)
    (bv_one (sv_ret (ev_tup (av_cons (ev_str lt_1) (av_cons (ev_fnG (h__law_pick.mono (by omega)) hr rfl (av_cons (ev_var (i := 0) rfl (by first | exact .inl rfl | exact .inr (.inl rfl) | exact .inr (.inr rfl))) (av_cons (ev_lst (own := false) (av_cons ev_int (av_cons ev_int (av_cons ev_int (av_cons ev_int (av_cons ev_int (av_cons ev_int (av_cons ev_int (av_cons ev_int (av_cons ev_int (av_cons (ev_fnG (h__law_next.mono (by omega)) hr rfl (av_cons (ev_var (i := 0) rfl (by first | exact .inl rfl | exact .inr (.inl rfl) | exact .inr (.inr rfl))) (av_cons ev_int av_nil))) av_nil))))))))))) av_nil))) av_nil)))))) bv_nil)
    (bv_cons (sv_set (i := 4) sc__law_term.nd rfl (by first | exact .inl rfl | exact .inr rfl) (ev_fnG (ih.mono (Nat.le_refl _)) hr rfl (av_cons (ev_var (i := 0) rfl (by first | exact .inl rfl | exact .inr (.inl rfl) | exact .inr (.inr rfl))) (av_cons (ev_var (i := 1) rfl (by first | exact .inl rfl | exact .inr (.inl rfl) | exact .inr (.inr rfl))) (av_cons (ev_bin (own := false) (fun _ _ => op_sub) ow_sub (ev_var (i := 2) rfl (by first | exact .inl rfl | exact .inr (.inl rfl) | exact .inr (.inr rfl))) ev_int) av_nil)))))
    (bv_one (sv_ret (ev_tup (av_cons (ev_ix (r65 hr.r) (ev_lst (own := false) (av_cons (ev_str lt_2) (av_cons (ev_str lt_4) (av_cons (ev_str lt_3) (av_cons (ev_str lt_2) av_nil))))) (ev_bin (own := false) (fun _ _ => op_sub) ow_sub (ev_var (i := 3) rfl (by first | exact .inl rfl | exact .inr (.inl rfl) | exact .inr (.inr rfl))) ev_int)) (av_cons (ev_var (i := 4) rfl (by first | exact .inl rfl | exact .inr (.inl rfl) | exact .inr (.inr rfl))) (av_cons (ev_fnG (ih.mono (Nat.le_refl _)) hr rfl (av_cons (ev_var (i := 0) rfl (by first | exact .inl rfl | exact .inr (.inl rfl) | exact .inr (.inr rfl))) (av_cons (ev_var (i := 1) rfl (by first | exact .inl rfl | exact .inr (.inl rfl) | exact .inr (.inr rfl))) (av_cons (ev_bin (own := false) (fun _ _ => op_sub) ow_sub (ev_var (i := 2) rfl (by first | exact .inl rfl | exact .inr (.inl rfl) | exact .inr (.inr rfl))) ev_int) av_nil)))) av_nil)))))))))
theorem sc__law_chain : FnScope ["_law_state_here", "_law_names", "_law_deep", "_law_found", "_law_k", "_law_both", "_law_word"] ["_law_state_here", "_law_names", "_law_deep"] (defScope (top 44)) := ⟨rfl, rfl, rfl, by decide +kernel, rfl, by decide +kernel, by decide +kernel⟩
theorem ok__law_chain (Z : HdE K mg w fa fn kc kd be) (TB : TBs K mg base tf) : HasG P w K mg base (ecG K) "_law_chain" 11 3 g__law_chain := by
  have h__law_next := ok__law_next (P := P) (w := w) (base := base) Z TB
  have h__law_pick := ok__law_pick (P := P) (w := w) (base := base) Z TB
  have h__law_term := ok__law_term (P := P) (w := w) (base := base) Z TB
  exact Z.defG_ 4 4 rfl rfl sc__law_chain rfl rfl (fun _ _ _ _ _ _ us hl => match us, hl with | [_, _, _], _ => rfl) fun f cdv A outer s H E hr =>
    (bv_cons (sv_set (i := 3) sc__law_chain.nd rfl (by first | exact .inl rfl | exact .inr rfl) (ev_fnG ((h__law_term 8).mono (by decide)) hr rfl (av_cons (ev_var (i := 0) rfl (by first | exact .inl rfl | exact .inr (.inl rfl) | exact .inr (.inr rfl))) (av_cons (ev_var (i := 1) rfl (by first | exact .inl rfl | exact .inr (.inl rfl) | exact .inr (.inr rfl))) (av_cons ev_int av_nil)))))
    (bv_cons (sv_for rfl (iv_rng1 rfl (Z.free 40) (ev_bin (own := false) (fun _ _ => op_sub) ow_sub (ev_var (i := 2) rfl (by first | exact .inl rfl | exact .inr (.inl rfl) | exact .inr (.inr rfl))) ev_int)) (gv_name (i := 4) sc__law_chain.nd rfl (by first | exact .inl rfl | exact .inr rfl)) (bv_cons (sv_set (i := 5) sc__law_chain.nd rfl (by first | exact .inl rfl | exact .inr rfl) (ev_tup (av_cons (ev_var (i := 3) rfl (by first | exact .inl rfl | exact .inr (.inl rfl) | exact .inr (.inr rfl))) (av_cons (ev_fnG ((h__law_term 8).mono (by decide)) hr rfl (av_cons (ev_var (i := 0) rfl (by first | exact .inl rfl | exact .inr (.inl rfl) | exact .inr (.inr rfl))) (av_cons (ev_var (i := 1) rfl (by first | exact .inl rfl | exact .inr (.inl rfl) | exact .inr (.inr rfl))) (av_cons ev_int av_nil)))) av_nil))))
    (bv_cons (sv_set (i := 6) sc__law_chain.nd rfl (by first | exact .inl rfl | exact .inr rfl) (ev_fnG (h__law_pick.mono (by decide)) hr rfl (av_cons (ev_var (i := 0) rfl (by first | exact .inl rfl | exact .inr (.inl rfl) | exact .inr (.inr rfl))) (av_cons (ev_lst (own := false) (av_cons (ev_str lt_2) (av_cons (ev_str lt_4) (av_cons (ev_str lt_3) av_nil)))) av_nil))))
    (bv_one (sv_set (i := 3) sc__law_chain.nd rfl (by first | exact .inl rfl | exact .inr rfl) (ev_bin (own := false) (fun _ _ => op_addW) ow_add (ev_tup (av_cons (ev_var (i := 6) rfl (by first | exact .inl rfl | exact .inr (.inl rfl) | exact .inr (.inr rfl))) av_nil)) (ev_step (own := false) (ev_var (i := 5) rfl (by first | exact .inl rfl | exact .inr (.inl rfl) | exact .inr (.inr rfl))) (ev_ix (r65 hr.r) (ev_lst (own := false) (av_cons ev_int (av_cons (ev_neg ev_int) av_nil))) (ev_fnG (h__law_next.mono (by decide)) hr rfl (av_cons (ev_var (i := 0) rfl (by first | exact .inl rfl | exact .inr (.inl rfl) | exact .inr (.inr rfl))) (av_cons ev_int av_nil)))))))))))
    (bv_one (sv_ret (ev_var (i := 3) rfl (by first | exact .inl rfl | exact .inr (.inl rfl) | exact .inr (.inr rfl)))))))
theorem sc__law_drawn : FnScope ["_law_state_here", "_law_names", "_law_deep"] ["_law_state_here", "_law_names"] (defScope (top 45)) := ⟨rfl, rfl, rfl, by decide +kernel, rfl, by decide +kernel, by decide +kernel⟩
theorem ok__law_drawn (Z : HdE K mg w fa fn kc kd be) (TB : TBs K mg base tf) : HasG P w K mg base (ecG K) "_law_drawn" 12 2 g__law_drawn := by
  have h__law_chain := ok__law_chain (P := P) (w := w) (base := base) Z TB
  have h__law_next := ok__law_next (P := P) (w := w) (base := base) Z TB
  have h__law_term := ok__law_term (P := P) (w := w) (base := base) Z TB
  exact Z.defG_ 5 5 rfl rfl sc__law_drawn rfl rfl (fun _ _ _ _ _ _ us hl => match us, hl with | [_, _], _ => rfl) fun f cdv A outer s H E hr =>
    (bv_cons (sv_set (i := 2) sc__law_drawn.nd rfl (by first | exact .inl rfl | exact .inr rfl) (ev_bin (own := false) (fun _ _ => op_addW) ow_add ev_int (ev_fnG (h__law_next.mono (by decide)) hr rfl (av_cons (ev_var (i := 0) rfl (by first | exact .inl rfl | exact .inr (.inl rfl) | exact .inr (.inr rfl))) (av_cons ev_int av_nil)))))
    (bv_cons (sv_if (tv_cmp (fun _ _ => op_eqD (Room.units hr.r)) ow_eq (ev_fnG (h__law_next.mono (by decide)) hr rfl (av_cons (ev_var (i := 0) rfl (by first | exact .inl rfl | exact .inr (.inl rfl) | exact .inr (.inr rfl))) (av_cons ev_int av_nil))) ev_int rfl) (bv_one (sv_ret (ev_fnG (h__law_chain.mono (by decide)) hr rfl (av_cons (ev_var (i := 0) rfl (by first | exact .inl rfl | exact .inr (.inl rfl) | exact .inr (.inr rfl))) (av_cons (ev_var (i := 1) rfl (by first | exact .inl rfl | exact .inr (.inl rfl) | exact .inr (.inr rfl))) (av_cons (ev_var (i := 2) rfl (by first | exact .inl rfl | exact .inr (.inl rfl) | exact .inr (.inr rfl))) av_nil)))))) bv_nil)
    (bv_one (sv_ret (ev_fnG ((h__law_term 8).mono (by decide)) hr rfl (av_cons (ev_var (i := 0) rfl (by first | exact .inl rfl | exact .inr (.inl rfl) | exact .inr (.inr rfl))) (av_cons (ev_var (i := 1) rfl (by first | exact .inl rfl | exact .inr (.inl rfl) | exact .inr (.inr rfl))) (av_cons (ev_var (i := 2) rfl (by first | exact .inl rfl | exact .inr (.inl rfl) | exact .inr (.inr rfl))) av_nil))))))))
theorem sc__law_far : FnScope ["_law_term_here"] ["_law_term_here"] (defScope (top 55)) := ⟨rfl, rfl, rfl, by decide +kernel, rfl, by decide +kernel, by decide +kernel⟩
theorem ok__law_far (Z : HdE K mg w fa fn kc kd be) (TB : TBs K mg base tf) : ∀ r : Nat, HasG P w K mg base (ecG K) "_law_far" (0 + r) 1 (m__law_far r)
  | 0 => Z.zeroG 6 6 (ps := ["_law_term_here"]) rfl rfl rfl (fun _ _ _ _ _ _ us hl => match us, hl with | [_], _ => rfl)
  | r + 1 => by
    have ih := ok__law_far Z TB r
    exact Z.defG_ (k := 0 + r) 6 6 rfl rfl sc__law_far rfl rfl (fun _ _ _ _ _ _ us hl => match us, hl with | [_], _ => rfl) fun f cdv A outer s H E hr =>
    (bv_cons (sv_if (tv_cmp (fun _ _ => op_inW (ec := ecG K) (r65 hr.r)) ow_in (ev_ix (r65 hr.r) (ev_var (i := 0) rfl (by first | exact .inl rfl | exact .inr (.inl rfl) | exact .inr (.inr rfl))) ev_int) (ev_tup (av_cons (ev_str lt_1) (av_cons (ev_str lt_0) av_nil))) rfl) (bv_one (sv_ret ev_int)) bv_nil)
    (bv_one (sv_ret (ev_bin (own := false) (fun _ _ => op_addW) ow_add ev_int (ev_callB (own := false) (fun _ _ => call_max2 rfl) oc_max2 rfl (Z.free 41) bo_max (av_cons (ev_fnG (ih.mono (Nat.le_refl _)) hr rfl (av_cons (ev_ix (r65 hr.r) (ev_var (i := 0) rfl (by first | exact .inl rfl | exact .inr (.inl rfl) | exact .inr (.inr rfl))) ev_int) av_nil)) (av_cons (ev_fnG (ih.mono (Nat.le_refl _)) hr rfl (av_cons (ev_ix (r65 hr.r) (ev_var (i := 0) rfl (by first | exact .inl rfl | exact .inr (.inl rfl) | exact .inr (.inr rfl))) ev_int) av_nil)) av_nil)))))))
theorem sc__law_three : FnScope ["_law_state_here", "_law_names", "_law_first", "_law_word", "_law_second", "_law_third"] ["_law_state_here", "_law_names"] (defScope (top 56)) := ⟨rfl, rfl, rfl, by decide +kernel, rfl, by decide +kernel, by decide +kernel⟩
theorem ok__law_three (Z : HdE K mg w fa fn kc kd be) (TB : TBs K mg base tf) : HasG P w K mg base (ecG K) "_law_three" 13 2 m__law_three := by
  have h__law_drawn := ok__law_drawn (P := P) (w := w) (base := base) Z TB
  have h__law_far := ok__law_far (P := P) (w := w) (base := base) Z TB
  have h__law_pick := ok__law_pick (P := P) (w := w) (base := base) Z TB
  exact Z.defG_ 7 7 rfl rfl sc__law_three rfl rfl (fun _ _ _ _ _ _ us hl => match us, hl with | [_, _], _ => rfl) fun f cdv A outer s H E hr =>
    (bv_cons (sv_set (i := 2) sc__law_three.nd rfl (by first | exact .inl rfl | exact .inr rfl) (ev_fnG (h__law_drawn.mono (by decide)) hr rfl (av_cons (ev_var (i := 0) rfl (by first | exact .inl rfl | exact .inr (.inl rfl) | exact .inr (.inr rfl))) (av_cons (ev_var (i := 1) rfl (by first | exact .inl rfl | exact .inr (.inl rfl) | exact .inr (.inr rfl))) av_nil))))
    (bv_cons (sv_set (i := 3) sc__law_three.nd rfl (by first | exact .inl rfl | exact .inr rfl) (ev_fnG (h__law_pick.mono (by decide)) hr rfl (av_cons (ev_var (i := 0) rfl (by first | exact .inl rfl | exact .inr (.inl rfl) | exact .inr (.inr rfl))) (av_cons (ev_lst (own := false) (av_cons (ev_str lt_2) (av_cons (ev_str lt_4) (av_cons (ev_str lt_3) av_nil)))) av_nil))))
    (bv_cons (sv_set (i := 4) sc__law_three.nd rfl (by first | exact .inl rfl | exact .inr rfl) (ev_if (tv_cmp (fun _ _ => op_lt) (ow_cmp _) (ev_fnG ((h__law_far 8).mono (by decide)) hr rfl (av_cons (ev_var (i := 2) rfl (by first | exact .inl rfl | exact .inr (.inl rfl) | exact .inr (.inr rfl))) av_nil)) ev_int rfl) (ev_tup (av_cons (ev_var (i := 3) rfl (by first | exact .inl rfl | exact .inr (.inl rfl) | exact .inr (.inr rfl))) (av_cons (ev_var (i := 2) rfl (by first | exact .inl rfl | exact .inr (.inl rfl) | exact .inr (.inr rfl))) (av_cons (ev_var (i := 2) rfl (by first | exact .inl rfl | exact .inr (.inl rfl) | exact .inr (.inr rfl))) av_nil)))) (ev_tup (av_cons (ev_str lt_2) (av_cons (ev_ix (r65 hr.r) (ev_var (i := 2) rfl (by first | exact .inl rfl | exact .inr (.inl rfl) | exact .inr (.inr rfl))) ev_int) (av_cons (ev_ix (r65 hr.r) (ev_var (i := 2) rfl (by first | exact .inl rfl | exact .inr (.inl rfl) | exact .inr (.inr rfl))) ev_int) av_nil))))))
    (bv_cons (sv_set (i := 5) sc__law_three.nd rfl (by first | exact .inl rfl | exact .inr rfl) (ev_if (tv_cmp (fun _ _ => op_lt) (ow_cmp _) (ev_fnG ((h__law_far 8).mono (by decide)) hr rfl (av_cons (ev_var (i := 4) rfl (by first | exact .inl rfl | exact .inr (.inl rfl) | exact .inr (.inr rfl))) av_nil)) ev_int rfl) (ev_tup (av_cons (ev_str lt_2) (av_cons (ev_tup (av_cons (ev_str lt_0) (av_cons (ev_ix (r65 hr.r) (ev_var (i := 1) rfl (by first | exact .inl rfl | exact .inr (.inl rfl) | exact .inr (.inr rfl))) ev_int) av_nil))) (av_cons (ev_var (i := 4) rfl (by first | exact .inl rfl | exact .inr (.inl rfl) | exact .inr (.inr rfl))) av_nil)))) (ev_tup (av_cons (ev_str lt_4) (av_cons (ev_ix (r65 hr.r) (ev_var (i := 4) rfl (by first | exact .inl rfl | exact .inr (.inl rfl) | exact .inr (.inr rfl))) ev_int) (av_cons (ev_ix (r65 hr.r) (ev_var (i := 4) rfl (by first | exact .inl rfl | exact .inr (.inl rfl) | exact .inr (.inr rfl))) ev_int) av_nil))))))
    (bv_one (sv_ret (ev_lst (own := false) (av_cons (ev_var (i := 2) rfl (by first | exact .inl rfl | exact .inr (.inl rfl) | exact .inr (.inr rfl))) (av_cons (ev_var (i := 4) rfl (by first | exact .inl rfl | exact .inr (.inl rfl) | exact .inr (.inr rfl))) (av_cons (ev_var (i := 5) rfl (by first | exact .inl rfl | exact .inr (.inl rfl) | exact .inr (.inr rfl))) av_nil))))))))))
theorem sc__law_boxes : FnScope ["_law_state_here", "_law_names", "_law_found", "_law_name_here"] ["_law_state_here", "_law_names"] (defScope (top 49)) := ⟨rfl, rfl, rfl, by decide +kernel, rfl, by decide +kernel, by decide +kernel⟩
theorem ok__law_boxes (Z : HdE K mg w fa fn kc kd be) (TB : TBs K mg base tf) : HasG P w K mg base (ecG K) "_law_boxes" 3 2 g__law_boxes := by
  have h__law_next := ok__law_next (P := P) (w := w) (base := base) Z TB
  have h__law_pick := ok__law_pick (P := P) (w := w) (base := base) Z TB
  exact Z.defG_ 8 8 rfl rfl sc__law_boxes rfl rfl (fun _ _ _ _ _ _ us hl => match us, hl with | [_, _], _ => rfl) fun f cdv A outer s H E hr =>
    (bv_cons (sv_set (i := 2) sc__law_boxes.nd rfl (by first | exact .inl rfl | exact .inr rfl) (ev_dct (own := true) (.cons (ev_str lt_5) (ev_fnG (h__law_next.mono (by decide)) hr rfl (av_cons (ev_var (i := 0) rfl (by first | exact .inl rfl | exact .inr (.inl rfl) | exact .inr (.inr rfl))) (av_cons ev_int av_nil))) .nil) rfl rfl (fun z => nomatch z) (by decide) (by decide)))
    (bv_cons (sv_for rfl (iv_list (ev_var (i := 1) rfl (by first | exact .inl rfl | exact .inr (.inl rfl) | exact .inr (.inr rfl)))) (gv_name (i := 3) sc__law_boxes.nd rfl (by first | exact .inl rfl | exact .inr rfl)) (bv_one (sv_if (tv_cmp (fun _ _ => op_gt) (ow_cmp _) (ev_fnG (h__law_next.mono (by decide)) hr rfl (av_cons (ev_var (i := 0) rfl (by first | exact .inl rfl | exact .inr (.inl rfl) | exact .inr (.inr rfl))) (av_cons ev_int av_nil))) ev_int rfl) (bv_one (sv_setD (r65 hr.r) (ev_var (i := 2) rfl (by first | exact .inl rfl | exact .inr (.inl rfl) | exact .inr (.inr rfl))) (ev_var (i := 3) rfl (by first | exact .inl rfl | exact .inr (.inl rfl) | exact .inr (.inr rfl))) (ev_fnG (h__law_pick.mono (by decide)) hr rfl (av_cons (ev_var (i := 0) rfl (by first | exact .inl rfl | exact .inr (.inl rfl) | exact .inr (.inr rfl))) (av_cons (ev_lst (own := false) (av_cons ev_int (av_cons ev_int (av_cons ev_int (av_cons ev_int (av_cons ev_int (av_cons ev_int (av_cons (ev_fnG (h__law_next.mono (by decide)) hr rfl (av_cons (ev_var (i := 0) rfl (by first | exact .inl rfl | exact .inr (.inl rfl) | exact .inr (.inr rfl))) (av_cons ev_int av_nil))) av_nil)))))))) av_nil))))) bv_nil)))
    (bv_one (sv_ret (ev_var (i := 2) rfl (by first | exact .inl rfl | exact .inr (.inl rfl) | exact .inr (.inr rfl)))))))
theorem sc__law_kept : FnScope ["_law_some"] [] (defScope (top 41)) := ⟨rfl, rfl, rfl, by decide +kernel, rfl, by decide +kernel, by decide +kernel⟩
theorem ok__law_kept (Z : HdE K mg w fa fn kc kd be) (TB : TBs K mg base tf) : HasG P w K mg base (ecG K) "_law_kept" 1 0 g__law_kept := by
  exact Z.defG_ 9 9 rfl rfl sc__law_kept rfl rfl (fun _ _ _ _ _ _ us hl => match us, hl with | [], _ => rfl) fun f cdv A outer s H E hr =>
    (bv_cons (sv_set (i := 0) sc__law_kept.nd rfl (by first | exact .inl rfl | exact .inr rfl) (ev_lst (own := false) (av_cons (ev_str lt_18) (av_cons (ev_str lt_17) (av_cons (ev_str lt_16) (av_cons (ev_str lt_15) (av_cons (ev_str lt_14) (av_cons (ev_str lt_13) (av_cons (ev_str lt_12) (av_cons (ev_str lt_11) (av_cons (ev_str lt_10) (av_cons (ev_str lt_9) (av_cons (ev_str lt_8) (av_cons (ev_str lt_7) (av_cons (ev_str lt_6) av_nil)))))))))))))))
    (bv_cons (sv_set (i := 0) sc__law_kept.nd rfl (by first | exact .inl rfl | exact .inr rfl) (ev_bin (own := false) (fun _ _ => op_addW) ow_add (ev_var (i := 0) rfl (by first | exact .inl rfl | exact .inr (.inl rfl) | exact .inr (.inr rfl))) (ev_lst (own := false) (av_cons (ev_str lt_28) (av_cons (ev_str lt_27) (av_cons (ev_str lt_26) (av_cons (ev_str lt_25) (av_cons (ev_str lt_24) (av_cons (ev_str lt_23) (av_cons (ev_str lt_22) (av_cons (ev_str lt_21) (av_cons (ev_str lt_20) (av_cons (ev_str lt_19) av_nil)))))))))))))
    (bv_one (sv_ret (ev_bin (own := false) (fun _ _ => op_addW) ow_add (ev_var (i := 0) rfl (by first | exact .inl rfl | exact .inr (.inl rfl) | exact .inr (.inr rfl))) (ev_lst (own := false) (av_cons (ev_str lt_36) (av_cons (ev_str lt_35) (av_cons (ev_str lt_34) (av_cons (ev_str lt_33) (av_cons (ev_str lt_32) (av_cons (ev_str lt_31) (av_cons (ev_str lt_30) (av_cons (ev_str lt_29) av_nil))))))))))))))
theorem sc__law_name : FnScope ["_law_state_here", "_law_near", "_law_way", "_law_found", "_law_letters", "_law_k"] ["_law_state_here"] (defScope (top 42)) := ⟨rfl, rfl, rfl, by decide +kernel, rfl, by decide +kernel, by decide +kernel⟩
theorem ok__law_name (Z : HdE K mg w fa fn kc kd be) (TB : TBs K mg base tf) : HasG P w K mg base (ecG K) "_law_name" 3 1 g__law_name := by
  have h__law_kept := ok__law_kept (P := P) (w := w) (base := base) Z TB
  have h__law_next := ok__law_next (P := P) (w := w) (base := base) Z TB
  have h__law_pick := ok__law_pick (P := P) (w := w) (base := base) Z TB
  exact Z.defG_ 10 10 rfl rfl sc__law_name rfl rfl (fun _ _ _ _ _ _ us hl => match us, hl with | [_], _ => rfl) fun f cdv A outer s H E hr =>
    (bv_cons (sv_set (i := 1) sc__law_name.nd rfl (by first | exact .inl rfl | exact .inr rfl) (ev_fnG (h__law_pick.mono (by decide)) hr rfl (av_cons (ev_var (i := 0) rfl (by first | exact .inl rfl | exact .inr (.inl rfl) | exact .inr (.inr rfl))) (av_cons (ev_fnG0 (h__law_kept.mono (by decide)) hr rfl) av_nil))))
    (bv_cons (sv_set (i := 2) sc__law_name.nd rfl (by first | exact .inl rfl | exact .inr rfl) (ev_fnG (h__law_next.mono (by decide)) hr rfl (av_cons (ev_var (i := 0) rfl (by first | exact .inl rfl | exact .inr (.inl rfl) | exact .inr (.inr rfl))) (av_cons ev_int av_nil))))
    (bv_cons (sv_set (i := 3) sc__law_name.nd rfl (by first | exact .inl rfl | exact .inr rfl) (ev_ix (r65 hr.r) (ev_lst (own := false) (av_cons (ev_sl (own := false) (ev_var (i := 1) rfl (by first | exact .inl rfl | exact .inr (.inl rfl) | exact .inr (.inr rfl))) (ov_some ev_int) ov_none) (av_cons (ev_sl (own := false) (ev_var (i := 1) rfl (by first | exact .inl rfl | exact .inr (.inl rfl) | exact .inr (.inr rfl))) ov_none (ov_some (ev_neg ev_int))) (av_cons (ev_bin (own := false) (fun _ _ => op_addW) ow_add (ev_var (i := 1) rfl (by first | exact .inl rfl | exact .inr (.inl rfl) | exact .inr (.inr rfl))) (ev_str lt_38)) (av_cons (ev_revS (ev_var (i := 1) rfl (by first | exact .inl rfl | exact .inr (.inl rfl) | exact .inr (.inr rfl)))) (av_cons (ev_str lt_37) (av_cons (ev_str lt_37) av_nil))))))) (ev_var (i := 2) rfl (by first | exact .inl rfl | exact .inr (.inl rfl) | exact .inr (.inr rfl)))))
    (bv_cons (sv_if (tv_w (tw_or (tv_cmp (fun _ _ => op_inW (ec := ecG K) (r65 hr.r)) ow_in (ev_var (i := 3) rfl (by first | exact .inl rfl | exact .inr (.inl rfl) | exact .inr (.inr rfl))) (ev_fnG0 (h__law_kept.mono (by decide)) hr rfl) rfl) (tw_or1 (tv_not (tv_chain (fun _ _ => op_le) (fun _ _ => op_le) (ow_cmp _) (ow_cmp _) ev_int (ev_callB (own := false) (fun _ _ => call_lenW) oc_len rfl (Z.free 38) bo_len (av_cons (ev_var (i := 3) rfl (by first | exact .inl rfl | exact .inr (.inl rfl) | exact .inr (.inr rfl))) av_nil)) ev_int))))) (bv_cons (sv_set (i := 4) sc__law_name.nd rfl (by first | exact .inl rfl | exact .inr rfl) (ev_str lt_39))
    (bv_one (sv_set (i := 3) sc__law_name.nd rfl (by first | exact .inl rfl | exact .inr rfl) (ev_meth (own := false) F.plainAttrs_str F.slot_str_join F.type_str_join (fun _ _ => mt_join) tym_str om_join (ev_str lt_37) (av_cons (ev_lc (own := false) (ow := [("_law_k", 5)]) rfl sc__law_name.nd (iv_rng1 rfl (Z.free 40) (ev_bin (own := false) (fun _ _ => op_addW) ow_add ev_int (ev_fnG (h__law_next.mono (by decide)) hr rfl (av_cons (ev_var (i := 0) rfl (by first | exact .inl rfl | exact .inr (.inl rfl) | exact .inr (.inr rfl))) (av_cons ev_int av_nil))))) (blkOk_by (N := ["_law_state_here", "_law_near", "_law_way", "_law_found", "_law_letters", "_law_k"]) (sc := defScope (top 42)) (by decide +kernel)) (fun _ _ _ _ _ => (gv_name (i := 5) sc__law_name.nd rfl (by first | exact .inl rfl | exact .inr rfl))) (fun _ _ _ _ _ => tsv_nil) (fun _ _ _ _ _ => (ev_fnG (h__law_pick.mono (by decide)) hr rfl (av_cons (ev_var (i := 0) rfl (by first | exact .inl rfl | exact .inr (.inl rfl) | exact .inr (.inr rfl))) (av_cons (ev_var (i := 4) rfl (by first | exact .inl rfl | exact .inr (.inl rfl) | exact .inr (.inr rfl))) av_nil)))) (by decide)) av_nil))))) bv_nil)
    (bv_one (sv_ret (ev_if (tv_cmp (fun _ _ => op_inW (ec := ecG K) (r65 hr.r)) ow_in (ev_var (i := 3) rfl (by first | exact .inl rfl | exact .inr (.inl rfl) | exact .inr (.inr rfl))) (ev_fnG0 (h__law_kept.mono (by decide)) hr rfl) rfl) (ev_bin (own := false) (fun _ _ => op_addW) ow_add (ev_str lt_40) (ev_sl (own := false) (ev_var (i := 3) rfl (by first | exact .inl rfl | exact .inr (.inl rfl) | exact .inr (.inr rfl))) (ov_some ev_int) ov_none)) (ev_var (i := 3) rfl (by first | exact .inl rfl | exact .inr (.inl rfl) | exact .inr (.inr rfl))))))))))
theorem sc__law_text_otherwise : FnScope ["_law_state_here", "_law_text_here", "_law_at", "_law_sign", "_law_way"] ["_law_state_here", "_law_text_here"] (defScope (top 59)) := ⟨rfl, rfl, rfl, by decide +kernel, rfl, by decide +kernel, by decide +kernel⟩
theorem ok__law_text_otherwise (Z : HdE K mg w fa fn kc kd be) (TB : TBs K mg base tf) : HasG P w K mg base (ecG K) "_law_text_otherwise" 3 2 m__law_text_otherwise := by
  have h__law_next := ok__law_next (P := P) (w := w) (base := base) Z TB
  have h__law_pick := ok__law_pick (P := P) (w := w) (base := base) Z TB
  exact Z.defG_ 11 11 rfl rfl sc__law_text_otherwise rfl rfl (fun _ _ _ _ _ _ us hl => match us, hl with | [_, _], _ => rfl) fun f cdv A outer s H E hr =>
    (bv_cons (sv_set (i := 2) sc__law_text_otherwise.nd rfl (by first | exact .inl rfl | exact .inr rfl) (ev_bin (own := false) (fun _ _ => op_addW) ow_add (ev_bin (own := false) (fun _ _ => op_fdiv) ow_div (ev_callB (own := false) (fun _ _ => call_lenW) oc_len rfl (Z.free 38) bo_len (av_cons (ev_var (i := 1) rfl (by first | exact .inl rfl | exact .inr (.inl rfl) | exact .inr (.inr rfl))) av_nil)) ev_int) (ev_fnG (h__law_next.mono (by decide)) hr rfl (av_cons (ev_var (i := 0) rfl (by first | exact .inl rfl | exact .inr (.inl rfl) | exact .inr (.inr rfl))) (av_cons (ev_bin (own := false) (fun _ _ => op_sub) ow_sub (ev_callB (own := false) (fun _ _ => call_lenW) oc_len rfl (Z.free 38) bo_len (av_cons (ev_var (i := 1) rfl (by first | exact .inl rfl | exact .inr (.inl rfl) | exact .inr (.inr rfl))) av_nil)) (ev_bin (own := false) (fun _ _ => op_fdiv) ow_div (ev_callB (own := false) (fun _ _ => call_lenW) oc_len rfl (Z.free 38) bo_len (av_cons (ev_var (i := 1) rfl (by first | exact .inl rfl | exact .inr (.inl rfl) | exact .inr (.inr rfl))) av_nil)) ev_int)) av_nil)))))
    (bv_cons (sv_set (i := 3) sc__law_text_otherwise.nd rfl (by first | exact .inl rfl | exact .inr rfl) (ev_fnG (h__law_pick.mono (by decide)) hr rfl (av_cons (ev_var (i := 0) rfl (by first | exact .inl rfl | exact .inr (.inl rfl) | exact .inr (.inr rfl))) (av_cons (ev_str lt_41) av_nil))))
    (bv_cons (sv_set (i := 4) sc__law_text_otherwise.nd rfl (by first | exact .inl rfl | exact .inr rfl) (ev_fnG (h__law_next.mono (by decide)) hr rfl (av_cons (ev_var (i := 0) rfl (by first | exact .inl rfl | exact .inr (.inl rfl) | exact .inr (.inr rfl))) (av_cons ev_int av_nil))))
    (bv_one (sv_ret (ev_bin (own := false) (fun _ _ => op_addW) ow_add (ev_bin (own := false) (fun _ _ => op_addW) ow_add (ev_sl (own := false) (ev_var (i := 1) rfl (by first | exact .inl rfl | exact .inr (.inl rfl) | exact .inr (.inr rfl))) ov_none (ov_some (ev_var (i := 2) rfl (by first | exact .inl rfl | exact .inr (.inl rfl) | exact .inr (.inr rfl))))) (ev_ix (r65 hr.r) (ev_lst (own := false) (av_cons (ev_var (i := 3) rfl (by first | exact .inl rfl | exact .inr (.inl rfl) | exact .inr (.inr rfl))) (av_cons (ev_var (i := 3) rfl (by first | exact .inl rfl | exact .inr (.inl rfl) | exact .inr (.inr rfl))) (av_cons (ev_str lt_37) av_nil)))) (ev_var (i := 4) rfl (by first | exact .inl rfl | exact .inr (.inl rfl) | exact .inr (.inr rfl))))) (ev_sl (own := false) (ev_var (i := 1) rfl (by first | exact .inl rfl | exact .inr (.inl rfl) | exact .inr (.inr rfl))) (ov_some (ev_bin (own := false) (fun _ _ => op_addW) ow_add (ev_var (i := 2) rfl (by first | exact .inl rfl | exact .inr (.inl rfl) | exact .inr (.inr rfl))) (ev_callTy (own := false) (fun _ _ => (call_int1.or call_int_str)) oc_intW rfl (Z.free 42) bo_int (av_cons (ev_cmp (fun _ _ => op_gt) (ow_cmp _) (ev_var (i := 4) rfl (by first | exact .inl rfl | exact .inr (.inl rfl) | exact .inr (.inr rfl))) ev_int rfl) av_nil)))) ov_none)))))))
theorem sc__law_cuts : FnScope ["_law_inner", "_law_found", "_law_level", "_law_at", "_law_sign"] ["_law_inner"] (defScope (top 53)) := ⟨rfl, rfl, rfl, by decide +kernel, rfl, by decide +kernel, by decide +kernel⟩
theorem ok__law_cuts (Z : HdE K mg w fa fn kc kd be) (TB : TBs K mg base tf) : HasG P w K mg base (ecG K) "_law_cuts" 1 1 g__law_cuts := by
  exact Z.defG_ 12 12 rfl rfl sc__law_cuts rfl rfl (fun _ _ _ _ _ _ us hl => match us, hl with | [_], _ => rfl) fun f cdv A outer s H E hr =>
    (bv_cons (sv_set (i := 1) sc__law_cuts.nd rfl (by first | exact .inl rfl | exact .inr rfl) (ev_lst (own := true) av_nil))
    (bv_cons (sv_set (i := 2) sc__law_cuts.nd rfl (by first | exact .inl rfl | exact .inr rfl) ev_int)
    (bv_cons (sv_for rfl (iv_enS rfl (Z.free 43) (ev_var (i := 0) rfl (by first | exact .inl rfl | exact .inr (.inl rfl) | exact .inr (.inr rfl)))) (gv_tup rfl (gsv_cons (gv_name (i := 3) sc__law_cuts.nd rfl (by first | exact .inl rfl | exact .inr rfl)) (gsv_cons (gv_name (i := 4) sc__law_cuts.nd rfl (by first | exact .inl rfl | exact .inr rfl)) gsv_nil))) (bv_cons (sv_set (i := 2) sc__law_cuts.nd rfl (by first | exact .inl rfl | exact .inr rfl) (ev_bin (own := false) (fun _ _ => op_sub) ow_sub (ev_bin (own := false) (fun _ _ => op_addW) ow_add (ev_var (i := 2) rfl (by first | exact .inl rfl | exact .inr (.inl rfl) | exact .inr (.inr rfl))) (ev_callTy (own := false) (fun _ _ => (call_int1.or call_int_str)) oc_intW rfl (Z.free 42) bo_int (av_cons (ev_cmp (fun _ _ => op_eqD (Room.units hr.r)) ow_eq (ev_var (i := 4) rfl (by first | exact .inl rfl | exact .inr (.inl rfl) | exact .inr (.inr rfl))) (ev_str lt_42) rfl) av_nil))) (ev_callTy (own := false) (fun _ _ => (call_int1.or call_int_str)) oc_intW rfl (Z.free 42) bo_int (av_cons (ev_cmp (fun _ _ => op_eqD (Room.units hr.r)) ow_eq (ev_var (i := 4) rfl (by first | exact .inl rfl | exact .inr (.inl rfl) | exact .inr (.inr rfl))) (ev_str lt_43) rfl) av_nil))))
    (bv_one (sv_if (tv_w (tw_and (tv_cmp (fun _ _ => op_eqD (Room.units hr.r)) ow_eq (ev_var (i := 2) rfl (by first | exact .inl rfl | exact .inr (.inl rfl) | exact .inr (.inr rfl))) ev_int rfl) (tw_and1 (tv_cmp (fun _ _ => op_inW (ec := ecG K) (r65 hr.r)) ow_in (ev_sl (own := false) (ev_var (i := 0) rfl (by first | exact .inl rfl | exact .inr (.inl rfl) | exact .inr (.inr rfl))) (ov_some (ev_var (i := 3) rfl (by first | exact .inl rfl | exact .inr (.inl rfl) | exact .inr (.inr rfl)))) (ov_some (ev_bin (own := false) (fun _ _ => op_addW) ow_add (ev_var (i := 3) rfl (by first | exact .inl rfl | exact .inr (.inl rfl) | exact .inr (.inr rfl))) ev_int))) (ev_tup (av_cons (ev_str lt_46) (av_cons (ev_str lt_45) (av_cons (ev_str lt_44) av_nil)))) rfl)))) (bv_one (sv_expr (ev_mut F.slot_list_append F.type_list_append (fun _ _ => mt_append) om_append (ev_var (i := 1) rfl (by first | exact .inl rfl | exact .inr (.inl rfl) | exact .inr (.inr rfl))) (av_cons (ev_var (i := 3) rfl (by first | exact .inl rfl | exact .inr (.inl rfl) | exact .inr (.inr rfl))) av_nil)))) bv_nil))))
    (bv_one (sv_ret (ev_var (i := 1) rfl (by first | exact .inl rfl | exact .inr (.inl rfl) | exact .inr (.inr rfl))))))))
theorem sc__law_is_name : FnScope ["_law_thing", "_law_sign"] ["_law_thing"] (defScope (top 46)) := ⟨rfl, rfl, rfl, by decide +kernel, rfl, by decide +kernel, by decide +kernel⟩
theorem ok__law_is_name (Z : HdE K mg w fa fn kc kd be) (TB : TBs K mg base tf) : HasG P w K mg base (ecG K) "_law_is_name" 2 1 g__law_is_name := by
  have h__law_kept := ok__law_kept (P := P) (w := w) (base := base) Z TB
  exact Z.defG_ 13 13 rfl rfl sc__law_is_name rfl rfl (fun _ _ _ _ _ _ us hl => match us, hl with | [_], _ => rfl) fun f cdv A outer s H E hr =>
    (bv_cons (sv_if (tv_w (tw_or (tv_not (tv_val (ev_isT ist_str (ev_var (i := 0) rfl (by first | exact .inl rfl | exact .inr (.inl rfl) | exact .inr (.inr rfl))) rfl (Z.free 44) rfl (Z.free 45) bo_str))) (tw_or (tv_cmp (fun _ _ => op_eqD (Room.units hr.r)) ow_eq (ev_callB (own := false) (fun _ _ => call_lenW) oc_len rfl (Z.free 38) bo_len (av_cons (ev_var (i := 0) rfl (by first | exact .inl rfl | exact .inr (.inl rfl) | exact .inr (.inr rfl))) av_nil)) ev_int rfl) (tw_or (tv_cmp (fun _ _ => op_gt) (ow_cmp _) (ev_callB (own := false) (fun _ _ => call_lenW) oc_len rfl (Z.free 38) bo_len (av_cons (ev_var (i := 0) rfl (by first | exact .inl rfl | exact .inr (.inl rfl) | exact .inr (.inr rfl))) av_nil)) ev_int rfl) (tw_or1 (tv_cmp (fun _ _ => op_inW (ec := ecG K) (r65 hr.r)) ow_in (ev_var (i := 0) rfl (by first | exact .inl rfl | exact .inr (.inl rfl) | exact .inr (.inr rfl))) (ev_fnG0 (h__law_kept.mono (by decide)) hr rfl) rfl)))))) (bv_one (sv_ret ev_bl)) bv_nil)
    (bv_one (sv_ret (ev_cmp (fun _ _ => op_eqD (Room.units hr.r)) ow_eq (ev_lc (own := false) (ow := [("_law_sign", 1)]) rfl sc__law_is_name.nd (iv_str (ev_var (i := 0) rfl (by first | exact .inl rfl | exact .inr (.inl rfl) | exact .inr (.inr rfl)))) (blkOk_by (N := ["_law_thing", "_law_sign"]) (sc := defScope (top 46)) (by decide +kernel)) (fun _ _ _ _ _ => (gv_name (i := 1) sc__law_is_name.nd rfl (by first | exact .inl rfl | exact .inr rfl))) (fun _ _ _ _ _ => (tsv_one (tv_cmp (fun _ _ => op_notInW (ec := ecG K) (r65 hr.r)) ow_notIn (ev_var (i := 1) rfl (by first | exact .inl rfl | exact .inr (.inl rfl) | exact .inr (.inr rfl))) (ev_str lt_39) rfl))) (fun _ _ _ _ _ => (ev_var (i := 1) rfl (by first | exact .inl rfl | exact .inr (.inl rfl) | exact .inr (.inr rfl)))) (by decide)) (ev_lst (own := false) av_nil) rfl))))
theorem sc__law_leaf : FnScope ["_law_text_here", "_law_sign"] ["_law_text_here"] (defScope (top 52)) := ⟨rfl, rfl, rfl, by decide +kernel, rfl, by decide +kernel, by decide +kernel⟩
theorem ok__law_leaf (Z : HdE K mg w fa fn kc kd be) (TB : TBs K mg base tf) : HasG P w K mg base (ecG K) "_law_leaf" 3 1 g__law_leaf := by
  have h__law_is_name := ok__law_is_name (P := P) (w := w) (base := base) Z TB
  exact Z.defG_ 14 14 rfl rfl sc__law_leaf rfl rfl (fun _ _ _ _ _ _ us hl => match us, hl with | [_], _ => rfl) fun f cdv A outer s H E hr =>
    (bv_cons (sv_if (tv_val (ev_fnG (h__law_is_name.mono (by decide)) hr rfl (av_cons (ev_var (i := 0) rfl (by first | exact .inl rfl | exact .inr (.inl rfl) | exact .inr (.inr rfl))) av_nil))) (bv_one (sv_ret (ev_tup (av_cons (ev_str lt_0) (av_cons (ev_var (i := 0) rfl (by first | exact .inl rfl | exact .inr (.inl rfl) | exact .inr (.inr rfl))) av_nil))))) bv_nil)
    (bv_cons (sv_if (tv_w (tw_or (tv_cmp (fun _ _ => op_eqD (Room.units hr.r)) ow_eq (ev_var (i := 0) rfl (by first | exact .inl rfl | exact .inr (.inl rfl) | exact .inr (.inr rfl))) (ev_str lt_37) rfl) (tw_or (tv_cmp (fun _ _ => op_gt) (ow_cmp _) (ev_callB (own := false) (fun _ _ => call_lenW) oc_len rfl (Z.free 38) bo_len (av_cons (ev_var (i := 0) rfl (by first | exact .inl rfl | exact .inr (.inl rfl) | exact .inr (.inr rfl))) av_nil)) ev_int rfl) (tw_or1 (tv_cmp (fun _ _ => op_neNil (Room.units0 hr.r)) ow_neNil (ev_lc (own := false) (ow := [("_law_sign", 1)]) rfl sc__law_leaf.nd (iv_str (ev_var (i := 0) rfl (by first | exact .inl rfl | exact .inr (.inl rfl) | exact .inr (.inr rfl)))) (blkOk_by (N := ["_law_text_here", "_law_sign"]) (sc := defScope (top 52)) (by decide +kernel)) (fun _ _ _ _ _ => (gv_name (i := 1) sc__law_leaf.nd rfl (by first | exact .inl rfl | exact .inr rfl))) (fun _ _ _ _ _ => (tsv_one (tv_cmp (fun _ _ => op_notInW (ec := ecG K) (r65 hr.r)) ow_notIn (ev_var (i := 1) rfl (by first | exact .inl rfl | exact .inr (.inl rfl) | exact .inr (.inr rfl))) (ev_str lt_47) rfl))) (fun _ _ _ _ _ => (ev_var (i := 1) rfl (by first | exact .inl rfl | exact .inr (.inl rfl) | exact .inr (.inr rfl)))) (by decide)) (ev_lst (own := false) av_nil) rfl))))) (bv_one (sv_ret ev_non)) bv_nil)
    (bv_one (sv_ret (ev_if (tv_w (tw_and (tv_cmp (fun _ _ => op_gt) (ow_cmp _) (ev_callB (own := false) (fun _ _ => call_lenW) oc_len rfl (Z.free 38) bo_len (av_cons (ev_var (i := 0) rfl (by first | exact .inl rfl | exact .inr (.inl rfl) | exact .inr (.inr rfl))) av_nil)) ev_int rfl) (tw_and1 (tv_cmp (fun _ _ => op_eqD (Room.units hr.r)) ow_eq (ev_ix (r65 hr.r) (ev_var (i := 0) rfl (by first | exact .inl rfl | exact .inr (.inl rfl) | exact .inr (.inr rfl))) ev_int) (ev_str lt_48) rfl)))) ev_non (ev_tup (av_cons (ev_str lt_1) (av_cons (ev_callTy (own := false) (fun _ _ => (call_int1.or call_int_str)) oc_intW rfl (Z.free 42) bo_int (av_cons (ev_var (i := 0) rfl (by first | exact .inl rfl | exact .inr (.inl rfl) | exact .inr (.inr rfl))) av_nil)) av_nil))))))))
theorem sc__law_read : FnScope ["_law_text_here", "_law_deep", "_law_inner", "_law_cuts_here", "_law_at", "_law_one", "_law_other"] ["_law_text_here", "_law_deep"] (defScope (top 54)) := ⟨rfl, rfl, rfl, by decide +kernel, rfl, by decide +kernel, by decide +kernel⟩
theorem ok__law_read (Z : HdE K mg w fa fn kc kd be) (TB : TBs K mg base tf) : ∀ r : Nat, HasG P w K mg base (ecG K) "_law_read" (3 + r) 2 (g__law_read r)
  | 0 => Z.zeroG 15 15 (ps := ["_law_text_here", "_law_deep"]) rfl rfl rfl (fun _ _ _ _ _ _ us hl => match us, hl with | [_, _], _ => rfl)
  | r + 1 => by
    have ih := ok__law_read Z TB r
    have h__law_cuts := ok__law_cuts (P := P) (w := w) (base := base) Z TB
    have h__law_leaf := ok__law_leaf (P := P) (w := w) (base := base) Z TB
    exact Z.defG_ (k := 3 + r) 15 15 rfl rfl sc__law_read rfl rfl (fun _ _ _ _ _ _ us hl => match us, hl with | [_, _], _ => rfl) fun f cdv A outer s H E hr =>
    (bv_cons (sv_if (tv_cmp (fun _ _ => op_gt) (ow_cmp _) (ev_var (i := 1) rfl (by first | exact .inl rfl | exact .inr (.inl rfl) | exact .inr (.inr rfl))) ev_int rfl) (bv_one (sv_ret ev_non)) bv_nil)
    (bv_cons (sv_if (tv_cmp (fun _ _ => op_neD (Room.units hr.r)) ow_ne (ev_sl (own := false) (ev_var (i := 0) rfl (by first | exact .inl rfl | exact .inr (.inl rfl) | exact .inr (.inr rfl))) ov_none (ov_some ev_int)) (ev_str lt_42) rfl) (bv_one (sv_ret (ev_fnG (h__law_leaf.mono (by omega)) hr rfl (av_cons (ev_var (i := 0) rfl (by first | exact .inl rfl | exact .inr (.inl rfl) | exact .inr (.inr rfl))) av_nil)))) bv_nil)
    (bv_cons (sv_set (i := 2) sc__law_read.nd rfl (by first | exact .inl rfl | exact .inr rfl) (ev_sl (own := false) (ev_var (i := 0) rfl (by first | exact .inl rfl | exact .inr (.inl rfl) | exact .inr (.inr rfl))) (ov_some ev_int) (ov_some (ev_neg ev_int))))
    (bv_cons (sv_set (i := 3) sc__law_read.nd rfl (by first | exact .inl rfl | exact .inr rfl) (ev_fnG (h__law_cuts.mono (by omega)) hr rfl (av_cons (ev_var (i := 2) rfl (by first | exact .inl rfl | exact .inr (.inl rfl) | exact .inr (.inr rfl))) av_nil)))
    (bv_cons (sv_if (tv_w (tw_or (tv_cmp (fun _ _ => op_neD (Room.units hr.r)) ow_ne (ev_sl (own := false) (ev_var (i := 0) rfl (by first | exact .inl rfl | exact .inr (.inl rfl) | exact .inr (.inr rfl))) (ov_some (ev_neg ev_int)) ov_none) (ev_str lt_43) rfl) (tw_or1 (tv_cmp (fun _ _ => op_neD (Room.units hr.r)) ow_ne (ev_callB (own := false) (fun _ _ => call_lenW) oc_len rfl (Z.free 38) bo_len (av_cons (ev_var (i := 3) rfl (by first | exact .inl rfl | exact .inr (.inl rfl) | exact .inr (.inr rfl))) av_nil)) ev_int rfl)))) (bv_one (sv_ret ev_non)) bv_nil)
    (bv_cons (sv_set (i := 4) sc__law_read.nd rfl (by first | exact .inl rfl | exact .inr rfl) (ev_ix (r65 hr.r) (ev_var (i := 3) rfl (by first | exact .inl rfl | exact .inr (.inl rfl) | exact .inr (.inr rfl))) ev_int))
    (bv_cons (sv_par (i := 5) (j := 6) rfl sc__law_read.nd rfl rfl (by decide) rfl rfl (av_cons (ev_fnG (ih.mono (Nat.le_refl _)) hr rfl (av_cons (ev_sl (own := false) (ev_var (i := 2) rfl (by first | exact .inl rfl | exact .inr (.inl rfl) | exact .inr (.inr rfl))) ov_none (ov_some (ev_var (i := 4) rfl (by first | exact .inl rfl | exact .inr (.inl rfl) | exact .inr (.inr rfl))))) (av_cons (ev_bin (own := false) (fun _ _ => op_addW) ow_add (ev_var (i := 1) rfl (by first | exact .inl rfl | exact .inr (.inl rfl) | exact .inr (.inr rfl))) ev_int) av_nil))) (av_cons (ev_fnG (ih.mono (Nat.le_refl _)) hr rfl (av_cons (ev_sl (own := false) (ev_var (i := 2) rfl (by first | exact .inl rfl | exact .inr (.inl rfl) | exact .inr (.inr rfl))) (ov_some (ev_bin (own := false) (fun _ _ => op_addW) ow_add (ev_var (i := 4) rfl (by first | exact .inl rfl | exact .inr (.inl rfl) | exact .inr (.inr rfl))) ev_int)) ov_none) (av_cons (ev_bin (own := false) (fun _ _ => op_addW) ow_add (ev_var (i := 1) rfl (by first | exact .inl rfl | exact .inr (.inl rfl) | exact .inr (.inr rfl))) ev_int) av_nil))) av_nil)))
    (bv_cons (sv_if (tv_w (tw_or (tv_cmp (fun _ _ => op_isW) ow_is (ev_var (i := 5) rfl (by first | exact .inl rfl | exact .inr (.inl rfl) | exact .inr (.inr rfl))) ev_non rfl) (tw_or1 (tv_cmp (fun _ _ => op_isW) ow_is (ev_var (i := 6) rfl (by first | exact .inl rfl | exact .inr (.inl rfl) | exact .inr (.inr rfl))) ev_non rfl)))) (bv_one (sv_ret ev_non)) bv_nil)
    (bv_one (sv_ret (ev_tup (av_cons (ev_ix (r65 hr.r) (ev_dct (own := false) (.cons (ev_str lt_51) (ev_str lt_2) (.cons (ev_str lt_50) (ev_str lt_4) (.cons (ev_str lt_49) (ev_str lt_3) .nil))) rfl rfl (fun z => nomatch z) (by decide) (by decide)) (ev_ix (r65 hr.r) (ev_var (i := 2) rfl (by first | exact .inl rfl | exact .inr (.inl rfl) | exact .inr (.inr rfl))) (ev_bin (own := false) (fun _ _ => op_addW) ow_add (ev_var (i := 4) rfl (by first | exact .inl rfl | exact .inr (.inl rfl) | exact .inr (.inr rfl))) ev_int))) (av_cons (ev_var (i := 5) rfl (by first | exact .inl rfl | exact .inr (.inl rfl) | exact .inr (.inr rfl))) (av_cons (ev_var (i := 6) rfl (by first | exact .inl rfl | exact .inr (.inl rfl) | exact .inr (.inr rfl))) av_nil))))))))))))))
theorem sc__law_class : FnScope ["_law_e", "_law_kinds", "_law_words"] ["_law_e"] (defScope (top 50)) := ⟨rfl, rfl, rfl, by decide +kernel, rfl, by decide +kernel, by decide +kernel⟩
theorem ok__law_class (Z : HdE K mg w fa fn kc kd be) (TB : TBs K mg base tf) : HasG P w K mg base (ecG K) "_law_class" 1 1 g__law_class := by
  exact Z.defG_ 16 16 rfl rfl sc__law_class rfl rfl (fun _ _ _ _ _ _ us hl => match us, hl with | [_], _ => rfl) fun f cdv A outer s H E hr =>
    (bv_cons (sv_set (i := 1) sc__law_class.nd rfl (by first | exact .inl rfl | exact .inr rfl) (ev_lst (own := true) (av_cons (ev_isC (k := 0) rfl (Z.er rfl) rfl rfl (ev_var (i := 0) rfl (by first | exact .inl rfl | exact .inr (.inl rfl) | exact .inr (.inr rfl))) rfl (Z.free 44) rfl) (av_cons (ev_isC (k := 1) rfl (Z.er rfl) rfl rfl (ev_var (i := 0) rfl (by first | exact .inl rfl | exact .inr (.inl rfl) | exact .inr (.inr rfl))) rfl (Z.free 44) rfl) (av_cons (ev_isC (k := 2) rfl (Z.er rfl) rfl rfl (ev_var (i := 0) rfl (by first | exact .inl rfl | exact .inr (.inl rfl) | exact .inr (.inr rfl))) rfl (Z.free 44) rfl) (av_cons (ev_isC (k := 3) rfl (Z.er rfl) rfl rfl (ev_var (i := 0) rfl (by first | exact .inl rfl | exact .inr (.inl rfl) | exact .inr (.inr rfl))) rfl (Z.free 44) rfl) av_nil))))))
    (bv_cons (sv_set (i := 1) sc__law_class.nd rfl (by first | exact .inl rfl | exact .inr rfl) (ev_bin (own := true) (fun _ _ => op_addW) ow_add (ev_var (i := 1) rfl (by first | exact .inl rfl | exact .inr (.inl rfl) | exact .inr (.inr rfl))) (ev_lst (own := false) (av_cons (ev_isC (k := 4) rfl (Z.er rfl) rfl rfl (ev_var (i := 0) rfl (by first | exact .inl rfl | exact .inr (.inl rfl) | exact .inr (.inr rfl))) rfl (Z.free 44) rfl) (av_cons (ev_isC (k := 5) rfl (Z.er rfl) rfl rfl (ev_var (i := 0) rfl (by first | exact .inl rfl | exact .inr (.inl rfl) | exact .inr (.inr rfl))) rfl (Z.free 44) rfl) (av_cons (ev_isC (k := 6) rfl (Z.er rfl) rfl rfl (ev_var (i := 0) rfl (by first | exact .inl rfl | exact .inr (.inl rfl) | exact .inr (.inr rfl))) rfl (Z.free 44) rfl) (av_cons (ev_isC (k := 7) rfl (Z.er rfl) rfl rfl (ev_var (i := 0) rfl (by first | exact .inl rfl | exact .inr (.inl rfl) | exact .inr (.inr rfl))) rfl (Z.free 44) rfl) av_nil)))))))
    (bv_cons (sv_expr (ev_mut F.slot_list_append F.type_list_append (fun _ _ => mt_append) om_append (ev_var (i := 1) rfl (by first | exact .inl rfl | exact .inr (.inl rfl) | exact .inr (.inr rfl))) (av_cons (ev_isC (k := 8) rfl (Z.er rfl) rfl rfl (ev_var (i := 0) rfl (by first | exact .inl rfl | exact .inr (.inl rfl) | exact .inr (.inr rfl))) rfl (Z.free 44) rfl) av_nil)))
    (bv_cons (sv_if (tv_w (tw_or (tv_cmp (fun _ _ => op_neD (Room.units hr.r)) ow_ne (ev_meth (own := false) F.plainAttrs_list F.slot_list_count F.type_list_count (fun _ _ => mt_countF) tym_lst om_count (ev_var (i := 1) rfl (by first | exact .inl rfl | exact .inr (.inl rfl) | exact .inr (.inr rfl))) (av_cons ev_bl av_nil)) ev_int rfl) (tw_or1 (tv_not (tv_val (ev_isVE rfl (Z.er rfl) (ev_var (i := 0) rfl (by first | exact .inl rfl | exact .inr (.inl rfl) | exact .inr (.inr rfl))) rfl (Z.free 44) rfl (Z.free 46) bo_ValueError)))))) (bv_one (sv_ret (ev_str lt_52))) bv_nil)
    (bv_cons (sv_set (i := 2) sc__law_class.nd rfl (by first | exact .inl rfl | exact .inr rfl) (ev_lst (own := false) (av_cons (ev_str lt_61) (av_cons (ev_str lt_60) (av_cons (ev_str lt_59) (av_cons (ev_str lt_58) (av_cons (ev_str lt_57) (av_cons (ev_str lt_56) (av_cons (ev_str lt_55) (av_cons (ev_str lt_54) (av_cons (ev_str lt_53) av_nil)))))))))))
    (bv_one (sv_ret (ev_ix (r65 hr.r) (ev_var (i := 2) rfl (by first | exact .inl rfl | exact .inr (.inl rfl) | exact .inr (.inr rfl))) (ev_meth (own := false) F.plainAttrs_list F.slot_list_index F.type_list_index (fun _ _ => mt_index) tym_lst om_index (ev_var (i := 1) rfl (by first | exact .inl rfl | exact .inr (.inl rfl) | exact .inr (.inr rfl))) (av_cons ev_bl av_nil))))))))))
theorem sc__law_tried : FnScope ["_law_work", "_law_found", "_law_caught", "_law_e"] ["_law_work"] (defScope (top 51)) := ⟨rfl, rfl, rfl, by decide +kernel, rfl, by decide +kernel, by decide +kernel⟩
theorem sc_bells : FnScope [] [] (defScope (top 19)) := ⟨rfl, rfl, rfl, by decide +kernel, rfl, by decide +kernel, by decide +kernel⟩
theorem ok_bells (Z : HdE K mg w fa fn kc kd be) (TB : TBs K mg base tf) : HasG P w K mg base (ecG K) "bells" 1 0 m_bells := by
  exact Z.defG_ 18 18 rfl rfl sc_bells rfl rfl (fun _ _ _ _ _ _ us hl => match us, hl with | [], _ => rfl) fun f cdv A outer s H E hr =>
    (bv_one (sv_ret (ev_callTy (own := true) (fun _ _ => call_listW rfl) oc_list rfl (Z.free 47) bo_list (av_cons (ev_glob rfl (Z.con 0).kon) av_nil))))
theorem sc_bell_number : FnScope ["name"] ["name"] (defScope (top 20)) := ⟨rfl, rfl, rfl, by decide +kernel, rfl, by decide +kernel, by decide +kernel⟩
theorem ok_bell_number (Z : HdE K mg w fa fn kc kd be) (TB : TBs K mg base tf) : HasG P w K mg base (ecG K) "bell_number" 1 1 m_bell_number := by
  exact Z.defG_ 19 19 rfl rfl sc_bell_number rfl rfl (fun _ _ _ _ _ _ us hl => match us, hl with | [_], _ => rfl) fun f cdv A outer s H E hr =>
    (bv_cons (sv_if (tv_w (tw_or (tv_not (tv_val (ev_isT ist_str (ev_var (i := 0) rfl (by first | exact .inl rfl | exact .inr (.inl rfl) | exact .inr (.inr rfl))) rfl (Z.free 44) rfl (Z.free 45) bo_str))) (tw_or1 (tv_cmp (fun _ _ => op_notInW (ec := ecG K) (r65 hr.r)) ow_notIn (ev_var (i := 0) rfl (by first | exact .inl rfl | exact .inr (.inl rfl) | exact .inr (.inr rfl))) (ev_glob rfl (Z.con 0).kon) rfl)))) (bv_one (sv_raise (c := 0) rfl (Z.er rfl) rfl rfl rfl)) bv_nil)
    (bv_one (sv_ret (ev_methK (own := false) F.plainAttrs_tuple F.slot_tuple_index F.type_tuple_index (fun _ _ => mt_tup_index) om_tindex rfl (Z.con 0).kon (av_cons (ev_var (i := 0) rfl (by first | exact .inl rfl | exact .inr (.inl rfl) | exact .inr (.inr rfl))) av_nil)))))
theorem sc_is_name : FnScope ["thing", "sign"] ["thing"] (defScope (top 17)) := ⟨rfl, rfl, rfl, by decide +kernel, rfl, by decide +kernel, by decide +kernel⟩
theorem ok_is_name (Z : HdE K mg w fa fn kc kd be) (TB : TBs K mg base tf) : HasG P w K mg base (ecG K) "is_name" 1 1 g_is_name := by
  exact Z.defG_ 20 20 rfl rfl sc_is_name rfl rfl (fun _ _ _ _ _ _ us hl => match us, hl with | [_], _ => rfl) fun f cdv A outer s H E hr =>
    (bv_cons (sv_if (tv_w (tw_or (tv_not (tv_val (ev_isT ist_str (ev_var (i := 0) rfl (by first | exact .inl rfl | exact .inr (.inl rfl) | exact .inr (.inr rfl))) rfl (Z.free 44) rfl (Z.free 45) bo_str))) (tw_or (tv_not (tv_chain (fun _ _ => op_le) (fun _ _ => op_le) (ow_cmp _) (ow_cmp _) ev_int (ev_callB (own := false) (fun _ _ => call_lenW) oc_len rfl (Z.free 38) bo_len (av_cons (ev_var (i := 0) rfl (by first | exact .inl rfl | exact .inr (.inl rfl) | exact .inr (.inr rfl))) av_nil)) (ev_glob rfl (Z.con 1).kon))) (tw_or (tv_cmp (fun _ _ => op_inW (ec := ecG K) (r65 hr.r)) ow_in (ev_var (i := 0) rfl (by first | exact .inl rfl | exact .inr (.inl rfl) | exact .inr (.inr rfl))) (ev_glob rfl (Z.con 2).kon) rfl) (tw_or1 (tv_cmp (fun _ _ => op_inW (ec := ecG K) (r65 hr.r)) ow_in (ev_var (i := 0) rfl (by first | exact .inl rfl | exact .inr (.inl rfl) | exact .inr (.inr rfl))) (ev_glob rfl (Z.con 0).kon) rfl)))))) (bv_one (sv_ret ev_bl)) bv_nil)
    (bv_one (sv_ret (ev_callB (own := false) (fun _ _ => cr_all rfl) oc_all rfl (Z.free 48) bo_all (av_cons (ev_lc (own := false) (ow := [("sign", 1)]) rfl sc_is_name.nd (iv_str (ev_var (i := 0) rfl (by first | exact .inl rfl | exact .inr (.inl rfl) | exact .inr (.inr rfl)))) (blkOk_by (N := ["thing", "sign"]) (sc := defScope (top 17)) (by decide +kernel)) (fun _ _ _ _ _ => (gv_name (i := 1) sc_is_name.nd rfl (by first | exact .inl rfl | exact .inr rfl))) (fun _ _ _ _ _ => tsv_nil) (fun _ _ _ _ _ => (ev_cmp (fun _ _ => op_inW (ec := ecG K) (r65 hr.r)) ow_in (ev_var (i := 1) rfl (by first | exact .inl rfl | exact .inr (.inl rfl) | exact .inr (.inr rfl))) (ev_glob rfl (Z.con 3).kon) rfl)) (by decide)) av_nil)))))
theorem sc__law_bells_told : FnScope ["_law_state_here", "_law_name_here", "_law_due", "_law_found", "_law_at"] ["_law_state_here", "_law_name_here"] (defScope (top 58)) := ⟨rfl, rfl, rfl, by decide +kernel, rfl, by decide +kernel, by decide +kernel⟩
theorem ok__law_bells_told (Z : HdE K mg w fa fn kc kd be) (TB : TBs K mg base tf) : HasG P w K mg base (ecG K) "_law_bells_told" 2 2 m__law_bells_told := by
  have h__law_next := ok__law_next (P := P) (w := w) (base := base) Z TB
  have h_bell_number := ok_bell_number (P := P) (w := w) (base := base) Z TB
  have h_bells := ok_bells (P := P) (w := w) (base := base) Z TB
  have h_is_name := ok_is_name (P := P) (w := w) (base := base) Z TB
  exact Z.defG_ 21 21 rfl rfl sc__law_bells_told rfl rfl (fun _ _ _ _ _ _ us hl => match us, hl with | [_, _], _ => rfl) fun f cdv A outer s H E hr =>
    (bv_cons (sv_set (i := 2) sc__law_bells_told.nd rfl (by first | exact .inl rfl | exact .inr rfl) (ev_lst (own := false) (av_cons (ev_str lt_36) (av_cons (ev_str lt_35) (av_cons (ev_str lt_34) (av_cons (ev_str lt_33) (av_cons (ev_str lt_32) (av_cons (ev_str lt_31) (av_cons (ev_str lt_30) (av_cons (ev_str lt_29) av_nil))))))))))
    (bv_cons (sv_set (i := 3) sc__law_bells_told.nd rfl (by first | exact .inl rfl | exact .inr rfl) (ev_fnG0 (h_bells.mono (by decide)) hr rfl))
    (bv_cons (sv_set (i := 4) sc__law_bells_told.nd rfl (by first | exact .inl rfl | exact .inr rfl) (ev_fnG (h__law_next.mono (by decide)) hr rfl (av_cons (ev_var (i := 0) rfl (by first | exact .inl rfl | exact .inr (.inl rfl) | exact .inr (.inr rfl))) (av_cons ev_int av_nil))))
    (bv_cons (sv_if (tv_w (tw_or (tv_cmp (fun _ _ => op_neD (Room.units hr.r)) ow_ne (ev_var (i := 3) rfl (by first | exact .inl rfl | exact .inr (.inl rfl) | exact .inr (.inr rfl))) (ev_var (i := 2) rfl (by first | exact .inl rfl | exact .inr (.inl rfl) | exact .inr (.inr rfl))) rfl) (tw_or (tv_cmp (fun _ _ => op_neD (Room.units hr.r)) ow_ne (ev_fnG (h_bell_number.mono (by decide)) hr rfl (av_cons (ev_ix (r65 hr.r) (ev_var (i := 3) rfl (by first | exact .inl rfl | exact .inr (.inl rfl) | exact .inr (.inr rfl))) (ev_var (i := 4) rfl (by first | exact .inl rfl | exact .inr (.inl rfl) | exact .inr (.inr rfl)))) av_nil)) (ev_var (i := 4) rfl (by first | exact .inl rfl | exact .inr (.inl rfl) | exact .inr (.inr rfl))) rfl) (tw_or (tv_cmp (fun _ _ => op_isNotW) ow_isNot (ev_fnG (h_is_name.mono (by decide)) hr rfl (av_cons (ev_var (i := 1) rfl (by first | exact .inl rfl | exact .inr (.inl rfl) | exact .inr (.inr rfl))) av_nil)) ev_bl rfl) (tw_or1 (tv_cmp (fun _ _ => op_isNotW) ow_isNot (ev_fnG (h_is_name.mono (by decide)) hr rfl (av_cons (ev_ix (r65 hr.r) (ev_var (i := 3) rfl (by first | exact .inl rfl | exact .inr (.inl rfl) | exact .inr (.inr rfl))) (ev_var (i := 4) rfl (by first | exact .inl rfl | exact .inr (.inl rfl) | exact .inr (.inr rfl)))) av_nil)) ev_bl rfl)))))) (bv_one (sv_ret ev_bl)) bv_nil)
    (bv_cons (sv_expr (ev_mut0 F.slot_list_reverse F.type_list_reverse (fun _ _ => mt_reverse) om_reverse (ev_var (i := 3) rfl (by first | exact .inl rfl | exact .inr (.inl rfl) | exact .inr (.inr rfl)))))
    (bv_one (sv_ret (ev_cmp (fun _ _ => op_eqD (Room.units hr.r)) ow_eq (ev_fnG0 (h_bells.mono (by decide)) hr rfl) (ev_var (i := 2) rfl (by first | exact .inl rfl | exact .inr (.inl rfl) | exact .inr (.inr rfl))) rfl))))))))
theorem sc__law_text : FnScope ["_law_term_here", "_law_sign"] ["_law_term_here"] (defScope (top 47)) := ⟨rfl, rfl, rfl, by decide +kernel, rfl, by decide +kernel, by decide +kernel⟩
theorem ok__law_text (Z : HdE K mg w fa fn kc kd be) (TB : TBs K mg base tf) : ∀ r : Nat, HasG P w K mg base (ecG K) "_law_text" (0 + r) 1 (g__law_text r)
  | 0 => Z.zeroG 22 22 (ps := ["_law_term_here"]) rfl rfl rfl (fun _ _ _ _ _ _ us hl => match us, hl with | [_], _ => rfl)
  | r + 1 => by
    have ih := ok__law_text Z TB r
    exact Z.defG_ (k := 0 + r) 22 22 rfl rfl sc__law_text rfl rfl (fun _ _ _ _ _ _ us hl => match us, hl with | [_], _ => rfl) fun f cdv A outer s H E hr =>
    (bv_cons (sv_if (tv_cmp (fun _ _ => op_inW (ec := ecG K) (r65 hr.r)) ow_in (ev_ix (r65 hr.r) (ev_var (i := 0) rfl (by first | exact .inl rfl | exact .inr (.inl rfl) | exact .inr (.inr rfl))) ev_int) (ev_tup (av_cons (ev_str lt_1) (av_cons (ev_str lt_0) av_nil))) rfl) (bv_one (sv_ret (ev_callTy (own := false) (fun _ _ => (call_str_int.or SkE.call_str_str)) oc_str rfl (Z.free 45) bo_str (av_cons (ev_ix (r65 hr.r) (ev_var (i := 0) rfl (by first | exact .inl rfl | exact .inr (.inl rfl) | exact .inr (.inr rfl))) ev_int) av_nil)))) bv_nil)
    (bv_cons (sv_set (i := 1) sc__law_text.nd rfl (by first | exact .inl rfl | exact .inr rfl) (ev_ix (r65 hr.r) (ev_dct (own := false) (.cons (ev_str lt_2) (ev_str lt_51) (.cons (ev_str lt_4) (ev_str lt_50) (.cons (ev_str lt_3) (ev_str lt_49) .nil))) rfl rfl (fun z => nomatch z) (by decide) (by decide)) (ev_ix (r65 hr.r) (ev_var (i := 0) rfl (by first | exact .inl rfl | exact .inr (.inl rfl) | exact .inr (.inr rfl))) ev_int)))
    (bv_one (sv_ret (ev_bin (own := false) (fun _ _ => op_addW) ow_add (ev_bin (own := false) (fun _ _ => op_addW) ow_add (ev_bin (own := false) (fun _ _ => op_addW) ow_add (ev_bin (own := false) (fun _ _ => op_addW) ow_add (ev_bin (own := false) (fun _ _ => op_addW) ow_add (ev_bin (own := false) (fun _ _ => op_addW) ow_add (ev_str lt_42) (ev_fnG (ih.mono (Nat.le_refl _)) hr rfl (av_cons (ev_ix (r65 hr.r) (ev_var (i := 0) rfl (by first | exact .inl rfl | exact .inr (.inl rfl) | exact .inr (.inr rfl))) ev_int) av_nil))) (ev_str lt_62)) (ev_var (i := 1) rfl (by first | exact .inl rfl | exact .inr (.inl rfl) | exact .inr (.inr rfl)))) (ev_str lt_62)) (ev_fnG (ih.mono (Nat.le_refl _)) hr rfl (av_cons (ev_ix (r65 hr.r) (ev_var (i := 0) rfl (by first | exact .inl rfl | exact .inr (.inl rfl) | exact .inr (.inr rfl))) ev_int) av_nil))) (ev_str lt_43))))))
theorem sc_number_told : FnScope ["word", "most", "sign"] ["word", "most"] (defScope (top 21)) := ⟨rfl, rfl, rfl, by decide +kernel, rfl, by decide +kernel, by decide +kernel⟩
theorem ok_number_told (Z : HdE K mg w fa fn kc kd be) (TB : TBs K mg base tf) : HasG P w K mg base (ecG K) "number_told" 1 2 g_number_told := by
  exact Z.defG_ 23 23 rfl rfl sc_number_told rfl rfl (fun _ _ _ _ _ _ us hl => match us, hl with | [_, _], _ => rfl) fun f cdv A outer s H E hr =>
    (bv_cons (sv_if (tv_w (tw_or (tv_not (tv_chain (fun _ _ => op_le) (fun _ _ => op_le) (ow_cmp _) (ow_cmp _) ev_int (ev_callB (own := false) (fun _ _ => call_lenW) oc_len rfl (Z.free 38) bo_len (av_cons (ev_var (i := 0) rfl (by first | exact .inl rfl | exact .inr (.inl rfl) | exact .inr (.inr rfl))) av_nil)) (ev_callB (own := false) (fun _ _ => call_lenW) oc_len rfl (Z.free 38) bo_len (av_cons (ev_callTy (own := false) (fun _ _ => (call_str_int.or SkE.call_str_str)) oc_str rfl (Z.free 45) bo_str (av_cons (ev_var (i := 1) rfl (by first | exact .inl rfl | exact .inr (.inl rfl) | exact .inr (.inr rfl))) av_nil)) av_nil)))) (tw_or1 (tv_not (tv_val (ev_callB (own := false) (fun _ _ => cr_all rfl) oc_all rfl (Z.free 48) bo_all (av_cons (ev_lc (own := false) (ow := [("sign", 2)]) rfl sc_number_told.nd (iv_str (ev_var (i := 0) rfl (by first | exact .inl rfl | exact .inr (.inl rfl) | exact .inr (.inr rfl)))) (blkOk_by (N := ["word", "most", "sign"]) (sc := defScope (top 21)) (by decide +kernel)) (fun _ _ _ _ _ => (gv_name (i := 2) sc_number_told.nd rfl (by first | exact .inl rfl | exact .inr rfl))) (fun _ _ _ _ _ => tsv_nil) (fun _ _ _ _ _ => (ev_cmp (fun _ _ => op_inW (ec := ecG K) (r65 hr.r)) ow_in (ev_var (i := 2) rfl (by first | exact .inl rfl | exact .inr (.inl rfl) | exact .inr (.inr rfl))) (ev_glob rfl (Z.con 4).kon) rfl)) (by decide)) av_nil))))))) (bv_one (sv_ret ev_non)) bv_nil)
    (bv_cons (sv_if (tv_w (tw_and (tv_cmp (fun _ _ => op_neD (Room.units hr.r)) ow_ne (ev_var (i := 0) rfl (by first | exact .inl rfl | exact .inr (.inl rfl) | exact .inr (.inr rfl))) (ev_str lt_48) rfl) (tw_and1 (tv_val (ev_meth (own := false) F.plainAttrs_str F.slot_str_startswith F.type_str_startswith (fun _ _ => mt_startswith) tym_str om_starts (ev_var (i := 0) rfl (by first | exact .inl rfl | exact .inr (.inl rfl) | exact .inr (.inr rfl))) (av_cons (ev_str lt_48) av_nil)))))) (bv_one (sv_ret ev_non)) bv_nil)
    (bv_one (sv_ret (ev_if (tv_cmp (fun _ _ => op_le) (ow_cmp _) (ev_callTy (own := false) (fun _ _ => (call_int1.or call_int_str)) oc_intW rfl (Z.free 42) bo_int (av_cons (ev_var (i := 0) rfl (by first | exact .inl rfl | exact .inr (.inl rfl) | exact .inr (.inr rfl))) av_nil)) (ev_var (i := 1) rfl (by first | exact .inl rfl | exact .inr (.inl rfl) | exact .inr (.inr rfl))) rfl) (ev_callTy (own := false) (fun _ _ => (call_int1.or call_int_str)) oc_intW rfl (Z.free 42) bo_int (av_cons (ev_var (i := 0) rfl (by first | exact .inl rfl | exact .inr (.inl rfl) | exact .inr (.inr rfl))) av_nil)) ev_non)))))
theorem sc_leaf_at : FnScope ["text", "place", "last", "word", "number"] ["text", "place"] (defScope (top 34)) := ⟨rfl, rfl, rfl, by decide +kernel, rfl, by decide +kernel, by decide +kernel⟩
theorem ok_leaf_at (Z : HdE K mg w fa fn kc kd be) (TB : TBs K mg base tf) : HasG P w K mg base (ecG K) "leaf_at" 2 2 g_leaf_at := by
  have h_is_name := ok_is_name (P := P) (w := w) (base := base) Z TB
  have h_number_told := ok_number_told (P := P) (w := w) (base := base) Z TB
  exact Z.defG_ 24 24 rfl rfl sc_leaf_at rfl rfl (fun _ _ _ _ _ _ us hl => match us, hl with | [_, _], _ => rfl) fun f cdv A outer s H E hr =>
    (bv_cons (sv_set (i := 2) sc_leaf_at.nd rfl (by first | exact .inl rfl | exact .inr rfl) (ev_var (i := 1) rfl (by first | exact .inl rfl | exact .inr (.inl rfl) | exact .inr (.inr rfl))))
    (bv_cons (sv_whileN (tv_w (tw_and (tv_cmp (fun _ _ => op_lt) (ow_cmp _) (ev_var (i := 2) rfl (by first | exact .inl rfl | exact .inr (.inl rfl) | exact .inr (.inr rfl))) (ev_callB (own := false) (fun _ _ => call_lenW) oc_len rfl (Z.free 38) bo_len (av_cons (ev_var (i := 0) rfl (by first | exact .inl rfl | exact .inr (.inl rfl) | exact .inr (.inr rfl))) av_nil)) rfl) (tw_and1 (tv_cmp (fun _ _ => op_inW (ec := ecG K) (r65 hr.r)) ow_in (ev_ix (r65 hr.r) (ev_var (i := 0) rfl (by first | exact .inl rfl | exact .inr (.inl rfl) | exact .inr (.inr rfl))) (ev_var (i := 2) rfl (by first | exact .inl rfl | exact .inr (.inl rfl) | exact .inr (.inr rfl)))) (ev_bin (own := false) (fun _ _ => op_addW) ow_add (ev_glob rfl (Z.con 3).kon) (ev_glob rfl (Z.con 4).kon)) rfl)))) (bv_one (sv_aug (i := 2) sc_leaf_at.nd rfl (by first | exact .inl rfl | exact .inr rfl) (fun _ _ => iop_add) ow_addI ev_int)))
    (bv_cons (sv_set (i := 3) sc_leaf_at.nd rfl (by first | exact .inl rfl | exact .inr rfl) (ev_sl (own := false) (ev_var (i := 0) rfl (by first | exact .inl rfl | exact .inr (.inl rfl) | exact .inr (.inr rfl))) (ov_some (ev_var (i := 1) rfl (by first | exact .inl rfl | exact .inr (.inl rfl) | exact .inr (.inr rfl)))) (ov_some (ev_var (i := 2) rfl (by first | exact .inl rfl | exact .inr (.inl rfl) | exact .inr (.inr rfl))))))
    (bv_cons (sv_if (tv_val (ev_fnG (h_is_name.mono (by decide)) hr rfl (av_cons (ev_var (i := 3) rfl (by first | exact .inl rfl | exact .inr (.inl rfl) | exact .inr (.inr rfl))) av_nil))) (bv_one (sv_ret (ev_tup (av_cons (ev_tup (av_cons (ev_str lt_0) (av_cons (ev_var (i := 3) rfl (by first | exact .inl rfl | exact .inr (.inl rfl) | exact .inr (.inr rfl))) av_nil))) (av_cons (ev_var (i := 2) rfl (by first | exact .inl rfl | exact .inr (.inl rfl) | exact .inr (.inr rfl))) av_nil))))) bv_nil)
    (bv_cons (sv_set (i := 4) sc_leaf_at.nd rfl (by first | exact .inl rfl | exact .inr rfl) (ev_fnG (h_number_told.mono (by decide)) hr rfl (av_cons (ev_var (i := 3) rfl (by first | exact .inl rfl | exact .inr (.inl rfl) | exact .inr (.inr rfl))) (av_cons (ev_glob rfl (Z.con 5).kon) av_nil))))
    (bv_cons (sv_if (tv_cmp (fun _ _ => op_isW) ow_is (ev_var (i := 4) rfl (by first | exact .inl rfl | exact .inr (.inl rfl) | exact .inr (.inr rfl))) ev_non rfl) (bv_one (sv_raise (c := 2) rfl (Z.er rfl) rfl rfl rfl)) bv_nil)
    (bv_one (sv_ret (ev_tup (av_cons (ev_tup (av_cons (ev_str lt_1) (av_cons (ev_var (i := 4) rfl (by first | exact .inl rfl | exact .inr (.inl rfl) | exact .inr (.inr rfl))) av_nil))) (av_cons (ev_var (i := 2) rfl (by first | exact .inl rfl | exact .inr (.inl rfl) | exact .inr (.inr rfl))) av_nil)))))))))))
theorem sc_term_at : FnScope ["text", "place", "deep", "sign", "one", "middle", "other", "last"] ["text", "place", "deep"] (defScope (top 35)) := ⟨rfl, rfl, rfl, by decide +kernel, rfl, by decide +kernel, by decide +kernel⟩
theorem ok_term_at (Z : HdE K mg w fa fn kc kd be) (TB : TBs K mg base tf) : ∀ r : Nat, HasG P w K mg base (ecG K) "term_at" (2 + r) 3 (g_term_at r)
  | 0 => Z.zeroG 25 25 (ps := ["text", "place", "deep"]) rfl rfl rfl (fun _ _ _ _ _ _ us hl => match us, hl with | [_, _, _], _ => rfl)
  | r + 1 => by
    have ih := ok_term_at Z TB r
    have h_leaf_at := ok_leaf_at (P := P) (w := w) (base := base) Z TB
    exact Z.defG_ (k := 2 + r) 25 25 rfl rfl sc_term_at rfl rfl (fun _ _ _ _ _ _ us hl => match us, hl with | [_, _, _], _ => rfl) fun f cdv A outer s H E hr =>
    (bv_cons (sv_if (tv_cmp (fun _ _ => op_gt) (ow_cmp _) (ev_var (i := 2) rfl (by first | exact .inl rfl | exact .inr (.inl rfl) | exact .inr (.inr rfl))) (ev_glob rfl (Z.con 6).kon) rfl) (bv_one (sv_raise (c := 2) rfl (Z.er rfl) rfl rfl rfl)) bv_nil)
    (bv_cons (sv_if (tv_cmp (fun _ _ => op_neD (Room.units hr.r)) ow_ne (ev_sl (own := false) (ev_var (i := 0) rfl (by first | exact .inl rfl | exact .inr (.inl rfl) | exact .inr (.inr rfl))) (ov_some (ev_var (i := 1) rfl (by first | exact .inl rfl | exact .inr (.inl rfl) | exact .inr (.inr rfl)))) (ov_some (ev_bin (own := false) (fun _ _ => op_addW) ow_add (ev_var (i := 1) rfl (by first | exact .inl rfl | exact .inr (.inl rfl) | exact .inr (.inr rfl))) ev_int))) (ev_str lt_42) rfl) (bv_one (sv_ret (ev_fnG (h_leaf_at.mono (by omega)) hr rfl (av_cons (ev_var (i := 0) rfl (by first | exact .inl rfl | exact .inr (.inl rfl) | exact .inr (.inr rfl))) (av_cons (ev_var (i := 1) rfl (by first | exact .inl rfl | exact .inr (.inl rfl) | exact .inr (.inr rfl))) av_nil))))) bv_nil)
    (bv_cons (sv_asgT (ev_fnG (ih.mono (Nat.le_refl _)) hr rfl (av_cons (ev_var (i := 0) rfl (by first | exact .inl rfl | exact .inr (.inl rfl) | exact .inr (.inr rfl))) (av_cons (ev_bin (own := false) (fun _ _ => op_addW) ow_add (ev_var (i := 1) rfl (by first | exact .inl rfl | exact .inr (.inl rfl) | exact .inr (.inr rfl))) ev_int) (av_cons (ev_bin (own := false) (fun _ _ => op_addW) ow_add (ev_var (i := 2) rfl (by first | exact .inl rfl | exact .inr (.inl rfl) | exact .inr (.inr rfl))) ev_int) av_nil)))) (gv_tup rfl (gsv_cons (gv_name (i := 4) sc_term_at.nd rfl (by first | exact .inl rfl | exact .inr rfl)) (gsv_cons (gv_name (i := 5) sc_term_at.nd rfl (by first | exact .inl rfl | exact .inr rfl)) gsv_nil))))
    (bv_cons (sv_set (i := 3) sc_term_at.nd rfl (by first | exact .inl rfl | exact .inr rfl) (ev_sl (own := false) (ev_var (i := 0) rfl (by first | exact .inl rfl | exact .inr (.inl rfl) | exact .inr (.inr rfl))) (ov_some (ev_var (i := 5) rfl (by first | exact .inl rfl | exact .inr (.inl rfl) | exact .inr (.inr rfl)))) (ov_some (ev_bin (own := false) (fun _ _ => op_addW) ow_add (ev_var (i := 5) rfl (by first | exact .inl rfl | exact .inr (.inl rfl) | exact .inr (.inr rfl))) ev_int))))
    (bv_cons (sv_if (tv_cmp (fun _ _ => op_notInW (ec := ecG K) (r65 hr.r)) ow_notIn (ev_var (i := 3) rfl (by first | exact .inl rfl | exact .inr (.inl rfl) | exact .inr (.inr rfl))) (ev_glob rfl (Z.dic 0).kon) rfl) (bv_one (sv_raise (c := 2) rfl (Z.er rfl) rfl rfl rfl)) bv_nil)
    (bv_cons (sv_asgT (ev_fnG (ih.mono (Nat.le_refl _)) hr rfl (av_cons (ev_var (i := 0) rfl (by first | exact .inl rfl | exact .inr (.inl rfl) | exact .inr (.inr rfl))) (av_cons (ev_bin (own := false) (fun _ _ => op_addW) ow_add (ev_var (i := 5) rfl (by first | exact .inl rfl | exact .inr (.inl rfl) | exact .inr (.inr rfl))) ev_int) (av_cons (ev_bin (own := false) (fun _ _ => op_addW) ow_add (ev_var (i := 2) rfl (by first | exact .inl rfl | exact .inr (.inl rfl) | exact .inr (.inr rfl))) ev_int) av_nil)))) (gv_tup rfl (gsv_cons (gv_name (i := 6) sc_term_at.nd rfl (by first | exact .inl rfl | exact .inr rfl)) (gsv_cons (gv_name (i := 7) sc_term_at.nd rfl (by first | exact .inl rfl | exact .inr rfl)) gsv_nil))))
    (bv_cons (sv_if (tv_cmp (fun _ _ => op_neD (Room.units hr.r)) ow_ne (ev_sl (own := false) (ev_var (i := 0) rfl (by first | exact .inl rfl | exact .inr (.inl rfl) | exact .inr (.inr rfl))) (ov_some (ev_var (i := 7) rfl (by first | exact .inl rfl | exact .inr (.inl rfl) | exact .inr (.inr rfl)))) (ov_some (ev_bin (own := false) (fun _ _ => op_addW) ow_add (ev_var (i := 7) rfl (by first | exact .inl rfl | exact .inr (.inl rfl) | exact .inr (.inr rfl))) ev_int))) (ev_str lt_43) rfl) (bv_one (sv_raise (c := 2) rfl (Z.er rfl) rfl rfl rfl)) bv_nil)
    (bv_one (sv_ret (ev_tup (av_cons (ev_tup (av_cons (ev_ix (r65 hr.r) (ev_glob rfl (Z.dic 0).kon) (ev_var (i := 3) rfl (by first | exact .inl rfl | exact .inr (.inl rfl) | exact .inr (.inr rfl)))) (av_cons (ev_var (i := 4) rfl (by first | exact .inl rfl | exact .inr (.inl rfl) | exact .inr (.inr rfl))) (av_cons (ev_var (i := 6) rfl (by first | exact .inl rfl | exact .inr (.inl rfl) | exact .inr (.inr rfl))) av_nil)))) (av_cons (ev_bin (own := false) (fun _ _ => op_addW) ow_add (ev_var (i := 7) rfl (by first | exact .inl rfl | exact .inr (.inl rfl) | exact .inr (.inr rfl))) ev_int) av_nil))))))))))))
theorem sc_read_term : FnScope ["text", "found", "last"] ["text"] (defScope (top 36)) := ⟨rfl, rfl, rfl, by decide +kernel, rfl, by decide +kernel, by decide +kernel⟩
theorem ok_read_term (Z : HdE K mg w fa fn kc kd be) (TB : TBs K mg base tf) : HasG P w K mg base (ecG K) "read_term" 11 1 g_read_term := by
  have h_term_at := ok_term_at (P := P) (w := w) (base := base) Z TB
  exact Z.defG_ 26 26 rfl rfl sc_read_term rfl rfl (fun _ _ _ _ _ _ us hl => match us, hl with | [_], _ => rfl) fun f cdv A outer s H E hr =>
    (bv_cons (sv_if (tv_not (tv_val (ev_isT ist_str (ev_var (i := 0) rfl (by first | exact .inl rfl | exact .inr (.inl rfl) | exact .inr (.inr rfl))) rfl (Z.free 44) rfl (Z.free 45) bo_str))) (bv_one (sv_raise (c := 2) rfl (Z.er rfl) rfl rfl rfl)) bv_nil)
    (bv_cons (sv_asgT (ev_fnG ((h_term_at 8).mono (by decide)) hr rfl (av_cons (ev_var (i := 0) rfl (by first | exact .inl rfl | exact .inr (.inl rfl) | exact .inr (.inr rfl))) (av_cons ev_int (av_cons ev_int av_nil)))) (gv_tup rfl (gsv_cons (gv_name (i := 1) sc_read_term.nd rfl (by first | exact .inl rfl | exact .inr rfl)) (gsv_cons (gv_name (i := 2) sc_read_term.nd rfl (by first | exact .inl rfl | exact .inr rfl)) gsv_nil))))
    (bv_cons (sv_if (tv_cmp (fun _ _ => op_lt) (ow_cmp _) (ev_var (i := 2) rfl (by first | exact .inl rfl | exact .inr (.inl rfl) | exact .inr (.inr rfl))) (ev_callB (own := false) (fun _ _ => call_lenW) oc_len rfl (Z.free 38) bo_len (av_cons (ev_var (i := 0) rfl (by first | exact .inl rfl | exact .inr (.inl rfl) | exact .inr (.inr rfl))) av_nil)) rfl) (bv_one (sv_raise (c := 2) rfl (Z.er rfl) rfl rfl rfl)) bv_nil)
    (bv_one (sv_ret (ev_var (i := 1) rfl (by first | exact .inl rfl | exact .inr (.inl rfl) | exact .inr (.inr rfl))))))))
theorem sc_is_number : FnScope ["thing", "most"] ["thing", "most"] (defScope (top 18)) := ⟨rfl, rfl, rfl, by decide +kernel, rfl, by decide +kernel, by decide +kernel⟩
theorem ok_is_number (Z : HdE K mg w fa fn kc kd be) (TB : TBs K mg base tf) : HasG P w K mg base (ecG K) "is_number" 1 2 g_is_number := by
  exact Z.defG_ 27 27 rfl rfl sc_is_number rfl rfl (fun _ _ _ _ _ _ us hl => match us, hl with | [_, _], _ => rfl) fun f cdv A outer s H E hr =>
    (bv_one (sv_ret (ev_and (ev_isT ist_int (ev_var (i := 0) rfl (by first | exact .inl rfl | exact .inr (.inl rfl) | exact .inr (.inr rfl))) rfl (Z.free 44) rfl (Z.free 42) bo_int) (ev_and (ev_not (ev_isT ist_bool (ev_var (i := 0) rfl (by first | exact .inl rfl | exact .inr (.inl rfl) | exact .inr (.inr rfl))) rfl (Z.free 44) rfl (Z.free 49) bo_bool)) (ev_one (ev_chain (fun _ _ => op_le) (fun _ _ => op_le) (ow_cmp _) (ow_cmp _) ev_int (ev_var (i := 0) rfl (by first | exact .inl rfl | exact .inr (.inl rfl) | exact .inr (.inr rfl))) (ev_var (i := 1) rfl (by first | exact .inl rfl | exact .inr (.inl rfl) | exact .inr (.inr rfl)))))))))
theorem sc_stands_so : FnScope ["thing", "deep", "part"] ["thing", "deep"] (defScope (top 27)) := ⟨rfl, rfl, rfl, by decide +kernel, rfl, by decide +kernel, by decide +kernel⟩
theorem ok_stands_so (Z : HdE K mg w fa fn kc kd be) (TB : TBs K mg base tf) : ∀ r : Nat, HasG P w K mg base (ecG K) "stands_so" (1 + r) 2 (g_stands_so r)
  | 0 => Z.zeroG 28 28 (ps := ["thing", "deep"]) rfl rfl rfl (fun _ _ _ _ _ _ us hl => match us, hl with | [_, _], _ => rfl)
  | r + 1 => by
    have ih := ok_stands_so Z TB r
    have h_is_name := ok_is_name (P := P) (w := w) (base := base) Z TB
    have h_is_number := ok_is_number (P := P) (w := w) (base := base) Z TB
    exact Z.defG_ (k := 1 + r) 28 28 rfl rfl sc_stands_so rfl rfl (fun _ _ _ _ _ _ us hl => match us, hl with | [_, _], _ => rfl) fun f cdv A outer s H E hr =>
    (bv_cons (sv_if (tv_w (tw_or (tv_cmp (fun _ _ => op_gt) (ow_cmp _) (ev_var (i := 1) rfl (by first | exact .inl rfl | exact .inr (.inl rfl) | exact .inr (.inr rfl))) (ev_glob rfl (Z.con 6).kon) rfl) (tw_or (tv_not (tv_val (ev_isT ist_tuple (ev_var (i := 0) rfl (by first | exact .inl rfl | exact .inr (.inl rfl) | exact .inr (.inr rfl))) rfl (Z.free 44) rfl (Z.free 50) bo_tuple))) (tw_or (tv_cmp (fun _ _ => op_eqD (Room.units hr.r)) ow_eq (ev_callB (own := false) (fun _ _ => call_lenW) oc_len rfl (Z.free 38) bo_len (av_cons (ev_var (i := 0) rfl (by first | exact .inl rfl | exact .inr (.inl rfl) | exact .inr (.inr rfl))) av_nil)) ev_int rfl) (tw_or1 (tv_not (tv_val (ev_isT ist_str (ev_ix (r65 hr.r) (ev_var (i := 0) rfl (by first | exact .inl rfl | exact .inr (.inl rfl) | exact .inr (.inr rfl))) ev_int) rfl (Z.free 44) rfl (Z.free 45) bo_str)))))))) (bv_one (sv_ret ev_bl)) bv_nil)
    (bv_cons (sv_if (tv_cmp (fun _ _ => op_eqD (Room.units hr.r)) ow_eq (ev_ix (r65 hr.r) (ev_var (i := 0) rfl (by first | exact .inl rfl | exact .inr (.inl rfl) | exact .inr (.inr rfl))) ev_int) (ev_str lt_1) rfl) (bv_one (sv_ret (ev_and (ev_cmp (fun _ _ => op_eqD (Room.units hr.r)) ow_eq (ev_callB (own := false) (fun _ _ => call_lenW) oc_len rfl (Z.free 38) bo_len (av_cons (ev_var (i := 0) rfl (by first | exact .inl rfl | exact .inr (.inl rfl) | exact .inr (.inr rfl))) av_nil)) ev_int rfl) (ev_one (ev_fnG (h_is_number.mono (by omega)) hr rfl (av_cons (ev_ix (r65 hr.r) (ev_var (i := 0) rfl (by first | exact .inl rfl | exact .inr (.inl rfl) | exact .inr (.inr rfl))) ev_int) (av_cons (ev_glob rfl (Z.con 5).kon) av_nil))))))) bv_nil)
    (bv_cons (sv_if (tv_cmp (fun _ _ => op_eqD (Room.units hr.r)) ow_eq (ev_ix (r65 hr.r) (ev_var (i := 0) rfl (by first | exact .inl rfl | exact .inr (.inl rfl) | exact .inr (.inr rfl))) ev_int) (ev_str lt_0) rfl) (bv_one (sv_ret (ev_and (ev_cmp (fun _ _ => op_eqD (Room.units hr.r)) ow_eq (ev_callB (own := false) (fun _ _ => call_lenW) oc_len rfl (Z.free 38) bo_len (av_cons (ev_var (i := 0) rfl (by first | exact .inl rfl | exact .inr (.inl rfl) | exact .inr (.inr rfl))) av_nil)) ev_int rfl) (ev_one (ev_fnG (h_is_name.mono (by omega)) hr rfl (av_cons (ev_ix (r65 hr.r) (ev_var (i := 0) rfl (by first | exact .inl rfl | exact .inr (.inl rfl) | exact .inr (.inr rfl))) ev_int) av_nil)))))) bv_nil)
    (bv_one (sv_ret (ev_and (ev_cmp (fun _ _ => op_inW (ec := ecG K) (r65 hr.r)) ow_in (ev_ix (r65 hr.r) (ev_var (i := 0) rfl (by first | exact .inl rfl | exact .inr (.inl rfl) | exact .inr (.inr rfl))) ev_int) (ev_glob rfl (Z.dic 1).kon) rfl) (ev_and (ev_cmp (fun _ _ => op_eqD (Room.units hr.r)) ow_eq (ev_callB (own := false) (fun _ _ => call_lenW) oc_len rfl (Z.free 38) bo_len (av_cons (ev_var (i := 0) rfl (by first | exact .inl rfl | exact .inr (.inl rfl) | exact .inr (.inr rfl))) av_nil)) ev_int rfl) (ev_one (ev_callB (own := false) (fun _ _ => cr_all rfl) oc_all rfl (Z.free 48) bo_all (av_cons (ev_lc (own := false) (ow := [("part", 2)]) rfl sc_stands_so.nd (iv_tuple (ev_sl (own := false) (ev_var (i := 0) rfl (by first | exact .inl rfl | exact .inr (.inl rfl) | exact .inr (.inr rfl))) (ov_some ev_int) ov_none)) (blkOk_by (N := ["thing", "deep", "part"]) (sc := defScope (top 27)) (by decide +kernel)) (fun _ _ _ _ _ => (gv_name (i := 2) sc_stands_so.nd rfl (by first | exact .inl rfl | exact .inr rfl))) (fun _ _ _ _ _ => tsv_nil) (fun _ _ _ _ _ => (ev_fnG (ih.mono (Nat.le_refl _)) hr rfl (av_cons (ev_var (i := 2) rfl (by first | exact .inl rfl | exact .inr (.inl rfl) | exact .inr (.inr rfl))) (av_cons (ev_bin (own := false) (fun _ _ => op_addW) ow_add (ev_var (i := 1) rfl (by first | exact .inl rfl | exact .inr (.inl rfl) | exact .inr (.inr rfl))) ev_int) av_nil)))) (by decide)) av_nil))))))))))
theorem sc_is_term : FnScope ["thing"] ["thing"] (defScope (top 28)) := ⟨rfl, rfl, rfl, by decide +kernel, rfl, by decide +kernel, by decide +kernel⟩
theorem ok_is_term (Z : HdE K mg w fa fn kc kd be) (TB : TBs K mg base tf) : HasG P w K mg base (ecG K) "is_term" 10 1 g_is_term := by
  have h_stands_so := ok_stands_so (P := P) (w := w) (base := base) Z TB
  exact Z.defG_ 29 29 rfl rfl sc_is_term rfl rfl (fun _ _ _ _ _ _ us hl => match us, hl with | [_], _ => rfl) fun f cdv A outer s H E hr =>
    (bv_one (sv_ret (ev_fnG ((h_stands_so 8).mono (by decide)) hr rfl (av_cons (ev_var (i := 0) rfl (by first | exact .inl rfl | exact .inr (.inl rfl) | exact .inr (.inr rfl))) (av_cons ev_int av_nil)))))
theorem sc_need_term : FnScope ["thing"] ["thing"] (defScope (top 29)) := ⟨rfl, rfl, rfl, by decide +kernel, rfl, by decide +kernel, by decide +kernel⟩
theorem ok_need_term (Z : HdE K mg w fa fn kc kd be) (TB : TBs K mg base tf) : HasG P w K mg base (ecG K) "need_term" 11 1 m_need_term := by
  have h_is_term := ok_is_term (P := P) (w := w) (base := base) Z TB
  exact Z.defG_ 30 30 rfl rfl sc_need_term rfl rfl (fun _ _ _ _ _ _ us hl => match us, hl with | [_], _ => rfl) fun f cdv A outer s H E hr =>
    (bv_one (sv_if (tv_not (tv_val (ev_fnG (h_is_term.mono (by decide)) hr rfl (av_cons (ev_var (i := 0) rfl (by first | exact .inl rfl | exact .inr (.inl rfl) | exact .inr (.inr rfl))) av_nil)))) (bv_one (sv_raise (c := 0) rfl (Z.er rfl) rfl rfl rfl)) bv_nil))
theorem sc_worth : FnScope ["term", "boxes", "one", "other", "part"] ["term", "boxes"] (defScope (top 30)) := ⟨rfl, rfl, rfl, by decide +kernel, rfl, by decide +kernel, by decide +kernel⟩
theorem ok_worth (Z : HdE K mg w fa fn kc kd be) (TB : TBs K mg base tf) : ∀ r : Nat, HasG P w K mg base (ecG K) "worth" (0 + r) 2 (g_worth r)
  | 0 => Z.zeroG 31 31 (ps := ["term", "boxes"]) rfl rfl rfl (fun _ _ _ _ _ _ us hl => match us, hl with | [_, _], _ => rfl)
  | r + 1 => by
    have ih := ok_worth Z TB r
    exact Z.defG_ (k := 0 + r) 31 31 rfl rfl sc_worth rfl rfl (fun _ _ _ _ _ _ us hl => match us, hl with | [_, _], _ => rfl) fun f cdv A outer s H E hr =>
    (bv_cons (sv_if (tv_cmp (fun _ _ => op_eqD (Room.units hr.r)) ow_eq (ev_ix (r65 hr.r) (ev_var (i := 0) rfl (by first | exact .inl rfl | exact .inr (.inl rfl) | exact .inr (.inr rfl))) ev_int) (ev_str lt_1) rfl) (bv_one (sv_ret (ev_ix (r65 hr.r) (ev_var (i := 0) rfl (by first | exact .inl rfl | exact .inr (.inl rfl) | exact .inr (.inr rfl))) ev_int))) bv_nil)
    (bv_cons (sv_if (tv_cmp (fun _ _ => op_eqD (Room.units hr.r)) ow_eq (ev_ix (r65 hr.r) (ev_var (i := 0) rfl (by first | exact .inl rfl | exact .inr (.inl rfl) | exact .inr (.inr rfl))) ev_int) (ev_str lt_0) rfl) (bv_one (sv_ret (ev_get2 (r65 hr.r) (ev_var (i := 1) rfl (by first | exact .inl rfl | exact .inr (.inl rfl) | exact .inr (.inr rfl))) (ev_ix (r65 hr.r) (ev_var (i := 0) rfl (by first | exact .inl rfl | exact .inr (.inl rfl) | exact .inr (.inr rfl))) ev_int) ev_int (fun _ _ => ⟨rfl, rfl, rfl, rfl⟩)))) bv_nil)
    (bv_cons (sv_asgT (ev_lc (own := false) (ow := [("part", 4)]) rfl sc_worth.nd (iv_tuple (ev_sl (own := false) (ev_var (i := 0) rfl (by first | exact .inl rfl | exact .inr (.inl rfl) | exact .inr (.inr rfl))) (ov_some ev_int) ov_none)) (blkOk_by (N := ["term", "boxes", "one", "other", "part"]) (sc := defScope (top 30)) (by decide +kernel)) (fun _ _ _ _ _ => (gv_name (i := 4) sc_worth.nd rfl (by first | exact .inl rfl | exact .inr rfl))) (fun _ _ _ _ _ => tsv_nil) (fun _ _ _ _ _ => (ev_fnG (ih.mono (Nat.le_refl _)) hr rfl (av_cons (ev_var (i := 4) rfl (by first | exact .inl rfl | exact .inr (.inl rfl) | exact .inr (.inr rfl))) (av_cons (ev_var (i := 1) rfl (by first | exact .inl rfl | exact .inr (.inl rfl) | exact .inr (.inr rfl))) av_nil)))) (by decide)) (gv_lst rfl (gsv_cons (gv_name (i := 2) sc_worth.nd rfl (by first | exact .inl rfl | exact .inr rfl)) (gsv_cons (gv_name (i := 3) sc_worth.nd rfl (by first | exact .inl rfl | exact .inr rfl)) gsv_nil))))
    (bv_cons (sv_if (tv_cmp (fun _ _ => op_eqD (Room.units hr.r)) ow_eq (ev_ix (r65 hr.r) (ev_var (i := 0) rfl (by first | exact .inl rfl | exact .inr (.inl rfl) | exact .inr (.inr rfl))) ev_int) (ev_str lt_2) rfl) (bv_one (sv_ret (ev_bin (own := false) (fun _ _ => op_mod) ow_mod (ev_bin (own := false) (fun _ _ => op_addW) ow_add (ev_var (i := 2) rfl (by first | exact .inl rfl | exact .inr (.inl rfl) | exact .inr (.inr rfl))) (ev_var (i := 3) rfl (by first | exact .inl rfl | exact .inr (.inl rfl) | exact .inr (.inr rfl)))) (ev_bin (own := false) (fun _ _ => op_addW) ow_add (ev_glob rfl (Z.con 5).kon) ev_int)))) bv_nil)
    (bv_one (sv_ret (ev_if (tv_cmp (fun _ _ => op_eqD (Room.units hr.r)) ow_eq (ev_ix (r65 hr.r) (ev_var (i := 0) rfl (by first | exact .inl rfl | exact .inr (.inl rfl) | exact .inr (.inr rfl))) ev_int) (ev_str lt_4) rfl) (ev_callTy (own := false) (fun _ _ => (call_int1.or call_int_str)) oc_intW rfl (Z.free 42) bo_int (av_cons (ev_cmp (fun _ _ => op_lt) (ow_cmp _) (ev_var (i := 2) rfl (by first | exact .inl rfl | exact .inr (.inl rfl) | exact .inr (.inr rfl))) (ev_var (i := 3) rfl (by first | exact .inl rfl | exact .inr (.inl rfl) | exact .inr (.inr rfl))) rfl) av_nil)) (ev_callTy (own := false) (fun _ _ => (call_int1.or call_int_str)) oc_intW rfl (Z.free 42) bo_int (av_cons (ev_cmp (fun _ _ => op_eqD (Room.units hr.r)) ow_eq (ev_var (i := 2) rfl (by first | exact .inl rfl | exact .inr (.inl rfl) | exact .inr (.inr rfl))) (ev_var (i := 3) rfl (by first | exact .inl rfl | exact .inr (.inl rfl) | exact .inr (.inr rfl))) rfl) av_nil)))))))))
theorem sc_reckoned : FnScope ["term", "boxes"] ["term", "boxes"] (defScope (top 31)) := ⟨rfl, rfl, rfl, by decide +kernel, rfl, by decide +kernel, by decide +kernel⟩
theorem ok_reckoned (Z : HdE K mg w fa fn kc kd be) (TB : TBs K mg base tf) : HasG P w K mg base (ecG K) "reckoned" 12 2 m_reckoned := by
  have h_need_term := ok_need_term (P := P) (w := w) (base := base) Z TB
  have h_worth := ok_worth (P := P) (w := w) (base := base) Z TB
  exact Z.defG_ 32 32 rfl rfl sc_reckoned rfl rfl (fun _ _ _ _ _ _ us hl => match us, hl with | [_, _], _ => rfl) fun f cdv A outer s H E hr =>
    (bv_cons (sv_expr (ev_fnG (h_need_term.mono (by decide)) hr rfl (av_cons (ev_var (i := 0) rfl (by first | exact .inl rfl | exact .inr (.inl rfl) | exact .inr (.inr rfl))) av_nil)))
    (bv_one (sv_ret (ev_fnG ((h_worth 8).mono (by decide)) hr rfl (av_cons (ev_var (i := 0) rfl (by first | exact .inl rfl | exact .inr (.inl rfl) | exact .inr (.inr rfl))) (av_cons (ev_var (i := 1) rfl (by first | exact .inl rfl | exact .inr (.inl rfl) | exact .inr (.inr rfl))) av_nil))))))
theorem sc__law_worth : FnScope ["_law_term_here", "_law_boxes_here", "_law_one", "_law_other"] ["_law_term_here", "_law_boxes_here"] (defScope (top 48)) := ⟨rfl, rfl, rfl, by decide +kernel, rfl, by decide +kernel, by decide +kernel⟩
theorem ok__law_worth (Z : HdE K mg w fa fn kc kd be) (TB : TBs K mg base tf) : ∀ r : Nat, HasG P w K mg base (ecG K) "_law_worth" (0 + r) 2 (g__law_worth r)
  | 0 => Z.zeroG 33 33 (ps := ["_law_term_here", "_law_boxes_here"]) rfl rfl rfl (fun _ _ _ _ _ _ us hl => match us, hl with | [_, _], _ => rfl)
  | r + 1 => by
    have ih := ok__law_worth Z TB r
    exact Z.defG_ (k := 0 + r) 33 33 rfl rfl sc__law_worth rfl rfl (fun _ _ _ _ _ _ us hl => match us, hl with | [_, _], _ => rfl) fun f cdv A outer s H E hr =>
    (bv_cons (sv_if (tv_cmp (fun _ _ => op_eqD (Room.units hr.r)) ow_eq (ev_ix (r65 hr.r) (ev_var (i := 0) rfl (by first | exact .inl rfl | exact .inr (.inl rfl) | exact .inr (.inr rfl))) ev_int) (ev_str lt_1) rfl) (bv_one (sv_ret (ev_ix (r65 hr.r) (ev_var (i := 0) rfl (by first | exact .inl rfl | exact .inr (.inl rfl) | exact .inr (.inr rfl))) ev_int))) bv_nil)
    (bv_cons (sv_if (tv_cmp (fun _ _ => op_eqD (Room.units hr.r)) ow_eq (ev_ix (r65 hr.r) (ev_var (i := 0) rfl (by first | exact .inl rfl | exact .inr (.inl rfl) | exact .inr (.inr rfl))) ev_int) (ev_str lt_0) rfl) (bv_one (sv_ret (ev_get2 (r65 hr.r) (ev_var (i := 1) rfl (by first | exact .inl rfl | exact .inr (.inl rfl) | exact .inr (.inr rfl))) (ev_ix (r65 hr.r) (ev_var (i := 0) rfl (by first | exact .inl rfl | exact .inr (.inl rfl) | exact .inr (.inr rfl))) ev_int) ev_int (fun _ _ => ⟨rfl, rfl, rfl, rfl⟩)))) bv_nil)
    (bv_cons (sv_par (i := 2) (j := 3) rfl sc__law_worth.nd rfl rfl (by decide) rfl rfl (av_cons (ev_fnG (ih.mono (Nat.le_refl _)) hr rfl (av_cons (ev_ix (r65 hr.r) (ev_var (i := 0) rfl (by first | exact .inl rfl | exact .inr (.inl rfl) | exact .inr (.inr rfl))) ev_int) (av_cons (ev_var (i := 1) rfl (by first | exact .inl rfl | exact .inr (.inl rfl) | exact .inr (.inr rfl))) av_nil))) (av_cons (ev_fnG (ih.mono (Nat.le_refl _)) hr rfl (av_cons (ev_ix (r65 hr.r) (ev_var (i := 0) rfl (by first | exact .inl rfl | exact .inr (.inl rfl) | exact .inr (.inr rfl))) ev_int) (av_cons (ev_var (i := 1) rfl (by first | exact .inl rfl | exact .inr (.inl rfl) | exact .inr (.inr rfl))) av_nil))) av_nil)))
    (bv_cons (sv_if (tv_cmp (fun _ _ => op_eqD (Room.units hr.r)) ow_eq (ev_ix (r65 hr.r) (ev_var (i := 0) rfl (by first | exact .inl rfl | exact .inr (.inl rfl) | exact .inr (.inr rfl))) ev_int) (ev_str lt_2) rfl) (bv_one (sv_ret (ev_bin (own := false) (fun _ _ => op_mod) ow_mod (ev_bin (own := false) (fun _ _ => op_addW) ow_add (ev_var (i := 2) rfl (by first | exact .inl rfl | exact .inr (.inl rfl) | exact .inr (.inr rfl))) (ev_var (i := 3) rfl (by first | exact .inl rfl | exact .inr (.inl rfl) | exact .inr (.inr rfl)))) ev_int))) bv_nil)
    (bv_one (sv_ret (ev_if (tv_cmp (fun _ _ => op_eqD (Room.units hr.r)) ow_eq (ev_ix (r65 hr.r) (ev_var (i := 0) rfl (by first | exact .inl rfl | exact .inr (.inl rfl) | exact .inr (.inr rfl))) ev_int) (ev_str lt_4) rfl) (ev_callTy (own := false) (fun _ _ => (call_int1.or call_int_str)) oc_intW rfl (Z.free 42) bo_int (av_cons (ev_cmp (fun _ _ => op_lt) (ow_cmp _) (ev_var (i := 2) rfl (by first | exact .inl rfl | exact .inr (.inl rfl) | exact .inr (.inr rfl))) (ev_var (i := 3) rfl (by first | exact .inl rfl | exact .inr (.inl rfl) | exact .inr (.inr rfl))) rfl) av_nil)) (ev_callTy (own := false) (fun _ _ => (call_int1.or call_int_str)) oc_intW rfl (Z.free 42) bo_int (av_cons (ev_cmp (fun _ _ => op_eqD (Room.units hr.r)) ow_eq (ev_var (i := 2) rfl (by first | exact .inl rfl | exact .inr (.inl rfl) | exact .inr (.inr rfl))) (ev_var (i := 3) rfl (by first | exact .inl rfl | exact .inr (.inl rfl) | exact .inr (.inr rfl))) rfl) av_nil)))))))))
theorem sc_written : FnScope ["term"] ["term"] (defScope (top 32)) := ⟨rfl, rfl, rfl, by decide +kernel, rfl, by decide +kernel, by decide +kernel⟩
theorem ok_written (Z : HdE K mg w fa fn kc kd be) (TB : TBs K mg base tf) : ∀ r : Nat, HasG P w K mg base (ecG K) "written" (0 + r) 1 (g_written r)
  | 0 => Z.zeroG 34 34 (ps := ["term"]) rfl rfl rfl (fun _ _ _ _ _ _ us hl => match us, hl with | [_], _ => rfl)
  | r + 1 => by
    have ih := ok_written Z TB r
    exact Z.defG_ (k := 0 + r) 34 34 rfl rfl sc_written rfl rfl (fun _ _ _ _ _ _ us hl => match us, hl with | [_], _ => rfl) fun f cdv A outer s H E hr =>
    (bv_cons (sv_if (tv_cmp (fun _ _ => op_eqD (Room.units hr.r)) ow_eq (ev_callB (own := false) (fun _ _ => call_lenW) oc_len rfl (Z.free 38) bo_len (av_cons (ev_var (i := 0) rfl (by first | exact .inl rfl | exact .inr (.inl rfl) | exact .inr (.inr rfl))) av_nil)) ev_int rfl) (bv_one (sv_ret (ev_callTy (own := false) (fun _ _ => (call_str_int.or SkE.call_str_str)) oc_str rfl (Z.free 45) bo_str (av_cons (ev_ix (r65 hr.r) (ev_var (i := 0) rfl (by first | exact .inl rfl | exact .inr (.inl rfl) | exact .inr (.inr rfl))) ev_int) av_nil)))) bv_nil)
    (bv_one (sv_ret (ev_bin (own := false) (fun _ _ => op_addW) ow_add (ev_bin (own := false) (fun _ _ => op_addW) ow_add (ev_bin (own := false) (fun _ _ => op_addW) ow_add (ev_bin (own := false) (fun _ _ => op_addW) ow_add (ev_str lt_42) (ev_fnG (ih.mono (Nat.le_refl _)) hr rfl (av_cons (ev_ix (r65 hr.r) (ev_var (i := 0) rfl (by first | exact .inl rfl | exact .inr (.inl rfl) | exact .inr (.inr rfl))) ev_int) av_nil))) (ev_ix (r65 hr.r) (ev_glob rfl (Z.dic 1).kon) (ev_ix (r65 hr.r) (ev_var (i := 0) rfl (by first | exact .inl rfl | exact .inr (.inl rfl) | exact .inr (.inr rfl))) ev_int))) (ev_fnG (ih.mono (Nat.le_refl _)) hr rfl (av_cons (ev_ix (r65 hr.r) (ev_var (i := 0) rfl (by first | exact .inl rfl | exact .inr (.inl rfl) | exact .inr (.inr rfl))) ev_int) av_nil))) (ev_str lt_43)))))
theorem sc_term_text : FnScope ["term"] ["term"] (defScope (top 33)) := ⟨rfl, rfl, rfl, by decide +kernel, rfl, by decide +kernel, by decide +kernel⟩
theorem ok_term_text (Z : HdE K mg w fa fn kc kd be) (TB : TBs K mg base tf) : HasG P w K mg base (ecG K) "term_text" 12 1 m_term_text := by
  have h_need_term := ok_need_term (P := P) (w := w) (base := base) Z TB
  have h_written := ok_written (P := P) (w := w) (base := base) Z TB
  exact Z.defG_ 35 35 rfl rfl sc_term_text rfl rfl (fun _ _ _ _ _ _ us hl => match us, hl with | [_], _ => rfl) fun f cdv A outer s H E hr =>
    (bv_cons (sv_expr (ev_fnG (h_need_term.mono (by decide)) hr rfl (av_cons (ev_var (i := 0) rfl (by first | exact .inl rfl | exact .inr (.inl rfl) | exact .inr (.inr rfl))) av_nil)))
    (bv_one (sv_ret (ev_fnG ((h_written 8).mono (by decide)) hr rfl (av_cons (ev_var (i := 0) rfl (by first | exact .inl rfl | exact .inr (.inl rfl) | exact .inr (.inr rfl))) av_nil)))))
theorem sc__law_told : FnScope ["_law_term_here", "_law_boxes_here", "_law_text_here", "_law_kept_here"] ["_law_term_here", "_law_boxes_here"] (defScope (top 57)) := ⟨rfl, rfl, rfl, by decide +kernel, rfl, by decide +kernel, by decide +kernel⟩
theorem ok__law_told (Z : HdE K mg w fa fn kc kd be) (TB : TBs K mg base tf) : HasG P w K mg base (ecG K) "_law_told" 13 2 m__law_told := by
  have h__law_text := ok__law_text (P := P) (w := w) (base := base) Z TB
  have h__law_worth := ok__law_worth (P := P) (w := w) (base := base) Z TB
  have h_is_term := ok_is_term (P := P) (w := w) (base := base) Z TB
  have h_read_term := ok_read_term (P := P) (w := w) (base := base) Z TB
  have h_reckoned := ok_reckoned (P := P) (w := w) (base := base) Z TB
  have h_term_text := ok_term_text (P := P) (w := w) (base := base) Z TB
  exact Z.defG_ 36 36 rfl rfl sc__law_told rfl rfl (fun _ _ _ _ _ _ us hl => match us, hl with | [_, _], _ => rfl) fun f cdv A outer s H E hr =>
    (bv_cons (sv_set (i := 2) sc__law_told.nd rfl (by first | exact .inl rfl | exact .inr rfl) (ev_fnG ((h__law_text 8).mono (by decide)) hr rfl (av_cons (ev_var (i := 0) rfl (by first | exact .inl rfl | exact .inr (.inl rfl) | exact .inr (.inr rfl))) av_nil)))
    (bv_cons (sv_set (i := 3) sc__law_told.nd rfl (by first | exact .inl rfl | exact .inr rfl) (ev_callTy (own := true) (fun _ _ => call_dictD) oc_dict rfl (Z.free 51) bo_dict (av_cons (ev_var (i := 1) rfl (by first | exact .inl rfl | exact .inr (.inl rfl) | exact .inr (.inr rfl))) av_nil)))
    (bv_cons (sv_if (tv_w (tw_or (tv_cmp (fun _ _ => op_isNotW) ow_isNot (ev_fnG (h_is_term.mono (by decide)) hr rfl (av_cons (ev_var (i := 0) rfl (by first | exact .inl rfl | exact .inr (.inl rfl) | exact .inr (.inr rfl))) av_nil)) ev_bl rfl) (tw_or (tv_cmp (fun _ _ => op_neD (Room.units hr.r)) ow_ne (ev_callB (own := false) (fun _ _ => (SkE.call_repr_int.or (call_repr_text.or (call_reprD (r70 hr.r) hr.g)))) oc_reprA rfl (Z.free 52) bo_repr (av_cons (ev_fnG (h_reckoned.mono (by decide)) hr rfl (av_cons (ev_var (i := 0) rfl (by first | exact .inl rfl | exact .inr (.inl rfl) | exact .inr (.inr rfl))) (av_cons (ev_var (i := 1) rfl (by first | exact .inl rfl | exact .inr (.inl rfl) | exact .inr (.inr rfl))) av_nil))) av_nil)) (ev_callB (own := false) (fun _ _ => (SkE.call_repr_int.or (call_repr_text.or (call_reprD (r70 hr.r) hr.g)))) oc_reprA rfl (Z.free 52) bo_repr (av_cons (ev_fnG ((h__law_worth 8).mono (by decide)) hr rfl (av_cons (ev_var (i := 0) rfl (by first | exact .inl rfl | exact .inr (.inl rfl) | exact .inr (.inr rfl))) (av_cons (ev_var (i := 1) rfl (by first | exact .inl rfl | exact .inr (.inl rfl) | exact .inr (.inr rfl))) av_nil))) av_nil)) rfl) (tw_or1 (tv_cmp (fun _ _ => op_neDD (Room.units0 hr.r)) ow_neDD (ev_var (i := 1) rfl (by first | exact .inl rfl | exact .inr (.inl rfl) | exact .inr (.inr rfl))) (ev_var (i := 3) rfl (by first | exact .inl rfl | exact .inr (.inl rfl) | exact .inr (.inr rfl))) rfl))))) (bv_one (sv_ret ev_bl)) bv_nil)
    (bv_one (sv_ret (ev_and (ev_cmp (fun _ _ => op_eqD (Room.units hr.r)) ow_eq (ev_callB (own := false) (fun _ _ => (SkE.call_repr_int.or (call_repr_text.or (call_reprD (r70 hr.r) hr.g)))) oc_reprA rfl (Z.free 52) bo_repr (av_cons (ev_fnG (h_term_text.mono (by decide)) hr rfl (av_cons (ev_var (i := 0) rfl (by first | exact .inl rfl | exact .inr (.inl rfl) | exact .inr (.inr rfl))) av_nil)) av_nil)) (ev_callB (own := false) (fun _ _ => (SkE.call_repr_int.or (call_repr_text.or (call_reprD (r70 hr.r) hr.g)))) oc_reprA rfl (Z.free 52) bo_repr (av_cons (ev_var (i := 2) rfl (by first | exact .inl rfl | exact .inr (.inl rfl) | exact .inr (.inr rfl))) av_nil)) rfl) (ev_one (ev_cmp (fun _ _ => op_eqD (Room.units hr.r)) ow_eq (ev_callB (own := false) (fun _ _ => (SkE.call_repr_int.or (call_repr_text.or (call_reprD (r70 hr.r) hr.g)))) oc_reprA rfl (Z.free 52) bo_repr (av_cons (ev_fnG (h_read_term.mono (by decide)) hr rfl (av_cons (ev_var (i := 2) rfl (by first | exact .inl rfl | exact .inr (.inl rfl) | exact .inr (.inr rfl))) av_nil)) av_nil)) (ev_callB (own := false) (fun _ _ => (SkE.call_repr_int.or (call_repr_text.or (call_reprD (r70 hr.r) hr.g)))) oc_reprA rfl (Z.free 52) bo_repr (av_cons (ev_var (i := 0) rfl (by first | exact .inl rfl | exact .inr (.inl rfl) | exact .inr (.inr rfl))) av_nil)) rfl))))))))
theorem sc_law : FnScope ["_law_script", "_law_k", "_law_state_here", "_law_names", "_law_terms", "_law_boxes_here", "_law_turn", "_law_term_here", "_law_other", "_law_due", "_law_found"] ["_law_script"] (defScope (top 60)) := ⟨rfl, rfl, rfl, by decide +kernel, rfl, by decide +kernel, by decide +kernel⟩
theorem ok_law (Z : HdE K mg w fa fn kc kd be) : ∃ fd, (∀ (s : Shared) (u : Value), BindsTo s fd ⟨[u], []⟩ [("_law_script", u)]) ∧ ∀ base : Heap, TBs K mg base tf → FnG P w K mg base 14 (He.ga K "law") fd ["_law_script"] (spD ⟨K, w, ecG K⟩ m_law 1) := by
  refine Z.lawGc_ 37 rfl sc_law rfl (fun _ _ _ _ _ _ us hl => match us, hl with | [_], _ => rfl) fun base f cdv A outer s H E TB hc hr => ?_
  have h__law_bells_told := ok__law_bells_told (P := P) (w := w) (base := base) Z TB
  have h__law_boxes := ok__law_boxes (P := P) (w := w) (base := base) Z TB
  have h__law_class := ok__law_class (P := P) (w := w) (base := base) Z TB
  have h__law_name := ok__law_name (P := P) (w := w) (base := base) Z TB
  have h__law_next := ok__law_next (P := P) (w := w) (base := base) Z TB
  have h__law_pick := ok__law_pick (P := P) (w := w) (base := base) Z TB
  have h__law_read := ok__law_read (P := P) (w := w) (base := base) Z TB
  have h__law_state := ok__law_state (P := P) (w := w) (base := base) Z TB
  have h__law_text := ok__law_text (P := P) (w := w) (base := base) Z TB
  have h__law_text_otherwise := ok__law_text_otherwise (P := P) (w := w) (base := base) Z TB
  have h__law_three := ok__law_three (P := P) (w := w) (base := base) Z TB
  have h__law_told := ok__law_told (P := P) (w := w) (base := base) Z TB
  have h_read_term := ok_read_term (P := P) (w := w) (base := base) Z TB
  exact (bv_cons (sv_for rfl (iv_rng1 rfl (Z.free 40) (ev_bin (own := false) (fun _ _ => op_addW) ow_add (ev_callB (own := false) (fun _ _ => call_min2 rfl) oc_min2 rfl (Z.free 53) bo_min (av_cons (ev_callB (own := false) (fun _ _ => call_lenW) oc_len rfl (Z.free 38) bo_len (av_cons (ev_var (i := 0) rfl (by first | exact .inl rfl | exact .inr (.inl rfl) | exact .inr (.inr rfl))) av_nil)) (av_cons ev_int av_nil))) ev_int)) (gv_name (i := 1) sc_law.nd rfl (by first | exact .inl rfl | exact .inr rfl)) (bv_cons (sv_set (i := 2) sc_law.nd rfl (by first | exact .inl rfl | exact .inr rfl) (ev_fnG (h__law_state.mono (by decide)) hr rfl (av_cons (ev_var (i := 0) rfl (by first | exact .inl rfl | exact .inr (.inl rfl) | exact .inr (.inr rfl))) (av_cons (ev_var (i := 1) rfl (by first | exact .inl rfl | exact .inr (.inl rfl) | exact .inr (.inr rfl))) av_nil))))
    (bv_cons (sv_setLc (own := false) (ow := [("_law_turn", 6)]) (i := 3) rfl sc_law.nd rfl rfl (sw_true rfl rfl rfl (by decide +kernel)) (iv_rng1 rfl (Z.free 40) ev_int) (blkOk_by (N := ["_law_script", "_law_k", "_law_state_here", "_law_names", "_law_terms", "_law_boxes_here", "_law_turn", "_law_term_here", "_law_other", "_law_due", "_law_found"]) (sc := defScope (top 60)) (by decide +kernel)) (fun _ _ _ _ _ => (gv_name (i := 6) sc_law.nd rfl (by first | exact .inl rfl | exact .inr rfl))) (fun _ _ _ _ _ => tsv_nil) (fun _ _ _ _ _ => (ev_fnG (h__law_name.mono (by decide)) hr rfl (av_cons (ev_var (i := 2) rfl (by first | exact .inl rfl | exact .inr (.inl rfl) | exact .inr (.inr rfl))) av_nil))) (by decide))
    (bv_cons (sv_set (i := 4) sc_law.nd rfl (by first | exact .inl rfl | exact .inr rfl) (ev_fnG (h__law_three.mono (by decide)) hr rfl (av_cons (ev_var (i := 2) rfl (by first | exact .inl rfl | exact .inr (.inl rfl) | exact .inr (.inr rfl))) (av_cons (ev_var (i := 3) rfl (by first | exact .inl rfl | exact .inr (.inl rfl) | exact .inr (.inr rfl))) av_nil))))
    (bv_cons (sv_set (i := 5) sc_law.nd rfl (by first | exact .inl rfl | exact .inr rfl) (ev_fnG (h__law_boxes.mono (by decide)) hr rfl (av_cons (ev_var (i := 2) rfl (by first | exact .inl rfl | exact .inr (.inl rfl) | exact .inr (.inr rfl))) (av_cons (ev_var (i := 3) rfl (by first | exact .inl rfl | exact .inr (.inl rfl) | exact .inr (.inr rfl))) av_nil))))
    (bv_cons (sv_for rfl (iv_rng1 rfl (Z.free 40) ev_int) (gv_name (i := 6) sc_law.nd rfl (by first | exact .inl rfl | exact .inr rfl)) (bv_cons (sv_if (tv_cmp (fun _ _ => op_neNil (Room.units0 hr.r)) ow_neNil (ev_lc (own := false) (ow := [("_law_term_here", 7)]) rfl sc_law.nd (iv_list (ev_bin (own := false) (fun _ _ => op_addW) ow_add (ev_var (i := 4) rfl (by first | exact .inl rfl | exact .inr (.inl rfl) | exact .inr (.inr rfl))) (ev_sl (own := false) (ev_var (i := 4) rfl (by first | exact .inl rfl | exact .inr (.inl rfl) | exact .inr (.inr rfl))) ov_none (ov_some ev_int)))) (blkOk_by (N := ["_law_script", "_law_k", "_law_state_here", "_law_names", "_law_terms", "_law_boxes_here", "_law_turn", "_law_term_here", "_law_other", "_law_due", "_law_found"]) (sc := defScope (top 60)) (by decide +kernel)) (fun _ _ _ _ _ => (gv_name (i := 7) sc_law.nd rfl (by first | exact .inl rfl | exact .inr rfl))) (fun _ _ _ _ _ => (tsv_one (tv_not (tv_val (ev_fnG (h__law_told.mono (by decide)) hr rfl (av_cons (ev_var (i := 7) rfl (by first | exact .inl rfl | exact .inr (.inl rfl) | exact .inr (.inr rfl))) (av_cons (ev_var (i := 5) rfl (by first | exact .inl rfl | exact .inr (.inl rfl) | exact .inr (.inr rfl))) av_nil))))))) (fun _ _ _ _ _ => (ev_var (i := 7) rfl (by first | exact .inl rfl | exact .inr (.inl rfl) | exact .inr (.inr rfl)))) (by decide)) (ev_lst (own := false) av_nil) rfl) (bv_one (sv_ret ev_bl)) bv_nil)
    (bv_cons (sv_if (tv_not (tv_val (ev_fnG (h__law_bells_told.mono (by decide)) hr rfl (av_cons (ev_var (i := 2) rfl (by first | exact .inl rfl | exact .inr (.inl rfl) | exact .inr (.inr rfl))) (av_cons (ev_ix (r65 hr.r) (ev_var (i := 3) rfl (by first | exact .inl rfl | exact .inr (.inl rfl) | exact .inr (.inr rfl))) (ev_var (i := 6) rfl (by first | exact .inl rfl | exact .inr (.inl rfl) | exact .inr (.inr rfl)))) av_nil))))) (bv_one (sv_ret ev_bl)) bv_nil)
    (bv_cons (sv_setD (r65 hr.r) (ev_var (i := 5) rfl (by first | exact .inl rfl | exact .inr (.inl rfl) | exact .inr (.inr rfl))) (ev_ix (r65 hr.r) (ev_var (i := 3) rfl (by first | exact .inl rfl | exact .inr (.inl rfl) | exact .inr (.inr rfl))) (ev_var (i := 6) rfl (by first | exact .inl rfl | exact .inr (.inl rfl) | exact .inr (.inr rfl)))) (ev_fnG (h__law_pick.mono (by decide)) hr rfl (av_cons (ev_var (i := 2) rfl (by first | exact .inl rfl | exact .inr (.inl rfl) | exact .inr (.inr rfl))) (av_cons (ev_lst (own := false) (av_cons ev_int (av_cons ev_int (av_cons ev_int (av_cons (ev_fnG (h__law_next.mono (by decide)) hr rfl (av_cons (ev_var (i := 2) rfl (by first | exact .inl rfl | exact .inr (.inl rfl) | exact .inr (.inr rfl))) (av_cons ev_int av_nil))) av_nil))))) av_nil))))
    (bv_one (sv_expr (ev_dpop2 (ev_var (i := 5) rfl (by first | exact .inl rfl | exact .inr (.inl rfl) | exact .inr (.inr rfl))) (ev_fnG (h__law_pick.mono (by decide)) hr rfl (av_cons (ev_var (i := 2) rfl (by first | exact .inl rfl | exact .inr (.inl rfl) | exact .inr (.inr rfl))) (av_cons (ev_bin (own := false) (fun _ _ => op_addW) ow_add (ev_var (i := 3) rfl (by first | exact .inl rfl | exact .inr (.inl rfl) | exact .inr (.inr rfl))) (ev_lst (own := false) (av_cons (ev_str lt_5) av_nil))) av_nil))) ev_non (fun _ _ => ⟨rfl, rfl, rfl, rfl⟩))))))))
    (bv_one (sv_for rfl (iv_list (ev_var (i := 4) rfl (by first | exact .inl rfl | exact .inr (.inl rfl) | exact .inr (.inr rfl)))) (gv_name (i := 7) sc_law.nd rfl (by first | exact .inl rfl | exact .inr rfl)) (bv_cons (sv_set (i := 8) sc_law.nd rfl (by first | exact .inl rfl | exact .inr rfl) (ev_fnG (h__law_text_otherwise.mono (by decide)) hr rfl (av_cons (ev_var (i := 2) rfl (by first | exact .inl rfl | exact .inr (.inl rfl) | exact .inr (.inr rfl))) (av_cons (ev_fnG ((h__law_text 8).mono (by decide)) hr rfl (av_cons (ev_var (i := 7) rfl (by first | exact .inl rfl | exact .inr (.inl rfl) | exact .inr (.inr rfl))) av_nil)) av_nil))))
    (bv_cons (sv_set (i := 9) sc_law.nd rfl (by first | exact .inl rfl | exact .inr rfl) (ev_fnG ((h__law_read 8).mono (by decide)) hr rfl (av_cons (ev_var (i := 8) rfl (by first | exact .inl rfl | exact .inr (.inl rfl) | exact .inr (.inr rfl))) (av_cons ev_int av_nil))))
    (bv_cons (sv_set (i := 10) sc_law.nd rfl (by first | exact .inl rfl | exact .inr rfl) (ev_tried (k := 11) (n := 1) (mk := "law") (q := tq "law") rfl Z.toHdW.toHd (Z.er rfl) 17 17 rfl rfl sc__law_tried (hr.mono (by decide)) rfl (fun _ _ _ _ _ _ us hl => match us, hl with | [_], _ => rfl) (TB _ (.head _)) hc rfl (LamX.lamS_by (sc := defScope (top 60)) (by decide +kernel)) rfl (fun _ _ _ _ _ => rfl) (fun A outer s H E f c' hr => (ev_fnG (h_read_term.mono (by decide)) hr rfl (av_cons (ev_var (i := 8) rfl (by first | exact .inl rfl | exact .inr (.inl rfl) | exact .inr (.inr rfl))) av_nil)))
      (fun g cdv A fs s H E hr => (sv_ret (ev_if (tv_cmp (fun _ _ => op_isW) ow_is (ev_var (i := 2) rfl (by first | exact .inl rfl | exact .inr (.inl rfl) | exact .inr (.inr rfl))) ev_non rfl) (ev_lst (own := false) (av_cons (ev_var (i := 1) rfl (by first | exact .inl rfl | exact .inr (.inl rfl) | exact .inr (.inr rfl))) av_nil)) (ev_fnG (h__law_class.mono (by decide)) hr rfl (av_cons (ev_var (i := 2) rfl (by first | exact .inl rfl | exact .inr (.inl rfl) | exact .inr (.inr rfl))) av_nil))))) (by first | exact .inl rfl | exact .inr rfl) (by first | exact .inl rfl | exact .inr rfl) rfl rfl rfl (by first | exact .inl rfl | exact .inr (.inl rfl) | exact .inr (.inr rfl)) rfl))
    (bv_one (sv_if (tv_w (tw_or (tv_w (tw_and (tv_cmp (fun _ _ => op_isW) ow_is (ev_var (i := 9) rfl (by first | exact .inl rfl | exact .inr (.inl rfl) | exact .inr (.inr rfl))) ev_non rfl) (tw_and1 (tv_cmp (fun _ _ => op_neD (Room.units hr.r)) ow_ne (ev_var (i := 10) rfl (by first | exact .inl rfl | exact .inr (.inl rfl) | exact .inr (.inr rfl))) (ev_str lt_59) rfl)))) (tw_or1 (tv_w (tw_and (tv_cmp (fun _ _ => op_isNotW) ow_isNot (ev_var (i := 9) rfl (by first | exact .inl rfl | exact .inr (.inl rfl) | exact .inr (.inr rfl))) ev_non rfl) (tw_and1 (tv_cmp (fun _ _ => op_neD (Room.units hr.r)) ow_ne (ev_callB (own := false) (fun _ _ => (SkE.call_repr_int.or (call_repr_text.or (call_reprD (r70 hr.r) hr.g)))) oc_reprA rfl (Z.free 52) bo_repr (av_cons (ev_var (i := 10) rfl (by first | exact .inl rfl | exact .inr (.inl rfl) | exact .inr (.inr rfl))) av_nil)) (ev_callB (own := false) (fun _ _ => (SkE.call_repr_int.or (call_repr_text.or (call_reprD (r70 hr.r) hr.g)))) oc_reprA rfl (Z.free 52) bo_repr (av_cons (ev_lst (own := false) (av_cons (ev_var (i := 9) rfl (by first | exact .inl rfl | exact .inr (.inl rfl) | exact .inr (.inr rfl))) av_nil)) av_nil)) rfl))))))) (bv_one (sv_ret ev_bl)) bv_nil)))))))))))))
    (bv_one (sv_ret ev_bl)))
end
end BelLaw

namespace BelLaw
open PySem PySem.Spec PyProof.Rows L2 Bel
/-! ### the head -/
abbrev R : PySem.W.OpenRow := PySem.W.OpenLaw.row PySem.Challenge.rw_bellyard_k12_again_and_shared
abbrev hk : PySem.W.Hook := He.hookX 6 fa fn (tabs kd) (tfs tf) (exT tf kc kd be)
def ob (s : PySem.W.SharedT) : He.AlX := He.obsX 6 fa fn (tabs kd) (tfs tf) (exT tf kc kd be) (HandSHeadRun.getT s)
theorem ob_eq (s : PySem.W.SharedT) : ob s = hk.obs s.abs := He.obsX_eq (HandSHeadRun.getT_eq s)
theorem run_f (w : World) : HandSHeadRun.RunEq R (PySem.W.view R.prog [60]) hk ob 8000 ((["YardError", "NoTerm", "NoBook", "NoText", "NoYard", "NoTask", "NoStep", "NoRecord", "NoJob", "TooMany", "LETTERS", "FIGURES", "MOST_LETTERS", "BELLS", "KEPT", "is_name", "is_number", "bells", "bell_number", "number_told"] : List Str) ++ (["MOST_NUMBER", "MOST_WITHIN", "SIGNS", "WORDS", "stands_so", "is_term", "need_term", "worth", "reckoned", "written", "term_text", "leaf_at", "term_at", "read_term", "_law_state", "_law_next", "_law_pick", "_law_kept", "_law_name", "_law_term"] : List Str) ++ (["_law_chain", "_law_drawn", "_law_is_name", "_law_text", "_law_worth", "_law_boxes", "_law_class", "_law_tried", "_law_leaf", "_law_cuts", "_law_read", "_law_far", "_law_three", "_law_told", "_law_bells_told", "_law_text_otherwise"] : List Str)) (w.withFollow "special-get-raises" false) := by
  intro os
  kernel_rfl
theorem run_t (w : World) : HandSHeadRun.RunEq R (PySem.W.view R.prog [60]) hk ob 8000 ((["YardError", "NoTerm", "NoBook", "NoText", "NoYard", "NoTask", "NoStep", "NoRecord", "NoJob", "TooMany", "LETTERS", "FIGURES", "MOST_LETTERS", "BELLS", "KEPT", "is_name", "is_number", "bells", "bell_number", "number_told"] : List Str) ++ (["MOST_NUMBER", "MOST_WITHIN", "SIGNS", "WORDS", "stands_so", "is_term", "need_term", "worth", "reckoned", "written", "term_text", "leaf_at", "term_at", "read_term", "_law_state", "_law_next", "_law_pick", "_law_kept", "_law_name", "_law_term"] : List Str) ++ (["_law_chain", "_law_drawn", "_law_is_name", "_law_text", "_law_worth", "_law_boxes", "_law_class", "_law_tried", "_law_leaf", "_law_cuts", "_law_read", "_law_far", "_law_three", "_law_told", "_law_bells_told", "_law_text_otherwise"] : List Str)) (w.withFollow "special-get-raises" true) := by
  intro os
  kernel_rfl
theorem run (w : World) : HandSHeadRun.RunEq R (PySem.W.view R.prog [60]) hk ob 8000 ((["YardError", "NoTerm", "NoBook", "NoText", "NoYard", "NoTask", "NoStep", "NoRecord", "NoJob", "TooMany", "LETTERS", "FIGURES", "MOST_LETTERS", "BELLS", "KEPT", "is_name", "is_number", "bells", "bell_number", "number_told"] : List Str) ++ (["MOST_NUMBER", "MOST_WITHIN", "SIGNS", "WORDS", "stands_so", "is_term", "need_term", "worth", "reckoned", "written", "term_text", "leaf_at", "term_at", "read_term", "_law_state", "_law_next", "_law_pick", "_law_kept", "_law_name", "_law_term"] : List Str) ++ (["_law_chain", "_law_drawn", "_law_is_name", "_law_text", "_law_worth", "_law_boxes", "_law_class", "_law_tried", "_law_leaf", "_law_cuts", "_law_read", "_law_far", "_law_three", "_law_told", "_law_bells_told", "_law_text_otherwise"] : List Str)) w :=
  PySem.W.byRow2 "special-get-raises" (P := fun w => HandSHeadRun.RunEq R (PySem.W.view R.prog [60]) hk ob 8000 ((["YardError", "NoTerm", "NoBook", "NoText", "NoYard", "NoTask", "NoStep", "NoRecord", "NoJob", "TooMany", "LETTERS", "FIGURES", "MOST_LETTERS", "BELLS", "KEPT", "is_name", "is_number", "bells", "bell_number", "number_told"] : List Str) ++ (["MOST_NUMBER", "MOST_WITHIN", "SIGNS", "WORDS", "stands_so", "is_term", "need_term", "worth", "reckoned", "written", "term_text", "leaf_at", "term_at", "read_term", "_law_state", "_law_next", "_law_pick", "_law_kept", "_law_name", "_law_term"] : List Str) ++ (["_law_chain", "_law_drawn", "_law_is_name", "_law_text", "_law_worth", "_law_boxes", "_law_class", "_law_tried", "_law_leaf", "_law_cuts", "_law_read", "_law_far", "_law_three", "_law_told", "_law_bells_told", "_law_text_otherwise"] : List Str)) w) run_f run_t w
end BelLaw
open PySem PySem.W PySem.Calls PyProof.Rows
theorem PySem.Challenge.cw_bellyard_k12_again_and_shared_holds : PySem.Challenge.rw_bellyard_k12_again_and_shared.Holds := by
  w_on; o_law
  refine HandSHeadRun.head_any (r := OpenLaw.row PySem.Challenge.rw_bellyard_k12_again_and_shared) (q := view (OpenLaw.row PySem.Challenge.rw_bellyard_k12_again_and_shared).prog [60]) (H := BelLaw.hk) (ob := BelLaw.ob) (M := 8000) (loose := ((["YardError", "NoTerm", "NoBook", "NoText", "NoYard", "NoTask", "NoStep", "NoRecord", "NoJob", "TooMany", "LETTERS", "FIGURES", "MOST_LETTERS", "BELLS", "KEPT", "is_name", "is_number", "bells", "bell_number", "number_told"] : List Str) ++ (["MOST_NUMBER", "MOST_WITHIN", "SIGNS", "WORDS", "stands_so", "is_term", "need_term", "worth", "reckoned", "written", "term_text", "leaf_at", "term_at", "read_term", "_law_state", "_law_next", "_law_pick", "_law_kept", "_law_name", "_law_term"] : List Str) ++ (["_law_chain", "_law_drawn", "_law_is_name", "_law_text", "_law_worth", "_law_boxes", "_law_class", "_law_tried", "_law_leaf", "_law_cuts", "_law_read", "_law_far", "_law_three", "_law_told", "_law_bells_told", "_law_text_otherwise"] : List Str))) (d := HandSHeadRun.topDef (OpenLaw.row PySem.Challenge.rw_bellyard_k12_again_and_shared).prog 60) (kwd := []) BelLaw.ob_eq
    (by kernel_rfl) (fun s => by kernel_rfl) BelLaw.run (by kernel_rfl) (by kernel_rfl) (by kernel_rfl) (by rfl) (by first | assumption | decide +kernel) (by decide +kernel) ⟨rfl, rfl, rfl, rfl, rfl, by decide +kernel⟩ ?hw ?hc
  case hw => w_witness2
  case hc =>
    refine Bel.law_endT (l := PySem.Challenge.rw_bellyard_k12_again_and_shared) (n := 63) (k := 14) (x := "law") (y := "_law_script") rfl (by decide) (by kernel_rfl) ⟨rfl, by decide, by decide⟩ (by kernel_rfl) 37 rfl BelLaw.m_law (fun w mg K Z => ⟨Bel.ecG K, BelLaw.ok_law Z⟩) BelLaw.law_true

