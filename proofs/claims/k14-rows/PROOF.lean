import PyProof.Rows.All
import Wide.All
import OpenK.AllK
import Wide.FinOn
import HandS.ForExc
import HandS.Wide
import HandS.Style
import HandS.TupAny
import HandS.Strs
import HandS.Defaults
import KE.KTupSum
import HandS.IsInst
import HandS.SortInts
import HandS.Comp
import HandS.ExcOwn
import HandS.HotCalls
import HandS.ExcIs
import HandS.ExcField
import HandS.Property
import HandS.Codes
import HandS.HeadWalk
import HandS.More
import PyProof.Rows.Range3
import HandS.Conv
import KE.KOpsOwn
import KE.GoesEnum
import KE.GoesMore
import HandS.Iter
import HandS.Zip
import HandS.Rev
import KE.GoesZip
import PyProof.Draws
import HandS.ListItems
import KE.KDictZip
import HandS.ExcCtx
import KE.GoesRaise
import KE.GoesComp
import OpenK.KCall
import HandS.Hot
import PyProof.EnumIter
import KE.KExcSuper
import HandS.ExcInit
import HandS.HeadHook2
import HandS.Head2
import HandS.EndBits
import PySem.Challenge.RW_sumtalk_k14_all_rows_and_polys_are_liste
set_option Elab.async false
set_option linter.all false
set_option maxRecDepth 100000
set_option maxHeartbeats 4000000
namespace L2
open PySem PySem.Spec PyProof.Rows HT
section
variable {prog : Program} {w : World} {A : Around} {E : Value → Shared → Prop} {s : Shared}
theorem places_back (n : Nat) : Builtin.Slice.slicePlaces ((n : Int) - 1) (-1) (-1) = n := by
  unfold Builtin.Slice.slicePlaces
  have h1 : ¬ ((-1 : Int) > 0) := by omega
  simp only [h1, if_false]
  by_cases h : (n : Int) - 1 > -1
  · rw [if_pos h]
    have e : ((n : Int) - 1 - -1 - 1) / (- -1) = n - 1 := by
      rw [show (- -1 : Int) = 1 from rfl, Int.ediv_one]; omega
    rw [e]; omega
  · rw [if_neg h]; omega
theorem pick_back (xs : Array Value) : ((List.range xs.size).filterMap fun (m : Nat) => xs[((xs.size : Int) - 1 + (m : Int) * (-1)).toNat]?).toArray = xs.toList.reverse.toArray := by
  congr 1
  obtain ⟨l⟩ := xs
  simp only [List.size_toArray, List.getElem?_toArray]
  have key : ∀ n, n ≤ l.length → (List.range n).filterMap (fun (m : Nat) => l[((l.length : Int) - 1 + (m : Int) * (-1)).toNat]?) = l.reverse.take n := by
    intro n
    induction n with
    | zero => intro _; rfl
    | succ n ih =>
      intro hn
      rw [List.range_succ, List.filterMap_append, ih (by omega)]
      have e : ((l.length : Int) - 1 + (n : Int) * (-1)).toNat = l.length - 1 - n := by omega
      have hlt : n < l.reverse.length := by rw [List.length_reverse]; omega
      rw [List.take_succ_eq_append_getElem hlt, List.getElem_reverse]
      congr 1
      rw [List.filterMap_cons, e, List.getElem?_eq_getElem (by omega)]
      rfl
  have z := key l.length (Nat.le_refl _)
  rw [z, List.take_of_length_le (by rw [List.length_reverse]; exact Nat.le_refl _)]
theorem getItem_tuple_back {t sl : Addr} {items : Array Value} {vs : Value} {Q : Value → Shared → Prop} (ht : IsTup s.heap t items) (hs : s.heap.IsSliceOf sl .none .none vs) (ps : IsPart vs (some (-1)))
    (h : Q (.ref s.heap.objs.size) { s with heap := s.heap.push { cls := .type "tuple", data := .seq items.toList.reverse.toArray } })
    (hsz : items.size ≤ sizeLine) : wpAny (model prog w) A (getItem (.ref t) (.ref sl)) Q E s := by
  have htake : sizeOk (.seq items.toList.reverse.toArray) := by
    show items.toList.reverse.toArray.size ≤ sizeLine
    rw [List.size_toArray, List.length_reverse, Array.length_toList]
    exact hsz
  obtain ⟨os, hos, hcs, hds⟩ := id hs
  have hTs : s.TypeIs (.ref sl) "slice" := ⟨os, hos, hcs⟩
  unfold getItem
  try with_reducible refine wpAny_holding ?_
  first | refine wpAny_bind (wpAny_pure ?_) | skip
  refine wpAny_bind (wpAny_sequenceKey ht.typeIs (by decide) ?_)
  refine wpAny_bind (wpAny_callSpecial?_slot (name := Str.ofString "__getitem__") ht.typeIs PyProof.Rows.slot_tuple_getitem
    (wpAny_call_entry PyProof.Rows.slot_tuple_getitem ht.typeIs entry_tuple_getitem ?_ (args_tuple_getitem _ _)))
  show wpAny _ _ (Builtin.Tuple.tupleItemsOf (.ref t) >>= _) _ _ s
  refine wpAny_bind (tupleItemsOf_ ht ?_)
  refine wpAny_bind (wpAny_typeOf hTs ?_)
  rw [if_pos (by decide)]
  have app : ∀ {R : Int × Int × Nat → Shared → Prop}, R ((items.size : Int) - 1, -1, items.size) s → wpAny (model prog w) A.in1 (Builtin.Slice.sliceApplied (.ref sl) (pure (items.size : Int))) R E s := fun {R} hR => by
    unfold Builtin.Slice.sliceApplied Builtin.Slice.sliceFields
    refine wpAny_bind (wpAny_bind (wpAny_field hos hds (x := .none) rfl (wpAny_bind (wpAny_field hos hds (x := .none) rfl (wpAny_bind (wpAny_field hos hds (x := vs) rfl (wpAny_pure ?_)))))))
    refine wpAny_bind (slicePart_ ps ?_)
    show wpAny _ _ (if ((-1 : Int) == 0) = true then _ else _) _ _ s
    rw [if_neg (by decide)]
    refine wpAny_bind (slicePart_none (wpAny_bind (slicePart_none (wpAny_bind (wpAny_pure ?_)))))
    show wpAny _ _ (match Builtin.Slice.sliceAdjust none none (-1) (items.size : Int) with | (lo, hi) => pure (lo, (-1 : Int), Builtin.Slice.slicePlaces lo hi (-1))) _ _ s
    have e : Builtin.Slice.sliceAdjust none none (-1) (items.size : Int) = ((items.size : Int) - 1, -1) := rfl
    rw [e]
    show wpAny _ _ (pure ((items.size : Int) - 1, (-1 : Int), Builtin.Slice.slicePlaces ((items.size : Int) - 1) (-1) (-1))) _ _ s
    rw [places_back]
    exact wpAny_pure hR
  refine wpAny_bind (app ?_)
  have hno : ¬ ((((items.size : Int) - 1) == 0 && (-1 : Int) == 1 && items.size == items.size) = true) := by
    intro q
    rw [Bool.and_eq_true, Bool.and_eq_true] at q
    exact absurd q.1.2 (by decide)
  show wpAny _ _ (if ((((items.size : Int) - 1) == 0 && (-1 : Int) == 1 && items.size == items.size) = true) then _ else _) _ _ s
  rw [if_neg hno, pick_back]
  first
    | exact wpAny_bind (m := Builtin.Tuple.tupleExact _) (wpAny_newObj_type (wpAny_pure ⟨_, rfl, wpAny_pure h⟩) htake)
    | exact wpAny_bind (m := Builtin.Tuple.tupleExact _) (wpAny_newObj_type (wpAny_bind (wpAny_pure (wpAny_pure ⟨_, rfl, wpAny_pure h⟩))) htake)
    | exact wpAny_bind (wpAny_bind (m := Builtin.Tuple.tupleExact _) (wpAny_newObj_type (wpAny_pure (wpAny_pure ⟨_, rfl, wpAny_pure h⟩)) htake))
    | exact wpAny_bind (wpAny_bind (m := Builtin.Tuple.tupleExact _) (wpAny_newObj_type (wpAny_pure ⟨_, rfl, wpAny_pure h⟩) htake))
end
section
variable {X : Cx}
/-- a row turned round: a list or a tuple -/
def tRevA (K : PySem.W.Frag) (te : TE) : TE := fun σ H Q => te σ H fun x H1 => ∃ a xs, x = .ref a ∧ ((SqL K H1 a xs ∧ ∀ p, H1 p = none → Q (.ref p) (upd H1 p (.lst xs.reverse))) ∨ (SqT K H1 a xs ∧ ∀ p, H1 p = none → Q (.ref p) (upd H1 p (.tup xs.reverse))))
theorem pe_revA {e : Expr} {te : TE} {k : Nat} {p1 p2 p3 pos : Pos} (he : PE X e te) : PE X (.Subscript e (.Slice none none (some (.UnaryOp .USub (.Constant (.int 1) k p1) p2)) p3) pos) (tRevA X.K te) := by
  refine ⟨fun pins s σ H Q I h => ?_⟩
  refine Subscript_ (thn (he.run pins s σ H _ I h) fun v s1 ⟨x, H1, I1, r1, q1⟩ => ?_)
  obtain ⟨a, xs, ex, q⟩ := q1
  subst ex
  cases r1
  have hst : PO X (some (.UnaryOp .USub (.Constant (.int 1) k p1) p2)) (tPart (tUn (rU fun i => .int (-i)) (tC (.int 1)))) := po_some (pe_un un_neg pe_int)
  refine wpAny_Slice (thn (po_none.run pins s1 σ H1 (fun o H2 => o = none ∧ H2 = H1) I1 ⟨rfl, rfl⟩) fun vl s2 ⟨l, H2, I2, pl, el, e2⟩ => ?_)
  subst el e2
  refine thn (po_none.run pins s2 σ H2 (fun o H3 => o = none ∧ H3 = H2) I2 ⟨rfl, rfl⟩) fun vu s3 ⟨u, H3, I3, pu, eu, e3⟩ => ?_
  subst eu e3
  refine thn (hst.run pins s3 σ H3 (fun o H4 => o = some (-1) ∧ H4 = H3) I3 ⟨1, rfl, -1, rfl, rfl, rfl⟩) fun vs s4 ⟨o, H4, I4, ps, eo, e4⟩ => ?_
  subst eo e4
  have I5 : Inv X pins σ H4 { s4 with heap := s4.heap.push { cls := .type "slice", data := .fields #[vl, vu, vs] } } := I4.kept (t' := s4.toks) fun b ob q => Heap.get?_push_of_some _ q
  rcases q with ⟨hx, q⟩ | ⟨hx, q⟩
  · obtain ⟨its, r, ht, hz⟩ := I5.list hx
    have hlen := r.length
    show wpAny (model X.prog X.w) X.A (subscriptTail e (.Slice none none (some (.UnaryOp .USub (.Constant (.int 1) k p1) p2)) p3) (.ref a) (.ref s4.heap.objs.size)) (EP X pins σ Q) X.xe { s4 with heap := s4.heap.push { cls := .type "slice", data := .fields #[vl, vu, vs] } }
    refine tail_any (ops := [.ref a, .ref s4.heap.objs.size]) ht.isList.typeIs (PySem.slot_list_getitem.lookup) ?_ (by with_unfolding_all rfl)
    refine wpAny_getItem_list_slice ht.isList (Heap.IsSliceOf.new _ vl vu vs) pl pu ps (by decide) ?_ (by rw [List.size_toArray]; omega)
    rw [PySem.W.krv_pick]
    refine ⟨.ref _, _, I5.laid (t' := s4.toks) (o := .lst xs.reverse) (fun b ob q => Heap.get?_push_of_some _ q) (Nat.le_refl _) ?_, rfl, q _ (I5.hok.fresh (Nat.le_refl _))⟩
    exact ⟨by rw [List.length_reverse]; exact hz, _, 0, r.reverse, Heap.get?_push_size _ rfl⟩
  · obtain ⟨its, r, ht, hz⟩ := I5.tuple hx
    have hlen := r.length
    cases pl
    cases pu
    show wpAny (model X.prog X.w) X.A (subscriptTail e (.Slice none none (some (.UnaryOp .USub (.Constant (.int 1) k p1) p2)) p3) (.ref a) (.ref s4.heap.objs.size)) (EP X pins σ Q) X.xe { s4 with heap := s4.heap.push { cls := .type "slice", data := .fields #[.none, .none, vs] } }
    refine tail_any (ops := [.ref a, .ref s4.heap.objs.size]) ht.typeIs (PyProof.Rows.slot_tuple_getitem.lookup) ?_ (by with_unfolding_all rfl)
    refine getItem_tuple_back ht (Heap.IsSliceOf.new _ .none .none vs) ps ?_ (by rw [List.size_toArray]; omega)
    refine ⟨.ref _, _, I5.laid (t' := s4.toks) (o := .tup xs.reverse) (fun b ob q => Heap.get?_push_of_some _ q) (Nat.le_refl _) ?_, rfl, q _ (I5.hok.fresh (Nat.le_refl _))⟩
    exact ⟨by rw [List.length_reverse]; exact hz, _, r.reverse, IsTup.new _ _⟩
end
end L2
set_option maxHeartbeats 4000000
namespace Tw
open PySem PySem.Spec L2
/-- a value as a tree: an immutable thing as a whole; ptr: a mutable cell (or an opaque object) -/
inductive D where
  | non | bl (b : Bool) | int (i : Int) | str (x : Str)
  | lst (xs : List D) | tup (xs : List D)
  | obj (C : Nat) (fs : List (Nat × D))
  | scr (ns : List Int)
  | ptr (a : Addr)
  /-- a caught exception (in a slot alone) -/
  | exn (C : Nat) (fs : List (Nat × D))
/-- what a mutable cell holds -/
inductive MO where
  | lst (xs : List D)
  | ins (C : Nat) (fs : List (Nat × D))
abbrev Om := Addr → Option MO
def Om.set (W : Om) (a : Addr) (m : MO) : Om := fun b => if b = a then some m else W b
def Om.del (W : Om) (a : Addr) : Om := fun b => if b = a then none else W b
theorem Om.set_same {W : Om} {a : Addr} {m : MO} : (W.set a m) a = some m := by unfold Om.set; rw [if_pos rfl]
theorem Om.set_ne {W : Om} {a b : Addr} {m : MO} (h : b ≠ a) : (W.set a m) b = W b := by unfold Om.set; rw [if_neg h]
theorem Om.del_same {W : Om} {a : Addr} : (W.del a) a = none := by unfold Om.del; rw [if_pos rfl]
theorem Om.del_ne {W : Om} {a b : Addr} (h : b ≠ a) : (W.del a) b = W b := by unfold Om.del; rw [if_neg h]
theorem Om.set_set {W : Om} {a : Addr} {m m' : MO} : (W.set a m).set a m' = W.set a m' := by
  funext b; unfold Om.set; split <;> rfl
theorem Om.del_set {W : Om} {a : Addr} {m : MO} (h : W a = none) : (W.set a m).del a = W := by
  funext b
  by_cases e : b = a
  · subst e; rw [Om.del_same, h]
  · rw [Om.del_ne e, Om.set_ne e]
/-- an exception: its class, its attributes -/
structure Exn where
  C : Nat
  fs : List (Nat × D)
/-- the names of the text by numbers, the classes' addresses -/
structure Pm where
  /-- the method m of the class C: its def -/
  mth : Nat → Nat → Option Nat
  /-- the class's __init__ -/
  ini : Nat → Option Nat
  /-- an exception class's attributes -/
  xin : Nat → Option (List Nat)
  /-- C's instances may have the attribute f -/
  fld : Nat → Nat → Bool
  /-- an exception class; it is a subclass of the other -/
  isX : Nat → Bool
  sub : Nat → Nat → Bool
  /-- its instances' attributes -/
  xat : Nat → Nat → Bool
  /-- the class's property: its getter -/
  prp : Nat → Nat → Option Nat
  /-- an own class (no exception); instances of it are instances of the other -/
  isO : Nat → Bool
  kin : Nat → Nat → Bool
  /-- its == is asked before the other's -/
  nof : Nat → Nat → Bool
/-- what the text says, by numbers -/
structure Ts extends Pm where
  /-- names of defs, of constants; of classes; of attributes -/
  gn : Nat → Str
  cn : Nat → Str
  fnm : Nat → Str
  nf : Nat
  inj : ∀ a b, a < nf → b < nf → fnm a = fnm b → a = b
  /-- how many parameters -/
  ar : Nat → Nat
  /-- their names -/
  pn : Nat → List Str
  /-- a def of the text; one that stands at the top -/
  isF : Nat → Bool
  isG : Nat → Bool
  /-- may be called in an except suite -/
  isH : Nat → Bool
  /-- takes the caught exception alone, called in its suite -/
  isE : Nat → Bool := fun _ => false
  /-- a class of the text -/
  isC : Nat → Bool
  cI : Nat → Option Int
  cS : Nat → Option Str
/-- .. and where it stands -/
structure Tb extends Ts where
  cad : Nat → Addr
  fad : Nat → Addr
section
/-- an address that no tree uses: no cell, none of U -/
def Off (U : Addr → Prop) (W : Om) (a : Addr) : Prop := W a = none ∧ ¬ U a
variable (T : Tb) (U : Addr → Prop) (W : Om) (H : Hp)
mutual
inductive Rep : D → V → Prop
  | non : Rep .non .non
  | bl (b : Bool) : Rep (.bl b) (.bl b)
  | int (i : Int) : Rep (.int i) (.int i)
  | str (x : Str) : Rep (.str x) (.str x)
  | ptr (a : Addr) : Rep (.ptr a) (.ref a)
  | scr {a : Addr} {o : Obj} (ns : List Int) : Off U W a → H a = some (.frz o (.lst (ns.map V.int))) → Rep (.scr ns) (.ref a)
  | lst {a : Addr} {ds : List D} {vs : List V} : Off U W a → H a = some (.lst vs) → Reps ds vs → Rep (.lst ds) (.ref a)
  | tup {a : Addr} {ds : List D} {vs : List V} : Off U W a → H a = some (.tup vs) → Reps ds vs → Rep (.tup ds) (.ref a)
  | obj {a dx : Addr} {C : Nat} {fs : List (Nat × D)} {fv : List (Str × V)} : (fs.all fun p => T.fld C p.1) = true → Off U W a → H a = some (.ins (T.cad C) dx fv) → RepF fs fv → Rep (.obj C fs) (.ref a)
inductive Reps : List D → List V → Prop
  | nil : Reps [] []
  | cons {d : D} {v : V} {ds : List D} {vs : List V} : Rep d v → Reps ds vs → Reps (d :: ds) (v :: vs)
inductive RepF : List (Nat × D) → List (Str × V) → Prop
  | nil : RepF [] []
  | cons {f : Nat} {d : D} {v : V} {fs : List (Nat × D)} {fv : List (Str × V)} : f < T.nf → Rep d v → RepF fs fv → RepF ((f, d) :: fs) ((T.fnm f, v) :: fv)
end
/-- a cell's content -/
inductive RepM : MO → HO → Prop
  | lst {ds : List D} {vs : List V} : Reps T U W H ds vs → RepM (.lst ds) (.lst vs)
  | ins {C : Nat} {dx : Addr} {fs : List (Nat × D)} {fv : List (Str × V)} : (fs.all fun p => T.fld C p.1) = true → RepF T U W H fs fv → RepM (.ins C fs) (.ins (T.cad C) dx fv)
structure RepW : Prop where
  cell_ : ∀ a m, W a = some m → ∃ o, H a = some o ∧ RepM T U W H m o
  out : ∀ a m, W a = some m → ¬ U a
  hid : ∀ a, U a → ∃ o, H a = some o
inductive RepG0 : List (Option D) → St → Prop
  | nil : RepG0 [] []
  | no {v : Option V} {g : List (Option D)} {σ : St} : RepG0 g σ → RepG0 (none :: g) (v :: σ)
  | so {d : D} {v : V} {g : List (Option D)} {σ : St} : Rep T U W H d v → RepG0 g σ → RepG0 (some d :: g) (some v :: σ)
/-- an exception in the air -/
inductive RepX : Exn → Value → Option Addr → Prop
  | bare {C : Nat} : T.isX C = true → RepX ⟨C, []⟩ (.ref (T.cad C)) none
  | dict {C : Nat} {fs : List (Nat × D)} {dd : Addr} {fv : List (Str × V)} : T.isX C = true → Off U W dd → H dd = some (.xd fv) → RepF T U W H fs fv → RepX ⟨C, fs⟩ (.ref (T.cad C)) (some dd)
end
/-- the state moves on: what is not a cell stands; a new cell is a new address -/
structure Ext (W : Om) (H : Hp) (W' : Om) (H' : Hp) : Prop where
  keep : ∀ b o, H b = some o → W b = none → H' b = some o
  new : ∀ a, W' a ≠ none → W a ≠ none ∨ H a = none
theorem Ext.refl {W : Om} {H : Hp} : Ext W H W H := ⟨fun _ _ h _ => h, fun _ h => .inl h⟩
theorem Ext.off {W W' : Om} {H H' : Hp} (e : Ext W H W' H') {b : Addr} {o : HO} (h : H b = some o) (n : W b = none) : W' b = none := by
  cases q : W' b with
  | none => rfl
  | some m =>
    rcases e.new b (by rw [q]; simp) with z | z
    · exact absurd n z
    · rw [h] at z; cases z
theorem Ext.offU {U : Addr → Prop} {W W' : Om} {H H' : Hp} (e : Ext W H W' H') {b : Addr} {o : HO} (h : H b = some o) (n : Off U W b) : Off U W' b := ⟨e.off h n.1, n.2⟩
theorem Ext.trans {W W1 W2 : Om} {H H1 H2 : Hp} (a : Ext W H W1 H1) (b : Ext W1 H1 W2 H2) : Ext W H W2 H2 :=
  ⟨fun c o h n => b.keep c o (a.keep c o h n) (a.off h n), fun c h => by
    cases q : W c with
    | some m => exact .inl (by simp)
    | none =>
      cases r : H c with
      | none => exact .inr rfl
      | some o => exact absurd (b.off (a.keep c o r q) (a.off r q)) h⟩
section
variable {T : Tb} {U : Addr → Prop} {W W' : Om} {H H' : Hp}
mutual
theorem Rep.ext (e : Ext W H W' H') : ∀ {d : D} {v : V}, Rep T U W H d v → Rep T U W' H' d v
  | _, _, .non => .non
  | _, _, .bl b => .bl b
  | _, _, .int i => .int i
  | _, _, .str x => .str x
  | _, _, .ptr a => .ptr a
  | _, _, .scr ns n h => .scr ns (e.offU h n) (e.keep _ _ h n.1)
  | _, _, .lst n h r => .lst (e.offU h n) (e.keep _ _ h n.1) (Reps.ext e r)
  | _, _, .tup n h r => .tup (e.offU h n) (e.keep _ _ h n.1) (Reps.ext e r)
  | _, _, .obj q n h r => .obj q (e.offU h n) (e.keep _ _ h n.1) (RepF.ext e r)
theorem Reps.ext (e : Ext W H W' H') : ∀ {ds : List D} {vs : List V}, Reps T U W H ds vs → Reps T U W' H' ds vs
  | _, _, .nil => .nil
  | _, _, .cons r rs => .cons (Rep.ext e r) (Reps.ext e rs)
theorem RepF.ext (e : Ext W H W' H') : ∀ {fs : List (Nat × D)} {fv : List (Str × V)}, RepF T U W H fs fv → RepF T U W' H' fs fv
  | _, _, .nil => .nil
  | _, _, .cons l r rs => .cons l (Rep.ext e r) (RepF.ext e rs)
end
theorem RepG0.ext (e : Ext W H W' H') : ∀ {g : List (Option D)} {σ : St}, RepG0 T U W H g σ → RepG0 T U W' H' g σ
  | _, _, .nil => .nil
  | _, _, .no rs => .no (RepG0.ext e rs)
  | _, _, .so r rs => .so (r.ext e) (RepG0.ext e rs)
theorem RepM.ext (e : Ext W H W' H') {m : MO} {o : HO} : RepM T U W H m o → RepM T U W' H' m o
  | .lst r => .lst (r.ext e)
  | .ins q r => .ins q (r.ext e)
theorem RepX.ext (e : Ext W H W' H') {x : Exn} {c : Value} {d : Option Addr} : RepX T U W H x c d → RepX T U W' H' x c d
  | .bare C => .bare C
  | .dict c n h r => .dict c (e.offU h n) (e.keep _ _ h n.1) (r.ext e)
theorem RepX.isX {x : Exn} {c : Value} {d : Option Addr} : RepX T U W H x c d → T.isX x.C = true
  | .bare h => h
  | .dict h _ _ _ => h
theorem RepX.cls {x : Exn} {c : Value} {d : Option Addr} : RepX T U W H x c d → c = .ref (T.cad x.C)
  | .bare _ => rfl
  | .dict _ _ _ _ => rfl
theorem Reps.length : ∀ {ds : List D} {vs : List V}, Reps T U W H ds vs → ds.length = vs.length
  | _, _, .nil => rfl
  | _, _, .cons _ r => congrArg Nat.succ r.length
theorem Reps.append : ∀ {ds es : List D} {vs us : List V}, Reps T U W H ds vs → Reps T U W H es us → Reps T U W H (ds ++ es) (vs ++ us)
  | _, _, _, _, .nil, s => s
  | _, _, _, _, .cons r t, s => .cons r (Reps.append t s)
theorem Reps.get : ∀ {ds : List D} {vs : List V} {i : Nat} {d : D}, Reps T U W H ds vs → ds[i]? = some d → ∃ v, vs[i]? = some v ∧ Rep T U W H d v
  | _, _, _, _, .nil, e => by simp at e
  | _, _, 0, d, .cons r _, e => by simp at e; subst e; exact ⟨_, rfl, r⟩
  | _, _, i + 1, d, .cons _ t, e => by
    obtain ⟨v, h1, h2⟩ := Reps.get (i := i) (d := d) t (by simpa using e)
    exact ⟨v, by simpa using h1, h2⟩
theorem Reps.set {d : D} {v : V} (r : Rep T U W H d v) : ∀ {ds : List D} {vs : List V} (i : Nat), Reps T U W H ds vs → Reps T U W H (ds.set i d) (vs.set i v)
  | _, _, _, .nil => .nil
  | _, _, 0, .cons _ t => .cons r t
  | _, _, i + 1, .cons q t => .cons q (Reps.set r i t)
theorem Reps.take : ∀ {ds : List D} {vs : List V} (n : Nat), Reps T U W H ds vs → Reps T U W H (ds.take n) (vs.take n)
  | _, _, 0, _ => .nil
  | _, _, _ + 1, .nil => .nil
  | _, _, n + 1, .cons r t => .cons r (Reps.take n t)
theorem Reps.drop : ∀ {ds : List D} {vs : List V} (n : Nat), Reps T U W H ds vs → Reps T U W H (ds.drop n) (vs.drop n)
  | _, _, 0, r => r
  | _, _, _ + 1, .nil => .nil
  | _, _, n + 1, .cons _ t => Reps.drop n t
theorem Reps.eraseIdx : ∀ {ds : List D} {vs : List V} (n : Nat), Reps T U W H ds vs → Reps T U W H (ds.eraseIdx n) (vs.eraseIdx n)
  | _, _, _, .nil => .nil
  | _, _, 0, .cons _ t => t
  | _, _, n + 1, .cons r t => .cons r (Reps.eraseIdx n t)
theorem Reps.reverse : ∀ {ds : List D} {vs : List V}, Reps T U W H ds vs → Reps T U W H ds.reverse vs.reverse
  | _, _, .nil => .nil
  | _, _, .cons r t => by rw [List.reverse_cons, List.reverse_cons]; exact (Reps.reverse t).append (.cons r .nil)
theorem RepG0.length : ∀ {g : List (Option D)} {σ : St}, RepG0 T U W H g σ → g.length = σ.length
  | _, _, .nil => rfl
  | _, _, .no r => congrArg Nat.succ r.length
  | _, _, .so _ r => congrArg Nat.succ r.length
theorem RepG0.get : ∀ {g : List (Option D)} {σ : St} {i : Nat} {d : D}, RepG0 T U W H g σ → g[i]? = some (some d) → ∃ v, σ[i]? = some (some v) ∧ Rep T U W H d v
  | _, _, _, _, .nil, e => by simp at e
  | _, _, 0, _, .no _, e => by simp at e
  | _, _, 0, _, .so r _, e => by simp at e; subst e; exact ⟨_, rfl, r⟩
  | _, _, i + 1, d, .no t, e => by
    obtain ⟨v, h1, h2⟩ := RepG0.get (i := i) (d := d) t (by simpa using e)
    exact ⟨v, by simpa using h1, h2⟩
  | _, _, i + 1, d, .so _ t, e => by
    obtain ⟨v, h1, h2⟩ := RepG0.get (i := i) (d := d) t (by simpa using e)
    exact ⟨v, by simpa using h1, h2⟩
theorem RepG0.set {d : D} {v : V} (r : Rep T U W H d v) : ∀ {g : List (Option D)} {σ : St} (i : Nat), RepG0 T U W H g σ → RepG0 T U W H (g.set i (some d)) (σ.set i (some v))
  | _, _, _, .nil => .nil
  | _, _, 0, .no t => .so r t
  | _, _, 0, .so _ t => .so r t
  | _, _, i + 1, .no t => .no (RepG0.set r i t)
  | _, _, i + 1, .so q t => .so q (RepG0.set r i t)
theorem RepG0.wipe1 : ∀ {g : List (Option D)} {σ : St} (i : Nat) (x : Option V), RepG0 T U W H g σ → RepG0 T U W H (g.set i none) (σ.set i x)
  | _, _, _, _, .nil => .nil
  | _, _, 0, _, .no t => .no t
  | _, _, 0, _, .so _ t => .no t
  | _, _, i + 1, x, .no t => .no (RepG0.wipe1 i x t)
  | _, _, i + 1, x, .so q t => .so q (RepG0.wipe1 i x t)
theorem RepF.length : ∀ {fs : List (Nat × D)} {fv : List (Str × V)}, RepF T U W H fs fv → fs.length = fv.length
  | _, _, .nil => rfl
  | _, _, .cons _ _ r => congrArg Nat.succ r.length
theorem RepF.look : ∀ {fs : List (Nat × D)} {fv : List (Str × V)} {f : Nat} {d : D}, RepF T U W H fs fv → f < T.nf → fs.lookup f = some d → ∃ v, fv.lookup (T.fnm f) = some v ∧ Rep T U W H d v
  | _, _, _, _, .nil, _, e => by simp at e
  | _, _, f, d, .cons (f := g) l r rs, lf, e => by
    rw [List.lookup_cons] at e
    by_cases h : f = g
    · subst h
      simp at e
      subst e
      exact ⟨_, by rw [List.lookup_cons]; simp, r⟩
    · have h' : (f == g) = false := by simpa using h
      rw [h'] at e
      obtain ⟨v, e1, e2⟩ := RepF.look rs lf e
      have h2 : (T.fnm f == T.fnm g) = false := by
        rw [beq_eq_false_iff_ne]
        exact fun z => h (T.inj _ _ lf l z)
      exact ⟨v, by rw [List.lookup_cons, h2]; exact e1, e2⟩
theorem RepF.lookN : ∀ {fs : List (Nat × D)} {fv : List (Str × V)} {f : Nat}, RepF T U W H fs fv → f < T.nf → fs.lookup f = none → fv.lookup (T.fnm f) = none
  | _, _, _, .nil, _, e => rfl
  | _, _, f, .cons (f := g) l r rs, lf, e => by
    rw [List.lookup_cons] at e
    by_cases h : f = g
    · subst h
      simp at e
    · have h' : (f == g) = false := by simpa using h
      rw [h'] at e
      have h2 : (T.fnm f == T.fnm g) = false := by
        rw [beq_eq_false_iff_ne]
        exact fun z => h (T.inj _ _ lf l z)
      rw [List.lookup_cons, h2]
      exact RepF.lookN rs lf e
/-- a field is stored -/
def putN (f : Nat) (d : D) : List (Nat × D) → List (Nat × D)
  | [] => [(f, d)]
  | p :: r => if p.1 = f then (p.1, d) :: r else p :: putN f d r
theorem RepF.put {f : Nat} {d : D} {v : V} (lf : f < T.nf) (r : Rep T U W H d v) : ∀ {fs : List (Nat × D)} {fv : List (Str × V)}, RepF T U W H fs fv → RepF T U W H (putN f d fs) (putF (T.fnm f) v fv)
  | _, _, .nil => .cons lf r .nil
  | _, _, .cons (f := g) (v := v') l r' rs => by
    by_cases h : g = f
    · subst h
      have e1 : ∀ (d0 : D) (fs0 : List (Nat × D)), putN g d ((g, d0) :: fs0) = (g, d) :: fs0 := fun d0 fs0 => by unfold putN; rw [if_pos rfl]
      have e2 : ∀ (fv0 : List (Str × V)), putF (T.fnm g) v ((T.fnm g, v') :: fv0) = (T.fnm g, v) :: fv0 := fun fv0 => by unfold putF; rw [if_pos rfl]
      rw [e1, e2]
      exact .cons l r rs
    · have h2 : ¬ T.fnm g = T.fnm f := fun z => h (T.inj _ _ l lf z)
      have e1 : ∀ (d0 : D) (fs0 : List (Nat × D)), putN f d ((g, d0) :: fs0) = (g, d0) :: putN f d fs0 := fun d0 fs0 => by
        show (if g = f then _ else _) = _
        rw [if_neg h]
      have e2 : ∀ (fv0 : List (Str × V)), putF (T.fnm f) v ((T.fnm g, v') :: fv0) = (T.fnm g, v') :: putF (T.fnm f) v fv0 := fun fv0 => by
        show (if T.fnm g = T.fnm f then _ else _) = _
        rw [if_neg h2]
      rw [e1, e2]
      exact .cons l r' (RepF.put lf r rs)
/-- ints -/
theorem Reps.ints : ∀ (ns : List Int), Reps T U W H (ns.map D.int) (ns.map V.int)
  | [] => .nil
  | n :: ns => .cons (.int n) (Reps.ints ns)
theorem Reps.of_ints : ∀ {ns : List Int} {vs : List V}, Reps T U W H (ns.map D.int) vs → vs = ns.map V.int
  | [], _, h => by cases h; rfl
  | n :: ns, _, h => by
    rcases h with _ | ⟨r, t⟩
    cases r
    rw [Reps.of_ints t]
    rfl
theorem RepW.offU (h : RepW T U W H) {a : Addr} (hu : U a) : W a = none := by
  cases q : W a with
  | none => rfl
  | some m => exact absurd hu (h.out a m q)
theorem RepW.hid_ext (h : RepW T U W H) (e : Ext W H W' H') : ∀ a, U a → ∃ o, H' a = some o := fun a hu => by
  obtain ⟨o, q⟩ := h.hid a hu
  exact ⟨o, e.keep a o q (h.offU hu)⟩
theorem RepW.new (h : RepW T U W H) {p : Addr} (hp : H p = none) : Off U W p := by
  refine ⟨?_, fun hu => ?_⟩
  · cases q : W p with
    | none => rfl
    | some m =>
      obtain ⟨o', h', _⟩ := h.cell_ p m q
      rw [hp] at h'; cases h'
  · obtain ⟨o, q⟩ := h.hid p hu
    rw [hp] at q; cases q
/-- a new address, kept as a tree -/
theorem Ext.fresh {p : Addr} {o : HO} (hp : H p = none) (hw : RepW T U W H) : Ext W H W (upd H p o) ∧ Off U W p := by
  refine ⟨⟨fun b o' h _ => ?_, fun a h => .inl h⟩, hw.new hp⟩
  rw [upd_ne (ne_of_none h hp)]; exact h
theorem RepW.ext_same (hw : RepW T U W H) (e : Ext W H W H') (hc : ∀ a m o, W a = some m → H a = some o → H' a = some o) : RepW T U W H' :=
  ⟨fun a m h => by
    obtain ⟨o, h1, h2⟩ := hw.cell_ a m h
    exact ⟨o, hc a m o h h1, h2.ext e⟩, hw.out, hw.hid_ext e⟩
theorem RepW.fresh {p : Addr} {o : HO} (hp : H p = none) (hw : RepW T U W H) : RepW T U W (upd H p o) :=
  hw.ext_same (Ext.fresh hp hw).1 fun a m o' _ h => by rw [upd_ne (ne_of_none h hp)]; exact h
/-- a new cell -/
theorem Ext.cell {p : Addr} {o : HO} {m : MO} (hp : H p = none) : Ext W H (W.set p m) (upd H p o) :=
  ⟨fun b o' h _ => by rw [upd_ne (ne_of_none h hp)]; exact h, fun a h => by
    by_cases e : a = p
    · subst e; exact .inr hp
    · rw [Om.set_ne e] at h; exact .inl h⟩
theorem RepW.cell {p : Addr} {o : HO} {m : MO} (hp : H p = none) (hw : RepW T U W H) (hm : RepM T U W H m o) : RepW T U (W.set p m) (upd H p o) := by
  have x : Ext W H (W.set p m) (upd H p o) := Ext.cell hp
  refine ⟨fun a m' h => ?_, fun a m' h => ?_, hw.hid_ext x⟩
  · by_cases e : a = p
    · subst e
      rw [Om.set_same] at h; cases h
      exact ⟨o, upd_same, hm.ext x⟩
    · rw [Om.set_ne e] at h
      obtain ⟨o', h1, h2⟩ := hw.cell_ a m' h
      exact ⟨o', by rw [upd_ne e]; exact h1, h2.ext x⟩
  · by_cases e : a = p
    · subst e; exact (hw.new hp).2
    · rw [Om.set_ne e] at h
      exact hw.out a m' h
/-- a cell is written -/
theorem Ext.write {p : Addr} {o : HO} {m m0 : MO} (hp : W p = some m0) : Ext W H (W.set p m) (upd H p o) :=
  ⟨fun b o' h n => by
    have : b ≠ p := fun e => by subst e; rw [hp] at n; cases n
    rw [upd_ne this]; exact h, fun a h => by
    by_cases e : a = p
    · subst e; exact .inl (by rw [hp]; simp)
    · rw [Om.set_ne e] at h; exact .inl h⟩
theorem RepW.write {p : Addr} {o : HO} {m m0 : MO} (hp : W p = some m0) (hw : RepW T U W H) (hm : RepM T U W H m o) : RepW T U (W.set p m) (upd H p o) := by
  have x : Ext W H (W.set p m) (upd H p o) := Ext.write hp
  refine ⟨fun a m' h => ?_, fun a m' h => ?_, hw.hid_ext x⟩
  · by_cases e : a = p
    · subst e
      rw [Om.set_same] at h; cases h
      exact ⟨o, upd_same, hm.ext x⟩
    · rw [Om.set_ne e] at h
      obtain ⟨o', h1, h2⟩ := hw.cell_ a m' h
      exact ⟨o', by rw [upd_ne e]; exact h1, h2.ext x⟩
  · by_cases e : a = p
    · subst e; exact hw.out _ _ hp
    · rw [Om.set_ne e] at h
      exact hw.out a m' h
/-- cells are let go (frozen, dropped) -/
theorem Ext.sub (hs : ∀ a m, W' a = some m → W a = some m) : Ext W H W' H :=
  ⟨fun _ _ h _ => h, fun a h => .inl (by
    cases q : W' a with
    | none => exact absurd q h
    | some m => rw [hs a m q]; simp)⟩
theorem RepW.sub (hw : RepW T U W H) (hs : ∀ a m, W' a = some m → W a = some m) : RepW T U W' H :=
  ⟨fun a m h => by
    obtain ⟨o, h1, h2⟩ := hw.cell_ a m (hs a m h)
    exact ⟨o, h1, h2.ext (Ext.sub hs)⟩, fun a m h => hw.out a m (hs a m h), hw.hid⟩
theorem Om.del_sub {W : Om} {p : Addr} : ∀ a m, (W.del p) a = some m → W a = some m := fun a m h => by
  by_cases e : a = p
  · subst e; rw [Om.del_same] at h; cases h
  · rwa [Om.del_ne e] at h
/-- a list cell becomes a tree -/
theorem RepW.freeze {p : Addr} {ds : List D} (hw : RepW T U W H) (hp : W p = some (.lst ds)) : Rep T U (W.del p) H (.lst ds) (.ref p) := by
  obtain ⟨o, h1, h2⟩ := hw.cell_ p _ hp
  cases h2 with
  | lst r => exact .lst ⟨Om.del_same, hw.out p _ hp⟩ h1 (r.ext (Ext.sub Om.del_sub))
theorem RepW.freezeI {p : Addr} {C : Nat} {fs : List (Nat × D)} (hw : RepW T U W H) (hp : W p = some (.ins C fs)) : Rep T U (W.del p) H (.obj C fs) (.ref p) := by
  obtain ⟨o, h1, h2⟩ := hw.cell_ p _ hp
  cases h2 with
  | ins q r => exact .obj q ⟨Om.del_same, hw.out p _ hp⟩ h1 (r.ext (Ext.sub Om.del_sub))
abbrev Hid (U : Addr → Prop) (p : Addr) : Addr → Prop := fun a => U a ∨ a = p
mutual
theorem Rep.hide {p : Addr} (hp : H p = none) : ∀ {d : D} {v : V}, Rep T U W H d v → Rep T (Hid U p) W H d v
  | _, _, .non => .non
  | _, _, .bl b => .bl b
  | _, _, .int i => .int i
  | _, _, .str x => .str x
  | _, _, .ptr a => .ptr a
  | _, _, .scr ns n h => .scr ns ⟨n.1, fun z => z.elim n.2 fun e => by rw [e, hp] at h; cases h⟩ h
  | _, _, .lst n h r => .lst ⟨n.1, fun z => z.elim n.2 fun e => by rw [e, hp] at h; cases h⟩ h (Reps.hide hp r)
  | _, _, .tup n h r => .tup ⟨n.1, fun z => z.elim n.2 fun e => by rw [e, hp] at h; cases h⟩ h (Reps.hide hp r)
  | _, _, .obj q n h r => .obj q ⟨n.1, fun z => z.elim n.2 fun e => by rw [e, hp] at h; cases h⟩ h (RepF.hide hp r)
theorem Reps.hide {p : Addr} (hp : H p = none) : ∀ {ds : List D} {vs : List V}, Reps T U W H ds vs → Reps T (Hid U p) W H ds vs
  | _, _, .nil => .nil
  | _, _, .cons r rs => .cons (Rep.hide hp r) (Reps.hide hp rs)
theorem RepF.hide {p : Addr} (hp : H p = none) : ∀ {fs : List (Nat × D)} {fv : List (Str × V)}, RepF T U W H fs fv → RepF T (Hid U p) W H fs fv
  | _, _, .nil => .nil
  | _, _, .cons l r rs => .cons l (Rep.hide hp r) (RepF.hide hp rs)
end
mutual
theorem Rep.less {U' : Addr → Prop} (hu : ∀ a, U a → U' a) : ∀ {d : D} {v : V}, Rep T U' W H d v → Rep T U W H d v
  | _, _, .non => .non
  | _, _, .bl b => .bl b
  | _, _, .int i => .int i
  | _, _, .str x => .str x
  | _, _, .ptr a => .ptr a
  | _, _, .scr ns n h => .scr ns ⟨n.1, fun z => n.2 (hu _ z)⟩ h
  | _, _, .lst n h r => .lst ⟨n.1, fun z => n.2 (hu _ z)⟩ h (Reps.less hu r)
  | _, _, .tup n h r => .tup ⟨n.1, fun z => n.2 (hu _ z)⟩ h (Reps.less hu r)
  | _, _, .obj q n h r => .obj q ⟨n.1, fun z => n.2 (hu _ z)⟩ h (RepF.less hu r)
theorem Reps.less {U' : Addr → Prop} (hu : ∀ a, U a → U' a) : ∀ {ds : List D} {vs : List V}, Reps T U' W H ds vs → Reps T U W H ds vs
  | _, _, .nil => .nil
  | _, _, .cons r rs => .cons (Rep.less hu r) (Reps.less hu rs)
theorem RepF.less {U' : Addr → Prop} (hu : ∀ a, U a → U' a) : ∀ {fs : List (Nat × D)} {fv : List (Str × V)}, RepF T U' W H fs fv → RepF T U W H fs fv
  | _, _, .nil => .nil
  | _, _, .cons l r rs => .cons l (Rep.less hu r) (RepF.less hu rs)
end
theorem RepG0.hide {p : Addr} (hp : H p = none) : ∀ {g : List (Option D)} {σ : L2.St}, RepG0 T U W H g σ → RepG0 T (Hid U p) W H g σ
  | _, _, .nil => .nil
  | _, _, .no r => .no (RepG0.hide hp r)
  | _, _, .so r rs => .so (r.hide hp) (RepG0.hide hp rs)
theorem RepM.hide {p : Addr} (hp : H p = none) {m : MO} {o : HO} : RepM T U W H m o → RepM T (Hid U p) W H m o
  | .lst r => .lst (r.hide hp)
  | .ins q r => .ins q (r.hide hp)
theorem RepM.less {U' : Addr → Prop} (hu : ∀ a, U a → U' a) {m : MO} {o : HO} : RepM T U' W H m o → RepM T U W H m o
  | .lst r => .lst (r.less hu)
  | .ins q r => .ins q (r.less hu)
/-- a new address, hidden -/
theorem RepW.hideNew {p : Addr} {o : HO} (hp : H p = none) (hw : RepW T U W H) : RepW T (Hid U p) W (upd H p o) := by
  have x := Ext.fresh (o := o) hp hw
  refine ⟨fun a m h => ?_, fun a m h z => ?_, fun a h => ?_⟩
  · obtain ⟨o', h1, h2⟩ := hw.cell_ a m h
    exact ⟨o', by rw [upd_ne (ne_of_none h1 hp)]; exact h1, (h2.hide hp).ext x.1⟩
  · rcases z with z | z
    · exact hw.out a m h z
    · obtain ⟨o', h1, _⟩ := hw.cell_ a m h
      rw [z, hp] at h1; cases h1
  · rcases h with h | h
    · exact hw.hid_ext x.1 a h
    · exact ⟨o, by rw [h]; exact upd_same⟩
theorem RepW.unhide {p : Addr} (hw : RepW T (Hid U p) W H) : RepW T U W H :=
  ⟨fun a m h => by
    obtain ⟨o, h1, h2⟩ := hw.cell_ a m h
    exact ⟨o, h1, h2.less fun _ z => .inl z⟩, fun a m h z => hw.out a m h (.inl z), fun a h => hw.hid a (.inl h)⟩
mutual
theorem Rep.poke {p : Addr} {o : HO} : ∀ {d : D} {v : V}, Rep T (Hid U p) W H d v → Rep T (Hid U p) W (upd H p o) d v
  | _, _, .non => .non
  | _, _, .bl b => .bl b
  | _, _, .int i => .int i
  | _, _, .str x => .str x
  | _, _, .ptr a => .ptr a
  | _, _, .scr ns n h => .scr ns n (by rw [upd_ne fun e => n.2 (.inr e)]; exact h)
  | _, _, .lst n h r => .lst n (by rw [upd_ne fun e => n.2 (.inr e)]; exact h) (Reps.poke r)
  | _, _, .tup n h r => .tup n (by rw [upd_ne fun e => n.2 (.inr e)]; exact h) (Reps.poke r)
  | _, _, .obj q n h r => .obj q n (by rw [upd_ne fun e => n.2 (.inr e)]; exact h) (RepF.poke r)
theorem Reps.poke {p : Addr} {o : HO} : ∀ {ds : List D} {vs : List V}, Reps T (Hid U p) W H ds vs → Reps T (Hid U p) W (upd H p o) ds vs
  | _, _, .nil => .nil
  | _, _, .cons r rs => .cons (Rep.poke r) (Reps.poke rs)
theorem RepF.poke {p : Addr} {o : HO} : ∀ {fs : List (Nat × D)} {fv : List (Str × V)}, RepF T (Hid U p) W H fs fv → RepF T (Hid U p) W (upd H p o) fs fv
  | _, _, .nil => .nil
  | _, _, .cons l r rs => .cons l (Rep.poke r) (RepF.poke rs)
end
theorem RepG0.poke {p : Addr} {o : HO} : ∀ {g : List (Option D)} {σ : L2.St}, RepG0 T (Hid U p) W H g σ → RepG0 T (Hid U p) W (upd H p o) g σ
  | _, _, .nil => .nil
  | _, _, .no r => .no (RepG0.poke r)
  | _, _, .so r rs => .so r.poke (RepG0.poke rs)
/-- the hidden thing is written -/
theorem RepW.poke {p : Addr} {o : HO} (hw : RepW T (Hid U p) W H) : RepW T (Hid U p) W (upd H p o) := by
  refine ⟨fun a m h => ?_, hw.out, fun a h => ?_⟩
  · obtain ⟨o', h1, h2⟩ := hw.cell_ a m h
    refine ⟨o', ?_, ?_⟩
    · rw [upd_ne fun e => hw.out a m h (.inr e)]; exact h1
    · cases h2 with
      | lst r => exact .lst r.poke
      | ins q r => exact .ins q r.poke
  · by_cases e : a = p
    · exact ⟨o, by rw [e]; exact upd_same⟩
    · obtain ⟨o', q⟩ := hw.hid a h
      exact ⟨o', by rw [upd_ne e]; exact q⟩
end
/-- what a def's state is read with: the hidden addresses; the slot of the caught exception; the objects that stand by -/
structure Ux where
  hid : Addr → Prop
  ei : Option Nat
  pn : List (Addr × Obj)
instance : Coe Ux (Addr → Prop) := ⟨Ux.hid⟩
/-- the caught exception, at slot i -/
def ExAt (T : Tb) (U : Ux) (W : Om) (H : Hp) (i : Nat) (g : List (Option D)) (σ : L2.St) : Prop :=
  ∃ C fs a oe, g[i]? = some (some (.exn C fs)) ∧ σ[i]? = some (some (.ref a)) ∧ (a, oe) ∈ U.pn ∧ (∃ vs, oe.data = .fields vs) ∧ RepX T U.hid W H ⟨C, fs⟩ oe.cls oe.dict
/-- the slots -/
def RepG (T : Tb) (U : Ux) (W : Om) (H : Hp) (g : List (Option D)) (σ : L2.St) : Prop := match U.ei with
  | none => RepG0 T U.hid W H g σ
  | some i => ExAt T U W H i g σ ∧ RepG0 T U.hid W H (g.set i none) σ
section
variable {T : Tb} {U : Ux} {W W' : Om} {H H' : Hp} {g : List (Option D)} {σ : L2.St}
theorem RepG.zero (h : U.ei = none) : RepG T U W H g σ ↔ RepG0 T U.hid W H g σ := by
  unfold RepG
  rw [h]
theorem RepG.some_ {i : Nat} (h : U.ei = some i) : RepG T U W H g σ ↔ ExAt T U W H i g σ ∧ RepG0 T U.hid W H (g.set i none) σ := by
  unfold RepG
  rw [h]
theorem RepG.ext (e : Ext W H W' H') (r : RepG T U W H g σ) : RepG T U W' H' g σ := by
  cases q : U.ei with
  | none => rw [RepG.zero q] at r ⊢; exact r.ext e
  | some i =>
    rw [RepG.some_ q] at r ⊢
    obtain ⟨⟨C, fs, a, oe, h1, h2, h3, h4, h5⟩, r⟩ := r
    exact ⟨⟨C, fs, a, oe, h1, h2, h3, h4, h5.ext e⟩, r.ext e⟩
theorem RepG.get {i : Nat} {d : D} (hi : U.ei ≠ some i) (r : RepG T U W H g σ) (h : g[i]? = some (some d)) : ∃ v, σ[i]? = some (some v) ∧ Rep T U.hid W H d v := by
  cases q : U.ei with
  | none => rw [RepG.zero q] at r; exact r.get h
  | some j =>
    rw [RepG.some_ q] at r
    have ne : j ≠ i := fun e => hi (by rw [q, e])
    exact r.2.get (by rw [List.getElem?_set_ne ne]; exact h)
theorem RepG.set {i : Nat} {d : D} {v : V} (rd : Rep T U.hid W H d v) (hi : U.ei ≠ some i) (r : RepG T U W H g σ) : RepG T U W H (g.set i (some d)) (σ.set i (some v)) := by
  cases q : U.ei with
  | none => rw [RepG.zero q] at r ⊢; exact RepG0.set rd i r
  | some j =>
    rw [RepG.some_ q] at r ⊢
    have ne : j ≠ i := fun e => hi (by rw [q, e])
    obtain ⟨⟨C, fs, a, oe, h1, h2, h3⟩, r⟩ := r
    refine ⟨⟨C, fs, a, oe, by rw [List.getElem?_set_ne (Ne.symm ne)]; exact h1, by rw [List.getElem?_set_ne (Ne.symm ne)]; exact h2, h3⟩, ?_⟩
    have e : (g.set i (some d)).set j none = (g.set j none).set i (some d) := List.set_comm (some d) none (Ne.symm ne)
    rw [e]
    exact RepG0.set rd i r
theorem RepG.length (r : RepG T U W H g σ) : g.length = σ.length := by
  cases q : U.ei with
  | none => rw [RepG.zero q] at r; exact r.length
  | some j => rw [RepG.some_ q] at r; have := r.2.length; rwa [List.length_set] at this
end
end Tw
set_option maxHeartbeats 4000000
namespace Tw
open PySem PySem.Spec L2 PyProof.Rows
section
variable {X : L2.Cx}
def rSumT (K : PySem.W.Frag) : List V → Hp → VK → Prop := fun vs H Q => ∃ (a : Addr) (ns : List Int), vs = [V.ref a] ∧ SqT K H a (ns.map V.int) ∧ Q (.int ns.sum) H
theorem cr_sumT (hc : X.calm = true) : CallR X (.builtin "sum") (rSumT X.K) := by
  intro pins s σ H vs us Q I r h
  obtain ⟨a, ns, rfl, hs, q⟩ := h
  obtain ⟨its, rv, hl, _⟩ := I.tuple hs
  rw [Vals.ref1 r]
  obtain ⟨xs, e⟩ := rv.ints.allInts.items
  have hn : numsOf (intItems xs).toList = ns := by rw [← e]; exact rv.ints.numsOf
  rw [nums_intItems] at hn
  rw [e] at hl
  refine PySem.W.ktm_sumG (I.ok.hd hc) hl fun h' tk t' hk => ⟨.int _, H, I.kept hk, ⟨_, rfl⟩, ?_⟩
  rw [preSum_eq, List.take_of_length_le (by simp), hn]
  exact q
end
end Tw
set_option maxHeartbeats 4000000
namespace Tw
open PySem PySem.Spec L2
open PyProof.Rows (b2i)
inductive BOp where
  | add | sub | mul | fdiv | mod | pow | shl | shr | band
  deriving DecidableEq
inductive COp where
  | lt | le | gt | ge | eq | ne | is | isnot | mem | nomem
  deriving DecidableEq
/-- built-in functions and types that are called -/
inductive Blt where
  | len | abs | min2 | max2 | int | list | tuple | str | bool | sum | max1 | min1 | all | any | sorted
  deriving DecidableEq
/-- a class asked by isinstance: a built-in one or one of the text -/
inductive Cl where
  | ty (n : String) | own (C : Nat)
/-- methods of built-in types -/
inductive Mt where
  | append | pop | reverse | insert | clear | extend
  deriving DecidableEq
/-- methods that change nothing -/
inductive Rm where
  | index
  deriving DecidableEq
/-- operators of an own class: the method's number -/
inductive Own2 where
  | bin (o : BOp) (m : Nat) | eq (m : Nat) | mem (neg : Bool) (m : Nat)
inductive Own1 where
  | neg (m : Nat) | prop (m : Nat)
/-- what is walked by a builtin's iterator -/
inductive ItF where
  | enum | zip | rev
  deriving DecidableEq
def ItF.name : ItF → Str
  | .enum => "enumerate" | .zip => "zip" | .rev => "reversed"
def ItF.ar : ItF → Nat
  | .enum => 1 | .zip => 2 | .rev => 1
/-- where a value goes: a name, several -/
inductive Tg where
  | name (i : Nat) | tup (is : List Nat)
mutual
inductive E where
  | var (i : Nat) | int (i : Int) | str (x : Str) | bl (b : Bool) | non
  | gint (g : Nat) (i : Int) | gstr (g : Nat) (x : Str)
  | bin (o : BOp) (own : Bool) (a b : E) | neg (a : E)
  | cmp (o : COp) (a b : E) | chain (o p : COp) (a b c : E)
  | and (a b : E) | or (a b : E) | not (a : E) | ite (c a b : E)
  | lst (own : Bool) (es : List E) | tup (es : List E)
  | rev (own : Bool) (a : E)
  | idx (a i : E) | slice (own : Bool) (a : E) (lo hi : Option E)
  | call (f : Nat) (es : List E)
  | callK (f : Nat) (es ks : List E) (pm : List Nat)
  | blt (b : Blt) (own : Bool) (es : List E)
  | isi (e : E) (c : Cl)
  | meth (m : Mt) (o : E) (es : List E)
  | rmeth (m : Rm) (o : E) (es : List E)
  | lzip (es : List E)
  | umeth (m : Nat) (o : E) (es : List E)
  | attr (o : E) (f : Nat)
  | mk (C : Nat) (own : Bool) (es : List E)
  | exI (i : Nat) (c : Cl) | exA (i f : Nat) | exC (f i : Nat)
  | own2 (o : Own2) (a b : E) | own1 (o : Own1) (a : E)
  | umethK (C m : Nat) (o : E) (es ks : List E) (pm : List Nat)
  | mkK (C : Nat) (own : Bool) (es ks : List E) (pm : List Nat)
  | lrng (own : Bool) (es : List E)
  | comp (own : Bool) (i : Nat) (elt : E) (it : I) (cond : Option E)
  | compR (own : Bool) (t : Tg) (elt : E) (it : I) (cond : Option E)
  | comp2 (own : Bool) (i j : Nat) (elt : E) (it it1 : I)
  | compH (own : Bool) (h i : Nat) (elt a : E) (cond : Option E)
inductive I where
  | seq (e : E) | rng (es : List E) | itf (f : ItF) (es : List E)
end
inductive Out where
  | ret (d : D) | exc (x : Exn)
/-- what a def is worth: room, arguments, cells, what is wanted -/
abbrev Spec := Nat → List D → Om → (Out → Om → Prop) → Prop
abbrev Gs := Nat → Spec
abbrev Gm := List (Option D)
abbrev PQ := D → Om → Prop
abbrev PX := Exn → Om → Prop
def onI (d : D) (k : Int → Prop) : Prop := match d with | .int i => k i | _ => False
def onB (d : D) (k : Bool → Prop) : Prop := match d with | .bl i => k i | _ => False
/-- a product's factors fit -/
def MulOk (i j : Int) : Prop := (-(2 ^ 64) < i ∧ i < 2 ^ 64) ∨ (-(2 ^ 64) < j ∧ j < 2 ^ 64) ∨ i.natAbs.log2 + j.natAbs.log2 < 1000000
def FitP (i j : Int) : Prop := 0 ≤ j ∧ (Builtin.Int.intBits i : Int) * j ≤ 2 ^ 27
def ShlOk (i j : Int) : Prop := 0 ≤ j ∧ j ≤ 1000000 ∧ i.natAbs < 2 ^ 64
/-- a list is made -/
def mkL (own : Bool) (ds : List D) (W : Om) (Q : PQ) : Prop := match own with
  | false => Q (.lst ds) W
  | true => ∀ p, W p = none → Q (.ptr p) (W.set p (.lst ds))
def binD (o : BOp) (own : Bool) (x y : D) (W : Om) (Q : PQ) : Prop := match o, x, y with
  | .add, .int i, .int j => Q (.int (i + j)) W
  | .add, .int i, .bl j => Q (.int (i + b2i j)) W
  | .sub, .int i, .int j => Q (.int (i - j)) W
  | .mul, .int i, .int j => MulOk i j ∧ Q (.int (i * j)) W
  | .fdiv, .int i, .int j => (0 < j ∧ j.natAbs.log2 < 9000) ∧ Q (.int (i / j)) W
  | .mod, .int i, .int j => 0 < j ∧ Q (.int (i % j)) W
  | .pow, .int i, .int j => FitP i j ∧ Q (.int (i ^ j.toNat)) W
  | .shl, .int i, .int j => ShlOk i j ∧ Q (.int (i * 2 ^ j.toNat)) W
  | .shr, .int i, .int j => 0 ≤ j ∧ Q (.int (i / 2 ^ j.toNat)) W
  | .band, .int i, .int j => Q (.int (Builtin.bitAnd i j)) W
  | .add, .tup a, .tup b => a.length + b.length ≤ sizeLine ∧ Q (.tup (a ++ b)) W
  | .add, .ptr a, .lst b => ∃ ds, W a = some (.lst ds) ∧ ds.length + b.length ≤ sizeLine ∧ mkL own (ds ++ b) W Q
  | .add, .lst a, .ptr b => ∃ ds, W b = some (.lst ds) ∧ a.length + ds.length ≤ sizeLine ∧ mkL own (a ++ ds) W Q
  | .add, .str i, .str j => i.length + j.length ≤ sizeLine ∧ Q (.str (i ++ j)) W
  | .add, .lst a, .lst b => a.length + b.length ≤ sizeLine ∧ mkL own (a ++ b) W Q
  | .mul, .lst a, .int k => (-(2 ^ 63) ≤ k ∧ k < 2 ^ 63 ∧ a.length * k.toNat ≤ sizeLine) ∧ mkL own (List.replicate k.toNat a).flatten W Q
  | _, _, _ => False
/-- a plain value, for == and in -/
def flatD : D → Bool
  | .non => true | .bl _ => true | .int _ => true | .str _ => true | _ => false
/-- == of plain values: None, bools, ints, texts -/
def eqF : D → D → Bool
  | .non, .non => true
  | .bl a, .bl b => a == b
  | .int a, .int b => decide (a = b)
  | .str a, .str b => decide (a = b)
  | .int a, .bl b => decide (a = b2i b)
  | .bl a, .int b => decide (b2i a = b)
  | _, _ => false
/-- kinds that == compares by value (not a bool with an int) -/
def sameK : D → D → Bool
  | .non, .non => true | .non, .int _ => true | .int _, .non => true | .non, .bl _ => true | .bl _, .non => true | .non, .str _ => true | .str _, .non => true
  | .int _, .int _ => true | .bl _, .bl _ => true | .str _, .str _ => true
  | .int _, .str _ => true | .str _, .int _ => true | .bl _, .str _ => true | .str _, .bl _ => true
  | _, _ => false
def isNon : D → Bool
  | .non => true | _ => false
/-- a tree as data: None, bools, ints, texts, lists, tuples -/
def toPy : D → PyData
  | .non => .none | .bl b => .bool b | .int i => .int i | .str x => .str x
  | .lst ds => .list (ds.attach.map fun ⟨d, _⟩ => toPy d)
  | .tup ds => .tuple (ds.attach.map fun ⟨d, _⟩ => toPy d)
  | _ => .none
/-- such a tree (n: its depth at most) -/
def deepOk : Nat → D → Bool
  | _, .non => true | _, .bl _ => true | _, .int _ => true | _, .str x => x.cps.all (· < 0x110000)
  | n + 1, .lst ds => ds.all (deepOk n)
  | n + 1, .tup ds => ds.all (deepOk n)
  | _, _ => false
/-- a list or a tuple of such -/
def rowD (d : D) : Bool := match d with
  | .lst _ => deepOk 8 d | .tup _ => deepOk 8 d | _ => false
def eqDeep (x y : D) : Bool := PyData.eqv (toPy x) (toPy y)
/-- a cell's list as a tree -/
def rowOf (W : Om) (d : D) : Option D := match d with
  | .lst ds => some (.lst ds) | .tup ds => some (.tup ds)
  | .scr ns => some (.lst (ns.map .int))
  | .ptr a => match W a with
    | some (.lst ds) => some (.lst ds)
    | _ => none
  | _ => none
def eqRow (W : Om) (x y : D) (k : Bool → Prop) : Prop := ∃ a b, rowOf W x = some a ∧ rowOf W y = some b ∧ rowD a = true ∧ rowD b = true ∧ k (eqDeep a b)
/-- what a sequence holds -/
def seqOf (W : Om) : D → Option (List D)
  | .lst ds => some ds
  | .tup ds => some ds
  | .scr ns => some (ns.map .int)
  | .ptr a => match W a with
    | some (.lst ds) => some ds
    | _ => none
  | _ => none
/-- what a list holds -/
def lisOf (W : Om) : D → Option (List D)
  | .lst ds => some ds
  | .scr ns => some (ns.map .int)
  | .ptr a => match W a with
    | some (.lst ds) => some ds
    | _ => none
  | _ => none
def onSeq (d : D) (W : Om) (k : List D → Prop) : Prop := ∃ ds, seqOf W d = some ds ∧ k ds
def inStr (i j : Str) : Bool := !(Builtin.Str.occurrences j i 0 j.length 1).isEmpty
def cmpD (o : COp) (x y : D) (W : Om) (Q : PQ) : Prop := match o, x, y with
  | .lt, .int i, .int j => Q (.bl (decide (i < j))) W
  | .le, .int i, .int j => Q (.bl (decide (i ≤ j))) W
  | .gt, .int i, .int j => Q (.bl (decide (j < i))) W
  | .ge, .int i, .int j => Q (.bl (decide (j ≤ i))) W
  | .eq, x, y => (sameK x y = true ∧ Q (.bl (eqF x y)) W) ∨ eqRow W x y fun t => Q (.bl t) W
  | .ne, x, y => (sameK x y = true ∧ Q (.bl (!eqF x y)) W) ∨ eqRow W x y fun t => Q (.bl (!t)) W
  | .is, x, .non => Q (.bl (isNon x)) W
  | .isnot, x, .non => Q (.bl (!isNon x)) W
  | .is, .bl a, .bl b => Q (.bl (decide (a = b))) W
  | .isnot, .bl a, .bl b => Q (.bl (!decide (a = b))) W
  | .mem, .str i, .str j => Q (.bl (inStr i j)) W
  | .nomem, .str i, .str j => Q (.bl (!inStr i j)) W
  | .mem, x, .lst ds => (flatD x = true ∧ ∀ d ∈ ds, flatD d = true) ∧ Q (.bl (ds.any (eqF x))) W
  | .nomem, x, .lst ds => (flatD x = true ∧ ∀ d ∈ ds, flatD d = true) ∧ Q (.bl (!ds.any (eqF x))) W
  | .mem, x, .tup ds => (flatD x = true ∧ ∀ d ∈ ds, flatD d = true) ∧ Q (.bl (ds.any (eqF x))) W
  | .nomem, x, .tup ds => (flatD x = true ∧ ∀ d ∈ ds, flatD d = true) ∧ Q (.bl (!ds.any (eqF x))) W
  | .mem, x, .ptr a => onSeq (.ptr a) W fun ds => (flatD x = true ∧ ∀ d ∈ ds, flatD d = true) ∧ Q (.bl (ds.any (eqF x))) W
  | .nomem, x, .ptr a => onSeq (.ptr a) W fun ds => (flatD x = true ∧ ∀ d ∈ ds, flatD d = true) ∧ Q (.bl (!ds.any (eqF x))) W
  | _, _, _ => False
/-- the item at i, from the end if i is negative -/
def idxD (x y : D) (W : Om) (Q : PQ) : Prop := match x, y with
  | .str z, .int i => z.length ≤ sizeLine ∧ ∃ c, atI z.cps.toList i = some c ∧ Q (.str ⟨#[c]⟩) W
  | x, .int i => ∃ ds d, seqOf W x = some ds ∧ atI ds i = some d ∧ Q d W
  | _, _ => False
def truthD (W : Om) (d : D) : Option Bool := match d with
  | .non => some false
  | .bl b => some b
  | .int i => some (i != 0)
  | .lst ds => some (!ds.isEmpty)
  | .tup ds => some (!ds.isEmpty)
  | _ => none
def onT (d : D) (W : Om) (Q : Bool → Om → Prop) : Prop := ∃ b, truthD W d = some b ∧ Q b W
/-- a built-in function's value -/
def bltD (b : Blt) (own : Bool) (xs : List D) (W : Om) (Q : PQ) : Prop := match b, xs with
  | .len, [.str z] => z.length ≤ sizeLine ∧ Q (.int z.length) W
  | .len, [x] => onSeq x W fun ds => Q (.int ds.length) W
  | .abs, [.int i] => Q (.int (if i < 0 then -i else i)) W
  | .min2, [.int i, .int j] => Q (.int (if j < i then j else i)) W
  | .max2, [.int i, .int j] => Q (.int (if j > i then j else i)) W
  | .int, [.int i] => Q (.int i) W
  | .int, [.bl k] => Q (.int (if k then 1 else 0)) W
  | .list, [x] => onSeq x W fun ds => mkL own ds W Q
  | .tuple, [x] => onSeq x W fun ds => Q (.tup ds) W
  | .str, [.int i] => i.natAbs.log2 < 1920 ∧ Q (.str (toString i)) W
  | .bool, [.bl k] => Q (.bl k) W
  | .bool, [.int i] => Q (.bl (i != 0)) W
  | .sum, [x] => ∃ ns : List Int, seqOf W x = some (ns.map .int) ∧ Q (.int ns.sum) W
  | .max1, [x] => ∃ ns : List Int, lisOf W x = some (ns.map .int) ∧ 0 < ns.length ∧ ∀ m ∈ ns, (∀ k ∈ ns, k ≤ m) → Q (.int m) W
  | .min1, [x] => ∃ ns : List Int, lisOf W x = some (ns.map .int) ∧ 0 < ns.length ∧ ∀ m ∈ ns, (∀ k ∈ ns, m ≤ k) → Q (.int m) W
  | .all, [x] => ∃ bs : List Bool, lisOf W x = some (bs.map .bl) ∧ Q (.bl (bs.all id)) W
  | .any, [x] => ∃ bs : List Bool, lisOf W x = some (bs.map .bl) ∧ Q (.bl (bs.any id)) W
  | .sorted, [x] => ∃ ns : List Int, lisOf W x = some (ns.map .int) ∧ ∀ ns' : List Int, ns'.Perm ns → ns'.Pairwise (· ≤ ·) → mkL own (ns'.map .int) W Q
  | _, _ => False
/-- the first place of a flat thing -/
def ixF (x : D) (ds : List D) : Option Nat := ds.findIdx? (eqF x)
def rmD (m : Rm) (o : D) (xs : List D) (W : Om) (Q : PQ) : Prop := match m, xs with
  | .index, [x] => ∃ ds j, seqOf W o = some ds ∧ flatD x = true ∧ (∀ d ∈ ds, flatD d = true) ∧ ixF x ds = some j ∧ Q (.int (j : Nat)) W
  | _, _ => False
/-- list(zip(a, b)) -/
def lzipD (xs : List D) (W : Om) (Q : PQ) : Prop := match xs with
  | [x, y] => ∃ as bs, lisOf W x = some as ∧ lisOf W y = some bs ∧ Q (.lst (List.zipWith (fun x y => .tup [x, y]) as bs)) W
  | _ => False
/-- a row turned round -/
def revD (own : Bool) (x : D) (W : Om) (Q : PQ) : Prop := match x with
  | .tup ds => Q (.tup ds.reverse) W
  | x => ∃ ds, lisOf W x = some ds ∧ mkL own ds.reverse W Q
/-- the kind of a value as a built-in type -/
def tyD : D → Option String
  | .non => some "NoneType" | .bl _ => some "bool" | .int _ => some "int" | .str _ => some "str"
  | .lst _ => some "list" | .tup _ => some "tuple" | .scr _ => some "list" | _ => none
/-- isinstance with a built-in type -/
def isiB (t n : String) : Bool := t == n || (t == "bool" && n == "int")
/-- a built-in kind (none), or an instance of a class -/
def kdO (W : Om) : D → Option (Option Nat)
  | .obj C _ => some (some C)
  | .ptr a => match W a with
    | some (.ins C _) => some (some C)
    | some (.lst _) => some none
    | none => none
  | .exn _ _ => none
  | _ => some none
def isiD (P : Pm) (W : Om) (d : D) (c : Cl) (Q : PQ) : Prop := match c with
  | .ty n => (n = "int" ∨ n = "bool" ∨ n = "str" ∨ n = "list" ∨ n = "tuple") ∧ ((∃ t, (tyD d = some t ∨ ∃ a ds, d = .ptr a ∧ W a = some (.lst ds) ∧ t = "list") ∧ Q (.bl (isiB t n)) W) ∨ ∃ C, kdO W d = some (some C) ∧ P.isO C = true ∧ Q (.bl false) W)
  | .own E => P.isO E = true ∧ ((kdO W d = some none ∧ Q (.bl false) W) ∨ ∃ C, kdO W d = some (some C) ∧ P.isO C = true ∧ Q (.bl (P.kin C E)) W)
def methD (m : Mt) (o : D) (xs : List D) (W : Om) (Q : PQ) : Prop := match m, o, xs with
  | .append, .ptr a, [d] => ∃ ds, W a = some (.lst ds) ∧ ds.length < sizeLine ∧ Q .non (W.set a (.lst (ds ++ [d])))
  | .pop, .ptr a, [] => ∃ ds d, W a = some (.lst ds) ∧ ds[ds.length - 1]? = some d ∧ Q d (W.set a (.lst ds.dropLast))
  | .reverse, .ptr a, [] => ∃ ds, W a = some (.lst ds) ∧ Q .non (W.set a (.lst ds.reverse))
  | .clear, .ptr a, [] => ∃ ds, W a = some (.lst ds) ∧ Q .non (W.set a (.lst []))
  | .pop, .ptr a, [.int i] => ∃ ds j d, W a = some (.lst ds) ∧ (-(2 ^ 63) ≤ i ∧ i < 2 ^ 63) ∧ ixN ds.length i = some j ∧ ds[j]? = some d ∧ Q d (W.set a (.lst (ds.eraseIdx j)))
  | .extend, .ptr a, [y] => ∃ ds es, W a = some (.lst ds) ∧ lisOf W y = some es ∧ ds.length + es.length ≤ sizeLine ∧ Q .non (W.set a (.lst (ds ++ es)))
  | .insert, .ptr a, [.int i, d] => ∃ ds, W a = some (.lst ds) ∧ ds.length < sizeLine ∧ (0 ≤ i ∧ i < 2 ^ 63) ∧ Q .non (W.set a (.lst (ds.take i.toNat ++ [d] ++ ds.drop i.toNat)))
  | _, _, _ => False
def attrD (d : D) (f : Nat) (W : Om) (Q : PQ) : Prop := match d with
  | .obj _ fs => ∃ x, fs.lookup f = some x ∧ Q x W
  | .ptr a => ∃ C fs x, W a = some (.ins C fs) ∧ fs.lookup f = some x ∧ Q x W
  | _ => False
def clsD (W : Om) (d : D) : Option (Nat × List (Nat × D)) := match d with
  | .obj C fs => some (C, fs)
  | .ptr a => match W a with
    | some (.ins C fs) => some (C, fs)
    | _ => none
  | _ => none
/-- a call, by what the def is worth -/
def callW (G : Gs) (k f : Nat) (ds : List D) (W : Om) (Q : PQ) (X : PX) : Prop :=
  ∃ R : Out → Om → Prop, G f k ds W R ∧ (∀ d W', R (.ret d) W' → Q d W') ∧ ∀ x W', R (.exc x) W' → X x W'
/-- an own operator -/
def own2W (G : Gs) (k : Nat) (P : Pm) (o : Own2) (x y : D) (W : Om) (Q : PQ) (X : PX) : Prop := match o with
  | .bin _ m => ∃ C fs fs' f, clsD W x = some (C, fs) ∧ clsD W y = some (C, fs') ∧ P.isO C = true ∧ P.mth C m = some f ∧ callW G k f [x, y] W Q X
  | .eq m => ∃ C fs f d, clsD W x = some (C, fs) ∧ P.isO C = true ∧ P.mth C m = some f ∧ kdO W y = some d ∧ (match d with
      | none => True
      | some C' => P.isO C' = true ∧ P.nof C C' = true) ∧ callW G k f [x, y] W (fun r W' => ∃ t, r = .bl t ∧ Q (.bl t) W') X
  | .mem neg m => ∃ C fs f, clsD W y = some (C, fs) ∧ P.mth C m = some f ∧ callW G k f [y, x] W (fun r W' => ∃ t, r = .bl t ∧ Q (.bl (if neg = true then !t else t)) W') X
def own1W (G : Gs) (k : Nat) (P : Pm) (o : Own1) (x : D) (W : Om) (Q : PQ) (X : PX) : Prop := match o with
  | .neg m => ∃ C fs f, clsD W x = some (C, fs) ∧ P.mth C m = some f ∧ callW G k f [x] W Q X
  | .prop m => ∃ C fs f, clsD W x = some (C, fs) ∧ P.prp C m = some f ∧ 0 < k ∧ callW G (k - 1) f [x] W Q fun _ _ => False
/-- the object made by a class's call is kept as a cell, or as a tree -/
def madeD (own : Bool) (p : Addr) (W : Om) (Q : PQ) : Prop := match own with
  | true => Q (.ptr p) W
  | false => ∃ C fs, W p = some (.ins C fs) ∧ Q (.obj C fs) (W.del p)
/-- what a walk watches: a mutable list that is to stay as it is -/
abbrev Wt := Option (Addr × List D)
def wOk (w : Wt) (W : Om) : Prop := match w with
  | none => True
  | some (a, ds) => W a = some (.lst ds)
/-- the items walked, one by one: elt of each for which cond holds -/
def compL (w : Wt) (step : D → Om → (Option D → Om → Prop) → Prop) : List D → List D → Om → (List D → Om → Prop) → Prop
  | [], acc, W, Q => wOk w W ∧ Q acc W
  | d :: ds, acc, W, Q => wOk w W ∧ step d W fun o W' => match o with
    | none => compL w step ds acc W' Q
    | some y => acc.length < sizeLine ∧ compL w step ds (acc ++ [y]) W' Q
/-- a list to be walked while an exception is handled -/
def seqH (d : D) (W : Om) (Q : Wt → List D → Prop) : Prop := match d with
  | .lst ds => Q none ds
  | .scr ns => Q none (ns.map .int)
  | .ptr a => ∃ ds, W a = some (.lst ds) ∧ Q (some (a, ds)) ds
  | _ => False
theorem seqH.mono {d : D} {W : Om} {Q R : Wt → List D → Prop} (h : ∀ w ds, Q w ds → R w ds) (z : seqH d W Q) : seqH d W R := by
  cases d <;> first | exact h _ _ z | exact z.elim | (obtain ⟨ds, e, z⟩ := z; exact ⟨ds, e, h _ _ z⟩)
/-- two fors: each outer item goes on with the list so far -/
def comp2L (w : Wt) (st : D → List D → Om → (List D → Om → Prop) → Prop) : List D → List D → Om → (List D → Om → Prop) → Prop
  | [], acc, W, Q => wOk w W ∧ Q acc W
  | d :: ds, acc, W, Q => wOk w W ∧ st d acc W fun acc' W' => comp2L w st ds acc' W' Q
def rangeL (lo : Int) (n : Nat) : List D := (List.range n).map fun (j : Nat) => .int (lo + j)
def rangeS (lo c : Int) (n : Nat) : List D := (List.range n).map fun (j : Nat) => .int (lo + j * c)
def stepN (i j c : Int) : Nat := (Builtin.Range.rangeSize i j c).toNat
def stepOk (i j c : Int) : Prop := -(2 ^ 61) ≤ i ∧ i < 2 ^ 61 ∧ -(2 ^ 61) ≤ j ∧ j < 2 ^ 61 ∧ ((0 < c ∧ c < 2 ^ 29) ∨ c = -1)
/-- a range's ends fit, or it is empty -/
def RngOk (i j : Int) : Prop := (-(2 ^ 62) ≤ i ∧ i < 2 ^ 62 ∧ -(2 ^ 62) ≤ j ∧ j < 2 ^ 62) ∨ j ≤ i
def rngD (xs : List D) (Q : List D → Prop) : Prop := match xs with
  | [.int j] => (-(2 ^ 62) ≤ j ∧ j < 2 ^ 62) ∧ Q (rangeL 0 j.toNat)
  | [.int i, .int j] => RngOk i j ∧ Q (rangeL i (j - i).toNat)
  | [.int i, .int j, .int c] => stepOk i j c ∧ Q (rangeS i c (stepN i j c))
  | _ => False
/-- enumerate's and zip's pairs -/
def enumL (ds : List D) : List D := ds.zipIdx.map fun p => .tup [.int (p.2 : Nat), p.1]
def zipL (xs ys : List D) : List D := List.zipWith (fun x y => .tup [x, y]) xs ys
/-- a row to be walked: its items, and what is watched meanwhile -/
def sqw (d : D) (W : Om) : Option (Wt × List D) := match d with
  | .lst ds => some (none, ds)
  | .tup ds => some (none, ds)
  | .scr ns => some (none, ns.map .int)
  | .ptr a => match W a with
    | some (.lst ds) => some (some (a, ds), ds)
    | _ => none
  | _ => none
def itfD (f : ItF) (xs : List D) (W : Om) (Q : Wt → List D → Prop) : Prop := match f, xs with
  | .enum, [d] => ∃ w ds, sqw d W = some (w, ds) ∧ Q w (enumL ds)
  | .rev, [d] => ∃ w ds, sqw d W = some (w, ds) ∧ Q w ds.reverse
  | .zip, [x, y] => ∃ w1 as w2 bs w, sqw x W = some (w1, as) ∧ sqw y W = some (w2, bs) ∧ ((w = w1 ∧ w2 = none) ∨ (w = w2 ∧ w1 = none)) ∧ Q w (zipL as bs)
  | _, _ => False
theorem itfD.mono {f : ItF} {xs : List D} {W : Om} {Q R : Wt → List D → Prop} (h : ∀ w ds, Q w ds → R w ds) (z : itfD f xs W Q) : itfD f xs W R := by
  unfold itfD at z ⊢
  split at z
  · obtain ⟨w, ds, e, z⟩ := z
    exact ⟨w, ds, e, h _ _ z⟩
  · obtain ⟨w, ds, e, z⟩ := z
    exact ⟨w, ds, e, h _ _ z⟩
  · obtain ⟨w1, as, w2, bs, w, e1, e2, e3, z⟩ := z
    exact ⟨w1, as, w2, bs, w, e1, e2, e3, h _ _ z⟩
  · exact z.elim
/-- list(range(..)) -/
def LrOk (i j : Int) : Prop := -(2 ^ 62) ≤ i ∧ i < 2 ^ 62 ∧ -(2 ^ 62) ≤ j ∧ j < 2 ^ 62 ∧ (j - i).toNat ≤ 2 ^ 24
def lrngD (xs : List D) (Q : List D → Prop) : Prop := match xs with
  | [.int j] => LrOk 0 j ∧ Q (rangeL 0 (j - 0).toNat)
  | [.int i, .int j] => LrOk i j ∧ Q (rangeL i (j - i).toNat)
  | _ => False
/-- xs[lo:hi] -/
def cutD {α : Type} (xs : List α) (lo hi : Option Int) : List α := (xs.drop (HT.sIx xs.length 0 lo)).take (HT.sIx xs.length xs.length hi - HT.sIx xs.length 0 lo)
def sliceD (own : Bool) (d : D) (lo hi : Option Int) (W : Om) (Q : PQ) : Prop := match d with
  | .lst ds => mkL own (cutD ds lo hi) W Q
  | .scr ns => mkL own (cutD (ns.map D.int) lo hi) W Q
  | .ptr a => ∃ ds, W a = some (.lst ds) ∧ mkL own (cutD ds lo hi) W Q
  | .tup ds => Q (.tup (cutD ds lo hi)) W
  | _ => False
/-- the values put in the parameters' order -/
def permL {α : Type} (pm : List Nat) (l : List α) : List α := pm.filterMap fun i => l[i]?
/-- is a caught exception of a class -/
def subC (P : Pm) (C : Nat) : Cl → Bool
  | .own D => P.sub C D
  | .ty n => n == "ValueError"
/-- several names -/
def setN : List Nat → List D → Gm → Option Gm
  | [], [], g => some g
  | i :: is, d :: ds, g => setN is ds (g.set i (some d))
  | _, _, _ => none
def setT (t : Tg) (d : D) (g : Gm) (k : Gm → Prop) : Prop := match t with
  | .name i => k (g.set i (some d))
  | .tup is => match d with
    | .tup ds => ∃ g', setN is ds g = some g' ∧ k g'
    | _ => False
def exnD (g : Gm) (i : Nat) (k : Nat → List (Nat × D) → Prop) : Prop := ∃ C fs, g[i]? = some (some (.exn C fs)) ∧ k C fs
section
variable (G : Gs) (k : Nat) (P : Pm)
mutual
def wpE : E → Gm → Om → PQ → PX → Prop
  | .var i, g, W, Q, _ => ∃ d, g[i]? = some (some d) ∧ Q d W
  | .int i, _, W, Q, _ => Q (.int i) W
  | .str x, _, W, Q, _ => Q (.str x) W
  | .bl b, _, W, Q, _ => Q (.bl b) W
  | .non, _, W, Q, _ => Q .non W
  | .gint _ i, _, W, Q, _ => Q (.int i) W
  | .gstr _ x, _, W, Q, _ => Q (.str x) W
  | .bin o own a b, g, W, Q, X => wpE a g W (fun x W1 => wpE b g W1 (fun y W2 => binD o own x y W2 Q) X) X
  | .neg a, g, W, Q, X => wpE a g W (fun x W1 => onI x fun i => Q (.int (-i)) W1) X
  | .cmp o a b, g, W, Q, X => wpE a g W (fun x W1 => wpE b g W1 (fun y W2 => cmpD o x y W2 Q) X) X
  | .chain o p a b c, g, W, Q, X => wpE a g W (fun x W1 => wpE b g W1 (fun y W2 => cmpD o x y W2 fun r W3 => onB r fun t =>
      if t = true then wpE c g W3 (fun z W4 => cmpD p y z W4 Q) X else Q (.bl false) W3) X) X
  | .and a b, g, W, Q, X => wpE a g W (fun x W1 => onB x fun t => if t = true then wpE b g W1 Q X else Q (.bl false) W1) X
  | .or a b, g, W, Q, X => wpE a g W (fun x W1 => onB x fun t => if t = true then Q (.bl true) W1 else wpE b g W1 Q X) X
  | .not a, g, W, Q, X => wpE a g W (fun x W1 => onB x fun t => Q (.bl (!t)) W1) X
  | .ite c a b, g, W, Q, X => wpT c g W (fun t W1 => if t = true then wpE a g W1 Q X else wpE b g W1 Q X) X
  | .lst own es, g, W, Q, X => wpEs es g W (fun ds W1 => ds.length ≤ sizeLine ∧ mkL own ds W1 Q) X
  | .tup es, g, W, Q, X => wpEs es g W (fun ds W1 => ds.length ≤ sizeLine ∧ Q (.tup ds) W1) X
  | .idx a i, g, W, Q, X => wpE a g W (fun x W1 => wpE i g W1 (fun y W2 => idxD x y W2 Q) X) X
  | .rev own a, g, W, Q, X => wpE a g W (fun x W1 => revD own x W1 Q) X
  | .rmeth m o es, g, W, Q, X => wpE o g W (fun x W1 => wpEs es g W1 (fun ds W2 => rmD m x ds W2 Q) X) X
  | .lzip es, g, W, Q, X => wpEs es g W (fun ds W1 => lzipD ds W1 Q) X
  | .slice own a lo hi, g, W, Q, X => wpE a g W (fun x W1 => wpO lo g W1 (fun l W2 => wpO hi g W2 (fun h W3 => sliceD own x l h W3 Q) X) X) X
  | .call f es, g, W, Q, X => wpEs es g W (fun ds W1 => callW G k f ds W1 Q X) X
  | .callK f es ks pm, g, W, Q, X => wpEs es g W (fun ds W1 => wpEs ks g W1 (fun zs W2 => callW G k f (permL pm (ds ++ zs)) W2 Q X) X) X
  | .blt b own es, g, W, Q, X => wpEs es g W (fun ds W1 => bltD b own ds W1 Q) X
  | .isi e c, g, W, Q, X => wpE e g W (fun x W1 => isiD P W1 x c Q) X
  | .meth m o es, g, W, Q, X => wpE o g W (fun x W1 => ∃ a cs, x = .ptr a ∧ W1 a = some (.lst cs) ∧ wpEs es g W1 (fun ds W2 => methD m x ds W2 Q) X) X
  | .umeth m o es, g, W, Q, X => wpE o g W (fun x W1 => ∃ C fs f, clsD W1 x = some (C, fs) ∧ fs.lookup m = none ∧ P.mth C m = some f ∧
      wpEs es g W1 (fun ds W2 => callW G k f (x :: ds) W2 Q X) X) X
  | .attr o f, g, W, Q, X => wpE o g W (fun x W1 => attrD x f W1 Q) X
  | .mk C own es, g, W, Q, X => wpEs es g W (fun ds W1 => ∃ f, P.ini C = some f ∧ 0 < k ∧ ∀ p, W1 p = none →
      callW G (k - 1) f (.ptr p :: ds) (W1.set p (.ins C [])) (fun d W2 => d = .non ∧ madeD own p W2 Q) (fun x W2 => X x (W2.del p))) X
  | .own2 o a b, g, W, Q, X => wpE a g W (fun x W1 => wpE b g W1 (fun y W2 => own2W G k P o x y W2 Q X) X) X
  | .own1 o a, g, W, Q, X => wpE a g W (fun x W1 => own1W G k P o x W1 Q X) X
  | .umethK C m o es ks pm, g, W, Q, X => wpE o g W (fun x W1 => ∃ fs f, clsD W1 x = some (C, fs) ∧ fs.lookup m = none ∧ P.mth C m = some f ∧
      wpEs es g W1 (fun ds W2 => wpEs ks g W2 (fun zs W3 => callW G k f (permL pm (x :: ds ++ zs)) W3 Q X) X) X) X
  | .mkK C own es ks pm, g, W, Q, X => wpEs es g W (fun ds W1 => wpEs ks g W1 (fun zs W2 => ∃ f, P.ini C = some f ∧ 0 < k ∧ ∀ p, W2 p = none →
      callW G (k - 1) f (permL pm (.ptr p :: ds ++ zs)) (W2.set p (.ins C [])) (fun d W3 => d = .non ∧ madeD own p W3 Q) (fun x W3 => X x (W3.del p))) X) X
  | .lrng own es, g, W, Q, X => wpEs es g W (fun ds W1 => lrngD ds fun xs => mkL own xs W1 Q) X
  | .exI i c, g, W, Q, _ => exnD g i fun C _ => Q (.bl (subC P C c)) W
  | .exA i f, g, W, Q, _ => exnD g i fun C fs => ∃ x, P.xat C f = true ∧ fs.lookup f = some x ∧ Q x W
  | .exC f i, g, W, Q, X => exnD g i fun C fs => callW G k f [.exn C fs] W Q X
  | .comp own i elt it cond, g, W, Q, X => wpI it g W (fun w ds W1 => compL w (fun d W2 R => wpC cond (g.set i (some d)) W2
      (fun t W3 => if t = true then wpE elt (g.set i (some d)) W3 (fun y W4 => R (some y) W4) (fun _ _ => False) else R none W3) (fun _ _ => False)) ds [] W1 fun ys W2 => mkL own ys W2 Q) X
  | .compR own t elt it cond, g, W, Q, X => wpI it g W (fun w ds W1 => compL w (fun d W2 R => setT t d g fun g' => wpC cond g' W2
      (fun t W3 => if t = true then wpE elt g' W3 (fun y W4 => R (some y) W4) X else R none W3) X) ds [] W1 fun ys W2 => mkL own ys W2 Q) X
  | .comp2 own i j elt it it1, g, W, Q, X => wpI it g W (fun w ds W1 => comp2L w (fun d acc W2 R => wpI it1 ((g.set j none).set i (some d)) W2 (fun w1 ds1 W3 => compL w1 (fun e W4 R1 =>
      wpE elt (((g.set j none).set i (some d)).set j (some e)) W4 (fun y W5 => R1 (some y) W5) (fun _ _ => False)) ds1 acc W3 R) (fun _ _ => False)) ds [] W1 fun ys W2 => mkL own ys W2 Q) X
  | .compH own h i elt a cond, g, W, Q, X => wpE a g W (fun x W1 => seqH x W1 fun w ds => compL w (fun d W2 R => wpC cond ((g.set h none).set i (some d)) W2
      (fun t W3 => if t = true then wpE elt ((g.set h none).set i (some d)) W3 (fun y W4 => R (some y) W4) (fun _ _ => False) else R none W3) (fun _ _ => False)) ds [] W1 fun ys W2 => mkL own ys W2 Q) X
def wpT : E → Gm → Om → (Bool → Om → Prop) → PX → Prop
  | .and a b, g, W, Q, X => wpT a g W (fun t W1 => if t = true then wpT b g W1 Q X else Q false W1) X
  | .or a b, g, W, Q, X => wpT a g W (fun t W1 => if t = true then Q true W1 else wpT b g W1 Q X) X
  | .not a, g, W, Q, X => wpT a g W (fun t W1 => Q (!t) W1) X
  | .ite c a b, g, W, Q, X => wpT c g W (fun t W1 => if t = true then wpT a g W1 Q X else wpT b g W1 Q X) X
  | .var i, g, W, Q, _ => ∃ d, g[i]? = some (some d) ∧ onT d W Q
  | .bl b, _, W, Q, _ => Q b W
  | .cmp o a b, g, W, Q, X => wpE a g W (fun x W1 => wpE b g W1 (fun y W2 => cmpD o x y W2 fun r W3 => onB r fun t => Q t W3) X) X
  | .chain o p a b c, g, W, Q, X => wpE a g W (fun x W1 => wpE b g W1 (fun y W2 => cmpD o x y W2 fun r W3 => onB r fun t =>
      if t = true then wpE c g W3 (fun z W4 => cmpD p y z W4 fun r W3 => onB r fun t => Q t W3) X else Q false W3) X) X
  | .idx a i, g, W, Q, X => wpE a g W (fun x W1 => wpE i g W1 (fun y W2 => idxD x y W2 fun d W3 => onT d W3 Q) X) X
  | .call f es, g, W, Q, X => wpEs es g W (fun ds W1 => callW G k f ds W1 (fun d W2 => onT d W2 Q) X) X
  | .isi e c, g, W, Q, X => wpE e g W (fun x W1 => isiD P W1 x c fun d W2 => onT d W2 Q) X
  | .own2 o a b, g, W, Q, X => wpE a g W (fun x W1 => wpE b g W1 (fun y W2 => own2W G k P o x y W2 (fun d W3 => onT d W3 Q) X) X) X
  | .own1 o a, g, W, Q, X => wpE a g W (fun x W1 => own1W G k P o x W1 (fun d W3 => onT d W3 Q) X) X
  | .umeth m o es, g, W, Q, X => wpE o g W (fun x W1 => ∃ C fs f, clsD W1 x = some (C, fs) ∧ fs.lookup m = none ∧ P.mth C m = some f ∧
      wpEs es g W1 (fun ds W2 => callW G k f (x :: ds) W2 (fun d W3 => onT d W3 Q) X) X) X
  | .attr o f, g, W, Q, X => wpE o g W (fun x W1 => attrD x f W1 fun d W2 => onT d W2 Q) X
  | .exI i c, g, W, Q, _ => exnD g i fun C _ => Q (subC P C c) W
  | .exC f i, g, W, Q, X => exnD g i fun C fs => callW G k f [.exn C fs] W (fun d W' => onT d W' Q) X
  | .blt b own es, g, W, Q, X => wpEs es g W (fun ds W1 => bltD b own ds W1 fun d W2 => onT d W2 Q) X
  | _, _, _, _, _ => False
def wpEs : List E → Gm → Om → (List D → Om → Prop) → PX → Prop
  | [], _, W, Q, _ => Q [] W
  | e :: es, g, W, Q, X => wpE e g W (fun d W1 => wpEs es g W1 (fun ds W2 => Q (d :: ds) W2) X) X
def wpO : Option E → Gm → Om → (Option Int → Om → Prop) → PX → Prop
  | none, _, W, Q, _ => Q none W
  | some e, g, W, Q, X => wpE e g W (fun d W1 => onI d fun i => Q (some i) W1) X
def wpC : Option E → Gm → Om → (Bool → Om → Prop) → PX → Prop
  | none, _, W, Q, _ => Q true W
  | some e, g, W, Q, X => wpT e g W Q X
def wpI : I → Gm → Om → (Wt → List D → Om → Prop) → PX → Prop
  | .seq e, g, W, Q, X => wpE e g W (fun d W1 => match d with
    | .lst ds => Q none ds W1
    | .tup ds => Q none ds W1
    | .scr ns => Q none (ns.map .int) W1
    | .ptr a => ∃ ds, W1 a = some (.lst ds) ∧ Q (some (a, ds)) ds W1
    | _ => False) X
  | .rng es, g, W, Q, X => wpEs es g W (fun ds W1 => rngD ds fun xs => Q none xs W1) X
  | .itf f es, g, W, Q, X => wpEs es g W (fun xs W1 => itfD f xs W1 fun w ds => Q w ds W1) X
end
end
end Tw
set_option maxHeartbeats 4000000
namespace Tw
open PySem PySem.Spec L2
open PyProof.Rows (b2i)
mutual
inductive S where
  | expr (e : E) | asg (t : Tg) (e : E) | aug (sub : Bool) (i : Nat) (e : E)
  | ret (e : E) | retN | pass | brk | cont
  | ite (c : E) (a b : List S) | whl (c : E) (b : List S) | for (t : Tg) (it : I) (b : List S)
  | fld (o : E) (f : Nat) (e : E) | sub (o i e : E)
  | raise (C : Nat) (es : List E)
  | frz (i : Nat)
  | try (b : List S) (hs : Hs)
/-- except clauses: classes, the slot of 'as', the suite -/
inductive Hs where
  | nil | cons (cs : List Nat) (sl : Option Nat) (b : List S) (r : Hs)
end
/-- what is wanted behind a statement -/
structure Ke where
  nx : Gm → Om → Prop
  rt : D → Om → Prop
  bk : Gm → Om → Prop
  ct : Gm → Om → Prop
  xq : Exn → Gm → Om → Prop
def forL (t : Tg) (w : Wt) (body : Ke → Gm → Om → Prop) (K : Ke) : List D → Gm → Om → Prop
  | [], g, W => wOk w W ∧ K.nx g W
  | d :: ds, g, W => wOk w W ∧ setT t d g fun g' => body { K with nx := forL t w body K ds, ct := forL t w body K ds, bk := K.nx } g' W
def whileW (c : Gm → Om → (Bool → Om → Prop) → PX → Prop) (body : Ke → Gm → Om → Prop) (K : Ke) (g : Gm) (W : Om) : Prop :=
  ∃ Iv : Nat → Gm → Om → Prop, (∃ n, Iv n g W) ∧ ∀ n g W, Iv n g W → c g W (fun t W1 => if t = true then
    body { K with nx := fun g' W' => ∃ m, m < n ∧ Iv m g' W', ct := fun g' W' => ∃ m, m < n ∧ Iv m g' W', bk := K.nx } g W1 else K.nx g W1) fun x W1 => K.xq x g W1
def fldD (P : Pm) (o : D) (f : Nat) (d : D) (W : Om) (k : Om → Prop) : Prop := match o with
  | .ptr a => ∃ C fs, W a = some (.ins C fs) ∧ P.fld C f = true ∧ fs.length < 900 ∧ k (W.set a (.ins C (putN f d fs)))
  | _ => False
def subD (o i d : D) (W : Om) (k : Om → Prop) : Prop := match o, i with
  | .ptr a, .int n => ∃ ds j, W a = some (.lst ds) ∧ ixN ds.length n = some j ∧ k (W.set a (.lst (ds.set j d)))
  | _, _ => False
section
variable (G : Gs) (k : Nat) (P : Pm)
mutual
def wpS : S → Ke → Gm → Om → Prop
  | .expr e, K, g, W => wpE G k P e g W (fun _ W1 => K.nx g W1) fun x W1 => K.xq x g W1
  | .asg t e, K, g, W => wpE G k P e g W (fun d W1 => setT t d g fun g' => K.nx g' W1) fun x W1 => K.xq x g W1
  | .aug sub i e, K, g, W => ∃ n, g[i]? = some (some (.int n)) ∧ wpE G k P e g W (fun y W1 => onI y fun m => K.nx (g.set i (some (.int (if sub = true then n - m else n + m)))) W1) fun x W1 => K.xq x g W1
  | .ret e, K, g, W => wpE G k P e g W K.rt fun x W1 => K.xq x g W1
  | .retN, K, _, W => K.rt .non W
  | .pass, K, g, W => K.nx g W
  | .brk, K, g, W => K.bk g W
  | .cont, K, g, W => K.ct g W
  | .ite c a b, K, g, W => wpT G k P c g W (fun t W1 => if t = true then wpSs a K g W1 else wpSs b K g W1) fun x W1 => K.xq x g W1
  | .whl c b, K, g, W => whileW (wpT G k P c) (wpSs b) K g W
  | .for t it b, K, g, W => wpI G k P it g W (fun w ds W1 => forL t w (wpSs b) K ds g W1) fun x W1 => K.xq x g W1
  | .fld o f e, K, g, W => wpE G k P e g W (fun d W1 => wpE G k P o g W1 (fun od W2 => fldD P od f d W2 fun W3 => K.nx g W3) fun x W2 => K.xq x g W2) fun x W1 => K.xq x g W1
  | .sub o i e, K, g, W => wpE G k P e g W (fun d W1 => wpE G k P o g W1 (fun od W2 => wpE G k P i g W2 (fun id W3 => subD od id d W3 fun W4 => K.nx g W4)
      fun x W3 => K.xq x g W3) fun x W2 => K.xq x g W2) fun x W1 => K.xq x g W1
  | .raise C es, K, g, W => wpEs G k P es g W (fun ds W1 => ∃ fs, P.xin C = some fs ∧ fs.length = ds.length ∧ K.xq ⟨C, fs.zip ds⟩ g W1) fun x W1 => K.xq x g W1
  | .frz i, K, g, W => ∃ a ds, g[i]? = some (some (.ptr a)) ∧ W a = some (.lst ds) ∧ K.nx (g.set i (some (.lst ds))) (W.del a)
  | .try b hs, K, g, W => wpSs b { K with xq := fun x g' W' => wpH hs x K g' W' } g W
/-- what the clauses make of an exception -/
def wpH : Hs → Exn → Ke → Gm → Om → Prop
  | .nil, x, K, g, W => K.xq x g W
  | .cons cs sl b r, x, K, g, W => if (cs.any fun D => P.sub x.C D) = true then (match sl with
      | none => wpSs b { K with xq := fun _ _ _ => False } g W
      | some i => i < g.length ∧ wpSs b { nx := fun g' W' => K.nx (g'.set i none) W', rt := K.rt, bk := fun g' W' => K.bk (g'.set i none) W', ct := fun g' W' => K.ct (g'.set i none) W', xq := fun _ _ _ => False } (g.set i (some (.exn x.C x.fs))) W)
    else wpH r x K g W
def wpSs : List S → Ke → Gm → Om → Prop
  | [], K, g, W => K.nx g W
  | s :: ss, K, g, W => wpS s { K with nx := fun g' W' => wpSs ss K g' W' } g W
end
theorem onI.mono {d : D} {p q : Int → Prop} (h : ∀ i, p i → q i) : onI d p → onI d q := by cases d <;> first | exact h _ | exact id
theorem onB.mono {d : D} {p q : Bool → Prop} (h : ∀ i, p i → q i) : onB d p → onB d q := by cases d <;> first | exact h _ | exact id
theorem onT.mono {d : D} {W : Om} {p q : Bool → Om → Prop} (h : ∀ i W, p i W → q i W) : onT d W p → onT d W q := fun ⟨b, e, x⟩ => ⟨b, e, h _ _ x⟩
theorem mkL.mono {own : Bool} {ds : List D} {W : Om} {p q : PQ} (h : ∀ d W, p d W → q d W) : mkL own ds W p → mkL own ds W q := by
  cases own
  · exact h _ _
  · exact fun x a n => h _ _ (x a n)
theorem madeD.mono {own : Bool} {a : Addr} {W : Om} {p q : PQ} (h : ∀ d W, p d W → q d W) : madeD own a W p → madeD own a W q := by
  cases own
  · exact fun ⟨C, fs, e, x⟩ => ⟨C, fs, e, h _ _ x⟩
  · exact h _ _
theorem binD.mono {o : BOp} {own : Bool} {x y : D} {W : Om} {p q : PQ} (h : ∀ d W, p d W → q d W) : binD o own x y W p → binD o own x y W q := by
  unfold binD
  split <;> first | exact h _ _ | exact fun z => ⟨z.1, h _ _ z.2⟩ | exact fun z => ⟨z.1, mkL.mono h z.2⟩ | exact fun ⟨ds, e, f, z⟩ => ⟨ds, e, f, mkL.mono h z⟩ | exact id
theorem cmpD.mono {o : COp} {x y : D} {W : Om} {p q : PQ} (h : ∀ d W, p d W → q d W) : cmpD o x y W p → cmpD o x y W q := by
  unfold cmpD eqRow onSeq
  split <;> first | exact h _ _ | exact fun z => ⟨z.1, h _ _ z.2⟩ | exact fun ⟨ds, e, f, z⟩ => ⟨ds, e, f, h _ _ z⟩ | exact fun z => z.imp (fun z => ⟨z.1, h _ _ z.2⟩) (fun ⟨a, b, e1, e2, e3, e4, z⟩ => ⟨a, b, e1, e2, e3, e4, h _ _ z⟩) | exact id
theorem idxD.mono {x y : D} {W : Om} {p q : PQ} (h : ∀ d W, p d W → q d W) : idxD x y W p → idxD x y W q := by
  unfold idxD
  split
  · exact fun ⟨a, c, e, z⟩ => ⟨a, c, e, h _ _ z⟩
  · exact fun ⟨a, c, e, f, z⟩ => ⟨a, c, e, f, h _ _ z⟩
  · exact id
theorem sliceD.mono {own : Bool} {d : D} {lo hi : Option Int} {W : Om} {p q : PQ} (h : ∀ d W, p d W → q d W) : sliceD own d lo hi W p → sliceD own d lo hi W q := by
  unfold sliceD
  split
  · exact mkL.mono h
  · exact mkL.mono h
  · exact fun ⟨ds, e, z⟩ => ⟨ds, e, mkL.mono h z⟩
  · exact h _ _
  · exact id
theorem bltD.mono {b : Blt} {own : Bool} {xs : List D} {W : Om} {p q : PQ} (h : ∀ d W, p d W → q d W) : bltD b own xs W p → bltD b own xs W q := by
  unfold bltD onSeq
  split <;> first | exact h _ _ | exact fun z => ⟨z.1, h _ _ z.2⟩ | exact fun ⟨ds, e, z⟩ => ⟨ds, e, h _ _ z⟩ | exact fun ⟨ds, e, z⟩ => ⟨ds, e, mkL.mono h z⟩ | exact fun ⟨ds, e, f, z⟩ => ⟨ds, e, f, fun m hm hk => h _ _ (z m hm hk)⟩ | exact fun ⟨ds, e, z⟩ => ⟨ds, e, fun m hm hk => mkL.mono h (z m hm hk)⟩ | exact id
theorem rmD.mono {m : Rm} {o : D} {xs : List D} {W : Om} {p q : PQ} (h : ∀ d W, p d W → q d W) : rmD m o xs W p → rmD m o xs W q := by
  unfold rmD
  split
  · exact fun ⟨ds, j, e1, e2, e3, e4, z⟩ => ⟨ds, j, e1, e2, e3, e4, h _ _ z⟩
  · exact id
theorem lzipD.mono {xs : List D} {W : Om} {p q : PQ} (h : ∀ d W, p d W → q d W) : lzipD xs W p → lzipD xs W q := by
  unfold lzipD
  split
  · exact fun ⟨as, bs, e1, e2, z⟩ => ⟨as, bs, e1, e2, h _ _ z⟩
  · exact id
theorem revD.mono {own : Bool} {x : D} {W : Om} {p q : PQ} (h : ∀ d W, p d W → q d W) : revD own x W p → revD own x W q := by
  unfold revD
  split
  · exact h _ _
  · exact fun ⟨ds, e, z⟩ => ⟨ds, e, mkL.mono h z⟩
theorem isiD.mono {P : Pm} {d : D} {c : Cl} {W : Om} {p q : PQ} (h : ∀ d W, p d W → q d W) : isiD P W d c p → isiD P W d c q := by
  unfold isiD
  split
  · exact fun ⟨f, z⟩ => ⟨f, z.imp (fun ⟨t, e, z⟩ => ⟨t, e, h _ _ z⟩) fun ⟨C, e, e2, z⟩ => ⟨C, e, e2, h _ _ z⟩⟩
  · exact fun ⟨f, z⟩ => ⟨f, z.imp (fun ⟨e, z⟩ => ⟨e, h _ _ z⟩) fun ⟨C, e, e2, z⟩ => ⟨C, e, e2, h _ _ z⟩⟩
theorem setT.mono {t : Tg} {d : D} {g : Gm} {p q : Gm → Prop} (h : ∀ g, p g → q g) : setT t d g p → setT t d g q := by
  unfold setT
  split
  · exact h _
  · split
    · exact fun ⟨g', e, z⟩ => ⟨g', e, h _ z⟩
    · exact id
theorem methD.mono {m : Mt} {o : D} {xs : List D} {W : Om} {p q : PQ} (h : ∀ d W, p d W → q d W) : methD m o xs W p → methD m o xs W q := by
  unfold methD
  split
  · exact fun ⟨ds, e, f, z⟩ => ⟨ds, e, f, h _ _ z⟩
  · exact fun ⟨ds, d, e, f, z⟩ => ⟨ds, d, e, f, h _ _ z⟩
  · exact fun ⟨ds, e, z⟩ => ⟨ds, e, h _ _ z⟩
  · exact fun ⟨ds, e, z⟩ => ⟨ds, e, h _ _ z⟩
  · exact fun ⟨ds, j, d, e, e2, e3, f, z⟩ => ⟨ds, j, d, e, e2, e3, f, h _ _ z⟩
  · exact fun ⟨ds, es, e, e2, f, z⟩ => ⟨ds, es, e, e2, f, h _ _ z⟩
  · exact fun ⟨ds, e, f, f2, z⟩ => ⟨ds, e, f, f2, h _ _ z⟩
  · exact id
theorem attrD.mono {d : D} {f : Nat} {W : Om} {p q : PQ} (h : ∀ d W, p d W → q d W) : attrD d f W p → attrD d f W q := by
  unfold attrD
  split
  · exact fun ⟨x, e, z⟩ => ⟨x, e, h _ _ z⟩
  · exact fun ⟨C, fs, x, e, f, z⟩ => ⟨C, fs, x, e, f, h _ _ z⟩
  · exact id
theorem callW.mono {f : Nat} {ds : List D} {W : Om} {p q : PQ} {X Y : PX} (h : ∀ d W, p d W → q d W) (hx : ∀ x W, X x W → Y x W) : callW G k f ds W p X → callW G k f ds W q Y :=
  fun ⟨R, e, a, b⟩ => ⟨R, e, fun d W' z => h _ _ (a d W' z), fun x W' z => hx _ _ (b x W' z)⟩
theorem compL.mono {w : Wt} {st st' : D → Om → (Option D → Om → Prop) → Prop} (hs : ∀ d W R R', (∀ o W, R o W → R' o W) → st d W R → st' d W R') {p q : List D → Om → Prop} (h : ∀ d W, p d W → q d W) :
    ∀ {ds acc : List D} {W : Om}, compL w st ds acc W p → compL w st' ds acc W q
  | [], acc, W, z => ⟨z.1, h _ _ z.2⟩
  | d :: ds, acc, W, z => ⟨z.1, hs _ _ _ _ (fun o W' r => by
      cases o with
      | none => exact compL.mono hs h r
      | some y => exact ⟨r.1, compL.mono hs h r.2⟩) z.2⟩
theorem comp2L.mono {w : Wt} {st st' : D → List D → Om → (List D → Om → Prop) → Prop} (hs : ∀ d acc W R R', (∀ a W, R a W → R' a W) → st d acc W R → st' d acc W R') {p q : List D → Om → Prop} (h : ∀ d W, p d W → q d W) :
    ∀ {ds acc : List D} {W : Om}, comp2L w st ds acc W p → comp2L w st' ds acc W q
  | [], _, _, z => ⟨z.1, h _ _ z.2⟩
  | _ :: _, _, _, z => ⟨z.1, hs _ _ _ _ _ (fun _ _ r => comp2L.mono hs h r) z.2⟩
theorem rngD.mono {xs : List D} {p q : List D → Prop} (h : ∀ d, p d → q d) : rngD xs p → rngD xs q := by
  unfold rngD
  split
  · exact fun z => ⟨z.1, h _ z.2⟩
  · exact fun z => ⟨z.1, h _ z.2⟩
  · exact fun z => ⟨z.1, h _ z.2⟩
  · exact id
theorem own2W.mono {P : Pm} {o : Own2} {x y : D} {W : Om} {p q : PQ} {X Y : PX} (h : ∀ d W, p d W → q d W) (hx : ∀ x W, X x W → Y x W) : own2W G k P o x y W p X → own2W G k P o x y W q Y := by
  unfold own2W
  split
  · exact fun ⟨C, fs, fs', f, e1, e2, e3, e4, z⟩ => ⟨C, fs, fs', f, e1, e2, e3, e4, callW.mono G k h hx z⟩
  · exact fun ⟨C, fs, f, d, e1, e2, e3, e4, e5, z⟩ => ⟨C, fs, f, d, e1, e2, e3, e4, e5, callW.mono G k (fun _ _ ⟨t, e, z⟩ => ⟨t, e, h _ _ z⟩) hx z⟩
  · exact fun ⟨C, fs, f, e1, e2, z⟩ => ⟨C, fs, f, e1, e2, callW.mono G k (fun _ _ ⟨t, e, z⟩ => ⟨t, e, h _ _ z⟩) hx z⟩
theorem own1W.mono {P : Pm} {o : Own1} {x : D} {W : Om} {p q : PQ} {X Y : PX} (h : ∀ d W, p d W → q d W) (hx : ∀ x W, X x W → Y x W) : own1W G k P o x W p X → own1W G k P o x W q Y := by
  unfold own1W
  split
  · exact fun ⟨C, fs, f, e1, e2, z⟩ => ⟨C, fs, f, e1, e2, callW.mono G k h hx z⟩
  · exact fun ⟨C, fs, f, e1, e2, e3, z⟩ => ⟨C, fs, f, e1, e2, e3, callW.mono G (k - 1) h (fun _ _ z => z) z⟩
theorem lrngD.mono {xs : List D} {p q : List D → Prop} (h : ∀ d, p d → q d) : lrngD xs p → lrngD xs q := by
  unfold lrngD
  split
  · exact fun z => ⟨z.1, h _ z.2⟩
  · exact fun z => ⟨z.1, h _ z.2⟩
  · exact id
theorem ite.mono {c : Bool} {p p' q q' : Prop} (h : p → p') (h' : q → q') : (if c = true then p else q) → (if c = true then p' else q') := by
  cases c
  · exact h'
  · exact h
end
end Tw
set_option maxHeartbeats 4000000
namespace Tw
open PySem PySem.Spec L2
open PyProof.Rows (b2i)
section
variable {G : Gs} {k : Nat} {P : Pm}
def Mo (m : Gm → Om → PQ → PX → Prop) : Prop := ∀ ⦃g : Gm⦄ ⦃W : Om⦄ ⦃p q : PQ⦄ ⦃X Y : PX⦄, (∀ d W, p d W → q d W) → (∀ x W, X x W → Y x W) → m g W p X → m g W q Y
def MoT (m : Gm → Om → (Bool → Om → Prop) → PX → Prop) : Prop := ∀ ⦃g : Gm⦄ ⦃W : Om⦄ ⦃p q : Bool → Om → Prop⦄ ⦃X Y : PX⦄, (∀ d W, p d W → q d W) → (∀ x W, X x W → Y x W) → m g W p X → m g W q Y
def MoL (m : Gm → Om → (List D → Om → Prop) → PX → Prop) : Prop := ∀ ⦃g : Gm⦄ ⦃W : Om⦄ ⦃p q : List D → Om → Prop⦄ ⦃X Y : PX⦄, (∀ d W, p d W → q d W) → (∀ x W, X x W → Y x W) → m g W p X → m g W q Y
def MoIt (m : Gm → Om → (Wt → List D → Om → Prop) → PX → Prop) : Prop := ∀ ⦃g : Gm⦄ ⦃W : Om⦄ ⦃p q : Wt → List D → Om → Prop⦄ ⦃X Y : PX⦄, (∀ w d W, p w d W → q w d W) → (∀ x W, X x W → Y x W) → m g W p X → m g W q Y
def MoO (m : Gm → Om → (Option Int → Om → Prop) → PX → Prop) : Prop := ∀ ⦃g : Gm⦄ ⦃W : Om⦄ ⦃p q : Option Int → Om → Prop⦄ ⦃X Y : PX⦄, (∀ d W, p d W → q d W) → (∀ x W, X x W → Y x W) → m g W p X → m g W q Y
mutual
theorem moE : ∀ e : E, Mo (wpE G k P e)
  | .var i => fun _ _ _ _ _ _ h hx z => by
    obtain ⟨d, e, z⟩ := (by simpa only [wpE] using z)
    exact (by simpa only [wpE] using ⟨d, e, h _ _ z⟩)
  | .int i => fun _ _ _ _ _ _ h hx z => by simp only [wpE] at z ⊢; exact h _ _ z
  | .exI i c => fun _ _ _ _ _ _ h hx z => by
    simp only [wpE] at z ⊢
    obtain ⟨C, fs, e, z⟩ := z
    exact ⟨C, fs, e, h _ _ z⟩
  | .exA i f => fun _ _ _ _ _ _ h hx z => by
    simp only [wpE] at z ⊢
    obtain ⟨C, fs, e, x, e3, e4, z⟩ := z
    exact ⟨C, fs, e, x, e3, e4, h _ _ z⟩
  | .exC f i => fun _ _ _ _ _ _ h hx z => by
    simp only [wpE] at z ⊢
    obtain ⟨C, fs, e, z⟩ := z
    exact ⟨C, fs, e, callW.mono G _ h hx z⟩
  | .str i => fun _ _ _ _ _ _ h hx z => by simp only [wpE] at z ⊢; exact h _ _ z
  | .bl i => fun _ _ _ _ _ _ h hx z => by simp only [wpE] at z ⊢; exact h _ _ z
  | .non => fun _ _ _ _ _ _ h hx z => by simp only [wpE] at z ⊢; exact h _ _ z
  | .gint _ i => fun _ _ _ _ _ _ h hx z => by simp only [wpE] at z ⊢; exact h _ _ z
  | .gstr _ i => fun _ _ _ _ _ _ h hx z => by simp only [wpE] at z ⊢; exact h _ _ z
  | .bin o own a b => fun _ _ _ _ _ _ h hx z => by
    simp only [wpE] at z ⊢
    exact moE a (fun _ _ y => moE b (fun _ _ y => binD.mono h y) hx y) hx z
  | .neg a => fun _ _ _ _ _ _ h hx z => by
    simp only [wpE] at z ⊢
    exact moE a (fun _ _ y => onI.mono (fun _ y => h _ _ y) y) hx z
  | .cmp o a b => fun _ _ _ _ _ _ h hx z => by
    simp only [wpE] at z ⊢
    exact moE a (fun _ _ y => moE b (fun _ _ y => cmpD.mono h y) hx y) hx z
  | .chain o p a b c => fun _ _ _ _ _ _ h hx z => by
    simp only [wpE] at z ⊢
    exact moE a (fun _ _ y => moE b (fun _ _ y => cmpD.mono (fun _ _ y => onB.mono (fun _ y => ite.mono (fun y => moE c (fun _ _ y => cmpD.mono h y) hx y) (fun y => h _ _ y) y) y) y) hx y) hx z
  | .and a b => fun _ _ _ _ _ _ h hx z => by
    simp only [wpE] at z ⊢
    exact moE a (fun _ _ y => onB.mono (fun _ y => ite.mono (fun y => moE b h hx y) (fun y => h _ _ y) y) y) hx z
  | .or a b => fun _ _ _ _ _ _ h hx z => by
    simp only [wpE] at z ⊢
    exact moE a (fun _ _ y => onB.mono (fun _ y => ite.mono (fun y => h _ _ y) (fun y => moE b h hx y) y) y) hx z
  | .not a => fun _ _ _ _ _ _ h hx z => by
    simp only [wpE] at z ⊢
    exact moE a (fun _ _ y => onB.mono (fun _ y => h _ _ y) y) hx z
  | .ite c a b => fun _ _ _ _ _ _ h hx z => by
    simp only [wpE] at z ⊢
    exact moT c (fun _ _ y => ite.mono (fun y => moE a h hx y) (fun y => moE b h hx y) y) hx z
  | .lst own es => fun _ _ _ _ _ _ h hx z => by
    simp only [wpE] at z ⊢
    exact moEs es (fun _ _ y => ⟨y.1, mkL.mono h y.2⟩) hx z
  | .tup es => fun _ _ _ _ _ _ h hx z => by
    simp only [wpE] at z ⊢
    exact moEs es (fun _ _ y => ⟨y.1, h _ _ y.2⟩) hx z
  | .idx a i => fun _ _ _ _ _ _ h hx z => by
    simp only [wpE] at z ⊢
    exact moE a (fun _ _ y => moE i (fun _ _ y => idxD.mono h y) hx y) hx z
  | .rev own a => fun _ _ _ _ _ _ h hx z => by
    simp only [wpE] at z ⊢
    exact moE a (fun _ _ y => revD.mono h y) hx z
  | .rmeth m o es => fun _ _ _ _ _ _ h hx z => by
    simp only [wpE] at z ⊢
    exact moE o (fun _ _ y => moEs es (fun _ _ y => rmD.mono h y) hx y) hx z
  | .lzip es => fun _ _ _ _ _ _ h hx z => by
    simp only [wpE] at z ⊢
    exact moEs es (fun _ _ y => lzipD.mono h y) hx z
  | .slice own a lo hi => fun _ _ _ _ _ _ h hx z => by
    simp only [wpE] at z ⊢
    exact moE a (fun _ _ y => moO lo (fun _ _ y => moO hi (fun _ _ y => sliceD.mono h y) hx y) hx y) hx z
  | .call f es => fun _ _ _ _ _ _ h hx z => by
    simp only [wpE] at z ⊢
    exact moEs es (fun _ _ y => callW.mono G _ h hx y) hx z
  | .callK f es ks pm => fun _ _ _ _ _ _ h hx z => by
    simp only [wpE] at z ⊢
    exact moEs es (fun _ _ y => moEs ks (fun _ _ y => callW.mono G _ h hx y) hx y) hx z
  | .blt b own es => fun _ _ _ _ _ _ h hx z => by
    simp only [wpE] at z ⊢
    exact moEs es (fun _ _ y => bltD.mono h y) hx z
  | .isi e c => fun _ _ _ _ _ _ h hx z => by
    simp only [wpE] at z ⊢
    exact moE e (fun _ _ y => isiD.mono h y) hx z
  | .meth m o es => fun _ _ _ _ _ _ h hx z => by
    simp only [wpE] at z ⊢
    exact moE o (fun _ _ ⟨a, cs, e1, e2, y⟩ => ⟨a, cs, e1, e2, moEs es (fun _ _ y => methD.mono h y) hx y⟩) hx z
  | .umeth m o es => fun _ _ _ _ _ _ h hx z => by
    simp only [wpE] at z ⊢
    exact moE o (fun _ _ ⟨C, fs, f, e1, e2, e3, y⟩ => ⟨C, fs, f, e1, e2, e3, moEs es (fun _ _ y => callW.mono G _ h hx y) hx y⟩) hx z
  | .attr o f => fun _ _ _ _ _ _ h hx z => by
    simp only [wpE] at z ⊢
    exact moE o (fun _ _ y => attrD.mono h y) hx z
  | .own2 o a b => fun _ _ _ _ _ _ h hx z => by
    simp only [wpE] at z ⊢
    exact moE a (fun _ _ y => moE b (fun _ _ y => own2W.mono G k h hx y) hx y) hx z
  | .own1 o a => fun _ _ _ _ _ _ h hx z => by
    simp only [wpE] at z ⊢
    exact moE a (fun _ _ y => own1W.mono G k h hx y) hx z
  | .umethK C m o es ks pm => fun _ _ _ _ _ _ h hx z => by
    simp only [wpE] at z ⊢
    exact moE o (fun _ _ ⟨fs, f, e1, e2, e3, y⟩ => ⟨fs, f, e1, e2, e3, moEs es (fun _ _ y => moEs ks (fun _ _ y => callW.mono G _ h hx y) hx y) hx y⟩) hx z
  | .mkK C own es ks pm => fun _ _ _ _ _ _ h hx z => by
    simp only [wpE] at z ⊢
    exact moEs es (fun _ _ y => moEs ks (fun _ _ ⟨f, e1, e2, y⟩ => ⟨f, e1, e2, fun p hp => callW.mono G _ (fun _ _ y => ⟨y.1, madeD.mono h y.2⟩) (fun _ _ y => hx _ _ y) (y p hp)⟩) hx y) hx z
  | .lrng own es => fun _ _ _ _ _ _ h hx z => by
    simp only [wpE] at z ⊢
    exact moEs es (fun _ _ y => lrngD.mono (fun _ y => mkL.mono h y) y) hx z
  | .mk C own es => fun _ _ _ _ _ _ h hx z => by
    simp only [wpE] at z ⊢
    exact moEs es (fun _ _ ⟨f, e1, e2, y⟩ => ⟨f, e1, e2, fun p hp => callW.mono G _ (fun _ _ y => ⟨y.1, madeD.mono h y.2⟩) (fun _ _ y => hx _ _ y) (y p hp)⟩) hx z
  | .comp own i elt it cond => fun _ _ _ _ _ _ h hx z => by
    simp only [wpE] at z ⊢
    exact moI it (fun _ _ _ y => compL.mono (fun _ _ _ _ hr y => moC cond (fun _ _ y => ite.mono (fun y => moE elt (fun _ _ y => hr _ _ y) (fun _ _ y => y) y) (fun y => hr _ _ y) y) (fun _ _ y => y) y) (fun _ _ y => mkL.mono h y) y) hx z
  | .compR own t elt it cond => fun _ _ _ _ _ _ h hx z => by
    simp only [wpE] at z ⊢
    exact moI it (fun _ _ _ y => compL.mono (fun _ _ _ _ hr y => setT.mono (fun _ y => moC cond (fun _ _ y => ite.mono (fun y => moE elt (fun _ _ y => hr _ _ y) hx y) (fun y => hr _ _ y) y) hx y) y) (fun _ _ y => mkL.mono h y) y) hx z
  | .comp2 own i j elt it it1 => fun _ _ _ _ _ _ h hx z => by
    simp only [wpE] at z ⊢
    exact moI it (fun _ _ _ y => comp2L.mono (fun _ _ _ _ _ hr y => moI it1 (fun _ _ _ y => compL.mono (fun _ _ _ _ hr1 y => moE elt (fun _ _ y => hr1 _ _ y) (fun _ _ y => y) y) (fun _ _ y => hr _ _ y) y) (fun _ _ y => y) y) (fun _ _ y => mkL.mono h y) y) hx z
  | .compH own h i elt a cond => fun _ _ _ _ _ _ h hx z => by
    simp only [wpE] at z ⊢
    exact moE a (fun _ _ y => seqH.mono (fun _ _ y => compL.mono (fun _ _ _ _ hr y => moC cond (fun _ _ y => ite.mono (fun y => moE elt (fun _ _ y => hr _ _ y) (fun _ _ y => y) y) (fun y => hr _ _ y) y) (fun _ _ y => y) y) (fun _ _ y => mkL.mono h y) y) y) hx z
theorem moT : ∀ e : E, MoT (wpT G k P e)
  | .and a b => fun _ _ _ _ _ _ h hx z => by
    simp only [wpT] at z ⊢
    exact moT a (fun _ _ y => ite.mono (fun y => moT b h hx y) (fun y => h _ _ y) y) hx z
  | .or a b => fun _ _ _ _ _ _ h hx z => by
    simp only [wpT] at z ⊢
    exact moT a (fun _ _ y => ite.mono (fun y => h _ _ y) (fun y => moT b h hx y) y) hx z
  | .not a => fun _ _ _ _ _ _ h hx z => by
    simp only [wpT] at z ⊢
    exact moT a (fun _ _ y => h _ _ y) hx z
  | .ite c a b => fun _ _ _ _ _ _ h hx z => by
    simp only [wpT] at z ⊢
    exact moT c (fun _ _ y => ite.mono (fun y => moT a h hx y) (fun y => moT b h hx y) y) hx z
  | .var i => fun _ _ _ _ _ _ h hx z => by
    simp only [wpT] at z ⊢
    obtain ⟨d, e, z⟩ := z
    exact ⟨d, e, onT.mono h z⟩
  | .bl i => fun _ _ _ _ _ _ h hx z => by simp only [wpT] at z ⊢; exact h _ _ z
  | .exI i c => fun _ _ _ _ _ _ h hx z => by
    simp only [wpT] at z ⊢
    obtain ⟨C, fs, e, z⟩ := z
    exact ⟨C, fs, e, h _ _ z⟩
  | .exA _ _ => fun _ _ _ _ _ _ h hx z => by simp only [wpT] at z
  | .exC f i => fun _ _ _ _ _ _ h hx z => by
    simp only [wpT] at z ⊢
    obtain ⟨C, fs, e, z⟩ := z
    exact ⟨C, fs, e, callW.mono G _ (fun _ _ y => onT.mono h y) hx z⟩
  | .cmp o a b => fun _ _ _ _ _ _ h hx z => by
    simp only [wpT] at z ⊢
    exact moE a (fun _ _ y => moE b (fun _ _ y => cmpD.mono (fun _ _ y => onB.mono (fun _ y => h _ _ y) y) y) hx y) hx z
  | .chain o p a b c => fun _ _ _ _ _ _ h hx z => by
    simp only [wpT] at z ⊢
    exact moE a (fun _ _ y => moE b (fun _ _ y => cmpD.mono (fun _ _ y => onB.mono (fun _ y => ite.mono (fun y => moE c (fun _ _ y => cmpD.mono (fun _ _ y => onB.mono (fun _ y => h _ _ y) y) y) hx y) (fun y => h _ _ y) y) y) y) hx y) hx z
  | .idx a i => fun _ _ _ _ _ _ h hx z => by
    simp only [wpT] at z ⊢
    exact moE a (fun _ _ y => moE i (fun _ _ y => idxD.mono (fun _ _ y => onT.mono h y) y) hx y) hx z
  | .call f es => fun _ _ _ _ _ _ h hx z => by
    simp only [wpT] at z ⊢
    exact moEs es (fun _ _ y => callW.mono G _ (fun _ _ y => onT.mono h y) hx y) hx z
  | .isi e c => fun _ _ _ _ _ _ h hx z => by
    simp only [wpT] at z ⊢
    exact moE e (fun _ _ y => isiD.mono (fun _ _ y => onT.mono h y) y) hx z
  | .umeth m o es => fun _ _ _ _ _ _ h hx z => by
    simp only [wpT] at z ⊢
    exact moE o (fun _ _ ⟨C, fs, f, e1, e2, e3, y⟩ => ⟨C, fs, f, e1, e2, e3, moEs es (fun _ _ y => callW.mono G _ (fun _ _ y => onT.mono h y) hx y) hx y⟩) hx z
  | .attr o f => fun _ _ _ _ _ _ h hx z => by
    simp only [wpT] at z ⊢
    exact moE o (fun _ _ y => attrD.mono (fun _ _ y => onT.mono h y) y) hx z
  | .own2 o a b => fun _ _ _ _ _ _ h hx z => by
    simp only [wpT] at z ⊢
    exact moE a (fun _ _ y => moE b (fun _ _ y => own2W.mono G k (fun _ _ y => onT.mono h y) hx y) hx y) hx z
  | .own1 o a => fun _ _ _ _ _ _ h hx z => by
    simp only [wpT] at z ⊢
    exact moE a (fun _ _ y => own1W.mono G k (fun _ _ y => onT.mono h y) hx y) hx z
  | .umethK _ _ _ _ _ _ => fun _ _ _ _ _ _ h hx z => by simp only [wpT] at z
  | .mkK _ _ _ _ _ => fun _ _ _ _ _ _ h hx z => by simp only [wpT] at z
  | .lrng _ _ => fun _ _ _ _ _ _ h hx z => by simp only [wpT] at z
  | .int _ => fun _ _ _ _ _ _ h hx z => by simp only [wpT] at z
  | .str _ => fun _ _ _ _ _ _ h hx z => by simp only [wpT] at z
  | .non => fun _ _ _ _ _ _ h hx z => by simp only [wpT] at z
  | .gint _ _ => fun _ _ _ _ _ _ h hx z => by simp only [wpT] at z
  | .gstr _ _ => fun _ _ _ _ _ _ h hx z => by simp only [wpT] at z
  | .bin _ _ _ _ => fun _ _ _ _ _ _ h hx z => by simp only [wpT] at z
  | .neg _ => fun _ _ _ _ _ _ h hx z => by simp only [wpT] at z
  | .lst _ _ => fun _ _ _ _ _ _ h hx z => by simp only [wpT] at z
  | .tup _ => fun _ _ _ _ _ _ h hx z => by simp only [wpT] at z
  | .rev _ _ => fun _ _ _ _ _ _ h hx z => by simp only [wpT] at z
  | .slice _ _ _ _ => fun _ _ _ _ _ _ h hx z => by simp only [wpT] at z
  | .callK _ _ _ _ => fun _ _ _ _ _ _ h hx z => by simp only [wpT] at z
  | .blt b own es => fun _ _ _ _ _ _ h hx z => by
    simp only [wpT] at z ⊢
    exact moEs es (fun _ _ y => bltD.mono (fun _ _ y => onT.mono h y) y) hx z
  | .meth _ _ _ => fun _ _ _ _ _ _ h hx z => by simp only [wpT] at z
  | .rmeth _ _ _ => fun _ _ _ _ _ _ h hx z => by simp only [wpT] at z
  | .lzip _ => fun _ _ _ _ _ _ h hx z => by simp only [wpT] at z
  | .mk _ _ _ => fun _ _ _ _ _ _ h hx z => by simp only [wpT] at z
  | .comp _ _ _ _ _ => fun _ _ _ _ _ _ h hx z => by simp only [wpT] at z
  | .compR _ _ _ _ _ => fun _ _ _ _ _ _ h hx z => by simp only [wpT] at z
  | .comp2 _ _ _ _ _ _ => fun _ _ _ _ _ _ h hx z => by simp only [wpT] at z
  | .compH _ _ _ _ _ _ => fun _ _ _ _ _ _ h hx z => by simp only [wpT] at z
theorem moEs : ∀ es : List E, MoL (wpEs G k P es)
  | [] => fun _ _ _ _ _ _ h hx z => by simp only [wpEs] at z ⊢; exact h _ _ z
  | e :: es => fun _ _ _ _ _ _ h hx z => by
    simp only [wpEs] at z ⊢
    exact moE e (fun _ _ y => moEs es (fun _ _ y => h _ _ y) hx y) hx z
theorem moO : ∀ o : Option E, MoO (wpO G k P o)
  | none => fun _ _ _ _ _ _ h hx z => by simp only [wpO] at z ⊢; exact h _ _ z
  | some e => fun _ _ _ _ _ _ h hx z => by
    simp only [wpO] at z ⊢
    exact moE e (fun _ _ y => onI.mono (fun _ y => h _ _ y) y) hx z
theorem moC : ∀ o : Option E, MoT (wpC G k P o)
  | none => fun _ _ _ _ _ _ h hx z => by simp only [wpC] at z ⊢; exact h _ _ z
  | some e => fun _ _ _ _ _ _ h hx z => by
    simp only [wpC] at z ⊢
    exact moT e h hx z
theorem moI : ∀ i : I, MoIt (wpI G k P i)
  | .seq e => fun _ _ _ _ _ _ h hx z => by
    simp only [wpI] at z ⊢
    refine moE e (fun d _ y => ?_) hx z
    cases d <;> first | exact h _ _ _ y | exact ⟨y.choose, y.choose_spec.1, h _ _ _ y.choose_spec.2⟩ | exact y
  | .rng es => fun _ _ _ _ _ _ h hx z => by
    simp only [wpI] at z ⊢
    exact moEs es (fun _ _ y => rngD.mono (fun _ y => h _ _ _ y) y) hx z
  | .itf f es => fun _ _ _ _ _ _ h hx z => by
    simp only [wpI] at z ⊢
    exact moEs es (fun _ _ y => itfD.mono (fun _ _ y => h _ _ _ y) y) hx z
end
end
end Tw
set_option maxHeartbeats 4000000
namespace Tw
open PySem PySem.Spec L2
/-- parameters of a plain def -/
def plainB (ps : List Str) (a : Arguments) : Bool := a.posonlyargs.isEmpty && decide (a.args.map (·.arg) = ps) && a.vararg.isNone && a.kwonlyargs.isEmpty && a.kwarg.isNone && decide ps.Nodup
/-- n arguments by place, then these keywords: the values in the parameters' order by pm -/
def kwB (ps : List Str) (n : Nat) (ks : List Str) (pm : List Nat) : Bool :=
  decide ((ps.take n ++ ks).Nodup) && decide (n + ks.length = ps.length) && (ks.all fun k => ps.contains k) && decide (permL pm (ps.take n ++ ks) = ps) && pm.all fun j => decide (j < ps.length)
theorem look_at : ∀ {qs : List Str} {vs : List Value}, qs.Nodup → vs.length = qs.length → ∀ (i : Nat) (n : Str), qs[i]? = some n → ∃ v, vs[i]? = some v ∧ (qs.zip vs).lookup n = some v
  | [], _, _, _, i, n, h => by simp at h
  | p :: ps, [], _, hl, _, _, _ => by simp at hl
  | p :: ps, u :: us, hd, hl, 0, n, h => by
    simp at h
    subst h
    exact ⟨u, rfl, by simp [List.lookup]⟩
  | p :: ps, u :: us, hd, hl, i + 1, n, h => by
    rw [List.nodup_cons] at hd
    have h' : ps[i]? = some n := by simpa using h
    obtain ⟨v, h1, h2⟩ := look_at hd.2 (by simpa using hl) i n h'
    have ne : (n == p) = false := by
      rw [beq_eq_false_iff_ne]
      exact fun e => hd.1 (e ▸ List.mem_of_getElem? h')
    exact ⟨v, by simpa using h1, by rw [List.zip_cons_cons, List.lookup_cons, ne]; exact h2⟩
theorem perm_zip {qs : List Str} {vs : List Value} (hd : qs.Nodup) (hl : vs.length = qs.length) : ∀ {pm : List Nat}, (∀ j ∈ pm, j < qs.length) →
    (permL pm qs).filterMap (fun n => ((qs.zip vs).lookup n).map (n, ·)) = (permL pm qs).zip (permL pm vs) ∧ ((permL pm qs).filter fun n => ((qs.zip vs).lookup n).isNone) = []
  | [], _ => ⟨rfl, rfl⟩
  | j :: pm, h => by
    have hj := h j List.mem_cons_self
    obtain ⟨ih1, ih2⟩ := perm_zip hd hl (pm := pm) fun i hi => h i (List.mem_cons_of_mem _ hi)
    obtain ⟨v, h1, h2⟩ := look_at hd hl j qs[j] (List.getElem?_eq_getElem hj)
    have e1 : permL (j :: pm) qs = qs[j] :: permL pm qs := by unfold permL; rw [List.filterMap_cons, List.getElem?_eq_getElem hj]
    have e2 : permL (j :: pm) vs = v :: permL pm vs := by unfold permL; rw [List.filterMap_cons, h1]
    rw [e1, e2, List.filterMap_cons, h2, List.filter_cons, h2]
    exact ⟨by show (qs[j], v) :: _ = (qs[j], v) :: _; rw [ih1]; rfl, by rw [ih2]; rfl⟩
/-- the loop over the keywords -/
theorem kw_loop {σ : Type} (f : Str × Value → σ → Sem (ForInStep σ)) (mk : List (Str × Value) → σ) : ∀ (kws : List (Str × Value)) (sl : List (Str × Value)), (∀ pre k v post, kws = pre ++ (k, v) :: post → f (k, v) (mk (sl ++ pre)) = pure (.yield (mk (sl ++ pre ++ [(k, v)])))) → forIn kws (mk sl) f = pure (mk (sl ++ kws))
  | [], sl, _ => by simp
  | (k, v) :: r, sl, h => by
    have h0 := h [] k v r rfl
    rw [List.append_nil] at h0
    rw [List.forIn_cons, h0]
    show forIn r (mk (sl ++ [(k, v)])) f = _
    rw [kw_loop f mk r (sl ++ [(k, v)]) fun pre k' v' post e => by
      have z := h ((k, v) :: pre) k' v' post (by rw [e]; rfl)
      simpa [List.append_assoc] using z]
    simp
theorem bind_kw {ps ks : List Str} {n : Nat} {pm : List Nat} {fd : FuncData} {us ws : List Value} (h : plainB ps fd.params = true) (hdf : fd.defaults = .none) (hk : kwB ps n ks pm = true) (hl : us.length = n) (hw : ws.length = ks.length) :
    bindArgs fd ⟨us, ks.zip ws⟩ = pure (ps.zip (permL pm (us ++ ws))) := by
  simp only [plainB, Bool.and_eq_true, decide_eq_true_eq, List.isEmpty_iff, Option.isNone_iff_eq_none] at h
  obtain ⟨⟨⟨⟨⟨h1, h2⟩, h3⟩, h4⟩, h5⟩, h6⟩ := h
  simp only [kwB, Bool.and_eq_true, decide_eq_true_eq] at hk
  obtain ⟨⟨⟨⟨k1, k2⟩, k3⟩, k4⟩, k5⟩ := hk
  have lt : (ps.take n).length = us.length := by rw [List.length_take]; omega
  have ez : ps.zip us = (ps.take n).zip us := by
    have e := List.zip_append (l₁ := ps.take n) (l₂ := us) (r₁ := ps.drop n) (r₂ := ([] : List Value)) lt
    rw [List.take_append_drop, List.append_nil, List.zip_nil_right, List.append_nil] at e
    exact e
  have eq : ps.zip us ++ ks.zip ws = (ps.take n ++ ks).zip (us ++ ws) := by rw [List.zip_append lt, ez]
  have hlen : (us ++ ws).length = (ps.take n ++ ks).length := by rw [List.length_append, List.length_append, lt, hw]
  have hpm : ∀ j ∈ pm, j < (ps.take n ++ ks).length := fun j hj => by
    have := of_decide_eq_true (List.all_eq_true.mp k5 j hj)
    rw [List.length_append, List.length_take]
    omega
  obtain ⟨z1, z2⟩ := perm_zip k1 hlen hpm
  rw [k4] at z1 z2
  rw [← eq] at z1 z2
  unfold bindArgs
  simp only [h1, h2, h3, h4, h5, hdf, List.map_nil, List.nil_append, List.append_nil]
  have loop := fun (f : Str × Value → List (Str × Value) × List (Str × Value) → Sem (ForInStep (List (Str × Value) × List (Str × Value)))) => kw_loop f (fun l => (l, [])) (ks.zip ws) (ps.zip us)
  rw [loop]
  · have hn : ¬ (us.length > ps.length) := by omega
    simp [seqItems?, hn, z1, z2]
    rfl
  · intro pre k v post e
    have mem : k ∈ ks := (List.of_mem_zip (show (k, v) ∈ ks.zip ws from by rw [e]; simp)).1
    have c1 : ps.contains k = true := List.all_eq_true.mp k3 k mem
    have nd : (ps.zip us ++ pre).lookup k = none := by
      have hm : ((ps.zip us ++ pre) ++ (k, v) :: post).map (·.1) = ps.take n ++ ks := by
        rw [List.append_assoc, ← e, eq]
        exact List.map_fst_zip (by rw [hlen]; exact Nat.le_refl _)
      have hnd : (((ps.zip us ++ pre) ++ (k, v) :: post).map (·.1)).Nodup := by rw [hm]; exact k1
      rw [List.map_append, List.nodup_append] at hnd
      rw [List.lookup_eq_none_iff]
      intro p hp
      have ne := hnd.2.2 p.1 (List.mem_map_of_mem hp) k (by simp)
      simpa using fun z => ne z.symm
    have c2 : k ∈ ps := by simpa using c1
    simp [c2, nd]
end Tw
set_option maxHeartbeats 4000000
namespace Tw
open PySem PySem.Spec L2
open PyProof.Rows (b2i)
section
variable {T : Tb} {U : Addr → Prop} {X : Cx} {W : Om} {H : Hp}
/-- what is wanted of a tree, said of what represents it -/
abbrev Post (T : Tb) (U : Addr → Prop) (W : Om) (H : Hp) (Q : VK) : PQ := fun r W' => ∀ z H', Rep T U W' H' r z → RepW T U W' H' → Ext W H W' H' → Q z H'
theorem mkL_ok {own : Bool} {ds : List D} {vs : List V} {Q : VK} (hw : RepW T U W H) (hr : Reps T U W H ds vs) (h : mkL own ds W (Post T U W H Q)) (p : Addr) (hp : H p = none) : Q (.ref p) (upd H p (.lst vs)) := by
  cases own with
  | false =>
    have x := Ext.fresh (T := T) (U := U) (o := .lst vs) hp hw
    exact h _ _ (.lst x.2 upd_same (hr.ext x.1)) (hw.fresh hp) x.1
  | true =>
    have x : Ext W H (W.set p (.lst ds)) (upd H p (.lst vs)) := Ext.cell hp
    exact h p (hw.new hp).1 _ _ (.ptr p) (hw.cell hp (.lst hr)) x
theorem tup_ok {ds : List D} {vs : List V} {Q : VK} (hw : RepW T U W H) (hr : Reps T U W H ds vs) (h : Post T U W H Q (.tup ds) W) (p : Addr) (hp : H p = none) : Q (.ref p) (upd H p (.tup vs)) := by
  have x := Ext.fresh (T := T) (U := U) (o := .tup vs) hp hw
  exact h _ _ (.tup x.2 upd_same (hr.ext x.1)) (hw.fresh hp) x.1
/-- a sequence's items -/
theorem seq_ok2 {K : PySem.W.Frag} {d : D} {x : V} {ds : List D} (hw : RepW T U W H) (r : Rep T U W H d x) (e : seqOf W d = some ds) : ∃ p vs, x = .ref p ∧ (SqL K H p vs ∨ (SqT K H p vs ∧ Rep T U W H (.tup ds) (.ref p))) ∧ Reps T U W H ds vs := by
  cases r with
  | lst n h r =>
    have e := Option.some.inj e
    subst e
    exact ⟨_, _, rfl, .inl (SqL.of h), r⟩
  | tup n h r =>
    have e := Option.some.inj e
    subst e
    exact ⟨_, _, rfl, .inr ⟨SqT.of h, .tup n h r⟩, r⟩
  | scr ns n h =>
    have e := Option.some.inj e
    subst e
    exact ⟨_, _, rfl, .inl (.inl (.inr ⟨_, h⟩)), Reps.ints ns⟩
  | ptr a =>
    have e : (match W a with | some (.lst ds) => some ds | _ => none) = some ds := e
    cases q : W a with
    | none => rw [q] at e; cases e
    | some m =>
      rw [q] at e
      cases m with
      | ins C fs => cases e
      | lst es =>
        have e := Option.some.inj e
        subst e
        obtain ⟨o, h1, h2⟩ := hw.cell_ a _ q
        cases h2 with
        | lst r => exact ⟨_, _, rfl, .inl (SqL.of h1), r⟩
  | non => cases e
  | bl _ => cases e
  | int _ => cases e
  | str _ => cases e
  | obj _ _ _ _ => cases e
theorem seq_ok {K : PySem.W.Frag} {d : D} {x : V} {ds : List D} (hw : RepW T U W H) (r : Rep T U W H d x) (e : seqOf W d = some ds) : ∃ p vs, x = .ref p ∧ (SqL K H p vs ∨ SqT K H p vs) ∧ Reps T U W H ds vs := by
  obtain ⟨p, vs, e1, h, r⟩ := seq_ok2 (K := K) hw r e
  exact ⟨p, vs, e1, h.imp id And.left, r⟩
theorem beq_dec (i j : Int) : (j == i) = decide (i = j) := by
  by_cases h : i = j
  · subst h; simp
  · rw [decide_eq_false h]; exact beq_eq_false_iff_ne.mpr (Ne.symm h)
theorem Rep.flat {d : D} {x : V} (r : Rep T U W H d x) (h : flatD d = true) : flatV x = true := by
  cases r <;> first | rfl | cases h
theorem Rep.eqF {d e : D} {x y : V} (r : Rep T U W H d x) (q : Rep T U W H e y) (h : flatD d = true) (h' : flatD e = true) : eqV y x = Tw.eqF d e := by
  cases r with
  | non => cases q <;> first | rfl | cases h'
  | bl a => cases q with
    | bl b => show (b == a) = (a == b); cases a <;> cases b <;> rfl
    | int j => show (j == (if a = true then 1 else 0)) = decide (b2i a = j); exact beq_dec _ _
    | _ => first | rfl | cases h'
  | int i => cases q with
    | int j => show (j == i) = decide (i = j); exact beq_dec _ _
    | bl b => show ((if b = true then 1 else 0) == i) = decide (i = b2i b); exact beq_dec _ _
    | _ => first | rfl | cases h'
  | str i => cases q with
    | str j => show (j == i) = decide (i = j); by_cases e : i = j
               · subst e; simp
               · rw [decide_eq_false e]; exact beq_eq_false_iff_ne.mpr (Ne.symm e)
    | _ => first | rfl | cases h'
  | _ => cases h
/-- a two-place operation on trees is what f does -/
def OpD (X : Cx) (T : Tb) (U : Addr → Prop) (f : Value → Value → Sem Value) (b : D → D → Om → PQ → Prop) : Prop :=
  ∀ (pins : List (Addr × Obj)) (s : Shared) (σ : St) (H : Hp) (W : Om) (x y : V) (v u : Value) (d e : D) (Q : VK), Inv X pins σ H s → RelV x v → RelV y u → Rep T U W H d x → Rep T U W H e y → RepW T U W H →
    b d e W (Post T U W H Q) → wpAny (model X.prog X.w) X.A (f v u) (EP X pins σ Q) X.xe s
theorem MulOk.ok {i j : Int} (h : MulOk i j) : PySem.IntMulOk i j := by
  rcases h with h | h | h
  · exact .of_left (PySem.intBits_le_64 h.1 h.2)
  · exact .of_right (PySem.intBits_le_64 h.1 h.2)
  · exact CMulW.ok h
theorem op_mulD : OpR X (binaryOp .Mult) (rI MulOk fun i j => .int (i * j)) := opI fun _ _ _ _ _ _ _ hc q => PyProof.Rows.mul_int q hc.ok
theorem op_powD : OpR X (binaryOp .Pow) (rI FitP fun i j => .int (i ^ j.toNat)) := opI fun _ _ _ _ _ _ _ hc q => PyProof.Rows.pow_int hc.1 hc.2 q
def BOp.op : BOp → Operator
  | .add => .Add | .sub => .Sub | .mul => .Mult | .fdiv => .FloorDiv | .mod => .Mod | .pow => .Pow | .shl => .LShift | .shr => .RShift | .band => .BitAnd
theorem Rep.lstH {d : D} {ds : List D} {x : V} (r : Rep T U W H d x) (e : d = .lst ds) : ∃ p vs, x = .ref p ∧ H p = some (.lst vs) ∧ Reps T U W H ds vs := by
  subst e
  cases r with
  | lst n h r => exact ⟨_, _, rfl, h, r⟩
theorem Reps.flatten {ds : List D} {vs : List V} (r : Reps T U W H ds vs) : ∀ n : Nat, Reps T U W H (List.replicate n ds).flatten (List.replicate n vs).flatten
  | 0 => .nil
  | n + 1 => by
    rw [List.replicate_succ, List.replicate_succ, List.flatten_cons, List.flatten_cons]
    exact r.append (Reps.flatten r n)
theorem cellOf5 {W1 : Om} {H1 : Hp} {p : Addr} {ds : List D} (w : RepW T U W1 H1) (e : W1 p = some (.lst ds)) : ∃ vs, H1 p = some (.lst vs) ∧ Reps T U W1 H1 ds vs := by
  obtain ⟨o, h1, h2⟩ := w.cell_ _ _ e
  cases h2 with
  | lst r => exact ⟨_, h1, r⟩
theorem op_bin (o : BOp) (own : Bool) : OpD X T U (binaryOp o.op) (binD o own) := by
  intro pins s σ H W x y v u d e Q I rx ry rd re hw h
  unfold binD at h
  split at h
  · cases rd; cases re
    exact op_add pins s σ H _ _ v u Q I rx ry ⟨_, _, rfl, rfl, h _ _ (.int _) hw .refl⟩
  · cases rd; cases re
    exact op_add_ib pins s σ H _ _ v u Q I rx ry ⟨_, _, rfl, rfl, h _ _ (.int _) hw .refl⟩
  · cases rd; cases re
    exact op_sub pins s σ H _ _ v u Q I rx ry ⟨_, _, rfl, rfl, h _ _ (.int _) hw .refl⟩
  · cases rd; cases re
    exact op_mulD pins s σ H _ _ v u Q I rx ry ⟨_, _, rfl, rfl, h.1, h.2 _ _ (.int _) hw .refl⟩
  · cases rd; cases re
    exact op_fdivW pins s σ H _ _ v u Q I rx ry ⟨_, _, rfl, rfl, h.1, h.2 _ _ (.int _) hw .refl⟩
  · cases rd; cases re
    exact op_mod pins s σ H _ _ v u Q I rx ry ⟨_, _, rfl, rfl, h.1, h.2 _ _ (.int _) hw .refl⟩
  · cases rd; cases re
    exact op_powD pins s σ H _ _ v u Q I rx ry ⟨_, _, rfl, rfl, h.1, h.2 _ _ (.int _) hw .refl⟩
  · cases rd; cases re
    exact op_shl pins s σ H _ _ v u Q I rx ry ⟨_, _, rfl, rfl, h.1, h.2 _ _ (.int _) hw .refl⟩
  · cases rd; cases re
    exact op_shr pins s σ H _ _ v u Q I rx ry ⟨_, _, rfl, rfl, h.1, h.2 _ _ (.int _) hw .refl⟩
  · cases rd; cases re
    exact op_and pins s σ H _ _ v u Q I rx ry ⟨_, _, rfl, rfl, h _ _ (.int _) hw .refl⟩
  · cases rd with
    | tup n hp rp =>
      cases re with
      | tup n' hq rq =>
        refine op_catA pins s σ H _ _ v u Q I rx ry ⟨_, _, _, _, rfl, rfl, SqT.of hp, SqT.of hq, by rw [← rp.length, ← rq.length]; exact h.1, fun e => ?_, fun _ e => ?_, fun _ _ p hpn => tup_ok hw (rp.append rq) h.2 p hpn⟩
        · subst e
          cases rp
          exact h.2 _ _ (.tup n' hq rq) hw .refl
        · subst e
          cases rq
          refine h.2 _ _ ?_ hw .refl
          rw [List.append_nil]
          exact .tup n hp rp
  · obtain ⟨ds, e0, hl, h⟩ := h
    cases rd
    obtain ⟨vs, h1, h2⟩ := cellOf5 hw e0
    obtain ⟨q, us, rfl, hq, rq⟩ := re.lstH rfl
    exact op_cat pins s σ H _ _ v u Q I rx ry ⟨_, _, _, _, rfl, rfl, h1, hq, by rw [← h2.length, ← rq.length]; exact hl, fun a ha => mkL_ok hw (h2.append rq) h a ha⟩
  · obtain ⟨ds, e0, hl, h⟩ := h
    cases re
    obtain ⟨vs, h1, h2⟩ := cellOf5 hw e0
    obtain ⟨q, us, rfl, hq, rq⟩ := rd.lstH rfl
    exact op_cat pins s σ H _ _ v u Q I rx ry ⟨_, _, _, _, rfl, rfl, hq, h1, by rw [← h2.length, ← rq.length]; exact hl, fun a ha => mkL_ok hw (rq.append h2) h a ha⟩
  · cases rd; cases re
    exact op_add_str pins s σ H _ _ v u Q I rx ry ⟨_, _, rfl, rfl, h.1, h.2 _ _ (.str _) hw .refl⟩
  · obtain ⟨p, vs, rfl, hp, rp⟩ := rd.lstH rfl
    obtain ⟨q, us, rfl, hq, rq⟩ := re.lstH rfl
    exact op_cat pins s σ H _ _ v u Q I rx ry ⟨_, _, _, _, rfl, rfl, hp, hq, by rw [← rp.length, ← rq.length]; exact h.1, fun a ha => mkL_ok hw (rp.append rq) h.2 a ha⟩
  · obtain ⟨p, vs, rfl, hp, rp⟩ := rd.lstH rfl
    cases re
    exact op_rep pins s σ H _ _ v u Q I rx ry ⟨_, _, _, rfl, rfl, hp, h.1.1, h.1.2.1, by rw [← rp.length]; exact h.1.2.2, fun a ha => mkL_ok hw (rp.flatten _) h.2 a ha⟩
  · exact h.elim
def COp.op : COp → CmpOp
  | .lt => .Lt | .le => .LtE | .gt => .Gt | .ge => .GtE | .eq => .Eq | .ne => .NotEq | .is => .Is | .isnot => .IsNot | .mem => .In | .nomem => .NotIn
theorem Rep.scal {d e : D} {x y : V} (r : Rep T U W H d x) (q : Rep T U W H e y) (h : sameK d e = true) : scal x y = true ∧ decide (x = y) = Tw.eqF d e := by
  cases r <;> cases q <;> first | (cases h; done) | (refine ⟨rfl, ?_⟩; first | rfl | (rename_i a b; cases a <;> cases b <;> rfl) | (simp [Tw.eqF]; done))
theorem Rep.isNon {d : D} {x : V} (r : Rep T U W H d x) : decide (x = .non) = Tw.isNon d := by cases r <;> rfl
theorem Reps.any {d : D} {x : V} (r : Rep T U W H d x) (hf : flatD d = true) : ∀ {ds : List D} {vs : List V}, Reps T U W H ds vs → (∀ e ∈ ds, flatD e = true) → vs.all flatV = true ∧ inV x vs = ds.any (Tw.eqF d)
  | _, _, .nil, _ => ⟨rfl, rfl⟩
  | e :: es, _ :: _, .cons q qs, h => by
    obtain ⟨h1, h2⟩ := Reps.any r hf qs fun e he => h e (List.mem_cons_of_mem _ he)
    have he := h e List.mem_cons_self
    refine ⟨by rw [List.all_cons, q.flat he, h1]; rfl, ?_⟩
    show (_ :: _).any _ = _
    rw [List.any_cons, List.any_cons, r.eqF q hf he]
    exact congrArg (Tw.eqF d e || ·) h2
mutual
theorem Rep.dp {K : PySem.W.Frag} : ∀ {n : Nat} {d : D} {x : V}, Rep T U W H d x → deepOk n d = true → Dp K H x (toPy d)
  | _, _, _, .non, _ => by rw [toPy]; exact .non
  | _, _, _, .bl b, _ => by rw [toPy]; exact .bl b
  | _, _, _, .int i, _ => by rw [toPy]; exact .int i
  | _, _, _, .str x, _ => by rw [toPy]; exact .str x
  | n, _, _, .lst (ds := ds) o h r, e => by
    rw [toPy, List.map_attach_eq_pmap, List.pmap_eq_map]
    cases n with
    | zero => simp [deepOk] at e
    | succ n => exact .lst (SqL.of h) (Reps.dp r (by simpa [deepOk] using e))
  | n, _, _, .tup (ds := ds) o h r, e => by
    rw [toPy, List.map_attach_eq_pmap, List.pmap_eq_map]
    cases n with
    | zero => simp [deepOk] at e
    | succ n => exact .tup (SqT.of h) (Reps.dp r (by simpa [deepOk] using e))
  | n, _, _, .ptr _, e => by cases n <;> simp [deepOk] at e
  | n, _, _, .scr _ _ _, e => by cases n <;> simp [deepOk] at e
  | n, _, _, .obj _ _ _ _, e => by cases n <;> simp [deepOk] at e
theorem Reps.dp {K : PySem.W.Frag} : ∀ {n : Nat} {ds : List D} {vs : List V}, Reps T U W H ds vs → (∀ d ∈ ds, deepOk n d = true) → DpAll K H vs (ds.map toPy)
  | _, _, _, .nil, _ => .nil
  | _, _, _, .cons r rs, h => .cons (Rep.dp r (h _ List.mem_cons_self)) (Reps.dp rs fun d hd => h d (List.mem_cons_of_mem _ hd))
end
theorem toPy_lst {ds : List D} : toPy (.lst ds) = .list (ds.map toPy) := by rw [toPy, List.map_attach_eq_pmap, List.pmap_eq_map]
theorem toPy_tup {ds : List D} : toPy (.tup ds) = .tuple (ds.map toPy) := by rw [toPy, List.map_attach_eq_pmap, List.pmap_eq_map]
theorem canAll {n : Nat} : ∀ {ds : List D}, (∀ d ∈ ds, (toPy d).canLay0 = true ∧ (toPy d).depth ≤ n) → PyData.canLayAll0 (ds.map toPy) = true ∧ PyData.depthAll (ds.map toPy) ≤ n
  | [], _ => ⟨rfl, Nat.zero_le _⟩
  | d :: ds, h => by
    obtain ⟨a1, a2⟩ := h d List.mem_cons_self
    obtain ⟨b1, b2⟩ := canAll (ds := ds) fun e he => h e (List.mem_cons_of_mem _ he)
    refine ⟨by rw [List.map_cons, PyData.canLayAll0, a1, b1]; rfl, by rw [List.map_cons, PyData.depthAll]; exact Nat.max_le.mpr ⟨a2, b2⟩⟩
theorem canLay_py : ∀ (n : Nat) (d : D), deepOk n d = true → (toPy d).canLay0 = true ∧ (toPy d).depth ≤ n
  | n, .non, _ => by rw [toPy]; exact ⟨rfl, Nat.zero_le _⟩
  | n, .bl _, _ => by rw [toPy]; exact ⟨rfl, Nat.zero_le _⟩
  | n, .int _, _ => by rw [toPy]; exact ⟨rfl, Nat.zero_le _⟩
  | n, .str x, h => by
    rw [toPy]
    exact ⟨by cases n <;> (rw [deepOk] at h; exact h), Nat.zero_le _⟩
  | 0, .lst _, h => by simp [deepOk] at h
  | 0, .tup _, h => by simp [deepOk] at h
  | n + 1, .lst ds, h => by
    have h : ∀ d ∈ ds, deepOk n d = true := by simpa [deepOk] using h
    obtain ⟨a, b⟩ := canAll (n := n) (ds := ds) fun d hd => canLay_py n d (h d hd)
    rw [toPy_lst]
    exact ⟨by rw [PyData.canLay0]; exact a, by rw [PyData.depth]; omega⟩
  | n + 1, .tup ds, h => by
    have h : ∀ d ∈ ds, deepOk n d = true := by simpa [deepOk] using h
    obtain ⟨a, b⟩ := canAll (n := n) (ds := ds) fun d hd => canLay_py n d (h d hd)
    rw [toPy_tup]
    exact ⟨by rw [PyData.canLay0]; exact a, by rw [PyData.depth]; omega⟩
  | n, .ptr _, h => by cases n <;> simp [deepOk] at h
  | n, .scr _, h => by cases n <;> simp [deepOk] at h
  | n, .obj _ _, h => by cases n <;> simp [deepOk] at h
  | n, .exn _ _, h => by cases n <;> simp [deepOk] at h
theorem rowD_deep {a : D} (h : rowD a = true) : deepOk 8 a = true := by
  cases a <;> first | exact h | cases h
theorem row_dp {K : PySem.W.Frag} {d a : D} {x : V} (hw : RepW T U W H) (r : Rep T U W H d x) (e : rowOf W d = some a) (h : rowD a = true) : Dp K H x (toPy a) ∧ SeqAt.shaped (toPy a) = true := by
  have h8 := rowD_deep h
  obtain ⟨c1, c2⟩ := canLay_py 8 a h8
  refine ⟨?_, by unfold SeqAt.shaped; rw [c1, decide_eq_true (Nat.le_trans c2 (by decide))]; rfl⟩
  have lst : ∀ {ds : List D} {p : Addr} {vs : List V}, a = .lst ds → SqL K H p vs → Reps T U W H ds vs → Dp K H (.ref p) (toPy a) := fun {ds p vs} e q rs => by
    subst e
    rw [toPy_lst]
    exact .lst q (Reps.dp (n := 7) rs (by simpa [deepOk] using h8))
  cases r with
  | lst n h1 r1 => cases e; exact lst rfl (SqL.of h1) r1
  | tup n h1 r1 => cases e; exact Rep.dp (.tup n h1 r1) h8
  | scr ns n h1 => cases e; exact lst rfl (.inl (.inr ⟨_, h1⟩)) (Reps.ints ns)
  | ptr p =>
    have e : (match W p with | some (.lst ds) => some (D.lst ds) | _ => none) = some a := e
    cases q : W p with
    | none => rw [q] at e; cases e
    | some m =>
      rw [q] at e
      cases m with
      | ins C fs => cases e
      | lst es =>
        cases e
        obtain ⟨o, h1, h2⟩ := hw.cell_ _ _ q
        cases h2 with
        | lst rs => exact lst rfl (SqL.of h1) rs
  | non => cases e
  | bl _ => cases e
  | int _ => cases e
  | str _ => cases e
  | obj _ _ _ _ => cases e
theorem op_cmp (hu : X.A.units + 64 < cLine) (o : COp) : OpD X T U (compareOp o.op) (cmpD o) := by
  intro pins s σ H W x y v u d e Q I rx ry rd re hw h
  unfold cmpD at h
  split at h
  · cases rd; cases re
    exact op_lt pins s σ H _ _ v u Q I rx ry ⟨_, _, rfl, rfl, h _ _ (.bl _) hw .refl⟩
  · cases rd; cases re
    exact op_le pins s σ H _ _ v u Q I rx ry ⟨_, _, rfl, rfl, h _ _ (.bl _) hw .refl⟩
  · cases rd; cases re
    exact op_gt pins s σ H _ _ v u Q I rx ry ⟨_, _, rfl, rfl, h _ _ (.bl _) hw .refl⟩
  · cases rd; cases re
    exact op_ge pins s σ H _ _ v u Q I rx ry ⟨_, _, rfl, rfl, h _ _ (.bl _) hw .refl⟩
  · rcases h with h | ⟨a, b, ea, eb, fa, fb, h⟩
    · obtain ⟨h1, h2⟩ := rd.scal re h.1
      exact op_eq pins s σ H _ _ v u Q I rx ry ⟨h1, by rw [h2]; exact h.2 _ _ (.bl _) hw .refl⟩
    · obtain ⟨p1, p2⟩ := row_dp (K := X.K) hw rd ea fa
      obtain ⟨q1, q2⟩ := row_dp (K := X.K) hw re eb fb
      exact op_eqD hu pins s σ H _ _ v u Q I rx ry ⟨_, _, p1, q1, p2, q2, h _ _ (.bl _) hw .refl⟩
  · rcases h with h | ⟨a, b, ea, eb, fa, fb, h⟩
    · obtain ⟨h1, h2⟩ := rd.scal re h.1
      exact op_ne pins s σ H _ _ v u Q I rx ry ⟨h1, by rw [h2]; exact h.2 _ _ (.bl _) hw .refl⟩
    · obtain ⟨p1, p2⟩ := row_dp (K := X.K) hw rd ea fa
      obtain ⟨q1, q2⟩ := row_dp (K := X.K) hw re eb fb
      exact op_neD hu pins s σ H _ _ v u Q I rx ry ⟨_, _, p1, q1, p2, q2, h _ _ (.bl _) hw .refl⟩
  · cases re
    exact op_isN pins s σ H _ _ v u Q I rx ry ⟨rfl, by rw [rd.isNon]; exact h _ _ (.bl _) hw .refl⟩
  · cases re
    exact op_notN pins s σ H _ _ v u Q I rx ry ⟨rfl, by rw [rd.isNon]; exact h _ _ (.bl _) hw .refl⟩
  · cases rd; cases re
    exact op_isBl pins s σ H _ _ v u Q I rx ry ⟨_, _, rfl, rfl, h _ _ (.bl _) hw .refl⟩
  · cases rd; cases re
    exact op_notBl pins s σ H _ _ v u Q I rx ry ⟨_, _, rfl, rfl, h _ _ (.bl _) hw .refl⟩
  · cases rd; cases re
    exact op_in_str pins s σ H _ _ v u Q I rx ry ⟨_, _, rfl, rfl, h _ _ (.bl _) hw .refl⟩
  · cases rd; cases re
    exact op_notin_str pins s σ H _ _ v u Q I rx ry ⟨_, _, rfl, rfl, h _ _ (.bl _) hw .refl⟩
  · obtain ⟨p, vs, rfl, hq, rp⟩ := seq_ok (K := X.K) hw re rfl
    obtain ⟨a, b⟩ := Reps.any rd h.1.1 rp h.1.2
    exact op_in_seq pins s σ H _ _ v u Q I rx ry ⟨_, _, rfl, hq, rd.flat h.1.1, a, by rw [b]; exact h.2 _ _ (.bl _) hw .refl⟩
  · obtain ⟨p, vs, rfl, hq, rp⟩ := seq_ok (K := X.K) hw re rfl
    obtain ⟨a, b⟩ := Reps.any rd h.1.1 rp h.1.2
    exact op_notIn_seq pins s σ H _ _ v u Q I rx ry ⟨_, _, rfl, hq, rd.flat h.1.1, a, by rw [b]; exact h.2 _ _ (.bl _) hw .refl⟩
  · obtain ⟨p, vs, rfl, hq, rp⟩ := seq_ok (K := X.K) hw re rfl
    obtain ⟨a, b⟩ := Reps.any rd h.1.1 rp h.1.2
    exact op_in_seq pins s σ H _ _ v u Q I rx ry ⟨_, _, rfl, hq, rd.flat h.1.1, a, by rw [b]; exact h.2 _ _ (.bl _) hw .refl⟩
  · obtain ⟨p, vs, rfl, hq, rp⟩ := seq_ok (K := X.K) hw re rfl
    obtain ⟨a, b⟩ := Reps.any rd h.1.1 rp h.1.2
    exact op_notIn_seq pins s σ H _ _ v u Q I rx ry ⟨_, _, rfl, hq, rd.flat h.1.1, a, by rw [b]; exact h.2 _ _ (.bl _) hw .refl⟩
  · obtain ⟨ds, e, hf, h⟩ := h
    obtain ⟨p, vs, rfl, hq, rp⟩ := seq_ok (K := X.K) hw re e
    obtain ⟨a, b⟩ := Reps.any rd hf.1 rp hf.2
    exact op_in_seq pins s σ H _ _ v u Q I rx ry ⟨_, _, rfl, hq, rd.flat hf.1, a, by rw [b]; exact h _ _ (.bl _) hw .refl⟩
  · obtain ⟨ds, e, hf, h⟩ := h
    obtain ⟨p, vs, rfl, hq, rp⟩ := seq_ok (K := X.K) hw re e
    obtain ⟨a, b⟩ := Reps.any rd hf.1 rp hf.2
    exact op_notIn_seq pins s σ H _ _ v u Q I rx ry ⟨_, _, rfl, hq, rd.flat hf.1, a, by rw [b]; exact h _ _ (.bl _) hw .refl⟩
  · exact h.elim
theorem Reps.atI {ds : List D} {vs : List V} {i : Int} {d : D} (r : Reps T U W H ds vs) (h : atI ds i = some d) : ∃ v, L2.atI vs i = some v ∧ Rep T U W H d v := by
  unfold L2.atI at h ⊢
  rw [← r.length]
  cases q : ixN ds.length i with
  | none => rw [q] at h; cases h
  | some j =>
    rw [q] at h
    exact r.get h
/-- a subscript, by the rules of the layer -/
theorem op_idx {x y : V} {d e : D} {Q : VK} (rd : Rep T U W H d x) (re : Rep T U W H e y) (hw : RepW T U W H) (h : idxD d e W (Post T U W H Q)) : rIx X.K x y H Q := by
  unfold idxD at h
  split at h
  · cases rd; cases re
    obtain ⟨h1, c, h2, h3⟩ := h
    exact .inr (.inr ⟨_, _, c, rfl, rfl, h1, h2, h3 _ _ (.str _) hw .refl⟩)
  · cases re
    obtain ⟨ds, r, h1, h2, h3⟩ := h
    obtain ⟨p, vs, rfl, hq, rp⟩ := seq_ok (K := X.K) hw rd h1
    obtain ⟨v, h4, h5⟩ := rp.atI h2
    rcases hq with hq | hq
    · exact .inl ⟨_, _, _, v, rfl, rfl, hq, h4, h3 _ _ h5 hw .refl⟩
    · exact .inr (.inl ⟨_, _, _, v, rfl, rfl, hq, h4, h3 _ _ h5 hw .refl⟩)
  · exact h.elim
theorem op_truth {x : V} {d : D} {Q : Bool → Hp → Prop} (rd : Rep T U W H d x) (h : onT d W fun b W' => ∀ H', RepW T U W' H' → Ext W H W' H' → Q b H') (hw : RepW T U W H) : ∃ k, TruV X.K x H k ∧ Q k H := by
  obtain ⟨b, e, h⟩ := h
  refine ⟨b, ?_, h H hw .refl⟩
  cases rd with
  | non => exact (Option.some.inj e).symm
  | bl _ => exact (Option.some.inj e).symm
  | int _ => exact (Option.some.inj e).symm
  | lst n h r =>
    refine .inl ⟨_, SqL.of h, ?_⟩
    rw [← Option.some.inj e]
    cases r <;> rfl
  | tup n h r =>
    refine .inr (.inl ⟨_, SqT.of h, ?_⟩)
    rw [← Option.some.inj e]
    cases r <;> rfl
  | str _ => cases e
  | ptr _ => cases e
  | scr _ _ _ => cases e
  | obj _ _ _ _ => cases e
theorem Reps.one {d : D} {vs : List V} (r : Reps T U W H [d] vs) : ∃ v, vs = [v] ∧ Rep T U W H d v := by
  rcases r with _ | ⟨r, _ | _⟩
  exact ⟨_, rfl, r⟩
theorem Reps.two {d e : D} {vs : List V} (r : Reps T U W H [d, e] vs) : ∃ v u, vs = [v, u] ∧ Rep T U W H d v ∧ Rep T U W H e u := by
  rcases r with _ | ⟨r, _ | ⟨r', _ | _⟩⟩
  exact ⟨_, _, rfl, r, r'⟩
theorem lis_ok5 {K : PySem.W.Frag} {d : D} {x : V} {ds : List D} (hw : RepW T U W H) (r : Rep T U W H d x) (e : lisOf W d = some ds) : ∃ p vs, x = .ref p ∧ SqL K H p vs ∧ Reps T U W H ds vs := by
  cases r with
  | lst n h r => cases e; exact ⟨_, _, rfl, SqL.of h, r⟩
  | scr ns n h => cases e; exact ⟨_, _, rfl, .inl (.inr ⟨_, h⟩), Reps.ints ns⟩
  | ptr a =>
    have e : (match W a with | some (.lst ds) => some ds | _ => none) = some ds := e
    cases q : W a with
    | none => rw [q] at e; cases e
    | some m =>
      rw [q] at e
      cases m with
      | ins C fs => cases e
      | lst es =>
        cases e
        obtain ⟨vs, h1, h2⟩ := cellOf5 hw q
        exact ⟨_, _, rfl, SqL.of h1, h2⟩
  | non => cases e
  | bl _ => cases e
  | int _ => cases e
  | str _ => cases e
  | tup _ _ _ => cases e
  | obj _ _ _ _ => cases e
theorem Reps.of_bls : ∀ {bs : List Bool} {vs : List V}, Reps T U W H (bs.map D.bl) vs → vs = bs.map V.bl
  | [], _, h => by cases h; rfl
  | n :: ns, _, h => by
    rcases h with _ | ⟨r, t⟩
    cases r
    rw [Reps.of_bls t]
    rfl
theorem lis_ints {K : PySem.W.Frag} {d : D} {x : V} {ns : List Int} (hw : RepW T U W H) (r : Rep T U W H d x) (e : lisOf W d = some (ns.map .int)) : ∃ p, x = .ref p ∧ SqL K H p (ns.map V.int) := by
  obtain ⟨p, vs, rfl, hq, rs⟩ := lis_ok5 (K := K) hw r e
  rw [Reps.of_ints rs] at hq
  exact ⟨p, rfl, hq⟩
theorem seq_ints {K : PySem.W.Frag} {d : D} {x : V} {ns : List Int} (hw : RepW T U W H) (r : Rep T U W H d x) (e : seqOf W d = some (ns.map .int)) : (∃ p, x = .ref p ∧ SqL K H p (ns.map V.int)) ∨ ∃ p, x = .ref p ∧ SqT K H p (ns.map V.int) := by
  cases d with
  | tup ds =>
    cases r with
    | tup n h rs =>
      cases e
      rw [Reps.of_ints rs] at h
      exact .inr ⟨_, rfl, .inl (.inl h)⟩
  | lst ds => exact .inl (lis_ints hw r e)
  | scr ms => exact .inl (lis_ints hw r e)
  | ptr a => exact .inl (lis_ints hw r e)
  | non => cases e
  | bl _ => cases e
  | int _ => cases e
  | str _ => cases e
  | obj _ _ => cases e
  | exn _ _ => cases e
theorem lis_bls {K : PySem.W.Frag} {d : D} {x : V} {bs : List Bool} (hw : RepW T U W H) (r : Rep T U W H d x) (e : lisOf W d = some (bs.map .bl)) : ∃ p, x = .ref p ∧ SqL K H p (bs.map V.bl) := by
  obtain ⟨p, vs, rfl, hq, rs⟩ := lis_ok5 (K := K) hw r e
  rw [Reps.of_bls rs] at hq
  exact ⟨p, rfl, hq⟩
/-- a built-in function's call on values -/
def Blt.val : Blt → Value
  | .len => .builtin "len" | .abs => .builtin "abs" | .min2 => .builtin "min" | .max2 => .builtin "max" | .int => .type "int" | .list => .type "list" | .tuple => .type "tuple"
  | .str => .type "str" | .bool => .type "bool" | .sum => .builtin "sum" | .max1 => .builtin "max" | .min1 => .builtin "min" | .all => .builtin "all" | .any => .builtin "any" | .sorted => .builtin "sorted"
def Blt.name : Blt → Str
  | .len => "len" | .abs => "abs" | .min2 => "min" | .max2 => "max" | .int => "int" | .list => "list" | .tuple => "tuple" | .str => "str" | .bool => "bool" | .sum => "sum" | .max1 => "max" | .min1 => "min" | .all => "all" | .any => "any" | .sorted => "sorted"
/-- done in an except suite too -/
def Blt.hot : Blt → Bool
  | .min2 => false | .max2 => false | .sum => false | .max1 => false | .min1 => false | .all => false | .any => false | .sorted => false | _ => true
theorem op_blt (b : Blt) (own : Bool) (hc : X.calm = true ∨ b.hot = true) : ∀ (pins : List (Addr × Obj)) (s : Shared) (σ : St) (H : Hp) (W : Om) (xs : List V) (us : List Value) (ds : List D) (Q : VK), Inv X pins σ H s → Vals xs us → Reps T U W H ds xs → RepW T U W H →
    bltD b own ds W (Post T U W H Q) → wpAny (model X.prog X.w) X.A (PySem.call b.val us) (EP X pins σ Q) X.xe s := by
  intro pins s σ H W xs us ds Q I rv rd hw h
  unfold bltD at h
  split at h
  · obtain ⟨v, rfl, r⟩ := rd.one
    cases r
    exact call_len_str pins s σ H _ us Q I rv ⟨_, rfl, h.1, h.2 _ _ (.int _) hw .refl⟩
  · obtain ⟨v, rfl, r⟩ := rd.one
    obtain ⟨es, e, h⟩ := h
    obtain ⟨p, vs, rfl, hq, rp⟩ := seq_ok (K := X.K) hw r e
    exact call_len_seq pins s σ H _ us Q I rv ⟨_, _, rfl, hq, by rw [← rp.length]; exact h _ _ (.int _) hw .refl⟩
  · obtain ⟨v, rfl, r⟩ := rd.one
    cases r
    exact call_abs pins s σ H _ us Q I rv ⟨_, rfl, h _ _ (.int _) hw .refl⟩
  · obtain ⟨v, w, rfl, r, r'⟩ := rd.two
    cases r; cases r'
    exact call_min2 (hc.elim id fun z => by cases z) pins s σ H _ us Q I rv ⟨_, _, rfl, h _ _ (.int _) hw .refl⟩
  · obtain ⟨v, w, rfl, r, r'⟩ := rd.two
    cases r; cases r'
    exact call_max2 (hc.elim id fun z => by cases z) pins s σ H _ us Q I rv ⟨_, _, rfl, h _ _ (.int _) hw .refl⟩
  · obtain ⟨v, rfl, r⟩ := rd.one
    cases r
    exact call_int1 pins s σ H _ us Q I rv (.inl ⟨_, rfl, h _ _ (.int _) hw .refl⟩)
  · obtain ⟨v, rfl, r⟩ := rd.one
    cases r
    exact call_int1 pins s σ H _ us Q I rv (.inr ⟨_, rfl, h _ _ (.int _) hw .refl⟩)
  · obtain ⟨v, rfl, r⟩ := rd.one
    obtain ⟨es, e, h⟩ := h
    obtain ⟨p, vs, rfl, hq, rp⟩ := seq_ok (K := X.K) hw r e
    exact call_list_of pins s σ H _ us Q I rv ⟨_, _, rfl, hq, fun l hl => mkL_ok hw rp h l hl⟩
  · obtain ⟨v, rfl, r⟩ := rd.one
    obtain ⟨es, e, h⟩ := h
    obtain ⟨p, vs, rfl, hq, rp⟩ := seq_ok2 (K := X.K) hw r e
    refine call_tuple_of pins s σ H _ us Q I rv ⟨p, vs, rfl, ?_⟩
    rcases hq with hq | ⟨hq, ht⟩
    · exact .inl ⟨hq, fun l hl => tup_ok hw rp h l hl⟩
    · exact .inr ⟨hq, h _ _ ht hw .refl⟩
  · obtain ⟨v, rfl, r⟩ := rd.one
    cases r
    exact call_str_int pins s σ H _ us Q I rv ⟨_, rfl, h.1, h.2 _ _ (.str _) hw .refl⟩
  · obtain ⟨v, rfl, r⟩ := rd.one
    cases r
    exact call_bool1 pins s σ H _ us Q I rv (.inr ⟨_, rfl, h _ _ (.bl _) hw .refl⟩)
  · obtain ⟨v, rfl, r⟩ := rd.one
    cases r
    exact call_bool1 pins s σ H _ us Q I rv (.inl ⟨_, rfl, h _ _ (.bl _) hw .refl⟩)
  · obtain ⟨v, rfl, r⟩ := rd.one
    obtain ⟨ns, e, h⟩ := h
    rcases seq_ints (K := X.K) hw r e with ⟨p, rfl, hq⟩ | ⟨p, rfl, hq⟩
    · exact cr_sum (hc.elim id fun z => by cases z) pins s σ H _ us Q I rv ⟨p, ns, rfl, hq, h _ _ (.int _) hw .refl⟩
    · exact cr_sumT (hc.elim id fun z => by cases z) pins s σ H _ us Q I rv ⟨p, ns, rfl, hq, h _ _ (.int _) hw .refl⟩
  · obtain ⟨v, rfl, r⟩ := rd.one
    obtain ⟨ns, e, hl, h⟩ := h
    obtain ⟨p, rfl, hq⟩ := lis_ints (K := X.K) hw r e
    exact cr_max (hc.elim id fun z => by cases z) pins s σ H _ us Q I rv ⟨p, ns, rfl, hq, hl, fun m hm hk => h m hm hk _ _ (.int _) hw .refl⟩
  · obtain ⟨v, rfl, r⟩ := rd.one
    obtain ⟨ns, e, hl, h⟩ := h
    obtain ⟨p, rfl, hq⟩ := lis_ints (K := X.K) hw r e
    exact cr_min (hc.elim id fun z => by cases z) pins s σ H _ us Q I rv ⟨p, ns, rfl, hq, hl, fun m hm hk => h m hm hk _ _ (.int _) hw .refl⟩
  · obtain ⟨v, rfl, r⟩ := rd.one
    obtain ⟨bs, e, h⟩ := h
    obtain ⟨p, rfl, hq⟩ := lis_bls (K := X.K) hw r e
    exact cr_all (hc.elim id fun z => by cases z) pins s σ H _ us Q I rv ⟨p, bs, rfl, hq, h _ _ (.bl _) hw .refl⟩
  · obtain ⟨v, rfl, r⟩ := rd.one
    obtain ⟨bs, e, h⟩ := h
    obtain ⟨p, rfl, hq⟩ := lis_bls (K := X.K) hw r e
    exact cr_any (hc.elim id fun z => by cases z) pins s σ H _ us Q I rv ⟨p, bs, rfl, hq, h _ _ (.bl _) hw .refl⟩
  · obtain ⟨v, rfl, r⟩ := rd.one
    obtain ⟨ns, e, h⟩ := h
    obtain ⟨p, rfl, hq⟩ := lis_ints (K := X.K) hw r e
    exact cr_sortedI pins s σ H _ us Q I rv ⟨p, ns, rfl, hq, fun ns' l hp hs hl => mkL_ok hw (Reps.ints ns') (h ns' hp hs) l hl⟩
  · exact h.elim
end
end Tw
set_option maxHeartbeats 4000000
namespace Tw
open PySem PySem.Spec L2
open PyProof.Rows (b2i)
def nmB (N : List Str) (i : Nat) (x : Str) : Bool := match N[i]? with
  | some y => decide (y = x)
  | none => false
def visB (sc : Scope) (x : Str) : Bool := match sc.names.lookup x with
  | some .local => true
  | some .cell => true
  | some .free => true
  | _ => false
def locB (sc : Scope) (x : Str) : Bool := match sc.names.lookup x with
  | some .local => true
  | _ => false
def glB (sc : Scope) (x : Str) : Bool := match sc.names.lookup x with
  | some .globalImplicit => true
  | _ => false
/-- not one of the names that the model treats alone -/
def oddB (x : Str) : Bool := x == ("__debug__" : Str) || x == ("__classdict__" : Str) || x == ("__name__" : Str)
def gloB (sc : Scope) (x y : Str) : Bool := decide (x = y) && glB sc x && !oddB x
def isTupE : Expr → Bool
  | .Tuple .. => true
  | _ => false
def isStar : Expr → Bool
  | .Starred .. => true
  | _ => false
def isSet : Expr → Bool
  | .Set .. => true
  | _ => false
def isSlice : Expr → Bool
  | .Slice .. => true
  | .Tuple .. => true
  | .UnaryOp .. => false
  | _ => false
def opB : BOp → Operator → Bool
  | .shl, .LShift => true | .shr, .RShift => true | .band, .BitAnd => true
  | .add, .Add => true | .sub, .Sub => true | .mul, .Mult => true | .fdiv, .FloorDiv => true | .mod, .Mod => true | .pow, .Pow => true
  | _, _ => false
def cmpB : COp → CmpOp → Bool
  | .lt, .Lt => true | .le, .LtE => true | .gt, .Gt => true | .ge, .GtE => true | .eq, .Eq => true | .ne, .NotEq => true | .is, .Is => true | .isnot, .IsNot => true
  | .mem, .In => true | .nomem, .NotIn => true
  | _, _ => false
theorem opB_eq {o : BOp} {p : Operator} (h : opB o p = true) : p = o.op := by cases o <;> cases p <;> first | rfl | cases h
theorem cmpB_eq {o : COp} {p : CmpOp} (h : cmpB o p = true) : p = o.op := by cases o <;> cases p <;> first | rfl | cases h
def tyNames : List String := ["int", "bool", "str", "list", "tuple"]
def tyB (n : String) (x : Str) : Bool := tyNames.contains n && decide (x = Str.ofString n)
def Mt.name : Mt → Str
  | .append => "append" | .pop => "pop" | .reverse => "reverse" | .insert => "insert" | .clear => "clear" | .extend => "extend"
/-- a name: not a call that hides super() -/
def noCall : Expr → Bool
  | .Call (.Name x _) [] [] _ => x != "super"
  | _ => true
def blkB (N : List Str) (sc scope : Scope) (own : List (Str × Nat)) : Bool := blkC N sc scope own
/-- the targets of a comprehension: local names of its block -/
def Tg.slots : Tg → List Nat
  | .name i => [i]
  | .tup is => is
def Tg.own (N : List Str) (t : Tg) : List (Str × Nat) := t.slots.filterMap fun i => (N[i]?).map (·, i)
def locsB (N : List Str) (sc : Scope) : List Nat → List Expr → Bool
  | [], ts => match ts with
    | [] => true
    | _ => false
  | i :: is, ts => match ts with
    | .Name x _ :: r => nmB N i x && locB sc x && locsB N sc is r
    | _ => false
def tgB (N : List Str) (sc : Scope) : Tg → Expr → Bool
  | .name i, p => match p with
    | .Name x _ => nmB N i x && locB sc x
    | _ => false
  | .tup is, p => match p with
    | .Tuple ts _ _ => locsB N sc is ts
    | _ => false
/-- an operator's method -/
def dunB (o : BOp) : Str := match o with
  | .add => "__add__" | .sub => "__sub__" | .mul => "__mul__" | .fdiv => "__floordiv__" | .mod => "__mod__" | .pow => "__pow__" | .shl => "__lshift__" | .shr => "__rshift__" | .band => "__and__"
/-- where a text stands: no exception is handled; the slot of the caught exception -/
structure Md where
  calm : Bool
  ei : Option Nat
  /-- at the def's own level (not within a comprehension) -/
  top : Bool
/-- within a comprehension -/
def Md.blk (cm : Md) : Md := { cm with top := false }
section
variable (T : Ts)
mutual
def chkE (cm : Md) (N : List Str) (sc : Scope) : E → Expr → Bool
  | .var i, p => match p with
    | .Name x _ => nmB N i x && visB sc x && !oddB x && decide (cm.ei ≠ some i)
    | _ => false
  | .int i, p => match p with
    | .Constant (.int j) _ _ => decide (j = i)
    | _ => false
  | .str x, p => match p with
    | .Constant (.str y) _ _ => decide (y = x)
    | _ => false
  | .bl b, p => match p with
    | .Constant (.bool c) _ _ => c == b
    | _ => false
  | .non, p => match p with
    | .Constant .none _ _ => true
    | _ => false
  | .gint g i, p => match p with
    | .Name x _ => gloB sc x (T.gn g) && decide (T.cI g = some i)
    | _ => false
  | .gstr g y, p => match p with
    | .Name x _ => gloB sc x (T.gn g) && decide (T.cS g = some y)
    | _ => false
  | .bin o _ a b, p => match p with
    | .BinOp pa op pb _ => opB o op && chkE cm N sc a pa && chkE cm N sc b pb
    | _ => false
  | .neg a, p => match p with
    | .UnaryOp .USub pa _ => chkE cm N sc a pa
    | _ => false
  | .cmp o a b, p => match p with
    | .Compare pa [op] [pb] _ => cmpB o op && !isSet pb && chkE cm N sc a pa && chkE cm N sc b pb
    | _ => false
  | .chain o q a b c, p => match p with
    | .Compare pa [op, oq] [pb, pc] _ => cmpB o op && cmpB q oq && !isSet pb && !isSet pc && chkE cm N sc a pa && chkE cm N sc b pb && chkE cm N sc c pc
    | _ => false
  | .and a b, p => match p with
    | .BoolOp .And (pa :: r) pos => chkE cm N sc a pa && (match r with
      | [] => false
      | [pb] => chkE cm N sc b pb
      | _ => chkE cm N sc b (.BoolOp .And r pos))
    | _ => false
  | .or a b, p => match p with
    | .BoolOp .Or (pa :: r) pos => chkE cm N sc a pa && (match r with
      | [] => false
      | [pb] => chkE cm N sc b pb
      | _ => chkE cm N sc b (.BoolOp .Or r pos))
    | _ => false
  | .not a, p => match p with
    | .UnaryOp .Not pa _ => chkE cm N sc a pa
    | _ => false
  | .ite c a b, p => match p with
    | .IfExp pc pa pb _ => chkE cm N sc c pc && chkE cm N sc a pa && chkE cm N sc b pb
    | _ => false
  | .lst _ es, p => match p with
    | .List ps _ => chkEs cm N sc es ps
    | _ => false
  | .tup es, p => match p with
    | .Tuple ps _ _ => chkEs cm N sc es ps
    | _ => false
  | .idx a i, p => match p with
    | .Subscript pa pi _ => !isSlice pi && chkE cm N sc a pa && chkE cm N sc i pi
    | _ => false
  | .rev _ a, p => match p with
    | .Subscript pa (.Slice none none (some (.UnaryOp .USub (.Constant (.int 1) _ _) _)) _) _ => chkE cm N sc a pa
    | _ => false
  | .slice _ a lo hi, p => match p with
    | .Subscript pa (.Slice pl ph none _) _ => chkE cm N sc a pa && chkO cm N sc lo pl && chkO cm N sc hi ph
    | _ => false
  | .call f es, p => match p with
    | .Call (.Name x _) ps [] _ => gloB sc x (T.gn f) && T.isF f && T.isG f && decide (T.ar f = es.length) && (cm.calm || T.isH f) && chkEs cm N sc es ps
    | _ => false
  | .callK f es ks pm, p => match p with
    | .Call (.Name x _) ps kws _ => cm.calm && gloB sc x (T.gn f) && T.isF f && T.isG f && kwB (T.pn f) es.length (kws.filterMap (·.arg)) pm && chkEs cm N sc es ps && chkKs cm N sc ks kws
    | _ => false
  | .blt b _ es, p => match p with
    | .Call (.Name x _) ps [] _ => (cm.calm || b.hot) && gloB sc x b.name && decide (0 < es.length) && chkEs cm N sc es ps
    | _ => false
  | .isi e c, p => match p with
    | .Call (.Name x _) [pe, .Name y _] [] _ => gloB sc x "isinstance" && chkE cm N sc e pe && (match c with
      | .ty n => tyB n y && glB sc y && !oddB y
      | .own D => gloB sc y (T.cn D) && T.isC D && T.isO D && decide (cm.calm = true))
    | _ => false
  | .own2 (.bin o m) a b, p => match p with
    | .BinOp pa op pb _ => cm.calm && opB o op && decide (T.fnm m = dunB o) && chkE cm N sc a pa && chkE cm N sc b pb
    | _ => false
  | .own2 (.eq m) a b, p => match p with
    | .Compare pa [.Eq] [pb] _ => cm.calm && !isSet pb && decide (T.fnm m = "__eq__") && chkE cm N sc a pa && chkE cm N sc b pb
    | _ => false
  | .own2 (.mem neg m) a b, p => match p with
    | .Compare pa [op] [pb] _ => cm.calm && (match op with
      | .In => !neg
      | .NotIn => neg
      | _ => false) && !isSet pb && decide (T.fnm m = "__contains__") && chkE cm N sc a pa && chkE cm N sc b pb
    | _ => false
  | .own1 (.neg m) a, p => match p with
    | .UnaryOp .USub pa _ => cm.calm && decide (T.fnm m = "__neg__") && chkE cm N sc a pa
    | _ => false
  | .own1 (.prop m) a, p => match p with
    | .Attribute po x _ => cm.calm && decide (x = T.fnm m) && decide (m < T.nf) && noCall po && chkE cm N sc a po
    | _ => false
  | .umethK c m o es ks pm, p => match p with
    | .Call (.Attribute po x apos) ps kws pos => cm.calm && decide (x = T.fnm m) && decide (m < T.nf) && (apos.endLine == pos.line) && noCall po && decide (es.length + kws.length < 29) && (match T.mth c m with
      | some f => kwB (T.pn f) (es.length + 1) (kws.filterMap (·.arg)) pm
      | none => false) && chkE cm N sc o po && chkEs cm N sc es ps && chkKs cm N sc ks kws
    | _ => false
  | .mkK C _ es ks pm, p => match p with
    | .Call (.Name x _) ps kws _ => cm.calm && gloB sc x (T.cn C) && T.isC C && (match T.ini C with
      | some f => kwB (T.pn f) (es.length + 1) (kws.filterMap (·.arg)) pm
      | none => false) && chkEs cm N sc es ps && chkKs cm N sc ks kws
    | _ => false
  | .lrng _ es, p => match p with
    | .Call (.Name x _) [.Call (.Name y _) ps [] _] [] _ => cm.calm && gloB sc x "list" && gloB sc y "range" && (decide (es.length = 1) || decide (es.length = 2)) && chkEs cm N sc es ps
    | _ => false
  | .meth m o es, p => match p with
    | .Call (.Attribute po x apos) ps [] pos => decide (x = m.name) && (apos.endLine == pos.line) && noCall po && chkE cm N sc o po && chkEs cm N sc es ps && (match m with
      | .append => decide (es.length = 1)
      | .insert => decide (es.length = 2)
      | .pop => decide (es.length = 0) || decide (es.length = 1)
      | .extend => false
      | .reverse => decide (es.length = 0)
      | .clear => decide (es.length = 0))
    | _ => false
  | .umeth m o es, p => match p with
    | .Call (.Attribute po x apos) ps [] pos => cm.calm && decide (x = T.fnm m) && decide (m < T.nf) && (apos.endLine == pos.line) && noCall po && decide (es.length < 29) && chkE cm N sc o po && chkEs cm N sc es ps
    | _ => false
  | .attr o f, p => match p with
    | .Attribute po x _ => decide (x = T.fnm f) && decide (f < T.nf) && noCall po && chkE cm N sc o po
    | _ => false
  | .mk C _ es, p => match p with
    | .Call (.Name x _) ps [] _ => cm.calm && gloB sc x (T.cn C) && T.isC C && chkEs cm N sc es ps
    | _ => false
  | .exI i c, p => match p with
    | .Call (.Name x _) [.Name z _, .Name y _] [] _ => gloB sc x "isinstance" && nmB N i z && visB sc z && !oddB z && decide (cm.ei = some i) && (match c with
      | .ty n => decide (n = "ValueError") && decide (y = Str.ofString n) && glB sc y && !oddB y
      | .own D => gloB sc y (T.cn D) && T.isC D && T.isX D)
    | _ => false
  | .exA i f, p => match p with
    | .Attribute (.Name z _) x _ => nmB N i z && visB sc z && !oddB z && decide (cm.ei = some i) && decide (x = T.fnm f) && decide (f < T.nf)
    | _ => false
  | .exC f i, p => match p with
    | .Call (.Name x _) [.Name z _] [] _ => gloB sc x (T.gn f) && T.isE f && T.isG f && nmB N i z && visB sc z && !oddB z && decide (cm.ei = some i) && !cm.calm
    | _ => false
  | .compR _ t elt it cond, p => match p with
    | .ListComp pe [⟨tg, pi, ifs, a⟩] scope _ => cm.calm && cm.top && decide (a = 0) && !isSet pi && blkB N sc scope (t.own N) && tgB N (relS scope sc) t tg &&
        chkI cm N sc tg it pi && chkE cm.blk N (relS scope sc) elt pe && chkC cm.blk N (relS scope sc) cond ifs
    | _ => false
  | .comp2 _ i j elt it it1, p => match p with
    | .ListComp pe [⟨.Name y yp, pi, ifs, a⟩, ⟨.Name z zp, pi1, ifs1, a1⟩] scope _ => cm.calm && decide (a = 0) && decide (a1 = 0) && ifs.isEmpty && ifs1.isEmpty && !isSet pi && !isSet pi1 && nmB N i y && nmB N j z && decide (i ≠ j) &&
        locB (relS scope sc) y && locB (relS scope sc) z && blkB N sc scope [(y, i), (z, j)] && chkI cm N sc (.Name y yp) it pi && chkI cm.blk N (relS scope sc) (.Name z zp) it1 pi1 && chkE cm.blk N (relS scope sc) elt pe
    | _ => false
  | .compH _ h i elt e cond, p => match p with
    | .ListComp pe [⟨.Name y yp, pi, ifs, a⟩] scope _ => !cm.calm && decide (a = 0) && !isSet pi && (decide (cm.ei = none) || decide (cm.ei = some h)) && nmB N i y && locB (relS scope sc) y && blkB N sc scope [(y, i)] &&
        chkE cm N sc e pi && chkE ⟨false, none, false⟩ N (relS scope sc) elt pe && chkC ⟨false, none, false⟩ N (relS scope sc) cond ifs
    | _ => false
  | .rmeth _ _ _, _ => false
  | .lzip es, p => match p with
    | .Call (.Name x _) [.Call (.Name y _) ps [] _] [] _ => cm.calm && gloB sc x "list" && gloB sc y "zip" && decide (es.length = 2) && chkEs cm N sc es ps
    | _ => false
  | .comp _ i elt it cond, p => match p with
    | .ListComp pe [⟨.Name y yp, pi, ifs, a⟩] scope _ => cm.calm && decide (a = 0) && !isSet pi && nmB N i y && locB (relS scope sc) y && blkB N sc scope [(y, i)] &&
        chkI cm N sc (.Name y yp) it pi && chkE cm.blk N (relS scope sc) elt pe && chkC cm.blk N (relS scope sc) cond ifs
    | _ => false
def chkEs (cm : Md) (N : List Str) (sc : Scope) : List E → List Expr → Bool
  | [], ps => match ps with
    | [] => true
    | _ => false
  | e :: es, ps => match ps with
    | p :: r => !isStar p && chkE cm N sc e p && chkEs cm N sc es r
    | _ => false
def chkKs (cm : Md) (N : List Str) (sc : Scope) : List E → List Keyword → Bool
  | [], ks => match ks with
    | [] => true
    | _ => false
  | e :: es, ks => match ks with
    | k :: r => k.arg.isSome && chkE cm N sc e k.value && chkKs cm N sc es r
    | _ => false
def chkO (cm : Md) (N : List Str) (sc : Scope) : Option E → Option Expr → Bool
  | none, p => match p with
    | none => true
    | _ => false
  | some e, p => match p with
    | some q => chkE cm N sc e q
    | _ => false
def chkC (cm : Md) (N : List Str) (sc : Scope) : Option E → List Expr → Bool
  | none, p => match p with
    | [] => true
    | _ => false
  | some e, p => match p with
    | [q] => chkE cm N sc e q
    | _ => false
def chkI (cm : Md) (N : List Str) (sc : Scope) (tg : Expr) : I → Expr → Bool
  | .itf f es, p => match p with
    | .Call (.Name x _) ps [] _ => gloB sc x f.name && decide (es.length = f.ar) && chkEs cm N sc es ps && (decide (f = .rev) || isTupE tg)
    | _ => false
  | .seq e, p => chkE cm N sc e p
  | .rng es, p => match p with
    | .Call (.Name x _) ps [] _ => gloB sc x "range" && (decide (es.length = 1) || decide (es.length = 2) || decide (es.length = 3)) && chkEs cm N sc es ps
    | _ => false
end
end
end Tw
set_option maxHeartbeats 4000000
namespace PySem
namespace XSup
open PySem PySem.Spec
def iS (x : Str) : Scope := { kind := .function, names := [(PySem.Str.ofString "self", .local), (x, .local), (PySem.Str.ofString "__class__", .free), (PySem.Str.ofString "super", .globalImplicit)], isGenerator := false, isCoroutine := false, more := [] }
end XSup
end PySem
namespace Tw
open PySem PySem.Spec L2
def bltNames : List Str := ["len", "abs", "min", "max", "int", "list", "tuple", "str", "bool", "sum", "isinstance", "range", "ValueError", "enumerate", "zip", "reversed", "all", "any", "sorted"]
def isComp : Expr → Bool
  | .ListComp .. => true
  | .SetComp .. => true
  | .DictComp .. => true
  | _ => false
def isTup : Expr → Bool
  | .Tuple .. => true
  | _ => false
def lcB (sc : Scope) (x : Str) : Bool := match sc.names.lookup x with
  | some .local => true
  | some .cell => true
  | _ => false
section
variable (T : Ts) (N : List Str) (sc : Scope)
def namesB : List Nat → List Expr → Bool
  | [], ts => match ts with
    | [] => true
    | _ => false
  | i :: is, ts => match ts with
    | .Name x _ :: r => nmB N i x && lcB sc x && namesB is r
    | _ => false
def chkT (cm : Md) : Tg → Expr → Bool
  | .name i, p => match p with
    | .Name x _ => nmB N i x && lcB sc x && decide (cm.ei ≠ some i)
    | _ => false
  | .tup is, p => match p with
    | .Tuple ts _ _ => cm.calm && namesB N sc is ts
    | _ => false
/-- name = [..], stored within the comprehension's frame -/
def swapB (z : Str) (pz : Pos) (pos : Pos) (scope : Scope) : Bool :=
  (pz.line == pos.line) && !(scope.names.any fun (n, k) => n == z && (k == .local || k == .cell)) && locB sc z
mutual
def chkS (cm : Md) : S → Stmt → Bool
  | .expr e, q => match q with
    | .Expr p _ => !isComp p && chkE T cm N sc e p
    | _ => false
  | .asg t e, q => match q with
    | .Assign [.Name z pz] p pos => (match t with
      | .name j => nmB N j z && lcB sc z && decide (cm.ei ≠ some j) && chkE T cm N sc e p && (!isComp p || (match e, p with
        | .comp _ _ _ _ _, .ListComp _ _ scope cpos => swapB sc z pz cpos scope
        | .compR _ _ _ _ _, .ListComp _ _ scope cpos => swapB sc z pz cpos scope
        | .comp2 _ _ _ _ _ _, .ListComp _ _ scope cpos => swapB sc z pz cpos scope
        | _, _ => false))
      | _ => false)
    | .Assign [.Tuple ts j pt] p pos => (match t with
      | .tup is => chkT N sc cm t (.Tuple ts j pt) && !isComp p && !isTup p && chkE T cm N sc e p
      | _ => false)
    | _ => false
  | .aug sub j e, q => match q with
    | .AugAssign (.Name z _) op p _ => nmB N j z && lcB sc z && decide (cm.ei ≠ some j) && (if sub = true then opB .sub op else opB .add op) && chkE T cm N sc e p
    | _ => false
  | .ret e, q => match q with
    | .Return (some p) _ => chkE T cm N sc e p
    | _ => false
  | .retN, q => match q with
    | .Return none _ => true
    | _ => false
  | .pass, q => match q with
    | .Pass _ => true
    | _ => false
  | .brk, q => match q with
    | .Break _ => true
    | _ => false
  | .cont, q => match q with
    | .Continue _ => true
    | _ => false
  | .ite c a b, q => match q with
    | .If pc qa qb _ => chkE T cm N sc c pc && chkSs cm a qa && chkSs cm b qb
    | _ => false
  | .whl c b, q => match q with
    | .While pc qb [] _ => chkE T cm N sc c pc && chkSs cm b qb
    | _ => false
  | .for t it b, q => match q with
    | .For tg pi qb [] _ => (cm.calm || (match it with | .rng [_] => true | _ => false)) && !isSet pi && chkT N sc cm t tg && chkI T cm N sc tg it pi && chkSs cm b qb
    | _ => false
  | .fld o f e, q => match q with
    | .Assign [.Attribute po x _] p _ => decide (x = T.fnm f) && decide (f < T.nf) && !isComp p && chkE T cm N sc o po && chkE T cm N sc e p
    | _ => false
  | .sub o i e, q => match q with
    | .Assign [.Subscript po pi _] p _ => !isComp p && !isSlice pi && chkE T cm N sc o po && chkE T cm N sc i pi && chkE T cm N sc e p
    | _ => false
  | .raise C es, q => match q with
    | .Raise (some (.Call (.Name x _) ps [] _)) none _ => cm.calm && gloB sc x (T.cn C) && T.isC C && T.isX C && (match T.xin C with | some fs => decide (fs.length = es.length) && decide (fs.length ≤ 1) | none => false) && chkEs T cm N sc es ps
    | _ => false
  | .frz _, _ => false
  | .try b hs, q => match q with
    | .Try qb hds [] [] _ => cm.calm && !hds.isEmpty && chkSs cm b qb && chkH hs hds
    | _ => false
def chkH : Hs → List ExceptHandler → Bool
  | .nil, hds => match hds with
    | [] => true
    | _ => false
  | .cons cs sl b r, hds => match hds with
    | .ExceptHandler (some (.Name x _)) on (b₀ :: suite) _ :: rest => (match cs with | [D] => gloB sc x (T.cn D) && T.isC D && T.isX D | _ => false) &&
        (match sl, on with | none, none => true | some i, some n => nmB N i n && locB sc n | _, _ => false) && chkSs ⟨false, sl, false⟩ b (b₀ :: suite) && chkH r rest
    | _ => false
def chkSs (cm : Md) : List S → List Stmt → Bool
  | [], qs => match qs with
    | [] => true
    | _ => false
  | s :: ss, qs => match s with
    | .frz i => decide (cm.ei ≠ some i) && chkSs cm ss qs
    | s => match qs with
      | q :: r => chkS cm s q && chkSs cm ss r
      | _ => false
end
end
/-- the scope's facts, by computation -/
def scB (N ps : List Str) (sc : Scope) : Bool :=
  (match sc.kind with | .function => true | _ => false) && !sc.isCoroutine && !sc.isGenerator && decide N.Nodup && decide (N.take ps.length = ps) &&
    (ps.all fun x => lcB sc x) && (sc.names.all fun y => match y.2 with | .free => false | _ => true)
/-- the small text of a def -/
structure Df where
  N : List Str
  ps : List Str
  body : List S
def veBase : List Value := [.type "ValueError", .type "Exception", .type "BaseException", .type "object"]
/-- a law's tables: the small texts of its defs -/
structure Lw where
  /-- defs: name of the text (a global, or a class and its method), small text, at the top, for suites -/
  fs : List (Str × Option Str × Df × Bool)
  /-- classes -/
  cs : List Str
  /-- attributes, methods by name -/
  fn : List Str
  nd : fn.Nodup
  /-- class, method, def; class, attribute; class, __init__ -/
  ms : List (Nat × Nat × Nat)
  fl : List (Nat × Nat)
  is : List (Nat × Nat)
  /-- exception classes: attributes (in __init__'s order) -/
  xs : List (Nat × List Nat)
  /-- which is a subclass of which -/
  sb : List (Nat × Nat)
  /-- whole numbers, texts of the top -/
  ci : List (Str × Int)
  ct : List (Str × Str)
  /-- properties: class, name, getter; own classes; instances of one are instances of the other; whose == is asked first -/
  ps : List (Nat × Nat × Nat) := []
  os : List Nat := []
  kn : List (Nat × Nat) := []
  no : List (Nat × Nat) := []
  /-- defs that take the caught exception -/
  xf : List Nat := []
def lk2 (l : List (Nat × Nat × Nat)) (a b : Nat) : Option Nat := match l with
  | [] => none
  | (x, y, z) :: r => if x = a ∧ y = b then some z else lk2 r a b
def Lw.fnm (L : Lw) (f : Nat) : Str := L.fn.getD f ""
def Lw.ts (L : Lw) : Ts where
  prp := lk2 L.ps
  isO := fun C => L.os.contains C
  kin := fun C D => L.kn.contains (C, D)
  nof := fun C D => L.no.contains (C, D)
  mth := lk2 L.ms
  ini := fun C => L.is.lookup C
  xin := fun C => L.xs.lookup C
  fld := fun C f => L.fl.contains (C, f)
  isX := fun C => (L.xs.lookup C).isSome
  sub := fun C D => L.sb.contains (C, D)
  xat := fun C f => match L.xs.lookup C with
    | some l => l.contains f
    | none => false
  gn := fun g => if g < L.fs.length then (L.fs.getD g ("", none, ⟨[], [], []⟩, false)).1 else if g < L.fs.length + L.ci.length then (L.ci.getD (g - L.fs.length) ("", 0)).1 else (L.ct.getD (g - L.fs.length - L.ci.length) ("", "")).1
  cn := fun C => L.cs.getD C ""
  fnm := L.fnm
  nf := L.fn.length
  inj := fun a b ha hb e => by
    unfold Lw.fnm at e
    have ea : L.fn.getD a "" = L.fn[a] := by rw [List.getD_eq_getElem?_getD, List.getElem?_eq_getElem ha]; rfl
    have eb : L.fn.getD b "" = L.fn[b] := by rw [List.getD_eq_getElem?_getD, List.getElem?_eq_getElem hb]; rfl
    rw [ea, eb] at e
    exact (List.getElem_inj L.nd).mp e
  ar := fun f => (L.fs.getD f ("", none, ⟨[], [], []⟩, false)).2.2.1.ps.length
  pn := fun f => (L.fs.getD f ("", none, ⟨[], [], []⟩, false)).2.2.1.ps
  isF := fun f => decide (f < L.fs.length) && !L.xf.contains f
  isE := fun f => decide (f < L.fs.length) && L.xf.contains f
  isG := fun f => decide (f < L.fs.length) && (L.fs.getD f ("", none, ⟨[], [], []⟩, false)).2.1.isNone
  isH := fun f => (L.fs.getD f ("", none, ⟨[], [], []⟩, false)).2.2.2
  isC := fun C => decide (C < L.cs.length)
  cI := fun g => if L.fs.length ≤ g then (L.ci[g - L.fs.length]?).map (·.2) else none
  cS := fun g => if L.fs.length + L.ci.length ≤ g then (L.ct[g - L.fs.length - L.ci.length]?).map (·.2) else none
def Lw.df (L : Lw) (f : Nat) : Df := (L.fs.getD f ("", none, ⟨[], [], []⟩, false)).2.2.1
def Lw.at_ (L : Lw) (f : Nat) : Str × Option Str := ((L.fs.getD f ("", none, ⟨[], [], []⟩, false)).1, (L.fs.getD f ("", none, ⟨[], [], []⟩, false)).2.1)
/-- a property object; its getter -/
def prO (K : PySem.W.Frag) (C : Addr) (m : Str) : Addr := match PySem.W.findIn K (.ref C) m with
  | some (some (.ref p)) => p
  | _ => 0
def prG (K : PySem.W.Frag) (C : Addr) (m : Str) : Addr := match PySem.W.recIn K (prO K C m) "property" with
  | some (.ref g :: _) => g
  | _ => 0
def Lw.fa (L : Lw) (K : PySem.W.Frag) (f : Nat) : Addr := match L.ps.find? (fun t => t.2.2 == f) with
  | some (C, m, _) => prG K (He.ga K (L.ts.cn C)) (L.fnm m)
  | none => He.fAd K (L.at_ f)
def Lw.tb (L : Lw) (K : PySem.W.Frag) : Tb := { L.ts with cad := fun C => He.ga K (L.ts.cn C), fad := L.fa K }
/-- a def's text -/
def dfB (T : Ts) (K : PySem.W.Frag) (fa : Addr) (hot : Bool) (d : Df) : Bool := PySem.W.keepIn K (.ref fa) && (match K.lookup fa with
  | some ⟨_, _, .func fd, _⟩ => decide (fd.globals = mainGlobals) && fd.closure.isEmpty && decide (fd.builtins = builtinsNs) && PySem.W.codeIn K fd.code fd.qualname && (match fd.defaults with | .none => true | _ => false) &&
      plainB d.ps fd.params && scB d.N d.ps fd.scope && (match fd.body with
        | .stmts body => chkSs T d.N fd.scope ⟨true, none, true⟩ d.body body && (!hot || chkSs T d.N fd.scope ⟨false, none, false⟩ d.body body)
        | _ => false)
  | _ => false)
/-- .. of one that takes the exception -/
def dfXB (T : Ts) (K : PySem.W.Frag) (fa : Addr) (d : Df) : Bool := PySem.W.keepIn K (.ref fa) && decide (d.ps.length = 1) && (match K.lookup fa with
  | some ⟨_, _, .func fd, _⟩ => decide (fd.globals = mainGlobals) && fd.closure.isEmpty && decide (fd.builtins = builtinsNs) && PySem.W.codeIn K fd.code fd.qualname && (match fd.defaults with | .none => true | _ => false) &&
      plainB d.ps fd.params && scB d.N d.ps fd.scope && (match fd.body with
        | .stmts body => chkSs T d.N fd.scope ⟨false, some 0, false⟩ d.body body
        | _ => false)
  | _ => false)
section
open He (eqO eqO_ok)
/-- the class of an exception with __init__ -/
def xcB (K : PySem.W.Frag) (C : Addr) : Bool := match K.lookup C with
  | some ⟨.type "type", _, .cls cd, sl⟩ => (match cd.mro, sl.toList with
    | .ref C' :: bm, [_, _, _, _, some (.builtin n), _] => C' == C && n == "ValueError.__new__" && !cd.hasDel && cd.hasDict && PySem.HandSPX.refsVE bm
    | _, _ => false)
  | _ => false
/-- its __init__, part by part -/
def isNm (z : Str) : Expr → Bool
  | .Name s _ => decide (s = z)
  | _ => false
def xaB (x : Str) (a : Arguments) : Bool := (match a.args with
  | [s, y] => decide (s.arg = "self") && s.annotation.isNone && decide (y.arg = x) && y.annotation.isNone
  | _ => false) && a.posonlyargs.isEmpty && a.vararg.isNone && a.kwonlyargs.isEmpty && a.kw_defaults.isEmpty && a.kwarg.isNone && a.defaults.isEmpty
def xl0 : Expr → Bool
  | .Call g [] [] _ => isNm "super" g
  | _ => false
def xat1 : Expr → Option Pos
  | .Attribute o i a2 => if xl0 o && decide (i = "__init__") then some a2 else none
  | _ => none
def xcn : Expr → Bool
  | .Constant (.str _) _ _ => true
  | _ => false
def xc1 : Expr → Bool
  | .Call g [c] [] a4 => xcn c && (match xat1 g with | some a2 => a2.endLine == a4.line | none => false)
  | _ => false
def xe1 : Stmt → Bool
  | .Expr e _ => xc1 e
  | _ => false
def xt2 (f : Str) : Expr → Bool
  | .Attribute o g _ => isNm "self" o && decide (g = f)
  | _ => false
def xe2 (x f : Str) : Stmt → Bool
  | .Assign [t] v _ => xt2 f t && isNm x v
  | _ => false
def xsc (x : Str) (sc : Scope) : Bool := (match sc.kind with | .function => true | _ => false) && decide (sc.names = (PySem.XSup.iS x).names) && !sc.isGenerator && !sc.isCoroutine && sc.more.isEmpty
def xbB (x f : Str) : FuncBody → Bool
  | .stmts [s1, s2] => xe1 s1 && xe2 x f s2
  | _ => false
def xcdB (prog : Program) (K : PySem.W.Frag) (qual : Str) : Value → Bool
  | .ref cda => PySem.W.codeIn K (.ref cda) qual && (match K.lookup cda with
    | some ⟨_, _, .fields vs, _⟩ => (match (vs[2]? : Option Value) with | some (.str file _) => (prog.main.file : Str) == file | _ => false)
    | _ => false)
  | _ => false
def xclB (K : PySem.W.Frag) (C : Addr) : List (Str × Addr) → Bool
  | [(c0, cc)] => decide (c0 = "__class__") && (match K.lookup cc with
    | some ⟨_, _, .cell (some (.ref C')), _⟩ => decide (C' = C)
    | _ => false)
  | _ => false
def vnB : Value → Bool
  | .none => true
  | _ => false
def xiB (prog : Program) (K : PySem.W.Frag) (C fI : Addr) (x f : Str) : Bool := match K.lookup fI with
  | some ⟨_, _, .func fd, _⟩ => decide (fd.name = "__init__") && xaB x fd.params && xbB x f fd.body && xsc x fd.scope && decide (fd.globals = mainGlobals) && xclB K C fd.closure && vnB fd.defaults && vnB fd.kwdefaults && decide (fd.builtins = builtinsNs) && xcdB prog K fd.qualname fd.code
  | _ => false
def xtB (prog : Program) (K : PySem.W.Frag) (C : Addr) (x f : Str) : Bool :=
  xcB K C && eqO (PySem.W.findIn K (.ref C) "__setattr__") (some (some (.builtin "object.__setattr__"))) && eqO (PySem.W.findIn K (.ref C) f) (some none) && eqO (PySem.W.findIn K (.ref C) "__init__") (some (some (.ref (He.ma K C "__init__")))) &&
    decide (PySem.W.typeIn K (.ref (He.ma K C "__init__")) = some (.type "function")) && eqO (PySem.W.ks_superIn K C C "__init__") (some (some (.builtin "ValueError.__init__"))) && decide (PySem.W.subIn K (.ref C) (.type "ValueError") = some true) &&
    decide (PySem.W.mroIn K C (.ref C) = some true) && eqO (PySem.W.nsIn K cStatics "thirdparty.any") (some none) && eqO (PySem.W.nsIn K mainGlobals "super") (some none) && xiB prog K C (He.ma K C "__init__") x f && !(prog.main.scope.names.lookup ("super" : Str)).isSome &&
    decide (x ≠ "self") && !(x == (PySem.Str.ofString "__debug__")) && decide ((PySem.XSup.iS x).names.lookup (PySem.Str.ofString "__class__") = some .free) && decide ((PySem.XSup.iS x).names.lookup (PySem.Str.ofString "super") = some .globalImplicit)
end
section
open He (eqO eqO_ok Fa)
/-- a caught exception's class -/
def xeB (K : PySem.W.Frag) (D : Addr) : Bool :=
  eqO (PySem.W.findIn K (.ref D) "__getattribute__") (some (some (.builtin "BaseException.__getattribute__"))) && eqO (PySem.W.findIn K (.ref D) "__getattr__") (some none) && decide (PySem.W.subIn K (.ref D) (.type "BaseException") = some true) && PySem.W.hasDictIn K D &&
    eqO (PySem.W.findIn K (.ref D) "__class__") (some (some (.builtin "object.__class__"))) && eqO (PySem.W.specialIn K (.builtin "object.__class__") "__get__") (some (some (.builtin "getset_descriptor.__get__"))) && decide (PySem.W.takesIn K (.builtin "object.__class__") = some true) &&
    decide (PySem.W.mroIn K D (.type "object") = some true) && decide (PySem.W.kitOne K (.ref D) (.type "ValueError") = some true) && decide (PySem.W.typeIn K (.ref D) = some (.type "type"))
def allN (n : Nat) (p : Nat → Bool) : Bool := (List.range n).all p
variable (L : Lw)
def fsB (K : PySem.W.Frag) : Bool := allN L.fs.length fun f => (if L.xf.contains f then dfXB L.ts K (L.fa K f) (L.df f) else dfB L.ts K (L.fa K f) (L.ts.isH f) (L.df f)) && (!L.ts.isG f || ((Fa.glo (L.ts.gn f)).ok K && decide (L.fa K f = He.ga K (L.ts.gn f))))
def clB (K : PySem.W.Frag) : Bool := allN L.cs.length fun C => PySem.W.keepIn K (.ref (He.ga K (L.ts.cn C))) && (Fa.glo (L.ts.cn C)).ok K
def msB (K : PySem.W.Frag) : Bool := L.ms.all fun (C, m, f) => L.ts.isF f && (Fa.cls (L.ts.cn C)).ok K && (Fa.meth (L.ts.cn C) (L.fnm m)).ok K && decide (L.fa K f = He.ma K (He.ga K (L.ts.cn C)) (L.fnm m))
def flB (K : PySem.W.Frag) : Bool := L.fl.all fun (C, f) => (Fa.cls (L.ts.cn C)).ok K && (Fa.noat (L.ts.cn C) (L.fnm f)).ok K
def isB (K : PySem.W.Frag) : Bool := L.is.all fun (C, f) => L.ts.isF f && (Fa.mkr (L.ts.cn C)).ok K && decide (L.fa K f = He.ma K (He.ga K (L.ts.cn C)) "__init__") && (Fa.glo (L.ts.cn C)).ok K
def coB (K : PySem.W.Frag) : Bool := (L.ci.all fun (x, i) => (Fa.int x i).ok K) && (L.ct.all fun (x, z) => (Fa.str x z).ok K) && bltNames.all fun x => (Fa.free x).ok K
def exT (prog : Program) (pn : Nat → Str) (K : PySem.W.Frag) (C : Nat) : List Nat → Bool
  | [] => PySem.W.excIn K (He.ga K (L.ts.cn C)) veBase "ValueError.__new__"
  | [f] => xtB prog K (He.ga K (L.ts.cn C)) (pn C) (L.fnm f)
  | _ => true
/-- the exceptions: parameter names of their __init__ by class -/
def exB (prog : Program) (pn : Nat → Str) (K : PySem.W.Frag) : Bool := (L.xs.all fun (C, fs) => xeB K (He.ga K (L.ts.cn C)) && (L.xs.all fun (D, _) => decide (PySem.W.kitOne K (.ref (He.ga K (L.ts.cn C))) (.ref (He.ga K (L.ts.cn D))) = some (L.ts.sub C D)) &&
    decide (PySem.W.exmOne K (.ref (He.ga K (L.ts.cn C))) (.ref (He.ga K (L.ts.cn D))) = some (L.ts.sub C D))) && (fs.all fun f => decide (f < L.fn.length) && eqO (PySem.W.findIn K (.ref (He.ga K (L.ts.cn C))) (L.fnm f)) (some none)) && exT L prog pn K C fs)
/-- an own class -/
def owB1 (K : PySem.W.Frag) (C : Nat) : Bool :=
  decide (C < L.cs.length) && (Fa.cls (L.ts.cn C)).ok K && PySem.W.selfFirst K (He.ga K (L.ts.cn C)) && eqO (PySem.W.findIn K (.ref (He.ga K (L.ts.cn C))) "__class__") (some (some (.builtin "object.__class__"))) && eqO (PySem.W.specialIn K (.builtin "object.__class__") "__get__") (some (some (.builtin "getset_descriptor.__get__"))) &&
    decide (PySem.W.takesIn K (.builtin "object.__class__") = some true) && decide (PySem.W.mroIn K (He.ga K (L.ts.cn C)) (.type "object") = some true) && decide (PySem.W.kitOne K (.ref (He.ga K (L.ts.cn C))) (.ref (He.ga K (L.ts.cn C))) = some true) &&
    (["NoneType", "bool", "int", "str", "list", "tuple"].all fun n => PySem.W.notFirst K (He.ga K (L.ts.cn C)) (.type n) && decide (PySem.W.kitOne K (.type n) (.ref (He.ga K (L.ts.cn C))) = some false) && decide (PySem.W.kitOne K (.ref (He.ga K (L.ts.cn C))) (.type n) = some false)) &&
    (L.os.all fun D => decide (PySem.W.kitOne K (.ref (He.ga K (L.ts.cn C))) (.ref (He.ga K (L.ts.cn D))) = some (L.ts.kin C D)))
def owB (K : PySem.W.Frag) : Bool := (L.os.all fun C => owB1 L K C) && (L.no.all fun (C, D) => PySem.W.notFirst K (He.ga K (L.ts.cn C)) (.ref (He.ga K (L.ts.cn D)))) &&
  (L.ps.all fun (C, m, f) => L.ts.isF f && (Fa.cls (L.ts.cn C)).ok K && eqO (PySem.W.findIn K (.ref (He.ga K (L.ts.cn C))) (L.fnm m)) (some (some (.ref (prO K (He.ga K (L.ts.cn C)) (L.fnm m))))) && eqO (PySem.W.specialIn K (.ref (prO K (He.ga K (L.ts.cn C)) (L.fnm m))) "__get__") (some (some (.builtin "property.__get__"))) &&
    decide (PySem.W.takesIn K (.ref (prO K (He.ga K (L.ts.cn C)) (L.fnm m))) = some true) && (match PySem.W.recIn K (prO K (He.ga K (L.ts.cn C)) (L.fnm m)) "property" with
      | some (.ref g :: _) => decide (g = L.fa K f)
      | _ => false))
def lwB (prog : Program) (pn : Nat → Str) (K : PySem.W.Frag) : Bool := fsB L K && clB L K && msB L K && flB L K && isB L K && coB L K && exB L prog pn K && owB L K
end
def noLst (K : PySem.W.Frag) : Bool := K.all fun p => !(p.2.cls == .type "list")
def okT (L : Lw) (prog : Program) (pn : Nat → Str) (K : PySem.W.Frag) : Bool := lwB L prog pn K && noLst K
end Tw
set_option maxHeartbeats 0
namespace K14
open PySem PySem.Spec L2 Tw
def L : Lw where
  fs :=
  ("_wall", none, ⟨["k"], ["k"], [.whl (.bl true) [.pass]]⟩, false) ::
  ("is_whole", none, ⟨["value"], ["value"], [.ret (.and (.isi (.var 0) (.ty "int")) (.not (.isi (.var 0) (.ty "bool"))))]⟩, false) ::
  ("has_divisor", none, ⟨["value", "divisor"], ["value"], [.asg (.name 1) (.int 2), .whl (.cmp .le (.bin .mul false (.var 1) (.var 1)) (.var 0)) [.ite (.cmp .eq (.bin .mod false (.var 0) (.var 1)) (.int 0)) [.ret (.bl true)] [], .aug false 1 (.int 1)], .ret (.bl false)]⟩, false) ::
  ("check_prime", none, ⟨["prime"], ["prime"], [.ite (.not (.call 1 [(.var 0)])) [.raise 7 [(.var 0)]] [], .ite (.or (.cmp .lt (.var 0) (.int 2)) (.cmp .gt (.var 0) (.gint 53 101))) [.raise 7 [(.var 0)]] [], .ite (.call 2 [(.var 0)]) [.raise 7 [(.var 0)]] [], .ret (.var 0)]⟩, false) ::
  ("check_number", none, ⟨["prime", "number"], ["prime", "number"], [.ite (.or (.isi (.var 1) (.ty "bool")) (.not (.isi (.var 1) (.ty "int")))) [.raise 8 [(.var 1)]] [], .ite (.or (.cmp .lt (.var 1) (.int 0)) (.cmp .ge (.var 1) (.var 0))) [.raise 8 [(.var 1)]] []]⟩, false) ::
  ("check_row", none, ⟨["prime", "numbers", "most", "number"], ["prime", "numbers", "most"], [.ite (.cmp .gt (.blt .len false [(.var 1)]) (.var 2)) [.raise 5 []] [], .for (.name 3) (.seq (.var 1)) [.expr (.call 4 [(.var 0), (.var 3)])]]⟩, false) ::
  ("check_range", none, ⟨["value", "most"], ["value", "most"], [.ite (.or (.isi (.var 0) (.ty "bool")) (.not (.isi (.var 0) (.ty "int")))) [.raise 4 []] [], .ite (.or (.cmp .lt (.var 0) (.int 0)) (.cmp .gt (.var 0) (.var 1))) [.raise 4 []] []]⟩, false) ::
  ("check_field", none, ⟨["prime", "other"], ["prime", "other"], [.ite (.cmp .ne (.attr (.var 1) 2) (.var 0)) [.raise 1 []] []]⟩, false) ::
  ("trimmed", none, ⟨["numbers", "end"], ["numbers"], [.asg (.name 1) (.blt .len false [(.var 0)]), .whl (.and (.cmp .gt (.var 1) (.int 0)) (.cmp .eq (.idx (.var 0) (.bin .sub false (.var 1) (.int 1))) (.int 0))) [.asg (.name 1) (.bin .sub false (.var 1) (.int 1))], .ret (.blt .tuple false [(.slice false (.var 0) none (some (.var 1)))])]⟩, false) ::
  ("multiplied", none, ⟨["prime", "left", "right", "row", "power", "low", "x", "high", "y"], ["prime", "left", "right"], [.asg (.name 3) (.comp true 4 (.int 0) (.rng [(.bin .sub false (.bin .add false (.blt .len false [(.var 1)]) (.blt .len false [(.var 2)])) (.int 1))]) none), .for (.tup [5, 6]) (.itf .enum [(.var 1)]) [.for (.tup [7, 8]) (.itf .enum [(.var 2)]) [.sub (.var 3) (.bin .add false (.var 5) (.var 7)) (.bin .mod false (.bin .add false (.idx (.var 3) (.bin .add false (.var 5) (.var 7))) (.bin .mul false (.var 6) (.var 8))) (.var 0))]], .frz 3, .ret (.var 3)]⟩, false) ::
  ("all_rows", none, ⟨["prime", "many", "total", "spare", "rows", "row", "number"], ["prime", "many"], [.expr (.call 3 [(.var 0)]), .expr (.call 6 [(.var 1), (.gint 56 128)]), .asg (.name 2) (.int 1), .for (.name 3) (.rng [(.var 1)]) [.asg (.name 2) (.bin .mul false (.var 2) (.var 0)), .ite (.cmp .gt (.var 2) (.gint 55 1024)) [.raise 5 []] []], .asg (.name 4) (.lst true [(.tup [])]), .for (.name 3) (.rng [(.var 1)]) [.asg (.name 4) (.comp2 true 5 6 (.bin .add false (.var 5) (.tup [(.var 6)])) (.seq (.var 4)) (.rng [(.var 0)]))], .ret (.var 4)]⟩, false) ::
  ("all_polys", none, ⟨["prime", "degree", "row"], ["prime", "degree"], [.expr (.call 3 [(.var 0)]), .expr (.call 6 [(.var 1), (.gint 57 127)]), .ret (.comp true 2 (.mk 9 false [(.var 0), (.var 2)]) (.seq (.call 10 [(.var 0), (.bin .add false (.var 1) (.int 1))])) none)]⟩, false) ::
  ("_law_mix", none, ⟨["_law_number", "_law_turn", "_law_one", "_law_two", "_law_three"], ["_law_number", "_law_turn"], [.asg (.name 2) (.bin .mod false (.blt .int false [(.bin .add false (.bin .add false (.bin .mul false (.var 0) (.int 48271)) (.bin .mul false (.var 1) (.int 69621))) (.int 12820163))]) (.int 2147483647)), .asg (.name 3) (.bin .mod false (.blt .int false [(.bin .add false (.bin .add false (.bin .mul false (.var 2) (.var 2)) (.bin .mul false (.var 1) (.int 16807))) (.int 40692))]) (.int 2147483629)), .asg (.name 4) (.bin .mod false (.blt .int false [(.bin .add false (.bin .mul false (.var 3) (.bin .add false (.bin .fdiv false (.var 3) (.int 65536)) (.int 40014))) (.var 2))]) (.int 1999999973)), .ret (.bin .fdiv false (.var 4) (.int 128))]⟩, false) ::
  ("_law_store", none, ⟨["_law_script", "_law_seed", "_law_cell"], ["_law_script"], [.asg (.name 1) (.int 1), .for (.name 2) (.seq (.var 0)) [.asg (.name 1) (.bin .mod false (.blt .int false [(.bin .add false (.bin .add false (.bin .mul false (.var 1) (.int 31)) (.bin .mod false (.blt .int false [(.var 2)]) (.int 1000000007))) (.int 17))]) (.int 998244353))], .ret (.lst true [(.blt .list false [(.var 0)]), (.int 0), (.int 0), (.int 0), (.var 1)])]⟩, false) ::
  ("_law_take", none, ⟨["_law_store_here", "_law_many", "_law_cell", "_law_rest"], ["_law_store_here", "_law_many"], [.asg (.name 1) (.blt .max2 false [(.int 1), (.var 1)]), .sub (.var 0) (.int 3) (.bin .add false (.blt .int false [(.idx (.var 0) (.int 3))]) (.int 1)), .ite (.and (.cmp .eq (.idx (.var 0) (.int 2)) (.int 0)) (.cmp .lt (.idx (.var 0) (.int 1)) (.blt .len false [(.idx (.var 0) (.int 0))]))) [.asg (.name 2) (.blt .int false [(.idx (.idx (.var 0) (.int 0)) (.idx (.var 0) (.int 1)))]), .sub (.var 0) (.int 1) (.bin .add false (.idx (.var 0) (.int 1)) (.int 1)), .ite (.cmp .lt (.blt .abs false [(.var 2)]) (.bin .pow false (.int 10) (.int 18))) [.ret (.bin .mod false (.blt .int false [(.call 12 [(.var 2), (.idx (.var 0) (.int 3))])]) (.var 1))] [], .sub (.var 0) (.int 2) (.bin .mod false (.blt .abs false [(.var 2)]) (.bin .pow false (.bin .pow false (.int 10) (.int 60)) (.int 20)))] [], .ite (.cmp .gt (.idx (.var 0) (.int 2)) (.int 0)) [.asg (.name 3) (.blt .int false [(.idx (.var 0) (.int 2))]), .sub (.var 0) (.int 2) (.bin .fdiv false (.var 3) (.var 1)), .ret (.bin .mod false (.var 3) (.var 1))] [], .ret (.bin .mod false (.blt .int false [(.call 12 [(.idx (.var 0) (.int 4)), (.idx (.var 0) (.int 3))])]) (.var 1))]⟩, false) ::
  ("_law_edge", none, ⟨["_law_store_here", "_law_low", "_law_high", "_law_many", "_law_way"], ["_law_store_here", "_law_low", "_law_high"], [.asg (.name 3) (.bin .add false (.blt .max2 false [(.int 0), (.bin .sub false (.var 2) (.var 1))]) (.int 1)), .asg (.name 4) (.call 14 [(.var 0), (.int 9)]), .ite (.cmp .eq (.var 4) (.int 0)) [.ret (.var 1)] [], .ite (.cmp .eq (.var 4) (.int 1)) [.ret (.bin .sub false (.bin .add false (.var 1) (.var 3)) (.int 1))] [], .ite (.cmp .eq (.var 4) (.int 2)) [.ret (.bin .add false (.var 1) (.blt .min2 false [(.bin .sub false (.var 3) (.int 1)), (.int 1)]))] [], .ret (.bin .add false (.var 1) (.call 14 [(.var 0), (.var 3)]))]⟩, false) ::
  ("_law_chance", none, ⟨["_law_store_here", "_law_part"], ["_law_store_here", "_law_part"], [.ret (.cmp .eq (.call 14 [(.var 0), (.var 1)]) (.bin .sub false (.blt .max2 false [(.int 1), (.var 1)]) (.int 1)))]⟩, false) ::
  ("_law_pick", none, ⟨["_law_store_here", "_law_row"], ["_law_store_here", "_law_row"], [.ite (.cmp .eq (.blt .len false [(.var 1)]) (.int 0)) [.ret .non] [], .ret (.idx (.var 1) (.call 14 [(.var 0), (.blt .len false [(.var 1)])]))]⟩, false) ::
  ("_law_other_kind", none, ⟨["_law_store_here"], ["_law_store_here"], [.ret (.call 17 [(.var 0), (.lst false [(.bl true), (.bl false), .non, (.str ""), (.str "0"), (.str "1"), (.str "a"), (.tup []), (.tup [(.int 0)])])])]⟩, false) ::
  ("_law_bad_integer", none, ⟨["_law_store_here", "_law_low", "_law_high", "_law_way"], ["_law_store_here", "_law_low", "_law_high"], [.asg (.name 3) (.call 14 [(.var 0), (.int 6)]), .ite (.cmp .eq (.var 3) (.int 0)) [.ret (.bin .sub false (.var 1) (.int 1))] [], .ite (.cmp .eq (.var 3) (.int 1)) [.ret (.bin .add false (.var 2) (.int 1))] [], .ite (.cmp .eq (.var 3) (.int 2)) [.ret (.bin .sub false (.bin .sub false (.var 1) (.int 2)) (.call 14 [(.var 0), (.int 1000)]))] [], .ite (.cmp .eq (.var 3) (.int 3)) [.ret (.bin .add false (.bin .add false (.var 2) (.int 2)) (.call 14 [(.var 0), (.int 1000)]))] [], .ite (.cmp .eq (.var 3) (.int 4)) [.ret (.call 17 [(.var 0), (.lst false [(.bin .add false (.var 2) (.bin .pow false (.int 10) (.int 40))), (.bin .sub false (.var 1) (.bin .pow false (.int 10) (.int 40)))])])] [], .ret (.call 18 [(.var 0)])]⟩, false) ::
  ("_law_primes", none, ⟨["_law_limit", "_law_primes_here", "_law_number", "_law_divided", "_law_prime_here"], ["_law_limit"], [.asg (.name 1) (.lst true []), .for (.name 2) (.rng [(.int 2), (.bin .add false (.var 0) (.int 1))]) [.asg (.name 3) (.bl false), .for (.name 4) (.seq (.var 1)) [.ite (.cmp .gt (.bin .mul false (.var 4) (.var 4)) (.var 2)) [.brk] [], .ite (.cmp .eq (.bin .mod false (.var 2) (.var 4)) (.int 0)) [.asg (.name 3) (.bl true), .brk] []], .ite (.not (.var 3)) [.expr (.meth .append (.var 1) [(.var 2)])] []], .frz 1, .ret (.var 1)]⟩, false) ::
  ("_law_prime", none, ⟨["_law_store_here", "_law_primes_here"], ["_law_store_here"], [.asg (.name 1) (.call 20 [(.int 101)]), .ret (.idx (.var 1) (.call 15 [(.var 0), (.int 0), (.bin .sub false (.blt .len false [(.var 1)]) (.int 1))]))]⟩, false) ::
  ("_law_power", none, ⟨["_law_base", "_law_many", "_law_number", "_law_k"], ["_law_base", "_law_many"], [.asg (.name 2) (.int 1), .for (.name 3) (.rng [(.var 1)]) [.asg (.name 2) (.bin .mul false (.var 2) (.var 0))], .ret (.var 2)]⟩, false) ::
  ("_law_fit_prime", none, ⟨["_law_store_here", "_law_places", "_law_rows", "_law_fitting", "_law_prime_here"], ["_law_store_here", "_law_places", "_law_rows"], [.asg (.name 3) (.comp false 4 (.var 4) (.seq (.call 20 [(.int 101)])) (some (.cmp .le (.call 22 [(.var 4), (.var 1)]) (.var 2)))), .ite (.cmp .eq (.blt .len false [(.var 3)]) (.int 0)) [.ret (.int 2)] [], .ite (.cmp .gt (.call 14 [(.var 0), (.int 4)]) (.int 0)) [.ret (.idx (.var 3) (.call 14 [(.var 0), (.blt .min2 false [(.int 4), (.blt .len false [(.var 3)])])]))] [], .ret (.idx (.var 3) (.call 14 [(.var 0), (.blt .len false [(.var 3)])]))]⟩, false) ::
  ("_law_bad_prime", none, ⟨["_law_store_here", "_law_way"], ["_law_store_here"], [.asg (.name 1) (.call 14 [(.var 0), (.int 8)]), .ite (.cmp .eq (.var 1) (.int 0)) [.ret (.bin .mul false (.bin .add false (.int 2) (.call 14 [(.var 0), (.int 9)])) (.bin .add false (.int 2) (.call 14 [(.var 0), (.int 9)])))] [], .ite (.cmp .eq (.var 1) (.int 1)) [.ret (.call 14 [(.var 0), (.int 2)])] [], .ite (.cmp .eq (.var 1) (.int 2)) [.ret (.neg (.call 21 [(.var 0)]))] [], .ite (.cmp .eq (.var 1) (.int 3)) [.ret (.bin .add false (.int 102) (.call 14 [(.var 0), (.int 200)]))] [], .ite (.cmp .eq (.var 1) (.int 4)) [.ret (.bin .add false (.bin .pow false (.int 10) (.int 40)) (.call 14 [(.var 0), (.int 1000)]))] [], .ite (.cmp .eq (.var 1) (.int 5)) [.ret (.bin .sub false (.neg (.int 1)) (.bin .mul false (.call 14 [(.var 0), (.int 2)]) (.bin .pow false (.int 10) (.int 40))))] [], .ite (.cmp .eq (.var 1) (.int 6)) [.ret (.bin .mul false (.call 21 [(.var 0)]) (.call 21 [(.var 0)]))] [], .ret (.call 18 [(.var 0)])]⟩, false) ::
  ("_law_same", none, ⟨["_law_actual", "_law_expected", "_law_fitting", "_law_k"], ["_law_actual", "_law_expected"], [.ite (.or (.cmp .is (.var 1) .non) (.cmp .is (.var 0) .non)) [.ret (.and (.cmp .is (.var 1) .non) (.cmp .is (.var 0) .non))] [], .ite (.or (.isi (.var 1) (.ty "bool")) (.isi (.var 0) (.ty "bool"))) [.ret (.and (.isi (.var 1) (.ty "bool")) (.and (.isi (.var 0) (.ty "bool")) (.cmp .eq (.var 0) (.var 1))))] [], .ite (.isi (.var 1) (.ty "int")) [.ret (.and (.isi (.var 0) (.ty "int")) (.cmp .eq (.var 0) (.var 1)))] [], .ite (.isi (.var 1) (.ty "str")) [.ret (.and (.isi (.var 0) (.ty "str")) (.cmp .eq (.var 0) (.var 1)))] [], .ite (.isi (.var 1) (.ty "list")) [.asg (.name 2) (.isi (.var 0) (.ty "list"))] [.asg (.name 2) (.and (.isi (.var 1) (.ty "tuple")) (.isi (.var 0) (.ty "tuple")))], .ite (.or (.not (.var 2)) (.cmp .ne (.blt .len false [(.var 0)]) (.blt .len false [(.var 1)]))) [.ret (.bl false)] [], .for (.name 3) (.rng [(.blt .len false [(.var 1)])]) [.ite (.not (.call 25 [(.idx (.var 0) (.var 3)), (.idx (.var 1) (.var 3))])) [.ret (.bl false)] []], .ret (.bl true)]⟩, true) ::
  ("_law_spoil_list", none, ⟨["_law_row", "_law_item"], ["_law_row"], [.ite (.isi (.var 0) (.ty "list")) [.for (.name 1) (.seq (.var 0)) [.ite (.isi (.var 1) (.ty "list")) [.expr (.meth .append (.var 1) [(.int 0)])] []], .expr (.meth .reverse (.var 0) []), .expr (.meth .append (.var 0) [.non])] []]⟩, false) ::
  ("_law_poly_is", none, ⟨["_law_actual", "_law_prime_here", "_law_row"], ["_law_actual", "_law_prime_here", "_law_row"], [.ite (.not (.isi (.var 0) (.own 9))) [.ret (.bl false)] [], .ret (.and (.call 25 [(.attr (.var 0) 2), (.var 1)]) (.call 25 [(.attr (.var 0) 3), (.call 28 [(.var 2)])]))]⟩, false) ::
  ("_law_trim", none, ⟨["_law_row", "_law_size"], ["_law_row"], [.asg (.name 1) (.blt .len false [(.var 0)]), .whl (.and (.cmp .gt (.var 1) (.int 0)) (.cmp .eq (.idx (.var 0) (.bin .sub false (.var 1) (.int 1))) (.int 0))) [.asg (.name 1) (.bin .sub false (.var 1) (.int 1))], .ret (.blt .tuple false [(.slice false (.var 0) none (some (.var 1)))])]⟩, false) ::
  ("_law_kinds", none, ⟨["_law_e", "_law_pairs", "_law_one"], ["_law_e"], [.asg (.name 1) (.lst false [(.tup [(.str "ValueError"), (.exI 0 (.ty "ValueError"))]), (.tup [(.str "TalkError"), (.exI 0 (.own 0))]), (.tup [(.str "BadText"), (.exI 0 (.own 6))]), (.tup [(.str "NotInField"), (.exI 0 (.own 8))]), (.tup [(.str "NotPrime"), (.exI 0 (.own 7))]), (.tup [(.str "OutOfRange"), (.exI 0 (.own 4))]), (.tup [(.str "Repeated"), (.exI 0 (.own 3))]), (.tup [(.str "TooLarge"), (.exI 0 (.own 5))]), (.tup [(.str "WrongPlaces"), (.exI 0 (.own 2))])]), .ret (.compH false 0 2 (.idx (.var 2) (.int 0)) (.var 1) (some (.idx (.var 2) (.int 1))))]⟩, false) ::
  ("_law_rows_error", none, ⟨["_law_prime_here", "_law_many", "_law_e"], ["_law_prime_here", "_law_many"], [.try [.expr (.call 10 [(.var 0), (.var 1)])] (.cons [7] (some 2) [.ret (.tup [(.exC 29 2), (.exA 2 0)])] (.cons [0] (some 2) [.ret (.tup [(.exC 29 2), .non])] .nil)), .ret .non]⟩, false) ::
  ("_law_polys_error", none, ⟨["_law_prime_here", "_law_degree", "_law_e"], ["_law_prime_here", "_law_degree"], [.try [.expr (.call 11 [(.var 0), (.var 1)])] (.cons [7] (some 2) [.ret (.tup [(.exC 29 2), (.exA 2 0)])] (.cons [0] (some 2) [.ret (.tup [(.exC 29 2), .non])] .nil)), .ret .non]⟩, false) ::
  ("_law_due", none, ⟨["_law_name", "_law_value"], ["_law_name", "_law_value"], [.ret (.tup [(.lst false [(.str "ValueError"), (.str "TalkError"), (.var 0)]), (.var 1)])]⟩, false) ::
  ("_law_figures", none, ⟨["_law_prime_here", "_law_many", "_law_index", "_law_row", "_law_k"], ["_law_prime_here", "_law_many", "_law_index"], [.asg (.name 3) (.bin .mul true (.lst false [(.int 0)]) (.var 1)), .for (.name 4) (.rng [(.var 1)]) [.sub (.var 3) (.bin .sub false (.bin .sub false (.var 1) (.int 1)) (.var 4)) (.bin .mod false (.blt .int false [(.var 2)]) (.var 0)), .asg (.name 2) (.bin .fdiv false (.var 2) (.var 0))], .frz 3, .ret (.var 3)]⟩, false) ::
  ("_law_rows_listed", none, ⟨["_law_actual", "_law_prime_here", "_law_many", "_law_k"], ["_law_actual", "_law_prime_here", "_law_many"], [.ite (.or (.not (.isi (.var 0) (.ty "list"))) (.cmp .ne (.blt .len false [(.var 0)]) (.call 22 [(.var 1), (.var 2)]))) [.ret (.bl false)] [], .for (.name 3) (.rng [(.blt .len false [(.var 0)])]) [.ite (.not (.call 25 [(.idx (.var 0) (.var 3)), (.blt .tuple false [(.call 33 [(.var 1), (.var 2), (.var 3)])])])) [.ret (.bl false)] []], .ret (.bl true)]⟩, false) ::
  ("_law_polys_listed", none, ⟨["_law_actual", "_law_prime_here", "_law_many", "_law_k"], ["_law_actual", "_law_prime_here", "_law_many"], [.ite (.or (.not (.isi (.var 0) (.ty "list"))) (.cmp .ne (.blt .len false [(.var 0)]) (.call 22 [(.var 1), (.var 2)]))) [.ret (.bl false)] [], .for (.name 3) (.rng [(.blt .len false [(.var 0)])]) [.ite (.not (.call 27 [(.idx (.var 0) (.var 3)), (.var 1), (.call 33 [(.var 1), (.var 2), (.var 3)])])) [.ret (.bl false)] []], .ret (.bl true)]⟩, false) ::
  ("_law_refused", none, ⟨["_law_store_here", "_law_prime_here", "_law_many", "_law_wrong", "_law_length", "_law_degree", "_law_size"], ["_law_store_here", "_law_prime_here"], [.asg (.name 2) (.int 0), .whl (.cmp .le (.call 22 [(.var 1), (.var 2)]) (.int 1024)) [.asg (.name 2) (.bin .add false (.var 2) (.int 1))], .asg (.name 3) (.call 24 [(.var 0)]), .asg (.name 4) (.call 19 [(.var 0), (.int 0), (.int 128)]), .asg (.name 5) (.call 19 [(.var 0), (.int 0), (.int 127)]), .for (.name 6) (.seq (.lst false [(.var 2), (.bin .add false (.var 2) (.int 1)), (.int 128)])) [.ite (.not (.call 25 [(.call 30 [(.var 1), (.var 6)]), (.call 32 [(.str "TooLarge"), .non])])) [.ret (.bl false)] [], .ite (.not (.call 25 [(.call 31 [(.var 1), (.bin .sub false (.var 6) (.int 1))]), (.call 32 [(.str "TooLarge"), .non])])) [.ret (.bl false)] []], .for (.name 6) (.seq (.lst false [(.int 0), (.var 2), (.var 4)])) [.ite (.not (.call 25 [(.call 30 [(.var 3), (.var 6)]), (.call 32 [(.str "NotPrime"), (.var 3)])])) [.ret (.bl false)] []], .for (.name 6) (.seq (.lst false [(.int 0), (.bin .sub false (.var 2) (.int 1)), (.var 5)])) [.ite (.not (.call 25 [(.call 31 [(.var 3), (.var 6)]), (.call 32 [(.str "NotPrime"), (.var 3)])])) [.ret (.bl false)] []], .ite (.not (.call 25 [(.call 30 [(.var 1), (.var 4)]), (.call 32 [(.str "OutOfRange"), .non])])) [.ret (.bl false)] [], .ret (.call 25 [(.call 31 [(.var 1), (.var 5)]), (.call 32 [(.str "OutOfRange"), .non])])]⟩, false) ::
  ("law", none, ⟨["_law_script", "_law_store_here", "_law_most", "_law_longest", "_law_at", "_law_many", "_law_prime_here", "_law_size", "_law_two", "_law_rows", "_law_polys"], ["_law_script"], [.asg (.name 1) (.call 13 [(.var 0)]), .asg (.name 2) (.lst true [(.int 243), (.int 243)]), .asg (.name 3) (.lst true [(.int 7), (.int 7)]), .ite (.call 16 [(.var 1), (.int 10)]) [.asg (.name 4) (.call 14 [(.var 1), (.int 2)]), .sub (.var 2) (.var 4) (.int 1024), .sub (.var 3) (.var 4) (.int 10)] [], .asg (.name 5) (.call 15 [(.var 1), (.int 0), (.idx (.var 3) (.int 0))]), .asg (.name 6) (.call 23 [(.var 1), (.var 5), (.idx (.var 2) (.int 0))]), .asg (.name 7) (.call 15 [(.var 1), (.int 1), (.idx (.var 3) (.int 1))]), .asg (.name 8) (.call 23 [(.var 1), (.var 7), (.idx (.var 2) (.int 1))]), .asg (.name 9) (.call 10 [(.var 6), (.var 5)]), .asg (.name 10) (.call 11 [(.var 8), (.bin .sub false (.var 7) (.int 1))]), .ite (.or (.not (.call 34 [(.var 9), (.var 6), (.var 5)])) (.not (.call 35 [(.var 10), (.var 8), (.var 7)]))) [.ret (.bl false)] [], .ite (.not (.call 34 [(.callK 10 [] [(.int 1), (.var 8)] [1, 0]), (.var 8), (.int 1)])) [.ret (.bl false)] [], .ite (.not (.call 35 [(.callK 11 [] [(.int 0), (.var 6)] [1, 0]), (.var 6), (.int 1)])) [.ret (.bl false)] [], .expr (.call 26 [(.var 9)]), .expr (.call 26 [(.var 10)]), .ite (.not (.call 36 [(.var 1), (.call 21 [(.var 1)])])) [.ret (.bl false)] [], .ite (.not (.call 34 [(.call 10 [(.var 6), (.var 5)]), (.var 6), (.var 5)])) [.ret (.bl false)] [], .ret (.call 35 [(.call 11 [(.var 8), (.bin .sub false (.var 7) (.int 1))]), (.var 8), (.var 7)])]⟩, false) ::
  ("Poly", some "__init__", ⟨["self", "prime", "coefficients"], ["self", "prime", "coefficients"], [.fld (.var 0) 2 (.call 3 [(.var 1)]), .expr (.call 5 [(.var 1), (.var 2), (.gint 54 128)]), .fld (.var 0) 3 (.call 8 [(.var 2)])]⟩, false) ::
  ("Poly", some "degree", ⟨["self"], ["self"], [.ret (.blt .max2 false [(.bin .sub false (.blt .len false [(.attr (.var 0) 3)]) (.int 1)), (.int 0)])]⟩, false) ::
  ("Poly", some "__eq__", ⟨["self", "other"], ["self", "other"], [.ret (.and (.isi (.var 1) (.own 9)) (.and (.cmp .eq (.attr (.var 0) 2) (.attr (.var 1) 2)) (.cmp .eq (.attr (.var 0) 3) (.attr (.var 1) 3))))]⟩, false) ::
  ("Poly", some "__add__", ⟨["self", "other", "many", "pairs", "x", "y"], ["self", "other"], [.expr (.call 7 [(.attr (.var 0) 2), (.var 1)]), .asg (.name 2) (.blt .max2 false [(.blt .len false [(.attr (.var 0) 3)]), (.blt .len false [(.attr (.var 1) 3)])]), .asg (.name 3) (.lzip [(.umeth 8 (.var 0) [(.var 2)]), (.umeth 8 (.var 1) [(.var 2)])]), .ret (.mk 9 false [(.attr (.var 0) 2), (.compR false (.tup [4, 5]) (.bin .mod false (.bin .add false (.var 4) (.var 5)) (.attr (.var 0) 2)) (.seq (.var 3)) none)])]⟩, false) ::
  ("Poly", some "__sub__", ⟨["self", "other", "many", "pairs", "x", "y"], ["self", "other"], [.expr (.call 7 [(.attr (.var 0) 2), (.var 1)]), .asg (.name 2) (.blt .max2 false [(.blt .len false [(.attr (.var 0) 3)]), (.blt .len false [(.attr (.var 1) 3)])]), .asg (.name 3) (.lzip [(.umeth 8 (.var 0) [(.var 2)]), (.umeth 8 (.var 1) [(.var 2)])]), .ret (.mk 9 false [(.attr (.var 0) 2), (.compR false (.tup [4, 5]) (.bin .mod false (.bin .sub false (.var 4) (.var 5)) (.attr (.var 0) 2)) (.seq (.var 3)) none)])]⟩, false) ::
  ("Poly", some "__mul__", ⟨["self", "other"], ["self", "other"], [.expr (.call 7 [(.attr (.var 0) 2), (.var 1)]), .ite (.or (.umeth 7 (.var 0) []) (.umeth 7 (.var 1) [])) [.ret (.mk 9 false [(.attr (.var 0) 2), (.lst false [])])] [], .ite (.cmp .gt (.bin .sub false (.bin .add false (.blt .len false [(.attr (.var 0) 3)]) (.blt .len false [(.attr (.var 1) 3)])) (.int 1)) (.gint 54 128)) [.raise 5 []] [], .ret (.mk 9 false [(.attr (.var 0) 2), (.call 9 [(.attr (.var 0) 2), (.attr (.var 0) 3), (.attr (.var 1) 3)])])]⟩, false) ::
  ("Poly", some "__neg__", ⟨["self", "number"], ["self"], [.ret (.mk 9 false [(.attr (.var 0) 2), (.comp false 1 (.bin .mod false (.bin .sub false (.attr (.var 0) 2) (.var 1)) (.attr (.var 0) 2)) (.seq (.attr (.var 0) 3)) none)])]⟩, false) ::
  ("Poly", some "at", ⟨["self", "number", "total", "coefficient"], ["self", "number"], [.expr (.call 4 [(.attr (.var 0) 2), (.var 1)]), .asg (.name 2) (.int 0), .for (.name 3) (.seq (.rev false (.attr (.var 0) 3))) [.asg (.name 2) (.bin .mod false (.bin .add false (.bin .mul false (.var 2) (.var 1)) (.var 3)) (.attr (.var 0) 2))], .ret (.var 2)]⟩, false) ::
  ("Poly", some "ends", ⟨["self"], ["self"], [.expr (.call 0 [(.int 0)])]⟩, false) ::
  ("Poly", some "is_zero", ⟨["self"], ["self"], [.ret (.cmp .eq (.blt .len false [(.attr (.var 0) 3)]) (.int 0))]⟩, false) ::
  ("Poly", some "fits", ⟨["self", "bound"], ["self", "bound"], [.expr (.call 0 [(.int 1)])]⟩, false) ::
  ("Poly", some "scale", ⟨["self", "number"], ["self", "number"], [.expr (.call 0 [(.int 2)])]⟩, false) ::
  ("Poly", some "divide", ⟨["self", "other"], ["self", "other"], [.expr (.call 0 [(.int 3)])]⟩, false) ::
  ("Poly", some "reduced", ⟨["self"], ["self"], [.expr (.call 0 [(.int 4)])]⟩, false) ::
  ("Poly", some "padded", ⟨["self", "many"], ["self", "many"], [.expr (.call 6 [(.var 1), (.gint 54 128)]), .ite (.cmp .lt (.var 1) (.blt .len false [(.attr (.var 0) 3)])) [.raise 4 []] [], .ret (.bin .add false (.blt .list false [(.attr (.var 0) 3)]) (.bin .mul false (.lst false [(.int 0)]) (.bin .sub false (.var 1) (.blt .len false [(.attr (.var 0) 3)]))))]⟩, false) :: []
  cs := ["TalkError", "OtherField", "WrongPlaces", "Repeated", "OutOfRange", "TooLarge", "BadText", "NotPrime", "NotInField", "Poly"]
  fn := ["value", "join", "prime", "coefficients", "__init__", "reverse", "append", "is_zero", "padded", "degree", "__eq__", "__add__", "__sub__", "__mul__", "__neg__", "at", "ends", "fits", "scale", "divide", "reduced"]
  nd := by decide +kernel
  ms := [(9, 10, 40), (9, 11, 41), (9, 12, 42), (9, 13, 43), (9, 14, 44), (9, 15, 45), (9, 16, 46), (9, 7, 47), (9, 17, 48), (9, 18, 49), (9, 19, 50), (9, 20, 51), (9, 8, 52)]
  fl := [(9, 2), (9, 3)]
  is := [(9, 38)]
  ps := [(9, 9, 39)]
  os := [9]
  kn := [(9, 9)]
  no := [(9, 9)]
  xf := [29]
  xs := [(0, []), (1, []), (2, []), (3, []), (4, []), (5, []), (6, []), (7, [0]), (8, [0])]
  sb := [(0, 0), (1, 1), (1, 0), (2, 2), (2, 0), (3, 3), (3, 0), (4, 4), (4, 0), (5, 5), (5, 0), (6, 6), (6, 0), (7, 7), (7, 0), (8, 8), (8, 0)]
  ci := [("MAX_PRIME", 101), ("MAX_COEFFICIENTS", 128), ("MOST_ROWS", 1024), ("MOST_NUMBERS", 128), ("MOST_DEGREE", 127)]
  ct := []
def pn : Nat → Str
  | 0 => ""
  | 1 => ""
  | 2 => ""
  | 3 => ""
  | 4 => ""
  | 5 => ""
  | 6 => ""
  | 7 => "value"
  | 8 => "value"
  | _ => ""
end K14
set_option maxHeartbeats 0
namespace K14
open PySem PySem.W PySem.Calls PyProof.Rows
open_top hd for PySem.Challenge.rw_sumtalk_k14_all_rows_and_polys_are_liste
theorem top (hc : ∀ (says : World → Heap → Prop) (q : Program) (loose : List Str) (XP : (Str → Option Value) → Heap → Prop) (d : DefRec),
    (∀ w h, says w h → ∃ K : Frag, K.In h ∧ Tw.okT L (OpenLaw.prog PySem.Challenge.rw_sumtalk_k14_all_rows_and_polys_are_liste) pn K = true) → d.params.defaults = [] → L.at_ 37 = (d.name, none) →
    WalkO q loose XP says (OpenLaw.row PySem.Challenge.rw_sumtalk_k14_all_rows_and_polys_are_liste).toRowW d [] (fun f vs => PySem.call f vs)) : PySem.Challenge.rw_sumtalk_k14_all_rows_and_polys_are_liste.Holds :=
  hd (hc _ _ _ _ _ (fun w h Y => ⟨_, kIn_of Y, by kernel_rfl⟩) (by kernel_rfl) (by kernel_rfl))
end K14
set_option maxHeartbeats 4000000
namespace Tw
open PySem PySem.Spec L2
open PyProof.Rows (b2i)
/-- a def's promise, by what it is worth on trees -/
def spOf (T : Tb) (S : List D → Om → (Out → Om → Prop) → Prop) : Sp := fun vs H Q E => ∃ U ds W R, Reps T U W H ds vs ∧ RepW T U W H ∧ S ds W R ∧
  (∀ d W', R (.ret d) W' → ∀ v H', Rep T U W' H' d v → RepW T U W' H' → Ext W H W' H' → Q v H') ∧ (∀ x W', R (.exc x) W' → ∀ c d H', RepX T U W' H' x c d → RepW T U W' H' → Ext W H W' H' → E c d H')
/-- .. of one that takes the caught exception (p: its object) -/
def spX (T : Tb) (S : List D → Om → (Out → Om → Prop) → Prop) (p : Addr × Obj) : Sp := fun vs H Q E => vs = [V.ref p.1] ∧ (∃ vs', p.2.data = .fields vs') ∧ ∃ U C fs W R, RepX T U W H ⟨C, fs⟩ p.2.cls p.2.dict ∧ RepW T U W H ∧ S [.exn C fs] W R ∧
  (∀ d W', R (.ret d) W' → ∀ v H', Rep T U W' H' d v → RepW T U W' H' → Ext W H W' H' → Q v H') ∧ (∀ x W', R (.exc x) W' → ∀ c d H', RepX T U W' H' x c d → RepW T U W' H' → Ext W H W' H' → E c d H')
section
open PyProof.Rows HotX
/-- a def called with the exception that is handled -/
structure FnX (P : Program) (w : World) (K : PySem.W.Frag) (mg : Str → Option Value) (base : Heap) (CX : CXT) (k : Nat) (f : Addr) (fd : FuncData) (ps : List Str) (sp : Addr × Obj → Sp) : Prop where
  len : ∀ p vs H Q E, sp p vs H Q E → vs.length = ps.length
  run : ∀ (A : Around) (outer : List Env) (s : Shared) (H : Hp) (args : Args) (us : List Value) (vs : List V) (Q : VK) (E : XK) (p : Addr × Obj), L2H.RoomH k A → L2H.Hot1 A p → L2H.PinOk outer H s p → Env0 P w K mg base A outer s H → BindsTo s fd args (ps.zip us) → Vals vs us → sp p vs H Q E →
    codeAny (model P w) A (.call (.ref f) args) (CR CX outer P w H s Q E) s
theorem fnx_of {CX : CXT} {P : Program} {w : World} {K : PySem.W.Frag} {mg : Str → Option Value} {base : Heap} {k : Nat} {f : Addr} {name qual : Str} {params : Arguments} {body : List Stmt} {scope : Scope} {dV kV doc pm cdv ct oc : Value} {an od : Option Addr}
    {osl : Array (Option Value)} {N ps : List Str} {sp : Addr × Obj → Sp} (lk : K.lookup f = some ⟨oc, od, .func (PySem.W.fnOf name qual params body scope dV kV doc pm an cdv ct), osl⟩) (hcd : PySem.W.codeIn K cdv qual = true) (S : FnScope N ps scope)
    (len : ∀ p vs H Q E, sp p vs H Q E → vs.length = ps.length)
    (hbody : ∀ (A : Around) (outer : List Env) (s : Shared) (H : Hp) (vs : List V) (Q : VK) (E : XK) (p : Addr × Obj), L2H.Hot1 A p → L2H.RoomH k (A.deeper (envOfC qual scope s.heap.objs.size f cdv)) → sp p vs H Q E →
      ∃ t, PSs (L2H.cxH CX P w K mg base N qual scope f cdv A outer s H E p) body t ∧ t { nx := fun _ H' => Q .non H', rt := Q } (L2.start N vs) H) :
    FnX P w K mg base CX (k + 1) f (PySem.W.fnOf name qual params body scope dV kV doc pm an cdv ct) ps sp := by
  refine ⟨len, fun A outer s H args us vs Q E p hr hot hpin e0 hb r hsp => ?_⟩
  have hl := len _ _ _ _ _ hsp
  have KX : K.In s.heap := e0.mod.kin.keeps fun b o e => (e0.bs b o e).1
  have lim : s.heap.NoLimit := e0.mod.nolimit.keeps fun b o e => (e0.bs b o e).1
  have hkind : ∀ y ∈ ps.zip us, scope.names.lookup y.1 = some .local ∨ (scope.names.lookup y.1 = some .cell ∧ ((cellsFrom (s.heap.objs.size + 1) scope.names []).lookup y.1).isSome = true) := fun ⟨n, v⟩ hy => by
    rcases S.par n (List.of_mem_zip hy).1 with q | q
    · exact .inl q
    · exact .inr ⟨q, PySem.W.cellsFrom_some _ _ _ (.inl q)⟩
  refine codeAny_call_function hr.depth (KX _ _ lk) rfl S.co S.gen rfl (PySem.W.codeRec_of KX hcd) (hb _ _ _ _ ?_)
  refine wpAny_newFunctionEnv_cells S.kind hkind fun env he s1 x => ?_
  subst he
  refine ⟨lim.keeps x.toInCall.keep, codeAny_func ?_⟩
  obtain ⟨t, ht, hq⟩ := hbody A outer s H vs Q E p hot (hr.deeper _) hsp
  have I : Inv (L2H.cxH CX P w K mg base N qual scope f cdv A outer s H E p) [] (L2.start N vs) H s1 := L2H.inv_startH S hpin e0 hl r x
  refine wpAny_mono (ht.run [] s1 (L2.start N vs) H _ I hq) (fun fl s' hs => ?_) fun e s' hs => hs
  have fin : ∀ {σ' : L2.St} {H' : Hp} {v : V} {u : Value}, Inv (L2H.cxH CX P w K mg base N qual scope f cdv A outer s H E p) [] σ' H' s' → RelV v u → Q v H' → CE outer P w H s Q u s' :=
    fun {σ' H' v u} J rv q => ⟨v, H', J.os, J.bare, J.base, J.hok, rv, q⟩
  cases fl with
  | ret u =>
    obtain ⟨v, σ', H', J, rv, q⟩ := hs
    exact fin J rv q
  | next =>
    obtain ⟨σ', H', J, q⟩ := hs
    exact fin (v := V.non) (u := Value.none) J rfl q
  | brk =>
    obtain ⟨_, _, _, q⟩ := hs
    exact False.elim q
  | cont =>
    obtain ⟨_, _, _, q⟩ := hs
    exact False.elim q
theorem run_fnX {X : Cx} {CX : CXT} {k : Nat} {f : Addr} {fd : FuncData} {ps : List Str} {sp : Addr × Obj → Sp} {E : L2.St → XK} {pins : List (Addr × Obj)} {σ : L2.St} {H : Hp} {s : Shared} {Q : VK} {us : List Value} {vs : List V} (F : FnX X.prog X.w X.K X.mg X.base CX k f fd ps sp) (hr : L2H.RoomH k X.A) (hc : L2H.HotC X) (hb : Binds X.K fd ps []) (hx : PassesAt CX X σ (E σ))
    (I : L2.Inv X pins σ H s) (r : Vals vs us) (h : ∀ p, L2H.Hot1 X.A p → p ∈ X.pn → sp p vs H Q (E σ)) : wpAny (model X.prog X.w) X.A (PySem.call (.ref f) us) (EP X pins σ Q) X.xe s := by
  obtain ⟨p, hot, hp⟩ := hc
  have h := h p hot hp
  have hl : us.length = ps.length := by rw [← r.length]; exact F.len _ _ _ _ _ h
  have b := hb s us I.kIn (by rw [List.append_nil]; exact hl)
  rw [List.append_nil] at b
  have P1 := I.pin p (List.mem_append_left _ hp)
  have hpin : L2H.PinOk X.stack H s p := ⟨P1.1, P1.2.1, fun hm => (List.mem_cons.mp (I.stkSub p.1 hm)).elim P1.2.2.1 P1.2.2.2.1, P1.2.2.2.2⟩
  refine wpAny_call (codeAny_mono (F.run X.A X.stack s H ⟨us, []⟩ us vs Q (E σ) p hr hot hpin I.env0 b r h) fun r s' hq => ?_)
  cases r with
  | error e => exact hx pins H s e s' I hq
  | ok fl =>
    cases fl with
    | ret u => exact I.after hq
    | next => exact False.elim hq
    | brk => exact False.elim hq
    | cont => exact False.elim hq
end
abbrev Takes (X : Cx) (W : WX) : Prop := L2N.Takes X W
abbrev PMk (X : Cx) (e : Expr) (t : St → Hp → XK → Prop) : Prop := L2N.PMk X e t
/-- what the written part says of the exception classes, for except suites -/
structure Xok (T : Tb) (K : PySem.W.Frag) : Prop where
  cls : ∀ C, T.isX C = true → ExcC K (T.cad C) ∧ XfC K (T.cad C) ∧ PySem.W.kitOne K (.ref (T.cad C)) (.type "ValueError") = some true
  sub : ∀ C D, T.isX C = true → T.isX D = true → PySem.W.kitOne K (.ref (T.cad C)) (.ref (T.cad D)) = some (T.sub C D) ∧ PySem.W.exmOne K (.ref (T.cad C)) (.ref (T.cad D)) = some (T.sub C D)
  at_ : ∀ C f, T.xat C f = true → PySem.W.findIn K (.ref (T.cad C)) (T.fnm f) = some none
/-- what the written part says of the own classes -/
structure OwnF (T : Tb) (K : PySem.W.Frag) : Prop where
  slf : ∀ C, T.isO C = true → PySem.W.selfFirst K (T.cad C) = true
  ty : ∀ C, T.isO C = true → ∀ n ∈ ["NoneType", "bool", "int", "str", "list", "tuple"], PySem.W.notFirst K (T.cad C) (.type n) = true ∧ PySem.W.kitOne K (.type n) (.ref (T.cad C)) = some false ∧ PySem.W.kitOne K (.ref (T.cad C)) (.type n) = some false
  kin : ∀ C D, T.isO C = true → T.isO D = true → PySem.W.kitOne K (.ref (T.cad C)) (.ref (T.cad D)) = some (T.kin C D)
  nof : ∀ C D, T.isO C = true → T.nof C D = true → PySem.W.notFirst K (T.cad C) (.ref (T.cad D)) = true
  cls : ∀ C, T.isO C = true → T.isC C = true ∧ C8.InsC K (T.cad C)
  prp : ∀ C m f, T.prp C m = some f → T.isF f = true ∧ Cls K (T.cad C) ∧ ∃ p, PropOf K (T.cad C) (T.fnm m) p (T.fad f)
/-- what the walk asks of the context -/
structure Cok (T : Tb) (U : Ux) (G : Gs) (k : Nat) (cm : Md) (X : Cx) : Prop where
  nd : X.N.Nodup
  ue : U.ei = cm.ei
  up : ∀ p ∈ U.pn, p ∈ X.pn
  ce : cm.calm = true → cm.ei = none
  cp : cm.calm = true → U.pn = []
  calm : cm.calm = true → X.calm = true
  room : cm.calm = true → Room k X.A
  hot : cm.calm = false → L2H.RoomH k X.A ∧ L2H.HotC X
  len : ∀ f j ds W R, G f j ds W R → ds.length = T.ar f
  fn : ∀ f j, T.isF f = true → j ≤ k → ∃ fd ps, Binds X.K fd ps [] ∧ PySem.W.keepIn X.K (.ref (T.fad f)) = true ∧ FnOk X.prog X.w X.K X.mg X.base (L2N.CX X.prog X.w) j (T.fad f) fd ps (spOf T (G f j)) ∧ (∀ n ks pm, kwB (T.pn f) n ks pm = true → KBn X.K fd ps n ks (fun us ws => permL pm (us ++ ws)) (fun us ws => permL pm (us ++ ws))) ∧
    (T.isH f = true → L2H.FnH X.prog X.w X.K X.mg X.base (L2N.CX X.prog X.w) j (T.fad f) fd ps (spOf T (G f j)))
  gl : ∀ f, T.isG f = true → X.mg (T.gn f) = some (.ref (T.fad f))
  mth : ∀ C m f, T.mth C m = some f → T.isF f = true ∧ Cls X.K (T.cad C) ∧ Meth X.K (T.cad C) (T.fnm m) (T.fad f)
  fld : ∀ C f, T.fld C f = true → Cls X.K (T.cad C) ∧ NoAttr X.K (T.cad C) (T.fnm f)
  ini : ∀ C f, T.ini C = some f → T.isF f = true ∧ Mk X.K (T.cad C) (T.fad f) ∧ X.mg (T.cn C) = some (.ref (T.cad C))
  cls : ∀ C, T.isC C = true → PySem.W.keepIn X.K (.ref (T.cad C)) = true ∧ X.mg (T.cn C) = some (.ref (T.cad C))
  cI : ∀ g i, T.cI g = some i → ∃ t, X.mg (T.gn g) = some (.int i t)
  cS : ∀ g i, T.cS g = some i → ∃ t, X.mg (T.gn g) = some (.str i t)
  blt : ∀ x ∈ bltNames, X.mg x = none
  exs : Xok T X.K
  own : OwnF T X.K
  top : cm.top = true → X.stack = X.env :: X.outer ∧ X.env.frame = some X.env.locals
  hx : ∀ i, cm.ei = some i → ∀ p ∈ U.pn, X.A.handled = some (.ref p.1)
  fx : ∀ f j, T.isE f = true → j ≤ k → ∃ fd ps, Binds X.K fd ps [] ∧ PySem.W.keepIn X.K (.ref (T.fad f)) = true ∧ FnX X.prog X.w X.K X.mg X.base (L2N.CX X.prog X.w) j (T.fad f) fd ps (spX T (G f j))
theorem Cok.hu {T : Tb} {U : Ux} {G : Gs} {k : Nat} {cm : Md} {X : Cx} (C : Cok T U G k cm X) : X.A.units + 64 < cLine := by
  cases h : cm.calm with
  | true => have := (C.room h).un; omega
  | false => have := (C.hot h).1.un; omega
theorem takesN {X : Cx} : Takes X (fun _ _ _ _ => False) := fun _ _ x => by
  obtain ⟨_, _, _, _, _, _, _, _, _, _, _, _, _, _, _, _, z⟩ := x
  exact z.elim
theorem Cok.zero {T : Tb} {U : Ux} {G : Gs} {k : Nat} {cm : Md} {X : Cx} (C : Cok T U G k cm X) (h : cm.calm = true) : U.ei = none := by rw [C.ue, C.ce h]
theorem Cok.no {T : Tb} {U : Ux} {G : Gs} {k : Nat} {cm : Md} {X : Cx} (C : Cok T U G k cm X) {i : Nat} (h : decide (cm.ei ≠ some i) = true) : U.ei ≠ some i := by
  rw [C.ue]
  exact of_decide_eq_true h
theorem Cok.blk {T : Tb} {U U' : Ux} {G : Gs} {k : Nat} {cm : Md} {X : Cx} (C : Cok T U G k cm X) (hc : cm.calm = true) (h : U'.ei = none) (hp : U'.pn = []) (s : Shared) (H : Hp) (scope : Scope) (cenv : Env) (fp : List Addr) : Cok T U' G k cm.blk (X.blk s H scope cenv fp) :=
  ⟨C.nd, by rw [h]; exact (C.ce hc).symm, fun p hq => absurd hq (by rw [hp]; exact List.not_mem_nil), C.ce, fun _ => hp, C.calm, C.room, fun z => (Bool.noConfusion (hc.symm.trans z)), C.len, C.fn, C.gl, C.mth, C.fld, C.ini, C.cls, C.cI, C.cS, C.blt, C.exs, C.own, (fun z => nomatch (show false = true from z)), (fun i e => nomatch (show some i = none from e.symm.trans (C.ce hc))), C.fx⟩
/-- what is wanted of an exception, said of what represents it -/
abbrev PostX (T : Tb) (U : Addr → Prop) (W : Om) (H : Hp) (σ : St) (Z : WX) : PX := fun x W' => ∀ c d H', RepX T U W' H' x c d → RepW T U W' H' → Ext W H W' H' → Z c d σ H'
theorem Post.step {T : Tb} {U : Addr → Prop} {W W1 : Om} {H H1 : Hp} {Q : VK} (e : Ext W H W1 H1) : ∀ r W', Post T U W H Q r W' → Post T U W1 H1 Q r W' := fun _ _ h z H' a b c => h z H' a b (e.trans c)
theorem PostX.step {T : Tb} {U : Addr → Prop} {W W1 : Om} {H H1 : Hp} {σ : St} {Z : WX} (e : Ext W H W1 H1) : ∀ r W', PostX T U W H σ Z r W' → PostX T U W1 H1 σ Z r W' := fun _ _ h c d H' a b x => h c d H' a b (e.trans x)
section
variable (T : Tb) (U : Ux) (Z : WX)
abbrev ME := Gm → Om → PQ → PX → Prop
abbrev MT := Gm → Om → (Bool → Om → Prop) → PX → Prop
abbrev ML := Gm → Om → (List D → Om → Prop) → PX → Prop
abbrev MOp := Gm → Om → (Option Int → Om → Prop) → PX → Prop
def tE (m : ME) : TE := fun σ H Q => ∃ g W, RepG T U W H g σ ∧ RepW T U W H ∧ m g W (Post T U W H Q) (PostX T U W H σ Z)
def tT (m : MT) : TT := fun σ H Q => ∃ g W, RepG T U W H g σ ∧ RepW T U W H ∧ m g W (fun b W' => ∀ H', RepW T U W' H' → Ext W H W' H' → Q b H') (PostX T U W H σ Z)
def tL (m : ML) : TA := fun σ H Q => ∃ g W, RepG T U W H g σ ∧ RepW T U W H ∧ m g W (fun ds W' => ∀ vs H', Reps T U W' H' ds vs → RepW T U W' H' → Ext W H W' H' → Q vs H') (PostX T U W H σ Z)
def tPo (m : MOp) : TO := fun σ H Q => ∃ g W, RepG T U W H g σ ∧ RepW T U W H ∧ m g W (fun o W' => ∀ H', RepW T U W' H' → Ext W H W' H' → Q o H') (PostX T U W H σ Z)
end
/-- a reading that is weaker -/
theorem _root_.L2.PE.to {X : Cx} {e : Expr} {t t' : TE} (h : PE X e t) (hi : ∀ σ H Q, t' σ H Q → t σ H Q) : PE X e t' := ⟨fun pins s σ H Q I q => h.run pins s σ H Q I (hi _ _ _ q)⟩
theorem _root_.L2.PT.to {X : Cx} {e : Expr} {t t' : TT} (h : PT X e t) (hi : ∀ σ H Q, t' σ H Q → t σ H Q) : PT X e t' := ⟨fun pins s σ H Q I q => h.run pins s σ H Q I (hi _ _ _ q)⟩
theorem _root_.L2.PW.to {X : Cx} {e : Expr} {t t' : TT} (h : PW X e t) (hi : ∀ σ H Q, t' σ H Q → t σ H Q) : PW X e t' := ⟨fun wh pins s σ H Q I q => h.run wh pins s σ H Q I (hi _ _ _ q)⟩
theorem _root_.L2.PA.to {X : Cx} {e : List Expr} {t t' : TA} (h : PA X e t) (hi : ∀ σ H Q, t' σ H Q → t σ H Q) : PA X e t' := ⟨fun pos pins s σ H Q I q => h.run pos pins s σ H Q I (hi _ _ _ q)⟩
section
variable {T : Tb} {U : Ux} {Z : WX} {W : Om} {H : Hp} {σ : St} {g : Gm}
/-- one part evaluated; then what is asked of its tree -/
theorem one {a : ME} (ma : Mo a) {F : D → Om → Prop} (rg : RepG T U W H g σ) (hw : RepW T U W H) (h : a g W F (PostX T U W H σ Z)) :
    tE T U Z a σ H fun x H1 => ∃ d W1, Rep T U W1 H1 d x ∧ RepG T U W1 H1 g σ ∧ RepW T U W1 H1 ∧ Ext W H W1 H1 ∧ F d W1 :=
  ⟨g, W, rg, hw, ma (fun d W1 f z H1 r w e => ⟨d, W1, r, rg.ext e, w, e, f⟩) (fun _ _ z => z) h⟩
theorem oneT {a : MT} (ma : MoT a) {F : Bool → Om → Prop} (rg : RepG T U W H g σ) (hw : RepW T U W H) (h : a g W F (PostX T U W H σ Z)) :
    tT T U Z a σ H fun b H1 => ∃ W1, RepG T U W1 H1 g σ ∧ RepW T U W1 H1 ∧ Ext W H W1 H1 ∧ F b W1 :=
  ⟨g, W, rg, hw, ma (fun d W1 f H1 w e => ⟨W1, rg.ext e, w, e, f⟩) (fun _ _ z => z) h⟩
theorem oneL {a : ML} (ma : MoL a) {F : List D → Om → Prop} (rg : RepG T U W H g σ) (hw : RepW T U W H) (h : a g W F (PostX T U W H σ Z)) :
    tL T U Z a σ H fun x H1 => ∃ d W1, Reps T U W1 H1 d x ∧ RepG T U W1 H1 g σ ∧ RepW T U W1 H1 ∧ Ext W H W1 H1 ∧ F d W1 :=
  ⟨g, W, rg, hw, ma (fun d W1 f z H1 r w e => ⟨d, W1, r, rg.ext e, w, e, f⟩) (fun _ _ z => z) h⟩
theorem oneO {a : MOp} (ma : MoO a) {F : Option Int → Om → Prop} (rg : RepG T U W H g σ) (hw : RepW T U W H) (h : a g W F (PostX T U W H σ Z)) :
    tPo T U Z a σ H fun o H1 => ∃ W1, RepG T U W1 H1 g σ ∧ RepW T U W1 H1 ∧ Ext W H W1 H1 ∧ F o W1 :=
  ⟨g, W, rg, hw, ma (fun d W1 f H1 w e => ⟨W1, rg.ext e, w, e, f⟩) (fun _ _ z => z) h⟩
/-- two parts, from the left -/
theorem two {a b : ME} (ma : Mo a) (mb : Mo b) {F : D → D → Om → Prop} (rg : RepG T U W H g σ) (hw : RepW T U W H) (h : a g W (fun x W1 => b g W1 (fun y W2 => F x y W2) (PostX T U W H σ Z)) (PostX T U W H σ Z)) :
    tE T U Z a σ H fun x H1 => tE T U Z b σ H1 fun y H2 => ∃ d e W2, Rep T U W2 H2 d x ∧ Rep T U W2 H2 e y ∧ RepG T U W2 H2 g σ ∧ RepW T U W2 H2 ∧ Ext W H W2 H2 ∧ F d e W2 := by
  refine ⟨g, W, rg, hw, ma (fun d W1 f x H1 r w e1 => ?_) (fun _ _ z => z) h⟩
  exact ⟨g, W1, rg.ext e1, w, mb (fun y W2 f2 z H2 r2 w2 e2 => ⟨d, y, W2, r.ext e2, r2, (rg.ext e1).ext e2, w2, e1.trans e2, f2⟩) (PostX.step e1) f⟩
theorem tE_mono {a : ME} (ma : Mo a) {Q Q' : VK} (h : ∀ v H, Q v H → Q' v H) : tE T U Z a σ H Q → tE T U Z a σ H Q' := fun ⟨g, W, r, w, z⟩ => ⟨g, W, r, w, ma (fun _ _ f x H1 a b c => h _ _ (f x H1 a b c)) (fun _ _ z => z) z⟩
theorem tT_mono {a : MT} (ma : MoT a) {Q Q' : Bool → Hp → Prop} (h : ∀ v H, Q v H → Q' v H) : tT T U Z a σ H Q → tT T U Z a σ H Q' := fun ⟨g, W, r, w, z⟩ => ⟨g, W, r, w, ma (fun _ _ f H1 b c => h _ _ (f H1 b c)) (fun _ _ z => z) z⟩
theorem tL_mono {a : ML} (ma : MoL a) {Q Q' : List V → Hp → Prop} (h : ∀ v H, Q v H → Q' v H) : tL T U Z a σ H Q → tL T U Z a σ H Q' := fun ⟨g, W, r, w, z⟩ => ⟨g, W, r, w, ma (fun _ _ f x H1 a b c => h _ _ (f x H1 a b c)) (fun _ _ z => z) z⟩
theorem tPo_mono {a : MOp} (ma : MoO a) {Q Q' : Option Int → Hp → Prop} (h : ∀ v H, Q v H → Q' v H) : tPo T U Z a σ H Q → tPo T U Z a σ H Q' := fun ⟨g, W, r, w, z⟩ => ⟨g, W, r, w, ma (fun _ _ f H1 b c => h _ _ (f H1 b c)) (fun _ _ z => z) z⟩
theorem mkL_step {own : Bool} {ds : List D} {W1 : Om} {H1 : Hp} {Q : VK} (e : Ext W H W1 H1) (h : mkL own ds W1 (Post T U W H Q)) : mkL own ds W1 (Post T U W1 H1 Q) := mkL.mono (Post.step e) h
end
section
variable {T : Tb} {U : Ux} {G : Gs} {k : Nat} {X : Cx} {Z : WX} {cm : Md} {a b c : E} {pa pb pc : Expr} {pos : Pos}
abbrev pE (T : Tb) (U : Ux) (Z : WX) (G : Gs) (k : Nat) (e : E) : TE := tE T U Z (wpE G k T.toPm e)
abbrev pT (T : Tb) (U : Ux) (Z : WX) (G : Gs) (k : Nat) (e : E) : TT := tT T U Z (wpT G k T.toPm e)
abbrev pL (T : Tb) (U : Ux) (Z : WX) (G : Gs) (k : Nat) (e : List E) : TA := tL T U Z (wpEs G k T.toPm e)
theorem s_bin {o : BOp} {own : Bool} {op : Operator} (h : opB o op = true) (ha : PE X pa (pE T U Z G k a)) (hb : PE X pb (pE T U Z G k b)) : PE X (.BinOp pa op pb pos) (pE T U Z G k (.bin o own a b)) := by
  rw [opB_eq h]
  refine ⟨fun pins s σ H Q I ⟨g, W, rg, hw, h⟩ => ?_⟩
  simp only [wpE] at h
  exact wpAny_BinOp (binT ha hb I (two (moE a) (moE b) rg hw h) fun v u s2 x y H2 I2 rx ry ⟨d, e, W2, rd, re, rg2, w2, e2, f⟩ =>
    op_bin o own pins s2 σ H2 W2 x y v u d e Q I2 rx ry rd re w2 (binD.mono (Post.step e2) f))
theorem s_var {i : Nat} {x : Str} (hu : U.ei ≠ some i) (h : (nmB X.N i x && visB X.env.scope x && !oddB x) = true) : PE X (.Name x pos) (pE T U Z G k (.var i)) := by
  simp only [Bool.and_eq_true, Bool.not_eq_true', oddB, Bool.or_eq_false_iff] at h
  obtain ⟨⟨h1, h2⟩, ⟨h3, h4⟩, h5⟩ := h
  have e1 : X.N[i]? = some x := by
    unfold nmB at h1
    split at h1
    · next y q => rw [q, of_decide_eq_true h1]
    · cases h1
  have e2 : Vis X.env.scope x := by
    unfold visB at h2
    split at h2
    · next q => exact .inl q
    · next q => exact .inr (.inl q)
    · next q => exact .inr (.inr q)
    · cases h2
  refine (pe_var (i := i) e1 e2 h3 h4).to fun σ H Q ⟨g, W, rg, hw, h⟩ => ?_
  simp only [wpE] at h
  obtain ⟨d, e, h⟩ := h
  obtain ⟨v, q, r⟩ := rg.get hu e
  exact ⟨v, q, h _ _ r hw .refl⟩
theorem s_int {i : Int} {j} : PE X (.Constant (.int i) j pos) (pE T U Z G k (.int i)) := pe_int.to fun σ H Q ⟨g, W, rg, hw, h⟩ => by
  simp only [wpE] at h
  exact h _ _ (.int _) hw .refl
theorem s_str {i : Str} {j} : PE X (.Constant (.str i) j pos) (pE T U Z G k (.str i)) := pe_str.to fun σ H Q ⟨g, W, rg, hw, h⟩ => by
  simp only [wpE] at h
  exact h _ _ (.str _) hw .refl
theorem s_bl {i : Bool} {j} : PE X (.Constant (.bool i) j pos) (pE T U Z G k (.bl i)) := pe_bl.to fun σ H Q ⟨g, W, rg, hw, h⟩ => by
  simp only [wpE] at h
  exact h _ _ (.bl _) hw .refl
theorem s_non {j} : PE X (.Constant .none j pos) (pE T U Z G k .non) := pe_non.to fun σ H Q ⟨g, W, rg, hw, h⟩ => by
  simp only [wpE] at h
  exact h _ _ .non hw .refl
/-- a global name's facts -/
theorem glo {sc : Scope} {x y : Str} (h : gloB sc x y = true) : x = y ∧ sc.names.lookup x = some .globalImplicit ∧ (x == ("__debug__" : Str)) = false ∧ x ≠ "__name__" := by
  simp only [gloB, Bool.and_eq_true, Bool.not_eq_true', oddB, Bool.or_eq_false_iff] at h
  obtain ⟨⟨h1, h2⟩, ⟨h3, h4⟩, h5⟩ := h
  refine ⟨of_decide_eq_true h1, ?_, h3, beq_eq_false_iff_ne.mp h5⟩
  unfold glB at h2
  split at h2
  · next q => exact q
  · cases h2
theorem s_gint (C : Cok T U G k cm X) {gi : Nat} {i : Int} {x : Str} (h : (gloB X.env.scope x (T.gn gi) && decide (T.cI gi = some i)) = true) : PE X (.Name x pos) (pE T U Z G k (.gint gi i)) := by
  rw [Bool.and_eq_true] at h
  obtain ⟨e1, e2, e3, e4⟩ := glo h.1
  obtain ⟨t, e⟩ := C.cI _ _ (of_decide_eq_true h.2)
  refine (pe_glob (v := .int i) e2 (by rw [e1]; exact e) ⟨t, rfl⟩ e3).to fun σ H Q ⟨g, W, rg, hw, h⟩ => ?_
  simp only [wpE] at h
  exact h _ _ (.int _) hw .refl
theorem s_gstr (C : Cok T U G k cm X) {gi : Nat} {i : Str} {x : Str} (h : (gloB X.env.scope x (T.gn gi) && decide (T.cS gi = some i)) = true) : PE X (.Name x pos) (pE T U Z G k (.gstr gi i)) := by
  rw [Bool.and_eq_true] at h
  obtain ⟨e1, e2, e3, e4⟩ := glo h.1
  obtain ⟨t, e⟩ := C.cS _ _ (of_decide_eq_true h.2)
  refine (pe_glob (v := .str i) e2 (by rw [e1]; exact e) ⟨t, rfl⟩ e3).to fun σ H Q ⟨g, W, rg, hw, h⟩ => ?_
  simp only [wpE] at h
  exact h _ _ (.str _) hw .refl
theorem s_neg (ha : PE X pa (pE T U Z G k a)) : PE X (.UnaryOp .USub pa pos) (pE T U Z G k (.neg a)) := (pe_un un_neg ha).to fun σ H Q ⟨g, W, rg, hw, h⟩ => by
  simp only [wpE] at h
  refine tE_mono (moE a) (fun v H1 ⟨d, W1, r, rg1, w1, e1, f⟩ => ?_) (one (moE a) rg hw h)
  cases d <;> first | exact f.elim | skip
  cases r
  exact ⟨_, rfl, f _ _ (.int _) w1 e1⟩
/-- a two-place operation's reading, on trees -/
def rOf (T : Tb) (U : Addr → Prop) (b : D → D → Om → PQ → Prop) : R2 := fun x y H Q => ∃ d e W, Rep T U W H d x ∧ Rep T U W H e y ∧ RepW T U W H ∧ b d e W (Post T U W H Q)
theorem OpD.r {f : Value → Value → Sem Value} {b : D → D → Om → PQ → Prop} (h : OpD X T U f b) : OpR X f (rOf T U b) := fun pins s σ H x y v u Q I rx ry ⟨d, e, W, rd, re, hw, z⟩ => h pins s σ H W x y v u d e Q I rx ry rd re hw z
theorem noset {b : Expr} {op : CmpOp} (h : isSet b = false) : behindInMarks op b = false := by
  cases b <;> first | rfl | cases h
theorem pc_of (hu : X.A.units + 64 < cLine) {o : COp} (ha : PE X pa (pE T U Z G k a)) (hb : PE X pb (pE T U Z G k b)) : PC X o.op pa pb (tOp (rOf T U (cmpD o)) (pE T U Z G k a) (pE T U Z G k b)) := by
  refine ⟨fun pins s σ H Q I h => ?_⟩
  exact binT ha hb I h fun v u s2 x y H2 I2 rx ry q => (op_cmp hu o).r pins s2 σ H2 x y v u Q I2 rx ry q
theorem s_cmp (hu : X.A.units + 64 < cLine) {o : COp} {op : CmpOp} (h : cmpB o op = true) (hs : isSet pb = false) (ha : PE X pa (pE T U Z G k a)) (hb : PE X pb (pE T U Z G k b)) : PE X (.Compare pa [op] [pb] pos) (pE T U Z G k (.cmp o a b)) := by
  rw [cmpB_eq h]
  refine (pe_cmp (pc_of hu ha hb) (noset hs)).to fun σ H Q ⟨g, W, rg, hw, h⟩ => ?_
  simp only [wpE] at h
  exact tE_mono (moE a) (fun x H1 z => tE_mono (moE b) (fun y H2 ⟨d, e, W2, rd, re, rg2, w2, e2, f⟩ => ⟨d, e, W2, rd, re, w2, cmpD.mono (Post.step e2) f⟩) z) (two (moE a) (moE b) rg hw h)
theorem s_cmpT (hu : X.A.units + 64 < cLine) {o : COp} {op : CmpOp} (h : cmpB o op = true) (hs : isSet pb = false) (ha : PE X pa (pE T U Z G k a)) (hb : PE X pb (pE T U Z G k b)) : PT X (.Compare pa [op] [pb] pos) (pT T U Z G k (.cmp o a b)) := by
  rw [cmpB_eq h]
  refine (pt_cmp (pc_of hu ha hb) (noset hs)).to fun σ H Q ⟨g, W, rg, hw, h⟩ => ?_
  simp only [wpT] at h
  refine tE_mono (moE a) (fun x H1 z => tE_mono (moE b) (fun y H2 ⟨d, e, W2, rd, re, rg2, w2, e2, f⟩ => ⟨d, e, W2, rd, re, w2, cmpD.mono (fun r W' f z H' rz wz ez => ?_) f⟩) z) (two (moE a) (moE b) rg hw h)
  cases r <;> first | exact f.elim | skip
  cases rz
  exact ⟨_, rfl, f _ wz (e2.trans ez)⟩
theorem s_chain (hu : X.A.units + 64 < cLine) {o q : COp} {op oq : CmpOp} (h : cmpB o op = true) (h' : cmpB q oq = true) (hs : isSet pb = false) (hs' : isSet pc = false) (ha : PE X pa (pE T U Z G k a)) (hb : PE X pb (pE T U Z G k b)) (hc : PE X pc (pE T U Z G k c)) :
    PE X (.Compare pa [op, oq] [pb, pc] pos) (pE T U Z G k (.chain o q a b c)) := by
  rw [cmpB_eq h, cmpB_eq h']
  refine (pe_chain (op_cmp (T := T) (U := U) hu o).r (op_cmp (T := T) (U := U) hu q).r ha hb hc (noset hs')).to fun σ H Q ⟨g, W, rg, hw, h⟩ => ?_
  simp only [wpE] at h
  refine tE_mono (moE a) (fun x H1 z => tE_mono (moE b) (fun y H2 ⟨d, e, W2, rd, re, rg2, w2, e2, f⟩ => ⟨d, e, W2, rd, re, w2, cmpD.mono (fun r W' f z H' rz wz ez => ?_) f⟩) z) (two (moE a) (moE b) rg hw h)
  cases r <;> first | exact f.elim | skip
  rename_i t
  cases rz
  refine ⟨t, rfl, ?_⟩
  cases t with
  | false => exact f _ _ (.bl _) wz (e2.trans ez)
  | true =>
    refine tE_mono (moE c) (fun w H4 ⟨d4, W4, r4, rg4, w4, e4, f4⟩ => ?_) (one (moE c) (rg2.ext ez) wz (moE c (fun _ _ z => z) (PostX.step (e2.trans ez)) f))
    exact ⟨e, d4, W4, (re.ext ez).ext e4, r4, w4, cmpD.mono (Post.step ((e2.trans ez).trans e4)) f4⟩
theorem s_chainT (hu : X.A.units + 64 < cLine) {o q : COp} {op oq : CmpOp} (h : cmpB o op = true) (h' : cmpB q oq = true) (hs : isSet pb = false) (hs' : isSet pc = false) (ha : PE X pa (pE T U Z G k a)) (hb : PE X pb (pE T U Z G k b)) (hc : PE X pc (pE T U Z G k c)) :
    PT X (.Compare pa [op, oq] [pb, pc] pos) (pT T U Z G k (.chain o q a b c)) := by
  rw [cmpB_eq h, cmpB_eq h']
  refine (pt_chain (op_cmp (T := T) (U := U) hu o).r (op_cmp (T := T) (U := U) hu q).r ha hb hc (noset hs')).to fun σ H Q ⟨g, W, rg, hw, h⟩ => ?_
  simp only [wpT] at h
  refine tE_mono (moE a) (fun x H1 z => tE_mono (moE b) (fun y H2 ⟨d, e, W2, rd, re, rg2, w2, e2, f⟩ => ⟨d, e, W2, rd, re, w2, cmpD.mono (fun r W' f z H' rz wz ez => ?_) f⟩) z) (two (moE a) (moE b) rg hw h)
  cases r <;> first | exact f.elim | skip
  rename_i t
  cases rz
  refine ⟨t, rfl, ?_⟩
  cases t with
  | false => exact ⟨_, rfl, f _ wz (e2.trans ez)⟩
  | true =>
    refine tE_mono (moE c) (fun w H4 ⟨d4, W4, r4, rg4, w4, e4, f4⟩ => ?_) (one (moE c) (rg2.ext ez) wz (moE c (fun _ _ z => z) (PostX.step (e2.trans ez)) f))
    refine ⟨e, d4, W4, (re.ext ez).ext e4, r4, w4, cmpD.mono (fun r5 W5 f5 z5 H5 rz5 wz5 ez5 => ?_) f4⟩
    cases r5 <;> first | exact f5.elim | skip
    cases rz5
    exact ⟨_, rfl, f5 _ wz5 (((e2.trans ez).trans e4).trans ez5)⟩
end
end Tw
set_option maxHeartbeats 4000000
namespace Tw
open PySem PySem.Spec L2
open PyProof.Rows (b2i)
section
variable {T : Tb} {U : Ux} {G : Gs} {k : Nat} {X : Cx} {Z : WX} {cm : Md} {a b c : E} {pa pb pc : Expr} {pos : Pos} {es : List E} {ps : List Expr}
theorem s_and {r : List Expr} (ha : PE X pa (pE T U Z G k a)) (hb : PE X (.BoolOp .And (pb :: r) pos) (pE T U Z G k b)) : PE X (.BoolOp .And (pa :: pb :: r) pos) (pE T U Z G k (.and a b)) := (pe_and ha hb).to fun σ H Q ⟨g, W, rg, hw, h⟩ => by
  simp only [wpE] at h
  refine tE_mono (moE a) (fun x H1 ⟨d, W1, r1, rg1, w1, e1, f⟩ => ?_) (one (moE a) rg hw h)
  cases d <;> first | exact f.elim | skip
  rename_i t
  cases r1
  refine ⟨t, rfl, ?_⟩
  cases t with
  | false => exact f _ _ (.bl _) w1 e1
  | true => exact ⟨g, W1, rg1, w1, moE b (Post.step e1) (PostX.step e1) f⟩
theorem s_or {r : List Expr} (ha : PE X pa (pE T U Z G k a)) (hb : PE X (.BoolOp .Or (pb :: r) pos) (pE T U Z G k b)) : PE X (.BoolOp .Or (pa :: pb :: r) pos) (pE T U Z G k (.or a b)) := (pe_or ha hb).to fun σ H Q ⟨g, W, rg, hw, h⟩ => by
  simp only [wpE] at h
  refine tE_mono (moE a) (fun x H1 ⟨d, W1, r1, rg1, w1, e1, f⟩ => ?_) (one (moE a) rg hw h)
  cases d <;> first | exact f.elim | skip
  rename_i t
  cases r1
  refine ⟨t, rfl, ?_⟩
  cases t with
  | true => exact f _ _ (.bl _) w1 e1
  | false => exact ⟨g, W1, rg1, w1, moE b (Post.step e1) (PostX.step e1) f⟩
theorem s_not (ha : PE X pa (pE T U Z G k a)) : PE X (.UnaryOp .Not pa pos) (pE T U Z G k (.not a)) := (pe_not ha).to fun σ H Q ⟨g, W, rg, hw, h⟩ => by
  simp only [wpE] at h
  refine tE_mono (moE a) (fun x H1 ⟨d, W1, r1, rg1, w1, e1, f⟩ => ?_) (one (moE a) rg hw h)
  cases d <;> first | exact f.elim | skip
  rename_i t
  cases r1
  exact ⟨t, rfl, f _ _ (.bl _) w1 e1⟩
abbrev BPost (U : Addr → Prop) (W : Om) (H : Hp) (T : Tb) (Q : Bool → Hp → Prop) : Bool → Om → Prop := fun b W' => ∀ H', RepW T U W' H' → Ext W H W' H' → Q b H'
theorem BPost.step {U : Addr → Prop} {W W1 : Om} {H H1 : Hp} {Q : Bool → Hp → Prop} (e : Ext W H W1 H1) : ∀ b W', BPost U W H T Q b W' → BPost U W1 H1 T Q b W' := fun _ _ h H' w x => h H' w (e.trans x)
theorem s_andT {r : List Expr} (ha : PT X pa (pT T U Z G k a)) (hb : PW X (.BoolOp .And (pb :: r) pos) (pT T U Z G k b)) : PW X (.BoolOp .And (pa :: pb :: r) pos) (pT T U Z G k (.and a b)) := (pw_and ha hb).to fun σ H Q ⟨g, W, rg, hw, h⟩ => by
  simp only [wpT] at h
  refine tT_mono (moT a) (fun t H1 ⟨W1, rg1, w1, e1, f⟩ => ?_) (oneT (moT a) rg hw h)
  cases t with
  | false => exact f _ w1 e1
  | true => exact ⟨g, W1, rg1, w1, moT b (BPost.step e1) (PostX.step e1) f⟩
theorem s_orT {r : List Expr} (ha : PT X pa (pT T U Z G k a)) (hb : PW X (.BoolOp .Or (pb :: r) pos) (pT T U Z G k b)) : PW X (.BoolOp .Or (pa :: pb :: r) pos) (pT T U Z G k (.or a b)) := (pw_or ha hb).to fun σ H Q ⟨g, W, rg, hw, h⟩ => by
  simp only [wpT] at h
  refine tT_mono (moT a) (fun t H1 ⟨W1, rg1, w1, e1, f⟩ => ?_) (oneT (moT a) rg hw h)
  cases t with
  | true => exact f _ w1 e1
  | false => exact ⟨g, W1, rg1, w1, moT b (BPost.step e1) (PostX.step e1) f⟩
theorem s_notT (ha : PT X pa (pT T U Z G k a)) : PT X (.UnaryOp .Not pa pos) (pT T U Z G k (.not a)) := (pt_not ha).to fun σ H Q ⟨g, W, rg, hw, h⟩ => by
  simp only [wpT] at h
  exact tT_mono (moT a) (fun t H1 ⟨W1, rg1, w1, e1, f⟩ => f _ w1 e1) (oneT (moT a) rg hw h)
theorem s_ite (hc : PT X pc (pT T U Z G k c)) (ha : PE X pa (pE T U Z G k a)) (hb : PE X pb (pE T U Z G k b)) : PE X (.IfExp pc pa pb pos) (pE T U Z G k (.ite c a b)) := (pe_ifExp hc ha hb).to fun σ H Q ⟨g, W, rg, hw, h⟩ => by
  simp only [wpE] at h
  refine tT_mono (moT c) (fun t H1 ⟨W1, rg1, w1, e1, f⟩ => ?_) (oneT (moT c) rg hw h)
  cases t with
  | true => exact ⟨g, W1, rg1, w1, moE a (Post.step e1) (PostX.step e1) f⟩
  | false => exact ⟨g, W1, rg1, w1, moE b (Post.step e1) (PostX.step e1) f⟩
theorem s_iteT (hc : PT X pc (pT T U Z G k c)) (ha : PT X pa (pT T U Z G k a)) (hb : PT X pb (pT T U Z G k b)) : PT X (.IfExp pc pa pb pos) (pT T U Z G k (.ite c a b)) := by
  refine ⟨fun pins s σ H Q I ⟨g, W, rg, hw, h⟩ => ?_⟩
  simp only [wpT] at h
  refine PyProof.Rows.isTrue_IfExp (thn (hc.run pins s σ H _ I (oneT (moT c) rg hw h)) fun t s1 ⟨H1, I1, W1, rg1, w1, e1, f⟩ => ?_)
  cases t with
  | true => exact ha.run pins s1 σ H1 Q I1 ⟨g, W1, rg1, w1, moT a (BPost.step e1) (PostX.step e1) f⟩
  | false => exact hb.run pins s1 σ H1 Q I1 ⟨g, W1, rg1, w1, moT b (BPost.step e1) (PostX.step e1) f⟩
/-- a value's truth as a test: the forms whose test is their value's truth -/
theorem s_truth {e : E} {p : Expr} (he : ∀ whole, isTrue p X.env whole = (do let v ← whole; standAt p.pos; holding [v] (truthy v))) (h : PE X p (pE T U Z G k e))
    (hw : ∀ g W Q Y, wpT G k T.toPm e g W Q Y → wpE G k T.toPm e g W (fun d W1 => onT d W1 Q) Y) : PT X p (pT T U Z G k e) := (pt_truth h he).to fun σ H Q ⟨g, W, rg, w, h⟩ => by
  refine tE_mono (moE e) (fun x H1 ⟨d, W1, r1, rg1, w1, e1, f⟩ => ?_) (one (moE e) rg w (hw _ _ _ _ h))
  exact op_truth r1 (onT.mono (BPost.step e1) f) w1
theorem star1 {p : Expr} {r : List Expr} {env : Env} (h : isStar p = false) : starEach (p :: r) env = (false, eval p env) :: starEach r env := by
  cases p <;> first | rfl | cases h
theorem plainStar {env : Env} {pos : Pos} : ∀ {r : List Expr}, (r.any isStar) = false → (backTo pos (starEach r env)).any (·.1) = false
  | [], _ => rfl
  | p :: r, h => by
    rw [List.any_cons, Bool.or_eq_false_iff] at h
    rw [star1 h.1]
    show (false || (backTo pos (starEach r env)).any (·.1)) = false
    rw [Bool.false_or]
    exact plainStar h.2
theorem s_nil : PA X [] (pL T U Z G k []) := pa_nil.to fun σ H Q ⟨g, W, rg, hw, h⟩ => by
  simp only [wpEs] at h
  exact h _ _ .nil hw .refl
theorem s_cons (hs : isStar pa = false) (ha : PE X pa (pE T U Z G k a)) (hb : PA X ps (pL T U Z G k es)) : PA X (pa :: ps) (pL T U Z G k (a :: es)) := (pa_cons ha hb (star1 hs)).to fun σ H Q ⟨g, W, rg, hw, h⟩ => by
  simp only [wpEs] at h
  refine tE_mono (moE a) (fun x H1 ⟨d, W1, r1, rg1, w1, e1, f⟩ => ?_) (one (moE a) rg hw h)
  refine ⟨g, W1, rg1, w1, moEs es (fun ds W2 f2 vs H2 r2 w2 e2 => f2 _ _ (.cons (r1.ext e2) r2) w2 (e1.trans e2)) (PostX.step e1) f⟩
theorem s_lst {own : Bool} (h : PA X ps (pL T U Z G k es)) : PE X (.List ps pos) (pE T U Z G k (.lst own es)) := (pe_lst h).to fun σ H Q ⟨g, W, rg, hw, h⟩ => by
  simp only [wpE] at h
  refine tL_mono (moEs es) (fun x H1 ⟨d, W1, r1, rg1, w1, e1, f⟩ => ?_) (oneL (moEs es) rg hw h)
  exact ⟨by rw [← r1.length]; exact f.1, fun p hp => mkL_ok w1 r1 (mkL_step e1 f.2) p hp⟩
theorem s_tup {j} (h : PA X ps (pL T U Z G k es)) : PE X (.Tuple ps j pos) (pE T U Z G k (.tup es)) := (pe_tup h).to fun σ H Q ⟨g, W, rg, hw, h⟩ => by
  simp only [wpE] at h
  refine tL_mono (moEs es) (fun x H1 ⟨d, W1, r1, rg1, w1, e1, f⟩ => ?_) (oneL (moEs es) rg hw h)
  exact ⟨by rw [← r1.length]; exact f.1, fun p hp => tup_ok w1 r1 (Post.step e1 _ _ f.2) p hp⟩
theorem plainIx {p : Expr} (h : isSlice p = false) : PlainIx p := by
  cases p <;> first | (intro _ _; rfl) | cases h
theorem s_idx (hs : isSlice pb = false) (ha : PE X pa (pE T U Z G k a)) (hb : PE X pb (pE T U Z G k b)) : PE X (.Subscript pa pb pos) (pE T U Z G k (.idx a b)) := (pe_ix ix_seq ha hb (plainIx hs)).to fun σ H Q ⟨g, W, rg, hw, h⟩ => by
  simp only [wpE] at h
  exact tE_mono (moE a) (fun x H1 z => tE_mono (moE b) (fun y H2 ⟨d, e, W2, rd, re, rg2, w2, e2, f⟩ => op_idx rd re w2 (idxD.mono (Post.step e2) f)) z) (two (moE a) (moE b) rg hw h)
/-- behind a def's call -/
theorem call_ok (C : Cok T U G k cm X) (tk : Takes X Z) {f j : Nat} (hf : T.isF f = true) (hj : j ≤ k) (hh : (cm.calm || T.isH f) = true) {pins : List (Addr × Obj)} {s : Shared} {σ : St} {H : Hp} {W : Om} {us : List Value} {vs : List V} {ds : List D} {Q : VK} (I : L2.Inv X pins σ H s)
    (rv : Vals vs us) (rd : Reps T U W H ds vs) (hw : RepW T U W H) (h : callW G j f ds W (Post T U W H Q) (PostX T U W H σ Z)) : wpAny (model X.prog X.w) X.A (PySem.call (.ref (T.fad f)) us) (EP X pins σ Q) X.xe s := by
  obtain ⟨fd, qs, hb, hk, F, _, FH⟩ := C.fn f j hf hj
  obtain ⟨R, hR, hq, hx⟩ := h
  have sp : spOf T (G f j) vs H Q (WE Z σ) := ⟨U, ds, W, R, rd, hw, hR, fun d W' r v H' a b c => hq d W' r v H' a b c, fun x W' r c d H' a b e => hx x W' r c d H' a b e⟩
  cases hc : cm.calm with
  | true => exact run_fnS (E := WE Z) F ((C.room hc).mono hj) hb (L2N.passAt tk σ) I rv sp
  | false =>
    obtain ⟨hr, hot⟩ := C.hot hc
    rw [hc, Bool.false_or] at hh
    exact L2H.run_fnH (E := WE Z) (FH hh) (hr.mono hj) hot hb (L2N.passAt tk σ) I rv sp
theorem s_call (C : Cok T U G k cm X) (tk : Takes X Z) {f : Nat} {x : Str} {p : Pos} (hx : gloB X.env.scope x (T.gn f) = true) (hf : T.isF f = true) (hg : T.isG f = true) (hh : (cm.calm || T.isH f) = true) (hs : ps.any isStar = false) (hn : es.length = ps.length) (ha : PA X ps (pL T U Z G k es)) :
    PE X (.Call (.Name x p) ps [] pos) (pE T U Z G k (.call f es)) := by
  obtain ⟨e1, e2, e3, e4⟩ := glo hx
  obtain ⟨fd, qs, hb, hk, F, _, FH⟩ := C.fn f k hf (Nat.le_refl _)
  have gm : X.mg x = some (.ref (T.fad f)) := by rw [e1]; exact C.gl f hg
  refine ⟨fun pins s σ H Q I ⟨g, W, rg, hw, h⟩ => ?_⟩
  simp only [wpE] at h
  refine wpAny_Call_Name_kw (ld_glob I e2 gm ?_ e3)
  have z := oneL (moEs es) rg hw h
  cases ps with
  | nil =>
    refine PySem.W.callWith_K0 I.kIn hk ?_
    cases es with
    | nil =>
      simp only [wpEs] at h
      exact call_ok C tk hf (Nat.le_refl _) hh I .nil .nil hw h
    | cons e es => cases hn
  | cons pe ps =>
    rw [List.any_cons, Bool.or_eq_false_iff] at hs
    refine PySem.W.callWith_K (h₀ := X.base) I.ok.mod.kin hk (thn (ha.run pos pins s σ H _ I z) fun us s1 ⟨vs, H1, I1, r, d, W1, r1, rg1, w1, e5, f1⟩ => ⟨I1.kIn, ?_⟩) (star1 hs.1) (plainStar hs.2)
    exact call_ok C tk hf (Nat.le_refl _) hh I1 r r1 w1 (callW.mono G _ (Post.step e5) (PostX.step e5) f1)
theorem boot_blt (b : Blt) : bootBuiltins b.name = some b.val := by cases b <;> decide +kernel
theorem blt_mem (b : Blt) : b.name ∈ bltNames := by cases b <;> simp [Blt.name, bltNames]
theorem s_blt (C : Cok T U G k cm X) {b : Blt} (hcm : (cm.calm || b.hot) = true) {own : Bool} {x : Str} {p : Pos} (hx : gloB X.env.scope x b.name = true) (hs : ps.any isStar = false) (hn : 0 < ps.length) (ha : PA X ps (pL T U Z G k es)) :
    PE X (.Call (.Name x p) ps [] pos) (pE T U Z G k (.blt b own es)) := by
  obtain ⟨e1, e2, e3, e4⟩ := glo hx
  have gm : X.mg x = none := by rw [e1]; exact C.blt _ (blt_mem b)
  have gv : bootBuiltins x = some b.val := by rw [e1]; exact boot_blt b
  have hc : X.calm = true ∨ b.hot = true := (Bool.or_eq_true _ _ ▸ hcm).imp C.calm id
  have cr : CallR X b.val (fun xs H Q => ∃ ds W, Reps T U W H ds xs ∧ RepW T U W H ∧ bltD b own ds W (Post T U W H Q)) := fun pins s σ H xs us Q I rv ⟨ds, W, rd, hw, h⟩ => op_blt b own hc pins s σ H W xs us ds Q I rv rd hw h
  cases ps with
  | nil => cases hn
  | cons pe ps =>
    rw [List.any_cons, Bool.or_eq_false_iff] at hs
    have main : ∀ {t : TA} (q : PE X (.Call (.Name x p) (pe :: ps) [] pos) (tCB (fun xs H Q => ∃ ds W, Reps T U W H ds xs ∧ RepW T U W H ∧ bltD b own ds W (Post T U W H Q)) (pL T U Z G k es))), PE X (.Call (.Name x p) (pe :: ps) [] pos) (pE T U Z G k (.blt b own es)) := fun q => q.to fun σ H Q ⟨g, W, rg, hw, h⟩ => by
      simp only [wpE] at h
      exact tL_mono (moEs es) (fun vs H1 ⟨d, W1, r1, rg1, w1, e5, f⟩ => ⟨d, W1, r1, w1, bltD.mono (Post.step e5) f⟩) (oneL (moEs es) rg hw h)
    refine main (t := tNil) ?_
    cases b
    all_goals first
      | exact pe_callB cr e2 gm gv ha e4 e3 (star1 hs.1) (plainStar hs.2)
      | exact pe_callTy cr e2 gm gv ha e4 e3 (star1 hs.1) (plainStar hs.2)
/-- isinstance(e, T), T a built-in type -/
theorem ty_names {n : String} (h : tyNames.contains n = true) : n = "int" ∨ n = "bool" ∨ n = "str" ∨ n = "list" ∨ n = "tuple" := by
  simpa [tyNames] using h
theorem kit_isi {K : PySem.W.Frag} {t n : String} (hn : n = "int" ∨ n = "bool" ∨ n = "str" ∨ n = "list" ∨ n = "tuple") (ht : t = "NoneType" ∨ t = "bool" ∨ t = "int" ∨ t = "str" ∨ t = "list" ∨ t = "tuple") :
    PySem.W.kitOne K (.type t) (.type n) = some (isiB t n) := by
  rcases hn with rfl | rfl | rfl | rfl | rfl <;> rcases ht with rfl | rfl | rfl | rfl | rfl | rfl <;> exact kit_ty (by decide +kernel)
theorem ty_of {d : D} {x : V} {t : String} {W : Om} {H : Hp} (r : Rep T U W H d x) (hw : RepW T U W H) (h : tyD d = some t ∨ ∃ a ds, d = .ptr a ∧ W a = some (.lst ds) ∧ t = "list") :
    TyX X.K H x (.type t) ∧ (t = "NoneType" ∨ t = "bool" ∨ t = "int" ∨ t = "str" ∨ t = "list" ∨ t = "tuple") := by
  rcases h with h | ⟨a, ds, rfl, h, rfl⟩
  · cases r with
    | non => cases h; exact ⟨.base .non, by simp⟩
    | bl _ => cases h; exact ⟨.base (.bl _), by simp⟩
    | int _ => cases h; exact ⟨.base (.int _), by simp⟩
    | str _ => cases h; exact ⟨.base (.str _), by simp⟩
    | scr ns n e => cases h; exact ⟨.base (.frz e), by simp⟩
    | lst n e r => cases h; exact ⟨.base (.lst e), by simp⟩
    | tup n e r => cases h; exact ⟨.base (.tup e), by simp⟩
    | ptr _ => cases h
    | obj _ _ _ _ => cases h
  · cases r
    obtain ⟨o, h1, h2⟩ := hw.cell_ _ _ h
    cases h2
    exact ⟨.base (.lst h1), by simp⟩
theorem ins_of {d : D} {x : V} {W : Om} {H : Hp} {c : Nat} (r : Rep T U W H d x) (hw : RepW T U W H) (h : kdO W d = some (some c)) : ∃ p dx fv, x = .ref p ∧ H p = some (.ins (T.cad c) dx fv) := by
  cases r with
  | obj q n e r => cases h; exact ⟨_, _, _, rfl, e⟩
  | ptr a =>
    have h : (match W a with | some (.ins C _) => some (some C) | some (.lst _) => some none | none => none) = some (some c) := h
    cases q : W a with
    | none => rw [q] at h; cases h
    | some m =>
      rw [q] at h
      cases m with
      | lst _ => cases h
      | ins C' fs' =>
        cases h
        obtain ⟨o, h1, h2⟩ := hw.cell_ _ _ q
        cases h2 with
        | ins _ r => exact ⟨_, _, _, rfl, h1⟩
  | non => cases h
  | bl _ => cases h
  | int _ => cases h
  | str _ => cases h
  | lst _ _ _ => cases h
  | tup _ _ _ => cases h
  | scr _ _ _ => cases h
theorem kd_of {d : D} {x : V} {W : Om} {H : Hp} (r : Rep T U W H d x) (hw : RepW T U W H) (h : kdO W d = some none) : ∃ t, t ∈ ["NoneType", "bool", "int", "str", "list", "tuple"] ∧ TyX X.K H x (.type t) := by
  have key : ∀ t, (tyD d = some t ∨ ∃ a ds, d = .ptr a ∧ W a = some (.lst ds) ∧ t = "list") → ∃ t, t ∈ ["NoneType", "bool", "int", "str", "list", "tuple"] ∧ TyX X.K H x (.type t) := fun t ht => by
    obtain ⟨ty, hm⟩ := ty_of (X := X) r hw ht
    exact ⟨t, by simpa using hm, ty⟩
  cases d with
  | non => exact key _ (.inl rfl)
  | bl _ => exact key _ (.inl rfl)
  | int _ => exact key _ (.inl rfl)
  | str _ => exact key _ (.inl rfl)
  | lst _ => exact key _ (.inl rfl)
  | tup _ => exact key _ (.inl rfl)
  | scr _ => exact key _ (.inl rfl)
  | obj _ _ => cases h
  | exn _ _ => cases h
  | ptr a =>
    have h : (match W a with | some (.ins C _) => some (some C) | some (.lst _) => some none | none => none) = some none := h
    cases q : W a with
    | none => rw [q] at h; cases h
    | some m =>
      rw [q] at h
      cases m with
      | ins _ _ => cases h
      | lst ds => exact key _ (.inr ⟨a, ds, rfl, q, rfl⟩)
theorem boot_ty {n : String} (hn : n = "int" ∨ n = "bool" ∨ n = "str" ∨ n = "list" ∨ n = "tuple") : bootBuiltins (Str.ofString n) = some (.type n) ∧ Str.ofString n ∈ bltNames := by
  rcases hn with rfl | rfl | rfl | rfl | rfl <;> exact ⟨by decide +kernel, by simp [bltNames]⟩
theorem s_isi (C : Cok T U G k cm X) {n : String} {x y : Str} {p p' : Pos} (hx : gloB X.env.scope x "isinstance" = true) (hy : (tyB n y && glB X.env.scope y && !oddB y) = true) (hs : isStar pa = false) (ha : PE X pa (pE T U Z G k a)) :
    PE X (.Call (.Name x p) [pa, .Name y p'] [] pos) (pE T U Z G k (.isi a (.ty n))) := by
  obtain ⟨e1, e2, e3, e4⟩ := glo hx
  simp only [tyB, Bool.and_eq_true] at hy
  obtain ⟨⟨⟨t1, t2⟩, t3⟩, t4⟩ := hy
  have hn := ty_names t1
  have t2 := of_decide_eq_true t2
  obtain ⟨b1, b2⟩ := boot_ty hn
  obtain ⟨f1, f2, f3, f4⟩ := glo (sc := X.env.scope) (x := y) (y := Str.ofString n) (by unfold gloB; rw [t2, decide_eq_true rfl, ← t2, t3, t4]; rfl)
  have gy : X.mg y = none := by rw [t2]; exact C.blt _ b2
  have gx : X.mg x = none := by rw [e1]; exact C.blt _ (by simp [bltNames])
  have py : PE X (.Name y p') (tC (.ty n)) := pe_bltn f2 gy (by rw [t2]; exact b1) rfl f4 f3
  refine (pe_callB (r := rIsi X.K) call_isi e2 gx (by rw [e1]; decide +kernel) (pa_cons ha (pa_cons py pa_nil) (star1 hs)) e4 e3 (star1 hs)).to fun σ H Q ⟨g, W, rg, hw, h⟩ => ?_
  simp only [wpE] at h
  refine tE_mono (moE a) (fun v H1 ⟨d, W1, r1, rg1, w1, e5, f⟩ => ?_) (one (moE a) rg hw h)
  obtain ⟨f2, ⟨t, f1, f⟩ | ⟨c, k1, k2, f⟩⟩ := f
  · obtain ⟨ty, ht⟩ := ty_of (X := X) r1 w1 f1
    exact ⟨v, .ty n, _, _, _, rfl, .ty n, ty, kit_isi hn ht, f _ _ (.bl _) w1 e5⟩
  · obtain ⟨p, dx, fv, rfl, hp⟩ := ins_of r1 w1 k1
    exact ⟨_, .ty n, _, _, _, rfl, .ty n, .base (.ins hp (C.own.cls _ k2).2.cl (C.own.cls _ k2).2.ha (C.own.cls _ k2).2.hn (C.own.cls _ k2).2.htk (C.own.cls _ k2).2.hm), ((C.own.ty c k2) n (by rcases hn with rfl | rfl | rfl | rfl | rfl <;> simp)).2.2, f _ _ (.bl _) w1 e5⟩
/-- isinstance(e, C), C an own class -/
theorem s_isiO (C : Cok T U G k cm X) (hcm : cm.calm = true) {c : Nat} {x y : Str} {p p' : Pos} (hx : gloB X.env.scope x "isinstance" = true) (hy : gloB X.env.scope y (T.cn c) = true) (hc : T.isC c = true) (ho : T.isO c = true) (hs : isStar pa = false) (ha : PE X pa (pE T U Z G k a)) :
    PE X (.Call (.Name x p) [pa, .Name y p'] [] pos) (pE T U Z G k (.isi a (.own c))) := by
  obtain ⟨e1, e2, e3, e4⟩ := glo hx
  obtain ⟨f1, f2, f3, f4⟩ := glo hy
  have gx : X.mg x = none := by rw [e1]; exact C.blt _ (by simp [bltNames])
  have gy : X.mg y = some (.ref (T.cad c)) := by rw [f1]; exact (C.cls c hc).2
  have py : PE X (.Name y p') (tC (.ref (T.cad c))) := pe_glob (v := .ref (T.cad c)) f2 gy rfl f3
  refine (pe_callB (r := rIsi X.K) call_isi e2 gx (by rw [e1]; decide +kernel) (pa_cons ha (pa_cons py pa_nil) (star1 hs)) e4 e3 (star1 hs)).to fun σ H Q ⟨g, W, rg, hw, h⟩ => ?_
  simp only [wpE] at h
  refine tE_mono (moE a) (fun v H1 ⟨d, W1, r1, rg1, w1, e5, f⟩ => ?_) (one (moE a) rg hw h)
  obtain ⟨_, ⟨k1, f⟩ | ⟨c', k1, k2, f⟩⟩ := f
  · obtain ⟨t, hm, ty⟩ := kd_of (X := X) r1 w1 k1
    exact ⟨v, .ref (T.cad c), _, _, _, rfl, .own _, ty, ((C.own.ty c ho) t hm).2.1, f _ _ (.bl _) w1 e5⟩
  · obtain ⟨p, dx, fv, rfl, hp⟩ := ins_of r1 w1 k1
    exact ⟨_, .ref (T.cad c), _, _, _, rfl, .own _, .base (.ins hp (C.own.cls _ k2).2.cl (C.own.cls _ k2).2.ha (C.own.cls _ k2).2.hn (C.own.cls _ k2).2.htk (C.own.cls _ k2).2.hm), C.own.kin _ _ k2 ho, f _ _ (.bl _) w1 e5⟩
theorem mem_look {α : Type} : ∀ {l : List (Nat × α)} {f : Nat} {x : α}, l.lookup f = some x → (f, x) ∈ l
  | (g, y) :: l, f, x, h => by
    rw [List.lookup_cons] at h
    by_cases e : f = g
    · subst e
      simp at h
      subst h
      exact List.mem_cons_self
    · have e' : (f == g) = false := by simpa using e
      rw [e'] at h
      exact List.mem_cons_of_mem _ (mem_look h)
theorem base_of {p : Expr} {f : Str} {env : Env} {t : Sem Value} (h : noCall p = true) : attributeBase p f env t = t := by
  unfold attributeBase
  split
  · next id _ _ =>
    have h : (id != "super") = true := h
    rw [h]
    simp
  · rfl
theorem s_attr (C : Cok T U G k cm X) {f : Nat} (hf : f < T.nf) (hc : noCall pa = true) (ha : PE X pa (pE T U Z G k a)) : PE X (.Attribute pa (T.fnm f) pos) (pE T U Z G k (.attr a f)) := (pe_fld ha (base_of hc)).to fun σ H Q ⟨g, W, rg, hw, h⟩ => by
  simp only [wpE] at h
  refine tE_mono (moE a) (fun v H1 ⟨d, W1, r1, rg1, w1, e5, f1⟩ => ?_) (one (moE a) rg hw h)
  unfold attrD at f1
  split at f1
  · obtain ⟨x, e, f1⟩ := f1
    cases r1 with
    | obj q n h r =>
      obtain ⟨v, h1, h2⟩ := r.look hf e
      have q2 := List.all_eq_true.mp q _ (mem_look e)
      obtain ⟨c1, c2⟩ := C.fld _ _ q2
      exact ⟨_, _, _, _, v, rfl, h, c1, c2, h1, f1 _ _ h2 w1 e5⟩
  · obtain ⟨C', fs, x, e0, e, f1⟩ := f1
    cases r1
    obtain ⟨o, h1, h2⟩ := w1.cell_ _ _ e0
    cases h2 with
    | ins q r =>
      obtain ⟨v, h3, h4⟩ := r.look hf e
      have q2 := List.all_eq_true.mp q _ (mem_look e)
      obtain ⟨c1, c2⟩ := C.fld _ _ q2
      exact ⟨_, _, _, _, v, rfl, h1, c1, c2, h3, f1 _ _ h4 w1 e5⟩
  · exact f1.elim
end
end Tw
set_option maxHeartbeats 4000000
namespace Tw
open PySem PySem.Spec L2
open PyProof.Rows (b2i)
section
variable {T : Tb} {U : Ux} {G : Gs} {k : Nat} {X : Cx} {Z : WX} {cm : Md} {a b c : E} {pa pb pc : Expr} {pos apos : Pos} {es : List E} {ps : List Expr}
/-- a list cell is written by a method -/
theorem cell_ok {p : Addr} {ds ds' : List D} {W : Om} {H : Hp} {vs' : List V} {r : D} {z : V} {Q : VK} (hw : RepW T U W H) (e : W p = some (.lst ds)) (rs : Reps T U W H ds' vs') (rr : Rep T U W H r z) (h : Post T U W H Q r (W.set p (.lst ds'))) :
    Q z (upd H p (.lst vs')) := by
  have x : Ext W H (W.set p (.lst ds')) (upd H p (.lst vs')) := Ext.write e
  exact h _ _ (rr.ext x) (hw.write e (.lst rs)) x
theorem Reps.dropLast {W : Om} {H : Hp} {ds : List D} {vs : List V} (r : Reps T U W H ds vs) : Reps T U W H ds.dropLast vs.dropLast := by
  rw [List.dropLast_eq_take, List.dropLast_eq_take, ← r.length]
  exact r.take _
theorem cellOf {W1 : Om} {H1 : Hp} {p : Addr} {ds : List D} (w : RepW T U W1 H1) (e : W1 p = some (.lst ds)) : ∃ vs, H1 p = some (.lst vs) ∧ Reps T U W1 H1 ds vs := by
  obtain ⟨o, h1, h2⟩ := w.cell_ _ _ e
  cases h2 with
  | lst r => exact ⟨_, h1, r⟩
theorem lis_ok {K : PySem.W.Frag} {W : Om} {H : Hp} {d : D} {x : V} {ds : List D} (hw : RepW T U W H) (r : Rep T U W H d x) (e : lisOf W d = some ds) : ∃ p vs, x = .ref p ∧ SqL K H p vs ∧ Reps T U W H ds vs := by
  cases r with
  | lst n h r => cases e; exact ⟨_, _, rfl, SqL.of h, r⟩
  | scr ns n h => cases e; exact ⟨_, _, rfl, .inl (.inr ⟨_, h⟩), Reps.ints ns⟩
  | ptr a =>
    have e : (match W a with | some (.lst ds) => some ds | _ => none) = some ds := e
    cases q : W a with
    | none => rw [q] at e; cases e
    | some m =>
      rw [q] at e
      cases m with
      | ins C fs => cases e
      | lst es =>
        cases e
        obtain ⟨vs, h1, h2⟩ := cellOf hw q
        exact ⟨_, _, rfl, SqL.of h1, h2⟩
  | non => cases e
  | bl _ => cases e
  | int _ => cases e
  | str _ => cases e
  | tup _ _ _ => cases e
  | obj _ _ _ _ => cases e
theorem s_append {e : E} {pe : Expr} (hl : (apos.endLine == pos.line) = true) (hc : noCall pa = true) (hs : isStar pe = false) (ha : PE X pa (pE T U Z G k a)) (hb : PA X [pe] (pL T U Z G k [e])) :
    PE X (.Call (.Attribute pa "append" apos) [pe] [] pos) (pE T U Z G k (.meth .append a [e])) := by
  refine (pe_bm (X := X) PySem.F.plainAttrs_list PySem.F.slot_list_append PySem.F.type_list_append mt_append ha hb (base_of hc) (by rw [star1 hs]; rfl) hl (star1 hs) rfl).to fun σ H Q ⟨g, W, rg, hw, h⟩ => ?_
  simp only [wpE] at h
  refine tE_mono (moE a) (fun v H1 ⟨d, W1, r1, rg1, w1, e1, p, ds, ed, e0, f⟩ => ?_) (one (moE a) rg hw h)
  subst ed
  cases r1
  obtain ⟨vs, h1, rs⟩ := cellOf w1 e0
  refine ⟨.inl ⟨rfl, _, SqL.of h1⟩, ?_⟩
  refine tL_mono (moEs [e]) (fun us H2 ⟨d2, W2, r2, rg2, w2, e2, f2⟩ => ?_) (oneL (moEs [e]) rg1 w1 (moEs [e] (fun _ _ z => z) (PostX.step e1) f))
  match d2, r2, f2 with
  | [d], r2, ⟨ds2, e3, l3, f3⟩ =>
    obtain ⟨y, rfl, ry⟩ := r2.one
    obtain ⟨vs2, h3, rs2⟩ := cellOf w2 e3
    exact ⟨_, _, _, rfl, rfl, h3, by rw [← rs2.length]; exact l3, cell_ok w2 e3 (rs2.append (.cons ry .nil)) .non (Post.step (e1.trans e2) _ _ f3)⟩
  | [], _, f2 => exact f2.elim
  | _ :: _ :: _, _, f2 => exact f2.elim
theorem methD.ins {o : D} {xs : List D} {W : Om} {Q : PQ} (h : methD .insert o xs W Q) : ∃ a i d ds, o = .ptr a ∧ xs = [.int i, d] ∧ W a = some (.lst ds) ∧ ds.length < sizeLine ∧ (0 ≤ i ∧ i < 2 ^ 63) ∧ Q .non (W.set a (.lst (ds.take i.toNat ++ [d] ++ ds.drop i.toNat))) := by
  unfold methD at h
  split at h
  all_goals first | contradiction | exact h.elim | (obtain ⟨ds, h⟩ := h; exact ⟨_, _, _, ds, rfl, rfl, h⟩)
theorem s_insert {e e2 : E} {pe pe2 : Expr} (hl : (apos.endLine == pos.line) = true) (hc : noCall pa = true) (hs : isStar pe = false) (hs2 : isStar pe2 = false) (ha : PE X pa (pE T U Z G k a)) (hb : PA X [pe, pe2] (pL T U Z G k [e, e2])) :
    PE X (.Call (.Attribute pa "insert" apos) [pe, pe2] [] pos) (pE T U Z G k (.meth .insert a [e, e2])) := by
  refine (pe_bm (X := X) PySem.F.plainAttrs_list PySem.F.slot_list_insert PySem.F.type_list_insert mt_insert ha hb (base_of hc) (by rw [star1 hs, star1 hs2]; rfl) hl (star1 hs) (by rw [star1 hs2]; rfl)).to fun σ H Q ⟨g, W, rg, hw, h⟩ => ?_
  simp only [wpE] at h
  refine tE_mono (moE a) (fun v H1 ⟨d, W1, r1, rg1, w1, e1, p, ds, ed, e0, f⟩ => ?_) (one (moE a) rg hw h)
  subst ed
  cases r1
  obtain ⟨vs, h1, rs⟩ := cellOf w1 e0
  refine ⟨.inl ⟨rfl, _, SqL.of h1⟩, ?_⟩
  refine tL_mono (moEs [e, e2]) (fun us H2 ⟨d2, W2, r2, rg2, w2, e2, f2⟩ => ?_) (oneL (moEs [e, e2]) rg1 w1 (moEs [e, e2] (fun _ _ z => z) (PostX.step e1) f))
  obtain ⟨p', i, dd, ds2, ep, es2, e3, l3, l4, f3⟩ := methD.ins f2
  cases ep
  subst es2
  cases r2 with
  | cons r rr =>
    obtain ⟨z, rfl, ry⟩ := rr.one
    cases r
    obtain ⟨vs2, h3, rs2⟩ := cellOf w2 e3
    exact ⟨_, _, i, _, rfl, rfl, h3, by rw [← rs2.length]; exact l3, l4.1, l4.2, cell_ok w2 e3 (((rs2.take _).append (.cons ry .nil)).append (rs2.drop _)) .non (Post.step (e1.trans e2) _ _ f3)⟩
theorem s_pop (hl : (apos.endLine == pos.line) = true) (hc : noCall pa = true) (ha : PE X pa (pE T U Z G k a)) : PE X (.Call (.Attribute pa "pop" apos) [] [] pos) (pE T U Z G k (.meth .pop a [])) := by
  refine (pe_bm0 (X := X) PySem.F.plainAttrs_list PySem.F.slot_list_pop PySem.F.type_list_pop mt_pop ha (base_of hc) hl).to fun σ H Q ⟨g, W, rg, hw, h⟩ => ?_
  simp only [wpE, wpEs] at h
  refine tE_mono (moE a) (fun v H1 ⟨d, W1, r1, rg1, w1, e1, p, ds, ed, e0, f⟩ => ?_) (one (moE a) rg hw h)
  subst ed
  cases r1
  obtain ⟨ds2, y, e3, l3, f3⟩ := f
  obtain ⟨vs2, h3, rs2⟩ := cellOf w1 e3
  obtain ⟨z, l4, ry⟩ := rs2.get l3
  exact ⟨.inl ⟨rfl, _, SqL.of h3⟩, _, _, _, rfl, rfl, h3, by rw [← rs2.length]; exact l4, cell_ok w1 e3 rs2.dropLast ry (Post.step e1 _ _ f3)⟩
theorem lenEs {P : Pm} : ∀ {es : List E} {g : Gm} {W : Om} {Q : List D → Om → Prop} {X : PX}, wpEs G k P es g W Q X → wpEs G k P es g W (fun ds W => ds.length = es.length ∧ Q ds W) X
  | [], g, W, Q, X, h => by
    simp only [wpEs] at h ⊢
    exact ⟨rfl, h⟩
  | e :: es, g, W, Q, X, h => by
    simp only [wpEs] at h ⊢
    exact moE e (fun d W1 z => moEs es (fun ds W2 z => ⟨congrArg Nat.succ z.1, z.2⟩) (fun _ _ z => z) (lenEs z)) (fun _ _ z => z) h
theorem ixN_seq {n j : Nat} {i : Int} (h : ixN n i = some j) : seqIndex? i n = some j := by
  unfold ixN at h
  unfold seqIndex?
  split at h
  · next h0 =>
    split at h
    · next h1 =>
      cases h
      have e : (if i < 0 then i + (n : Int) else i) = i := if_neg (by omega)
      simp only [e]
      rw [if_pos (by simp only [Bool.and_eq_true, decide_eq_true_eq]; constructor <;> omega)]
    · cases h
  · next h0 =>
    split at h
    · next h1 =>
      cases h
      have e : (if i < 0 then i + (n : Int) else i) = i + n := if_pos (by omega)
      simp only [e]
      rw [if_pos (by simp only [Bool.and_eq_true, decide_eq_true_eq]; constructor <;> omega)]
    · cases h
theorem methD.popi {o : D} {x : D} {W : Om} {Q : PQ} (h : methD .pop o [x] W Q) : ∃ a i ds j d, o = .ptr a ∧ x = .int i ∧ W a = some (.lst ds) ∧ (-(2 ^ 63) ≤ i ∧ i < 2 ^ 63) ∧ ixN ds.length i = some j ∧ ds[j]? = some d ∧ Q d (W.set a (.lst (ds.eraseIdx j))) := by
  unfold methD at h
  split at h
  all_goals first | contradiction | exact h.elim | (obtain ⟨ds, j, d, h⟩ := h; rename_i e; cases e; exact ⟨_, _, ds, j, d, rfl, rfl, h⟩)
theorem s_popi {e : E} {pe : Expr} (hl : (apos.endLine == pos.line) = true) (hc : noCall pa = true) (hs : isStar pe = false) (ha : PE X pa (pE T U Z G k a)) (hb : PA X [pe] (pL T U Z G k [e])) :
    PE X (.Call (.Attribute pa "pop" apos) [pe] [] pos) (pE T U Z G k (.meth .pop a [e])) := by
  refine (pe_bm (X := X) PySem.F.plainAttrs_list PySem.F.slot_list_pop PySem.F.type_list_pop mt_popAt ha hb (base_of hc) (by rw [star1 hs]; rfl) hl (star1 hs) rfl).to fun σ H Q ⟨g, W, rg, hw, h⟩ => ?_
  simp only [wpE] at h
  refine tE_mono (moE a) (fun v H1 ⟨d, W1, r1, rg1, w1, e1, p, ds, ed, e0, f⟩ => ?_) (one (moE a) rg hw h)
  subst ed
  cases r1
  obtain ⟨vs, h1, rs⟩ := cellOf w1 e0
  refine ⟨.inl ⟨rfl, _, SqL.of h1⟩, ?_⟩
  refine tL_mono (moEs [e]) (fun us H2 ⟨d2, W2, r2, rg2, w2, e2, f2⟩ => ?_) (oneL (moEs [e]) rg1 w1 (lenEs (moEs [e] (fun _ _ z => z) (PostX.step e1) f)))
  obtain ⟨hl2, f2⟩ := f2
  match d2, hl2, r2, f2 with
  | [d], _, r2, f2 =>
    obtain ⟨p', i, ds2, j, y, ep, rfl, e3, l3, l4, l5, f3⟩ := methD.popi f2
    cases ep
    obtain ⟨z, rfl, ry⟩ := r2.one
    cases ry
    obtain ⟨vs2, h3, rs2⟩ := cellOf w2 e3
    obtain ⟨z, l6, ry⟩ := rs2.get l5
    exact ⟨_, _, i, j, _, rfl, rfl, h3, l3.1, l3.2, by rw [← rs2.length]; exact ixN_seq l4, l6, cell_ok w2 e3 (rs2.eraseIdx _) ry (Post.step (e1.trans e2) _ _ f3)⟩
theorem s_reverse (hl : (apos.endLine == pos.line) = true) (hc : noCall pa = true) (ha : PE X pa (pE T U Z G k a)) : PE X (.Call (.Attribute pa "reverse" apos) [] [] pos) (pE T U Z G k (.meth .reverse a [])) := by
  refine (pe_bm0 (X := X) PySem.F.plainAttrs_list PySem.F.slot_list_reverse PySem.F.type_list_reverse mt_reverse ha (base_of hc) hl).to fun σ H Q ⟨g, W, rg, hw, h⟩ => ?_
  simp only [wpE, wpEs] at h
  refine tE_mono (moE a) (fun v H1 ⟨d, W1, r1, rg1, w1, e1, p, ds, ed, e0, f⟩ => ?_) (one (moE a) rg hw h)
  subst ed
  cases r1
  obtain ⟨ds2, e3, f3⟩ := f
  obtain ⟨vs2, h3, rs2⟩ := cellOf w1 e3
  exact ⟨.inl ⟨rfl, _, SqL.of h3⟩, _, _, rfl, rfl, h3, cell_ok w1 e3 rs2.reverse .non (Post.step e1 _ _ f3)⟩
theorem s_clear (hl : (apos.endLine == pos.line) = true) (hc : noCall pa = true) (ha : PE X pa (pE T U Z G k a)) : PE X (.Call (.Attribute pa "clear" apos) [] [] pos) (pE T U Z G k (.meth .clear a [])) := by
  refine (pe_bm0 (X := X) PySem.F.plainAttrs_list PySem.F.slot_list_clear PySem.F.type_list_clear mt_clear ha (base_of hc) hl).to fun σ H Q ⟨g, W, rg, hw, h⟩ => ?_
  simp only [wpE, wpEs] at h
  refine tE_mono (moE a) (fun v H1 ⟨d, W1, r1, rg1, w1, e1, p, ds, ed, e0, f⟩ => ?_) (one (moE a) rg hw h)
  subst ed
  cases r1
  obtain ⟨ds2, e3, f3⟩ := f
  obtain ⟨vs2, h3, rs2⟩ := cellOf w1 e3
  exact ⟨.inl ⟨rfl, _, SqL.of h3⟩, _, _, rfl, rfl, h3, cell_ok w1 e3 .nil .non (Post.step e1 _ _ f3)⟩
theorem s_rev {own : Bool} {j : Nat} {p1 p2 p3 : Pos} (ha : PE X pa (pE T U Z G k a)) : PE X (.Subscript pa (.Slice none none (some (.UnaryOp .USub (.Constant (.int 1) j p1) p2)) p3) pos) (pE T U Z G k (.rev own a)) :=
  (pe_revA ha).to fun σ H Q ⟨g, W, rg, hw, h⟩ => by
    simp only [wpE] at h
    refine tE_mono (moE a) (fun v H1 ⟨d, W1, r1, rg1, w1, e1, f⟩ => ?_) (one (moE a) rg hw h)
    unfold revD at f
    split at f
    · cases r1 with
      | tup n hp rs => exact ⟨_, _, rfl, .inr ⟨SqT.of hp, fun p hp => tup_ok w1 rs.reverse (Post.step e1 _ _ f) p hp⟩⟩
    · obtain ⟨ds, e0, f⟩ := f
      obtain ⟨p, vs, rfl, hq, rs⟩ := lis_ok (K := X.K) w1 r1 e0
      exact ⟨_, _, rfl, .inl ⟨hq, fun p hp => mkL_ok w1 rs.reverse (mkL_step e1 f) p hp⟩⟩
theorem Reps.cut {W : Om} {H : Hp} {ds : List D} {vs : List V} (r : Reps T U W H ds vs) (lo hi : Option Int) : Reps T U W H (cutD ds lo hi) (cutV vs lo hi) := by
  unfold cutD cutV
  rw [← r.length]
  exact (r.drop _).take _
theorem cutD_whole {α : Type} {xs : List α} {lo hi : Option Int} (h : HT.sIx xs.length 0 lo = 0 ∧ HT.sIx xs.length xs.length hi = xs.length) : cutD xs lo hi = xs := by
  unfold cutD
  rw [h.1, h.2, List.drop_zero, Nat.sub_zero, List.take_length]
/-- a slice, by the layer's rules -/
def rSlD (T : Tb) (U : Addr → Prop) (own : Bool) : V → Option Int → Option Int → Hp → VK → Prop := fun x lo hi H Q => ∃ d W, Rep T U W H d x ∧ RepW T U W H ∧ sliceD own d lo hi W (Post T U W H Q)
theorem sl_any (own : Bool) : SlR X (rSlD T U own) := by
  intro pins s σ H x v vl vu lo hi sl Q I rx hs pl pu ⟨d, W, rd, hw, f⟩
  have lis : ∀ {ds : List D} {p : Addr} {vs : List V}, x = .ref p → SqL X.K H p vs → Reps T U W H ds vs → mkL own (cutD ds lo hi) W (Post T U W H Q) →
      ∃ T id, typeLookup (.type T) "__getitem__" = pure (some (.builtin id)) ∧ s.TypeIs v T ∧ wpAny (model X.prog X.w) X.A (getItem v (.ref sl)) (EP X pins σ Q) X.xe s := fun {ds p vs} e h r z =>
    sl_list pins s σ H x v vl vu lo hi sl Q I rx hs pl pu ⟨_, _, e, h, fun p hp => mkL_ok hw (r.cut lo hi) z p hp⟩
  cases rd with
  | lst n h r => exact lis rfl (SqL.of h) r f
  | scr ns n h => exact lis rfl (.inl (.inr ⟨_, h⟩)) (Reps.ints ns) f
  | ptr a =>
    obtain ⟨ds, e, f⟩ := f
    obtain ⟨vs, h1, h2⟩ := cellOf hw e
    exact lis rfl (SqL.of h1) h2 f
  | tup n h r =>
    refine sl_tupA pins s σ H _ v vl vu lo hi sl Q I rx hs pl pu ⟨_, _, rfl, SqT.of h, fun z => ?_, fun _ p hp => tup_ok hw (r.cut lo hi) f p hp⟩
    rw [← r.length] at z
    have e : cutD _ lo hi = _ := cutD_whole z
    have f : Post T U W H Q (.tup (cutD _ lo hi)) W := f
    rw [e] at f
    exact f _ _ (.tup n h r) hw .refl
  | non => exact f.elim
  | bl _ => exact f.elim
  | int _ => exact f.elim
  | str _ => exact f.elim
  | obj _ _ _ _ => exact f.elim
abbrev pO (T : Tb) (U : Ux) (Z : WX) (G : Gs) (k : Nat) (e : Option E) : TO := tPo T U Z (wpO G k T.toPm e)
theorem s_none : PO X none (pO T U Z G k none) := ⟨fun pins s σ H Q I ⟨g, W, rg, hw, h⟩ => by
  simp only [wpO] at h
  exact po_none.run pins s σ H Q I (h H hw .refl)⟩
theorem s_some (ha : PE X pa (pE T U Z G k a)) : PO X (some pa) (pO T U Z G k (some a)) := ⟨fun pins s σ H Q I ⟨g, W, rg, hw, h⟩ => by
  simp only [wpO] at h
  refine (po_some ha).run pins s σ H Q I (tE_mono (moE a) (fun x H1 ⟨d, W1, r1, rg1, w1, e1, f⟩ => ?_) (one (moE a) rg hw h))
  cases d <;> first | exact f.elim | skip
  cases r1
  exact ⟨_, rfl, f _ w1 e1⟩⟩
theorem s_slice {own : Bool} {lo hi : Option E} {pl ph : Option Expr} {p2 : Pos} (ha : PE X pa (pE T U Z G k a)) (hl : PO X pl (pO T U Z G k lo)) (hh : PO X ph (pO T U Z G k hi)) :
    PE X (.Subscript pa (.Slice pl ph none p2) pos) (pE T U Z G k (.slice own a lo hi)) := (pe_slice (sl_any (T := T) (U := U) own) ha hl hh).to fun σ H Q ⟨g, W, rg, hw, h⟩ => by
  simp only [wpE] at h
  refine tE_mono (moE a) (fun x H1 ⟨d, W1, r1, rg1, w1, e1, f⟩ => ?_) (one (moE a) rg hw h)
  refine tPo_mono (moO lo) (fun l H2 ⟨W2, rg2, w2, e2, f2⟩ => ?_) (oneO (moO lo) rg1 w1 (moO lo (fun _ _ z => z) (PostX.step e1) f))
  refine tPo_mono (moO hi) (fun u H3 ⟨W3, rg3, w3, e3, f3⟩ => ?_) (oneO (moO hi) rg2 w2 (moO hi (fun _ _ z => z) (PostX.step (e1.trans e2)) f2))
  exact ⟨d, W3, (r1.ext e2).ext e3, w3, sliceD.mono (Post.step ((e1.trans e2).trans e3)) f3⟩
/-- what is an instance, tracked -/
theorem cls_ok {W : Om} {H : Hp} {d : D} {x : V} {C : Nat} {fs : List (Nat × D)} (hw : RepW T U W H) (r : Rep T U W H d x) (e : clsD W d = some (C, fs)) : ∃ p dx fv, x = .ref p ∧ H p = some (.ins (T.cad C) dx fv) ∧ RepF T U W H fs fv := by
  cases r with
  | obj q n h r => cases e; exact ⟨_, _, _, rfl, h, r⟩
  | ptr a =>
    have e : (match W a with | some (.ins C fs) => some (C, fs) | _ => none) = some (C, fs) := e
    cases q : W a with
    | none => rw [q] at e; cases e
    | some m =>
      rw [q] at e
      cases m with
      | lst _ => cases e
      | ins C' fs' =>
        cases e
        obtain ⟨o, h1, h2⟩ := hw.cell_ _ _ q
        cases h2 with
        | ins _ r => exact ⟨_, _, _, rfl, h1, r⟩
  | non => cases e
  | bl _ => cases e
  | int _ => cases e
  | str _ => cases e
  | lst _ _ _ => cases e
  | tup _ _ _ => cases e
  | scr _ _ _ => cases e
theorem allStar {env : Env} {pos : Pos} : ∀ {r : List Expr}, (r.any isStar) = false → (backTo pos (starEach r env)).all (!·.1) = true
  | [], _ => rfl
  | p :: r, h => by
    rw [List.any_cons, Bool.or_eq_false_iff] at h
    rw [star1 h.1]
    show (true && (backTo pos (starEach r env)).all (!·.1)) = true
    rw [Bool.true_and]
    exact allStar h.2
theorem s_umeth (C : Cok T U G k cm X) (hcm : cm.calm = true) (tk : Takes X Z) {m : Nat} (hm : m < T.nf) (hl : (apos.endLine == pos.line) = true) (hc : noCall pa = true) (hfew : es.length < 29) (hs : ps.any isStar = false) (hn : es.length = ps.length)
    (ha : PE X pa (pE T U Z G k a)) (hb : PA X ps (pL T U Z G k es)) : PE X (.Call (.Attribute pa (T.fnm m) apos) ps [] pos) (pE T U Z G k (.umeth m a es)) := by
  refine ⟨fun pins s σ H Q I ⟨g, W, rg, hw, h⟩ => ?_⟩
  simp only [wpE] at h
  have ht : eval (.Call (.Attribute pa (T.fnm m) apos) ps [] pos) X.env = (do
      let ov ← eval pa X.env
      standAt apos.atName
      let (f, first) ← holding [ov] (getMethod ov (T.fnm m) (plainOf pa X.env))
      callWith pos f first (backTo pos (starEach ps X.env)) (backToKw pos (keywordEach [] X.env))) := by
    rw [arm_eval_Call, base_of hc]
    have hf : methodCallForm (ps.length + ([] : List Keyword).length) (backTo pos (starEach ps X.env)) (backToKw pos (keywordEach [] X.env)) = true := by
      unfold methodCallForm
      rw [allStar hs]
      show (true && true && decide (ps.length + 0 + 0 < 30)) = true
      rw [decide_eq_true (by omega)]
      rfl
    refine congrArg (fun z => eval pa X.env >>= z) (funext fun ov => ?_)
    refine congrArg (fun z => standAt apos.atName >>= z) (funext fun _ => ?_)
    exact mcall_line hf hl
  refine PySem.W.methodCall_KW (pl := plainOf pa X.env) (thn (ha.run pins s σ H _ I (one (moE a) rg hw h)) fun u s1 ⟨x, H1, I1, rx, d, W1, r1, rg1, w1, e1, C', fs, f, ec, el, em, z⟩ => ?_) ht
  obtain ⟨hf, c1, c2⟩ := C.mth _ _ _ em
  obtain ⟨p, dx, fv, rfl, h1, rf⟩ := cls_ok w1 r1 ec
  obtain rfl : u = Value.ref p := rx
  obtain ⟨fd, qs, hb2, hk, F, _, _⟩ := C.fn f k hf (Nat.le_refl _)
  refine getmeth_ok I1 h1 c1 c2 (rf.lookN hm el) ?_
  have zz := oneL (moEs es) rg1 w1 (moEs es (fun _ _ z => z) (PostX.step e1) z)
  cases ps with
  | nil =>
    refine PySem.W.callWith_K0 (first := [.ref p]) I1.kIn hk ?_
    cases es with
    | nil =>
      simp only [wpEs] at z
      exact call_ok C tk hf (Nat.le_refl _) (by rw [hcm]; rfl) I1 (us := [.ref p]) (vs := [.ref p]) (.cons rfl .nil) (.cons r1 .nil) w1 (callW.mono G _ (Post.step e1) (PostX.step e1) z)
    | cons e es => cases hn
  | cons pe ps =>
    rw [List.any_cons, Bool.or_eq_false_iff] at hs
    refine PySem.W.callWith_K (first := [.ref p]) (h₀ := X.base) I.ok.mod.kin hk (thn (hb.run pos pins s1 σ H1 _ I1 zz) fun us s2 ⟨vs, H2, I2, r, d2, W2, r2, rg2, w2, e5, f1⟩ => ⟨I2.kIn, ?_⟩) (star1 hs.1) (plainStar hs.2)
    exact call_ok C tk hf (Nat.le_refl _) (by rw [hcm]; rfl) I2 (us := .ref p :: us) (vs := .ref p :: vs) (.cons rfl r) (.cons (r1.ext e5) r2) w2 (callW.mono G _ (Post.step (e1.trans e5)) (PostX.step (e1.trans e5)) f1)
/-- C(..): the instance and its dict, then __init__ -/
theorem make_ok (C : Cok T U G k cm X) (hcm : cm.calm = true) (tk : Takes X Z) {c f : Nat} {own : Bool} (hk : 0 < k) (hi : T.ini c = some f) {pins : List (Addr × Obj)} {s : Shared} {σ : St} {H : Hp} {W : Om} {us : List Value} {vs : List V} {ds : List D} {Q : VK}
    (I : L2.Inv X pins σ H s) (rv : Vals vs us) (rd : Reps T U W H ds vs) (hw : RepW T U W H)
    (h : ∀ p, W p = none → callW G (k - 1) f (.ptr p :: ds) (W.set p (.ins c [])) (fun d W2 => d = .non ∧ madeD own p W2 (Post T U W H Q)) (fun x W2 => PostX T U W H σ Z x (W2.del p))) :
    wpAny (model X.prog X.w) X.A (PySem.call (.ref (T.cad c)) us) (EP X pins σ Q) X.xe s := by
  obtain ⟨hf, M, gC⟩ := C.ini _ _ hi
  obtain ⟨fd, qs, hb, hkp, F, _, _⟩ := C.fn f (k - 1) hf (Nat.sub_le _ _)
  have hroom : Room (k - 1 + 1) X.A := by rw [Nat.sub_add_cancel hk]; exact C.room hcm
  have hx : H (s.heap.objs.size + 1) = none := I.hok.fresh (Nat.le_succ _)
  have hdx : H s.heap.objs.size = none := I.hok.fresh (Nat.le_refl _)
  generalize hxe : s.heap.objs.size + 1 = x at hx
  generalize hde : s.heap.objs.size = dx at hdx
  have ne : dx ≠ x := by rw [← hxe, ← hde]; exact Nat.ne_of_lt (Nat.lt_succ_self _)
  have wx : W x = none := (hw.new hx).1
  -- the state with the new instance
  have x1 := Ext.fresh (T := T) (U := U) (o := .own x) hdx hw
  have w1 : RepW T U W (upd H dx (.own x)) := hw.fresh hdx
  have hx1 : upd H dx (.own x) x = none := by rw [upd_ne (Ne.symm ne)]; exact hx
  have x2 : Ext W (upd H dx (.own x)) (W.set x (.ins c [])) (upd (upd H dx (.own x)) x (.ins (T.cad c) dx [])) := Ext.cell hx1
  have w2 : RepW T U (W.set x (.ins c [])) (upd (upd H dx (.own x)) x (.ins (T.cad c) dx [])) := w1.cell hx1 (.ins rfl .nil)
  have xx := x1.1.trans x2
  obtain ⟨R, hR, hq, hxx⟩ := h x wx
  have I2 : L2.Inv X pins σ (upd (upd H dx (.own x)) x (.ins (T.cad c) dx [])) { s with heap := (s.heap.push PySem.W.emptyDict).push (PySem.W.instObj (T.cad c) s.heap.objs.size) } := by
    rw [← hxe, ← hde]
    exact Inv.made (C := T.cad c) I
  have r2 : Vals (V.ref x :: vs) (Value.ref x :: us) := .cons (show RelV (.ref x) (Value.ref x) from rfl) rv
  have sp : spOf T (G f (k - 1)) (V.ref x :: vs) (upd (upd H dx (.own x)) x (.ins (T.cad c) dx [])) (fun v H2 => v = .non ∧ Q (.ref x) H2) (WE Z σ) := by
    refine ⟨U, .ptr x :: ds, _, R, .cons (.ptr x) (rd.ext xx), w2, hR, fun d W' r v H' a b e => ?_, fun y W' r cv d H' a b e => ?_⟩
    · obtain ⟨ed, q⟩ := hq d W' r
      subst ed
      cases a
      refine ⟨rfl, ?_⟩
      unfold madeD at q
      cases own with
      | true => exact q _ _ (.ptr x) b (xx.trans e)
      | false =>
        obtain ⟨C', fs, e0, q⟩ := q
        exact q _ _ (b.freezeI e0) (b.sub Om.del_sub) ((xx.trans e).trans (Ext.sub Om.del_sub))
    · exact hxx y W' r cv d H' (a.ext (Ext.sub Om.del_sub)) (b.sub Om.del_sub) ((xx.trans e).trans (Ext.sub Om.del_sub))
  have hl : (Value.ref x :: us).length = qs.length := by
    rw [← r2.length]
    exact F.len _ _ _ _ sp
  have bb := hb _ (Value.ref x :: us) I2.kIn (by rw [List.append_nil]; exact hl)
  rw [List.append_nil] at bb
  refine wpAny_call (make_map (f := T.fad f) I.kIn M.makes M.init (beq_iff_eq.mp M.fn) ?_)
  rw [hxe]
  refine codeAny_mono (F.run _ X.stack _ _ ⟨Value.ref x :: us, []⟩ (Value.ref x :: us) _ _ (WE Z σ) (hroom.make (T.cad c) us []) (I2.env0.make (T.cad c) us []) bb r2 sp) fun r s' hq' => ?_
  cases r with
  | error e => exact L2N.passAt tk σ pins _ _ e s' I2 hq'
  | ok fl =>
    cases fl with
    | ret u =>
      obtain ⟨v, H', I3, rv, ev, q3⟩ := I2.after hq'
      subst ev
      exact ⟨rv, ⟨V.ref x, H', I3, rfl, q3⟩⟩
    | next => exact False.elim hq'
    | brk => exact False.elim hq'
    | cont => exact False.elim hq'
theorem s_mk (C : Cok T U G k cm X) (hcm : cm.calm = true) (tk : Takes X Z) {c : Nat} {own : Bool} {x : Str} {p : Pos} (hx : gloB X.env.scope x (T.cn c) = true) (hs : ps.any isStar = false) (hn : es.length = ps.length) (ha : PA X ps (pL T U Z G k es))
    (hC : T.isC c = true) : PE X (.Call (.Name x p) ps [] pos) (pE T U Z G k (.mk c own es)) := by
  obtain ⟨e1, e2, e3, e4⟩ := glo hx
  obtain ⟨hk, gm⟩ := C.cls c hC
  refine ⟨fun pins s σ H Q I ⟨g, W, rg, hw, h⟩ => ?_⟩
  simp only [wpE] at h
  refine wpAny_Call_Name_kw (ld_glob I e2 (by rw [e1]; exact gm) ?_ e3)
  have z := oneL (moEs es) rg hw h
  cases ps with
  | nil =>
    refine PySem.W.callWith_K0 I.kIn hk ?_
    cases es with
    | nil =>
      simp only [wpEs] at h
      obtain ⟨f, hi, h0, h⟩ := h
      exact make_ok C hcm tk h0 hi I .nil .nil hw h
    | cons e es => cases hn
  | cons pe ps =>
    rw [List.any_cons, Bool.or_eq_false_iff] at hs
    refine PySem.W.callWith_K (h₀ := X.base) I.ok.mod.kin hk (thn (ha.run pos pins s σ H _ I z) fun us s1 ⟨vs, H1, I1, r, d, W1, r1, rg1, w1, e5, f1⟩ => ⟨I1.kIn, ?_⟩) (star1 hs.1) (plainStar hs.2)
    obtain ⟨f, hi, h0, f1⟩ := f1
    exact make_ok C hcm tk h0 hi I1 r r1 w1 fun p hp => callW.mono G _ (fun d W' z => ⟨z.1, madeD.mono (Post.step e5) z.2⟩) (fun x W' z => PostX.step e5 _ _ z) (f1 p hp)
/-- f(e, .., k = v, ..) -/
theorem kw_map {env : Env} {pos : Pos} : ∀ {kws : List Keyword}, (kws.all (·.arg.isSome)) = true → (backToKw pos (keywordEach kws env)).all (·.1.isSome) = true ∧ (backToKw pos (keywordEach kws env)).filterMap (·.1) = kws.filterMap (·.arg) ∧ (backToKw pos (keywordEach kws env)).any (·.1.isNone) = false
  | [], _ => ⟨rfl, rfl, rfl⟩
  | ⟨some a, e, p⟩ :: r, h => by
    obtain ⟨h1, h2, h3⟩ := kw_map (env := env) (pos := pos) (kws := r) (Bool.and_eq_true_iff.mp h).2
    exact ⟨by show (true && (backToKw pos (keywordEach r env)).all (·.1.isSome)) = true; rw [h1]; rfl, by show a :: (backToKw pos (keywordEach r env)).filterMap (·.1) = a :: r.filterMap (·.arg); rw [h2],
      by show (false || (backToKw pos (keywordEach r env)).any (·.1.isNone)) = false; rw [h3]; rfl⟩
  | ⟨none, e, p⟩ :: r, h => by simp at h
theorem wpEs_len {P : Pm} : ∀ {es : List E} {g : Gm} {W : Om} {Q : List D → Om → Prop} {Y : PX}, wpEs G k P es g W Q Y → wpEs G k P es g W (fun ds W => ds.length = es.length ∧ Q ds W) Y
  | [], g, W, Q, Y, h => by
    simp only [wpEs] at h ⊢
    exact ⟨rfl, h⟩
  | e :: es, g, W, Q, Y, h => by
    simp only [wpEs] at h ⊢
    exact moE e (fun d W1 z => moEs es (fun ds W2 z => ⟨congrArg Nat.succ z.1, z.2⟩) (fun _ _ z => z) (wpEs_len z)) (fun _ _ z => z) h
theorem Reps.perm {U : Addr → Prop} {W : Om} {H : Hp} {ds : List D} {vs : List V} (r : Reps T U W H ds vs) : ∀ pm : List Nat, Reps T U W H (permL pm ds) (permL pm vs)
  | [] => .nil
  | j :: pm => by
    unfold permL
    rw [List.filterMap_cons, List.filterMap_cons]
    cases hj : ds[j]? with
    | none =>
      have : vs[j]? = none := by rw [List.getElem?_eq_none_iff] at hj ⊢; rw [← r.length]; exact hj
      rw [this]
      exact Reps.perm r pm
    | some d =>
      obtain ⟨v, h1, h2⟩ := r.get hj
      rw [h1]
      exact .cons h2 (Reps.perm r pm)
theorem s_callK (C : Cok T U G k cm X) (hcm : cm.calm = true) (tk : Takes X Z) {f : Nat} {ks : List E} {pm : List Nat} {kws : List Keyword} {x : Str} {p : Pos} (hx : gloB X.env.scope x (T.gn f) = true) (hf : T.isF f = true) (hg : T.isG f = true)
    (hkb : kwB (T.pn f) es.length (kws.filterMap (·.arg)) pm = true) (hks : (kws.all (·.arg.isSome)) = true) (hkl : ks.length = kws.length) (hs : ps.any isStar = false) (hn : es.length = ps.length) (ha : PA X ps (pL T U Z G k es)) (hkw : PK X kws (pL T U Z G k ks)) :
    PE X (.Call (.Name x p) ps kws pos) (pE T U Z G k (.callK f es ks pm)) := by
  obtain ⟨e1, e2, e3, e4⟩ := glo hx
  obtain ⟨fd, qs, hb, hk, F, FK, _⟩ := C.fn f k hf (Nat.le_refl _)
  have KB := FK _ _ _ hkb
  obtain ⟨k1, k2, k3⟩ := kw_map (env := X.env) (pos := pos) hks
  have gm : X.mg x = some (.ref (T.fad f)) := by rw [e1]; exact C.gl f hg
  have hlk : (kws.filterMap (·.arg)).length = kws.length := by
    clear KB k1 k2 k3 hkb hkl hkw
    induction kws with
    | nil => rfl
    | cons q r ih =>
      rw [List.all_cons, Bool.and_eq_true] at hks
      obtain ⟨a, ha⟩ := Option.isSome_iff_exists.mp hks.1
      rw [List.filterMap_cons, ha]
      exact congrArg Nat.succ (ih hks.2)
  refine ⟨fun pins s σ H Q I ⟨g, W, rg, hw, h⟩ => ?_⟩
  simp only [wpE] at h
  have z := oneL (moEs es) rg hw (wpEs_len h)
  refine wpAny_Call_Name_kw (ld_glob I e2 gm ?_ e3)
  have fin : ∀ {us : List Value} {vs : List V} {H1 : Hp} {W1 : Om} {ds : List D} {s1 : Shared}, Vals vs us → Reps T U W1 H1 ds vs → RepG T U W1 H1 g σ → RepW T U W1 H1 → Ext W H W1 H1 → ds.length = es.length →
      wpEs G k T.toPm ks g W1 (fun zs W2 => callW G k f (permL pm (ds ++ zs)) W2 (Post T U W H Q) (PostX T U W H σ Z)) (PostX T U W H σ Z) → L2.Inv X pins σ H1 s1 →
      wpAny (model X.prog X.w) X.A (evalAll ((backToKw pos (keywordEach kws X.env)).map (·.2))) (fun ws s2 => X.K.In s2.heap ∧ wpAny (model X.prog X.w) X.A (PySem.call (.ref (T.fad f)) us (((backToKw pos (keywordEach kws X.env)).filterMap (·.1)).zip ws)) (EP X pins σ Q) X.xe s2) X.xe s1 :=
    fun {us vs H1 W1 ds s1} r r1 rg1 w1 e5 hl h1 I1 => by
      have z1 := oneL (moEs ks) rg1 w1 (moEs ks (fun _ _ z => z) (PostX.step e5) (wpEs_len h1))
      refine thn (hkw.run pos pins s1 σ H1 _ I1 z1) fun ws s2 ⟨zs, H2, I2, rz, d2, W2, r2, rg2, w2, e6, hl2, R, hR, hq, hx'⟩ => ⟨I2.kIn, ?_⟩
      rw [k2]
      have sp : spOf T (G f k) (permL pm (vs ++ zs)) H2 Q (WE Z σ) := ⟨U, _, W2, R, ((r1.ext e6).append r2).perm pm, w2, hR, fun d W' a v H' b c e => hq d W' a v H' b c ((e5.trans e6).trans e), fun y W' a c d H' b c' e => hx' y W' a c d H' b c' ((e5.trans e6).trans e)⟩
      have b := KB.to s2 us ws I2.kIn (by rw [← r.length, ← r1.length, hl]) (by rw [hlk, ← rz.length, ← r2.length, hl2, hkl])
      have hv : Vals (permL pm (vs ++ zs)) (permL pm (us ++ ws)) := KB.rel r rz
      refine wpAny_call (codeAny_mono (F.run X.A X.stack s2 H2 ⟨us, (kws.filterMap (·.arg)).zip ws⟩ _ _ Q (WE Z σ) (C.room hcm) I2.env0 b hv sp) fun r s' hq => ?_)
      cases r with
      | error e => exact L2N.passAt tk σ pins _ _ e s' I2 hq
      | ok fl =>
        cases fl with
        | ret u => exact I2.after hq
        | next => exact False.elim hq
        | brk => exact False.elim hq
        | cont => exact False.elim hq
  cases ps with
  | nil =>
    cases es with
    | nil =>
      simp only [wpEs] at h
      exact PySem.W.callWith_KW0 (first := []) (h₀ := X.base) I.ok.mod.kin hk k1 (fin .nil .nil rg hw .refl rfl h I) (by rw [k3]; rfl)
    | cons e es => cases hn
  | cons pe ps =>
    rw [List.any_cons, Bool.or_eq_false_iff] at hs
    refine PySem.W.callWith_KW (first := []) (h₀ := X.base) I.ok.mod.kin hk k1 (thn (ha.run pos pins s σ H _ I z) fun us s1 ⟨vs, H1, I1, r, d, W1, r1, rg1, w1, e5, hl, f1⟩ => fin r r1 rg1 w1 e5 hl f1 I1) ?_ (star1 hs.1)
    rw [k3, Bool.or_false]
    exact plainStar (r := pe :: ps) (by rw [List.any_cons, hs.1, hs.2]; rfl)
end
end Tw
set_option maxHeartbeats 4000000
namespace Tw
open PySem PySem.Spec L2
open PyProof.Rows (b2i)
/-- .. but for what stands at P -/
structure ExtP (P : Addr → Prop) (W : Om) (H : Hp) (W' : Om) (H' : Hp) : Prop where
  keep : ∀ b o, H b = some o → W b = none → ¬ P b → H' b = some o
  new : ∀ a, W' a ≠ none → W a ≠ none ∨ H a = none
theorem Ext.P {P : Addr → Prop} {W W' : Om} {H H' : Hp} (e : Ext W H W' H') : ExtP P W H W' H' := ⟨fun b o h n _ => e.keep b o h n, e.new⟩
theorem ExtP.mono {P Q : Addr → Prop} {W W' : Om} {H H' : Hp} (e : ExtP P W H W' H') (h : ∀ a, P a → Q a) : ExtP Q W H W' H' := ⟨fun b o x n z => e.keep b o x n fun y => z (h b y), e.new⟩
theorem ExtP.off {P : Addr → Prop} {W W' : Om} {H H' : Hp} (e : ExtP P W H W' H') {b : Addr} {o : HO} (h : H b = some o) (n : W b = none) : W' b = none := by
  cases q : W' b with
  | none => rfl
  | some m =>
    rcases e.new b (by rw [q]; simp) with z | z
    · exact absurd n z
    · rw [h] at z; cases z
theorem ExtP.offU {U : Addr → Prop} {W W' : Om} {H H' : Hp} (e : ExtP U W H W' H') {b : Addr} {o : HO} (h : H b = some o) (n : Off U W b) : Off U W' b := ⟨e.off h n.1, n.2⟩
section
variable {T : Tb} {U : Addr → Prop} {W W' : Om} {H H' : Hp}
mutual
theorem Rep.extP (e : ExtP U W H W' H') : ∀ {d : D} {v : V}, Rep T U W H d v → Rep T U W' H' d v
  | _, _, .non => .non
  | _, _, .bl b => .bl b
  | _, _, .int i => .int i
  | _, _, .str x => .str x
  | _, _, .ptr a => .ptr a
  | _, _, .scr ns n h => .scr ns (e.offU h n) (e.keep _ _ h n.1 n.2)
  | _, _, .lst n h r => .lst (e.offU h n) (e.keep _ _ h n.1 n.2) (Reps.extP e r)
  | _, _, .tup n h r => .tup (e.offU h n) (e.keep _ _ h n.1 n.2) (Reps.extP e r)
  | _, _, .obj q n h r => .obj q (e.offU h n) (e.keep _ _ h n.1 n.2) (RepF.extP e r)
theorem Reps.extP (e : ExtP U W H W' H') : ∀ {ds : List D} {vs : List V}, Reps T U W H ds vs → Reps T U W' H' ds vs
  | _, _, .nil => .nil
  | _, _, .cons r rs => .cons (Rep.extP e r) (Reps.extP e rs)
theorem RepF.extP (e : ExtP U W H W' H') : ∀ {fs : List (Nat × D)} {fv : List (Str × V)}, RepF T U W H fs fv → RepF T U W' H' fs fv
  | _, _, .nil => .nil
  | _, _, .cons l r rs => .cons l (Rep.extP e r) (RepF.extP e rs)
end
end
/-- the iterator yields these trees, one by one -/
structure Yields (T : Tb) (U : Addr → Prop) (w : Wt) (J : It) (ds : List D) (W0 : Om) (H0 : Hp) : Prop where
  go : ∀ U' i W H, (∀ a, U a → U' a) → ExtP U W0 H0 W H → RepW T U' W H → wOk w W → i < ds.length → J.go i H
  yld : ∀ U' i W H x H', (∀ a, U a → U' a) → (∀ a, U' a → U a ∨ H0 a = none) → ExtP U W0 H0 W H → RepW T U' W H → wOk w W → i < ds.length → J.yld i H x H' → ∃ d, ds[i]? = some d ∧ Rep T U' W H' d x ∧ RepW T U' W H' ∧ Ext W H W H'
  stop : ∀ U' i W H, (∀ a, U a → U' a) → ExtP U W0 H0 W H → RepW T U' W H → wOk w W → ds.length ≤ i → i ≤ ds.length → J.stop i H
section
variable {T : Tb} {U : Addr → Prop} {W : Om} {H : Hp}
mutual
theorem Rep.more {U' : Addr → Prop} (hu : ∀ a, U' a → U a ∨ H a = none) : ∀ {d : D} {v : V}, Rep T U W H d v → Rep T U' W H d v
  | _, _, .non => .non
  | _, _, .bl b => .bl b
  | _, _, .int i => .int i
  | _, _, .str x => .str x
  | _, _, .ptr a => .ptr a
  | _, _, .scr ns n h => .scr ns ⟨n.1, fun z => (hu _ z).elim n.2 fun e => by rw [e] at h; cases h⟩ h
  | _, _, .lst n h r => .lst ⟨n.1, fun z => (hu _ z).elim n.2 fun e => by rw [e] at h; cases h⟩ h (Reps.more hu r)
  | _, _, .tup n h r => .tup ⟨n.1, fun z => (hu _ z).elim n.2 fun e => by rw [e] at h; cases h⟩ h (Reps.more hu r)
  | _, _, .obj q n h r => .obj q ⟨n.1, fun z => (hu _ z).elim n.2 fun e => by rw [e] at h; cases h⟩ h (RepF.more hu r)
theorem Reps.more {U' : Addr → Prop} (hu : ∀ a, U' a → U a ∨ H a = none) : ∀ {ds : List D} {vs : List V}, Reps T U W H ds vs → Reps T U' W H ds vs
  | _, _, .nil => .nil
  | _, _, .cons r rs => .cons (Rep.more hu r) (Reps.more hu rs)
theorem RepF.more {U' : Addr → Prop} (hu : ∀ a, U' a → U a ∨ H a = none) : ∀ {fs : List (Nat × D)} {fv : List (Str × V)}, RepF T U W H fs fv → RepF T U' W H fs fv
  | _, _, .nil => .nil
  | _, _, .cons l r rs => .cons l (Rep.more hu r) (RepF.more hu rs)
end
theorem yields_list {K : PySem.W.Frag} {a : Addr} {ds : List D} {vs : List V} (h : SqL K H a vs) (st : ∀ W' H', ExtP U W H W' H' → SqL K H' a vs) (r : Reps T U W H ds vs) : Yields T U none (Itl K a) ds W H where
  go := fun U' i W' H' _ e _ _ hi => by
    obtain ⟨v, h1, _⟩ := r.get (List.getElem?_eq_getElem hi)
    exact ⟨vs, v, st W' H' e, h1⟩
  yld := fun U' i W' H' x H2 hu hu' e w _ hi ⟨e1, q⟩ => by
    subst e1
    have q1 := q vs (st W' _ e)
    obtain ⟨v, h1, h2⟩ := r.get (List.getElem?_eq_getElem hi)
    rw [h1] at q1
    cases q1
    exact ⟨_, List.getElem?_eq_getElem hi, (h2.more hu').extP (e.mono hu), w, .refl⟩
  stop := fun U' i W' H' _ e _ _ hi hj => ⟨vs, st W' H' e, by rw [← r.length]; exact hi⟩
theorem yields_tup {K : PySem.W.Frag} {a : Addr} {ds : List D} {vs : List V} (st : ∀ W' H', ExtP U W H W' H' → SqT K H' a vs) (r : Reps T U W H ds vs) : Yields T U none (Itt K a) ds W H where
  go := fun U' i W' H' _ e _ _ hi => by
    obtain ⟨v, h1, _⟩ := r.get (List.getElem?_eq_getElem hi)
    exact ⟨vs, v, st W' H' e, h1⟩
  yld := fun U' i W' H' x H2 hu hu' e w _ hi ⟨e1, q⟩ => by
    subst e1
    have q1 := q vs (st W' _ e)
    obtain ⟨v, h1, h2⟩ := r.get (List.getElem?_eq_getElem hi)
    rw [h1] at q1
    cases q1
    exact ⟨_, List.getElem?_eq_getElem hi, (h2.more hu').extP (e.mono hu), w, .refl⟩
  stop := fun U' i W' H' _ e _ _ hi hj => ⟨vs, st W' H' e, by rw [← r.length]; exact hi⟩
theorem yields_cell {K : PySem.W.Frag} {a : Addr} {ds : List D} : Yields T U (some (a, ds)) (Itl K a) ds W H where
  go := fun U' i W' H' _ e w ok hi => by
    obtain ⟨o, h1, h2⟩ := w.cell_ _ _ ok
    cases h2 with
    | lst r =>
      obtain ⟨v, h3, _⟩ := r.get (List.getElem?_eq_getElem hi)
      exact ⟨_, v, SqL.of h1, h3⟩
  yld := fun U' i W' H' x H2 hu hu' e w ok hi ⟨e1, q⟩ => by
    subst e1
    obtain ⟨o, h1, h2⟩ := w.cell_ _ _ ok
    cases h2 with
    | lst r =>
      have q1 := q _ (SqL.of h1)
      obtain ⟨v, h3, h4⟩ := r.get (List.getElem?_eq_getElem hi)
      rw [h3] at q1
      cases q1
      exact ⟨_, List.getElem?_eq_getElem hi, h4, w, .refl⟩
  stop := fun U' i W' H' _ e w ok hi hj => by
    obtain ⟨o, h1, h2⟩ := w.cell_ _ _ ok
    cases h2 with
    | lst r => exact ⟨_, SqL.of h1, by rw [← r.length]; exact hi⟩
theorem rangeL_get {lo : Int} {n i : Nat} (h : i < n) : (rangeL lo n)[i]? = some (.int (lo + i)) := by
  unfold rangeL
  rw [List.getElem?_map, List.getElem?_range h]
  rfl
theorem rangeL_length {lo : Int} {n : Nat} : (rangeL lo n).length = n := by
  unfold rangeL
  rw [List.length_map, List.length_range]
theorem yields_range {lo : Int} {n : Nat} : Yields T U none (Itr lo n) (rangeL lo n) W H where
  go := fun U' i W' H' _ e _ _ hi => by rw [rangeL_length] at hi; exact hi
  yld := fun U' i W' H' x H2 hu hu' e w _ hi ⟨e1, q⟩ => by
    subst e1 q
    rw [rangeL_length] at hi
    exact ⟨_, rangeL_get hi, .int _, w, .refl⟩
  stop := fun U' i W' H' _ e _ _ hi hj => by rw [rangeL_length] at hi; exact hi
section
variable {X : Cx} {U : Ux} {G : Gs} {k : Nat} {Z : WX} {cm : Md} {a c : E} {pa pc tg : Expr} {pos : Pos} {es : List E} {ps : List Expr}
abbrev MIt := Gm → Om → (Wt → List D → Om → Prop) → PX → Prop
/-- what a for or a comprehension walks -/
def tI (T : Tb) (U : Ux) (Z : WX) (m : MIt) : TI := fun σ H R => ∃ g W, RepG T U W H g σ ∧ RepW T U W H ∧ m g W (fun w ds W' => ∀ J H', RepW T U W' H' → Ext W H W' H' → Yields T U w J ds W' H' → R J H') (PostX T U W H σ Z)
abbrev pI (T : Tb) (U : Ux) (Z : WX) (G : Gs) (k : Nat) (i : I) : TI := tI T U Z (wpI G k T.toPm i)
theorem s_seq {U : Ux} (ha : PE X pa (pE T U Z G k a)) : PI X tg pa (pI T U Z G k (.seq a)) := by
  refine ⟨fun pins s σ H R I ⟨g, W, rg, hw, h⟩ => ?_⟩
  simp only [wpI] at h
  refine thn (ha.run pins s σ H _ I (one (moE a) rg hw h)) fun v s1 ⟨x, H1, I1, r1, d, W1, rd, rg1, w1, e1, f⟩ => ?_
  have lis : ∀ {ds : List D} {vs : List V} {p : Addr}, x = .ref p → SqL X.K H1 p vs → (∀ W' H', ExtP U W1 H1 W' H' → SqL X.K H' p vs) → Reps T U W1 H1 ds vs →
      (∀ J H', RepW T U W1 H' → Ext W H W1 H' → Yields T U none J ds W1 H' → R J H') → wpAny (model X.prog X.w) X.A (pyIter v) (PIE X pins σ tg R) X.xe s1 := fun {ds vs p} ex hq st r z => by
    subst ex
    cases r1
    obtain ⟨its, rv, pl, hz⟩ := I1.list hq
    refine wpAny_pyIter_list pl.isList ?_
    refine ⟨s1.heap.objs.size, [s1.heap.objs.size], _, _, H1, rfl, I1.kept (t' := s1.toks) fun b o e => Heap.get?_push_of_some _ e, turn_list p _, ⟨_, Heap.get?_push_size _ rfl, rfl, rfl⟩, fun b hb => ?_, z _ H1 w1 e1 (yields_list hq st r)⟩
    have e : b = s1.heap.objs.size := by simpa using hb
    subst e
    exact I1.fpOk (Nat.le_refl _) (I1.hok.fresh (Nat.le_refl _))
  cases rd with
  | lst n h r => exact lis rfl (SqL.of h) (fun W' H' e => SqL.of (e.keep _ _ h n.1 n.2)) r f
  | scr ns n h => exact lis rfl (.inl (.inr ⟨_, h⟩)) (fun W' H' e => .inl (.inr ⟨_, e.keep _ _ h n.1 n.2⟩)) (Reps.ints ns) f
  | tup n h r =>
    obtain ⟨its, rv, pt, hz⟩ := I1.tuple (SqT.of (K := X.K) h)
    cases r1
    refine wpAny_pyIter_tuple (show s1.heap.IsTuple _ its.toArray from pt) ?_
    refine ⟨s1.heap.objs.size, [s1.heap.objs.size], _, _, H1, rfl, I1.kept (t' := s1.toks) fun b o e => Heap.get?_push_of_some _ e, turn_tuple _ _, ⟨_, Heap.get?_push_size _ rfl, rfl, rfl⟩, fun b hb => ?_, f _ H1 w1 e1 (yields_tup (fun W' H' e => SqT.of (e.keep _ _ h n.1 n.2)) r)⟩
    have e : b = s1.heap.objs.size := by simpa using hb
    subst e
    exact I1.fpOk (Nat.le_refl _) (I1.hok.fresh (Nat.le_refl _))
  | non => exact f.elim
  | bl _ => exact f.elim
  | int _ => exact f.elim
  | str _ => exact f.elim
  | ptr a =>
    obtain ⟨ds, ea, f⟩ := f
    obtain ⟨o, h1, h2⟩ := w1.cell_ _ _ ea
    cases h2 with
    | lst r =>
      cases r1
      obtain ⟨its, rv, pl, hz⟩ := I1.list (SqL.of (K := X.K) h1)
      refine wpAny_pyIter_list pl.isList ?_
      refine ⟨s1.heap.objs.size, [s1.heap.objs.size], _, _, H1, rfl, I1.kept (t' := s1.toks) fun b o e => Heap.get?_push_of_some _ e, turn_list a _, ⟨_, Heap.get?_push_size _ rfl, rfl, rfl⟩, fun b hb => ?_, f _ H1 w1 e1 yields_cell⟩
      have e : b = s1.heap.objs.size := by simpa using hb
      subst e
      exact I1.fpOk (Nat.le_refl _) (I1.hok.fresh (Nat.le_refl _))
  | obj _ _ _ _ => exact f.elim
end
theorem _root_.L2.PI.to {X : Cx} {tg p : Expr} {t t' : TI} (h : PI X tg p t) (hi : ∀ σ H Q, t' σ H Q → t σ H Q) : PI X tg p t' := ⟨fun pins s σ H R I q => h.run pins s σ H R I (hi _ _ _ q)⟩
/-- a long range's iterator that has nothing to tell -/
theorem turn_long {P : Program} {w : World} {K : PySem.W.Frag} {tg : Expr} (it : Addr) (lo : Int) : Turn P w K tg (Itr lo 0) [it] it (fun i h => IsLongIter h it (lo + (i : Nat) * 1) ((0 : Int) - (i : Nat)) 1) where
  mem := by simp
  obj := fun i h st b hb => by
    obtain rfl : b = it := by simpa using hb
    exact ⟨_, st, fun v z => by have z' : Data.fields _ = Data.cell v := z; cases z'⟩
  keep := fun i h h' st k => k it (by simp) _ st
  item := by
    intro X hP hw hK hc i pins s σ H E I hf st hg
    exact absurd (show i < 0 from hg) (Nat.not_lt_zero _)
  done := by
    intro X hP hw hK hc i pins s σ H E I hf st hg
    subst hP hw hK
    obtain ⟨f0, f1, f2, f3, f4, f5⟩ := hf it (by simp)
    exact wpAny_pyNext_long_end (I.ok.hd hc) st (by omega) fun h' eb => ⟨rfl, I.turned (t' := s.toks) (fun b o hb e => eb b o hb e) f0 f1 f3 f4 f5⟩
  self := fun _ _ _ _ _ st h => wpAny_pyIter_longiter st h
theorem range_itW {X : Cx} {tg : Expr} {pins : List (Addr × Obj)} {σ : St} {H : Hp} {s : Shared} {R : It → Hp → Prop} {E : Value → Shared → Prop} {lo hi : Int} {t u v : Tok} {tk : Nat} (I : L2.Inv X pins σ H s) (h : RngOk lo hi)
    (q : R (Itr lo (hi - lo).toNat) H) : wpAny (model X.prog X.w) X.A (pyIter (.ref s.heap.objs.size)) (PIE X pins σ tg R) E { s with heap := s.heap.push { cls := .type "range", data := .fields #[.int lo t, .int hi u, .int 1 v] }, toks := tk } := by
  rcases h with ⟨h1, h2, h3, h4⟩ | h
  · exact range_it I h1 h2 h3 h4 q
  have e0 : (hi - lo).toNat = 0 := by omega
  have e2 : Builtin.Range.rangeSize lo hi 1 = 0 := by rw [rangeSize_one]; split <;> omega
  rw [e0] at q
  generalize ho : ({ cls := .type "range", data := .fields #[.int lo t, .int hi u, .int 1 v] } : Obj) = o0
  have hr : IsRange (s.heap.push o0) s.heap.objs.size lo hi 1 t u v := by rw [← ho]; exact IsRange.new ..
  have I1 : L2.Inv X pins σ H { s with heap := s.heap.push o0, toks := tk } := I.kept fun b o e => Heap.get?_push_of_some _ e
  have e1 : lo + ((0 : Nat) : Int) * 1 = lo := by simp
  cases hs : Builtin.Range.small lo hi 1 with
  | true =>
    refine wpAny_pyIter_range hr hs ?_
    refine ⟨(s.heap.push o0).objs.size, [(s.heap.push o0).objs.size], _, _, H, rfl, I1.kept (t' := tk) fun b o e => Heap.get?_push_of_some _ e, turn_range _ lo 0, ?_, fun b hb => ?_, q⟩
    · show IsRangeIter _ _ (lo + ((0 : Nat) : Int) * 1) (((0 : Nat) : Int) - ((0 : Nat) : Int)) 1
      rw [e1, show (((0 : Nat) : Int) - ((0 : Nat) : Int)) = Builtin.Range.rangeSize lo hi 1 by rw [e2]; rfl]
      exact Heap.get?_push_size _ rfl
    · obtain rfl : b = (s.heap.push o0).objs.size := by simpa using hb
      exact I1.fpOk (Nat.le_refl _) (I1.hok.fresh (Nat.le_refl _))
  | false =>
    refine wpAny_pyIter_longrange hr hs ?_
    refine ⟨(s.heap.push o0).objs.size, [(s.heap.push o0).objs.size], _, _, H, rfl, I1.kept (t' := tk) fun b o e => Heap.get?_push_of_some _ e, turn_long _ lo, ?_, fun b hb => ?_, q⟩
    · show IsLongIter _ _ (lo + ((0 : Nat) : Int) * 1) ((0 : Int) - ((0 : Nat) : Int)) 1
      rw [e1, show ((0 : Int) - ((0 : Nat) : Int)) = Builtin.Range.rangeSize lo hi 1 by rw [e2]; rfl]
      exact Heap.get?_push_size _ rfl
    · obtain rfl : b = (s.heap.push o0).objs.size := by simpa using hb
      exact I1.fpOk (Nat.le_refl _) (I1.hok.fresh (Nat.le_refl _))
def iRng2W (ta : TA) : TI := fun σ H R => ta σ H fun vs H1 => ∃ i j : Int, vs = [.int i, .int j] ∧ RngOk i j ∧ R (Itr i (j - i).toNat) H1
theorem pi_range2W {X : Cx} {tg : Expr} {a b : Expr} {ta : TA} {p pos : Pos} (hg : Gl X "range") (hm : X.mg "range" = none) (ha : PA X [a, b] ta) (hs : starEach [a, b] X.env = [(false, eval a X.env), (false, eval b X.env)]) (hs2 : starEach [b] X.env = [(false, eval b X.env)]) :
    PI X tg (.Call (.Name "range" p) [a, b] [] pos) (iRng2W ta) := by
  refine ⟨fun pins s σ H R I h => ?_⟩
  refine PyProof.Rows.Call_ (ld_blt I hg hm PyProof.Rows.boot_range (PyProof.Rows.callWith_type1 (thn (ha.run pos pins s σ H _ I h) fun us s1 ⟨vs, H1, I1, r1, q1⟩ => ?_) (by rw [hs, hs2]) (by rw [hs2]; rfl)))
  obtain ⟨i, j, e, hq, q⟩ := q1
  subst e
  cases r1 with
  | cons r rr =>
    cases rr with
    | cons r' rr =>
      cases rr
      obtain ⟨t, rfl⟩ := r
      obtain ⟨t', rfl⟩ := r'
      exact PySem.call_range_2 (range_itW I1 hq q)
theorem s_rng {U : Ux} (C : Cok T U G k cm X) {x : Str} {p : Pos} (hx : gloB X.env.scope x "range" = true) (hs : ps.any isStar = false) (hn : es.length = ps.length) (h12 : es.length = 1 ∨ es.length = 2) (ha : PA X ps (pL T U Z G k es)) :
    PI X tg (.Call (.Name x p) ps [] pos) (pI T U Z G k (.rng es)) := by
  obtain ⟨e1, e2, e3, e4⟩ := glo hx
  subst e1
  have gm : X.mg "range" = none := C.blt _ (by simp [bltNames])
  have main : ∀ {σ : St} {H : Hp} {R : It → Hp → Prop}, pI T U Z G k (.rng es) σ H R → pL T U Z G k es σ H fun vs H1 => ∃ ds W1, ds.length = es.length ∧ Reps T U W1 H1 ds vs ∧ rngD ds fun xs => ∀ J, Yields T U none J xs W1 H1 → R J H1 := fun {σ H R} ⟨g, W, rg, hw, h⟩ => by
    simp only [wpI] at h
    refine tL_mono (moEs es) (fun vs H1 ⟨d, W1, r1, rg1, w1, e5, f⟩ => ⟨d, W1, f.1, r1, rngD.mono (fun xs f J y => f J H1 w1 e5 y) f.2⟩) (oneL (moEs es) rg hw (lenEs h))
  match ps, hs, hn, ha with
  | [], _, hn, _ => rw [hn] at h12; rcases h12 with h | h <;> cases h
  | [q1], hs, hn, ha =>
    rw [List.any_cons, Bool.or_eq_false_iff] at hs
    refine (pi_range1 e2 gm ha (star1 hs.1)).to fun σ H R h => ?_
    refine tL_mono (moEs es) (fun vs H1 ⟨ds, W1, hd, r1, f⟩ => ?_) (main h)
    rw [hn] at hd
    match ds, hd, r1, f with
    | [d], _, r1, f =>
      obtain ⟨v, rfl, r⟩ := r1.one
      cases d <;> first | exact f.elim | skip
      cases r
      exact ⟨_, rfl, f.1.1, f.1.2, f.2 _ yields_range⟩
  | [q1, q2], hs, hn, ha =>
    simp only [List.any_cons, Bool.or_eq_false_iff] at hs
    refine (pi_range2W e2 gm ha (by rw [star1 hs.1, star1 hs.2.1]; rfl) (star1 hs.2.1)).to fun σ H R h => ?_
    refine tL_mono (moEs es) (fun vs H1 ⟨ds, W1, hd, r1, f⟩ => ?_) (main h)
    rw [hn] at hd
    match ds, hd, r1, f with
    | [d, e], _, r1, f =>
      obtain ⟨v, w, rfl, r, r'⟩ := r1.two
      cases d <;> first | exact f.elim | skip
      cases e <;> first | exact f.elim | skip
      cases r
      cases r'
      exact ⟨_, _, rfl, f.1, f.2 _ yields_range⟩
  | _ :: _ :: _ :: _, _, hn, _ => rw [hn] at h12; rcases h12 with h | h <;> (simp at h)
end
end Tw
set_option maxHeartbeats 4000000
namespace Tw
open PySem PySem.Spec L2
open PyProof.Rows (b2i)
def ItrS (lo c : Int) (n : Nat) : It := ⟨fun i _ => i < n, fun i H x H' => H' = H ∧ x = .int (lo + i * c), fun i _ => n ≤ i⟩
theorem turn_step {P : Program} {w : World} {K : PySem.W.Frag} {tg : Expr} (it : Addr) (lo c : Int) (n : Nat) : Turn P w K tg (ItrS lo c n) [it] it (fun i h => IsRangeIter h it (lo + (i : Nat) * c) ((n : Int) - (i : Nat)) c) where
  mem := by simp
  obj := fun i h st b hb => by
    obtain rfl : b = it := by simpa using hb
    exact ⟨_, st, fun v z => by have z' : Data.fields _ = Data.cell v := z; cases z'⟩
  keep := fun i h h' st k => k it (by simp) _ st
  item := by
    intro X hP hw hK hc i pins s σ H E I hf st hg
    subst hP hw hK
    obtain ⟨f0, f1, f2, f3, f4, f5⟩ := hf it (by simp)
    refine (Walks.range (prog := X.prog) (w := X.w) (I.ok.hd hc) it lo c n).item i s _ _ hg st fun v h' tk hv st' kk => ?_
    obtain ⟨t, rfl⟩ := hv
    have J : L2.Inv X pins σ H { s with heap := h', toks := tk } := I.turned (fun b o hb e => kk b o (by simpa using hb) e) f0 f1 f3 f4 f5
    exact ⟨_, rfl, go_of (s := { s with heap := h', toks := tk }) (n := "range_iterator") st' rfl rfl (by decide) ⟨.int (lo + i * c), H, J, ⟨t, rfl⟩, ⟨rfl, rfl⟩, st', fun b hb => (hf b hb).1⟩⟩
  done := by
    intro X hP hw hK hc i pins s σ H E I hf st hg
    subst hP hw hK
    obtain ⟨f0, f1, f2, f3, f4, f5⟩ := hf it (by simp)
    exact wpAny_pyNext_range_end (I.ok.hd hc) st (by have : n ≤ i := hg; omega) fun h' eb => ⟨rfl, I.turned (t' := s.toks) (fun b o hb e => eb b o hb e) f0 f1 f3 f4 f5⟩
  self := fun _ _ _ _ _ st h => wpAny_pyIter_rangeiter st h
theorem small_step {a b c : Int} (h : -(2 ^ 61) ≤ a ∧ a < 2 ^ 61 ∧ -(2 ^ 61) ≤ b ∧ b < 2 ^ 61 ∧ ((0 < c ∧ c < 2 ^ 29) ∨ c = -1)) : Builtin.Range.small a b c = true ∧ 0 ≤ Builtin.Range.rangeSize a b c := by
  obtain ⟨h1, h2, h3, h4, ⟨h5, h6⟩ | rfl⟩ := h
  case inr =>
    have e : Builtin.Range.rangeSize a b (-1) = if b < a then a - b else 0 := by
      unfold Builtin.Range.rangeSize
      rw [if_neg (by omega)]
      split
      · rw [show (-(-1) : Int) = 1 from rfl, Int.ediv_one]; omega
      · rfl
    refine ⟨?_, ?_⟩
    · unfold Builtin.Range.small
      rw [e]
      simp only [Builtin.Range.rangeFitsLong, Bool.and_eq_true, Bool.or_eq_true, decide_eq_true_eq, beq_iff_eq]
      split
      · next hl =>
        try simp only [Bool.and_eq_true, decide_eq_true_eq]
        refine ⟨⟨⟨⟨?_, ?_⟩, ?_⟩, ?_⟩, .inr ?_⟩
        all_goals first | (constructor <;> omega) | (rw [if_neg (by decide)]; simp only [Bool.and_eq_true, decide_eq_true_eq]; constructor <;> omega)
      · simp only [true_or, and_true]
        refine ⟨⟨⟨?_, ?_⟩, ?_⟩, ?_⟩ <;> constructor <;> omega
    · rw [e]; split <;> omega
  have e : Builtin.Range.rangeSize a b c = if a < b then (b - a - 1) / c + 1 else 0 := by unfold Builtin.Range.rangeSize; rw [if_pos h5]
  have q0 : a < b → 0 ≤ (b - a - 1) / c := fun hl => Int.ediv_nonneg (by omega) (by omega)
  have q1 : a < b → (b - a - 1) / c ≤ b - a - 1 := fun hl => Int.ediv_le_self _ (by omega)
  have q2 : a < b → (b - a - 1) / c * c ≤ b - a - 1 := fun hl => Int.ediv_mul_le _ (by omega)
  refine ⟨?_, ?_⟩
  · unfold Builtin.Range.small
    rw [e]
    simp only [Builtin.Range.rangeFitsLong, Bool.and_eq_true, Bool.or_eq_true, decide_eq_true_eq, beq_iff_eq]
    split
    · next hl =>
      have := q0 hl; have := q1 hl; have := q2 hl
      simp only [Bool.and_eq_true, decide_eq_true_eq]
      generalize (b - a - 1) / c = z at *
      refine ⟨⟨⟨⟨?_, ?_⟩, ?_⟩, ?_⟩, .inr ?_⟩ <;> constructor <;> omega
    · simp only [true_or, and_true]
      refine ⟨⟨⟨?_, ?_⟩, ?_⟩, ?_⟩ <;> constructor <;> omega
  · rw [e]
    split
    · next hl => have := q0 hl; omega
    · exact Int.le_refl _
section
variable {T : Tb} {U : Addr → Prop} {W : Om} {H : Hp}
theorem rangeS_get {lo c : Int} {n i : Nat} (h : i < n) : (rangeS lo c n)[i]? = some (.int (lo + i * c)) := by
  unfold rangeS
  rw [List.getElem?_map, List.getElem?_range h]
  rfl
theorem rangeS_length {lo c : Int} {n : Nat} : (rangeS lo c n).length = n := by
  unfold rangeS
  rw [List.length_map, List.length_range]
theorem yields_step {lo c : Int} {n : Nat} : Yields T U none (ItrS lo c n) (rangeS lo c n) W H where
  go := fun U' i W' H' _ e _ _ hi => by rw [rangeS_length] at hi; exact hi
  yld := fun U' i W' H' x H2 hu hu' e w _ hi ⟨e1, q⟩ => by
    subst e1 q
    rw [rangeS_length] at hi
    exact ⟨_, rangeS_get hi, .int _, w, .refl⟩
  stop := fun U' i W' H' _ e _ _ hi hj => by rw [rangeS_length] at hi; exact hi
end
section
variable {X : Cx} {tg : Expr}
def iRng3 (ta : TA) : TI := fun σ H R => ta σ H fun vs H1 => ∃ i j c : Int, vs = [.int i, .int j, .int c] ∧ stepOk i j c ∧ R (ItrS i c (stepN i j c)) H1
theorem step_it {pins : List (Addr × Obj)} {σ : St} {H : Hp} {s : Shared} {R : It → Hp → Prop} {E : Value → Shared → Prop} {lo hi c : Int} {t u v : Tok} {tk : Nat} (I : L2.Inv X pins σ H s) (h : stepOk lo hi c)
    (q : R (ItrS lo c (stepN lo hi c)) H) : wpAny (model X.prog X.w) X.A (pyIter (.ref s.heap.objs.size)) (PIE X pins σ tg R) E { s with heap := s.heap.push { cls := .type "range", data := .fields #[.int lo t, .int hi u, .int c v] }, toks := tk } := by
  obtain ⟨h1, h2⟩ := small_step h
  refine wpAny_pyIter_range (IsRange.new ..) h1 ?_
  generalize ho : ({ cls := .type "range", data := .fields #[.int lo t, .int hi u, .int c v] } : Obj) = o0
  have I1 : L2.Inv X pins σ H { s with heap := s.heap.push o0, toks := tk } := I.kept fun b o e => Heap.get?_push_of_some _ e
  refine ⟨(s.heap.push o0).objs.size, [(s.heap.push o0).objs.size], _, _, H, rfl, I1.kept (t' := tk) fun b o e => Heap.get?_push_of_some _ e, turn_step _ lo c (stepN lo hi c), ?_, fun b hb => ?_, q⟩
  · have e1 : lo + ((0 : Nat) : Int) * c = lo := by simp
    have e2 : ((stepN lo hi c : Nat) : Int) - ((0 : Nat) : Int) = Builtin.Range.rangeSize lo hi c := by unfold stepN; omega
    show IsRangeIter _ _ (lo + ((0 : Nat) : Int) * c) (((stepN lo hi c : Nat) : Int) - ((0 : Nat) : Int)) c
    rw [e1, e2]
    exact Heap.get?_push_size _ rfl
  · obtain rfl : b = (s.heap.push o0).objs.size := by simpa using hb
    exact I1.fpOk (Nat.le_refl _) (I1.hok.fresh (Nat.le_refl _))
theorem pi_range3 {a b d : Expr} {ta : TA} {p pos : Pos} (hg : Gl X "range") (hm : X.mg "range" = none) (ha : PA X [a, b, d] ta) (h1 : isStar a = false) (h2 : [b, d].any isStar = false) : PI X tg (.Call (.Name "range" p) [a, b, d] [] pos) (iRng3 ta) := by
  refine ⟨fun pins s σ H R I h => ?_⟩
  refine PyProof.Rows.Call_ (ld_blt I hg hm PyProof.Rows.boot_range (PyProof.Rows.callWith_type1 (thn (ha.run pos pins s σ H _ I h) fun us s1 ⟨vs, H1, I1, r1, q1⟩ => ?_) (star1 h1) (plainStar h2)))
  obtain ⟨i, j, c, e, hs, q⟩ := q1
  subst e
  cases r1 with
  | cons r rr =>
    cases rr with
    | cons r' rr =>
      cases rr with
      | cons r'' rr =>
        cases rr
        obtain ⟨t, rfl⟩ := r
        obtain ⟨t', rfl⟩ := r'
        obtain ⟨t'', rfl⟩ := r''
        have hc : c ≠ 0 := by have := hs.2.2.2.2; omega
        exact PySem.call_range_3 hc (step_it I1 hs q) (.inl (PyProof.noPylong_small (by have := hs.2.2.2.2; omega)))
theorem s_rng3 {T : Tb} {U : Ux} {G : Gs} {k : Nat} {Z : WX} {cm : Md} {es : List E} {a b d : Expr} {pos : Pos} (C : Cok T U G k cm X) {x : Str} {p : Pos} (hx : gloB X.env.scope x "range" = true) (h1 : isStar a = false) (h2 : [b, d].any isStar = false) (hn : es.length = 3) (ha : PA X [a, b, d] (pL T U Z G k es)) :
    PI X tg (.Call (.Name x p) [a, b, d] [] pos) (pI T U Z G k (.rng es)) := by
  obtain ⟨e1, e2, e3, e4⟩ := glo hx
  subst e1
  have gm : X.mg "range" = none := C.blt _ (by simp [bltNames])
  refine (pi_range3 e2 gm ha h1 h2).to fun σ H R ⟨g, W, rg, hw, h⟩ => ?_
  simp only [wpI] at h
  refine tL_mono (moEs es) (fun vs H1 ⟨ds, W1, r1, rg1, w1, e5, hl, f⟩ => ?_) (oneL (moEs es) rg hw (lenEs h))
  rw [hn] at hl
  match ds, hl, r1, f with
  | [d1, d2, d3], _, .cons r (.cons r' (.cons r'' .nil)), f =>
    cases d1 <;> first | exact f.elim | skip
    cases d2 <;> first | exact f.elim | skip
    cases d3 <;> first | exact f.elim | skip
    cases r
    cases r'
    cases r''
    exact ⟨_, _, _, rfl, f.1, f.2 _ H1 w1 e5 yields_step⟩
end
end Tw
set_option maxHeartbeats 4000000
namespace Tw
open PySem PySem.Spec L2
open PyProof.Rows (b2i)
section
variable {T : Tb} {U : Addr → Prop} {W : Om} {H : Hp}
theorem Off.cell {p a : Addr} {m : MO} (h : Off (Hid U p) W a) : Off U (W.set p m) a := by
  have ne : a ≠ p := fun e => h.2 (.inr e)
  exact ⟨by rw [Om.set_ne ne]; exact h.1, fun z => h.2 (.inl z)⟩
mutual
theorem Rep.cell {p : Addr} {m : MO} : ∀ {d : D} {v : V}, Rep T (Hid U p) W H d v → Rep T U (W.set p m) H d v
  | _, _, .non => .non
  | _, _, .bl b => .bl b
  | _, _, .int i => .int i
  | _, _, .str x => .str x
  | _, _, .ptr a => .ptr a
  | _, _, .scr ns n h => .scr ns n.cell h
  | _, _, .lst n h r => .lst n.cell h (Reps.cell r)
  | _, _, .tup n h r => .tup n.cell h (Reps.cell r)
  | _, _, .obj q n h r => .obj q n.cell h (RepF.cell r)
theorem Reps.cell {p : Addr} {m : MO} : ∀ {ds : List D} {vs : List V}, Reps T (Hid U p) W H ds vs → Reps T U (W.set p m) H ds vs
  | _, _, .nil => .nil
  | _, _, .cons r rs => .cons (Rep.cell r) (Reps.cell rs)
theorem RepF.cell {p : Addr} {m : MO} : ∀ {fs : List (Nat × D)} {fv : List (Str × V)}, RepF T (Hid U p) W H fs fv → RepF T U (W.set p m) H fs fv
  | _, _, .nil => .nil
  | _, _, .cons l r rs => .cons l (Rep.cell r) (RepF.cell rs)
end
/-- the hidden thing becomes a cell -/
theorem RepW.open_ {p : Addr} {ds : List D} {vs : List V} (hw : RepW T (Hid U p) W H) (hp : H p = some (.lst vs)) (r : Reps T (Hid U p) W H ds vs) (nu : ¬ U p) : RepW T U (W.set p (.lst ds)) H := by
  refine ⟨fun a m h => ?_, fun a m h z => ?_, fun a h => hw.hid a (.inl h)⟩
  · by_cases e : a = p
    · subst e
      rw [Om.set_same] at h; cases h
      exact ⟨_, hp, .lst r.cell⟩
    · rw [Om.set_ne e] at h
      obtain ⟨o, h1, h2⟩ := hw.cell_ a m h
      refine ⟨o, h1, ?_⟩
      cases h2 with
      | lst r => exact .lst r.cell
      | ins q r => exact .ins q r.cell
  · by_cases e : a = p
    · subst e; exact nu z
    · rw [Om.set_ne e] at h
      exact hw.out a m h (.inl z)
theorem Ext.poke {W1 : Om} {H1 : Hp} {p : Addr} {o : HO} (hp : H p = none) (e : Ext W H W1 H1) : Ext W H W1 (upd H1 p o) :=
  ⟨fun b o' h n => by rw [upd_ne (ne_of_none h hp)]; exact e.keep b o' h n, e.new⟩
theorem Ext.open_ {W1 : Om} {H1 : Hp} {p : Addr} {m : MO} (hp : W p = none → H p = none) (e : Ext W H W1 H1) : Ext W H (W1.set p m) H1 :=
  ⟨e.keep, fun a h => by
    by_cases z : a = p
    · subst z
      cases q : W a with
      | none => exact .inr (hp q)
      | some _ => exact .inl (by simp)
    · rw [Om.set_ne z] at h
      exact e.new a h⟩
end
section
variable {T : Tb} {U : Ux} {X : Cx} {G : Gs} {k : Nat} {Z : WX}
/-- one more hidden address -/
abbrev HidX (U : Ux) (p : Addr) : Ux := ⟨Hid U.hid p, none, []⟩
/-- nothing is let out -/
def Zf : WX := fun _ _ _ _ => False
theorem comp_read (hu : U.ei = none) {own : Bool} {i : Nat} {elt : E} {it : I} {cond : Option E} {σ : St} {H : Hp} {Q : VK} (hh : pE T U Z G k (.comp own i elt it cond) σ H Q) :
    tLc (pI T U Z G k it) (gName i) (fun σ H Q => ∃ U' : Ux, (U'.ei = none ∧ U'.pn = []) ∧ tT T U' Zf (wpC G k T.toPm cond) σ H Q) (fun σ H Q => ∃ U' : Ux, (U'.ei = none ∧ U'.pn = []) ∧ pE T U' Zf G k elt σ H Q) [i] σ H Q := by
  obtain ⟨g, W, rg, hw, h⟩ := hh
  have rg0 := (RepG.zero hu).mp rg
  simp only [wpE] at h
  refine ⟨g, W, rg, hw, moI it (fun wt ds W1 f J H1 w1 e1 Y => ?_) (fun _ _ z => z) h⟩
  intro Dp hD
  have x0 := Ext.fresh (o := .lst []) hD w1
  have nU : ¬ U.hid Dp := x0.2.2
  have H0 : W Dp = none → H Dp = none := fun n => by
    cases q : H Dp with
    | none => rfl
    | some o =>
      have := e1.keep Dp o q n
      rw [hD] at this; cases this
  let inv : Nat → Hp → Prop := fun n Hc => n ≤ ds.length ∧ ∃ acc vacc W', Hc Dp = some (.lst vacc) ∧ Reps T (Hid U Dp) W' Hc acc vacc ∧ RepG0 T (Hid U Dp) W' Hc (g.set i none) (wipe σ [i]) ∧ RepW T (Hid U Dp) W' Hc ∧ Ext W1 H1 W' Hc ∧
    compL wt (fun d W2 R => wpC G k T.toPm cond (g.set i (some d)) W2 (fun t W3 => if t = true then wpE G k T.toPm elt (g.set i (some d)) W3 (fun y W4 => R (some y) W4) (fun _ _ => False) else R none W3) (fun _ _ => False)) (ds.drop n) acc W' fun ys W2 => mkL own ys W2 (Post T U W H Q)
  refine ⟨fun n m Hc => m = ds.length - n ∧ inv n Hc, ⟨_, rfl, Nat.zero_le _, [], [], W1, upd_same, .nil, ?_, w1.hideNew hD, x0.1, f⟩, ?_⟩
  · exact (((rg0.ext e1).hide hD).ext x0.1).wipe1 i none
  rintro n m Hc ⟨rfl, hn, acc, vacc, W', hc1, ra, rgc, wc, ec, f⟩
  have offD : W' Dp = none := wc.offU (.inr rfl)
  rcases Nat.lt_or_ge n ds.length with hlt | hge
  · have hg0 : ds[n]? = some ds[n] := List.getElem?_eq_getElem hlt
    have hd0 : ds.drop n = ds[n] :: ds.drop (n + 1) := List.drop_eq_getElem_cons hlt
    generalize ds[n] = d0 at hg0 hd0
    have hdrop : ds.drop n = d0 :: ds.drop (n + 1) := hd0
    rw [hdrop] at f
    refine .inr ⟨Y.go (Hid U Dp) n W' Hc (fun _ z => .inl z) ec.P wc f.1 hlt, fun Hn => inv (n + 1) Hn, fun Hn z => ⟨_, by omega, rfl, z⟩, fun x H' yl => ?_⟩
    obtain ⟨d, hd, rx, w', e'⟩ := Y.yld (Hid U Dp) n W' Hc x H' (fun _ z => .inl z) (fun a z => z.elim .inl fun e => .inr (by rw [e]; exact hD)) ec.P wc f.1 hlt yl
    replace f := f.2
    obtain rfl : d = d0 := by rw [hg0] at hd; exact (Option.some.inj hd).symm
    have f : wpC G k T.toPm cond (g.set i (some d)) W' _ _ := f
    have rg2 : RepG0 T (Hid U Dp) W' H' (g.set i (some d)) ((wipe σ [i]).set i (some x)) := by
      have z := RepG0.set rx i (rgc.ext e')
      rw [List.set_set] at z
      exact z
    show (wipe ((wipe σ [i]).set i (some x)) [i] = wipe σ [i]) ∧ _
    refine ⟨by show (((wipe σ [i]).set i (some x)).set i none) = σ.set i none; rw [List.set_set]; show (σ.set i none).set i none = _; rw [List.set_set], HidX U Dp, ⟨rfl, rfl⟩, ?_⟩
    have hD' : H' Dp = some (.lst vacc) := e'.keep _ _ hc1 offD
    refine tT_mono (moC cond) (fun b H3 ⟨W3, rg3, w3, e3, f3⟩ => ?_) (oneT (U := HidX U Dp) (Z := Zf) (moC cond) rg2 w' (moC cond (fun _ _ z => z) (fun _ _ z => z.elim) f))
    have hD3 : H3 Dp = some (.lst vacc) := e3.keep _ _ hD' offD
    cases b with
    | false =>
      exact ⟨hlt, acc, vacc, W3, hD3, (ra.ext e').ext e3, (rgc.ext e').ext e3, w3, (ec.trans e').trans e3, f3⟩
    | true =>
      have off3 : W3 Dp = none := w3.offU (.inr rfl)
      refine ⟨HidX U Dp, ⟨rfl, rfl⟩, tE_mono (moE elt) (fun z H4 ⟨dy, W4, ry, rg4, w4, e4, f4⟩ => ?_) (one (Z := Zf) (moE elt) rg3 w3 (moE elt (fun _ _ z => z) (fun _ _ z => z.elim) f3))⟩
      have hD4 : H4 Dp = some (.lst vacc) := e4.keep _ _ hD3 off3
      have ra4 := ((ra.ext e').ext e3).ext e4
      refine ⟨vacc, hD4, by rw [← ra4.length]; exact f4.1, hlt, acc ++ [dy], vacc ++ [z], W4, upd_same, (ra4.append (.cons ry .nil)).poke, (((rgc.ext e').ext e3).ext e4).poke, w4.poke, (((ec.trans e').trans e3).trans e4).poke hD, f4.2⟩
  · have e0 : n = ds.length := Nat.le_antisymm hn hge
    subst e0
    rw [List.drop_length] at f
    refine .inl ⟨Y.stop (Hid U Dp) _ W' Hc (fun _ z => .inl z) ec.P wc f.1 (Nat.le_refl _) (Nat.le_refl _), ?_⟩
    have f : mkL own acc W' (Post T U W H Q) := f.2
    cases own with
    | false => exact f _ _ (.lst ⟨offD, nU⟩ hc1 (ra.less fun _ z => .inl z)) wc.unhide (e1.trans ec)
    | true => exact f Dp offD _ _ (.ptr Dp) (wc.open_ hc1 ra nU) ((e1.trans ec).open_ H0)
theorem s_comp (hu : U.ei = none) (hc : X.calm = true) (hnd : X.N.Nodup) {own : Bool} {i : Nat} {elt : E} {it : I} {cond : Option E} {y : Str} {py pos : Pos} {pe pi : Expr} {ifs : List Expr} {scope : Scope} (hset : isSet pi = false)
    (hi : PI X (.Name y py) pi (pI T U Z G k it)) (ok : BlkOk X.N X.env.scope scope [(y, i)]) (hN : X.N[i]? = some y) (hloc : (relS scope X.env.scope).names.lookup y = some .local)
    (he : ∀ (U' : Ux), U'.ei = none → U'.pn = [] → ∀ (s : Shared) (H : Hp) (C : Addr) (cl : List (Str × Addr)) (fp : List Addr), PE (X.blk s H scope (compEnvC scope cl C X.env) fp) pe (pE T U' Zf G k elt))
    (ht : ∀ (U' : Ux), U'.ei = none → U'.pn = [] → ∀ (s : Shared) (H : Hp) (C : Addr) (cl : List (Str × Addr)) (fp : List Addr), PTs (X.blk s H scope (compEnvC scope cl C X.env) fp) ifs (tT T U' Zf (wpC G k T.toPm cond))) :
    PE X (.ListComp pe [⟨.Name y py, pi, ifs, 0⟩] scope pos) (pE T U Z G k (.comp own i elt it cond)) :=
  (pe_lc (own := [(y, i)]) (g := gName i) (tt := fun σ H Q => ∃ U' : Ux, (U'.ei = none ∧ U'.pn = []) ∧ tT T U' Zf (wpC G k T.toPm cond) σ H Q) (te := fun σ H Q => ∃ U' : Ux, (U'.ei = none ∧ U'.pn = []) ∧ pE T U' Zf G k elt σ H Q) hc hnd hi ok
    (fun s H C cl fp => pg_name hnd hN (.inl hloc) (.inr hloc)) (fun s H C cl fp => ⟨fun pins s' σ H' Q I ⟨U', ⟨z1, z2⟩, h⟩ => (ht U' z1 z2 s H C cl fp).run pins s' σ H' Q I h⟩)
    (fun s H C cl fp => ⟨fun pins s' σ H' Q I ⟨U', ⟨z1, z2⟩, h⟩ => (he U' z1 z2 s H C cl fp).run pins s' σ H' Q I h⟩) (fun x => by cases pi <;> first | rfl | cases hset)).to fun σ H Q h => comp_read hu h
/-- name = [..] on one line -/
theorem s_setComp (hu : U.ei = none) (hc : X.calm = true) (hnd : X.N.Nodup) {own : Bool} {i j : Nat} {elt : E} {it : I} {cond : Option E} {y z : Str} {py pz pos spos : Pos} {pe pi : Expr} {ifs : List Expr} {scope : Scope} (hset : isSet pi = false)
    (hz : X.N[j]? = some z) (hzl : X.env.scope.names.lookup z = some .local) (hsw : swapsWith (.ListComp pe [⟨.Name y py, pi, ifs, 0⟩] scope pos) (some (.Name z pz)) spos.line X.env = pure true)
    (hi : PI X (.Name y py) pi (pI T U Z G k it)) (ok : BlkOk X.N X.env.scope scope [(y, i)]) (hN : X.N[i]? = some y) (hloc : (relS scope X.env.scope).names.lookup y = some .local)
    (he : ∀ (U' : Ux), U'.ei = none → U'.pn = [] → ∀ (s : Shared) (H : Hp) (C : Addr) (cl : List (Str × Addr)) (fp : List Addr), PE (X.blk s H scope (compEnvC scope cl C X.env) fp) pe (pE T U' Zf G k elt))
    (ht : ∀ (U' : Ux), U'.ei = none → U'.pn = [] → ∀ (s : Shared) (H : Hp) (C : Addr) (cl : List (Str × Addr)) (fp : List Addr), PTs (X.blk s H scope (compEnvC scope cl C X.env) fp) ifs (tT T U' Zf (wpC G k T.toPm cond))) :
    PS X (.Assign [.Name z pz] (.ListComp pe [⟨.Name y py, pi, ifs, 0⟩] scope pos) spos) (tAsg (pE T U Z G k (.comp own i elt it cond)) (gName j)) := by
  have q := ps_setLc (own := [(y, i)]) (g := gName i) (tt := fun σ H Q => ∃ U' : Ux, (U'.ei = none ∧ U'.pn = []) ∧ tT T U' Zf (wpC G k T.toPm cond) σ H Q) (te := fun σ H Q => ∃ U' : Ux, (U'.ei = none ∧ U'.pn = []) ∧ pE T U' Zf G k elt σ H Q) hc hnd hz hzl hsw hi ok
    (fun s H C cl fp => pg_name hnd hN (.inl hloc) (.inr hloc)) (fun s H C cl fp => ⟨fun pins s' σ H' Q I ⟨U', ⟨z1, z2⟩, h⟩ => (ht U' z1 z2 s H C cl fp).run pins s' σ H' Q I h⟩)
    (fun s H C cl fp => ⟨fun pins s' σ H' Q I ⟨U', ⟨z1, z2⟩, h⟩ => (he U' z1 z2 s H C cl fp).run pins s' σ H' Q I h⟩) (fun x => by cases pi <;> first | rfl | cases hset)
  exact ⟨fun pins s σ H D I h => q.run pins s σ H D I (comp_read hu h)⟩
end
end Tw
set_option maxHeartbeats 4000000
namespace PySem.XIs
open PySem PySem.Spec PySem.Calls PyProof.Rows PySem.W
section
variable {prog : Program} {w : World} {A : Around} {E : Value → Shared → Prop} {s : Shared} {K : Frag} {x D : Addr} {ox : Obj}
/-- e.__class__ of an own exception, with or without a dict -/
theorem cls_read {od : Option Obj} {Q : Option Value → Shared → Prop} (C : L2.ExcC K D) (X : K.In s.heap) (I : InstAt s.heap x ox D od) (h : Q (some (.ref D)) { s with toks := s.toks + 1 }) : wpAny (model prog w) A (getAttr? (.ref x) "__class__") Q E s := by
  have hf : findObj K D od "__class__" = some (.bind (.builtin "getset_descriptor.__get__") (.builtin "object.__class__")) := by
    obtain ⟨cd, hc, _⟩ := any_some C.hd
    unfold findObj
    simp [hc, C.ha, C.hn, C.ht]
  obtain ⟨hp, g, d, t, os⟩ := s
  have l0 := I.type (M := model prog w)
  have l1 := looks_findIn (M := model prog w) X C.hg
  have l2 := looks_findIn (M := model prog w) X C.hk
  have l3 := looks_find (M := model prog w) X I hf
  have isx : Looks (model prog w) hp (isInstance (.ref x) (.type "BaseException")) true := l0.andThen (looks_subIn X C.hs)
  have q0 : (false && onTheHeap (Value.builtin "BaseException.__getattribute__")) = false := rfl; have q2 : (Value.builtin "BaseException.__getattribute__" == Value.builtin "object.__getattribute__") = false := by decide +kernel
  have q1 : (onTheHeap (Value.ref D) && Value.builtin "BaseException.__getattribute__" == Value.builtin "object.__getattribute__") = false := by rw [q2]; rfl
  unfold getAttr? getAttrBy? getAttrBy; refine wpAny_bind (wpAny_mkText (wpAny_bind (wpAny_attempt (wpAny_holding (wpAny_bind (l0.at (wpAny_bind (l1.at ?_))))))))
  show wpAny _ _ (if (onTheHeap (Value.ref D) && Value.builtin "BaseException.__getattribute__" == Value.builtin "object.__getattribute__") = true then _ else _) _ _ _; rw [q1, if_neg Bool.false_ne_true]; unfold getAttrByItsOwn hookBefore
  refine wpAny_bind ?_; rw [if_pos (show onTheHeap (Value.ref D) = true from rfl)]; refine l2.at ?_; refine wpAny_bind (wpAny_attempt (wpAny_holding ?_)); unfold callGetattribute; rw [q0, if_neg Bool.false_ne_true]; unfold boundAndCalled
  rw [PySem.F.excAttr_ValueError.ga.bind (.ref x)]; refine wpAny_bind (wpAny_pure ?_); show wpAny _ _ (call (.builtin "BaseException.__getattribute__") [.ref x, .str "__class__" t]) _ _ _; refine wpAny_call (codeAny_call_builtin PySem.F.excAttr_ValueError.ga.plain PySem.F.entry_bexc_ga ?_)
  refine @check_slot (model prog w) _ _ ⟨hp, g, d, t + 1, os⟩ "BaseException.__getattribute__" "BaseException" "__getattribute__" (.ref x) [.str "__class__" t] [] _ (by decide +kernel) (by decide +kernel) isx (PySem.F.args_bexc_ga (.ref x) (.str "__class__" t)) ?_; unfold Builtin.«object.__getattribute__»
  refine wpAny_bind (wpAny_of_eq (a := ((Value.ref x : Value), [Value.str "__class__" t])) (by first | rfl | (simp only [slotArgs]; rfl)) ?_); refine wpAny_bind (wpAny_pure (wpAny_bind (l0.at (wpAny_bind (l3.at ?_)))))
  show wpAny _ _ (holding [Value.builtin "object.__class__"] (call (.builtin "getset_descriptor.__get__") [.builtin "object.__class__", .ref x, .ref D]) >>= ret) _ _ _; refine wpAny_bind (wpAny_holding (wpAny_call (class_get (s := ⟨hp, g, d, t + 1, os⟩) (ox := ox) (od := od) X I C.hm ?_)))
  refine wpAny_pure ?_; show wpAny _ _ (handedOut (.ref D)) _ _ _; rw [handedOut_of (v := .ref D) rfl]
  first | exact wpAny_pure (wpAny_pure h) | exact wpAny_pure h | exact wpAny_pure (wpAny_bind (wpAny_pure (wpAny_pure h)))
/-- isinstance asks such an exception rightly -/
theorem clsObj (C : L2.ExcC K D) : ∃ (a : Value) (b : Option Addr) (cd : ClassData) (sl : Array (Option Value)), K.lookup D = some ⟨a, b, .cls cd, sl⟩ := by
  obtain ⟨cd, hc, _⟩ := any_some C.hd
  unfold clsIn at hc
  split at hc
  · rename_i a b cd' sl ho
    exact ⟨a, b, cd', sl, ho⟩
  · cases hc
theorem kit {od : Option Obj} (C : L2.ExcC K D) : KitX K (.ref x) (.ref D) (fun h => InstAt h x ox D od) := by
  obtain ⟨a, b, cd, sl, ho⟩ := clsObj C
  refine ⟨fun _ _ _ I => I.type, fun M h X _ A' Q' E' s' k q => ?_, fun h tp dd its n sl' X htp => ?_, fun X I k => cls_read C X I k⟩
  · unfold isType loadHead; exact wpAny_bind (wpAny_loadPart (k _ _ (X _ _ ho)) (wpAny_pure q))
  · refine Bool.eq_false_iff.mpr fun q => ?_
    obtain rfl : D = tp := Value.ref.inj (beq_iff_eq.mp q)
    have z := (X _ _ ho).symm.trans htp; cases z
end
end PySem.XIs
namespace Tw
open PySem PySem.Spec L2
open PyProof.Rows (b2i)
section
variable {T : Tb} {U : Ux} {G : Gs} {k : Nat} {X : Cx} {Z : WX} {cm : Md} {pos : Pos}
/-- the caught exception, by its slot -/
theorem ex_read {i : Nat} {σ : St} {H : Hp} {W : Om} {g : Gm} {p : Nat → List (Nat × D) → Prop} (C : Cok T U G k cm X) (hi : cm.ei = some i) (rg : RepG T U W H g σ) (h : exnD g i p) :
    ∃ C' fs a oe, T.isX C' = true ∧ p C' fs ∧ σ[i]? = some (some (V.ref a)) ∧ (a, oe) ∈ X.pn ∧ (∃ vs, oe.data = .fields vs) ∧ RepX T U.hid W H ⟨C', fs⟩ oe.cls oe.dict := by
  obtain ⟨C1, fs1, a, oe, h1, h2, h3, h4, h5⟩ := ((RepG.some_ (C.ue.trans hi)).mp rg).1
  obtain ⟨C', fs, e, q⟩ := h
  have q0 := h5.isX
  rw [h1] at e
  cases e
  exact ⟨_, _, a, oe, q0, q, h2, C.up _ h3, h4, h5⟩
theorem inst_at {pins : List (Addr × Obj)} {s : Shared} {σ : St} {H : Hp} {W : Om} {x : Exn} {a : Addr} {oe : Obj} (I : L2.Inv X pins σ H s) (hp : (a, oe) ∈ X.pn) (hd : ∃ vs, oe.data = .fields vs) (r : RepX T U.hid W H x oe.cls oe.dict) : ∃ od, PySem.W.InstAt s.heap a oe (T.cad x.C) od := by
  obtain ⟨hget, _⟩ := I.pin (a, oe) (List.mem_append_left _ hp)
  obtain ⟨vs, hv⟩ := hd
  have no : PySem.W.notCls oe = true := by unfold PySem.W.notCls; rw [hv] <;> rfl
  generalize hc : oe.cls = c at r
  generalize hdd : oe.dict = dd at r
  cases r with
  | bare C => exact ⟨none, hget, hc, no, by rw [hdd]; trivial⟩
  | dict hx n e rf =>
    obtain ⟨mA, hns, hr⟩ := I.hok _ _ e
    obtain ⟨od, ho, hl⟩ := lookIn_ns hns
    exact ⟨some od, hget, hc, no, by rw [hdd]; exact ho⟩
/-- isinstance(e, c) -/
def rX (T : Tb) (X : Cx) : List V → Hp → VK → Prop := fun xs H Q => ∃ (U : Addr → Prop) (W : Om) (x : Exn) (a : Addr) (oe : Obj) (c : V) (cv : Value) (b : Bool), xs = [.ref a, c] ∧ (∀ u, RelV c u → u = cv) ∧ (a, oe) ∈ X.pn ∧ (∃ vs, oe.data = .fields vs) ∧ RepX T U W H x oe.cls oe.dict ∧
  ExcC X.K (T.cad x.C) ∧ PySem.W.kitOne X.K (.ref (T.cad x.C)) cv = some b ∧ Q (.bl b) H
theorem call_X : CallR X (.builtin "isinstance") (rX T X) := by
  intro pins s σ H xs us Q I r ⟨U, W, x, a, oe, c, cv, b, e, hcv, hp, hd, rx, C, e2, q⟩
  subst e
  cases r with
  | cons r1 rr =>
    cases rr with
    | cons r2 rr =>
      cases rr
      cases r1
      obtain rfl := hcv _ r2
      obtain ⟨od, J⟩ := inst_at (U := ⟨U, none, []⟩) I hp hd rx
      exact PySem.W.kia_one (PySem.XIs.kit C) I.kIn J e2 (fun z => nomatch z) fun tk => ⟨.bl b, H, I.kept (t' := tk) fun _ _ z => z, rfl, q⟩
theorem vis_of {i : Nat} {x : Str} (h : (nmB X.N i x && visB X.env.scope x && !oddB x) = true) {q : Pos} : PE X (.Name x q) (fun σ H Q => ∃ v, σ[i]? = some (some v) ∧ Q v H) := by
  simp only [Bool.and_eq_true, Bool.not_eq_true', oddB, Bool.or_eq_false_iff] at h
  obtain ⟨⟨h1, h2⟩, ⟨h3, h4⟩, h5⟩ := h
  have e1 : X.N[i]? = some x := by
    unfold nmB at h1
    split at h1
    · next y q => rw [q, of_decide_eq_true h1]
    · cases h1
  have e2 : Vis X.env.scope x := by
    unfold visB at h2
    split at h2
    · next q => exact .inl q
    · next q => exact .inr (.inl q)
    · next q => exact .inr (.inr q)
    · cases h2
  exact (pe_var (i := i) e1 e2 h3 h4).to fun σ H Q h => h
theorem s_exI (C : Cok T U G k cm X) {i : Nat} {c : Cl} {x z y : Str} {p p1 p2 : Pos} (hi : cm.ei = some i) (hx : gloB X.env.scope x "isinstance" = true) (hz : (nmB X.N i z && visB X.env.scope z && !oddB z) = true)
    (hy : (match c with | .ty n => decide (n = "ValueError") && decide (y = Str.ofString n) && glB X.env.scope y && !oddB y | .own D => gloB X.env.scope y (T.cn D) && T.isC D && T.isX D) = true) :
    PE X (.Call (.Name x p) [.Name z p1, .Name y p2] [] pos) (pE T U Z G k (.exI i c)) := by
  obtain ⟨e1, e2, e3, e4⟩ := glo hx
  have gx : X.mg x = none := by rw [e1]; exact C.blt _ (by simp [bltNames])
  have fin : ∀ {tv : TE} (py : PE X (.Name y p2) tv), (∀ C', T.isX C' = true → ∃ (cv : Value), ∀ σ H (Q : VK), (∀ c0, (∀ u, RelV c0 u → u = cv) → PySem.W.kitOne X.K (.ref (T.cad C')) cv = some (subC T.toPm C' c) → Q c0 H) → tv σ H Q) →
      PE X (.Call (.Name x p) [.Name z p1, .Name y p2] [] pos) (pE T U Z G k (.exI i c)) := fun {tv} py hv => by
    refine (pe_callB (r := rX T X) call_X e2 gx (by rw [e1]; decide +kernel) (pa_cons (vis_of hz) (pa_cons py pa_nil)) e4 e3).to fun σ H Q ⟨g, W, rg, hw, h⟩ => ?_
    simp only [wpE] at h
    obtain ⟨C', fs, a, oe, hX, q, h2, hp, hd, rx⟩ := ex_read C hi rg h
    obtain ⟨cv, hv⟩ := hv C' hX
    exact ⟨.ref a, h2, hv _ _ _ fun c0 h1 h3 => ⟨U.hid, W, _, a, oe, c0, cv, _, rfl, h1, hp, hd, rx, (C.exs.cls C' hX).1, h3, q _ _ (.bl _) hw .refl⟩⟩
  cases c with
  | ty n =>
    simp only [Bool.and_eq_true, decide_eq_true_eq] at hy
    obtain ⟨⟨⟨t1, t2⟩, t3⟩, t4⟩ := hy
    subst t1
    obtain ⟨f1, f2, f3, f4⟩ := glo (sc := X.env.scope) (x := y) (y := Str.ofString "ValueError") (by unfold gloB; rw [t2, decide_eq_true rfl, ← t2, t3, t4]; rfl)
    have gy : X.mg y = none := by rw [t2]; exact C.blt _ (by simp [bltNames])
    refine fin (tv := tC (.ty "ValueError")) (pe_bltn f2 gy (by rw [t2]; decide +kernel) rfl f4 f3) fun C' hX => ⟨.type "ValueError", fun σ H Q q => q _ (fun u r => r) (C.exs.cls C' hX).2.2⟩
  | own D =>
    simp only [Bool.and_eq_true] at hy
    obtain ⟨f1, f2, f3, f4⟩ := glo hy.1.1
    obtain ⟨kC, gC⟩ := C.cls D hy.1.2
    refine fin (pe_glob (v := .ref (T.cad D)) (u := .ref (T.cad D)) f2 (by rw [f1]; exact gC) rfl f3) fun C' hX => ⟨.ref (T.cad D), fun σ H Q q => q _ (fun u r => r) (C.exs.sub C' D hX hy.2).1⟩
theorem s_exC (C : Cok T U G k cm X) (tk : Takes X Z) {f i : Nat} {x z : Str} {p p1 : Pos} (hi : cm.ei = some i) (hcm : cm.calm = false) (hx : gloB X.env.scope x (T.gn f) = true) (hf : T.isE f = true) (hg : T.isG f = true) (hz : (nmB X.N i z && visB X.env.scope z && !oddB z) = true) :
    PE X (.Call (.Name x p) [.Name z p1] [] pos) (pE T U Z G k (.exC f i)) := by
  obtain ⟨e1, e2, e3, e4⟩ := glo hx
  obtain ⟨fd, qs, hb, hk, F⟩ := C.fx f k hf (Nat.le_refl _)
  obtain ⟨hr, hot⟩ := C.hot hcm
  have gm : X.mg x = some (.ref (T.fad f)) := by rw [e1]; exact C.gl f hg
  refine ⟨fun pins s σ H Q I ⟨g, W, rg, hw, h⟩ => ?_⟩
  simp only [wpE] at h
  obtain ⟨C', fs, a, oe, hX, q, h2, hp, hd, rx⟩ := ex_read C hi rg h
  have hh : X.A.handled = some (.ref a) := by
    obtain ⟨C1, fs1, a1, oe1, _, h4, h5, _⟩ := ((RepG.some_ (C.ue.trans hi)).mp rg).1
    rw [h2] at h4
    cases h4
    exact C.hx i hi _ h5
  refine wpAny_Call_Name_kw (ld_glob I e2 gm ?_ e3)
  refine PySem.W.callWith_K (h₀ := X.base) I.ok.mod.kin hk (thn ((pa_cons (vis_of hz) pa_nil).run pos pins s σ H (fun vs H' => vs = [V.ref a] ∧ H' = H) I ⟨_, h2, rfl, rfl⟩) fun us s1 ⟨vs, H1, I1, r, ev, eH⟩ => ⟨I1.kIn, ?_⟩) rfl rfl
  subst ev eH
  obtain ⟨R, hR, hq, hxx⟩ := q
  refine run_fnX (E := WE Z) F hr hot hb (L2N.passAt tk σ) I1 r fun p' hp' hm => ?_
  have ea : p'.1 = a := by
    have := hp'.1
    rw [hh] at this
    cases this
    rfl
  have eo : p'.2 = oe := by
    have g1 := (I1.pin p' (List.mem_append_left _ hm)).1
    have g2 := (I1.pin (a, oe) (List.mem_append_left _ hp)).1
    rw [ea] at g1
    exact Option.some.inj (g1.symm.trans g2)
  refine ⟨by rw [ea], by rw [eo]; exact hd, U.hid, C', fs, W, R, by rw [eo]; exact rx, hw, hR, fun d W' r v H' a b c => hq d W' r v H' a b c, fun x W' r c d H' a b e => hxx x W' r c d H' a b e⟩
theorem s_exA (C : Cok T U G k cm X) {i f : Nat} {z : Str} {p1 : Pos} (hi : cm.ei = some i) (hz : (nmB X.N i z && visB X.env.scope z && !oddB z) = true) (hf : f < T.nf) : PE X (.Attribute (.Name z p1) (T.fnm f) pos) (pE T U Z G k (.exA i f)) := by
  refine ⟨fun pins s σ H Q I ⟨g, W, rg, hw, h⟩ => ?_⟩
  simp only [wpE] at h
  obtain ⟨C', fs, a, oe, hX, ⟨x, ha, hl, q⟩, h2, hp, hd, rx⟩ := ex_read C hi rg h
  refine attr_of (by rfl) (thn ((vis_of hz).run pins s σ H (fun v H' => v = V.ref a ∧ H' = H) I ⟨_, h2, rfl, rfl⟩) fun u s1 ⟨v, H1, I1, rv, ev, eH⟩ => ?_)
  subst ev eH
  obtain rfl : u = Value.ref a := rv
  obtain ⟨_, xf, _⟩ := C.exs.cls C' hX
  obtain ⟨hget, _⟩ := I1.pin (a, oe) (List.mem_append_left _ hp)
  obtain ⟨vs, hv⟩ := hd
  generalize hc : oe.cls = c at rx
  generalize hdd : oe.dict = dd at rx
  cases rx with
  | bare => cases hl
  | dict hx n e rf =>
    obtain ⟨v, l, r⟩ := rf.look hf hl
    obtain ⟨mA, hns, hr⟩ := I1.hok _ _ e
    obtain ⟨od, ho, hlk⟩ := lookIn_ns hns
    obtain ⟨u, hu, ru⟩ := RelO.some_of (v := v) (o := mA (T.fnm f)) (by rw [← l]; exact hr (T.fnm f))
    have J : PySem.W.InstAt s1.heap a oe (T.cad C') (some od) := ⟨hget, hc, by unfold PySem.W.notCls; rw [hv] <;> rfl, by rw [hdd]; exact ho⟩
    exact PySem.HandSPX.exc_get I1.kIn J xf.ga xf.gg xf.exC (PySem.W.findObj_own xf.hdC (C.exs.at_ _ _ ha) rfl (by rw [hlk, hu])) (handed_of ru) ⟨v, _, I1.tok _, ru, q _ _ r hw .refl⟩
end
end Tw
set_option maxHeartbeats 4000000
namespace Tw
open PySem PySem.Spec L2
open PyProof.Rows (b2i)
section
variable {T : Tb} {U : Ux} {G : Gs} {k : Nat} {X : Cx} {Z : WX} {cm : Md} {a b c : E} {pa pb pc : Expr} {pos apos : Pos} {es ks : List E} {ps : List Expr} {kws : List Keyword}
/-- nothing that a tree stands for is NotImplemented -/
theorem rep_ok {U : Addr → Prop} {W : Om} {H : Hp} {d : D} {v : V} {u : Value} (r : Rep T U W H d v) (h : RelV v u) : u ≠ .notImplemented := by
  rintro rfl
  cases r <;> first | (obtain ⟨t, e⟩ := h; cases e; done) | (cases h; done)
/-- behind a def's call by an operator: the value is known not to be NotImplemented -/
theorem call_ok2 (C : Cok T U G k cm X) (hcm : cm.calm = true) (tk : Takes X Z) {f j : Nat} (hf : T.isF f = true) (hj : j ≤ k) {pins : List (Addr × Obj)} {s : Shared} {σ : St} {H : Hp} {W : Om} {us : List Value} {vs : List V} {ds : List D} {Q : VK} (I : L2.Inv X pins σ H s)
    (rv : Vals vs us) (rd : Reps T U W H ds vs) (hw : RepW T U W H) (h : callW G j f ds W (Post T U W H Q) (PostX T U W H σ Z)) : wpAny (model X.prog X.w) X.A (PySem.call (.ref (T.fad f)) us) (PySem.W.CmpBack (EP X pins σ Q)) X.xe s := by
  obtain ⟨fd, qs, hb, hk, F, _, _⟩ := C.fn f j hf hj
  obtain ⟨R, hR, hq, hx⟩ := h
  have sp : spOf T (G f j) vs H (fun v H' => Q v H' ∧ ∀ u, RelV v u → u ≠ .notImplemented) (WE Z σ) := ⟨U, ds, W, R, rd, hw, hR, fun d W' r v H' a b c => ⟨hq d W' r v H' a b c, fun u hu => rep_ok a hu⟩, fun x W' r c d H' a b e => hx x W' r c d H' a b e⟩
  refine wpAny_mono (run_fnS (E := WE Z) F ((C.room hcm).mono hj) hb (L2N.passAt tk σ) I rv sp) (fun u s' ⟨v, H', I', rv', q1, q2⟩ => ?_) fun _ _ z => z
  have ne := q2 u rv'
  show PySem.W.CmpBack (EP X pins σ Q) u s'
  unfold PySem.W.CmpBack
  split
  · exact absurd rfl ne
  · exact ⟨v, H', I', rv', q1⟩
theorem pins_ex {W : Om} {H : Hp} {d : D} {x : V} {C : Nat} {fs : List (Nat × D)} (hw : RepW T U W H) (r : Rep T U W H d x) (e : clsD W d = some (C, fs)) : ∃ p dx fv, x = .ref p ∧ H p = some (.ins (T.cad C) dx fv) := by
  obtain ⟨p, dx, fv, h1, h2, _⟩ := cls_ok hw r e
  exact ⟨p, dx, fv, h1, h2⟩
theorem dun_eq (o : BOp) : PySem.dunder o.op.info.2 = dunB o := by cases o <;> decide +kernel
theorem s_own2bin (C : Cok T U G k cm X) (hcm : cm.calm = true) (tk : Takes X Z) {o : BOp} {op : Operator} {m : Nat} (ho : opB o op = true) (hm : T.fnm m = dunB o) (ha : PE X pa (pE T U Z G k a)) (hb : PE X pb (pE T U Z G k b)) :
    PE X (.BinOp pa op pb pos) (pE T U Z G k (.own2 (.bin o m) a b)) := by
  rw [opB_eq ho]
  refine ⟨fun pins s σ H Q I ⟨g, W, rg, hw, h⟩ => ?_⟩
  simp only [wpE] at h
  refine wpAny_BinOp (binT ha hb I (R := fun x y H2 => ∃ d e W2, Rep T U W2 H2 d x ∧ Rep T U W2 H2 e y ∧ RepW T U W2 H2 ∧ Ext W H W2 H2 ∧ own2W G k T.toPm (.bin o m) d e W2 (Post T U W H Q) (PostX T U W H σ Z)) ?_ fun v u s2 x y H2 I2 rx ry q => ?_)
  · exact tE_mono (moE a) (fun x H1 z => tE_mono (moE b) (fun y H2 ⟨d, e, W2, rd, re, rg2, w2, e2, f⟩ => ⟨d, e, W2, rd, re, w2, e2, f⟩) z) (two (moE a) (moE b) rg hw h)
  · obtain ⟨d, e, W2, rd, re, w2, e2, C', fs, fs', f, c1, c2, c3, c4, hc⟩ := q
    obtain ⟨p, dx, fv, rfl, hp⟩ := pins_ex w2 rd c1
    obtain ⟨p', dx', fv', rfl, hp'⟩ := pins_ex w2 re c2
    obtain rfl : v = Value.ref p := rx
    obtain rfl : u = Value.ref p' := ry
    obtain ⟨hf, k1, k2⟩ := C.mth _ _ _ c4
    obtain ⟨mA, O, _⟩ := ins_get I2.hok hp
    obtain ⟨mB, O', _⟩ := ins_get I2.hok hp'
    obtain ⟨od, J, _⟩ := O.look
    obtain ⟨od', J', _⟩ := O'.look
    obtain ⟨mm, hF⟩ := I2.fr
    refine PySem.W.binop_K hF I2.ok.mod.kin J J'.type (C.own.slf _ c3) (by rw [dun_eq, ← hm]; exact k2.at_) k2.fn ?_
    exact call_ok2 C hcm tk hf (Nat.le_refl _) I2 (us := [.ref p, .ref p']) (vs := [.ref p, .ref p']) (.cons rfl (.cons rfl .nil)) (.cons rd (.cons re .nil)) w2 (callW.mono G _ (Post.step e2) (PostX.step e2) hc)
theorem tb_of {d : D} {y : V} {W : Om} {H : Hp} {u : Value} {o : Option Nat} {pins : List (Addr × Obj)} {σ : St} {s : Shared} (I : L2.Inv X pins σ H s) (r : Rep T U W H d y) (hw : RepW T U W H) (ry : RelV y u) (h : kdO W d = some o) :
    ∃ tb, PySem.W.Looks (model X.prog X.w) s.heap (typeOf u) tb ∧ (match o with | none => ∃ t ∈ ["NoneType", "bool", "int", "str", "list", "tuple"], tb = .type t | some c => tb = .ref (T.cad c)) := by
  cases o with
  | some c =>
    obtain ⟨p, dx, fv, rfl, hp⟩ := ins_of r hw h
    obtain rfl : u = Value.ref p := ry
    obtain ⟨mA, O, _⟩ := ins_get I.hok hp
    obtain ⟨od, J, _⟩ := O.look
    exact ⟨_, J.type, rfl⟩
  | none =>
    obtain ⟨t, hm, ty⟩ := kd_of (X := X) r hw h
    refine ⟨.type t, ?_, t, hm, rfl⟩
    obtain ⟨P, Z, p, hx⟩ := kit_of I ry ty
    exact Z.ty _ _ I.kIn p
theorem pc_own2eq (C : Cok T U G k cm X) (hcm : cm.calm = true) (tk : Takes X Z) {m : Nat} (hm : T.fnm m = "__eq__") (ha : PE X pa (pE T U Z G k a)) (hb : PE X pb (pE T U Z G k b)) :
    PC X .Eq pa pb (pE T U Z G k (.own2 (.eq m) a b)) := by
  refine ⟨fun pins s σ H Q I ⟨g, W, rg, hw, h⟩ => ?_⟩
  simp only [wpE] at h
  refine binT ha hb I (R := fun x y H2 => ∃ d e W2, Rep T U W2 H2 d x ∧ Rep T U W2 H2 e y ∧ RepW T U W2 H2 ∧ Ext W H W2 H2 ∧ own2W G k T.toPm (.eq m) d e W2 (Post T U W H Q) (PostX T U W H σ Z)) ?_ fun v u s2 x y H2 I2 rx ry q => ?_
  · exact tE_mono (moE a) (fun x H1 z => tE_mono (moE b) (fun y H2 ⟨d, e, W2, rd, re, rg2, w2, e2, f⟩ => ⟨d, e, W2, rd, re, w2, e2, f⟩) z) (two (moE a) (moE b) rg hw h)
  · obtain ⟨d, e, W2, rd, re, w2, e2, C', fs, f, o, c1, c2, c3, c4, c5, hc⟩ := q
    obtain ⟨p, dx, fv, rfl, hp⟩ := pins_ex w2 rd c1
    obtain rfl : v = Value.ref p := rx
    obtain ⟨hf, k1, k2⟩ := C.mth _ _ _ c3
    obtain ⟨mA, O, _⟩ := ins_get I2.hok hp
    obtain ⟨od, J, _⟩ := O.look
    obtain ⟨mm, hF⟩ := I2.fr
    obtain ⟨tb, hT, ho⟩ := tb_of I2 re w2 ry c4
    have hn : PySem.W.notFirst X.K (T.cad C') tb = true := by
      cases o with
      | none =>
        obtain ⟨t, ht, rfl⟩ := ho
        exact (C.own.ty _ c2 t ht).1
      | some c' =>
        have ho : tb = .ref (T.cad c') := ho
        subst ho
        exact C.own.nof _ _ c2 c5.2
    have hr := (C.room hcm).units0
    have hc' := callW.mono G k (fun r W' z => z) (PostX.step e2) hc
    show wpAny _ _ (richCompare .Eq (.ref p) u) _ _ _
    refine PySem.W.cmp_K (op := .Eq) hr hF I2.ok.mod.kin J hT hn (by show PySem.W.findIn _ _ ("__eq__" : Str) = _; rw [← hm]; exact k2.at_) k2.fn ?_
    exact call_ok2 C hcm tk hf (Nat.le_refl _) I2 (us := [.ref p, u]) (vs := [.ref p, y]) (.cons rfl (.cons ry .nil)) (.cons rd (.cons re .nil)) w2 (callW.mono G _ (fun r W' ⟨t, e, z⟩ => by subst e; exact Post.step e2 _ _ z) (PostX.step e2) hc)
theorem s_own2eq (C : Cok T U G k cm X) (hcm : cm.calm = true) (tk : Takes X Z) {m : Nat} (hs : isSet pb = false) (hm : T.fnm m = "__eq__") (ha : PE X pa (pE T U Z G k a)) (hb : PE X pb (pE T U Z G k b)) :
    PE X (.Compare pa [.Eq] [pb] pos) (pE T U Z G k (.own2 (.eq m) a b)) := pe_cmp (pc_own2eq C hcm tk hm ha hb) (noset hs)
theorem s_own2eqT (C : Cok T U G k cm X) (hcm : cm.calm = true) (tk : Takes X Z) {m : Nat} (hs : isSet pb = false) (hm : T.fnm m = "__eq__") (ha : PE X pa (pE T U Z G k a)) (hb : PE X pb (pE T U Z G k b)) :
    PT X (.Compare pa [.Eq] [pb] pos) (pT T U Z G k (.own2 (.eq m) a b)) := (pt_cmp (pc_own2eq C hcm tk hm ha hb) (noset hs)).to fun σ H Q ⟨g, W, rg, hw, h⟩ => by
  simp only [wpT] at h
  refine ⟨g, W, rg, hw, ?_⟩
  simp only [wpE]
  refine moE a (fun x W1 z => moE b (fun y W2 z => ?_) (fun _ _ z => z) z) (fun _ _ z => z) h
  obtain ⟨C', fs, f, o, c1, c2, c3, c4, c5, hc⟩ := z
  exact ⟨C', fs, f, o, c1, c2, c3, c4, c5, callW.mono G k (fun r W' ⟨t, e, t', e', z⟩ => ⟨t, e, fun v H' r' w' e2 => by cases r'; cases e'; exact ⟨_, rfl, z _ w' e2⟩⟩) (fun _ _ z => z) hc⟩
theorem pc_own2mem (C : Cok T U G k cm X) (hcm : cm.calm = true) (tk : Takes X Z) {neg : Bool} {m : Nat} (hm : T.fnm m = "__contains__") (ha : PE X pa (pE T U Z G k a)) (hb : PE X pb (pE T U Z G k b)) :
    PC X (if neg = true then .NotIn else .In) pa pb (pE T U Z G k (.own2 (.mem neg m) a b)) := by
  refine ⟨fun pins s σ H Q I ⟨g, W, rg, hw, h⟩ => ?_⟩
  simp only [wpE] at h
  refine binT ha hb I (R := fun x y H2 => ∃ d e W2, Rep T U W2 H2 d x ∧ Rep T U W2 H2 e y ∧ RepW T U W2 H2 ∧ Ext W H W2 H2 ∧ own2W G k T.toPm (.mem neg m) d e W2 (Post T U W H Q) (PostX T U W H σ Z)) ?_ fun v u s2 x y H2 I2 rx ry q => ?_
  · exact tE_mono (moE a) (fun x H1 z => tE_mono (moE b) (fun y H2 ⟨d, e, W2, rd, re, rg2, w2, e2, f⟩ => ⟨d, e, W2, rd, re, w2, e2, f⟩) z) (two (moE a) (moE b) rg hw h)
  · obtain ⟨d, e, W2, rd, re, w2, e2, C', fs, f, c1, c3, hc⟩ := q
    obtain ⟨p, dx, fv, rfl, hp⟩ := pins_ex w2 re c1
    obtain rfl : u = Value.ref p := ry
    obtain ⟨hf, k1, k2⟩ := C.mth _ _ _ c3
    obtain ⟨mA, O, _⟩ := ins_get I2.hok hp
    obtain ⟨od, J, _⟩ := O.look
    obtain ⟨mm, hF⟩ := I2.fr
    have hat : PySem.W.findIn X.K (.ref (T.cad C')) "__contains__" = some (some (.ref (T.fad f))) := by rw [← hm]; exact k2.at_
    have run := call_ok C tk hf (Nat.le_refl _) (by rw [hcm]; rfl) I2 (us := [.ref p, v]) (vs := [.ref p, x]) (Q := fun r H' => ∃ t, r = .bl t ∧ Q (.bl (if neg = true then !t else t)) H') (.cons rfl (.cons rx .nil)) (.cons re (.cons rd .nil)) w2
      (callW.mono G _ (fun r W' ⟨t, e, z⟩ w H' rw ww ew => by subst e; cases rw; exact ⟨t, rfl, z _ _ (.bl _) ww (e2.trans ew)⟩) (PostX.step e2) hc)
    cases neg with
    | false =>
      refine PySem.W.in_K hF I2.ok.mod.kin J hat k2.fn (wpAny_mono run (fun r s' ⟨w, H', I', rw, t, ew, z⟩ => ?_) fun _ _ z => z)
      subst ew
      cases rw
      exact wpAny_truthy_bool ⟨V.bl t, H', I', rfl, z⟩
    | true =>
      refine PySem.W.notIn_K hF I2.ok.mod.kin J hat k2.fn (wpAny_mono run (fun r s' ⟨w, H', I', rw, t, ew, z⟩ => ?_) fun _ _ z => z)
      subst ew
      cases rw
      exact wpAny_truthy_bool ⟨V.bl (!t), H', I', rfl, z⟩
theorem s_own2mem (C : Cok T U G k cm X) (hcm : cm.calm = true) (tk : Takes X Z) {neg : Bool} {m : Nat} (hs : isSet pb = false) (hm : T.fnm m = "__contains__") (ha : PE X pa (pE T U Z G k a)) (hb : PE X pb (pE T U Z G k b)) :
    PE X (.Compare pa [if neg = true then .NotIn else .In] [pb] pos) (pE T U Z G k (.own2 (.mem neg m) a b)) := pe_cmp (pc_own2mem C hcm tk hm ha hb) (noset hs)
theorem s_own2memT (C : Cok T U G k cm X) (hcm : cm.calm = true) (tk : Takes X Z) {neg : Bool} {m : Nat} (hs : isSet pb = false) (hm : T.fnm m = "__contains__") (ha : PE X pa (pE T U Z G k a)) (hb : PE X pb (pE T U Z G k b)) :
    PT X (.Compare pa [if neg = true then .NotIn else .In] [pb] pos) (pT T U Z G k (.own2 (.mem neg m) a b)) := (pt_cmp (pc_own2mem C hcm tk hm ha hb) (noset hs)).to fun σ H Q ⟨g, W, rg, hw, h⟩ => by
  simp only [wpT] at h
  refine ⟨g, W, rg, hw, ?_⟩
  simp only [wpE]
  refine moE a (fun x W1 z => moE b (fun y W2 z => ?_) (fun _ _ z => z) z) (fun _ _ z => z) h
  obtain ⟨C', fs, f, c1, c2, hc⟩ := z
  exact ⟨C', fs, f, c1, c2, callW.mono G k (fun r W' ⟨t, e, t', e', z⟩ => ⟨t, e, fun v H' r' w' e2 => by cases r'; cases e'; exact ⟨_, rfl, z _ w' e2⟩⟩) (fun _ _ z => z) hc⟩
theorem s_own1neg (C : Cok T U G k cm X) (hcm : cm.calm = true) (tk : Takes X Z) {m : Nat} (hm : T.fnm m = "__neg__") (ha : PE X pa (pE T U Z G k a)) : PE X (.UnaryOp .USub pa pos) (pE T U Z G k (.own1 (.neg m) a)) := by
  refine ⟨fun pins s σ H Q I ⟨g, W, rg, hw, h⟩ => ?_⟩
  simp only [wpE] at h
  refine PyProof.Rows.UnaryOp_ (thn (ha.run pins s σ H _ I (one (moE a) rg hw h)) fun v s1 ⟨x, H1, I1, rx, d, W1, rd, rg1, w1, e1, C', fs, f, c1, c3, hc⟩ => ?_)
  obtain ⟨p, dx, fv, rfl, hp⟩ := pins_ex w1 rd c1
  obtain rfl : v = Value.ref p := rx
  obtain ⟨hf, k1, k2⟩ := C.mth _ _ _ c3
  obtain ⟨mA, O, _⟩ := ins_get I1.hok hp
  obtain ⟨od, J, _⟩ := O.look
  obtain ⟨mm, hF⟩ := I1.fr
  refine PySem.W.ksp_neg hF I1.ok.mod.kin J (by rw [← hm]; exact k2.at_) k2.fn ?_
  exact call_ok C tk hf (Nat.le_refl _) (by rw [hcm]; rfl) I1 (us := [.ref p]) (vs := [.ref p]) (.cons rfl .nil) (.cons rd .nil) w1 (callW.mono G _ (Post.step e1) (PostX.step e1) hc)
theorem s_own1prop (C : Cok T U G k cm X) (hcm : cm.calm = true) (tk : Takes X Z) {m : Nat} (hc : noCall pa = true) (ha : PE X pa (pE T U Z G k a)) : PE X (.Attribute pa (T.fnm m) pos) (pE T U Z G k (.own1 (.prop m) a)) := by
  refine ⟨fun pins s σ H Q I ⟨g, W, rg, hw, h⟩ => ?_⟩
  simp only [wpE] at h
  refine attr_of (base_of hc) (thn (ha.run pins s σ H _ I (one (moE a) rg hw h)) fun v s1 ⟨x, H1, I1, rx, d, W1, rd, rg1, w1, e1, C', fs, f, c1, c3, h0, R, hR, hq, hx⟩ => ?_)
  obtain ⟨p, dx, fv, rfl, hp⟩ := pins_ex w1 rd c1
  obtain rfl : v = Value.ref p := rx
  obtain ⟨hf, k1, pp, k2⟩ := C.own.prp _ _ _ c3
  obtain ⟨fd, qs, hb, hk, F, _, _⟩ := C.fn f (k - 1) hf (Nat.sub_le _ _)
  have hroom : Room (k - 1 + 1) X.A := by rw [Nat.sub_add_cancel h0]; exact C.room hcm
  have sp : spOf T (G f (k - 1)) (V.ref p :: []) H1 Q (fun _ _ _ => False) := ⟨U, [d], W1, R, .cons rd .nil, w1, hR, fun d' W' r v' H' a b c => Post.step e1 _ _ (hq d' W' r) v' H' a b c, fun x W' r c d H' a b e => hx x W' r⟩
  exact getprop_ok (E := fun _ _ _ => False) I1 hp k1 k2 F hroom hb .nil (fun pins σ H s e s' I c => L2N.passAt (X := X.nox) takesN σ pins H s e s' I c) sp
/-- f(us, k = ws ..) behind the arguments -/
theorem callK_ok (C : Cok T U G k cm X) (hcm : cm.calm = true) (tk : Takes X Z) {f n : Nat} {names : List Str} {pm : List Nat} (hf : T.isF f = true) (hkb : kwB (T.pn f) n names pm = true) {pins : List (Addr × Obj)} {s : Shared} {σ : St} {H : Hp} {W : Om} {us ws : List Value} {vs zs : List V} {ds qs : List D} {Q : VK} (I : L2.Inv X pins σ H s)
    (rv : Vals vs us) (rz : Vals zs ws) (rd : Reps T U W H ds vs) (rq : Reps T U W H qs zs) (hw : RepW T U W H) (hn : us.length = n) (hl : ws.length = names.length) (h : callW G k f (permL pm (ds ++ qs)) W (Post T U W H Q) (PostX T U W H σ Z)) :
    wpAny (model X.prog X.w) X.A (PySem.call (.ref (T.fad f)) us (names.zip ws)) (EP X pins σ Q) X.xe s := by
  obtain ⟨fd, ps', hb, hk, F, FK, _⟩ := C.fn f k hf (Nat.le_refl _)
  have KB := FK _ _ _ hkb
  obtain ⟨R, hR, hq, hx⟩ := h
  have sp : spOf T (G f k) (permL pm (vs ++ zs)) H Q (WE Z σ) := ⟨U, _, W, R, (rd.append rq).perm pm, hw, hR, fun d W' a v H' b c e => hq d W' a v H' b c e, fun y W' a c d H' b c' e => hx y W' a c d H' b c' e⟩
  have b := KB.to s us ws I.kIn hn hl
  have hv : Vals (permL pm (vs ++ zs)) (permL pm (us ++ ws)) := KB.rel rv rz
  refine wpAny_call (codeAny_mono (F.run X.A X.stack s H ⟨us, names.zip ws⟩ _ _ Q (WE Z σ) (C.room hcm) I.env0 b hv sp) fun r s' hq => ?_)
  cases r with
  | error e => exact L2N.passAt tk σ pins _ _ e s' I hq
  | ok fl =>
    cases fl with
    | ret u => exact I.after hq
    | next => exact False.elim hq
    | brk => exact False.elim hq
    | cont => exact False.elim hq
theorem kw_len {kws : List Keyword} (h : (kws.all (·.arg.isSome)) = true) : (kws.filterMap (·.arg)).length = kws.length := by
  induction kws with
  | nil => rfl
  | cons q r ih =>
    rw [List.all_cons, Bool.and_eq_true] at h
    obtain ⟨a, ha⟩ := Option.isSome_iff_exists.mp h.1
    rw [List.filterMap_cons, ha]
    exact congrArg Nat.succ (ih h.2)
theorem kw_few {kws : List Keyword} {env : Env} {pos : Pos} {n : Nat} (h1 : (backToKw pos (keywordEach kws env)).all (·.1.isSome) = true) (h : n + kws.length < 29) {l : List (Bool × Sem Value)} (hl : l.all (!·.1) = true) : methodCallForm (n + kws.length) l (backToKw pos (keywordEach kws env)) = true := by
  unfold methodCallForm
  rw [hl, h1]
  show (true && true && decide _) = true
  rw [Bool.true_and, Bool.true_and, decide_eq_true_eq]
  split <;> omega
theorem s_umethK (C : Cok T U G k cm X) (hcm : cm.calm = true) (tk : Takes X Z) {c m : Nat} {pm : List Nat} (hm : m < T.nf) (hl : (apos.endLine == pos.line) = true) (hc : noCall pa = true) (hfew : es.length + kws.length < 29)
    (hkb : (match T.mth c m with | some f => kwB (T.pn f) (es.length + 1) (kws.filterMap (·.arg)) pm | none => false) = true) (hks : (kws.all (·.arg.isSome)) = true) (hkl : ks.length = kws.length) (hs : ps.any isStar = false) (hn : es.length = ps.length)
    (ha : PE X pa (pE T U Z G k a)) (hb : PA X ps (pL T U Z G k es)) (hkw : PK X kws (pL T U Z G k ks)) : PE X (.Call (.Attribute pa (T.fnm m) apos) ps kws pos) (pE T U Z G k (.umethK c m a es ks pm)) := by
  refine ⟨fun pins s σ H Q I ⟨g, W, rg, hw, h⟩ => ?_⟩
  simp only [wpE] at h
  obtain ⟨k1, k2, k3⟩ := kw_map (env := X.env) (pos := pos) hks
  have ht : eval (.Call (.Attribute pa (T.fnm m) apos) ps kws pos) X.env = (do
      let ov ← eval pa X.env
      standAt apos.atName
      let (f, first) ← holding [ov] (getMethod ov (T.fnm m) (plainOf pa X.env))
      callWith pos f first (backTo pos (starEach ps X.env)) (backToKw pos (keywordEach kws X.env))) := by
    rw [arm_eval_Call, base_of hc]
    have hf : methodCallForm (ps.length + kws.length) (backTo pos (starEach ps X.env)) (backToKw pos (keywordEach kws X.env)) = true := kw_few k1 (by rw [← hn]; exact hfew) (allStar hs)
    refine congrArg (fun z => eval pa X.env >>= z) (funext fun ov => ?_)
    refine congrArg (fun z => standAt apos.atName >>= z) (funext fun _ => ?_)
    exact mcall_line hf hl
  refine PySem.W.methodCall_KW (pl := plainOf pa X.env) (thn (ha.run pins s σ H _ I (one (moE a) rg hw h)) fun u s1 ⟨x, H1, I1, rx, d, W1, r1, rg1, w1, e1, fs, f, ec, el, em, z⟩ => ?_) ht
  obtain ⟨hf, c1, c2⟩ := C.mth _ _ _ em
  rw [em] at hkb
  obtain ⟨p, dx, fv, rfl, h1, rf⟩ := cls_ok w1 r1 ec
  obtain rfl : u = Value.ref p := rx
  obtain ⟨fd, qs, hb2, hk, F, _, _⟩ := C.fn f k hf (Nat.le_refl _)
  refine getmeth_ok I1 h1 c1 c2 (rf.lookN hm el) ?_
  have z0 := moEs es (fun _ _ z => z) (PostX.step e1) z
  have zz := oneL (moEs es) rg1 w1 (wpEs_len z0)
  have fin : ∀ {us : List Value} {vs : List V} {H2 : Hp} {W2 : Om} {ds : List D} {s2 : Shared}, Vals vs us → Reps T U W2 H2 ds vs → RepG T U W2 H2 g σ → RepW T U W2 H2 → Ext W1 H1 W2 H2 → ds.length = es.length →
      wpEs G k T.toPm ks g W2 (fun zs W3 => callW G k f (permL pm (d :: ds ++ zs)) W3 (Post T U W H Q) (PostX T U W H σ Z)) (PostX T U W H σ Z) → L2.Inv X pins σ H2 s2 →
      wpAny (model X.prog X.w) X.A (evalAll ((backToKw pos (keywordEach kws X.env)).map (·.2))) (fun ws s2 => X.K.In s2.heap ∧ wpAny (model X.prog X.w) X.A (PySem.call (.ref (T.fad f)) ([.ref p] ++ us) (((backToKw pos (keywordEach kws X.env)).filterMap (·.1)).zip ws)) (EP X pins σ Q) X.xe s2) X.xe s2 :=
    fun {us vs H2 W2 ds s2} r r2 rg2 w2 e5 hl2 h1' I2 => by
      have z1 := oneL (moEs ks) rg2 w2 (moEs ks (fun _ _ z => z) (PostX.step (e1.trans e5)) (wpEs_len h1'))
      refine thn (hkw.run pos pins s2 σ H2 _ I2 z1) fun ws s3 ⟨zs, H3, I3, rz, d2, W3, r3, rg3, w3, e6, hl3, f1⟩ => ⟨I3.kIn, ?_⟩
      rw [k2]
      exact callK_ok C hcm tk hf hkb I3 (us := .ref p :: us) (vs := .ref p :: vs) (.cons rfl r) rz (.cons ((r1.ext e5).ext e6) (r2.ext e6)) r3 w3 (by rw [List.length_cons, ← r.length, ← r2.length, hl2]) (by rw [kw_len hks, ← rz.length, ← r3.length, hl3, hkl])
        (callW.mono G _ (Post.step ((e1.trans e5).trans e6)) (PostX.step ((e1.trans e5).trans e6)) f1)
  cases ps with
  | nil =>
    cases es with
    | nil =>
      simp only [wpEs] at z
      exact PySem.W.callWith_KW0 (first := [.ref p]) (h₀ := X.base) I.ok.mod.kin hk k1 (fin .nil .nil rg1 w1 .refl rfl z I1) (by rw [k3]; rfl)
    | cons e es => cases hn
  | cons pe ps =>
    rw [List.any_cons, Bool.or_eq_false_iff] at hs
    refine PySem.W.callWith_KW (first := [.ref p]) (h₀ := X.base) I.ok.mod.kin hk k1 (thn (hb.run pos pins s1 σ H1 _ I1 zz) fun us s2 ⟨vs, H2, I2, r, d2, W2, r2, rg2, w2, e5, hl2, f1⟩ => fin r r2 rg2 w2 e5 hl2 f1 I2) ?_ (star1 hs.1)
    rw [k3, Bool.or_false]
    exact plainStar (r := pe :: ps) (by rw [List.any_cons, hs.1, hs.2]; rfl)
/-- C(.., k = v): the instance and its dict, then __init__ -/
theorem makeK_ok (C : Cok T U G k cm X) (hcm : cm.calm = true) (tk : Takes X Z) {c f n : Nat} {names : List Str} {pm : List Nat} {own : Bool} (hk : 0 < k) (hi : T.ini c = some f) (hkb : kwB (T.pn f) (n + 1) names pm = true) {pins : List (Addr × Obj)} {s : Shared} {σ : St} {H : Hp} {W : Om} {us ws : List Value} {vs zs : List V} {ds qs : List D} {Q : VK}
    (I : L2.Inv X pins σ H s) (rv : Vals vs us) (rz : Vals zs ws) (rd : Reps T U W H ds vs) (rq : Reps T U W H qs zs) (hw : RepW T U W H) (hn : us.length = n) (hwl : ws.length = names.length)
    (h : ∀ p, W p = none → callW G (k - 1) f (permL pm (.ptr p :: ds ++ qs)) (W.set p (.ins c [])) (fun d W2 => d = .non ∧ madeD own p W2 (Post T U W H Q)) (fun x W2 => PostX T U W H σ Z x (W2.del p))) :
    wpAny (model X.prog X.w) X.A (PySem.call (.ref (T.cad c)) us (names.zip ws)) (EP X pins σ Q) X.xe s := by
  obtain ⟨hf, M, gC⟩ := C.ini _ _ hi
  obtain ⟨fd, ps', hb, hkp, F, FK, _⟩ := C.fn f (k - 1) hf (Nat.sub_le _ _)
  have KB := FK _ _ _ hkb
  have hroom : Room (k - 1 + 1) X.A := by rw [Nat.sub_add_cancel hk]; exact C.room hcm
  have hx : H (s.heap.objs.size + 1) = none := I.hok.fresh (Nat.le_succ _)
  have hdx : H s.heap.objs.size = none := I.hok.fresh (Nat.le_refl _)
  generalize hxe : s.heap.objs.size + 1 = x at hx
  generalize hde : s.heap.objs.size = dx at hdx
  have ne : dx ≠ x := by rw [← hxe, ← hde]; exact Nat.ne_of_lt (Nat.lt_succ_self _)
  have wx : W x = none := (hw.new hx).1
  have x1 := Ext.fresh (T := T) (U := U) (o := .own x) hdx hw
  have w1 : RepW T U W (upd H dx (.own x)) := hw.fresh hdx
  have hx1 : upd H dx (.own x) x = none := by rw [upd_ne (Ne.symm ne)]; exact hx
  have x2 : Ext W (upd H dx (.own x)) (W.set x (.ins c [])) (upd (upd H dx (.own x)) x (.ins (T.cad c) dx [])) := Ext.cell hx1
  have w2 : RepW T U (W.set x (.ins c [])) (upd (upd H dx (.own x)) x (.ins (T.cad c) dx [])) := w1.cell hx1 (.ins rfl .nil)
  have xx := x1.1.trans x2
  obtain ⟨R, hR, hq, hxx⟩ := h x wx
  have I2 : L2.Inv X pins σ (upd (upd H dx (.own x)) x (.ins (T.cad c) dx [])) { s with heap := (s.heap.push PySem.W.emptyDict).push (PySem.W.instObj (T.cad c) s.heap.objs.size) } := by
    rw [← hxe, ← hde]
    exact Inv.made (C := T.cad c) I
  have r1 : Vals (V.ref x :: vs) (Value.ref x :: us) := .cons (show RelV (.ref x) (Value.ref x) from rfl) rv
  have r2 : Vals (permL pm (V.ref x :: vs ++ zs)) (permL pm (Value.ref x :: us ++ ws)) := KB.rel r1 rz
  have rr : Reps T U (W.set x (.ins c [])) (upd (upd H dx (.own x)) x (.ins (T.cad c) dx [])) (.ptr x :: ds ++ qs) (V.ref x :: vs ++ zs) := Reps.append (.cons (.ptr x) (rd.ext xx)) (rq.ext xx)
  have sp : spOf T (G f (k - 1)) (permL pm (V.ref x :: vs ++ zs)) (upd (upd H dx (.own x)) x (.ins (T.cad c) dx [])) (fun v H2 => v = .non ∧ Q (.ref x) H2) (WE Z σ) := by
    refine ⟨U, permL pm (.ptr x :: ds ++ qs), _, R, rr.perm pm, w2, hR, fun d W' r v H' a b e => ?_, fun y W' r cv d H' a b e => ?_⟩
    · obtain ⟨ed, q⟩ := hq d W' r
      subst ed
      cases a
      refine ⟨rfl, ?_⟩
      unfold madeD at q
      cases own with
      | true => exact q _ _ (.ptr x) b (xx.trans e)
      | false =>
        obtain ⟨C', fs, e0, q⟩ := q
        exact q _ _ (b.freezeI e0) (b.sub Om.del_sub) ((xx.trans e).trans (Ext.sub Om.del_sub))
    · exact hxx y W' r cv d H' (a.ext (Ext.sub Om.del_sub)) (b.sub Om.del_sub) ((xx.trans e).trans (Ext.sub Om.del_sub))
  have bb := KB.to _ (Value.ref x :: us) ws I2.kIn (by rw [List.length_cons, hn]) hwl
  refine wpAny_call (make_map (f := T.fad f) I.kIn M.makes M.init (beq_iff_eq.mp M.fn) ?_)
  rw [hxe]
  refine codeAny_mono (F.run _ X.stack _ _ ⟨Value.ref x :: us, names.zip ws⟩ (permL pm (Value.ref x :: us ++ ws)) _ _ (WE Z σ) (hroom.make (T.cad c) us (names.zip ws)) (I2.env0.make (T.cad c) us (names.zip ws)) bb r2 sp) fun r s' hq' => ?_
  cases r with
  | error e => exact L2N.passAt tk σ pins _ _ e s' I2 hq'
  | ok fl =>
    cases fl with
    | ret u =>
      obtain ⟨v, H', I3, rv, ev, q3⟩ := I2.after hq'
      subst ev
      exact ⟨rv, ⟨V.ref x, H', I3, rfl, q3⟩⟩
    | next => exact False.elim hq'
    | brk => exact False.elim hq'
    | cont => exact False.elim hq'
theorem s_mkK (C : Cok T U G k cm X) (hcm : cm.calm = true) (tk : Takes X Z) {c : Nat} {own : Bool} {pm : List Nat} {x : Str} {p : Pos} (hx : gloB X.env.scope x (T.cn c) = true)
    (hkb : (match T.ini c with | some f => kwB (T.pn f) (es.length + 1) (kws.filterMap (·.arg)) pm | none => false) = true) (hks : (kws.all (·.arg.isSome)) = true) (hkl : ks.length = kws.length) (hs : ps.any isStar = false) (hn : es.length = ps.length) (ha : PA X ps (pL T U Z G k es)) (hkw : PK X kws (pL T U Z G k ks))
    (hC : T.isC c = true) : PE X (.Call (.Name x p) ps kws pos) (pE T U Z G k (.mkK c own es ks pm)) := by
  obtain ⟨e1, e2, e3, e4⟩ := glo hx
  obtain ⟨hk, gm⟩ := C.cls c hC
  obtain ⟨k1, k2, k3⟩ := kw_map (env := X.env) (pos := pos) hks
  refine ⟨fun pins s σ H Q I ⟨g, W, rg, hw, h⟩ => ?_⟩
  simp only [wpE] at h
  have z := oneL (moEs es) rg hw (wpEs_len h)
  refine wpAny_Call_Name_kw (ld_glob I e2 (by rw [e1]; exact gm) ?_ e3)
  have fin : ∀ {us : List Value} {vs : List V} {H1 : Hp} {W1 : Om} {ds : List D} {s1 : Shared}, Vals vs us → Reps T U W1 H1 ds vs → RepG T U W1 H1 g σ → RepW T U W1 H1 → Ext W H W1 H1 → ds.length = es.length →
      wpEs G k T.toPm ks g W1 (fun zs W2 => ∃ f, T.ini c = some f ∧ 0 < k ∧ ∀ p, W2 p = none → callW G (k - 1) f (permL pm (.ptr p :: ds ++ zs)) (W2.set p (.ins c [])) (fun d W3 => d = .non ∧ madeD own p W3 (Post T U W H Q)) (fun x W3 => PostX T U W H σ Z x (W3.del p))) (PostX T U W H σ Z) → L2.Inv X pins σ H1 s1 →
      wpAny (model X.prog X.w) X.A (evalAll ((backToKw pos (keywordEach kws X.env)).map (·.2))) (fun ws s2 => X.K.In s2.heap ∧ wpAny (model X.prog X.w) X.A (PySem.call (.ref (T.cad c)) us (((backToKw pos (keywordEach kws X.env)).filterMap (·.1)).zip ws)) (EP X pins σ Q) X.xe s2) X.xe s1 :=
    fun {us vs H1 W1 ds s1} r r1 rg1 w1 e5 hl h1 I1 => by
      have z1 := oneL (moEs ks) rg1 w1 (moEs ks (fun _ _ z => z) (PostX.step e5) (wpEs_len h1))
      refine thn (hkw.run pos pins s1 σ H1 _ I1 z1) fun ws s2 ⟨zs, H2, I2, rz, d2, W2, r2, rg2, w2, e6, hl2, f, hi, h0, f1⟩ => ⟨I2.kIn, ?_⟩
      rw [k2]
      rw [hi] at hkb
      exact makeK_ok C hcm tk h0 hi hkb I2 r rz (r1.ext e6) r2 w2 (by rw [← r.length, ← r1.length, hl]) (by rw [kw_len hks, ← rz.length, ← r2.length, hl2, hkl])
        fun p hp => callW.mono G _ (fun d W' z => ⟨z.1, madeD.mono (Post.step (e5.trans e6)) z.2⟩) (fun x W' z => PostX.step (e5.trans e6) _ _ z) (f1 p hp)
  cases ps with
  | nil =>
    cases es with
    | nil =>
      simp only [wpEs] at h
      exact PySem.W.callWith_KW0 (first := []) (h₀ := X.base) I.ok.mod.kin hk k1 (fin .nil .nil rg hw .refl rfl h I) (by rw [k3]; rfl)
    | cons e es => cases hn
  | cons pe ps =>
    rw [List.any_cons, Bool.or_eq_false_iff] at hs
    refine PySem.W.callWith_KW (first := []) (h₀ := X.base) I.ok.mod.kin hk k1 (thn (ha.run pos pins s σ H _ I z) fun us s1 ⟨vs, H1, I1, r, d, W1, r1, rg1, w1, e5, hl, f1⟩ => fin r r1 rg1 w1 e5 hl f1 I1) ?_ (star1 hs.1)
    rw [k3, Bool.or_false]
    exact plainStar (r := pe :: ps) (by rw [List.any_cons, hs.1, hs.2]; rfl)
/-- list(range(..)) -/
theorem s_lrng (C : Cok T U G k cm X) (hcm : cm.calm = true) {own : Bool} {x y : Str} {p p' pos' : Pos} (hx : gloB X.env.scope x "list" = true) (hy : gloB X.env.scope y "range" = true) (hs : ps.any isStar = false) (hn : es.length = ps.length) (h12 : es.length = 1 ∨ es.length = 2) (ha : PA X ps (pL T U Z G k es)) :
    PE X (.Call (.Name x p) [.Call (.Name y p') ps [] pos'] [] pos) (pE T U Z G k (.lrng own es)) := by
  obtain ⟨e1, e2, e3, e4⟩ := glo hx
  obtain ⟨f1, f2, f3, f4⟩ := glo hy
  subst e1
  subst f1
  have gl : X.mg "list" = none := C.blt _ (by simp [bltNames])
  have gr : X.mg "range" = none := C.blt _ (by simp [bltNames])
  let te : St → Hp → (Int → Int → Hp → Prop) → Prop := fun σ H R => pL T U Z G k es σ H fun vs H1 => (∃ j, vs = [.int j] ∧ R 0 j H1) ∨ ∃ i j, vs = [.int i, .int j] ∧ R i j H1
  have rg : PRg X (.Call (.Name "range" p') ps [] pos') te := fun pins s σ H R I h => by
    match ps, hs, hn, ha with
    | [], _, hn, _ => rw [hn] at h12; rcases h12 with z | z <;> cases z
    | [q1], hs, hn, ha =>
      rw [List.any_cons, Bool.or_eq_false_iff] at hs
      refine PyProof.Rows.Call_ (ld_blt I f2 gr PyProof.Rows.boot_range (PyProof.Rows.callWith_type1 (thn (ha.run pos' pins s σ H _ I h) fun us s1 ⟨vs, H1, I1, r1, q⟩ => ?_) (star1 hs.1) rfl))
      rcases q with ⟨j, rfl, q⟩ | ⟨i, j, rfl, q⟩
      · cases r1 with
        | cons r rr =>
          cases rr
          obtain ⟨t, rfl⟩ := r
          exact call_range_1 ⟨_, 0, j, _, _, _, H1, rfl, IsRange.new _ _ _ _ _ _ _, I1.kept fun b u e => Heap.get?_push_of_some _ e, q⟩
      · cases r1 with
        | cons r rr =>
          cases rr with
          | cons r' rr =>
            cases rr
            obtain ⟨t, rfl⟩ := r
            obtain ⟨t', rfl⟩ := r'
            exact call_range_2 ⟨_, i, j, _, _, _, H1, rfl, IsRange.new _ _ _ _ _ _ _, I1.kept fun b u e => Heap.get?_push_of_some _ e, q⟩
    | [q1, q2], hs, hn, ha =>
      simp only [List.any_cons, Bool.or_eq_false_iff] at hs
      refine PyProof.Rows.Call_ (ld_blt I f2 gr PyProof.Rows.boot_range (PyProof.Rows.callWith_type1 (thn (ha.run pos' pins s σ H _ I h) fun us s1 ⟨vs, H1, I1, r1, q⟩ => ?_) (star1 hs.1) (by rw [star1 hs.2.1]; rfl)))
      rcases q with ⟨j, rfl, q⟩ | ⟨i, j, rfl, q⟩
      · cases r1 with
        | cons r rr =>
          cases rr
          obtain ⟨t, rfl⟩ := r
          exact call_range_1 ⟨_, 0, j, _, _, _, H1, rfl, IsRange.new _ _ _ _ _ _ _, I1.kept fun b u e => Heap.get?_push_of_some _ e, q⟩
      · cases r1 with
        | cons r rr =>
          cases rr with
          | cons r' rr =>
            cases rr
            obtain ⟨t, rfl⟩ := r
            obtain ⟨t', rfl⟩ := r'
            exact call_range_2 ⟨_, i, j, _, _, _, H1, rfl, IsRange.new _ _ _ _ _ _ _, I1.kept fun b u e => Heap.get?_push_of_some _ e, q⟩
    | _ :: _ :: _ :: _, _, hn, _ => rw [hn] at h12; rcases h12 with h | h <;> (simp at h)
  refine (pe_listRg (C.calm hcm) e2 gl rg).to fun σ H Q ⟨g, W, rgg, hw, h⟩ => ?_
  simp only [wpE] at h
  refine tL_mono (moEs es) (fun vs H1 ⟨ds, W1, r1, rg1, w1, e5, f⟩ => ?_) (oneL (moEs es) rgg hw h)
  have fin : ∀ (a b : Int), LrOk a b → mkL own (rangeL a (b - a).toNat) W1 (Post T U W H Q) → RgOk a b ∧ ∀ q, H1 q = none → Q (.ref q) (upd H1 q (.lst (rgV a b))) := fun a b ok z =>
    ⟨ok, fun q hq => mkL_ok w1 (by
      have e : rgV a b = ((List.range (b - a).toNat).map fun i : Nat => a + (i : Int)).map V.int := by unfold rgV; rw [List.map_map]; rfl
      have e' : rangeL a (b - a).toNat = ((List.range (b - a).toNat).map fun i : Nat => a + (i : Int)).map D.int := by unfold rangeL; rw [List.map_map]; rfl
      rw [e, e']
      exact Reps.ints _) (mkL_step e5 z) q hq⟩
  match ds, r1, f with
  | [], _, f => exact f.elim
  | [d], .cons r .nil, f =>
    cases d <;> first | exact f.elim | skip
    cases r
    exact .inl ⟨_, rfl, fin 0 _ f.1 f.2⟩
  | [d, e], .cons r (.cons r' .nil), f =>
    cases d <;> first | exact f.elim | skip
    cases e <;> first | exact f.elim | skip
    cases r
    cases r'
    exact .inr ⟨_, _, rfl, fin _ _ f.1 f.2⟩
  | [d, e, e'], _, f => cases d <;> cases e <;> exact f.elim
  | d :: e :: e' :: e'' :: _, _, f => cases d <;> cases e <;> exact f.elim
end
end Tw
set_option maxHeartbeats 4000000
namespace Tw
open PySem PySem.Spec PyProof.Rows L2
section
variable {prog : Program} {w : World} {A : Around} {E : Value → Shared → Prop} {s : Shared}
theorem meets_enumerate_newT (l : Addr) (items : Array Value) :
    Meets (Builtin.«enumerate.__new__» ⟨[.type "enumerate", .ref l], []⟩) (fun _ R s => s.heap.IsTuple l items ∧
      R (.ok (.ret (.ref (s.heap.push { cls := .type "tuple_iterator", data := .fields #[.ref l, .int 0 0] }).objs.size)))
        { s with heap := (s.heap.push { cls := .type "tuple_iterator", data := .fields #[.ref l, .int 0 0] }).push { cls := .type "enumerate", data := .fields #[.none, .bool false, .ref s.heap.objs.size, rawInt 0, .none, .none] } }) :=
  .of_wp fun prog w A R s h => by
    obtain ⟨hp, g, d, tk, os⟩ := s; obtain ⟨hl, h⟩ := h
    have hsub := sub_enumerate
    have q1 : ∀ {A' : Around} {E : Value → Shared → Prop} {Q : Value → Shared → Prop}, Q (.ref hp.objs.size) ⟨hp.push { cls := .type "tuple_iterator", data := .fields #[.ref l, .int 0 0] }, g, d, tk, os⟩ → wpAny (model prog w) A' (pyIter (.ref l)) Q E ⟨hp, g, d, tk, os⟩ :=
      fun q => (begins_tuple l items).iter prog w _ _ ⟨hp, g, d, tk, os⟩ _ hl q
    wp_walk using q1
    refine wpAny_stack_any fun st => wpAny_pure ?_
    split
    · rename_i c _ _ _ _ _
      cases (c == Value.type "enumerate")
      · wp_walk using q1
        exact ⟨_, rfl, h⟩
      · wp_walk using q1
        exact ⟨_, rfl, h⟩
    · wp_walk using q1
      exact ⟨_, rfl, h⟩
theorem call_enumerate_tuple {l : Addr} {items : Array Value} {Q : Value → Shared → Prop} (hL : s.heap.IsTuple l items)
    (h : ∀ h', IsEnum h' (s.heap.objs.size + 1) s.heap.objs.size 0 .none → h'.IsTupleIter s.heap.objs.size l 0 → h'.objs.size = s.heap.objs.size + 2 →
      (∀ b o, s.heap.get? b = some o → h'.get? b = some o) → Q (.ref (s.heap.objs.size + 1)) { s with heap := h' }) :
    wpAny (model prog w) A (call (.type "enumerate") [.ref l]) Q E s := by
  refine callType_new F.called_enumerate (by decide) (F.typeCall_enumerate_1 _) (F.newCall_enumerate_1 _) (fun obj => F.args_object_init_2 obj _) F.entry_enumerate_new
    (meets_enumerate_newT l items) ⟨hL, ?_⟩
  have hz : (s.heap.push { cls := .type "tuple_iterator", data := .fields #[.ref l, .int 0 0] }).objs.size = s.heap.objs.size + 1 := Heap.size_push ..
  show _ ∧ _
  rw [hz]
  have he : IsEnum ((s.heap.push { cls := .type "tuple_iterator", data := .fields #[.ref l, .int 0 0] }).push
      { cls := .type "enumerate", data := .fields #[.none, .bool false, .ref s.heap.objs.size, rawInt 0, .none, .none] }) (s.heap.objs.size + 1) s.heap.objs.size 0 .none := by
    have := Heap.get?_push_size (s.heap.push { cls := .type "tuple_iterator", data := .fields #[.ref l, .int 0 0] })
      (o := { cls := .type "enumerate", data := .fields #[.none, .bool false, .ref s.heap.objs.size, rawInt 0, .none, .none] }) rfl
    rw [hz] at this; exact this
  refine ⟨⟨_, he, rfl⟩, h _ he ⟨_, Heap.get?_push_of_some _ (Heap.get?_push_size _ rfl), rfl, rfl⟩ (by rw [Heap.size_push, hz]) fun b o x => Heap.get?_push_of_some _ (Heap.get?_push_of_some _ x)⟩
theorem pyNext_enumT_end {e it l : Addr} {i : Nat} {items : Array Value} {old : Value} {Q : Option Value → Shared → Prop} (hh : A.handled = none)
    (he : IsEnum s.heap e it i old) (hit : s.heap.IsTupleIter it l i) (hl : s.heap.IsTuple l items) (hx : items[i]? = none)
    (hQ : ∀ h', Heap.ExtBut it s.heap h' → Q none { s with heap := h' }) : wpAny (model prog w) A (pyNext (.ref e)) Q E s := by
  have hT : s.TypeIs (.ref e) "enumerate" := ⟨_, he, rfl⟩
  unfold pyNext
  refine wpAny_bind (wpAny_attempt (wpAny_callSpecial?_slot (name := Str.ofString "__next__") hT F.slot_enumerate_next
    (wpAny_call_entry F.slot_enumerate_next hT F.entry_enumerate_next ?_ (F.args_enumerate_next_1 _))))
  show wpAny _ _ (field (.ref e) 2 >>= _) _ _ _
  refine wpAny_bind (wpAny_field he rfl (x := .ref it) rfl ?_)
  refine wpAny_bind (wpAny_nextOf_tuple_end hh hit hl hx fun h' x he' hx' => ?_)
  obtain ⟨o, ho, hc⟩ := hx'
  refine wpAny_bind (wpAny_isInstance (T := "StopIteration") (b := true) ⟨o, ho, hc⟩ isSubtype_stop ?_)
  exact wpAny_pure (hQ _ he')
end
/-- the tuple at a, each item in a new pair -/
def IteT (K : PySem.W.Frag) (a : Addr) : It :=
  ⟨fun i H => ∃ (xs : List V) (x : V), SqT K H a xs ∧ xs[i]? = some x, fun i H v H' => ∃ T x, v = .ref T ∧ H T = none ∧ H' = upd H T (.tup [.int (i : Nat), x]) ∧ ∀ xs, SqT K H a xs → xs[i]? = some x, fun i H => ∃ xs : List V, SqT K H a xs ∧ xs.length ≤ i⟩
/-- a tuple's iterator is at most at its end -/
theorem turn_enumT {P : Program} {w : World} {K : PySem.W.Frag} {elts : List Expr} {kk : Nat} {tpos : Pos} (a e it : Addr) :
    Turn P w K (.Tuple elts kk tpos) (IteT K a) [e, it] e (fun i h => (∃ old, IsEnum h e it ((i : Nat) : Int) old) ∧ h.IsTupleIter it a i ∧ e ≠ it ∧ e ≠ a ∧ a ≠ it) where
  mem := by simp
  obj := fun i h st b hb => by
    obtain ⟨⟨old, he⟩, ⟨o, ho, hc, hd⟩, _⟩ := st
    have e' : b = e ∨ b = it := by simpa using hb
    rcases e' with z | z
    · rw [z]; exact ⟨_, he, fun v q => nomatch q⟩
    · rw [z]; exact ⟨o, ho, fun v q => by rw [hd] at q; cases q⟩
  keep := fun i h h' st k => let ⟨⟨old, he⟩, hi, hne⟩ := st; ⟨⟨old, k e (by simp) _ he⟩, hi.at fun o q => k it (by simp) o q, hne⟩
  item := by
    intro X hP hw hK hc i pins s σ H E I hf st hg
    subst hP hw hK
    obtain ⟨⟨old, he⟩, hit, hne, hea, hai⟩ := st
    obtain ⟨xs, x, hq, hx⟩ := hg
    obtain ⟨its, rv, p, hz⟩ := I.tuple hq
    obtain ⟨u, hu, ru⟩ := rv.get hx
    have p' : s.heap.IsTuple a its.toArray := p
    have hel : e < s.heap.objs.size := Heap.lt_size he
    have hil : it < s.heap.objs.size := by obtain ⟨_, q, _⟩ := hit; exact Heap.lt_size q
    have hh := I.ok.hd hc
    have hlt : i < its.toArray.size := by
      have := (List.getElem?_eq_some_iff.mp hu).1
      simpa using this
    refine wpAny_pyNext_enum_itemD (Draws.tuple (A := X.A.in1) (show X.A.in1.handled = none from hh) it a hai its.toArray) he ⟨hit, p'⟩ hlt hne (by simp [hne, hea]) fun x' h' tk hP ho hit' hT hsz hk => ?_
    obtain ⟨hit', _⟩ := hit'
    have ex : u = x' := by
      have z : its.toArray[i]? = some u := by simpa using hu
      rw [z] at hP
      exact Option.some.inj hP
    subst ex
    refine ⟨_, rfl, wpAny_letOwnedTupleGo_enum (s := { s with heap := h', toks := tk + 1 }) ho fun h'' he' sb => ?_⟩
    have hT2 : h''.get? s.heap.objs.size = some { cls := .type "tuple", data := .seq #[.int i tk, u] } := (sb.2 _ (Nat.ne_of_gt hel)).trans hT
    have new : ObjOk X.prog X.w (upd H s.heap.objs.size (.tup [.int (i : Nat), x])) h'' s.heap.objs.size (.tup [.int (i : Nat), x]) :=
      ⟨by show 2 ≤ sizeLine; decide, [.int i tk, u], .cons ⟨_, rfl⟩ (.cons ru .nil), ⟨_, hT2, rfl, _, rfl⟩⟩
    have I1 : Inv X pins σ (upd H s.heap.objs.size (.tup [.int (i : Nat), x])) { s with heap := h'', toks := tk + 1 } :=
      I.turnedNew (t' := tk + 1) (ch := [e, it]) (fun b ob hb q => (sb.2 b (fun z => hb (by simp [z]))).trans (hk b ob (fun z => hb (by simp [z])) (fun z => hb (by simp [z])) q)) hf (Nat.le_refl _) new
    refine ⟨.ref s.heap.objs.size, _, I1, rfl, ⟨_, x, rfl, I.hok.fresh (Nat.le_refl _), rfl, fun ys hy => by rw [I.tuple_inj hy hq]; exact hx⟩, ⟨⟨u, ?_⟩, hit'.at fun o q => (sb.2 it (Ne.symm hne)).trans q, hne, hea, hai⟩, fun b hb => ?_⟩
    · have e1 : ((i + 1 : Nat) : Int) = (i : Int) + 1 := by omega
      rw [e1]; exact he'
    · have hb' : b < s.heap.objs.size := by
        have e' : b = e ∨ b = it := by simpa using hb
        rcases e' with z | z
        · rw [z]; exact hel
        · rw [z]; exact hil
      rw [upd_ne (Nat.ne_of_lt hb')]
      exact (hf b hb).1
  done := by
    intro X hP hw hK hc i pins s σ H E I hf st hg
    subst hP hw hK
    obtain ⟨⟨old, he⟩, hit, hne, hea, hai⟩ := st
    obtain ⟨xs, hq, hx⟩ := hg
    obtain ⟨its, rv, p, hz⟩ := I.tuple hq
    obtain ⟨f0, f1, f2, f3, f4, f5⟩ := hf it (by simp)
    have hl := rv.length
    have p' : s.heap.IsTuple a its.toArray := p
    exact pyNext_enumT_end (I.ok.hd hc) he hit p' (by simp; omega) fun h' eb => ⟨rfl, I.turned (t' := s.toks) (fun b o hb q => eb b o hb q) f0 f1 f3 f4 f5⟩
  self := fun A i s Q E st h => let ⟨⟨_, he⟩, _⟩ := st; wpAny_pyIter_enum he h
def iEnumA (K : PySem.W.Frag) (ta : TA) : TI := fun σ H R => ta σ H fun vs H1 => ∃ a xs, vs = [.ref a] ∧ ((SqL K H1 a xs ∧ R (Ite K a) H1) ∨ (SqT K H1 a xs ∧ R (IteT K a) H1))
theorem pi_enumA {X : Cx} {e : Expr} {ta : TA} {p pos tpos : Pos} {elts : List Expr} {kk : Nat} (hg : Gl X "enumerate") (hm : X.mg "enumerate" = none) (ha : PA X [e] ta) (hs : starEach [e] X.env = [(false, eval e X.env)] := by rfl) :
    PI X (.Tuple elts kk tpos) (.Call (.Name "enumerate" p) [e] [] pos) (iEnumA X.K ta) := by
  refine ⟨fun pins s σ H R I h => ?_⟩
  refine Call_ (ld_blt I hg hm boot_enumerate (PyProof.Rows.callWith_type1 (thn (ha.run pos pins s σ H _ I h) fun us s1 ⟨vs, H1, I1, r1, q1⟩ => ?_) hs rfl))
  obtain ⟨a, xs, ex, q⟩ := q1
  subst ex
  cases r1 with
  | cons r rr =>
    cases rr
    cases r
    have fp : ∀ b ∈ [s1.heap.objs.size + 1, s1.heap.objs.size], FpOk X pins H1 b := fun b hb => by
      have e' : b = s1.heap.objs.size + 1 ∨ b = s1.heap.objs.size := by simpa using hb
      have hle : s1.heap.objs.size ≤ b := by
        rcases e' with z | z
        · rw [z]; exact Nat.le_add_right _ _
        · rw [z]; exact Nat.le_refl _
      exact I1.fpOk hle (I1.hok.fresh hle)
    rcases q with ⟨hq, q⟩ | ⟨hq, q⟩
    · obtain ⟨its, rv, p', hz⟩ := I1.list hq
      refine call_enumerate_list p'.isList fun h' he hit hsz hk => wpAny_pyIter_enum he ?_
      have I2 : Inv X pins σ H1 { s1 with heap := h' } := I1.kept (t' := s1.toks) hk
      exact ⟨s1.heap.objs.size + 1, [s1.heap.objs.size + 1, s1.heap.objs.size], _, _, H1, rfl, I2, turn_enum a (s1.heap.objs.size + 1) s1.heap.objs.size, ⟨⟨.none, he⟩, hit, Nat.succ_ne_self _⟩, fp, q⟩
    · obtain ⟨its, rv, p', hz⟩ := I1.tuple hq
      have p2 : s1.heap.IsTuple a its.toArray := p'
      obtain ⟨o1, ho1, _⟩ := id p2
      have hlt : a < s1.heap.objs.size := Heap.lt_size ho1
      refine call_enumerate_tuple p2 fun h' he hit hsz hk => wpAny_pyIter_enum he ?_
      have I2 : Inv X pins σ H1 { s1 with heap := h' } := I1.kept (t' := s1.toks) hk
      exact ⟨s1.heap.objs.size + 1, [s1.heap.objs.size + 1, s1.heap.objs.size], _, _, H1, rfl, I2, turn_enumT a (s1.heap.objs.size + 1) s1.heap.objs.size, ⟨⟨.none, he⟩, hit, Nat.succ_ne_self _, (Nat.ne_of_lt (Nat.lt_succ_of_lt hlt)).symm, Nat.ne_of_lt hlt⟩, fp, q⟩
def iRevPA (K : PySem.W.Frag) (ta : TA) : TI := fun σ H R => ta σ H fun vs H1 => ∃ a xs, vs = [.ref a] ∧ ((SqL K H1 a xs ∧ R (Itv K a xs.length) H1) ∨ (SqT K H1 a xs ∧ R (RT.ItvT K a xs.length) H1))
theorem pi_revPA {X : Cx} {tg e : Expr} {ta : TA} {p pos : Pos} (hg : Gl X "reversed") (hm : X.mg "reversed" = none) (ha : PA X [e] ta) (hs : starEach [e] X.env = [(false, eval e X.env)] := by rfl) :
    PI X tg (.Call (.Name "reversed" p) [e] [] pos) (iRevPA X.K ta) := by
  refine ⟨fun pins s σ H R I h => ?_⟩
  refine Call_ (ld_blt I hg hm PyProof.Rows.boot_reversed (PyProof.Rows.callWith_type1 (thn (ha.run pos pins s σ H _ I h) fun us s1 ⟨vs, H1, I1, r1, q1⟩ => ?_) hs rfl))
  obtain ⟨a, xs, ex, q⟩ := q1
  subst ex
  cases r1 with
  | cons r rr =>
    cases rr
    cases r
    rcases q with ⟨hq, q⟩ | ⟨hq, q⟩
    · obtain ⟨its, rv, p', hz⟩ := I1.list hq
      have hl := rv.length
      have e1 : ((its.toArray.size : Nat) : Int) - 1 = (xs.length : Int) - 1 - ((0 : Nat) : Int) := by simp only [List.size_toArray]; omega
      refine call_reversed_list p'.isList (wpAny_pyIter_revIter (l := a) (i := ((its.toArray.size : Nat) : Int) - 1) ⟨_, Heap.get?_push_size _ rfl, rfl, rfl⟩ ?_)
      refine pi_one (tk := s1.toks) I1 _ (turn_rev a _ xs.length) ⟨Nat.zero_le _, ?_⟩ q
      rw [← e1]
      exact ⟨_, Heap.get?_push_size _ rfl, rfl, rfl⟩
    · obtain ⟨its, rv, p', hz⟩ := I1.tuple hq
      have hl := rv.length
      have hn := line63
      have e1 : ((its.toArray.size : Nat) : Int) - 1 = (xs.length : Int) - 1 - ((0 : Nat) : Int) := by simp only [List.size_toArray]; omega
      refine RT.call_reversed_tup p' (fun A E Q k => len_tuple p' (by simp only [List.size_toArray] <;> omega) k) (RT.iter_rt (t := a) (i := ((its.toArray.size : Nat) : Int) - 1) ⟨_, Heap.get?_push_size _ rfl, rfl, rfl⟩ ?_)
      refine pi_one (tk := s1.toks + 1 + 1) I1 _ (RT.turn_rt a _ xs.length) ⟨Nat.zero_le _, ?_⟩ q
      rw [← e1]
      exact ⟨_, Heap.get?_push_size _ rfl, rfl, rfl⟩
end Tw
set_option maxHeartbeats 4000000
namespace Tw
open PySem PySem.Spec PyProof.Rows L2
def SqB (b : Bool) (K : PySem.W.Frag) (H : Hp) (a : Addr) (vs : List V) : Prop := if b = true then SqT K H a vs else SqL K H a vs
def IsB (b : Bool) (h : Heap) (l : Addr) (items : Array Value) : Prop := if b = true then h.IsTuple l items else h.IsList l items
def ItB (b : Bool) (h : Heap) (it l : Addr) (i : Nat) : Prop := if b = true then h.IsTupleIter it l i else h.IsListIter it l i
def objB (b : Bool) (l : Addr) : Obj := if b = true then { cls := .type "tuple_iterator", data := .fields #[.ref l, .int 0 0] } else { cls := .type "list_iterator", data := .fields #[.ref l, .int 0 0] }
theorem beginsB (b : Bool) (l : Addr) (items : Array Value) : Begins (.ref l) (objB b l) fun h => IsB b h l items := by
  cases b with
  | true => exact begins_tuple l items
  | false => exact begins_list l items
theorem ItB.new {b : Bool} {h : Heap} {it l : Addr} (e : h.get? it = some (objB b l)) : ItB b h it l 0 := by
  cases b with
  | true => exact ⟨_, e, rfl, rfl⟩
  | false => exact ⟨_, e, rfl, rfl⟩
theorem ItB.at {b : Bool} {h h' : Heap} {it l : Addr} {i : Nat} (x : ItB b h it l i) (e : ∀ o, h.get? it = some o → h'.get? it = some o) : ItB b h' it l i := by
  cases b with
  | true => exact Heap.IsTupleIter.at x e
  | false => exact Heap.IsListIter.at x e
theorem ItB.obj {b : Bool} {h : Heap} {it l : Addr} {i : Nat} (x : ItB b h it l i) : ∃ o, h.get? it = some o ∧ ∀ v, o.data ≠ .cell v := by
  cases b with
  | true => obtain ⟨o, e, _, d⟩ := x; exact ⟨o, e, fun v z => by rw [d] at z; cases z⟩
  | false => obtain ⟨o, e, _, d⟩ := x; exact ⟨o, e, fun v z => by rw [d] at z; cases z⟩
theorem drawsB {prog : Program} {w : World} {A : Around} (hh : A.handled = none) (b : Bool) (it l : Addr) (hne : l ≠ it) (items : Array Value) :
    Draws prog w A it [it, l] items.size (fun i v => items[i]? = some v) (fun i h => ItB b h it l i ∧ IsB b h l items) := by
  cases b with
  | true => exact Draws.tuple hh it l hne items
  | false => exact Draws.list hh it l hne items
theorem sqB_inv {X : Cx} {pins : List (Addr × Obj)} {σ : L2.St} {H : Hp} {s : Shared} {b : Bool} {a : Addr} {xs : List V} (I : Inv X pins σ H s) (h : SqB b X.K H a xs) :
    ∃ its : List Value, its.length = xs.length ∧ (∀ (i : Nat) (x : V), xs[i]? = some x → ∃ u : Value, its[i]? = some u ∧ RelV x u) ∧ IsB b s.heap a its.toArray := by
  cases b with
  | true =>
    obtain ⟨its, rv, p, _⟩ := I.tuple h
    exact ⟨its, rv.length.symm, fun i x hx => rv.get hx, p⟩
  | false =>
    obtain ⟨its, rv, p, _⟩ := I.list h
    exact ⟨its, rv.length.symm, fun i x hx => rv.get hx, p.isList⟩
theorem sqB_inj {X : Cx} {pins : List (Addr × Obj)} {σ : L2.St} {H : Hp} {s : Shared} {b : Bool} {a : Addr} {xs ys : List V} (I : Inv X pins σ H s) (h : SqB b X.K H a xs) (h2 : SqB b X.K H a ys) : xs = ys := by
  cases b with
  | true => exact I.tuple_inj h h2
  | false => exact I.list_inj h h2
/-- the rows at a and b as they stand at each turn, the items in new pairs -/
def ItM (K : PySem.W.Frag) (b1 b2 : Bool) (a b : Addr) : It :=
  ⟨fun i H => ∃ (xs ys : List V) (x y : V), SqB b1 K H a xs ∧ SqB b2 K H b ys ∧ xs[i]? = some x ∧ ys[i]? = some y,
    fun i H v H' => ∃ T x y, v = .ref T ∧ H T = none ∧ H' = upd H T (.tup [x, y]) ∧ (∀ xs, SqB b1 K H a xs → xs[i]? = some x) ∧ ∀ ys, SqB b2 K H b ys → ys[i]? = some y,
    fun i H => ∃ xs ys : List V, SqB b1 K H a xs ∧ SqB b2 K H b ys ∧ i ≤ xs.length ∧ i ≤ ys.length ∧ (i = xs.length ∨ i = ys.length)⟩
structure ZipA (z TI TO i1 i2 a b : Addr) : Prop where
  S : ZipSep2 z TI TO i1 i2 [i1, a] [i2, b]
  TIi1 : TI ≠ i1
  TIi2 : TI ≠ i2
  ai1 : a ≠ i1
  bi2 : b ≠ i2
theorem turn_zipM {P : Program} {w : World} {K : PySem.W.Frag} {elts : List Expr} {kk : Nat} {tpos : Pos} {b1 b2 : Bool} {a b z TI TO i1 i2 : Addr} (D : ZipA z TI TO i1 i2 a b) :
    Turn P w K (.Tuple elts kk tpos) (ItM K b1 b2 a b) [z, TI, TO, i1, i2] z (fun i h => IsZip h z TI TO .none ∧ IsPair h TI (.ref i1) (.ref i2) ∧ (∃ x y, IsPair h TO x y) ∧ ItB b1 h i1 a i ∧ ItB b2 h i2 b i) where
  mem := by simp
  obj := fun i h st c hc => by
    obtain ⟨hz, hTI, ⟨x, y, hTO⟩, h1, h2⟩ := st
    obtain ⟨o1, e1, d1⟩ := h1.obj
    obtain ⟨o2, e2, d2⟩ := h2.obj
    have e' : c = z ∨ c = TI ∨ c = TO ∨ c = i1 ∨ c = i2 := by simpa using hc
    rcases e' with q | q | q | q | q
    · rw [q]; exact ⟨_, hz, fun v q => nomatch q⟩
    · rw [q]; exact ⟨_, hTI, fun v q => nomatch q⟩
    · rw [q]; exact ⟨_, hTO, fun v q => nomatch q⟩
    · rw [q]; exact ⟨o1, e1, d1⟩
    · rw [q]; exact ⟨o2, e2, d2⟩
  keep := fun i h h' st k => by
    obtain ⟨hz, hTI, ⟨x, y, hTO⟩, h1, h2⟩ := st
    exact ⟨k z (by simp) _ hz, k TI (by simp) _ hTI, ⟨x, y, k TO (by simp) _ hTO⟩, h1.at fun o q => k i1 (by simp) o q, h2.at fun o q => k i2 (by simp) o q⟩
  item := by
    intro X hP hw hK hc i pins s σ H E I hf st hg
    subst hP hw hK
    obtain ⟨hz, hTI, ⟨x0, y0, hTO⟩, h1, h2⟩ := st
    obtain ⟨xs, ys, x, y, hqx, hqy, hx, hy⟩ := hg
    obtain ⟨its, l1, g1, p⟩ := sqB_inv I hqx
    obtain ⟨its2, l2, g2, p2⟩ := sqB_inv I hqy
    obtain ⟨u, hu, ru⟩ := g1 i x hx
    obtain ⟨u2, hu2, ru2⟩ := g2 i y hy
    have hzl : z < s.heap.objs.size := Heap.lt_size hz
    have hh := I.ok.hd hc
    have ltx : i < its.toArray.size := by have := (List.getElem?_eq_some_iff.mp hu).1; simpa using this
    have lty : i < its2.toArray.size := by have := (List.getElem?_eq_some_iff.mp hu2).1; simpa using this
    refine wpAny_pyNext_zipD2_item D.S (drawsB (A := X.A.in1) (show X.A.in1.handled = none from hh) b1 i1 a D.ai1 its.toArray) (drawsB (A := X.A.in1) (show X.A.in1.handled = none from hh) b2 i2 b D.bi2 its2.toArray) hz hTI hTO ⟨h1, p⟩ ⟨h2, p2⟩ ltx lty fun x1 x2 h' tk P1 P2 z' TO' s1' s2' hT hsz hk => ?_
    have ex : u = x1 := by
      have q : its.toArray[i]? = some u := by simpa using hu
      rw [q] at P1; exact Option.some.inj P1
    have ey : u2 = x2 := by
      have q : its2.toArray[i]? = some u2 := by simpa using hu2
      rw [q] at P2; exact Option.some.inj P2
    subst ex ey
    obtain ⟨h1', _⟩ := s1'
    obtain ⟨h2', _⟩ := s2'
    refine ⟨_, rfl, wpAny_letOwnedTupleGo_zip (s := { s with heap := h', toks := tk }) z' fun h'' z'' sb => ?_⟩
    have hT2 : h''.get? s.heap.objs.size = some { cls := .type "tuple", data := .seq #[u, u2] } := (sb.2 _ (Nat.ne_of_gt hzl)).trans hT
    have new : ObjOk X.prog X.w (upd H s.heap.objs.size (.tup [x, y])) h'' s.heap.objs.size (.tup [x, y]) :=
      ⟨by show 2 ≤ sizeLine; decide, [u, u2], .cons ru (.cons ru2 .nil), ⟨_, hT2, rfl, _, rfl⟩⟩
    have I1 : Inv X pins σ (upd H s.heap.objs.size (.tup [x, y])) { s with heap := h'', toks := tk } :=
      I.turnedNew (t' := tk) (ch := [z, TI, TO, i1, i2]) (fun c o hb q => (sb.2 c (fun q' => hb (by simp [q']))).trans (hk c o (fun q' => hb (by simp [q'])) (fun q' => hb (by simp [q'])) (fun q' => hb (by simp [q'])) (fun q' => hb (by simp [q'])) q)) hf (Nat.le_refl _) new
    have S := D.S
    refine ⟨.ref s.heap.objs.size, _, I1, rfl, ⟨_, x, y, rfl, I.hok.fresh (Nat.le_refl _), rfl, fun l hl => by rw [sqB_inj I hl hqx]; exact hx, fun l hl => by rw [sqB_inj I hl hqy]; exact hy⟩, ⟨z'', ?_, ⟨u, u2, ?_⟩, ?_, ?_⟩, fun c hcm => ?_⟩
    · exact (sb.2 _ S.TIz).trans (hk _ _ S.TIz S.TITO D.TIi1 D.TIi2 hTI)
    · exact (sb.2 _ S.TOz).trans TO'
    · exact h1'.at fun o q => (sb.2 _ (Ne.symm S.zi1)).trans q
    · exact h2'.at fun o q => (sb.2 _ (Ne.symm S.zi2)).trans q
    · have hlt : c < s.heap.objs.size := by
        have e' : c = z ∨ c = TI ∨ c = TO ∨ c = i1 ∨ c = i2 := by simpa using hcm
        rcases e' with q | q | q | q | q
        · rw [q]; exact hzl
        · rw [q]; exact Heap.lt_size hTI
        · rw [q]; exact Heap.lt_size hTO
        · rw [q]; obtain ⟨_, e1, _⟩ := h1.obj; exact Heap.lt_size e1
        · rw [q]; obtain ⟨_, e2, _⟩ := h2.obj; exact Heap.lt_size e2
      rw [upd_ne (Nat.ne_of_lt hlt)]
      exact (hf c hcm).1
  done := by
    intro X hP hw hK hc i pins s σ H E I hf st hg
    subst hP hw hK
    obtain ⟨hz, hTI, ⟨x0, y0, hTO⟩, h1, h2⟩ := st
    obtain ⟨xs, ys, hqx, hqy, le1, le2, hend⟩ := hg
    obtain ⟨its, l1, g1, p⟩ := sqB_inv I hqx
    obtain ⟨its2, l2, g2, p2⟩ := sqB_inv I hqy
    have hh := I.ok.hd hc
    refine wpAny_pyNext_zipD2_end D.S (drawsB (A := X.A.in1) (show X.A.in1.handled = none from hh) b1 i1 a D.ai1 its.toArray) (drawsB (A := X.A.in1) (show X.A.in1.handled = none from hh) b2 i2 b D.bi2 its2.toArray) hz hTI hTO ⟨h1, p⟩ ⟨h2, p2⟩ (by simp; omega) (by simp; omega) (by simp; omega) fun h' tk hk => ⟨rfl, I.turnedL (t' := tk) (ch := [z, TI, TO, i1, i2]) (fun c o hb q =>
      hk c o (fun q' => hb (by simp [q'])) (fun q' => hb (by simp [q'])) (fun q' => hb (by simp [q'])) (fun q' => hb (by simp [q'])) q) hf⟩
  self := fun A i s Q E st h => wpAny_pyIter_zip st.1 h
theorem neM {a b : Nat} (h : a ≠ b) : a ≠ b := h
theorem zipA_new (I a b : Nat) (h1 : a < I) (h2 : b < I) : ZipA (I + 4) (I + 2) (I + 3) I (I + 1) a b := by
  have nn : ∀ {x y c : Nat}, x ≠ y → x ≠ c → x ∉ [y, c] := fun h h' => by simp; exact ⟨h, h'⟩
  have n0 : (I : Nat) ≠ I + 1 := by omega
  refine ⟨⟨neM (by omega), neM (by omega), neM (by omega), neM (by omega), by simp, nn (by omega) (by omega), nn (by omega) (by omega), neM (by omega), by simp, nn (by omega) (by omega), nn (by omega) (by omega), nn (by omega) (by omega), nn (by omega) (by omega)⟩, neM (by omega), neM (by omega), neM (by omega), neM (by omega)⟩
def iZipM (K : PySem.W.Frag) (ta : TA) : TI := fun σ H R => ta σ H fun vs H1 => ∃ a b b1 b2 xs ys, vs = [.ref a, .ref b] ∧ SqB b1 K H1 a xs ∧ SqB b2 K H1 b ys ∧ R (ItM K b1 b2 a b) H1
theorem pi_zipM {X : Cx} {e e2 : Expr} {ta : TA} {p pos tpos : Pos} {elts : List Expr} {kk : Nat} (hg : Gl X "zip") (hm : X.mg "zip" = none) (ha : PA X [e, e2] ta)
    (hs : starEach [e, e2] X.env = (false, eval e X.env) :: starEach [e2] X.env := by rfl) (hpl : (backTo pos (starEach [e2] X.env)).any (·.1) = false := by rfl) :
    PI X (.Tuple elts kk tpos) (.Call (.Name "zip" p) [e, e2] [] pos) (iZipM X.K ta) := by
  refine ⟨fun pins s σ H R I h => ?_⟩
  refine Call_ (ld_blt I hg hm PyProof.Rows.boot_zip (PyProof.Rows.callWith_type1 (thn (ha.run pos pins s σ H _ I h) fun us s1 ⟨vs, H1, I1, r1, q1⟩ => ?_) hs hpl))
  obtain ⟨a, b, b1, b2, xs, ys, ex, hqx, hqy, q⟩ := q1
  subst ex
  cases r1 with
  | cons r rr =>
    cases rr with
    | cons r' rr =>
      cases rr
      cases r
      cases r'
      have fresh5 : ∀ c, c ∈ [s1.heap.objs.size + 4, s1.heap.objs.size + 2, s1.heap.objs.size + 3, s1.heap.objs.size, s1.heap.objs.size + 1] → FpOk X pins H1 c := fun c hcm => by
        have e' : c = s1.heap.objs.size + 4 ∨ c = s1.heap.objs.size + 2 ∨ c = s1.heap.objs.size + 3 ∨ c = s1.heap.objs.size ∨ c = s1.heap.objs.size + 1 := by simpa using hcm
        have hle : s1.heap.objs.size ≤ c := by
          rcases e' with z | z | z | z | z
          · rw [z]; exact Nat.le_add_right _ _
          · rw [z]; exact Nat.le_add_right _ _
          · rw [z]; exact Nat.le_add_right _ _
          · rw [z]; exact Nat.le_refl _
          · rw [z]; exact Nat.le_add_right _ _
        exact I1.fpOk hle (I1.hok.fresh hle)
      obtain ⟨its, l1, g1, p1⟩ := sqB_inv I1 hqx
      obtain ⟨its2, l2, g2, p2⟩ := sqB_inv I1 hqy
      have lt : ∀ {b : Bool} {l : Addr} {items : Array Value}, IsB b s1.heap l items → l < s1.heap.objs.size := fun {b l items} z => by
        cases b with
        | true => obtain ⟨o, ho, _⟩ := z; exact Heap.lt_size ho
        | false => obtain ⟨o, ho, _⟩ := z; exact Heap.lt_size ho
      refine zip_begins2 (beginsB b1 a its.toArray) (beginsB b2 b its2.toArray) p1 p2 fun h' hz hTI hTO h1 h2 hsz hk => wpAny_pyIter_zip hz ?_
      have I2 : Inv X pins σ H1 { s1 with heap := h' } := I1.kept (t' := s1.toks) hk
      exact ⟨s1.heap.objs.size + 4, [s1.heap.objs.size + 4, s1.heap.objs.size + 2, s1.heap.objs.size + 3, s1.heap.objs.size, s1.heap.objs.size + 1], _, _, H1, rfl, I2, turn_zipM (zipA_new s1.heap.objs.size a b (lt p1) (lt p2)), ⟨hz, hTI, ⟨_, _, hTO⟩, .new h1, .new h2⟩, fresh5, q⟩
end Tw
set_option maxHeartbeats 4000000
namespace Tw
open PySem PySem.Spec L2
open PyProof.Rows (b2i)
/-- the row at a is these trees, as long as what is watched stays -/
def Src (T : Tb) (U : Addr → Prop) (w : Wt) (K : PySem.W.Frag) (b : Bool) (a : Addr) (ds : List D) (W0 : Om) (H0 : Hp) : Prop :=
  ∀ U' W H, (∀ a, U a → U' a) → ExtP U W0 H0 W H → RepW T U' W H → wOk w W → ∃ vs, SqB b K H a vs ∧ vs.length = ds.length ∧ ((∀ a, U' a → U a ∨ H0 a = none) → Reps T U' W H ds vs)
section
variable {T : Tb} {U : Addr → Prop} {W : Om} {H : Hp} {K : PySem.W.Frag} {a : Addr} {ds : List D} {vs : List V}
theorem src_list (st : ∀ W' H', ExtP U W H W' H' → SqL K H' a vs) (r : Reps T U W H ds vs) : Src T U none K false a ds W H := fun U' W' H' hu e w _ =>
  ⟨vs, st W' H' e, r.length.symm, fun hu' => (r.more hu').extP (e.mono hu)⟩
theorem src_tup (st : ∀ W' H', ExtP U W H W' H' → SqT K H' a vs) (r : Reps T U W H ds vs) : Src T U none K true a ds W H := fun U' W' H' hu e w _ =>
  ⟨vs, st W' H' e, r.length.symm, fun hu' => (r.more hu').extP (e.mono hu)⟩
theorem src_cell : Src T U (some (a, ds)) K false a ds W H := fun U' W' H' hu e w ok => by
  obtain ⟨o, h1, h2⟩ := w.cell_ _ _ ok
  cases h2 with
  | lst r => exact ⟨_, SqL.of h1, r.length.symm, fun _ => r⟩
theorem enumL_len {ds : List D} : (enumL ds).length = ds.length := by unfold enumL; rw [List.length_map, List.length_zipIdx]
theorem enumL_get {ds : List D} {i : Nat} {d : D} (h : ds[i]? = some d) : (enumL ds)[i]? = some (.tup [.int (i : Nat), d]) := by
  unfold enumL
  rw [List.getElem?_map, List.getElem?_zipIdx, h]
  simp
theorem zipL_len {xs ys : List D} : (zipL xs ys).length = min xs.length ys.length := by unfold zipL; rw [List.length_zipWith]
theorem zipL_get {xs ys : List D} {i : Nat} {x y : D} (h : xs[i]? = some x) (h2 : ys[i]? = some y) : (zipL xs ys)[i]? = some (.tup [x, y]) := by
  unfold zipL
  rw [List.getElem?_zipWith, h, h2]
theorem newPair {U' : Addr → Prop} {W' : Om} {H' : Hp} {Tt : Addr} {d1 d2 : D} {x1 x2 : V} (hT : H' Tt = none) (w : RepW T U' W' H') (r1 : Rep T U' W' H' d1 x1) (r2 : Rep T U' W' H' d2 x2) :
    Rep T U' W' (upd H' Tt (.tup [x1, x2])) (.tup [d1, d2]) (.ref Tt) ∧ RepW T U' W' (upd H' Tt (.tup [x1, x2])) ∧ Ext W' H' W' (upd H' Tt (.tup [x1, x2])) := by
  obtain ⟨e, o⟩ := Ext.fresh (o := .tup [x1, x2]) hT w
  exact ⟨.tup o (by rw [upd_same]) (.cons (r1.ext e) (.cons (r2.ext e) .nil)), w.fresh hT, e⟩
theorem yields_enum {w : Wt} (S : Src T U w K false a ds W H) : Yields T U w (Ite K a) (enumL ds) W H where
  go := fun U' i W' H' hu e rw' ok hi => by
    obtain ⟨vs, sq, hl, _⟩ := S U' W' H' hu e rw' ok
    rw [enumL_len] at hi
    exact ⟨vs, vs[i]'(by omega), sq, List.getElem?_eq_getElem (by omega)⟩
  yld := fun U' i W' H' x H2 hu hu' e rw' ok hi ⟨Tt, y, ex, hT, eh, q⟩ => by
    subst ex eh
    obtain ⟨vs, sq, hl, hr⟩ := S U' W' H' hu e rw' ok
    rw [enumL_len] at hi
    obtain ⟨v, h1, h2⟩ := (hr hu').get (List.getElem?_eq_getElem hi)
    have q1 := q vs sq
    rw [h1] at q1
    cases q1
    obtain ⟨p1, p2, p3⟩ := newPair hT rw' (.int _) h2
    exact ⟨_, enumL_get (List.getElem?_eq_getElem hi), p1, p2, p3⟩
  stop := fun U' i W' H' hu e rw' ok hi hj => by
    obtain ⟨vs, sq, hl, _⟩ := S U' W' H' hu e rw' ok
    rw [enumL_len] at hi
    exact ⟨vs, sq, by omega⟩
theorem yields_enumT {w : Wt} (S : Src T U w K true a ds W H) : Yields T U w (IteT K a) (enumL ds) W H where
  go := fun U' i W' H' hu e rw' ok hi => by
    obtain ⟨vs, sq, hl, _⟩ := S U' W' H' hu e rw' ok
    rw [enumL_len] at hi
    exact ⟨vs, vs[i]'(by omega), sq, List.getElem?_eq_getElem (by omega)⟩
  yld := fun U' i W' H' x H2 hu hu' e rw' ok hi ⟨Tt, y, ex, hT, eh, q⟩ => by
    subst ex eh
    obtain ⟨vs, sq, hl, hr⟩ := S U' W' H' hu e rw' ok
    rw [enumL_len] at hi
    obtain ⟨v, h1, h2⟩ := (hr hu').get (List.getElem?_eq_getElem hi)
    have q1 := q vs sq
    rw [h1] at q1
    cases q1
    obtain ⟨p1, p2, p3⟩ := newPair hT rw' (.int _) h2
    exact ⟨_, enumL_get (List.getElem?_eq_getElem hi), p1, p2, p3⟩
  stop := fun U' i W' H' hu e rw' ok hi hj => by
    obtain ⟨vs, sq, hl, _⟩ := S U' W' H' hu e rw' ok
    rw [enumL_len] at hi
    exact ⟨vs, sq, by omega⟩
theorem rev_at {i n : Nat} (h : i < n) (hd : ds.length = n) : ds.reverse[i]? = ds[n - 1 - i]? := by
  rw [List.getElem?_reverse (by omega), hd]
theorem yields_rev {w : Wt} (S : Src T U w K false a ds W H) : Yields T U w (Itv K a ds.length) ds.reverse W H where
  go := fun U' i W' H' hu e rw' ok hi => by
    obtain ⟨vs, sq, hl, _⟩ := S U' W' H' hu e rw' ok
    rw [List.length_reverse] at hi
    exact ⟨hi, vs, vs[ds.length - 1 - i]'(by omega), sq, List.getElem?_eq_getElem (by omega)⟩
  yld := fun U' i W' H' x H2 hu hu' e rw' ok hi ⟨e1, q⟩ => by
    subst e1
    obtain ⟨vs, sq, hl, hr⟩ := S U' W' _ hu e rw' ok
    rw [List.length_reverse] at hi
    have hj : ds.length - 1 - i < ds.length := by omega
    obtain ⟨v, h1, h2⟩ := (hr hu').get (List.getElem?_eq_getElem hj)
    have q1 := q vs sq
    rw [h1] at q1
    cases q1
    exact ⟨_, (rev_at hi rfl).trans (List.getElem?_eq_getElem hj), h2, rw', .refl⟩
  stop := fun U' i W' H' hu e rw' ok hi hj => by
    rw [List.length_reverse] at hi
    exact hi
theorem yields_revT {w : Wt} (S : Src T U w K true a ds W H) : Yields T U w (RT.ItvT K a ds.length) ds.reverse W H where
  go := fun U' i W' H' hu e rw' ok hi => by
    obtain ⟨vs, sq, hl, _⟩ := S U' W' H' hu e rw' ok
    rw [List.length_reverse] at hi
    exact ⟨hi, vs, vs[ds.length - 1 - i]'(by omega), sq, List.getElem?_eq_getElem (by omega)⟩
  yld := fun U' i W' H' x H2 hu hu' e rw' ok hi ⟨e1, q⟩ => by
    subst e1
    obtain ⟨vs, sq, hl, hr⟩ := S U' W' _ hu e rw' ok
    rw [List.length_reverse] at hi
    have hj : ds.length - 1 - i < ds.length := by omega
    obtain ⟨v, h1, h2⟩ := (hr hu').get (List.getElem?_eq_getElem hj)
    have q1 := q vs sq
    rw [h1] at q1
    cases q1
    exact ⟨_, (rev_at hi rfl).trans (List.getElem?_eq_getElem hj), h2, rw', .refl⟩
  stop := fun U' i W' H' hu e rw' ok hi hj => by
    rw [List.length_reverse] at hi
    exact hi
variable {b : Addr} {es2 : List D}
theorem src_any {w : Wt} {b : Bool} (S : Src T U none K b a ds W H) : Src T U w K b a ds W H := fun U' W' H' hu e rw' _ => S U' W' H' hu e rw' trivial
theorem yields_zipM {w : Wt} {b1 b2 : Bool} (S : Src T U w K b1 a ds W H) (S2 : Src T U w K b2 b es2 W H) : Yields T U w (ItM K b1 b2 a b) (zipL ds es2) W H where
  go := fun U' i W' H' hu e rw' ok hi => by
    obtain ⟨vs, sq, hl, _⟩ := S U' W' H' hu e rw' ok
    obtain ⟨us, sq2, hl2, _⟩ := S2 U' W' H' hu e rw' ok
    rw [zipL_len] at hi
    exact ⟨vs, us, vs[i]'(by omega), us[i]'(by omega), sq, sq2, List.getElem?_eq_getElem (by omega), List.getElem?_eq_getElem (by omega)⟩
  yld := fun U' i W' H' x H2 hu hu' e rw' ok hi ⟨Tt, y, z, ex, hT, eh, q, q2⟩ => by
    subst ex eh
    obtain ⟨vs, sq, hl, hr⟩ := S U' W' H' hu e rw' ok
    obtain ⟨us, sq2, hl2, hr2⟩ := S2 U' W' H' hu e rw' ok
    rw [zipL_len] at hi
    have hi1 : i < ds.length := by omega
    have hi2 : i < es2.length := by omega
    obtain ⟨v, h1, h2⟩ := (hr hu').get (List.getElem?_eq_getElem hi1)
    obtain ⟨u, h3, h4⟩ := (hr2 hu').get (List.getElem?_eq_getElem hi2)
    have q1 := q vs sq
    have q3 := q2 us sq2
    rw [h1] at q1
    rw [h3] at q3
    cases q1
    cases q3
    obtain ⟨p1, p2, p3⟩ := newPair hT rw' h2 h4
    exact ⟨_, zipL_get (List.getElem?_eq_getElem hi1) (List.getElem?_eq_getElem hi2), p1, p2, p3⟩
  stop := fun U' i W' H' hu e rw' ok hi hj => by
    obtain ⟨vs, sq, hl, _⟩ := S U' W' H' hu e rw' ok
    obtain ⟨us, sq2, hl2, _⟩ := S2 U' W' H' hu e rw' ok
    rw [zipL_len] at hi
    rw [zipL_len] at hj
    exact ⟨vs, us, sq, sq2, by omega, by omega, by omega⟩
end
section
variable {T : Tb} {U : Addr → Prop} {W : Om} {H : Hp} {K : PySem.W.Frag}
theorem sqw_src {w : Wt} {d : D} {v : V} {ds : List D} (rw1 : RepW T U W H) (r : Rep T U W H d v) (h : sqw d W = some (w, ds)) : ∃ a b vs, v = .ref a ∧ Src T U w K b a ds W H ∧ SqB b K H a vs ∧ vs.length = ds.length := by
  cases r with
  | lst n q rs => cases h; exact ⟨_, false, _, rfl, src_list (fun W' H' e => SqL.of (e.keep _ _ q n.1 n.2)) rs, SqL.of q, rs.length.symm⟩
  | tup n q rs => cases h; exact ⟨_, true, _, rfl, src_tup (fun W' H' e => SqT.of (e.keep _ _ q n.1 n.2)) rs, SqT.of q, rs.length.symm⟩
  | scr ns n q => cases h; exact ⟨_, false, _, rfl, src_list (fun W' H' e => .inl (.inr ⟨_, e.keep _ _ q n.1 n.2⟩)) (Reps.ints ns), .inl (.inr ⟨_, q⟩), (Reps.ints (T := T) (U := U) (W := W) (H := H) ns).length.symm⟩
  | ptr a =>
    unfold sqw at h
    dsimp only at h
    split at h
    · next xs e =>
      cases h
      obtain ⟨o, h1, h2⟩ := rw1.cell_ _ _ e
      cases h2 with
      | lst rs => exact ⟨a, false, _, rfl, src_cell, SqL.of h1, rs.length.symm⟩
    · cases h
  | _ => cases h
end
section
variable {T : Tb} {X : Cx} {U : Ux} {G : Gs} {k : Nat} {Z : WX} {cm : Md} {tg : Expr} {pos : Pos} {es : List E} {ps : List Expr}
theorem s_itf (C : Cok T U G k cm X) {f : ItF} {x : Str} {p : Pos} (hx : gloB X.env.scope x f.name = true) (hs : ps.any isStar = false) (hn : es.length = ps.length) (har : es.length = f.ar) (ht : f = .rev ∨ isTupE tg = true) (ha : PA X ps (pL T U Z G k es)) :
    PI X tg (.Call (.Name x p) ps [] pos) (pI T U Z G k (.itf f es)) := by
  obtain ⟨e1, e2, e3, e4⟩ := glo hx
  have main : ∀ {σ : St} {H : Hp} {R : It → Hp → Prop}, pI T U Z G k (.itf f es) σ H R → pL T U Z G k es σ H fun vs H1 => ∃ ds W1, ds.length = es.length ∧ Reps T U W1 H1 ds vs ∧ RepW T U W1 H1 ∧ itfD f ds W1 fun w xs => ∀ J, Yields T U w J xs W1 H1 → R J H1 := fun {σ H R} ⟨g, W, rg, hw, h⟩ => by
    simp only [wpI] at h
    refine tL_mono (moEs es) (fun vs H1 ⟨d, W1, r1, rg1, w1, e5, f⟩ => ⟨d, W1, f.1, r1, w1, itfD.mono (fun w xs f J y => f J H1 w1 e5 y) f.2⟩) (oneL (moEs es) rg hw (lenEs h))
  cases f with
  | enum =>
    have e1 : x = "enumerate" := e1
    subst e1
    have gm : X.mg "enumerate" = none := C.blt _ (by simp [bltNames])
    cases tg <;> first | (rcases ht with ht | ht <;> cases ht; done) | skip
    match ps, hs, hn, ha with
    | [q1], hs, hn, ha =>
      rw [List.any_cons, Bool.or_eq_false_iff] at hs
      refine (pi_enumA e2 gm ha (star1 hs.1)).to fun σ H R h => ?_
      refine tL_mono (moEs es) (fun vs H1 ⟨ds, W1, hd, r1, w1, f⟩ => ?_) (main h)
      rw [hn] at hd
      match ds, hd, r1, f with
      | [d], _, r1, f =>
        obtain ⟨v, rfl, r⟩ := r1.one
        obtain ⟨w, xs, ew, f⟩ := f
        obtain ⟨a, b, vs, rfl, S, sq, hl⟩ := sqw_src (K := X.K) w1 r ew
        cases b with
        | false => exact ⟨a, vs, rfl, .inl ⟨sq, f _ (yields_enum S)⟩⟩
        | true => exact ⟨a, vs, rfl, .inr ⟨sq, f _ (yields_enumT S)⟩⟩
    | [], _, hn, _ => rw [hn] at har; cases har
    | _ :: _ :: _, _, hn, _ => rw [hn] at har; simp [ItF.ar] at har
  | rev =>
    have e1 : x = "reversed" := e1
    subst e1
    have gm : X.mg "reversed" = none := C.blt _ (by simp [bltNames])
    match ps, hs, hn, ha with
    | [q1], hs, hn, ha =>
      rw [List.any_cons, Bool.or_eq_false_iff] at hs
      refine (pi_revPA e2 gm ha (star1 hs.1)).to fun σ H R h => ?_
      refine tL_mono (moEs es) (fun vs H1 ⟨ds, W1, hd, r1, w1, f⟩ => ?_) (main h)
      rw [hn] at hd
      match ds, hd, r1, f with
      | [d], _, r1, f =>
        obtain ⟨v, rfl, r⟩ := r1.one
        obtain ⟨w, xs, ew, f⟩ := f
        obtain ⟨a, b, vs, rfl, S, sq, hl⟩ := sqw_src (K := X.K) w1 r ew
        cases b with
        | false => exact ⟨a, vs, rfl, .inl ⟨sq, by rw [hl]; exact f _ (yields_rev S)⟩⟩
        | true => exact ⟨a, vs, rfl, .inr ⟨sq, by rw [hl]; exact f _ (yields_revT S)⟩⟩
    | [], _, hn, _ => rw [hn] at har; cases har
    | _ :: _ :: _, _, hn, _ => rw [hn] at har; simp [ItF.ar] at har
  | zip =>
    have e1 : x = "zip" := e1
    subst e1
    have gm : X.mg "zip" = none := C.blt _ (by simp [bltNames])
    cases tg <;> first | (rcases ht with ht | ht <;> cases ht; done) | skip
    match ps, hs, hn, ha with
    | [q1, q2], hs, hn, ha =>
      rw [List.any_cons, Bool.or_eq_false_iff] at hs
      refine (pi_zipM e2 gm ha (star1 hs.1) (plainStar hs.2)).to fun σ H R h => ?_
      refine tL_mono (moEs es) (fun vs H1 ⟨ds, W1, hd, r1, w1', f⟩ => ?_) (main h)
      rw [hn] at hd
      match ds, hd, r1, f with
      | [d, d2], _, r1, f =>
        cases r1 with
        | cons r rr =>
          obtain ⟨v2, rfl, r2⟩ := rr.one
          obtain ⟨w1, xs, w2, ys, w, ex, ey, ew, f⟩ := f
          obtain ⟨a, b1, vs, rfl, S, sq, hl⟩ := sqw_src (K := X.K) w1' r ex
          obtain ⟨a2, b2, us, rfl, S2, sq2, hl2⟩ := sqw_src (K := X.K) w1' r2 ey
          rcases ew with ⟨rfl, rfl⟩ | ⟨rfl, rfl⟩
          · exact ⟨a, a2, b1, b2, vs, us, rfl, sq, sq2, f _ (yields_zipM S (src_any S2))⟩
          · exact ⟨a, a2, b1, b2, vs, us, rfl, sq, sq2, f _ (yields_zipM (src_any S) S2)⟩
    | [], _, hn, _ => rw [hn] at har; cases har
    | [_], _, hn, _ => rw [hn] at har; cases har
    | _ :: _ :: _ :: _, _, hn, _ => rw [hn] at har; simp [ItF.ar] at har
end
end Tw
set_option maxHeartbeats 4000000
namespace Tw
open PySem PySem.Spec PyProof.Rows L2
section
variable {prog : Program} {w : World} {A : Around} {E : Value → Shared → Prop} {s : Shared}
/-- a zip and its parts, i pairs told; S is no part of it -/
structure ZSt (h : Heap) (z TI TO i1 i2 l1 l2 S : Addr) (xs ys : Array Value) (i : Nat) : Prop where
  ti : h.get? TI = some { cls := .type "tuple", data := .seq #[.ref i1, .ref i2] }
  c1 : h.IsListIter i1 l1 i
  c2 : h.IsListIter i2 l2 i
  a1 : h.IsList l1 xs
  a2 : h.IsList l2 ys
  zz : (IsZip h z TI TO .none ∧ ∃ a b : Value, h.get? TO = some { cls := .type "tuple", data := .seq #[a, b] }) ∨ ∃ T f oT, IsZipHeld h z TI TO T f ∧ h.get? T = some oT ∧ T ≠ z ∧ T ≠ i1 ∧ T ≠ i2 ∧ T ≠ S
theorem ZSt.frame {h h' : Heap} {z TI TO i1 i2 l1 l2 S : Addr} {xs ys : Array Value} {i : Nat} (st : ZSt h z TI TO i1 i2 l1 l2 S xs ys i) (n : z ≠ S ∧ TI ≠ S ∧ TO ≠ S ∧ i1 ≠ S ∧ i2 ≠ S ∧ l1 ≠ S ∧ l2 ≠ S)
    (hk : ∀ b o, b ≠ S → h.get? b = some o → h'.get? b = some o) : ZSt h' z TI TO i1 i2 l1 l2 S xs ys i := by
  obtain ⟨hTI, h1, h2, hl1, hl2, hz⟩ := st
  obtain ⟨nz, nTI, nTO, n1, n2, m1, m2⟩ := n
  refine ⟨hk _ _ nTI hTI, h1.at fun o e => hk _ o n1 e, h2.at fun o e => hk _ o n2 e, hl1.at fun o e => hk _ o m1 e, hl2.at fun o e => hk _ o m2 e, ?_⟩
  rcases hz with ⟨hz, a, b, hTO⟩ | ⟨T, f, oT, hz, hT, r1, r2, r3, r4⟩
  · exact .inl ⟨hk _ _ nz hz, a, b, hk _ _ nTO hTO⟩
  · exact .inr ⟨T, f, oT, hk _ _ nz hz, hk _ _ r4 hT, r1, r2, r3, r4⟩
theorem zst_item {z TI TO i1 i2 l1 l2 S : Addr} {xs ys : Array Value} {i : Nat} {x y : Value} {Q : Option Value → Shared → Prop} (D : ZipApart z TI TO i1 i2 l1 l2) (st : ZSt s.heap z TI TO i1 i2 l1 l2 S xs ys i) (hS : S < s.heap.objs.size) (ex : xs[i]? = some x) (ey : ys[i]? = some y)
    (hQ : ∀ h', ZSt h' z TI TO i1 i2 l1 l2 S xs ys (i + 1) → h'.get? s.heap.objs.size = some { cls := .type "tuple", data := .seq #[x, y] } → (∀ c o, c ≠ z → c ≠ TO → c ≠ i1 → c ≠ i2 → s.heap.get? c = some o → h'.get? c = some o) → Q (some (.ref s.heap.objs.size)) { s with heap := h' }) :
    wpAny (model prog w) A (pyNext (.ref z)) Q E s := by
  obtain ⟨hTI, h1, h2, hl1, hl2, hz⟩ := st
  have lt : ∀ {c o}, s.heap.get? c = some o → s.heap.objs.size ≠ c := fun e => Nat.ne_of_gt (Heap.lt_size e)
  have n1 : s.heap.objs.size ≠ i1 := let ⟨_, e, _⟩ := h1; lt e
  have n2 : s.heap.objs.size ≠ i2 := let ⟨_, e, _⟩ := h2; lt e
  rcases hz with ⟨hz, a, b, hTO⟩ | ⟨T, f, oT, hz, hT, r1, r2, r3, r4⟩
  · refine wpAny_pyNext_zip_item D hz hTI hTO h1 h2 hl1 hl2 ex ey fun h' a1 a2 a3 a4 a5 a6 hk => ?_
    exact hQ h' ⟨hk _ _ D.TIz D.TITO D.TIi1 D.TIi2 hTI, a3, a4, hl1.at fun o e => hk _ o D.l1z D.l1TO D.l1i1 D.l1i2 e, hl2.at fun o e => hk _ o D.l2z D.l2TO D.l2i1 D.l2i2 e,
      .inr ⟨s.heap.objs.size, false, _, a1, a5, lt hz, n1, n2, Nat.ne_of_gt hS⟩⟩ a5 hk
  · refine wpAny_pyNext_zip_item_held D hz hT hTI h1 h2 hl1 hl2 ex ey fun h' a1 a3 a4 a5 a6 hk => ?_
    exact hQ h' ⟨hk _ _ D.TIz D.TIi1 D.TIi2 hTI, a3, a4, hl1.at fun o e => hk _ o D.l1z D.l1i1 D.l1i2 e, hl2.at fun o e => hk _ o D.l2z D.l2i1 D.l2i2 e,
      .inr ⟨T, true, oT, a1, hk _ _ r1 r2 r3 hT, r1, r2, r3, r4⟩⟩ a5 fun c o c1 _ c3 c4 e => hk c o c1 c3 c4 e
theorem zst_done {z TI TO i1 i2 l1 l2 S : Addr} {xs ys : Array Value} {i : Nat} {Q : Option Value → Shared → Prop} (hA : A.handled = none) (D : ZipApart z TI TO i1 i2 l1 l2) (st : ZSt s.heap z TI TO i1 i2 l1 l2 S xs ys i) (hend : xs[i]? = none ∨ ys[i]? = none)
    (hQ : ∀ h', (∀ c o, c ≠ z → c ≠ TO → c ≠ i1 → c ≠ i2 → s.heap.get? c = some o → h'.get? c = some o) → Q none { s with heap := h' }) :
    wpAny (model prog w) A (pyNext (.ref z)) Q E s := by
  obtain ⟨hTI, h1, h2, hl1, hl2, hz⟩ := st
  rcases hz with ⟨hz, a, b, hTO⟩ | ⟨T, f, oT, hz, hT, r1, r2, r3, r4⟩
  · exact wpAny_pyNext_zip_end hA D hz hTI hTO h1 h2 hl1 hl2 hend fun h' hk => hQ h' fun c o c1 c2 c3 c4 e => hk c o c1 c2 c3 c4 e
  · exact wpAny_pyNext_zip_end_held hA D hz hT hTI h1 h2 hl1 hl2 hend fun h' hk => hQ h' fun c o c1 c2 c3 c4 e => hk c o c1 c3 c4 e
/-- the pairs told so far -/
structure ZG (xs ys : Array Value) (lo : Addr) (h : Heap) (as : List Addr) : Prop where
  rise : as.Pairwise (· < ·)
  above : ∀ a ∈ as, lo < a
  pairs : ∀ (j : Nat) (a : Addr), as[j]? = some a → ∃ x y, xs[j]? = some x ∧ ys[j]? = some y ∧ h.get? a = some { cls := .type "tuple", data := .seq #[x, y] }
theorem ZG.there {xs ys : Array Value} {lo : Addr} {h : Heap} {as : List Addr} (g : ZG xs ys lo h as) {a : Addr} (ha : a ∈ as) : a < h.objs.size := by
  obtain ⟨j, hj⟩ := List.getElem?_of_mem ha
  obtain ⟨x, y, _, _, e⟩ := g.pairs j a hj
  exact Heap.lt_size e
theorem zl_loop {S z TI TO i1 i2 l1 l2 : Addr} {xs ys : Array Value} {R : Result → Shared → Prop} (hh : A.handled = none) (D : ZipApart z TI TO i1 i2 l1 l2) (n : z ≠ S ∧ TI ≠ S ∧ TO ≠ S ∧ i1 ≠ S ∧ i2 ≠ S ∧ l1 ≠ S ∧ l2 ≠ S) (lo : z ≤ S ∧ TO ≤ S ∧ i1 ≤ S ∧ i2 ≤ S) (hn : min xs.size ys.size ≤ sizeLine) (res : Value) {h₁ : Heap}
    (hR : ∀ h' tk acc c as, (∀ b o, b ≠ S → b ≠ z → b ≠ TO → b ≠ i1 → b ≠ i2 → h₁.get? b = some o → h'.get? b = some o) → h'.get? S = some { cls := .type "list", dict := none, data := .seq acc c, slots := #[] } → as.length = min xs.size ys.size → ZG xs ys S h' as →
      acc.toList = as.map Value.ref → R (.ok (.ret res)) { s with heap := h', toks := tk }) :
    ∀ (k i : Nat) (h : Heap) (tk c : Nat) (acc : Array Value) (as : List Addr), min xs.size ys.size - i = k → i ≤ min xs.size ys.size → ZSt h z TI TO i1 i2 l1 l2 S xs ys i → (∀ b o, b ≠ S → b ≠ z → b ≠ TO → b ≠ i1 → b ≠ i2 → h₁.get? b = some o → h.get? b = some o) →
      h.get? S = some { cls := .type "list", dict := none, data := .seq acc c, slots := #[] } → acc.toList = as.map Value.ref → as.length = i → ZG xs ys S h as →
      codeAny (model prog w) A (.builtin "list.extend.loop" ⟨[.ref S, .ref z, res], []⟩) R { s with heap := h, toks := tk } := by
  obtain ⟨nz, nTI, nTO, n1, n2, m1, m2⟩ := id n
  obtain ⟨oz, oTO, o1, o2⟩ := lo
  intro k
  induction k with
  | zero =>
    intro i h tk c acc as hk hi hst hkeep hS hacc hal hG
    have hin : i = min xs.size ys.size := by omega
    refine codeAny_builtin PySem.F.entry_extend_loop ?_
    rw [Around.under_plainId PySem.F.plain_extend_loop _]
    show wpAny _ A.in1 (pyNext (.ref z) >>= _) _ _ _
    have hend : xs[i]? = none ∨ ys[i]? = none := by
      rcases Nat.le_total xs.size ys.size with h | h
      · exact .inl (Array.getElem?_eq_none (by omega))
      · exact .inr (Array.getElem?_eq_none (by omega))
    refine wpAny_bind (zst_done (s := { s with heap := h, toks := tk }) (A := A.in1) hh D hst hend fun h' he => ?_)
    refine wpAny_pure (hR h' tk acc c as (fun b o h1 h2 h3 h4 h5 e => he b o h2 h3 h4 h5 (hkeep b o h1 h2 h3 h4 h5 e)) (he S _ nz.symm nTO.symm n1.symm n2.symm hS) (by omega) ⟨hG.rise, hG.above, fun j a hj => ?_⟩ hacc)
    obtain ⟨x, y, e1, e2, e3⟩ := hG.pairs j a hj
    have hb := hG.above a (List.mem_of_getElem? hj)
    exact ⟨x, y, e1, e2, he a _ (Nat.ne_of_gt (Nat.lt_of_le_of_lt oz hb)) (Nat.ne_of_gt (Nat.lt_of_le_of_lt oTO hb)) (Nat.ne_of_gt (Nat.lt_of_le_of_lt o1 hb)) (Nat.ne_of_gt (Nat.lt_of_le_of_lt o2 hb)) e3⟩
  | succ k ih =>
    intro i h tk c acc as hk hi hst hkeep hS hacc hal hG
    have hlt : i < min xs.size ys.size := by omega
    obtain ⟨x, ex⟩ : ∃ x, xs[i]? = some x := ⟨xs[i]'(by omega), Array.getElem?_eq_getElem (by omega)⟩
    obtain ⟨y, ey⟩ : ∃ y, ys[i]? = some y := ⟨ys[i]'(by omega), Array.getElem?_eq_getElem (by omega)⟩
    have hsz : acc.size = i := by rw [← Array.length_toList, hacc, List.length_map, hal]
    refine codeAny_builtin PySem.F.entry_extend_loop ?_
    rw [Around.under_plainId PySem.F.plain_extend_loop _]
    show wpAny _ A.in1 (pyNext (.ref z) >>= _) _ _ _
    refine wpAny_bind (zst_item (s := { s with heap := h, toks := tk }) D hst (Heap.lt_size hS) ex ey fun h' hst' ht hkp => ?_)
    dsimp only at ht hkp ⊢
    have hS' := hkp S _ nz.symm nTO.symm n1.symm n2.symm hS
    have up : ∀ b o, b ≠ S → h'.get? b = some o → (h'.update S (Obj.mapSeq (·.push (Value.ref h.objs.size)))).get? b = some o := fun b o hb e => (Heap.get?_update_other _ _ (Ne.symm hb)).trans e
    have hSl : S < h.objs.size := Heap.lt_size hS
    show wpAny _ A.in1 (updateSeq S (·.push (Value.ref h.objs.size)) >>= _) _ _ _
    refine wpAny_bind ?_
    refine wpAny_updateSeq hS' rfl (wpAny_pure ⟨plainId_quiet PySem.F.plain_extend_loop _, ih (i + 1) _ tk _ (acc.push (Value.ref h.objs.size)) (as ++ [h.objs.size]) (by omega) hlt (hst'.frame n up)
      (fun b o h1 h2 h3 h4 h5 e => up b o h1 (hkp b o h2 h3 h4 h5 (hkeep b o h1 h2 h3 h4 h5 e))) (Heap.get?_update_self _ hS' rfl) (by rw [Array.toList_push, hacc, List.map_append]; rfl) (by rw [List.length_append, hal]; rfl) ⟨?_, ?_, ?_⟩⟩) (by rw [hsz]; omega) (by show (acc.push (Value.ref h.objs.size)).size ≤ sizeLine + 1; rw [Array.size_push]; omega)
    · refine List.pairwise_append.mpr ⟨hG.rise, List.pairwise_singleton _ _, fun a ha b hb => ?_⟩
      rw [List.mem_singleton.mp hb]
      exact hG.there ha
    · intro a ha
      rcases List.mem_append.mp ha with ha | ha
      · exact hG.above a ha
      · rw [List.mem_singleton.mp ha]; exact hSl
    · intro j b hj
      rcases Nat.lt_trichotomy j as.length with h1 | h1 | h1
      · rw [List.getElem?_append_left h1] at hj
        obtain ⟨x', y', e1, e2, e3⟩ := hG.pairs j b hj
        have hb := hG.above b (List.mem_of_getElem? hj)
        exact ⟨x', y', e1, e2, up b _ (Nat.ne_of_gt hb) (hkp b _ (Nat.ne_of_gt (Nat.lt_of_le_of_lt oz hb)) (Nat.ne_of_gt (Nat.lt_of_le_of_lt oTO hb)) (Nat.ne_of_gt (Nat.lt_of_le_of_lt o1 hb)) (Nat.ne_of_gt (Nat.lt_of_le_of_lt o2 hb)) e3)⟩
      · subst h1
        have hb : h.objs.size = b := by simpa using hj
        subst hb
        exact ⟨x, y, by rw [hal]; exact ex, by rw [hal]; exact ey, up _ _ (Nat.ne_of_gt hSl) ht⟩
      · have hnone : (as ++ [h.objs.size])[j]? = none := List.getElem?_eq_none (by rw [List.length_append, List.length_singleton]; omega)
        rw [hnone] at hj; cases hj
theorem zip_len : typeLookup (.type "zip") "__len__" = pure none := am_miss_of_fast (by decide +kernel)
theorem zip_hint0 : typeLookup (.type "zip") "__length_hint__" = pure none := am_miss_of_fast (by decide +kernel)
theorem zip_hint {r : Addr} (hT : s.TypeIs (.ref r) "zip") {Q : Bool → Shared → Prop} (h : Q true s) : wpAny (model prog w) A (Builtin.List.listLengthHint (.ref r)) Q E s := by
  unfold Builtin.List.listLengthHint
  refine wpAny_bind (wpAny_specialOf hT zip_len ?_)
  show wpAny _ _ (do
    let some f ← specialOf (.ref r) "__length_hint__" | return true
    _) _ _ s
  refine wpAny_bind (wpAny_specialOf hT zip_hint0 ?_)
  exact wpAny_pure h
theorem zl_extend {S z TI TO i1 i2 l1 l2 : Addr} {xs ys : Array Value} {a b : Value} {R : Result → Shared → Prop} (hh : A.handled = none) (D : ZipApart z TI TO i1 i2 l1 l2) (n : z ≠ S ∧ TI ≠ S ∧ TO ≠ S ∧ i1 ≠ S ∧ i2 ≠ S ∧ l1 ≠ S ∧ l2 ≠ S) (lo : z ≤ S ∧ TO ≤ S ∧ i1 ≤ S ∧ i2 ≤ S) (hn : min xs.size ys.size ≤ sizeLine)
    (hz : IsZip s.heap z TI TO .none) (hTO : s.heap.get? TO = some { cls := .type "tuple", data := .seq #[a, b] }) (hTI : s.heap.get? TI = some { cls := .type "tuple", data := .seq #[.ref i1, .ref i2] }) (h1 : s.heap.IsListIter i1 l1 0) (h2 : s.heap.IsListIter i2 l2 0) (hl1 : s.heap.IsList l1 xs) (hl2 : s.heap.IsList l2 ys)
    (res : Value) (c₀ : Nat) (hS : s.heap.get? S = some { cls := .type "list", data := .seq #[] c₀ })
    (hR : ∀ h' tk acc c as, (∀ b o, b ≠ S → b ≠ z → b ≠ TO → b ≠ i1 → b ≠ i2 → s.heap.get? b = some o → h'.get? b = some o) → h'.get? S = some { cls := .type "list", dict := none, data := .seq acc c, slots := #[] } → as.length = min xs.size ys.size → ZG xs ys S h' as →
      acc.toList = as.map Value.ref → R (.ok (.ret res)) { s with heap := h', toks := tk }) :
    wpAny (model prog w) A.in1 (Builtin.List.listExtendWith (.ref S) (.ref z) res)
      (fun fin s' => match fin with | .done f => R (.ok f) s' | .again c' => c'.quiet = true ∧ codeAny (model prog w) A c' R s') (fun e s' => R (.error e) s') s := by
  have hzT : s.TypeIs (.ref z) "zip" := ⟨_, hz, rfl⟩
  have st0 : ZSt s.heap z TI TO i1 i2 l1 l2 S xs ys 0 := ⟨hTI, h1, h2, hl1, hl2, .inl ⟨hz, a, b, hTO⟩⟩
  have key : ∀ (h : Heap) (c₁ tk : Nat), (∀ b o, b ≠ S → s.heap.get? b = some o → h.get? b = some o) →
      h.get? S = some { cls := .type "list", data := .seq #[] c₁ } → codeAny (model prog w) A (.builtin "list.extend.loop" ⟨[.ref S, .ref z, res], []⟩) R { s with heap := h, toks := tk } := by
    intro h c₁ tk hk hS₁
    exact zl_loop (s := s) (h₁ := s.heap) hh D n lo hn res hR (min xs.size ys.size) 0 h tk c₁ #[] [] (Nat.sub_zero _) (Nat.zero_le _) (st0.frame n hk) (fun b o hb _ _ _ _ e => hk b o hb e) hS₁ rfl rfl
      ⟨List.Pairwise.nil, (fun _ ha => nomatch ha), (fun j a hj => by simp at hj)⟩
  unfold Builtin.List.listExtendWith
  refine wpAny_bind (wpAny_typeOf (T := "zip") hzT ?_)
  have e1 : Builtin.List.listSameRef (.ref S) (.ref z) = false := by simp [Builtin.List.listSameRef, n.1.symm]
  have e2 : (Value.type "zip" == Value.type "list") = false := by decide
  have e3 : (Value.type "zip" == Value.type "tuple") = false := by decide
  simp only [e1, e2, e3, Bool.or_false, Bool.false_eq_true, if_false]
  refine wpAny_bind (wpAny_pyIter_zip hz ?_)
  refine wpAny_bind (wpAny_holding (zip_hint hzT ?_))
  refine wpAny_ite_split (fun _ => ?_) (fun _ => wpAny_pure ⟨plainId_quiet PySem.F.plain_extend_loop _, key _ c₀ _ (fun b o _ e => e) hS⟩)
  refine wpAny_bind (wpAny_rule ?_)
  refine wpAny_bind ?_
  show wpAny _ _ (updateSeq S (·.push .none) >>= fun _ => updateSeq S (·.pop)) _ _ _
  refine wpAny_bind (wpAny_updateSeq hS rfl ?_)
  have hS₂ := Heap.get?_update_self (Obj.mapSeq (·.push Value.none)) hS rfl
  refine wpAny_updateSeq (hz := by seq_fits) hS₂ rfl ?_
  have hS₃ := Heap.get?_update_self (Obj.mapSeq (·.pop)) hS₂ rfl
  refine wpAny_pure ⟨plainId_quiet PySem.F.plain_extend_loop _, key _ _ _ (fun b o hb e => ?_) hS₃⟩
  exact (Heap.get?_update_other _ _ (Ne.symm hb)).trans ((Heap.get?_update_other _ _ (Ne.symm hb)).trans e)
theorem zl_call {z TI TO i1 i2 l1 l2 : Addr} {xs ys : Array Value} {a b : Value} {Q : Value → Shared → Prop} (hh : A.handled = none) (D : ZipApart z TI TO i1 i2 l1 l2) (hn : min xs.size ys.size ≤ sizeLine)
    (hz : IsZip s.heap z TI TO .none) (hTO : s.heap.get? TO = some { cls := .type "tuple", data := .seq #[a, b] }) (hTI : s.heap.get? TI = some { cls := .type "tuple", data := .seq #[.ref i1, .ref i2] }) (h1 : s.heap.IsListIter i1 l1 0) (h2 : s.heap.IsListIter i2 l2 0) (hl1 : s.heap.IsList l1 xs) (hl2 : s.heap.IsList l2 ys)
    (hQ : ∀ h' tk acc c as, (∀ b o, b ≠ z → b ≠ TO → b ≠ i1 → b ≠ i2 → s.heap.get? b = some o → h'.get? b = some o) → h'.get? s.heap.objs.size = some { cls := .type "list", dict := none, data := .seq acc c, slots := #[] } → as.length = min xs.size ys.size → ZG xs ys s.heap.objs.size h' as →
      acc.toList = as.map Value.ref → Q (.ref s.heap.objs.size) { s with heap := h', toks := tk }) :
    wpAny (model prog w) A (call (.type "list") [.ref z]) Q E s := by
  refine callType_codes (Q₁ := fun obj s₁ => obj = .ref s.heap.objs.size ∧ s₁ = { s with heap := s.heap.push { cls := .type "list", data := .seq #[] } }) PySem.F.called_list (PySem.F.typeCall_list_1 _) PySem.F.entry_list_init
    (code_list_new _ ⟨rfl, rfl⟩) fun obj s₁ hobj => ?_
  obtain ⟨rfl, rfl⟩ := hobj
  have hS : (s.heap.push { cls := .type "list", data := .seq #[] }).get? s.heap.objs.size = some { cls := .type "list", data := .seq #[] } := Heap.get?_push_size _ rfl
  have lt : ∀ {c o}, s.heap.get? c = some o → c < s.heap.objs.size := fun e => Heap.lt_size e
  have n : z ≠ s.heap.objs.size ∧ TI ≠ s.heap.objs.size ∧ TO ≠ s.heap.objs.size ∧ i1 ≠ s.heap.objs.size ∧ i2 ≠ s.heap.objs.size ∧ l1 ≠ s.heap.objs.size ∧ l2 ≠ s.heap.objs.size :=
    ⟨Nat.ne_of_lt (lt hz), Nat.ne_of_lt (lt hTI), Nat.ne_of_lt (lt hTO), let ⟨_, e, _⟩ := h1; Nat.ne_of_lt (lt e), let ⟨_, e, _⟩ := h2; Nat.ne_of_lt (lt e), let ⟨_, e, _⟩ := hl1; Nat.ne_of_lt (lt e), let ⟨_, e, _⟩ := hl2; Nat.ne_of_lt (lt e)⟩
  have lo : z ≤ s.heap.objs.size ∧ TO ≤ s.heap.objs.size ∧ i1 ≤ s.heap.objs.size ∧ i2 ≤ s.heap.objs.size :=
    ⟨Nat.le_of_lt (lt hz), Nat.le_of_lt (lt hTO), let ⟨_, e, _⟩ := h1; Nat.le_of_lt (lt e), let ⟨_, e, _⟩ := h2; Nat.le_of_lt (lt e)⟩
  have up : ∀ b o, s.heap.get? b = some o → (s.heap.push { cls := .type "list", data := .seq #[] }).get? b = some o := fun b o e => Heap.get?_push_of_some _ e
  refine ⟨⟨_, hS, rfl⟩, PySem.F.args_list_init_2 _ _, ?_⟩
  show wpAny _ _ (do let old ← Builtin.List.listItems (.ref s.heap.objs.size); Builtin.List.listUpdate (.ref s.heap.objs.size) (fun _ => #[]); letGo old.toList.reverse; Builtin.List.listExtendWith (.ref s.heap.objs.size) (.ref z) .none) _ _ _
  refine wpAny_bind ?_
  unfold Builtin.List.listItems
  refine wpAny_bind (wpAny_seqItems hS rfl (wpAny_pure ?_))
  show wpAny _ _ (updateSeq s.heap.objs.size (fun _ => #[]) >>= fun _ => letGo (#[] : Array Value).toList.reverse >>= fun _ => Builtin.List.listExtendWith (.ref s.heap.objs.size) (.ref z) .none) _ _ _
  refine wpAny_bind (wpAny_updateSeq hS rfl ?_)
  have hS₂ := Heap.get?_update_self (Obj.mapSeq (fun _ => (#[] : Array Value))) hS rfl
  have oth : ∀ b o, b ≠ s.heap.objs.size → s.heap.get? b = some o → ((s.heap.push { cls := .type "list", data := .seq #[] }).update s.heap.objs.size (Obj.mapSeq (fun _ => (#[] : Array Value)))).get? b = some o :=
    fun b o hb e => (Heap.get?_update_other _ _ (Ne.symm hb)).trans (up b o e)
  refine wpAny_bind (wpAny_letGo ?_)
  refine zl_extend (A := A.in1) hh D n lo hn (oth _ _ n.1 hz) (oth _ _ n.2.2.1 hTO) (oth _ _ n.2.1 hTI) (h1.at fun o e => oth _ o n.2.2.2.1 e) (h2.at fun o e => oth _ o n.2.2.2.2.1 e) (hl1.at fun o e => oth _ o n.2.2.2.2.2.1 e) (hl2.at fun o e => oth _ o n.2.2.2.2.2.2 e) .none _ hS₂ (fun h' tk acc c as hk hS' hl hG hacc => ?_)
  exact ⟨rfl, hQ h' tk acc c as (fun b o h2 h3 h4 h5 e => hk b o (Nat.ne_of_lt (Heap.lt_size e)) h2 h3 h4 h5 (oth b o (Nat.ne_of_lt (Heap.lt_size e)) e)) hS' hl hG hacc⟩
end
end Tw
namespace Tw
open PySem PySem.Spec PyProof.Rows L2
open LiI (paired_ix)
def putP : Hp → List Addr → List (V × V) → Hp
  | H, a :: as, p :: kvs => putP (upd H a (.tup [p.1, p.2])) as kvs
  | H, _, _ => H
theorem putP_off {b : Addr} : ∀ (as : List Addr) (kvs : List (V × V)) (H : Hp), b ∉ as → putP H as kvs b = H b
  | [], _, _, _ => rfl
  | _ :: _, [], _, _ => rfl
  | a :: as, p :: kvs, H, h => by
    show putP (upd H a (.tup [p.1, p.2])) as kvs b = H b
    rw [putP_off as kvs _ (fun z => h (List.mem_cons_of_mem _ z)), upd_ne (fun z => h (by rw [z]; exact List.mem_cons_self))]
theorem putP_at : ∀ (as : List Addr) (kvs : List (V × V)) (H : Hp), as.length = kvs.length → as.Nodup → Paired (fun (t : Addr) (p : V × V) => putP H as kvs t = some (.tup [p.1, p.2])) as kvs
  | [], [], _, _, _ => .nil
  | [], _ :: _, _, h, _ => by cases h
  | _ :: _, [], _, h, _ => by cases h
  | a :: as, p :: kvs, H, h, hn => by
    have hn' := List.nodup_cons.mp hn
    have ih := putP_at as kvs (upd H a (.tup [p.1, p.2])) (Nat.succ.inj h) hn'.2
    refine .cons ?_ ih
    show putP (upd H a (.tup [p.1, p.2])) as kvs a = some (.tup [p.1, p.2])
    rw [putP_off as kvs _ hn'.1, upd_same]
theorem vals_zip {xs ys : List V} {us ws : List Value} (rx : Vals xs us) (ry : Vals ys ws) : ∀ {j : Nat} {p : V × V}, (xs.zip ys)[j]? = some p → ∃ u w, us[j]? = some u ∧ ws[j]? = some w ∧ RelV p.1 u ∧ RelV p.2 w := by
  intro j p h
  rw [List.getElem?_zip_eq_some] at h
  obtain ⟨u, hu, r1⟩ := rx.get h.1
  obtain ⟨w, hw, r2⟩ := ry.get h.2
  exact ⟨u, w, hu, hw, r1, r2⟩
section
variable {X : Cx} {e e2 : Expr} {ta : TA} {p p2 cpos pos : Pos}
theorem zip_laid {pins : List (Addr × Obj)} {σ : L2.St} {H : Hp} {s : Shared} {h' : Heap} {tk : Nat} {xs ys : List V} {us ws : List Value} {S : Addr} {acc : Array Value} {c : Nat} {as : List Addr} (I : Inv X pins σ H s) (hz : (xs.zip ys).length ≤ sizeLine) (rx : Vals xs us) (ry : Vals ys ws)
    (hk : ∀ b o, s.heap.get? b = some o → h'.get? b = some o) (hlo : s.heap.objs.size ≤ S) (hS : h'.get? S = some { cls := .type "list", dict := none, data := .seq acc c, slots := #[] }) (hl : as.length = min us.toArray.size ws.toArray.size) (hG : ZG us.toArray ws.toArray S h' as) (hacc : acc.toList = as.map Value.ref) :
    ∃ H' : Hp, (∀ b o, H b = some o → H' b = some o) ∧ H S = none ∧ (∀ t ∈ as, H t = none) ∧ S ∉ as ∧ H' S = some (.lst (as.map V.ref)) ∧ Paired (fun (t : Addr) (q : V × V) => H' t = some (.tup [q.1, q.2])) as (xs.zip ys) ∧ Inv X pins σ H' { s with heap := h', toks := tk } := by
  have lk : as.length = (xs.zip ys).length := by rw [hl, List.length_zip, rx.length, ry.length, List.size_toArray, List.size_toArray]
  have hSn : S ∉ as := fun z => Nat.lt_irrefl _ (hG.above _ z)
  have nd : as.Nodup := List.Pairwise.imp (fun {a b} (h : a < b) => Nat.ne_of_lt h) hG.rise
  have new : ∀ t ∈ as, H t = none := fun t ht => I.hok.fresh (Nat.le_trans hlo (Nat.le_of_lt (hG.above t ht)))
  have newS : H S = none := I.hok.fresh hlo
  have atP := putP_at as (xs.zip ys) (upd H S (.lst (as.map V.ref))) lk nd
  have off : ∀ b, b ∉ as → b ≠ S → putP (upd H S (.lst (as.map V.ref))) as (xs.zip ys) b = H b := fun b h1 h2 => by rw [putP_off as _ _ h1, upd_ne h2]
  have low : ∀ b o, s.heap.get? b = some o → b ∉ as ∧ b ≠ S := fun b o e => ⟨fun z => absurd (Heap.lt_size e) (Nat.not_lt.mpr (Nat.le_trans hlo (Nat.le_of_lt (hG.above b z)))), Nat.ne_of_lt (Nat.lt_of_lt_of_le (Heap.lt_size e) hlo)⟩
  have kp : ∀ b u, H b = some u → (putP (upd H S (.lst (as.map V.ref))) as (xs.zip ys)) b = some u := fun b u e => by
    rw [off b (fun z => by rw [new b z] at e; cases e) (fun z => by rw [z, newS] at e; cases e)]
    exact e
  have eS : putP (upd H S (.lst (as.map V.ref))) as (xs.zip ys) S = some (.lst (as.map V.ref)) := by rw [putP_off as _ _ hSn, upd_same]
  refine ⟨putP (upd H S (.lst (as.map V.ref))) as (xs.zip ys), kp, newS, new, hSn, eS, atP, ?_⟩
  refine I.call' (ch := []) rfl ⟨fun b o q _ _ _ => hk b o q, fun b o q _ _ _ => ⟨o.slots, hk b o q⟩, fun b o q n _ => ?_, fun b o q _ => ⟨o, hk b o q⟩, fun b xs q => kp b _ q, fun b o u q => kp b _ q, fun b ps q => ⟨#[], by rw [kp b _ q]; simp⟩⟩ (fun b u q => ?_) I.bare fun b z => by simp at z
  · obtain ⟨z1, z2⟩ := low b o q
    rw [off b z1 z2]
    exact n
  · by_cases hb : b ∈ as
    · obtain ⟨j, pk, e1, e2, e3⟩ := paired_ix atP hb
      rw [e3] at q
      cases q
      obtain ⟨x, y, f1, f2, f3⟩ := hG.pairs j b e1
      obtain ⟨u, w, g1, g2, g3, g4⟩ := vals_zip rx ry e2
      have f1' : us[j]? = some x := by simpa using f1
      have f2' : ws[j]? = some y := by simpa using f2
      rw [f1'] at g1
      rw [f2'] at g2
      cases g1
      cases g2
      exact ⟨by show 2 ≤ sizeLine; decide, [x, y], .cons g3 (.cons g4 .nil), ⟨_, f3, rfl, _, rfl⟩⟩
    · by_cases hb2 : b = S
      · rw [hb2] at q ⊢
        rw [eS] at q
        cases q
        refine ⟨by rw [List.length_map, lk]; exact hz, acc.toList, c, by rw [hacc]; exact vals_refs as, ?_⟩
        rw [Array.toArray_toList]
        exact hS
      · rw [off b hb hb2] at q
        exact (I.hok b u q).stay (fun d v _ y => hk d v y) (fun d y => kp d _ y) fun d xs y => kp d _ y
def rZipL (K : PySem.W.Frag) : List V → Hp → VK → Prop := fun vs H Q => ∃ a b xs ys, vs = [.ref a, .ref b] ∧ SqL K H a xs ∧ SqL K H b ys ∧
  ∀ (H' : Hp) (p : Addr) (ts : List Addr), (∀ b o, H b = some o → H' b = some o) → H p = none → (∀ t ∈ ts, H t = none) → p ∉ ts → H' p = some (.lst (ts.map V.ref)) → Paired (fun (t : Addr) (q : V × V) => H' t = some (.tup [q.1, q.2])) ts (xs.zip ys) → Q (.ref p) H'
def tZipL (K : PySem.W.Frag) (ta : TA) : TE := fun σ H Q => ta σ H fun vs H1 => rZipL K vs H1 Q
/-- list(zip(a, b)) -/
theorem pe_lzip (hc : X.calm = true) (ha : PA X [e, e2] ta) (hg : Gl X "list") (hm : X.mg "list" = none) (hg2 : Gl X "zip") (hm2 : X.mg "zip" = none)
    (hs : starEach [e, e2] X.env = (false, eval e X.env) :: starEach [e2] X.env) (hpl : (backTo cpos (starEach [e2] X.env)).any (·.1) = false) :
    PE X (.Call (.Name "list" p) [.Call (.Name "zip" p2) [e, e2] [] cpos] [] pos) (tZipL X.K ta) := by
  refine ⟨fun pins s σ H Q I hq => ?_⟩
  refine wpAny_Call_Name_kw (ld_blt I hg hm (by decide +kernel : bootBuiltins "list" = some (.type "list")) ?_)
  have hs0 : starEach [.Call (.Name "zip" p2) [e, e2] [] cpos] X.env = (false, eval (.Call (.Name "zip" p2) [e, e2] [] cpos) X.env) :: starEach [] X.env := rfl
  refine PyProof.Rows.callWith_type1 ?_ hs0 rfl
  rw [hs0]
  show wpAny _ _ (spliced ((false, eval (.Call (.Name "zip" p2) [e, e2] [] cpos) X.env) :: backTo pos (starEach [] X.env))) _ _ s
  refine Calls.spliced_cons ?_
  refine Call_ (ld_blt I hg2 hm2 PyProof.Rows.boot_zip (PyProof.Rows.callWith_type1 (thn (ha.run cpos pins s σ H _ I hq) fun us s1 ⟨vs, H1, I1, r1, q1⟩ => ?_) hs hpl))
  obtain ⟨a, b, xs, ys, ex, hqx, hqy, q⟩ := q1
  subst ex
  cases r1 with
  | cons r rr =>
    cases rr with
    | cons r' rr =>
      cases rr
      cases r
      cases r'
      obtain ⟨its, rv, p1, z1⟩ := I1.list hqx
      obtain ⟨its2, rv2, p2', z2⟩ := I1.list hqy
      refine call_zip_2 p1.isList p2'.isList fun h' hz hTI hTO h1 h2 hsz hk => ?_
      refine Calls.spliced_nil ?_
      have D := PySem.W.ktu_apart s1.heap.objs.size a b p1.lt p2'.lt
      have hlen : (xs.zip ys).length ≤ sizeLine := by rw [List.length_zip]; exact Nat.le_trans (Nat.min_le_left _ _) z1
      refine zl_call (s := { s1 with heap := h' }) (I1.ok.hd hc) D (by rw [List.size_toArray, List.size_toArray, ← rv.length, ← rv2.length, ← List.length_zip]; exact hlen) hz hTO hTI h1 h2 (p1.isList.at fun o e => hk _ o e) (p2'.isList.at fun o e => hk _ o e) fun h'' tk acc c as hk2 hS hl hG hacc => ?_
      have lo : s1.heap.objs.size ≤ h'.objs.size := by rw [hsz]; exact Nat.le_add_right _ _
      have hk3 : ∀ b o, s1.heap.get? b = some o → h''.get? b = some o := fun b o e => hk2 b o (Nat.ne_of_lt (Nat.lt_of_lt_of_le (Heap.lt_size e) (Nat.le_add_right _ 4))) (Nat.ne_of_lt (Nat.lt_of_lt_of_le (Heap.lt_size e) (Nat.le_add_right _ 3))) (Nat.ne_of_lt (Heap.lt_size e)) (Nat.ne_of_lt (Nat.lt_of_lt_of_le (Heap.lt_size e) (Nat.le_add_right _ 1))) (hk b o e)
      obtain ⟨H', k1, k2, k3, k4, k5, k6, J⟩ := zip_laid (tk := tk) I1 hlen rv rv2 hk3 lo hS hl hG hacc
      exact ⟨.ref _, H', J, rfl, q H' _ as k1 k2 k3 k4 k5 k6⟩
end
end Tw
namespace Tw
open PySem PySem.Spec L2
open PyProof.Rows (b2i)
section
variable {T : Tb} {U : Ux} {G : Gs} {k : Nat} {X : Cx} {Z : WX} {cm : Md} {es : List E} {ps : List Expr}
theorem Reps.zipP {W : Om} {H H' : Hp} (hw : RepW T U W H) (x : Ext W H W H') : ∀ {as bs : List D} {xs ys : List V} {ts : List Addr}, (∀ t ∈ ts, H t = none) → Reps T U W H as xs → Reps T U W H bs ys → Paired (fun (t : Addr) (q : V × V) => H' t = some (.tup [q.1, q.2])) ts (xs.zip ys) →
    Reps T U W H' (List.zipWith (fun x y => D.tup [x, y]) as bs) (ts.map V.ref)
  | [], _, _, _, _, _, .nil, _, hp => by cases hp; exact .nil
  | _ :: _, [], _, _, _, _, .cons _ _, .nil, hp => by cases hp; exact .nil
  | _ :: _, _ :: _, _, _, _, n, .cons r1 r2, .cons q1 q2, hp => by
    cases hp with
    | cons h1 h2 =>
      exact .cons (.tup (hw.new (n _ List.mem_cons_self)) h1 (.cons (r1.ext x) (.cons (q1.ext x) .nil))) (Reps.zipP hw x (fun t ht => n t (List.mem_cons_of_mem _ ht)) r2 q2 h2)
theorem s_lzip (C : Cok T U G k cm X) (hcm : cm.calm = true) {x y : Str} {p p2 cpos pos : Pos} {pa pb : Expr} {a b : E} (hx : gloB X.env.scope x "list" = true) (hy : gloB X.env.scope y "zip" = true) (h1 : isStar pa = false) (h2 : [pb].any isStar = false) (ha : PA X [pa, pb] (pL T U Z G k [a, b])) :
    PE X (.Call (.Name x p) [.Call (.Name y p2) [pa, pb] [] cpos] [] pos) (pE T U Z G k (.lzip [a, b])) := by
  obtain ⟨e1, e2, e3, e4⟩ := glo hx
  obtain ⟨f1, f2, f3, f4⟩ := glo hy
  subst e1 f1
  have gm : X.mg "list" = none := C.blt _ (by simp [bltNames])
  have gm2 : X.mg "zip" = none := C.blt _ (by simp [bltNames])
  refine (pe_lzip (C.calm hcm) ha e2 gm f2 gm2 (star1 h1) (plainStar h2)).to fun σ H Q ⟨g, W, rg, hw, h⟩ => ?_
  simp only [wpE] at h
  refine tL_mono (moEs [a, b]) (fun vs H1 ⟨ds, W1, r1, rg1, w1, e5, hl, f⟩ => ?_) (oneL (moEs [a, b]) rg hw (lenEs h))
  match ds, hl, r1, f with
  | [d1, d2], _, r1, ⟨as, bs, l1, l2, f⟩ =>
    obtain ⟨v, u, rfl, r, r'⟩ := r1.two
    obtain ⟨pa, xs, rfl, q1, s1⟩ := lis_ok (K := X.K) w1 r l1
    obtain ⟨pb, ys, rfl, q2, s2⟩ := lis_ok (K := X.K) w1 r' l2
    refine ⟨_, _, _, _, rfl, q1, q2, fun H' p ts k1 k2 k3 k4 k5 k6 => ?_⟩
    have x : Ext W1 H1 W1 H' := ⟨fun b o e _ => k1 b o e, fun _ z => .inl z⟩
    have w2 : RepW T U W1 H' := w1.ext_same x fun a m o _ e => k1 a o e
    exact f _ _ (.lst (w1.new k2) k5 (Reps.zipP w1 x k3 s1 s2 k6)) w2 (e5.trans x)
end
end Tw
set_option maxHeartbeats 4000000
namespace Tw
open PySem PySem.Spec PyProof.Rows L2
section
variable {base base' h : Heap} {l : List Env} {e L : Addr} {cls a0 : Value} {d : Option Addr}
theorem held_D (x : HandSPX.HeldZ base l e (L2N.Zn cls d) L h) : ∃ a0, Heap.HeldD base l e cls a0 .none d L h := by
  obtain ⟨b1, b0, f, oe, vs, T, oT, ts, he, ⟨hc, hd, hx⟩, hv, h1, r⟩ := x
  have hlt : 1 < vs.size := (Array.getElem?_eq_some_iff.mp h1).1
  exact ⟨vs[0]'(by omega), b1, b0, f, oe, vs, T, oT, ts, he, ⟨hc, Array.getElem?_eq_getElem (by omega), hx vs hv, hd⟩, hv, h1, r⟩
theorem held_Z (x : Heap.HeldD base l e cls a0 .none d L h) : HandSPX.HeldZ base l e (L2N.Zn cls d) L h := by
  obtain ⟨b1, b0, f, oe, vs, T, oT, ts, he, ⟨hc, h0, h2, hd⟩, hv, h1, r⟩ := x
  exact ⟨b1, b0, f, oe, vs, T, oT, ts, he, ⟨hc, hd, fun vs' e' => by rw [hv] at e'; cases e'; exact h2⟩, hv, h1, r⟩
theorem get_less (k : ∀ b o, base'.get? b = some o → base.get? b = some o) {b : Addr} (hb : base.get? b = none) : base'.get? b = none := by
  cases q : base'.get? b with
  | none => rfl
  | some o' => rw [k _ _ q] at hb; cases hb
theorem frames_less (k : ∀ b o, base'.get? b = some o → base.get? b = some o) : ∀ {l : List Env}, h.FunFrames base l → h.FunFrames base' l
  | [], _ => trivial
  | _ :: _, ⟨hk, ⟨L, o, hf, hn, ho, hd⟩, r⟩ => ⟨hk, ⟨L, o, hf, get_less k hn, ho, hd⟩, frames_less k r⟩
theorem held_less (k : ∀ b o, base'.get? b = some o → base.get? b = some o) (x : HandSPX.HeldZ base l e (L2N.Zn cls d) L h) : HandSPX.HeldZ base' l e (L2N.Zn cls d) L h := by
  have no : ∀ b, base.get? b = none → base'.get? b = none := fun b hb => get_less k hb
  obtain ⟨b1, b0, f, oe, vs, T, oT, ts, he, hz, hv, h1, hT, r⟩ := x
  exact ⟨fun b o q => b1 b o (k b o q), no _ b0, frames_less k f, oe, vs, T, oT, ts, he, hz, hv, h1, no _ hT, r⟩
end
section
variable {M : Model} {A : Around} {E : Value → Shared → Prop} {s : Shared} {base : Heap} {env : Env} {outer : List Env} {L C e : Addr} {Z : Obj → Prop}
/-- the frame notes what another one holds -/
theorem look_held {Q : Unit → Shared → Prop} (hZ : PXN.Steady1 Z) (hCL : C ≠ L) (hfr : A.frames = some (env :: outer)) (hf : env.frame = some L) (hfl : HandSPX.HeldZ base (env :: outer) e Z C s.heap)
    (hQ : ∀ h', HandSPX.HeldZ base (env :: outer) e Z L h' → s.heap.UpToSlots h' → Q () { s with heap := h' }) : wpAny M A (noteFrame (.ref e) env) Q E s := by
  obtain ⟨hkb, hen, hl, oe, vs, T, oT, ts, he, hz, hd, h1, hnT, hTe, hT, hdT, h3⟩ := hfl
  unfold noteFrame
  simp only [hf]
  refine wpAny_bind (wpAny_field he hd h1 ?_)
  rw [if_pos (show (Value.ref T != Value.none) = true from by simp)]
  refine wpAny_bind (wpAny_field hT hdT h3 ?_)
  rw [if_neg (show ¬ ((rawInt C == rawInt L) = true) from by simp [rawInt]; intro z; exact hCL (by exact_mod_cast z))]
  refine wpAny_bind (wpAny_setField hT hdT (Array.getElem?_eq_some_iff.mp h3).1 ?_)
  have other : ∀ b, b ≠ T → (s.heap.update T (Obj.mapFields (·.setIfInBounds 3 Value.none))).get? b = s.heap.get? b := fun b hb => Heap.get?_update_other _ _ (Ne.symm hb)
  have noRecord : ∀ b o, s.heap.get? b = some o → (∀ vs, o.data ≠ .fields vs) → b ≠ T := fun b o hb hnf q => by
    rw [q, hT] at hb; injection hb with hb; subst hb; exact hnf ts hdT
  refine PXN.wpAny_entryZ hZ hfr (hl.of_keeps fun b o hb hnf => ⟨o, (other b (noRecord b o hb hnf)).trans hb, rfl⟩) hf ((other e (Ne.symm hTe)).trans he)
    (fun b o hbo => (other b fun q => by rw [q, hnT] at hbo; cases hbo).trans (hkb b o hbo)) hen hd (Array.getElem?_eq_some_iff.mp h1).1 hz fun h' hN => ?_
  obtain ⟨x1, x2, x3, x4⟩ := hN
  exact hQ h' ⟨x1, hen, x2, x3⟩ fun b o hb hnf => x4 b o ((other b (noRecord b o hb hnf)).trans hb) hnf
/-- the def's frame notes what is in the air of a block within it -/
theorem look_sky {Q : Unit → Shared → Prop} (hZ : PXN.Steady1 Z) (hCL : C ≠ L) (hfr : A.frames = some (env :: outer)) (hf : env.frame = some L) (x : Sky base (env :: outer) e Z C s.heap)
    (hQ : ∀ h', HandSPX.HeldZ base (env :: outer) e Z L h' → s.heap.UpToSlots h' → Q () { s with heap := h' }) : wpAny M A (noteFrame (.ref e) env) Q E s := by
  rcases x with ⟨k, hn, hl, oe, vs, he, hz, hd, h1⟩ | x | x
  · exact PXN.look_newZ hZ hfr hl hf he k hn hd h1 hz hQ
  · exact PXN.looks_onZ hZ hfr hf x hQ
  · exact look_held hZ hCL hfr hf x hQ
end
end Tw
set_option maxHeartbeats 4000000
namespace Tw
open PySem PySem.Spec PyProof.Rows L2
theorem blk_out {X : Cx} {Z : L2.WX} {pins : List (Addr × Obj)} {σ : L2.St} {H3 : Hp} {s3 : Shared} {scope : Scope} {cenv : Env} {fp : List Addr} (tk : L2N.Takes X Z) (hs : X.stack = X.env :: X.outer) (hf : X.env.frame = some X.env.locals)
    (hcf : cenv.frame = X.env.frame) (hcl : cenv.locals = s3.heap.objs.size) (I3 : Inv X pins σ H3 s3) (f3 : ∀ b ∈ fp, FpOk X pins H3 b) {u : Value} {s' : Shared}
    (x : L2N.XE (X.blk s3 H3 scope cenv fp) (fun c d _ H' => Z c d σ H') u s') : notedBy (model X.prog X.w) X.A cenv (CompFails (model X.prog X.w) X.A X.xe cenv) u s' := by
  obtain ⟨a, B, sI, pins', σ', H', cls, d, rfl, I', nb, up, sky, na, os, ag, w⟩ := x
  show wpAny (model X.prog X.w) X.A (noteFrame (.ref a) cenv) _ _ s'
  rw [noteFrame_env _ hcf]
  have hfr : X.A.frames = some (X.env :: X.outer) := by rw [I3.ok.frames, hs]
  have sky' : Sky B (X.env :: X.outer) a (L2N.Zn cls d) cenv.locals s'.heap := by rw [← hs]; exact sky
  have hLlt : X.env.locals < s3.heap.objs.size := I3.lt
  have hCL : cenv.locals ≠ X.env.locals := by rw [hcl]; exact (Nat.ne_of_lt hLlt).symm
  refine look_sky L2N.Zn.steady hCL hfr hf sky' fun h' held hk => ?_
  have hless : ∀ b o, (PySem.W.hideAll B [cenv.locals]).get? b = some o → B.get? b = some o := fun b o e => PySem.W.of_hideAll _ e
  obtain ⟨a0, hD⟩ := held_D (held_less hless held)
  obtain ⟨m, hn, _⟩ := I'.loc
  have hn1 : s'.heap.Ns cenv.locals m := Heap.Ns.upToSlots hn up
  have hn2 : h'.Ns cenv.locals m := Heap.Ns.upToSlots hn1 hk
  refine compFails_held (l := X.env :: X.outer) (L := X.env.locals) (hcf.trans hf) (PySem.W.hideAll_none _ (by simp)) hn2 hD fun h'' hH' k => ?_
  have G0 : ∀ b o, (PySem.W.hideAll sI.heap [cenv.locals]).get? b = some o → sI.heap.get? b = some o ∧ b ≠ cenv.locals := fun b o e => by
    refine ⟨PySem.W.of_hideAll _ e, fun z => ?_⟩
    rw [PySem.W.hideAll_none _ (by simp [z])] at e; cases e
  have G1 : ∀ b o, b ≠ cenv.locals → sI.heap.get? b = some o → (PySem.W.hideAll sI.heap [cenv.locals]).get? b = some o := fun b o ne e => PySem.W.hideAll_get _ e (by simpa using ne)
  have old : ∀ b o, s3.heap.get? b = some o → b ≠ cenv.locals := fun b o e => by
    rw [hcl]; exact Nat.ne_of_lt (Heap.lt_size e)
  have free : H' cenv.locals = none := I'.free
  have bs := I'.base
  refine tk _ _ ⟨a, PySem.W.hideAll B [cenv.locals], { sI with heap := PySem.W.hideAll sI.heap [cenv.locals] }, pins, σ, H', cls, d, rfl, ?_, fun b o e hb => ?_, fun b o e hnf => ?_, .inr (.inr (by rw [hs]; exact held_Z hH')), na, os, ag, w⟩
  · refine I3.call' (ch := fp) I'.os ⟨fun b o e n hb hx => G1 b o (old b o e) (bs.keep b o e n hb hx), fun b o e n hb hx => ?_, fun b o e n hx => bs.free b o e n hx, fun b o e hx => ?_, bs.tups, bs.frzs, bs.tbls⟩ ?_ I'.bare fun b hb => ⟨(f3 b hb).2.2.2.1, (f3 b hb).2.1, (f3 b hb).2.2.2.2.1, (f3 b hb).2.2.2.2.2⟩
    · obtain ⟨sl, q⟩ := bs.slot b o e n hb hx
      exact ⟨sl, G1 b _ (old b o e) q⟩
    · obtain ⟨o', q⟩ := bs.there b o e hx
      exact ⟨o', G1 b _ (old b o e) q⟩
    · intro b o e
      exact (I'.hok b o e).stay (fun c u hc q => G1 c u (fun z => by
        rcases hc with hc | hc
        · rw [← hc, z, free] at e; cases e
        · rw [z, free] at hc; cases hc) q) (fun _ q => q) fun _ _ q => q
  · obtain ⟨e1, ne⟩ := G0 b o e
    exact PySem.W.hideAll_get _ (nb b o e1 hb) (by simpa using ne)
  · obtain ⟨e1, ne⟩ := G0 b o e
    obtain ⟨sl1, q1⟩ := up b o e1 hnf
    obtain ⟨sl2, q2⟩ := hk b _ q1 hnf
    exact ⟨sl2, k b _ q2 ne hnf⟩
end Tw
set_option maxHeartbeats 4000000
namespace Tw
open PySem PySem.Spec PyProof.Rows L2
/-- the same context, its exceptions told otherwise -/
abbrev withX (X : Cx) (E : Value → Shared → Prop) : Cx := { X with xe := E }
theorem ok_x {X : Cx} {E : Value → Shared → Prop} (k : X.Ok) : (withX X E).Ok := ⟨k.mod, k.kind, k.glob, k.blt, k.above, k.inj, k.has, k.cab, k.hd, k.frames, k.stk, k.exf, k.bs, k.bsz, k.noex, k.exfs, k.funs, k.frf⟩
theorem inv_x {X : Cx} {E : Value → Shared → Prop} {pins : List (Addr × Obj)} {σ : L2.St} {H : Hp} {s : Shared} (I : Inv X pins σ H s) : Inv (withX X E) pins σ H s := ⟨ok_x I.ok, I.os, I.bare, I.base, I.loc, I.cell, I.free, I.freeC, I.pin, I.hok, I.len⟩
theorem inv_x' {X : Cx} {E : Value → Shared → Prop} {pins : List (Addr × Obj)} {σ : L2.St} {H : Hp} {s : Shared} (I : Inv (withX X E) pins σ H s) : Inv X pins σ H s :=
  ⟨⟨I.ok.mod, I.ok.kind, I.ok.glob, I.ok.blt, I.ok.above, I.ok.inj, I.ok.has, I.ok.cab, I.ok.hd, I.ok.frames, I.ok.stk, I.ok.exf, I.ok.bs, I.ok.bsz, I.ok.noex, I.ok.exfs, I.ok.funs, I.ok.frf⟩, I.os, I.bare, I.base, I.loc, I.cell, I.free, I.freeC, I.pin, I.hok, I.len⟩
/-- a block whose exceptions go by Zb -/
abbrev blkX (X : Cx) (s : Shared) (H : Hp) (scope : Scope) (cenv : Env) (fp : List Addr) (Zb : L2.WX) : Cx := withX (X.blk s H scope cenv fp) (L2N.XE (X.blk s H scope cenv fp) Zb)
theorem blkX_takes {X : Cx} {s : Shared} {H : Hp} {scope : Scope} {cenv : Env} {fp : List Addr} {Zb : L2.WX} : L2N.Takes (blkX X s H scope cenv fp Zb) Zb := fun u s' ⟨a, B, sI, pins, σ, H, cls, d, e, I, r⟩ => ⟨a, B, sI, pins, σ, H, cls, d, e, inv_x' I, r⟩
theorem lc_coreX {X : Cx} {Z : L2.WX} {pins : List (Addr × Obj)} {s : Shared} {σ : L2.St} {H : Hp} {Q : VK} {elt tg iter : Expr} {ifs : List Expr} {scope : Scope} {own : List (Str × Nat)} {pos pos' : Pos} {wi : TI} {g : TG} {tt : TT} {te : TE} {use : Option (Value → Sem Unit)} {Qf : Value → Shared → Prop}
    (tk : L2N.Takes X Z) (hstk : X.stack = X.env :: X.outer) (hfrm : X.env.frame = some X.env.locals)
    (hc : X.calm = true) (hN : X.N.Nodup) (I : Inv X pins σ H s) (hi : PI X tg iter wi) (ok : BlkOk X.N X.env.scope scope own)
    (hg : ∀ (s : Shared) (H : Hp) (C : Addr) (cl : List (Str × Addr)) (fp : List Addr), PG (blkX X s H scope (compEnvC scope cl C X.env) fp fun c d _ H' => Z c d σ H') tg g)
    (ht : ∀ (s : Shared) (H : Hp) (C : Addr) (cl : List (Str × Addr)) (fp : List Addr), PTs (blkX X s H scope (compEnvC scope cl C X.env) fp fun c d _ H' => Z c d σ H') ifs tt)
    (he : ∀ (s : Shared) (H : Hp) (C : Addr) (cl : List (Str × Addr)) (fp : List Addr), PE (blkX X s H scope (compEnvC scope cl C X.env) fp fun c d _ H' => Z c d σ H') elt te) (hs : ∀ x, foldedSetIterable iter X.env x = pure x)
    (h : tLc wi g tt te (own.map (·.2)) σ H Q)
    (hRR : ∀ D (cenv : Env) s' m H', Inv X pins σ H' s' → Q (.ref D) H' → s'.heap.Ns cenv.locals m → FpOk X pins H' cenv.locals → compEnds (model X.prog X.w) X.A X.xe use Qf (.ref D) cenv (.ok .next) s') :
    wpAny (model X.prog X.w) X.A (comprehension (.ListComp elt [⟨tg, iter, ifs, 0⟩] scope pos) scope X.env pos' (newList []) false (eval iter X.env) use) Qf X.xe s := by
  have hfree : ∀ y ∈ scope.names, y.2 = .free → ∃ c, X.env.cells.lookup y.1 = some c := fun y hy e => by
    rcases ok.free y hy e with k | k
    · exact I.ok.has _ (.inl k)
    · exact I.ok.has _ (.inr k)
  refine comprehension_at (use := use) rfl hs (closure_ok hfree) ok.kind (fun y hy e => by rw [ok.uniq y hy, e])
    (thn (hi.run pins s σ H _ I h) fun xv s1 hx => thn hx fun itv s2 h2 => ?_)
  obtain ⟨it, fp, tn, J, H2, e, I2, T, st2, f2, q⟩ := h2
  subst e
  refine wpAny_newObj_type (newEnv_comp ?_) (by show 0 ≤ sizeLine; decide)
  generalize hD : s2.heap.objs.size = D
  have hDn : H2 D = none := I2.hok.fresh (Nat.le_of_eq hD)
  obtain ⟨W, ⟨m0, w0⟩, turn⟩ := q D hDn
  generalize hs3 : ({ s2 with heap := s2.heap.push { cls := .type "list", data := .seq ([] : List Value).toArray } } : Shared) = s3
  have I3 : Inv X pins σ (upd H2 D (.lst [])) s3 := by
    rw [← hs3]
    refine I2.laid (t' := s2.toks) (fun b o e => Heap.get?_push_of_some _ e) (Nat.le_of_eq hD) ⟨Nat.zero_le _, [], 0, .nil, ?_⟩
    rw [← hD]
    exact Heap.get?_push_size _ rfl
  have h3 : s3.heap = s2.heap.push { cls := .type "list", data := .seq ([] : List Value).toArray } := by rw [← hs3]
  have sz : ∀ b ∈ fp, b < s2.heap.objs.size := fun b hb => by
    obtain ⟨o, e, _⟩ := T.obj _ _ st2 b hb
    exact Heap.lt_size e
  have f3 : ∀ b ∈ fp, FpOk X pins (upd H2 D (.lst [])) b ∧ b < s3.heap.objs.size := fun b hb => by
    have hlt := sz b hb
    refine ⟨⟨?_, (f2 b hb).2⟩, by rw [h3, Heap.size_push]; exact Nat.lt_succ_of_lt hlt⟩
    rw [upd_ne (by rw [← hD]; exact Nat.ne_of_lt hlt)]
    exact (f2 b hb).1
  have st3 : tn 0 s3.heap := T.keep _ _ _ st2 fun b _ o e => by rw [h3]; exact Heap.get?_push_of_some _ e
  have I4 := block_start I3 ok hN f3
  have pg := hg s3 (upd H2 D (.lst [])) s3.heap.objs.size (cellsFrom (s3.heap.objs.size + 1) scope.names (cloFrom X.env.cells scope.names [])) fp
  have pt := ht s3 (upd H2 D (.lst [])) s3.heap.objs.size (cellsFrom (s3.heap.objs.size + 1) scope.names (cloFrom X.env.cells scope.names [])) fp
  have pe := he s3 (upd H2 D (.lst [])) s3.heap.objs.size (cellsFrom (s3.heap.objs.size + 1) scope.names (cloFrom X.env.cells scope.names [])) fp
  show codeAny _ _ (.compStart (.ListComp elt [⟨tg, iter, ifs, 0⟩] scope pos) 0 (.ref it) (.ref D) (compEnvC scope (cellsFrom (s3.heap.objs.size + 1) scope.names (cloFrom X.env.cells scope.names [])) s3.heap.objs.size X.env)) (compEnds (model X.prog X.w) X.A X.xe use Qf (.ref D) (compEnvC scope (cellsFrom (s3.heap.objs.size + 1) scope.names (cloFrom X.env.cells scope.names [])) s3.heap.objs.size X.env)) { s3 with heap := pushCells (s3.heap.push { cls := .type "dict", data := .dict #[] }) scope.names }
  have nfp : ∀ b ∈ fp, (upd H2 D (.lst [])) b = none := fun b hb => (f3 b hb).1.1
  have hcf : (compEnvC scope (cellsFrom (s3.heap.objs.size + 1) scope.names (cloFrom X.env.cells scope.names [])) s3.heap.objs.size X.env).frame = X.env.frame := rfl
  generalize hce : compEnvC scope (cellsFrom (s3.heap.objs.size + 1) scope.names (cloFrom X.env.cells scope.names [])) s3.heap.objs.size X.env = ce at I4 pg pt pe hcf ⊢
  have cL : ce.locals = s3.heap.objs.size := by subst hce; rfl
  generalize hH3 : upd H2 D (.lst []) = H3 at I3 I4 pg pt pe w0 nfp f3
  generalize hs4 : ({ s3 with heap := pushCells (s3.heap.push { cls := .type "dict", data := .dict #[] }) scope.names } : Shared) = s4 at I4 ⊢
  have st4 : tn 0 s4.heap := T.keep _ _ _ st3 fun b _ o e => by rw [← hs4]; exact pushCells_keeps _ _ _ _ (Heap.get?_push_of_some _ e)
  have out : ∀ (u : Value) (s' : Shared), L2N.XE (X.blk s3 H3 scope ce fp) (fun c d _ H' => Z c d σ H') u s' → notedBy (model X.prog X.w) X.A ce (CompFails (model X.prog X.w) X.A X.xe ce) u s' := fun u s' x => blk_out tk hstk hfrm hcf cL I3 (fun b hb => (f3 b hb).1) x
  have stat : ∀ {σ' : L2.St} {H' : Hp} {s' : Shared}, Inv (blkX X s3 H3 scope ce fp fun c d _ H' => Z c d σ H') [] σ' H' s' → (∀ b ∈ fp, H' b = none) → ∀ b ∈ fp, FpOk (blkX X s3 H3 scope ce fp fun c d _ H' => Z c d σ H') [] H' b := fun {σ' H' s'} I' hn b hb =>
    ⟨hn b hb, (I'.ok.exf b hb).1, I'.ok.exfs b hb, .inl hb, fun x c e => (I'.ok.exf b hb).2 x c e, fun p hp => absurd (show p ∈ ([] : List (Addr × Obj)) ++ [] from hp) (by simp)⟩
  have loop : codeAny (model X.prog X.w) X.A (.compLoop (.ListComp elt [⟨tg, iter, ifs, 0⟩] scope pos) 0 (.ref it) (.ref D) ce) (compEnds (model X.prog X.w) X.A X.xe use Qf (.ref D) ce) s4 := by
    refine compLoop_any (fun n s' => ∃ i H', Inv (blkX X s3 H3 scope ce fp fun c d _ H' => Z c d σ H') [] (wipe σ (own.map (·.2))) H' s' ∧ tn i s'.heap ∧ (∀ b ∈ fp, H' b = none) ∧ W i n H') ?_ m0 ⟨0, H3, inv_x I4, st4, nfp, w0⟩
    rintro n s5 ⟨i, H5, I5, st5, n5, w5⟩
    have out' : ∀ (u : Value) (s' : Shared), L2N.XE (X.blk s3 H3 scope ce fp) (fun c d _ H' => Z c d σ H') u s' → notedBy (model X.prog X.w) X.A ce (fun e s' => compEnds (model X.prog X.w) X.A X.xe use Qf (.ref D) ce (.error e) s') u s' := fun u s' x => by
      have z := out u s' x
      cases use <;> exact z
    rcases turn i n H5 w5 with ⟨stop, qq⟩ | ⟨go, Nx, hNx, step⟩
    · have td := T.done (blkX X s3 H3 scope ce fp fun c d _ H' => Z c d σ H') rfl rfl rfl hc i [] s5 _ H5 (fun _ _ => False) I5 (stat I5 n5) st5 stop
      refine thnF td fun r s6 ⟨hr, I6⟩ => ?_
      subst hr
      have I7 : Inv X pins σ H5 s6 := I3.call' (ch := fp) I6.os I6.base I6.hok I6.bare fun b hb => ⟨(f3 b hb).1.2.2.2.1, (f3 b hb).1.2.1, (f3 b hb).1.2.2.2.2.1, (f3 b hb).1.2.2.2.2.2⟩
      have nC : H5 ce.locals = none := I6.free
      obtain ⟨m, hn, _⟩ := I6.loc
      exact hRR D ce s6 m H5 I7 qq hn (by rw [cL] at nC ⊢; exact I3.fpOk (Nat.le_refl _) nC)
    · have ti := T.item (blkX X s3 H3 scope ce fp fun c d _ H' => Z c d σ H') rfl rfl rfl hc i [] s5 _ H5 (fun _ _ => False) I5 (stat I5 n5) st5 go
      refine thnF ti fun r s6 ⟨u, hr, h6⟩ => ?_
      subst hr
      refine thnF h6 fun _ s7 ⟨x, H7, I7, r7, y7, st7, n7⟩ => ?_
      have I7' := I7.pinned (stat I7 n7) (T.obj _ _ st7)
      refine wpAny_mono (pg.run _ s7 _ H7 x u _ I7' r7 (step x H7 y7)) (fun _ s8 ⟨σ8, H8, I8, hw8, q8⟩ => ?_) out'
      refine wpAny_mono (pt.run _ s8 σ8 H8 _ I8 q8) (fun b s9 ⟨H9, I9, q9⟩ => ?_) out'
      have fin : ∀ {s' : Shared} {H' : Hp}, Inv (blkX X s3 H3 scope ce fp fun c d _ H' => Z c d σ H') ([] ++ pinsAt fp s7.heap) σ8 H' s' → Nx H' → ∃ m, m < n ∧ ∃ i H', Inv (blkX X s3 H3 scope ce fp fun c d _ H' => Z c d σ H') [] (wipe σ (own.map (·.2))) H' s' ∧ tn i s'.heap ∧ (∀ b ∈ fp, H' b = none) ∧ W i m H' := fun {s' H'} I' nx => by
        obtain ⟨m', hm, w'⟩ := hNx H' nx
        have pin' : ∀ b ∈ fp, ∀ o, s7.heap.get? b = some o → s'.heap.get? b = some o ∧ H' b = none := fun b hb o e =>
          let z := I'.pin (b, o) (List.mem_append_right _ (List.mem_append_right _ (mem_pinsAt hb e)))
          ⟨z.1, z.2.1⟩
        have hl : (wipe σ (own.map (·.2))).length = σ8.length := by rw [← hw8, wipe_length]
        refine ⟨m', hm, i + 1, H', (I'.unpinned (pins := [])).weak hl (fun j v e => ?_), T.keep _ _ _ st7 fun b hb o e => (pin' b hb o e).1, fun b hb => ?_, w'⟩
        · rw [← hw8] at e
          exact (wipe_some e).1
        · obtain ⟨o, e, _⟩ := T.obj _ _ st7 b hb
          exact (pin' b hb o e).2
      cases b with
      | false =>
        simp only [Bool.false_eq_true, if_false] at q9 ⊢
        exact fin I9 q9
      | true =>
        simp only [if_true] at q9 ⊢
        refine wpAny_mono (pe.run _ s9 σ8 H9 _ I9 q9) (fun z s10 ⟨yv, H10, I10, r10, acc, hD10, hz10, nx⟩ => ?_) out'
        exact app_ok (X := blkX X s3 H3 scope ce fp fun c d _ H' => Z c d σ H') I10 hD10 hz10 r10 fun s11 I11 => fin I11 nx
  exact codeAny_compStart_list loop (T.self X.A 0 _ _ _ st4 loop)
/-- as a value -/
theorem pe_lcX {X : Cx} {Z : L2.WX} {elt tg iter : Expr} {ifs : List Expr} {scope : Scope} {own : List (Str × Nat)} {pos : Pos} {wi : TI} {g : TG} {tt : L2.St → TT} {te : L2.St → TE} (tk : L2N.Takes X Z) (hstk : X.stack = X.env :: X.outer) (hfrm : X.env.frame = some X.env.locals)
    (hc : X.calm = true) (hN : X.N.Nodup) (hi : PI X tg iter wi) (ok : BlkOk X.N X.env.scope scope own)
    (hg : ∀ (σ : L2.St) (s : Shared) (H : Hp) (C : Addr) (cl : List (Str × Addr)) (fp : List Addr), PG (blkX X s H scope (compEnvC scope cl C X.env) fp fun c d _ H' => Z c d σ H') tg g)
    (ht : ∀ (σ : L2.St) (s : Shared) (H : Hp) (C : Addr) (cl : List (Str × Addr)) (fp : List Addr), PTs (blkX X s H scope (compEnvC scope cl C X.env) fp fun c d _ H' => Z c d σ H') ifs (tt σ))
    (he : ∀ (σ : L2.St) (s : Shared) (H : Hp) (C : Addr) (cl : List (Str × Addr)) (fp : List Addr), PE (blkX X s H scope (compEnvC scope cl C X.env) fp fun c d _ H' => Z c d σ H') elt (te σ)) (hs : ∀ x, foldedSetIterable iter X.env x = pure x := by intro _; rfl) :
    PE X (.ListComp elt [⟨tg, iter, ifs, 0⟩] scope pos) (fun σ H Q => tLc wi g (tt σ) (te σ) (own.map (·.2)) σ H Q) := by
  refine ⟨fun pins s σ H Q I h => ?_⟩
  rw [eval_ListComp]
  refine lc_coreX tk hstk hfrm hc hN I hi ok (hg σ) (ht σ) (he σ) hs h fun D ce s' m H' I' q hn f => ⟨m, hn, fun h'' sb => ?_⟩
  obtain ⟨f0, f1, f2, f3, f4, f5⟩ := f
  exact ⟨.ref D, H', I'.turned (t' := s'.toks) (fun b o hb e => (sb.2 b hb).trans e) f0 f1 f3 f4 f5, rfl, q⟩
/-- name = [..] on one line, the name a local -/
theorem ps_setLcX {X : Cx} {Z : L2.WX} {i : Nat} {y : Str} {py : Pos} {elt tg iter : Expr} {ifs : List Expr} {scope : Scope} {own : List (Str × Nat)} {pos spos : Pos} {wi : TI} {g : TG} {tt : L2.St → TT} {te : L2.St → TE} (tk : L2N.Takes X Z) (hstk : X.stack = X.env :: X.outer) (hfrm : X.env.frame = some X.env.locals)
    (hc : X.calm = true) (hN : X.N.Nodup) (hy : X.N[i]? = some y) (hyl : X.env.scope.names.lookup y = some .local)
    (hsw : swapsWith (.ListComp elt [⟨tg, iter, ifs, 0⟩] scope pos) (some (.Name y py)) spos.line X.env = pure true) (hi : PI X tg iter wi) (ok : BlkOk X.N X.env.scope scope own)
    (hg : ∀ (σ : L2.St) (s : Shared) (H : Hp) (C : Addr) (cl : List (Str × Addr)) (fp : List Addr), PG (blkX X s H scope (compEnvC scope cl C X.env) fp fun c d _ H' => Z c d σ H') tg g)
    (ht : ∀ (σ : L2.St) (s : Shared) (H : Hp) (C : Addr) (cl : List (Str × Addr)) (fp : List Addr), PTs (blkX X s H scope (compEnvC scope cl C X.env) fp fun c d _ H' => Z c d σ H') ifs (tt σ))
    (he : ∀ (σ : L2.St) (s : Shared) (H : Hp) (C : Addr) (cl : List (Str × Addr)) (fp : List Addr), PE (blkX X s H scope (compEnvC scope cl C X.env) fp fun c d _ H' => Z c d σ H') elt (te σ)) (hs : ∀ x, foldedSetIterable iter X.env x = pure x := by intro _; rfl) :
    PS X (.Assign [.Name y py] (.ListComp elt [⟨tg, iter, ifs, 0⟩] scope pos) spos) (tAsg (fun σ H Q => tLc wi g (tt σ) (te σ) (own.map (·.2)) σ H Q) (gName i)) := by
  refine ⟨fun pins s σ H D I h => ?_⟩
  rw [exec_Assign_Name_used _ _ _ _ hsw]
  refine wpAny_bind (wpAny_standAt (wpAny_bind ?_))
  show wpAny _ X.A (do let _ ← comprehension (.ListComp elt [⟨tg, iter, ifs, 0⟩] scope pos) scope X.env (firstIterPos [⟨tg, iter, ifs, 0⟩] pos) (newList []) false (eval iter X.env) (some (assign (.Name y py) X.env))) _ _ s
  have h : tLc wi g (tt σ) (te σ) (own.map (·.2)) σ H (fun x H1 => gName i x σ H1 D.nx) := h
  refine wpAny_bind (thn (lc_coreX (Qf := fun _ s' => SP X pins D .next s') tk hstk hfrm hc hN I hi ok (hg σ) (ht σ) (he σ) hs h fun L ce s' m H' I' q hn f => ?_) fun _ s' hq => wpAny_pure (wpAny_pure hq))
  show wpAny _ _ (assign (.Name y py) X.env (.ref L)) _ _ _
  refine wpAny_assign_Name (store_ok2 (v := V.ref L) I' hN hy (.inl hyl) rfl (fun s2 I2 ⟨a, sb, ha⟩ => ?_) (.inr hyl))
  obtain ⟨f0, f1, f2, f3, f4, f5⟩ := f
  have haC : ce.locals ≠ a := by
    rcases ha with z | z
    · rw [z]; exact f1
    · exact fun e => f4 y a z e.symm
  refine ⟨m, hn.sameBut sb haC, fun h3 sb3 => ?_⟩
  exact ⟨_, H', I2.turned (t' := s2.toks) (fun b o hb e => (sb3.2 b hb).trans e) f0 f1 f3 f4 f5, q⟩
end Tw
set_option maxHeartbeats 4000000
namespace Tw
open PySem PySem.Spec L2
open PyProof.Rows (b2i)
section
variable {T : Tb} {U : Ux} {X : Cx} {G : Gs} {k : Nat} {Z : WX}
/-- several names -/
def setV : List Nat → List V → St → Option St
  | [], [], σ => some σ
  | i :: is, v :: vs, σ => setV is vs (σ.set i (some v))
  | _, _, _ => none
def gNs (is : List Nat) : TGs := fun vs σ H Q => ∃ σ', setV is vs σ = some σ' ∧ Q σ' H
theorem RepG.setN {W : Om} {H : Hp} : ∀ {is : List Nat} {ds : List D} {vs : List V} {g g' : Gm} {σ : St}, Reps T U W H ds vs → (∀ i ∈ is, U.ei ≠ some i) → RepG T U W H g σ → Tw.setN is ds g = some g' → ∃ σ', setV is vs σ = some σ' ∧ RepG T U W H g' σ'
  | [], [], [], g, g', σ, .nil, hu, rg, e => by cases e; exact ⟨σ, rfl, rg⟩
  | i :: is, d :: ds, v :: vs, g, g', σ, .cons r rs, hu, rg, e => RepG.setN (is := is) (ds := ds) (g := g.set i (some d)) (σ := σ.set i (some v)) rs (fun j hj => hu j (List.mem_cons_of_mem _ hj)) (RepG.set r (hu i List.mem_cons_self) rg) e
  | [], _ :: _, _, _, _, _, _, _, _, e => by cases e
  | _ :: _, [], _, _, _, _, _, _, _, e => by cases e
theorem setN_len : ∀ {is : List Nat} {ds : List D} {g g' : Gm}, setN is ds g = some g' → ds.length = is.length
  | [], [], _, _, _ => rfl
  | _ :: _, _ :: _, _, _, e => congrArg Nat.succ (setN_len e)
  | [], _ :: _, _, _, e => by cases e
  | _ :: _, [], _, _, e => by cases e
/-- a target that spares the caught exception's slot -/
def TgOk (U : Ux) : Tg → Prop
  | .name i => U.ei ≠ some i
  | .tup is => ∀ i ∈ is, U.ei ≠ some i
theorem TgOk.zero {U : Ux} (h : U.ei = none) : ∀ t, TgOk U t
  | .name i => by show U.ei ≠ _; rw [h]; exact fun z => nomatch z
  | .tup is => fun i _ => by rw [h]; exact fun z => nomatch z
/-- a target's reading -/
def gTg (K : PySem.W.Frag) : Tg → TG
  | .name i => gName i
  | .tup is => gTup K is.length (gNs is)
theorem tg_read {K : PySem.W.Frag} {t : Tg} {d : D} {v : V} {g : Gm} {σ : St} {W : Om} {H : Hp} {Q : St → Hp → Prop} {p : Gm → Prop} (ht : TgOk U t) (r : Rep T U W H d v) (rg : RepG T U W H g σ) (h : setT t d g p) (hq : ∀ g' σ', RepG T U W H g' σ' → p g' → Q σ' H) : gTg K t v σ H Q := by
  cases t with
  | name i => exact hq _ _ (RepG.set r ht rg) h
  | tup is =>
    unfold setT at h
    cases d <;> first | exact h.elim | skip
    obtain ⟨g', e, h⟩ := h
    cases r with
    | tup n hp rs =>
      obtain ⟨σ', e1, rg'⟩ := RepG.setN rs ht rg e
      exact ⟨_, _, rfl, SqT.of hp, by rw [← rs.length]; exact setN_len e, σ', e1, hq _ _ rg' h⟩
end
def wipeG (g : Gm) : List Nat → Gm
  | [] => g
  | v :: vs => (wipeG g vs).set v none
theorem wipeG_length (g : Gm) : ∀ vs : List Nat, (wipeG g vs).length = g.length
  | [] => rfl
  | v :: vs => by show ((wipeG g vs).set v none).length = _; rw [List.length_set, wipeG_length g vs]
theorem wipeG_get (g : Gm) : ∀ (vs : List Nat) (j : Nat), j ∉ vs → (wipeG g vs)[j]? = g[j]?
  | [], _, _ => rfl
  | v :: vs, j, h => by
    show ((wipeG g vs).set v none)[j]? = _
    rw [List.getElem?_set_ne (fun e => h (by simp [e])), wipeG_get g vs j fun z => h (List.mem_cons_of_mem _ z)]
theorem wipe_get (σ : St) : ∀ (vs : List Nat) (j : Nat), j ∉ vs → (L2.wipe σ vs)[j]? = σ[j]?
  | [], _, _ => rfl
  | v :: vs, j, h => by
    show ((L2.wipe σ vs).set v none)[j]? = _
    rw [List.getElem?_set_ne (fun e => h (by simp [e])), wipe_get σ vs j fun z => h (List.mem_cons_of_mem _ z)]
theorem wipe_at (σ : St) : ∀ (vs : List Nat) (j : Nat), j ∈ vs → j < σ.length → (L2.wipe σ vs)[j]? = some none
  | v :: vs, j, h, hl => by
    show ((L2.wipe σ vs).set v none)[j]? = _
    by_cases e : v = j
    · subst e
      rw [List.getElem?_set_self (by rw [L2.wipe_length]; exact hl)]
    · rw [List.getElem?_set_ne e]
      exact wipe_at σ vs j ((List.mem_cons.mp h).resolve_left fun z => e z.symm) hl
theorem wipe_eq {σ τ : St} {vs : List Nat} (hl : σ.length = τ.length) (h : ∀ j, j ∉ vs → σ[j]? = τ[j]?) : L2.wipe σ vs = L2.wipe τ vs := by
  refine List.ext_getElem? fun j => ?_
  by_cases hj : j ∈ vs
  · rcases Nat.lt_or_ge j σ.length with z | z
    · rw [wipe_at σ vs j hj z, wipe_at τ vs j hj (by omega)]
    · rw [List.getElem?_eq_none (by rw [L2.wipe_length]; exact z), List.getElem?_eq_none (by rw [L2.wipe_length]; omega)]
  · rw [wipe_get σ vs j hj, wipe_get τ vs j hj, h j hj]
theorem setV_len : ∀ {is : List Nat} {vs : List V} {σ σ' : St}, setV is vs σ = some σ' → σ'.length = σ.length
  | [], [], _, _, e => by cases e; rfl
  | i :: is, v :: vs, σ, σ', e => by rw [setV_len (is := is) (vs := vs) e, List.length_set]
  | [], _ :: _, _, _, e => by cases e
  | _ :: _, [], _, _, e => by cases e
theorem setV_get : ∀ {is : List Nat} {vs : List V} {σ σ' : St}, setV is vs σ = some σ' → ∀ j, j ∉ is → σ'[j]? = σ[j]?
  | [], [], _, _, e, _, _ => by cases e; rfl
  | i :: is, v :: vs, σ, σ', e, j, h => by
    rw [setV_get (is := is) (vs := vs) e j fun z => h (List.mem_cons_of_mem _ z), List.getElem?_set_ne (fun e => h (by simp [e]))]
  | [], _ :: _, _, _, e, _, _ => by cases e
  | _ :: _, [], _, _, e, _, _ => by cases e
/-- what is stored at every name of a target hangs on the other slots alone -/
theorem setN_agree : ∀ {is : List Nat} {ds : List D} {g g' : Gm}, g.length = g'.length → (∀ j, j ∉ is → g[j]? = g'[j]?) → Tw.setN is ds g = Tw.setN is ds g'
  | [], [], g, g', _, h => congrArg some (List.ext_getElem? fun j => h j (by simp))
  | i :: is, d :: ds, g, g', hl, h => setN_agree (is := is) (ds := ds) (by rw [List.length_set, List.length_set]; exact hl) fun j hj => by
      by_cases e : i = j
      · subst e
        rcases Nat.lt_or_ge i g.length with z | z
        · rw [List.getElem?_set_self z, List.getElem?_set_self (by omega)]
        · rw [List.getElem?_eq_none (by rw [List.length_set]; exact z), List.getElem?_eq_none (by rw [List.length_set]; omega)]
      · rw [List.getElem?_set_ne e, List.getElem?_set_ne e]
        exact h j fun z => (List.mem_cons.mp z).elim (fun q => e q.symm) hj
  | [], _ :: _, _, _, _, _ => rfl
  | _ :: _, [], _, _, _, _ => rfl
theorem setT_wipe {t : Tg} {d : D} {g : Gm} {p : Gm → Prop} (h : setT t d g p) : setT t d (wipeG g t.slots) p := by
  cases t with
  | name i =>
    show p ((g.set i none).set i (some d))
    rw [List.set_set]
    exact h
  | tup is =>
    unfold setT at h ⊢
    cases d <;> first | exact h.elim | skip
    obtain ⟨g', e, h⟩ := h
    exact ⟨g', by rw [← e]; exact setN_agree (wipeG_length _ _) fun j hj => wipeG_get _ _ _ hj, h⟩
section
variable {T : Tb} {U : Addr → Prop} {W : Om} {H : Hp}
theorem RepX.unhide {p : Addr} {x : Exn} {c : Value} {d : Option Addr} : RepX T (Hid U p) W H x c d → RepX T U W H x c d
  | .bare C => .bare C
  | .dict c n h r => .dict c ⟨n.1, fun z => n.2 (.inl z)⟩ h (r.less fun _ z => .inl z)
theorem RepG0.wipeG {g : Gm} {σ : St} (r : RepG0 T U W H g σ) : ∀ vs : List Nat, RepG0 T U W H (Tw.wipeG g vs) (L2.wipe σ vs)
  | [] => r
  | v :: vs => RepG0.wipe1 v none (RepG0.wipeG r vs)
end
section
variable {T : Tb} {U : Ux} {X : Cx} {G : Gs} {k : Nat} {Z : WX}
/-- an exception out of the block: as it is wanted outside -/
abbrev Zb (Z : WX) (σ : St) : WX := fun c d _ H' => Z c d σ H'
theorem tg_readX {K : PySem.W.Frag} {U' : Ux} (hz : U'.ei = none) {t : Tg} {d : D} {v : V} {g : Gm} {σ : St} {W : Om} {H : Hp} {Q : St → Hp → Prop} {p : Gm → Prop} (r : Rep T U'.hid W H d v) (rg : RepG T U' W H (wipeG g t.slots) (L2.wipe σ t.slots)) (h : setT t d g p)
    (hq : ∀ g' σ', L2.wipe σ' t.slots = L2.wipe σ t.slots → RepG T U' W H g' σ' → p g' → Q σ' H) : gTg K t v (L2.wipe σ t.slots) H Q := by
  have h := setT_wipe h
  have lenw : (L2.wipe σ t.slots).length = σ.length := L2.wipe_length _ _
  cases t with
  | name i =>
    have key := tg_read (K := K) (U := U') (TgOk.zero hz (.name i)) r rg h (Q := fun σ' H' => σ' = (L2.wipe σ [i]).set i (some v) → Q σ' H') fun g' σ' a b e => by
      subst e
      refine hq _ _ ?_ a b
      show (((L2.wipe σ [i]).set i (some v)).set i none) = (σ.set i none)
      rw [List.set_set]
      show (σ.set i none).set i none = _
      rw [List.set_set]
    exact key rfl
  | tup is =>
    unfold setT at h
    cases d <;> first | exact h.elim | skip
    obtain ⟨g', e, h⟩ := h
    cases r with
    | tup n hp rs =>
      obtain ⟨σ', e1, rg'⟩ := RepG.setN rs (fun i _ => by rw [hz]; exact fun z => nomatch z) rg e
      refine ⟨_, _, rfl, SqT.of hp, by rw [← rs.length]; exact setN_len e, σ', e1, hq _ _ ?_ rg' h⟩
      have l1 := setV_len e1
      refine (wipe_eq (by rw [l1, lenw]) fun j hj => ?_ : L2.wipe σ' is = L2.wipe σ is)
      rw [setV_get e1 j hj]
      exact wipe_get σ is j hj
theorem compR_read {K : PySem.W.Frag} (hu : U.ei = none) {own : Bool} {t : Tg} {elt : E} {it : I} {cond : Option E} {σ : St} {H : Hp} {Q : VK} (hh : pE T U Z G k (.compR own t elt it cond) σ H Q) :
    tLc (pI T U Z G k it) (gTg K t) (fun σ' H Q => ∃ U' : Ux, (U'.ei = none ∧ U'.pn = []) ∧ tT T U' (Zb Z σ) (wpC G k T.toPm cond) σ' H Q) (fun σ' H Q => ∃ U' : Ux, (U'.ei = none ∧ U'.pn = []) ∧ pE T U' (Zb Z σ) G k elt σ' H Q) t.slots σ H Q := by
  obtain ⟨g, W, rg, hw, h⟩ := hh
  have rg0 := (RepG.zero hu).mp rg
  simp only [wpE] at h
  refine ⟨g, W, rg, hw, moI it (fun wt ds W1 f J H1 w1 e1 Y => ?_) (fun _ _ z => z) h⟩
  intro Dp hD
  have x0 := Ext.fresh (o := .lst []) hD w1
  have nU : ¬ U.hid Dp := x0.2.2
  have H0 : W Dp = none → H Dp = none := fun n => by
    cases q : H Dp with
    | none => rfl
    | some o =>
      have := e1.keep Dp o q n
      rw [hD] at this; cases this
  let inv : Nat → Hp → Prop := fun n Hc => n ≤ ds.length ∧ ∃ acc vacc W', Hc Dp = some (.lst vacc) ∧ Reps T (Hid U Dp) W' Hc acc vacc ∧ RepG0 T (Hid U Dp) W' Hc (wipeG g t.slots) (L2.wipe σ t.slots) ∧ RepW T (Hid U Dp) W' Hc ∧ Ext W1 H1 W' Hc ∧
    compL wt (fun d W2 R => setT t d g fun g' => wpC G k T.toPm cond g' W2 (fun t W3 => if t = true then wpE G k T.toPm elt g' W3 (fun y W4 => R (some y) W4) (PostX T U W H σ Z) else R none W3) (PostX T U W H σ Z)) (ds.drop n) acc W' fun ys W2 => mkL own ys W2 (Post T U W H Q)
  refine ⟨fun n m Hc => m = ds.length - n ∧ inv n Hc, ⟨_, rfl, Nat.zero_le _, [], [], W1, upd_same, .nil, ?_, w1.hideNew hD, x0.1, f⟩, ?_⟩
  · exact (((rg0.ext e1).hide hD).ext x0.1).wipeG t.slots
  rintro n m Hc ⟨rfl, hn, acc, vacc, W', hc1, ra, rgc, wc, ec, f⟩
  have offD : W' Dp = none := wc.offU (.inr rfl)
  rcases Nat.lt_or_ge n ds.length with hlt | hge
  · have hg0 : ds[n]? = some ds[n] := List.getElem?_eq_getElem hlt
    have hd0 : ds.drop n = ds[n] :: ds.drop (n + 1) := List.drop_eq_getElem_cons hlt
    generalize ds[n] = d0 at hg0 hd0
    have hdrop : ds.drop n = d0 :: ds.drop (n + 1) := hd0
    rw [hdrop] at f
    refine .inr ⟨Y.go (Hid U Dp) n W' Hc (fun _ z => .inl z) ec.P wc f.1 hlt, fun Hn => inv (n + 1) Hn, fun Hn z => ⟨_, by omega, rfl, z⟩, fun x H' yl => ?_⟩
    obtain ⟨d, hd, rx, w', e'⟩ := Y.yld (Hid U Dp) n W' Hc x H' (fun _ z => .inl z) (fun a z => z.elim .inl fun e => .inr (by rw [e]; exact hD)) ec.P wc f.1 hlt yl
    replace f := f.2
    obtain rfl : d = d0 := by rw [hg0] at hd; exact (Option.some.inj hd).symm
    refine tg_readX (U' := HidX U Dp) rfl rx ((RepG.zero rfl).mpr (rgc.ext e')) f fun g' σ' hw' rg2 f => ?_
    refine ⟨hw', HidX U Dp, ⟨rfl, rfl⟩, ?_⟩
    have hD' : H' Dp = some (.lst vacc) := e'.keep _ _ hc1 offD
    have out : ∀ {W3 : Om} {H3 : Hp}, Ext W H W3 H3 → ∀ x W4, PostX T U W H σ Z x W4 → PostX T (HidX U Dp) W3 H3 σ' (Zb Z σ) x W4 := fun {W3 H3} e3 x W4 z c d H4 r w e => z c d H4 (RepX.unhide r) w.unhide (e3.trans e)
    refine tT_mono (moC cond) (fun b H3 ⟨W3, rg3, w3, e3, f3⟩ => ?_) (oneT (U := HidX U Dp) (Z := Zb Z σ) (moC cond) rg2 w' (moC cond (fun _ _ z => z) (out ((e1.trans ec).trans e')) f))
    have hD3 : H3 Dp = some (.lst vacc) := e3.keep _ _ hD' offD
    cases b with
    | false =>
      exact ⟨hlt, acc, vacc, W3, hD3, (ra.ext e').ext e3, (rgc.ext e').ext e3, w3, (ec.trans e').trans e3, f3⟩
    | true =>
      have off3 : W3 Dp = none := w3.offU (.inr rfl)
      refine ⟨HidX U Dp, ⟨rfl, rfl⟩, tE_mono (moE elt) (fun z H4 ⟨dy, W4, ry, rg4, w4, e4, f4⟩ => ?_) (one (U := HidX U Dp) (Z := Zb Z σ) (moE elt) rg3 w3 (moE elt (fun _ _ z => z) (out (((e1.trans ec).trans e').trans e3)) f3))⟩
      have hD4 : H4 Dp = some (.lst vacc) := e4.keep _ _ hD3 off3
      have ra4 := ((ra.ext e').ext e3).ext e4
      refine ⟨vacc, hD4, by rw [← ra4.length]; exact f4.1, hlt, acc ++ [dy], vacc ++ [z], W4, upd_same, (ra4.append (.cons ry .nil)).poke, (((rgc.ext e').ext e3).ext e4).poke, w4.poke, (((ec.trans e').trans e3).trans e4).poke hD, f4.2⟩
  · have e0 : n = ds.length := Nat.le_antisymm hn hge
    subst e0
    rw [List.drop_length] at f
    refine .inl ⟨Y.stop (Hid U Dp) _ W' Hc (fun _ z => .inl z) ec.P wc f.1 (Nat.le_refl _) (Nat.le_refl _), ?_⟩
    have f : mkL own acc W' (Post T U W H Q) := f.2
    cases own with
    | false => exact f _ _ (.lst ⟨offD, nU⟩ hc1 (ra.less fun _ z => .inl z)) wc.unhide (e1.trans ec)
    | true => exact f Dp offD _ _ (.ptr Dp) (wc.open_ hc1 ra nU) ((e1.trans ec).open_ H0)
/-- the targets' places, as the block's names -/
theorem own_slots {N : List Str} {t : Tg} {tg : Expr} {sc : Scope} (h : tgB N sc t tg = true) : (t.own N).map (·.2) = t.slots := by
  have key : ∀ (is : List Nat), (∀ i ∈ is, ∃ x, N[i]? = some x) → (is.filterMap fun i => (N[i]?).map (·, i)).map (·.2) = is := by
    intro is
    induction is with
    | nil => intro _; rfl
    | cons i is ih =>
      intro hi
      obtain ⟨x, hx⟩ := hi i List.mem_cons_self
      rw [List.filterMap_cons, hx]
      show i :: _ = _
      rw [ih fun j hj => hi j (List.mem_cons_of_mem _ hj)]
  refine key t.slots fun i hi => ?_
  cases t with
  | name j =>
    simp only [tgB] at h
    split at h
    · rw [Bool.and_eq_true] at h
      have hi : i = j := List.mem_singleton.mp hi
      rw [hi]
      unfold nmB at h
      split at h
      · next y q => exact ⟨_, q⟩
      · cases h.1
    · cases h
  | tup is =>
    simp only [tgB] at h
    split at h
    · next ts _ _ =>
      have go : ∀ (is : List Nat) (ts : List Expr), locsB N sc is ts = true → ∀ i ∈ is, ∃ x, N[i]? = some x := by
        intro is
        induction is with
        | nil => intro ts _ i hi; cases hi
        | cons j is ih =>
          intro ts h i hi
          unfold locsB at h
          split at h
          · simp only [Bool.and_eq_true] at h
            rcases List.mem_cons.mp hi with e | hi
            · rw [e]
              have h1 := h.1.1
              unfold nmB at h1
              split at h1
              · next y q => exact ⟨_, q⟩
              · cases h1
            · exact ih _ h.2 i hi
          · cases h
      exact go is ts h i hi
    · cases h
theorem nmB_eq' {N : List Str} {i : Nat} {x : Str} (h : nmB N i x = true) : N[i]? = some x := by
  unfold nmB at h
  split at h
  · next y q => rw [q, of_decide_eq_true h]
  · cases h
theorem locB_eq' {sc : Scope} {x : Str} (h : locB sc x = true) : sc.names.lookup x = some .local := by
  unfold locB at h
  split at h
  · next q => exact q
  · cases h
/-- names all local: a target's stores -/
theorem pgs_locs {Y : Cx} (hnd : Y.N.Nodup) : ∀ {is : List Nat} {ts : List Expr}, locsB Y.N Y.env.scope is ts = true → PGs Y ts (gNs is) ∧ (assignEach ts Y.env).length = is.length ∧ (assignEach ts Y.env).findIdx? (·.1) = none
  | [], ts, h => by
    cases ts with
    | nil =>
      refine ⟨⟨fun pins s σ H us vs Q I rv h => ?_⟩, rfl, rfl⟩
      obtain ⟨σ', e, h⟩ := h
      cases rv with
      | nil => cases e; exact pgs_nil.run pins s _ H [] [] Q I .nil ⟨rfl, h⟩
      | cons _ _ => cases e
    | cons _ _ => simp [locsB] at h
  | i :: is, ts, h => by
    unfold locsB at h
    split at h
    · next x p r =>
      simp only [Bool.and_eq_true] at h
      obtain ⟨h1, h2, h3⟩ := pgs_locs hnd h.2
      refine ⟨⟨fun pins s σ H us vs Q I rv hq => ?_⟩, ?_, ?_⟩
      · obtain ⟨σ', e, q⟩ := hq
        cases rv with
        | nil => cases e
        | cons r rr => exact (pgs_cons (pg_name hnd (nmB_eq' h.1.1) (.inl (locB_eq' h.1.2)) (.inr (locB_eq' h.1.2))) h1).run pins s σ H _ _ Q I (.cons r rr) ⟨_, _, rfl, σ', e, q⟩
      · show _ + 1 = _ + 1
        rw [h2]
      · show List.findIdx? _ ((false, _) :: _) = none
        rw [List.findIdx?_cons]
        simp [h3]
    · cases h
theorem tgX_ok {Y : Cx} (hc : Y.calm = true) (hnd : Y.N.Nodup) {t : Tg} {tg : Expr} (h : tgB Y.N Y.env.scope t tg = true) : PG Y tg (gTg Y.K t) := by
  cases t with
  | name i =>
    simp only [tgB] at h
    split at h
    · rw [Bool.and_eq_true] at h
      exact pg_name hnd (nmB_eq' h.1) (.inl (locB_eq' h.2)) (.inr (locB_eq' h.2))
    · cases h
  | tup is =>
    simp only [tgB] at h
    split at h
    · obtain ⟨h1, h2, h3⟩ := pgs_locs hnd h
      exact pg_tup hc h1 h2 h3
    · cases h
theorem s_compR (hu : U.ei = none) (hc : X.calm = true) (hnd : X.N.Nodup) (tk : Takes X Z) (hs : X.stack = X.env :: X.outer) (hf : X.env.frame = some X.env.locals) {own : Bool} {t : Tg} {elt : E} {it : I} {cond : Option E} {tg : Expr} {pos : Pos} {pe pi : Expr} {ifs : List Expr} {scope : Scope} (hset : isSet pi = false)
    (hi : PI X tg pi (pI T U Z G k it)) (ok : BlkOk X.N X.env.scope scope (t.own X.N)) (htg : tgB X.N (relS scope X.env.scope) t tg = true)
    (he : ∀ (U' : Ux), U'.ei = none → U'.pn = [] → ∀ (σ : St) (s : Shared) (H : Hp) (C : Addr) (cl : List (Str × Addr)) (fp : List Addr), PE (blkX X s H scope (compEnvC scope cl C X.env) fp (Zb Z σ)) pe (pE T U' (Zb Z σ) G k elt))
    (ht : ∀ (U' : Ux), U'.ei = none → U'.pn = [] → ∀ (σ : St) (s : Shared) (H : Hp) (C : Addr) (cl : List (Str × Addr)) (fp : List Addr), PTs (blkX X s H scope (compEnvC scope cl C X.env) fp (Zb Z σ)) ifs (tT T U' (Zb Z σ) (wpC G k T.toPm cond))) :
    PE X (.ListComp pe [⟨tg, pi, ifs, 0⟩] scope pos) (pE T U Z G k (.compR own t elt it cond)) :=
  (pe_lcX (own := t.own X.N) (g := gTg X.K t) (tt := fun σ => fun σ' H Q => ∃ U' : Ux, (U'.ei = none ∧ U'.pn = []) ∧ tT T U' (Zb Z σ) (wpC G k T.toPm cond) σ' H Q) (te := fun σ => fun σ' H Q => ∃ U' : Ux, (U'.ei = none ∧ U'.pn = []) ∧ pE T U' (Zb Z σ) G k elt σ' H Q) tk hs hf hc hnd hi ok
    (fun σ s H C cl fp => tgX_ok (Y := blkX X s H scope (compEnvC scope cl C X.env) fp _) hc hnd htg) (fun σ s H C cl fp => ⟨fun pins s' σ' H' Q I ⟨U', ⟨z1, z2⟩, h⟩ => (ht U' z1 z2 σ s H C cl fp).run pins s' σ' H' Q I h⟩)
    (fun σ s H C cl fp => ⟨fun pins s' σ' H' Q I ⟨U', ⟨z1, z2⟩, h⟩ => (he U' z1 z2 σ s H C cl fp).run pins s' σ' H' Q I h⟩) (fun x => by cases pi <;> first | rfl | cases hset)).to fun σ H Q h => by rw [own_slots htg]; exact compR_read hu h
/-- name = [..] on one line -/
theorem s_setCompR (hu : U.ei = none) (hc : X.calm = true) (hnd : X.N.Nodup) (tk : Takes X Z) (hs : X.stack = X.env :: X.outer) (hf : X.env.frame = some X.env.locals) {own : Bool} {j : Nat} {t : Tg} {elt : E} {it : I} {cond : Option E} {z : Str} {tg : Expr} {pz pos spos : Pos} {pe pi : Expr} {ifs : List Expr} {scope : Scope} (hset : isSet pi = false)
    (hz : X.N[j]? = some z) (hzl : X.env.scope.names.lookup z = some .local) (hsw : swapsWith (.ListComp pe [⟨tg, pi, ifs, 0⟩] scope pos) (some (.Name z pz)) spos.line X.env = pure true)
    (hi : PI X tg pi (pI T U Z G k it)) (ok : BlkOk X.N X.env.scope scope (t.own X.N)) (htg : tgB X.N (relS scope X.env.scope) t tg = true)
    (he : ∀ (U' : Ux), U'.ei = none → U'.pn = [] → ∀ (σ : St) (s : Shared) (H : Hp) (C : Addr) (cl : List (Str × Addr)) (fp : List Addr), PE (blkX X s H scope (compEnvC scope cl C X.env) fp (Zb Z σ)) pe (pE T U' (Zb Z σ) G k elt))
    (ht : ∀ (U' : Ux), U'.ei = none → U'.pn = [] → ∀ (σ : St) (s : Shared) (H : Hp) (C : Addr) (cl : List (Str × Addr)) (fp : List Addr), PTs (blkX X s H scope (compEnvC scope cl C X.env) fp (Zb Z σ)) ifs (tT T U' (Zb Z σ) (wpC G k T.toPm cond))) :
    PS X (.Assign [.Name z pz] (.ListComp pe [⟨tg, pi, ifs, 0⟩] scope pos) spos) (tAsg (pE T U Z G k (.compR own t elt it cond)) (gName j)) := by
  have q := ps_setLcX (own := t.own X.N) (g := gTg X.K t) (tt := fun σ => fun σ' H Q => ∃ U' : Ux, (U'.ei = none ∧ U'.pn = []) ∧ tT T U' (Zb Z σ) (wpC G k T.toPm cond) σ' H Q) (te := fun σ => fun σ' H Q => ∃ U' : Ux, (U'.ei = none ∧ U'.pn = []) ∧ pE T U' (Zb Z σ) G k elt σ' H Q) tk hs hf hc hnd hz hzl hsw hi ok
    (fun σ s H C cl fp => tgX_ok (Y := blkX X s H scope (compEnvC scope cl C X.env) fp _) hc hnd htg) (fun σ s H C cl fp => ⟨fun pins s' σ' H' Q I ⟨U', ⟨z1, z2⟩, h⟩ => (ht U' z1 z2 σ s H C cl fp).run pins s' σ' H' Q I h⟩)
    (fun σ s H C cl fp => ⟨fun pins s' σ' H' Q I ⟨U', ⟨z1, z2⟩, h⟩ => (he U' z1 z2 σ s H C cl fp).run pins s' σ' H' Q I h⟩) (fun x => by cases pi <;> first | rfl | cases hset)
  exact ⟨fun pins s σ H D I h => q.run pins s σ H D I (by rw [own_slots htg]; exact compR_read hu h)⟩
end
end Tw
set_option maxHeartbeats 4000000
namespace Tw
open PySem PySem.Spec L2
open PyProof.Rows (b2i)
theorem ExtP.then_ {P : Addr → Prop} {W W1 W2 : Om} {H H1 H2 : Hp} (a : ExtP P W H W1 H1) (b : Ext W1 H1 W2 H2) (hp : ∀ c, P c → H1 c ≠ none) : ExtP P W H W2 H2 :=
  ⟨fun c o h n z => b.keep c o (a.keep c o h n z) (a.off h n), fun c h => by
    cases q : W c with
    | some m => exact .inl (by simp)
    | none =>
      cases r : H c with
      | none => exact .inr rfl
      | some o =>
        exfalso
        have n1 : W1 c = none := a.off r q
        rcases b.new c h with y | y
        · exact y n1
        · by_cases pc : P c
          · exact hp c pc y
          · rw [a.keep c o r q pc] at y; cases y⟩
theorem ExtP.poke {P : Addr → Prop} {W W1 : Om} {H H1 : Hp} {p : Addr} {o : HO} (e : ExtP P W H W1 H1) (hp : P p) : ExtP P W H W1 (upd H1 p o) :=
  ⟨fun b o' h n z => by rw [upd_ne (fun q => z (by rw [q]; exact hp))]; exact e.keep b o' h n z, e.new⟩
theorem Ext.glue {W W1 W2 : Om} {H H1 H2 : Hp} {p : Addr} (hp : H p = none) (a : Ext W H W1 H1) (b : ExtP (· = p) W1 H1 W2 H2) : Ext W H W2 H2 :=
  ⟨fun c o h n => b.keep c o (a.keep c o h n) (a.off h n) (fun z => by rw [z, hp] at h; cases h), fun c h => by
    cases q : W c with
    | some m => exact .inl (by simp)
    | none =>
      cases r : H c with
      | none => exact .inr rfl
      | some o =>
        exfalso
        rcases b.new c h with y | y
        · exact y (a.off r q)
        · rw [a.keep c o r q] at y; cases y⟩
section
variable {T : Tb} {U : Ux} {X : Cx} {G : Gs} {k : Nat} {Z : WX}
theorem set2 {α : Type} {l : List α} {i j : Nat} {a b : α} (h : i ≠ j) : ((l.set j a).set i b).set j a = (l.set j a).set i b := by
  rw [List.set_comm _ _ h, List.set_set]
theorem comp2_read (hu : U.ei = none) {own : Bool} {i j : Nat} {elt : E} {it it1 : I} {σ : St} {H : Hp} {Q : VK} (hij : i ≠ j) (hh : pE T U Z G k (.comp2 own i j elt it it1) σ H Q) :
    tLc2 (pI T U Z G k it) (gName i) tYes (fun σ H R => ∃ U' : Ux, (U'.ei = none ∧ U'.pn = []) ∧ pI T U' Zf G k it1 σ H R) (gName j) tYes (fun σ H Q => ∃ U' : Ux, (U'.ei = none ∧ U'.pn = []) ∧ pE T U' Zf G k elt σ H Q) [i, j] [j] σ H Q := by
  obtain ⟨g, W, rg, hw, h⟩ := hh
  have rg0 := (RepG.zero hu).mp rg
  simp only [wpE] at h
  refine ⟨g, W, rg, hw, moI it (fun wt ds W1 f J H1 w1 e1 Y => ?_) (fun _ _ z => z) h⟩
  intro Dp hD
  have x0 := Ext.fresh (o := .lst []) hD w1
  have nU : ¬ U.hid Dp := x0.2.2
  have H0 : W Dp = none → H Dp = none := fun n => by
    cases q : H Dp with
    | none => rfl
    | some o =>
      have := e1.keep Dp o q n
      rw [hD] at this; cases this
  let st : D → List D → Om → (List D → Om → Prop) → Prop := fun d acc W2 R => wpI G k T.toPm it1 ((g.set j none).set i (some d)) W2 (fun w1 ds1 W3 => compL w1 (fun e W4 R1 =>
      wpE G k T.toPm elt (((g.set j none).set i (some d)).set j (some e)) W4 (fun y W5 => R1 (some y) W5) (fun _ _ => False)) ds1 acc W3 R) (fun _ _ => False)
  let inv : Nat → Hp → Prop := fun n Hc => n ≤ ds.length ∧ ∃ acc vacc W', Hc Dp = some (.lst vacc) ∧ Reps T (Hid U Dp) W' Hc acc vacc ∧ RepG0 T (Hid U Dp) W' Hc ((g.set j none).set i none) (wipe σ [i, j]) ∧ RepW T (Hid U Dp) W' Hc ∧ Ext W1 H1 W' Hc ∧
    comp2L wt st (ds.drop n) acc W' fun ys W2 => mkL own ys W2 (Post T U W H Q)
  refine ⟨fun n m Hc => m = ds.length - n ∧ inv n Hc, ⟨_, rfl, Nat.zero_le _, [], [], W1, upd_same, .nil, ?_, w1.hideNew hD, x0.1, f⟩, ?_⟩
  · exact ((((rg0.ext e1).hide hD).ext x0.1).wipe1 j none).wipe1 i none
  rintro n m Hc ⟨rfl, hn, acc, vacc, W', hc1, ra, rgc, wc, ec, f⟩
  have offD : W' Dp = none := wc.offU (.inr rfl)
  rcases Nat.lt_or_ge n ds.length with hlt | hge
  · have hg0 : ds[n]? = some ds[n] := List.getElem?_eq_getElem hlt
    have hd0 : ds.drop n = ds[n] :: ds.drop (n + 1) := List.drop_eq_getElem_cons hlt
    generalize ds[n] = d0 at hg0 hd0
    have hdrop : ds.drop n = d0 :: ds.drop (n + 1) := hd0
    rw [hdrop] at f
    refine .inr ⟨Y.go (Hid U Dp) n W' Hc (fun _ z => .inl z) ec.P wc f.1 hlt, fun Hn => inv (n + 1) Hn, fun Hn z => ⟨_, by omega, rfl, z⟩, fun x H' yl => ?_⟩
    obtain ⟨d, hd, rx, w', e'⟩ := Y.yld (Hid U Dp) n W' Hc x H' (fun _ z => .inl z) (fun a z => z.elim .inl fun e => .inr (by rw [e]; exact hD)) ec.P wc f.1 hlt yl
    replace f := f.2
    obtain rfl : d = d0 := by rw [hg0] at hd; exact (Option.some.inj hd).symm
    have f : wpI G k T.toPm it1 ((g.set j none).set i (some d)) W' (fun w1 ds1 W3 => compL w1 (fun e W4 R1 =>
      wpE G k T.toPm elt (((g.set j none).set i (some d)).set j (some e)) W4 (fun y W5 => R1 (some y) W5) (fun _ _ => False)) ds1 acc W3 fun acc' W'' => comp2L wt st (ds.drop (n + 1)) acc' W'' fun ys W2 => mkL own ys W2 (Post T U W H Q)) (fun _ _ => False) := f
    have sw : wipe σ [i, j] = (σ.set j none).set i none := rfl
    have rg2 : RepG0 T (Hid U Dp) W' H' ((g.set j none).set i (some d)) ((wipe σ [i, j]).set i (some x)) := by
      have z := RepG0.set rx i (rgc.ext e')
      rw [List.set_set] at z
      exact z
    have s2 : (wipe σ [i, j]).set i (some x) = (σ.set j none).set i (some x) := by rw [sw, List.set_set]
    have s3 : ((wipe σ [i, j]).set i (some x)).set j none = (wipe σ [i, j]).set i (some x) := by rw [s2]; exact set2 hij
    show (wipe ((wipe σ [i, j]).set i (some x)) [i, j] = wipe σ [i, j]) ∧ _
    refine ⟨by show (((wipe σ [i, j]).set i (some x)).set j none).set i none = _; rw [s3, s2, List.set_set, sw], ?_⟩
    dsimp only [tYes]
    rw [if_pos (rfl : true = true)]
    have hD' : H' Dp = some (.lst vacc) := e'.keep _ _ hc1 offD
    refine ⟨HidX U Dp, ⟨rfl, rfl⟩, (g.set j none).set i (some d), W', rg2, w', moI it1 (fun wt1 ds1 W3 f1 J1 H4 w3 e3 Y1 => ?_) (fun _ _ z => z.elim) f⟩
    have hD4 : H4 Dp = some (.lst vacc) := e3.keep _ _ hD' (w'.offU (.inr rfl))
    let inv1 : Nat → Hp → Prop := fun m Hc => m ≤ ds1.length ∧ ∃ acc vacc W'', Hc Dp = some (.lst vacc) ∧ Reps T (Hid U Dp) W'' Hc acc vacc ∧ RepG0 T (Hid U Dp) W'' Hc ((g.set j none).set i (some d)) ((wipe σ [i, j]).set i (some x)) ∧ RepW T (Hid U Dp) W'' Hc ∧ ExtP (· = Dp) W3 H4 W'' Hc ∧
      compL wt1 (fun e W4 R1 => wpE G k T.toPm elt (((g.set j none).set i (some d)).set j (some e)) W4 (fun y W5 => R1 (some y) W5) (fun _ _ => False)) (ds1.drop m) acc W'' fun acc' W'' => comp2L wt st (ds.drop (n + 1)) acc' W'' fun ys W2 => mkL own ys W2 (Post T U W H Q)
    refine ⟨fun m q Hc => q = ds1.length - m ∧ inv1 m Hc, ⟨_, rfl, Nat.zero_le _, acc, vacc, W3, hD4, (ra.ext e').ext e3, rg2.ext e3, w3, Ext.refl.P, f1⟩, ?_⟩
    rintro m q Hc1 ⟨rfl, hm, acc1, vacc1, W4, hc4, ra4, rgc4, wc4, ec4, f4⟩
    have off4 : W4 Dp = none := wc4.offU (.inr rfl)
    rcases Nat.lt_or_ge m ds1.length with hlt1 | hge1
    · have hg1 : ds1[m]? = some ds1[m] := List.getElem?_eq_getElem hlt1
      have hd1 : ds1.drop m = ds1[m] :: ds1.drop (m + 1) := List.drop_eq_getElem_cons hlt1
      generalize ds1[m] = d1 at hg1 hd1
      have hdrop1 : ds1.drop m = d1 :: ds1.drop (m + 1) := hd1
      rw [hdrop1] at f4
      refine .inr ⟨Y1.go (Hid U Dp) m W4 Hc1 (fun _ z => z) (ec4.mono fun _ z => .inr z) wc4 f4.1 hlt1, fun Hn => inv1 (m + 1) Hn, fun Hn z => ⟨_, by omega, rfl, z⟩, fun x1 H5 yl1 => ?_⟩
      obtain ⟨e, he, rx1, w5, e5⟩ := Y1.yld (Hid U Dp) m W4 Hc1 x1 H5 (fun _ z => z) (fun a z => .inl z) (ec4.mono fun _ z => .inr z) wc4 f4.1 hlt1 yl1
      replace f4 := f4.2
      obtain rfl : e = d1 := by rw [hg1] at he; exact (Option.some.inj he).symm
      have f5 : wpE G k T.toPm elt (((g.set j none).set i (some d)).set j (some e)) W4 (fun y W5 => acc1.length < sizeLine ∧ compL wt1 (fun e W4 R1 => wpE G k T.toPm elt (((g.set j none).set i (some d)).set j (some e)) W4 (fun y W5 => R1 (some y) W5) (fun _ _ => False)) (ds1.drop (m + 1)) (acc1 ++ [y]) W5 fun acc' W'' => comp2L wt st (ds.drop (n + 1)) acc' W'' fun ys W2 => mkL own ys W2 (Post T U W H Q)) (fun _ _ => False) := f4
      have rg5 : RepG0 T (Hid U Dp) W4 H5 (((g.set j none).set i (some d)).set j (some e)) ((wipe ((wipe σ [i, j]).set i (some x)) [j]).set j (some x1)) := by
        have z := RepG0.set rx1 j (rgc4.ext e5)
        show RepG0 T (Hid U Dp) W4 H5 _ ((((wipe σ [i, j]).set i (some x)).set j none).set j (some x1))
        rw [List.set_set]
        exact z
      show (wipe ((wipe ((wipe σ [i, j]).set i (some x)) [j]).set j (some x1)) [j] = wipe ((wipe σ [i, j]).set i (some x)) [j]) ∧ _
      refine ⟨by show ((((wipe σ [i, j]).set i (some x)).set j none).set j (some x1)).set j none = ((wipe σ [i, j]).set i (some x)).set j none; rw [List.set_set, List.set_set], ?_⟩
      try dsimp only [tYes]
      rw [if_pos (rfl : true = true)]
      have hD5 : H5 Dp = some (.lst vacc1) := e5.keep _ _ hc4 off4
      have ra5 := ra4.ext e5
      refine ⟨HidX U Dp, ⟨rfl, rfl⟩, tE_mono (moE elt) (fun z H6 ⟨dy, W6, ry, rg6, w6, e6, f6⟩ => ?_) (one (Z := Zf) (moE elt) rg5 w5 (moE elt (fun _ _ z => z) (fun _ _ z => z.elim) f5))⟩
      have hD6 : H6 Dp = some (.lst vacc1) := e6.keep _ _ hD5 (w5.offU (.inr rfl))
      have ra6 := ra5.ext e6
      refine ⟨vacc1, hD6, by rw [← ra6.length]; exact f6.1, hlt1, acc1 ++ [dy], vacc1 ++ [z], W6, upd_same, (ra6.append (.cons ry .nil)).poke, ((rgc4.ext e5).ext e6).poke, w6.poke, ((ec4.then_ e5 fun c z => by rw [z, hc4]; simp).then_ e6 fun c z => by rw [z, hD5]; simp).poke rfl, f6.2⟩
    · have e0 : m = ds1.length := Nat.le_antisymm hm hge1
      subst e0
      rw [List.drop_length] at f4
      refine .inl ⟨Y1.stop (Hid U Dp) _ W4 Hc1 (fun _ z => z) (ec4.mono fun _ z => .inr z) wc4 f4.1 (Nat.le_refl _) (Nat.le_refl _), ?_⟩
      refine ⟨hlt, acc1, vacc1, W4, hc4, ra4, ?_, wc4, ?_, f4.2⟩
      · have z := rgc4.wipe1 i none
        rw [List.set_set] at z
        rw [List.set_set, sw, List.set_set, ← sw] at z
        exact z
      · exact ((ec.trans e').trans e3).glue hD ec4
  · have e0 : n = ds.length := Nat.le_antisymm hn hge
    subst e0
    rw [List.drop_length] at f
    refine .inl ⟨Y.stop (Hid U Dp) _ W' Hc (fun _ z => .inl z) ec.P wc f.1 (Nat.le_refl _) (Nat.le_refl _), ?_⟩
    have f : mkL own acc W' (Post T U W H Q) := f.2
    cases own with
    | false => exact f _ _ (.lst ⟨offD, nU⟩ hc1 (ra.less fun _ z => .inl z)) wc.unhide (e1.trans ec)
    | true => exact f Dp offD _ _ (.ptr Dp) (wc.open_ hc1 ra nU) ((e1.trans ec).open_ H0)
theorem s_comp2 (hu : U.ei = none) (hc : X.calm = true) (hnd : X.N.Nodup) {own : Bool} {i j : Nat} (hij : i ≠ j) {elt : E} {it it1 : I} {y z : Str} {py pz pos : Pos} {pe pi pi1 : Expr} {scope : Scope} (hset : isSet pi = false) (hset1 : isSet pi1 = false)
    (hi : PI X (.Name y py) pi (pI T U Z G k it)) (ok : BlkOk X.N X.env.scope scope [(y, i), (z, j)]) (hN : X.N[i]? = some y) (hN1 : X.N[j]? = some z) (hloc : (relS scope X.env.scope).names.lookup y = some .local) (hloc1 : (relS scope X.env.scope).names.lookup z = some .local)
    (hi1 : ∀ (U' : Ux), U'.ei = none → U'.pn = [] → ∀ (s : Shared) (H : Hp) (C : Addr) (cl : List (Str × Addr)) (fp : List Addr), PI (X.blk s H scope (compEnvC scope cl C X.env) fp) (.Name z pz) pi1 (pI T U' Zf G k it1))
    (he : ∀ (U' : Ux), U'.ei = none → U'.pn = [] → ∀ (s : Shared) (H : Hp) (C : Addr) (cl : List (Str × Addr)) (fp : List Addr), PE (X.blk s H scope (compEnvC scope cl C X.env) fp) pe (pE T U' Zf G k elt)) :
    PE X (.ListComp pe [⟨.Name y py, pi, [], 0⟩, ⟨.Name z pz, pi1, [], 0⟩] scope pos) (pE T U Z G k (.comp2 own i j elt it it1)) :=
  (pe_lc2 (own := [(y, i), (z, j)]) (vs1 := [j]) (g := gName i) (tt := tYes) (g1 := gName j) (tt1 := tYes) (wi1 := fun σ H R => ∃ U' : Ux, (U'.ei = none ∧ U'.pn = []) ∧ pI T U' Zf G k it1 σ H R) (te := fun σ H Q => ∃ U' : Ux, (U'.ei = none ∧ U'.pn = []) ∧ pE T U' Zf G k elt σ H Q) hc hnd hi ok (fun a h => by simp at h; subst h; simp)
    (fun s H C cl fp => pg_name hnd hN (.inl hloc) (.inr hloc)) (fun s H C cl fp => pts_nil)
    (fun s H C cl fp => ⟨fun pins s' σ H' R I ⟨U', ⟨z1, z2⟩, h⟩ => (hi1 U' z1 z2 s H C cl fp).run pins s' σ H' R I h⟩)
    (fun s H C cl fp => pg_name hnd hN1 (.inl hloc1) (.inr hloc1)) (fun s H C cl fp => pts_nil)
    (fun s H C cl fp => ⟨fun pins s' σ H' Q I ⟨U', ⟨z1, z2⟩, h⟩ => (he U' z1 z2 s H C cl fp).run pins s' σ H' Q I h⟩) (fun x => by cases pi <;> first | rfl | cases hset) (fun env x => by cases pi1 <;> first | rfl | cases hset1)).to fun σ H Q h => comp2_read hu hij h
/-- name = [..] on one line -/
theorem s_setComp2 (hu : U.ei = none) (hc : X.calm = true) (hnd : X.N.Nodup) {own : Bool} {i j l : Nat} (hij : i ≠ j) {elt : E} {it it1 : I} {y z w : Str} {py pz pw pos spos : Pos} {pe pi pi1 : Expr} {scope : Scope} (hset : isSet pi = false) (hset1 : isSet pi1 = false)
    (hw : X.N[l]? = some w) (hwl : X.env.scope.names.lookup w = some .local) (hsw : swapsWith (.ListComp pe [⟨.Name y py, pi, [], 0⟩, ⟨.Name z pz, pi1, [], 0⟩] scope pos) (some (.Name w pw)) spos.line X.env = pure true)
    (hi : PI X (.Name y py) pi (pI T U Z G k it)) (ok : BlkOk X.N X.env.scope scope [(y, i), (z, j)]) (hN : X.N[i]? = some y) (hN1 : X.N[j]? = some z) (hloc : (relS scope X.env.scope).names.lookup y = some .local) (hloc1 : (relS scope X.env.scope).names.lookup z = some .local)
    (hi1 : ∀ (U' : Ux), U'.ei = none → U'.pn = [] → ∀ (s : Shared) (H : Hp) (C : Addr) (cl : List (Str × Addr)) (fp : List Addr), PI (X.blk s H scope (compEnvC scope cl C X.env) fp) (.Name z pz) pi1 (pI T U' Zf G k it1))
    (he : ∀ (U' : Ux), U'.ei = none → U'.pn = [] → ∀ (s : Shared) (H : Hp) (C : Addr) (cl : List (Str × Addr)) (fp : List Addr), PE (X.blk s H scope (compEnvC scope cl C X.env) fp) pe (pE T U' Zf G k elt)) :
    PS X (.Assign [.Name w pw] (.ListComp pe [⟨.Name y py, pi, [], 0⟩, ⟨.Name z pz, pi1, [], 0⟩] scope pos) spos) (tAsg (pE T U Z G k (.comp2 own i j elt it it1)) (gName l)) := by
  have q := ps_setLc2 (own := [(y, i), (z, j)]) (vs1 := [j]) (g := gName i) (tt := tYes) (g1 := gName j) (tt1 := tYes) (wi1 := fun σ H R => ∃ U' : Ux, (U'.ei = none ∧ U'.pn = []) ∧ pI T U' Zf G k it1 σ H R) (te := fun σ H Q => ∃ U' : Ux, (U'.ei = none ∧ U'.pn = []) ∧ pE T U' Zf G k elt σ H Q) hc hnd hw hwl hsw hi ok (fun a h => by simp at h; subst h; simp)
    (fun s H C cl fp => pg_name hnd hN (.inl hloc) (.inr hloc)) (fun s H C cl fp => pts_nil)
    (fun s H C cl fp => ⟨fun pins s' σ H' R I ⟨U', ⟨z1, z2⟩, h⟩ => (hi1 U' z1 z2 s H C cl fp).run pins s' σ H' R I h⟩)
    (fun s H C cl fp => pg_name hnd hN1 (.inl hloc1) (.inr hloc1)) (fun s H C cl fp => pts_nil)
    (fun s H C cl fp => ⟨fun pins s' σ H' Q I ⟨U', ⟨z1, z2⟩, h⟩ => (he U' z1 z2 s H C cl fp).run pins s' σ H' Q I h⟩) (fun x => by cases pi <;> first | rfl | cases hset) (fun env x => by cases pi1 <;> first | rfl | cases hset1)
  exact ⟨fun pins s σ H D I h => q.run pins s σ H D I (comp2_read hu hij h)⟩
end
end Tw
set_option maxHeartbeats 4000000
namespace Tw
open PySem PySem.Spec PyProof.Rows L2 HotX
section
variable {prog : Program} {w : World} {A : Around} {E : Value → Shared → Prop} {s : Shared}
theorem pyNext_list_end_hot {it l x1 : Addr} {i : Nat} {items : Array Value} {Q : Option Value → Shared → Prop} (hot : HotAt A x1 s.heap) (hne : x1 ≠ it)
    (hit : s.heap.IsListIter it l i) (hl : s.heap.IsList l items) (hx : items[i]? = none)
    (hQ : ∀ h', Heap.ExtBut it s.heap h' → Q none { s with heap := h' }) : wpAny (model prog w) A (pyNext (.ref it)) Q E s := by
  obtain ⟨hh, o1, vs1, h1, d1, c1⟩ := hot
  obtain ⟨o, ho, hc, hd⟩ := id hit
  obtain ⟨ol, hol, _, nl, hdl⟩ := hl
  unfold pyNext
  refine wpAny_bind (wpAny_attempt (wpAny_callSpecial?_slot (name := Str.ofString "__next__") hit.typeIs slot_listiter_next
    (wpAny_call_entry slot_listiter_next hit.typeIs entry_listiter_next ?_ (args_listiter_next _))))
  show wpAny _ _ (field (.ref it) 0 >>= _) _ _ s
  refine wpAny_bind (wpAny_field ho hd (x := .ref l) rfl ?_)
  show wpAny _ _ (if (Value.ref l == Value.none) = true then _ else _) _ _ s
  rw [if_neg (show ¬ ((Value.ref l == Value.none) = true) from Bool.false_ne_true)]
  show wpAny _ _ (field (.ref it) 1 >>= _) _ _ s
  refine wpAny_bind (wpAny_field ho hd (x := .int i 0) rfl ?_)
  show wpAny _ _ (seqItems? (.ref l) >>= _) _ _ s
  refine wpAny_bind (wpAny_seqItems hol hdl ?_)
  simp only [Int.toNat_natCast, hx]
  refine wpAny_bind (wpAny_rule (wpAny_bind (wpAny_setField ho hd (by simp) ?_)))
  show wpAny _ _ (newExc (.type "StopIteration") [] >>= _) _ _ _
  refine wpAny_bind ?_
  simp only [newExc, newTuple]
  refine wpAny_bind (wpAny_newObj_type ?_ (by size_fits))
  refine wpAny_bind (m := firstArgMember _ _) (wpAny_of_eq (a := Value.none) (by first | rfl | (simp only [firstArgMember]; rfl)) ?_)
  refine wpAny_newObj_type ?_ (by size_fits)
  have g1 : (s.heap.update it (Obj.mapFields (·.setIfInBounds 0 .none))).get? x1 = some o1 := by
    rw [Heap.get?_update_other _ _ (Ne.symm hne)]; exact h1
  refine raiseNew_hot ⟨hh, o1, vs1, Heap.get?_push_of_some _ (Heap.get?_push_of_some _ g1), d1, c1⟩ (Nat.ne_of_lt (Heap.lt_size (Heap.get?_push_of_some _ g1))) (Heap.get?_push_size _ rfl) rfl (by first | (simp; done) | (simp; omega) | (simp only [Array.size_append]; simp; omega)) ?_
  refine wpAny_bind (wpAny_isInstance (T := "StopIteration") (b := true) ⟨_, Heap.get?_update_self _ (Heap.get?_push_size _ rfl) rfl, rfl⟩ isSubtype_stop ?_)
  refine wpAny_pure (hQ _ fun b o' hb e => ?_)
  have g2 : (s.heap.update it (Obj.mapFields (·.setIfInBounds 0 .none))).get? b = some o' := by
    rw [Heap.get?_update_other _ _ (Ne.symm hb)]; exact e
  rw [Heap.get?_update_other _ _ (Nat.ne_of_gt (Heap.lt_size (Heap.get?_push_of_some _ g2)))]
  exact Heap.get?_push_of_some _ (Heap.get?_push_of_some _ g2)
end
/-- a walk whose turns do not ask for calm; at its end the exception that is handled is known -/
structure TurnL (P : Program) (w : World) (K : PySem.W.Frag) (tg : Expr) (J : It) (fp : List Addr) (it : Addr) (tn : Nat → Heap → Prop) : Prop where
  mem : it ∈ fp
  obj : ∀ i h, tn i h → ∀ b ∈ fp, ∃ o, h.get? b = some o ∧ ∀ v, o.data ≠ .cell v
  keep : ∀ i h h', tn i h → (∀ b ∈ fp, ∀ o, h.get? b = some o → h'.get? b = some o) → tn i h'
  item : ∀ (X : Cx), X.prog = P → X.w = w → X.K = K → ∀ (i : Nat) (pins : List (Addr × Obj)) (s : Shared) (σ : L2.St) (H : Hp) (E : Value → Shared → Prop), Inv X pins σ H s → (∀ b ∈ fp, FpOk X pins H b) → tn i s.heap → J.go i H →
    wpAny (model P w) X.A (pyNext (.ref it)) (fun r s1 => ∃ u, r = some u ∧
      wpAny (model P w) X.A (letOwnedTupleGo tg (.ref it) u) (fun _ s2 => ∃ x H', Inv X pins σ H' s2 ∧ RelV x u ∧ J.yld i H x H' ∧ tn (i + 1) s2.heap ∧ ∀ b ∈ fp, H' b = none) E s1) E s
  done : ∀ (X : Cx), X.prog = P → X.w = w → X.K = K → ∀ {s : Shared}, (∃ x1, HotAt X.A x1 s.heap ∧ x1 ≠ it) → ∀ (i : Nat) (pins : List (Addr × Obj)) (s' : Shared) (σ : L2.St) (H : Hp) (E : Value → Shared → Prop), s' = s → Inv X pins σ H s' → (∀ b ∈ fp, FpOk X pins H b) → tn i s'.heap → J.stop i H →
    wpAny (model P w) X.A (pyNext (.ref it)) (fun r s1 => r = none ∧ Inv X pins σ H s1) E s'
  self : ∀ (A : Around) (i : Nat) (s : Shared) (Q : Value → Shared → Prop) (E : Value → Shared → Prop), tn i s.heap → Q (.ref it) s → wpAny (model P w) A (pyIter (.ref it)) Q E s
theorem turn_listL {P : Program} {w : World} {K : PySem.W.Frag} {tg : Expr} (a it : Addr) : TurnL P w K tg (Itl K a) [it] it (fun i h => h.IsListIter it a i) where
  mem := by simp
  obj := fun i h st b hb => by
    have e : b = it := by simpa using hb
    subst e
    obtain ⟨o, e, c, d⟩ := st
    exact ⟨o, e, fun v z => by rw [d] at z; cases z⟩
  keep := fun i h h' st k => st.at fun o e => k it (by simp) o e
  item := by
    intro X hP hw hK i pins s σ H E I hf st hg
    subst hP hw hK
    obtain ⟨xs, x, hq, hx⟩ := hg
    obtain ⟨its, rv, p, hz⟩ := I.list hq
    obtain ⟨u, hu, ru⟩ := rv.get hx
    obtain ⟨f0, f1, f2, f3, f4, f5⟩ := hf it (by simp)
    refine wpAny_pyNext_list_item st p.isList (x := u) (by simpa using hu) fun h' st' sb => ?_
    have I1 : Inv X pins σ H { s with heap := h' } := I.turned (t' := s.toks) (fun b o hb e => (sb.2 b hb).trans e) f0 f1 f3 f4 f5
    obtain ⟨o, e, c, d⟩ := id st'
    exact ⟨u, rfl, go_of (s := { s with heap := h' }) e c d (by decide) ⟨x, H, I1, ru, ⟨rfl, fun ys hy => by rw [I.list_inj hy hq]; exact hx⟩, st', fun b hb => (hf b hb).1⟩⟩
  done := by
    intro X hP hw hK s hot i pins s' σ H E es I hf st hg
    subst hP hw hK es
    obtain ⟨x1, hot, ne⟩ := hot
    obtain ⟨xs, hq, hx⟩ := hg
    obtain ⟨its, rv, p, hz⟩ := I.list hq
    obtain ⟨f0, f1, f2, f3, f4, f5⟩ := hf it (by simp)
    have hl := rv.length
    exact pyNext_list_end_hot hot ne st p.isList (by simp; omega) fun h' eb => ⟨rfl, I.turned (t' := s'.toks) (fun b o hb e => eb b o hb e) f0 f1 f3 f4 f5⟩
  self := fun _ _ _ _ _ st h => wpAny_pyIter_listiter st h
def PIEL (X : Cx) (pins : List (Addr × Obj)) (σ : L2.St) (tg : Expr) (R : It → Hp → Prop) (itv : Value) (s2 : Shared) : Prop :=
  ∃ (it : Addr) (fp : List Addr) (tn : Nat → Heap → Prop) (J : It) (H' : Hp), itv = .ref it ∧ Inv X pins σ H' s2 ∧ TurnL X.prog X.w X.K tg J fp it tn ∧ tn 0 s2.heap ∧ (∀ b ∈ fp, FpOk X pins H' b) ∧ R J H'
structure PIL (X : Cx) (tg iter : Expr) (wi : TI) : Prop where
  run : ∀ (pins : List (Addr × Obj)) (s : Shared) (σ : L2.St) (H : Hp) (R : It → Hp → Prop), Inv X pins σ H s → wi σ H R →
    wpAny (model X.prog X.w) X.A (eval iter X.env) (fun v s1 => wpAny (model X.prog X.w) X.A (pyIter v) (PIEL X pins σ tg R) X.xe s1) X.xe s
/-- a comprehension's block that keeps the exception that is handled -/
abbrev blkH (X : Cx) (s : Shared) (H : Hp) (scope : Scope) (cenv : Env) (fp : List Addr) (p : Addr × Obj) : Cx := { X.blk s H scope cenv fp with pn := [p] }
section
variable {X : Cx}
theorem invH {pins : List (Addr × Obj)} {σ σ3 : L2.St} {H : Hp} {s s3 : Shared} {scope : Scope} {ce : Env} {fp : List Addr} {p : Addr × Obj} (I : Inv (X.blk s3 H scope ce fp) [] σ H s) (I3 : Inv X pins σ3 H s3) (hp : p ∈ X.pn) (f3 : ∀ b ∈ fp, FpOk X pins H b) (cL : ce.locals = s3.heap.objs.size) (kp : ∀ b o, s3.heap.get? b = some o → s.heap.get? b = some o) : Inv (blkH X s3 H scope ce fp p) [] σ H s := by
  obtain ⟨g1, g2, g3, g4, g5⟩ := I3.pin p (List.mem_append_left _ hp)
  have nfs : p.1 ∉ frs X.stack := fun z => by
    rcases I3.ok.stk with q | ⟨q, qf⟩
    · rw [q] at z; exact g4 z
    · rw [q] at z
      unfold frs at z
      rw [List.filterMap_cons, qf] at z
      rcases List.mem_cons.mp z with y | y
      · exact g3 y
      · exact g4 y
  obtain ⟨h1, h2, h3, h4, h5, h6, h7, h8, h9, h10, h11⟩ := I
  obtain ⟨k1, k2, k3, k4, k5, k6, k7, k8, k9, k10, k11, k12, k13, k14, k15, k16, k17, k18⟩ := h1
  refine ⟨⟨k1, k2, k3, k4, k5, k6, k7, k8, k9, k10, k11, k12, k13, k14, k15, k16, k17, k18⟩, h2, h3, h4, h5, h6, h7, h8, fun p' hp' => ?_, h10, h11⟩
  have e : p' = p := by simpa using (show p' ∈ [p] ++ [] from hp')
  rw [e]
  exact ⟨kp _ _ g1, g2, fun z => by
    have z : p.1 = ce.locals := z
    rw [cL] at z
    exact absurd (Heap.lt_size g1) (by rw [z]; exact Nat.lt_irrefl _), nfs, g5⟩
theorem lc_coreL {pins : List (Addr × Obj)} {s : Shared} {σ : L2.St} {H : Hp} {Q : VK} {elt tg iter : Expr} {ifs : List Expr} {scope : Scope} {own : List (Str × Nat)} {pos pos' : Pos} {wi : TI} {g : TG} {tt : TT} {te : TE} {use : Option (Value → Sem Unit)} {Qf : Value → Shared → Prop}
    (hc : L2H.HotC X) (hN : X.N.Nodup) (I : Inv X pins σ H s) (hi : PIL X tg iter wi) (ok : BlkOk X.N X.env.scope scope own)
    (hg : ∀ (p : Addr × Obj), L2H.Hot1 X.A p → ∀ (s : Shared) (H : Hp) (C : Addr) (cl : List (Str × Addr)) (fp : List Addr), PG (blkH X s H scope (compEnvC scope cl C X.env) fp p) tg g) (ht : ∀ (p : Addr × Obj), L2H.Hot1 X.A p → ∀ (s : Shared) (H : Hp) (C : Addr) (cl : List (Str × Addr)) (fp : List Addr), PTs (blkH X s H scope (compEnvC scope cl C X.env) fp p) ifs tt)
    (he : ∀ (p : Addr × Obj), L2H.Hot1 X.A p → ∀ (s : Shared) (H : Hp) (C : Addr) (cl : List (Str × Addr)) (fp : List Addr), PE (blkH X s H scope (compEnvC scope cl C X.env) fp p) elt te) (hs : ∀ x, foldedSetIterable iter X.env x = pure x)
    (h : tLc wi g tt te (own.map (·.2)) σ H Q)
    (hRR : ∀ D C s' m H', Inv X pins σ H' s' → Q (.ref D) H' → s'.heap.Ns C m → FpOk X pins H' C → compPost (model X.prog X.w) X.A X.xe use Qf (.ref D) C (.ok .next) s') :
    wpAny (model X.prog X.w) X.A (comprehension (.ListComp elt [⟨tg, iter, ifs, 0⟩] scope pos) scope X.env pos' (newList []) false (eval iter X.env) use) Qf X.xe s := by
  obtain ⟨p, hp1, hp⟩ := hc
  have hfree : ∀ y ∈ scope.names, y.2 = .free → ∃ c, X.env.cells.lookup y.1 = some c := fun y hy e => by
    rcases ok.free y hy e with k | k
    · exact I.ok.has _ (.inl k)
    · exact I.ok.has _ (.inr k)
  refine wpAny_comprehension_free (use := use) rfl hs (closure_ok hfree) ok.kind (fun y hy e => by rw [ok.uniq y hy, e])
    (thn (hi.run pins s σ H _ I h) fun xv s1 hx => thn hx fun itv s2 h2 => ?_)
  obtain ⟨it, fp, tn, J, H2, e, I2, T, st2, f2, q⟩ := h2
  subst e
  refine wpAny_newObj_type (newEnv_comp ?_) (by show 0 ≤ sizeLine; decide)
  generalize hD : s2.heap.objs.size = D
  have hDn : H2 D = none := I2.hok.fresh (Nat.le_of_eq hD)
  obtain ⟨W, ⟨m0, w0⟩, turn⟩ := q D hDn
  -- the new list
  generalize hs3 : ({ s2 with heap := s2.heap.push { cls := .type "list", data := .seq ([] : List Value).toArray } } : Shared) = s3
  have I3 : Inv X pins σ (upd H2 D (.lst [])) s3 := by
    rw [← hs3]
    refine I2.laid (t' := s2.toks) (fun b o e => Heap.get?_push_of_some _ e) (Nat.le_of_eq hD) ⟨Nat.zero_le _, [], 0, .nil, ?_⟩
    rw [← hD]
    exact Heap.get?_push_size _ rfl
  have h3 : s3.heap = s2.heap.push { cls := .type "list", data := .seq ([] : List Value).toArray } := by rw [← hs3]
  have sz : ∀ b ∈ fp, b < s2.heap.objs.size := fun b hb => by
    obtain ⟨o, e, _⟩ := T.obj _ _ st2 b hb
    exact Heap.lt_size e
  have f3 : ∀ b ∈ fp, FpOk X pins (upd H2 D (.lst [])) b ∧ b < s3.heap.objs.size := fun b hb => by
    have hlt := sz b hb
    refine ⟨⟨?_, (f2 b hb).2⟩, by rw [h3, Heap.size_push]; exact Nat.lt_succ_of_lt hlt⟩
    rw [upd_ne (by rw [← hD]; exact Nat.ne_of_lt hlt)]
    exact (f2 b hb).1
  have st3 : tn 0 s3.heap := T.keep _ _ _ st2 fun b _ o e => by rw [h3]; exact Heap.get?_push_of_some _ e
  have I4 := invH (block_start I3 ok hN f3) I3 hp (fun b hb => (f3 b hb).1) rfl (fun b o e => pushCells_keeps _ _ _ _ (Heap.get?_push_of_some _ e))
  have pg := hg p hp1 s3 (upd H2 D (.lst [])) s3.heap.objs.size (cellsFrom (s3.heap.objs.size + 1) scope.names (cloFrom X.env.cells scope.names [])) fp
  have pt := ht p hp1 s3 (upd H2 D (.lst [])) s3.heap.objs.size (cellsFrom (s3.heap.objs.size + 1) scope.names (cloFrom X.env.cells scope.names [])) fp
  have pe := he p hp1 s3 (upd H2 D (.lst [])) s3.heap.objs.size (cellsFrom (s3.heap.objs.size + 1) scope.names (cloFrom X.env.cells scope.names [])) fp
  show codeAny _ _ (.compStart (.ListComp elt [⟨tg, iter, ifs, 0⟩] scope pos) 0 (.ref it) (.ref D) (compEnvC scope (cellsFrom (s3.heap.objs.size + 1) scope.names (cloFrom X.env.cells scope.names [])) s3.heap.objs.size X.env)) (compPost (model X.prog X.w) X.A X.xe use Qf (.ref D) s3.heap.objs.size) { s3 with heap := pushCells (s3.heap.push { cls := .type "dict", data := .dict #[] }) scope.names }
  have nfp : ∀ b ∈ fp, (upd H2 D (.lst [])) b = none := fun b hb => (f3 b hb).1.1
  generalize hce : compEnvC scope (cellsFrom (s3.heap.objs.size + 1) scope.names (cloFrom X.env.cells scope.names [])) s3.heap.objs.size X.env = ce at I4 pg pt pe ⊢
  have cL : ce.locals = s3.heap.objs.size := by subst hce; rfl
  generalize hH3 : upd H2 D (.lst []) = H3 at I3 I4 pg pt pe w0 nfp f3
  generalize hs4 : ({ s3 with heap := pushCells (s3.heap.push { cls := .type "dict", data := .dict #[] }) scope.names } : Shared) = s4 at I4 ⊢
  have st4 : tn 0 s4.heap := T.keep _ _ _ st3 fun b _ o e => by rw [← hs4]; exact pushCells_keeps _ _ _ _ (Heap.get?_push_of_some _ e)
  have nfp' : ∀ b ∈ fp, p.1 ≠ b := fun b hb => (f3 b hb).1.2.2.2.2.2 p (List.mem_append_left _ hp)
  have hot5 : ∀ {σ' : L2.St} {H' : Hp} {s' : Shared}, Inv (blkH X s3 H3 scope ce fp p) [] σ' H' s' → ∃ x1, HotAt X.A x1 s'.heap ∧ x1 ≠ it := fun {σ' H' s'} I' => by
    obtain ⟨hh, v1, e1, c1⟩ := hp1
    exact ⟨p.1, ⟨hh, p.2, v1, (I'.pin p (by simp)).1, e1, c1⟩, nfp' it T.mem⟩
  have stat : ∀ {σ' : L2.St} {H' : Hp} {s' : Shared}, Inv (blkH X s3 H3 scope ce fp p) [] σ' H' s' → (∀ b ∈ fp, H' b = none) → ∀ b ∈ fp, FpOk (blkH X s3 H3 scope ce fp p) [] H' b := fun {σ' H' s'} I' hn b hb =>
    ⟨hn b hb, (I'.ok.exf b hb).1, I'.ok.exfs b hb, .inl hb, fun x c e => (I'.ok.exf b hb).2 x c e, fun p' hp' => by
        have e : p' = p := by simpa using (show p' ∈ [p] ++ [] from hp')
        rw [e]
        exact fun z => nfp' b hb z⟩
  have loop : codeAny (model X.prog X.w) X.A (.compLoop (.ListComp elt [⟨tg, iter, ifs, 0⟩] scope pos) 0 (.ref it) (.ref D) ce) (compPost (model X.prog X.w) X.A X.xe use Qf (.ref D) s3.heap.objs.size) s4 := by
    refine compLoop_any (fun n s' => ∃ i H', Inv (blkH X s3 H3 scope ce fp p) [] (wipe σ (own.map (·.2))) H' s' ∧ tn i s'.heap ∧ (∀ b ∈ fp, H' b = none) ∧ W i n H') ?_ m0 ⟨0, H3, I4, st4, nfp, w0⟩
    rintro n s5 ⟨i, H5, I5, st5, n5, w5⟩
    rcases turn i n H5 w5 with ⟨stop, qq⟩ | ⟨go, Nx, hNx, step⟩
    · have td := T.done (blkH X s3 H3 scope ce fp p) rfl rfl rfl (hot5 I5) i [] s5 _ H5 (fun _ _ => False) rfl I5 (stat I5 n5) st5 stop
      refine thnF td fun r s6 ⟨hr, I6⟩ => ?_
      subst hr
      -- back in the def's context
      have I7 : Inv X pins σ H5 s6 := I3.call' (ch := fp) I6.os I6.base I6.hok I6.bare fun b hb => ⟨(f3 b hb).1.2.2.2.1, (f3 b hb).1.2.1, (f3 b hb).1.2.2.2.2.1, (f3 b hb).1.2.2.2.2.2⟩
      have nC : H5 s3.heap.objs.size = none := by
        have z : H5 ce.locals = none := I6.free
        rw [cL] at z
        exact z
      obtain ⟨m, hn, _⟩ := I6.loc
      have hn : s6.heap.Ns ce.locals m := hn
      rw [cL] at hn
      exact hRR D s3.heap.objs.size s6 m H5 I7 qq hn (I3.fpOk (Nat.le_refl _) nC)
    · have ti := T.item (blkH X s3 H3 scope ce fp p) rfl rfl rfl i [] s5 _ H5 (fun _ _ => False) I5 (stat I5 n5) st5 go
      refine thnF ti fun r s6 ⟨u, hr, h6⟩ => ?_
      subst hr
      refine thnF h6 fun _ s7 ⟨x, H7, I7, r7, y7, st7, n7⟩ => ?_
      have I7' := I7.pinned (stat I7 n7) (T.obj _ _ st7)
      refine thnF (pg.run _ s7 _ H7 x u _ I7' r7 (step x H7 y7)) fun _ s8 ⟨σ8, H8, I8, hw8, q8⟩ => ?_
      refine thnF (pt.run _ s8 σ8 H8 _ I8 q8) fun b s9 ⟨H9, I9, q9⟩ => ?_
      -- the turn's end
      have fin : ∀ {s' : Shared} {H' : Hp}, Inv (blkH X s3 H3 scope ce fp p) ([] ++ pinsAt fp s7.heap) σ8 H' s' → Nx H' → ∃ m, m < n ∧ ∃ i H', Inv (blkH X s3 H3 scope ce fp p) [] (wipe σ (own.map (·.2))) H' s' ∧ tn i s'.heap ∧ (∀ b ∈ fp, H' b = none) ∧ W i m H' := fun {s' H'} I' nx => by
        obtain ⟨m', hm, w'⟩ := hNx H' nx
        have pin' : ∀ b ∈ fp, ∀ o, s7.heap.get? b = some o → s'.heap.get? b = some o ∧ H' b = none := fun b hb o e =>
          let z := I'.pin (b, o) (List.mem_append_right _ (List.mem_append_right _ (mem_pinsAt hb e)))
          ⟨z.1, z.2.1⟩
        have hl : (wipe σ (own.map (·.2))).length = σ8.length := by rw [← hw8, wipe_length]
        refine ⟨m', hm, i + 1, H', (I'.unpinned (pins := [])).weak hl (fun j v e => ?_), T.keep _ _ _ st7 fun b hb o e => (pin' b hb o e).1, fun b hb => ?_, w'⟩
        · rw [← hw8] at e
          exact (wipe_some e).1
        · obtain ⟨o, e, _⟩ := T.obj _ _ st7 b hb
          exact (pin' b hb o e).2
      cases b with
      | false =>
        simp only [Bool.false_eq_true, if_false] at q9 ⊢
        exact fin I9 q9
      | true =>
        simp only [if_true] at q9 ⊢
        refine thnF (pe.run _ s9 σ8 H9 _ I9 q9) fun z s10 ⟨yv, H10, I10, r10, acc, hD10, hz10, nx⟩ => ?_
        exact app_ok (X := blkH X s3 H3 scope ce fp p) I10 hD10 hz10 r10 fun s11 I11 => fin I11 nx
  exact codeAny_compStart_list loop (T.self X.A 0 _ _ _ st4 loop)
theorem pe_lcL {elt tg iter : Expr} {ifs : List Expr} {scope : Scope} {own : List (Str × Nat)} {pos : Pos} {wi : TI} {g : TG} {tt : TT} {te : TE} (hc : L2H.HotC X) (hN : X.N.Nodup) (hi : PIL X tg iter wi) (ok : BlkOk X.N X.env.scope scope own)
    (hg : ∀ (p : Addr × Obj), L2H.Hot1 X.A p → ∀ (s : Shared) (H : Hp) (C : Addr) (cl : List (Str × Addr)) (fp : List Addr), PG (blkH X s H scope (compEnvC scope cl C X.env) fp p) tg g) (ht : ∀ (p : Addr × Obj), L2H.Hot1 X.A p → ∀ (s : Shared) (H : Hp) (C : Addr) (cl : List (Str × Addr)) (fp : List Addr), PTs (blkH X s H scope (compEnvC scope cl C X.env) fp p) ifs tt)
    (he : ∀ (p : Addr × Obj), L2H.Hot1 X.A p → ∀ (s : Shared) (H : Hp) (C : Addr) (cl : List (Str × Addr)) (fp : List Addr), PE (blkH X s H scope (compEnvC scope cl C X.env) fp p) elt te) (hs : ∀ x, foldedSetIterable iter X.env x = pure x := by intro _; rfl) :
    PE X (.ListComp elt [⟨tg, iter, ifs, 0⟩] scope pos) (tLc wi g tt te (own.map (·.2))) := by
  refine ⟨fun pins s σ H Q I h => ?_⟩
  rw [eval_ListComp]
  refine lc_coreL hc hN I hi ok hg ht he hs h fun D C s' m H' I' q hn f => ⟨m, hn, fun h'' sb => ?_⟩
  obtain ⟨f0, f1, f2, f3, f4, f5⟩ := f
  exact ⟨.ref D, H', I'.turned (t' := s'.toks) (fun b o hb e => (sb.2 b hb).trans e) f0 f1 f3 f4 f5, rfl, q⟩
end
end Tw
set_option maxHeartbeats 4000000
namespace Tw
open PySem PySem.Spec L2
open PyProof.Rows (b2i)
theorem RepG0.drop {T : Tb} {U : Addr → Prop} {W : Om} {H : Hp} : ∀ {g : List (Option D)} {σ : L2.St} (i : Nat), RepG0 T U W H g σ → RepG0 T U W H (g.set i none) σ
  | _, _, _, .nil => .nil
  | _, _, 0, .no t => .no t
  | _, _, 0, .so _ t => .no t
  | _, _, i + 1, .no t => .no (RepG0.drop i t)
  | _, _, i + 1, .so r t => .so r (RepG0.drop i t)
theorem Cok.blkH {T : Tb} {U U' : Ux} {G : Gs} {k : Nat} {cm : Md} {X : Cx} (C : Cok T U G k cm X) (hc : cm.calm = false) (h : U'.ei = none) (hp : U'.pn = []) (s : Shared) (H : Hp) (scope : Scope) (cenv : Env) (fp : List Addr) (p : Addr × Obj) (hp1 : L2H.Hot1 X.A p) : Cok T U' G k ⟨false, none, false⟩ (Tw.blkH X s H scope cenv fp p) :=
  ⟨C.nd, by rw [h], fun p hq => absurd hq (by rw [hp]; exact List.not_mem_nil), (fun z => nomatch z), (fun z => nomatch z), (fun z => nomatch z), (fun z => nomatch z), fun _ => ⟨(C.hot hc).1, p, hp1, List.mem_singleton.mpr rfl⟩, C.len, C.fn, C.gl, C.mth, C.fld, C.ini, C.cls, C.cI, C.cS, C.blt, C.exs, C.own, (fun z => nomatch z), (fun i z => nomatch z), C.fx⟩
section
variable {T : Tb} {U : Ux} {X : Cx} {G : Gs} {k : Nat} {Z : WX} {a : E} {pa tg : Expr}
abbrev pIH (T : Tb) (U : Ux) (Z : WX) (G : Gs) (k : Nat) (a : E) : TI := tI T U Z (fun g W Q X => wpE G k T.toPm a g W (fun x W1 => seqH x W1 fun w ds => Q w ds W1) X)
theorem s_seqL (ha : PE X pa (pE T U Z G k a)) : PIL X tg pa (pIH T U Z G k a) := by
  refine ⟨fun pins s σ H R I ⟨g, W, rg, hw, h⟩ => ?_⟩
  refine thn (ha.run pins s σ H _ I (one (moE a) rg hw h)) fun v s1 ⟨x, H1, I1, r1, d, W1, rd, rg1, w1, e1, f⟩ => ?_
  have lis : ∀ {ds : List D} {vs : List V} {p : Addr}, x = .ref p → SqL X.K H1 p vs → (∀ W' H', ExtP U W1 H1 W' H' → SqL X.K H' p vs) → Reps T U W1 H1 ds vs →
      (∀ J H', RepW T U W1 H' → Ext W H W1 H' → Yields T U none J ds W1 H' → R J H') → wpAny (model X.prog X.w) X.A (pyIter v) (PIEL X pins σ tg R) X.xe s1 := fun {ds vs p} ex hq st r z => by
    subst ex
    cases r1
    obtain ⟨its, rv, pl, hz⟩ := I1.list hq
    refine wpAny_pyIter_list pl.isList ?_
    refine ⟨s1.heap.objs.size, [s1.heap.objs.size], _, _, H1, rfl, I1.kept (t' := s1.toks) fun b o e => Heap.get?_push_of_some _ e, turn_listL p _, ⟨_, Heap.get?_push_size _ rfl, rfl, rfl⟩, fun b hb => ?_, z _ H1 w1 e1 (yields_list hq st r)⟩
    have e : b = s1.heap.objs.size := by simpa using hb
    subst e
    exact I1.fpOk (Nat.le_refl _) (I1.hok.fresh (Nat.le_refl _))
  cases rd with
  | lst n h r => exact lis rfl (SqL.of h) (fun W' H' e => SqL.of (e.keep _ _ h n.1 n.2)) r f
  | scr ns n h => exact lis rfl (.inl (.inr ⟨_, h⟩)) (fun W' H' e => .inl (.inr ⟨_, e.keep _ _ h n.1 n.2⟩)) (Reps.ints ns) f
  | tup n h r => exact f.elim
  | non => exact f.elim
  | bl _ => exact f.elim
  | int _ => exact f.elim
  | str _ => exact f.elim
  | ptr a =>
    obtain ⟨ds, ea, f⟩ := f
    obtain ⟨o, h1, h2⟩ := w1.cell_ _ _ ea
    cases h2 with
    | lst r =>
      cases r1
      obtain ⟨its, rv, pl, hz⟩ := I1.list (SqL.of (K := X.K) h1)
      refine wpAny_pyIter_list pl.isList ?_
      refine ⟨s1.heap.objs.size, [s1.heap.objs.size], _, _, H1, rfl, I1.kept (t' := s1.toks) fun b o e => Heap.get?_push_of_some _ e, turn_listL a _, ⟨_, Heap.get?_push_size _ rfl, rfl, rfl⟩, fun b hb => ?_, f _ H1 w1 e1 yields_cell⟩
      have e : b = s1.heap.objs.size := by simpa using hb
      subst e
      exact I1.fpOk (Nat.le_refl _) (I1.hok.fresh (Nat.le_refl _))
  | obj _ _ _ _ => exact f.elim
theorem comp_readH {own : Bool} {i : Nat} {elt : E} {a : E} {h0 : Nat} {cond : Option E} {σ : St} {H : Hp} {Q : VK} (hu : U.ei = none ∨ U.ei = some h0) (hh : pE T U Z G k (.compH own h0 i elt a cond) σ H Q) :
    tLc (pIH T U Z G k a) (gName i) (fun σ H Q => ∃ U' : Ux, (U'.ei = none ∧ U'.pn = []) ∧ tT T U' Zf (wpC G k T.toPm cond) σ H Q) (fun σ H Q => ∃ U' : Ux, (U'.ei = none ∧ U'.pn = []) ∧ pE T U' Zf G k elt σ H Q) [i] σ H Q := by
  obtain ⟨g, W, rg, hw, h⟩ := hh
  have rg0 : RepG0 T U.hid W H (g.set h0 none) σ := by
    rcases hu with e | e
    · exact RepG0.drop h0 ((RepG.zero e).mp rg)
    · exact ((RepG.some_ e).mp rg).2
  simp only [wpE] at h
  refine ⟨g, W, rg, hw, moE a (fun x W1 y => seqH.mono (fun wt ds f J H1 w1 e1 Y => ?_) y) (fun _ _ z => z) h⟩
  intro Dp hD
  have x0 := Ext.fresh (o := .lst []) hD w1
  have nU : ¬ U.hid Dp := x0.2.2
  have H0 : W Dp = none → H Dp = none := fun n => by
    cases q : H Dp with
    | none => rfl
    | some o =>
      have := e1.keep Dp o q n
      rw [hD] at this; cases this
  let inv : Nat → Hp → Prop := fun n Hc => n ≤ ds.length ∧ ∃ acc vacc W', Hc Dp = some (.lst vacc) ∧ Reps T (Hid U Dp) W' Hc acc vacc ∧ RepG0 T (Hid U Dp) W' Hc ((g.set h0 none).set i none) (wipe σ [i]) ∧ RepW T (Hid U Dp) W' Hc ∧ Ext W1 H1 W' Hc ∧
    compL wt (fun d W2 R => wpC G k T.toPm cond ((g.set h0 none).set i (some d)) W2 (fun t W3 => if t = true then wpE G k T.toPm elt ((g.set h0 none).set i (some d)) W3 (fun y W4 => R (some y) W4) (fun _ _ => False) else R none W3) (fun _ _ => False)) (ds.drop n) acc W' fun ys W2 => mkL own ys W2 (Post T U W H Q)
  refine ⟨fun n m Hc => m = ds.length - n ∧ inv n Hc, ⟨_, rfl, Nat.zero_le _, [], [], W1, upd_same, .nil, ?_, w1.hideNew hD, x0.1, f⟩, ?_⟩
  · exact (((rg0.ext e1).hide hD).ext x0.1).wipe1 i none
  rintro n m Hc ⟨rfl, hn, acc, vacc, W', hc1, ra, rgc, wc, ec, f⟩
  have offD : W' Dp = none := wc.offU (.inr rfl)
  rcases Nat.lt_or_ge n ds.length with hlt | hge
  · have hg0 : ds[n]? = some ds[n] := List.getElem?_eq_getElem hlt
    have hd0 : ds.drop n = ds[n] :: ds.drop (n + 1) := List.drop_eq_getElem_cons hlt
    generalize ds[n] = d0 at hg0 hd0
    have hdrop : ds.drop n = d0 :: ds.drop (n + 1) := hd0
    rw [hdrop] at f
    refine .inr ⟨Y.go (Hid U Dp) n W' Hc (fun _ z => .inl z) ec.P wc f.1 hlt, fun Hn => inv (n + 1) Hn, fun Hn z => ⟨_, by omega, rfl, z⟩, fun x H' yl => ?_⟩
    obtain ⟨d, hd, rx, w', e'⟩ := Y.yld (Hid U Dp) n W' Hc x H' (fun _ z => .inl z) (fun a z => z.elim .inl fun e => .inr (by rw [e]; exact hD)) ec.P wc f.1 hlt yl
    replace f := f.2
    obtain rfl : d = d0 := by rw [hg0] at hd; exact (Option.some.inj hd).symm
    have f : wpC G k T.toPm cond ((g.set h0 none).set i (some d)) W' _ _ := f
    have rg2 : RepG0 T (Hid U Dp) W' H' ((g.set h0 none).set i (some d)) ((wipe σ [i]).set i (some x)) := by
      have z := RepG0.set rx i (rgc.ext e')
      rw [List.set_set] at z
      exact z
    show (wipe ((wipe σ [i]).set i (some x)) [i] = wipe σ [i]) ∧ _
    refine ⟨by show (((wipe σ [i]).set i (some x)).set i none) = σ.set i none; rw [List.set_set]; show (σ.set i none).set i none = _; rw [List.set_set], HidX U Dp, ⟨rfl, rfl⟩, ?_⟩
    have hD' : H' Dp = some (.lst vacc) := e'.keep _ _ hc1 offD
    refine tT_mono (moC cond) (fun b H3 ⟨W3, rg3, w3, e3, f3⟩ => ?_) (oneT (U := HidX U Dp) (Z := Zf) (moC cond) rg2 w' (moC cond (fun _ _ z => z) (fun _ _ z => z.elim) f))
    have hD3 : H3 Dp = some (.lst vacc) := e3.keep _ _ hD' offD
    cases b with
    | false =>
      exact ⟨hlt, acc, vacc, W3, hD3, (ra.ext e').ext e3, (rgc.ext e').ext e3, w3, (ec.trans e').trans e3, f3⟩
    | true =>
      have off3 : W3 Dp = none := w3.offU (.inr rfl)
      refine ⟨HidX U Dp, ⟨rfl, rfl⟩, tE_mono (moE elt) (fun z H4 ⟨dy, W4, ry, rg4, w4, e4, f4⟩ => ?_) (one (Z := Zf) (moE elt) rg3 w3 (moE elt (fun _ _ z => z) (fun _ _ z => z.elim) f3))⟩
      have hD4 : H4 Dp = some (.lst vacc) := e4.keep _ _ hD3 off3
      have ra4 := ((ra.ext e').ext e3).ext e4
      refine ⟨vacc, hD4, by rw [← ra4.length]; exact f4.1, hlt, acc ++ [dy], vacc ++ [z], W4, upd_same, (ra4.append (.cons ry .nil)).poke, (((rgc.ext e').ext e3).ext e4).poke, w4.poke, (((ec.trans e').trans e3).trans e4).poke hD, f4.2⟩
  · have e0 : n = ds.length := Nat.le_antisymm hn hge
    subst e0
    rw [List.drop_length] at f
    refine .inl ⟨Y.stop (Hid U Dp) _ W' Hc (fun _ z => .inl z) ec.P wc f.1 (Nat.le_refl _) (Nat.le_refl _), ?_⟩
    have f : mkL own acc W' (Post T U W H Q) := f.2
    cases own with
    | false => exact f _ _ (.lst ⟨offD, nU⟩ hc1 (ra.less fun _ z => .inl z)) wc.unhide (e1.trans ec)
    | true => exact f Dp offD _ _ (.ptr Dp) (wc.open_ hc1 ra nU) ((e1.trans ec).open_ H0)
theorem s_compH {h0 : Nat} (hu : U.ei = none ∨ U.ei = some h0) (hc : L2H.HotC X) (hnd : X.N.Nodup) {own : Bool} {i : Nat} {elt : E} {a : E} {cond : Option E} {y : Str} {py pos : Pos} {pe pi : Expr} {ifs : List Expr} {scope : Scope} (hset : isSet pi = false)
    (ha : PE X pi (pE T U Z G k a)) (ok : BlkOk X.N X.env.scope scope [(y, i)]) (hN : X.N[i]? = some y) (hloc : (relS scope X.env.scope).names.lookup y = some .local)
    (he : ∀ (U' : Ux), U'.ei = none → U'.pn = [] → ∀ (p : Addr × Obj), L2H.Hot1 X.A p → ∀ (s : Shared) (H : Hp) (C : Addr) (cl : List (Str × Addr)) (fp : List Addr), PE (blkH X s H scope (compEnvC scope cl C X.env) fp p) pe (pE T U' Zf G k elt))
    (ht : ∀ (U' : Ux), U'.ei = none → U'.pn = [] → ∀ (p : Addr × Obj), L2H.Hot1 X.A p → ∀ (s : Shared) (H : Hp) (C : Addr) (cl : List (Str × Addr)) (fp : List Addr), PTs (blkH X s H scope (compEnvC scope cl C X.env) fp p) ifs (tT T U' Zf (wpC G k T.toPm cond))) :
    PE X (.ListComp pe [⟨.Name y py, pi, ifs, 0⟩] scope pos) (pE T U Z G k (.compH own h0 i elt a cond)) :=
  (pe_lcL (own := [(y, i)]) (g := gName i) (tt := fun σ H Q => ∃ U' : Ux, (U'.ei = none ∧ U'.pn = []) ∧ tT T U' Zf (wpC G k T.toPm cond) σ H Q) (te := fun σ H Q => ∃ U' : Ux, (U'.ei = none ∧ U'.pn = []) ∧ pE T U' Zf G k elt σ H Q) hc hnd (s_seqL ha) ok
    (fun p hp s H C cl fp => pg_name hnd hN (.inl hloc) (.inr hloc)) (fun p hp s H C cl fp => ⟨fun pins s' σ H' Q I ⟨U', ⟨z1, z2⟩, h⟩ => (ht U' z1 z2 p hp s H C cl fp).run pins s' σ H' Q I h⟩)
    (fun p hp s H C cl fp => ⟨fun pins s' σ H' Q I ⟨U', ⟨z1, z2⟩, h⟩ => (he U' z1 z2 p hp s H C cl fp).run pins s' σ H' Q I h⟩) (fun x => by cases pi <;> first | rfl | cases hset)).to fun σ H Q h => comp_readH hu h
end
end Tw
set_option maxHeartbeats 8000000
namespace Tw
open PySem PySem.Spec L2
open PyProof.Rows (b2i)
theorem Cok.blkx {T : Tb} {U U' : Ux} {G : Gs} {k : Nat} {cm : Md} {X : Cx} (C : Cok T U G k cm X) (hc : cm.calm = true) (h : U'.ei = none) (hp : U'.pn = []) (s : Shared) (H : Hp) (scope : Scope) (cenv : Env) (fp : List Addr) (Z : WX) : Cok T U' G k cm.blk (blkX X s H scope cenv fp Z) :=
  ⟨C.nd, by rw [h]; exact (C.ce hc).symm, fun p hq => absurd hq (by rw [hp]; exact List.not_mem_nil), C.ce, fun _ => hp, C.calm, C.room, fun z => (Bool.noConfusion (hc.symm.trans z)), C.len, C.fn, C.gl, C.mth, C.fld, C.ini, C.cls, C.cI, C.cS, C.blt, C.exs, C.own, (fun z => nomatch (show false = true from z)), (fun i e => nomatch (show some i = none from e.symm.trans (C.ce hc))), C.fx⟩
section
variable {T : Tb} {G : Gs} {k : Nat} {cm : Md}
theorem chk_star {N : List Str} {sc : Scope} : ∀ {es : List E} {ps : List Expr}, chkEs T.toTs cm N sc es ps = true → ps.any isStar = false ∧ es.length = ps.length
  | [], ps, h => by
    cases ps with
    | nil => exact ⟨rfl, rfl⟩
    | cons p r => simp [chkEs] at h
  | e :: es, ps, h => by
    cases ps with
    | nil => simp [chkEs] at h
    | cons p r =>
      simp only [chkEs, Bool.and_eq_true, Bool.not_eq_true'] at h
      obtain ⟨⟨h1, h2⟩, h3⟩ := h
      obtain ⟨a, b⟩ := chk_star h3
      exact ⟨by rw [List.any_cons, h1, a]; rfl, congrArg Nat.succ b⟩
theorem chk_ns {N : List Str} {sc : Scope} {e : E} {p : Expr} (h : chkE T.toTs cm N sc e p = true) : isStar p = false := by
  cases p <;> first | rfl | skip
  exfalso
  cases e
  case own2 o a b => cases o <;> simp [chkE] at h
  case own1 o a => cases o <;> simp [chkE] at h
  all_goals simp [chkE] at h
theorem locB_eq {sc : Scope} {x : Str} (h : locB sc x = true) : sc.names.lookup x = some .local := by
  unfold locB at h
  split at h
  · next q => exact q
  · cases h
theorem nmB_eq {N : List Str} {i : Nat} {x : Str} (h : nmB N i x = true) : N[i]? = some x := by
  unfold nmB at h
  split at h
  · next y q => rw [q, of_decide_eq_true h]
  · cases h
theorem s_lzip' {U : Ux} {X : Cx} {Z : WX} (C : Cok T U G k cm X) (hcm : cm.calm = true) {x y : Str} {p p2 cpos pos : Pos} {es : List E} {ps : List Expr} (hx : gloB X.env.scope x "list" = true) (hy : gloB X.env.scope y "zip" = true) (h4 : es.length = 2) (hs : ps.any isStar = false) (hl : es.length = ps.length) (ha : PA X ps (pL T U Z G k es)) :
    PE X (.Call (.Name x p) [.Call (.Name y p2) ps [] cpos] [] pos) (pE T U Z G k (.lzip es)) := by
  match es, ps, h4, hl, hs, ha with
  | [a, b], [pa, pb], _, _, hs, ha =>
    rw [List.any_cons, Bool.or_eq_false_iff] at hs
    exact s_lzip C hcm hx hy hs.1 hs.2 ha
mutual
theorem sndE : ∀ (e : E) {cm : Md} (X : Cx) (Z : WX) (U : Ux) (p : Expr), Cok T U G k cm X → Takes X Z → chkE T.toTs cm X.N X.env.scope e p = true → PE X p (pE T U Z G k e)
  | .var i, cm, X, Z, U, p, C, tk, h => by
    cases p <;> simp only [chkE, Bool.false_eq_true] at h
    have h2 := Bool.and_eq_true_iff.mp h
    exact s_var (C.no h2.2) h2.1
  | .int i, cm, X, Z, U, p, C, tk, h => by
    cases p <;> simp only [chkE, Bool.false_eq_true] at h
    rename_i c _ _
    cases c <;> simp only [Bool.false_eq_true] at h
    rw [of_decide_eq_true h]
    exact s_int
  | .str i, cm, X, Z, U, p, C, tk, h => by
    cases p <;> simp only [chkE, Bool.false_eq_true] at h
    rename_i c _ _
    cases c <;> simp only [Bool.false_eq_true] at h
    rw [of_decide_eq_true h]
    exact s_str
  | .bl b, cm, X, Z, U, p, C, tk, h => by
    cases p <;> simp only [chkE, Bool.false_eq_true] at h
    rename_i c _ _
    cases c <;> simp only [Bool.false_eq_true] at h
    rw [eq_of_beq h]
    exact s_bl
  | .non, cm, X, Z, U, p, C, tk, h => by
    cases p <;> simp only [chkE, Bool.false_eq_true] at h
    rename_i c _ _
    cases c <;> simp only [Bool.false_eq_true] at h
    exact s_non
  | .gint g i, cm, X, Z, U, p, C, tk, h => by
    cases p <;> simp only [chkE, Bool.false_eq_true] at h
    exact s_gint C h
  | .gstr g i, cm, X, Z, U, p, C, tk, h => by
    cases p <;> simp only [chkE, Bool.false_eq_true] at h
    exact s_gstr C h
  | .bin o own a b, cm, X, Z, U, p, C, tk, h => by
    cases p <;> simp only [chkE, Bool.false_eq_true, Bool.and_eq_true] at h
    exact s_bin h.1.1 (sndE a X Z U _ C tk h.1.2) (sndE b X Z U _ C tk h.2)
  | .neg a, cm, X, Z, U, p, C, tk, h => by
    cases p <;> simp only [chkE, Bool.false_eq_true] at h
    rename_i op _ _
    cases op <;> simp only [Bool.false_eq_true] at h
    exact s_neg (sndE a X Z U _ C tk h)
  | .cmp o a b, cm, X, Z, U, p, C, tk, h => by
    cases p <;> simp only [chkE, Bool.false_eq_true] at h
    rename_i l ops cs _
    match ops, cs, h with
    | [op], [pb], h =>
      simp only [Bool.and_eq_true, Bool.not_eq_true'] at h
      exact s_cmp C.hu h.1.1.1 h.1.1.2 (sndE a X Z U _ C tk h.1.2) (sndE b X Z U _ C tk h.2)
  | .chain o q a b c, cm, X, Z, U, p, C, tk, h => by
    cases p <;> simp only [chkE, Bool.false_eq_true] at h
    rename_i l ops cs _
    match ops, cs, h with
    | [op, oq], [pb, pc], h =>
      simp only [Bool.and_eq_true, Bool.not_eq_true'] at h
      exact s_chain C.hu h.1.1.1.1.1.1 h.1.1.1.1.1.2 h.1.1.1.1.2 h.1.1.1.2 (sndE a X Z U _ C tk h.1.1.2) (sndE b X Z U _ C tk h.1.2) (sndE c X Z U _ C tk h.2)
  | .and a b, cm, X, Z, U, p, C, tk, h => by
    cases p <;> simp only [chkE, Bool.false_eq_true] at h
    rename_i op vs pos
    match op, vs, h with
    | .And, pa :: r, h =>
      simp only [Bool.and_eq_true] at h
      match r, h with
      | [], h => simp at h
      | [pb], h => exact s_and (sndE a X Z U _ C tk h.1) (pe_one (sndE b X Z U _ C tk h.2))
      | pb :: pc :: r, h => exact s_and (sndE a X Z U _ C tk h.1) (sndE b X Z U _ C tk h.2)
  | .or a b, cm, X, Z, U, p, C, tk, h => by
    cases p <;> simp only [chkE, Bool.false_eq_true] at h
    rename_i op vs pos
    match op, vs, h with
    | .Or, pa :: r, h =>
      simp only [Bool.and_eq_true] at h
      match r, h with
      | [], h => simp at h
      | [pb], h => exact s_or (sndE a X Z U _ C tk h.1) (pe_one (sndE b X Z U _ C tk h.2))
      | pb :: pc :: r, h => exact s_or (sndE a X Z U _ C tk h.1) (sndE b X Z U _ C tk h.2)
  | .not a, cm, X, Z, U, p, C, tk, h => by
    cases p <;> simp only [chkE, Bool.false_eq_true] at h
    rename_i op _ _
    cases op <;> simp only [Bool.false_eq_true] at h
    exact s_not (sndE a X Z U _ C tk h)
  | .ite c a b, cm, X, Z, U, p, C, tk, h => by
    cases p <;> simp only [chkE, Bool.false_eq_true, Bool.and_eq_true] at h
    exact s_ite (sndT c X Z U _ C tk h.1.1).1 (sndE a X Z U _ C tk h.1.2) (sndE b X Z U _ C tk h.2)
  | .lst own es, cm, X, Z, U, p, C, tk, h => by
    cases p <;> simp only [chkE, Bool.false_eq_true] at h
    exact s_lst (sndL es X Z U _ C tk h)
  | .tup es, cm, X, Z, U, p, C, tk, h => by
    cases p <;> simp only [chkE, Bool.false_eq_true] at h
    exact s_tup (sndL es X Z U _ C tk h)
  | .rev own a, cm, X, Z, U, p, C, tk, h => by
    unfold chkE at h
    split at h
    · exact s_rev (sndE a X Z U _ C tk h)
    · cases h
  | .idx a i, cm, X, Z, U, p, C, tk, h => by
    cases p <;> simp only [chkE, Bool.false_eq_true, Bool.and_eq_true, Bool.not_eq_true'] at h
    exact s_idx h.1.1 (sndE a X Z U _ C tk h.1.2) (sndE i X Z U _ C tk h.2)
  | .slice own a lo hi, cm, X, Z, U, p, C, tk, h => by
    unfold chkE at h
    split at h
    · simp only [Bool.and_eq_true] at h
      exact s_slice (sndE a X Z U _ C tk h.1.1) (sndO lo X Z U _ C tk h.1.2) (sndO hi X Z U _ C tk h.2)
    · cases h
  | .call f es, cm, X, Z, U, p, C, tk, h => by
    unfold chkE at h
    split at h
    · simp only [Bool.and_eq_true] at h
      obtain ⟨a, b⟩ := chk_star h.2
      exact s_call C tk h.1.1.1.1.1 h.1.1.1.1.2 h.1.1.1.2 h.1.2 a b (sndL es X Z U _ C tk h.2)
    · cases h
  | .callK f es ks pm, cm, X, Z, U, p, C, tk, h => by
    unfold chkE at h
    split at h
    · simp only [Bool.and_eq_true] at h
      obtain ⟨⟨⟨⟨⟨⟨h1, h2⟩, h3⟩, h4⟩, h5⟩, h6⟩, h7⟩ := h
      obtain ⟨a, b⟩ := chk_star h6
      obtain ⟨k1, k2, k3⟩ := sndKs ks X Z U _ C tk h7
      exact s_callK C h1 tk h2 h3 h4 h5 k1 k2 a b (sndL es X Z U _ C tk h6) k3
    · cases h
  | .blt b own es, cm, X, Z, U, p, C, tk, h => by
    unfold chkE at h
    split at h
    · simp only [Bool.and_eq_true] at h
      obtain ⟨a, c⟩ := chk_star h.2
      exact s_blt C h.1.1.1 h.1.1.2 a (by rw [← c]; exact of_decide_eq_true h.1.2) (sndL es X Z U _ C tk h.2)
    · cases h
  | .isi e c, cm, X, Z, U, p, C, tk, h => by
    unfold chkE at h
    split at h
    · cases c with
      | ty n =>
        simp only [Bool.and_eq_true] at h
        exact s_isi C h.1.1 (by simp only [Bool.and_eq_true]; exact h.2) (chk_ns h.1.2) (sndE e X Z U _ C tk h.1.2)
      | own D =>
        simp only [Bool.and_eq_true, decide_eq_true_eq] at h
        exact s_isiO C h.2.2 h.1.1 h.2.1.1.1 h.2.1.1.2 h.2.1.2 (chk_ns h.1.2) (sndE e X Z U _ C tk h.1.2)
    · cases h
  | .own2 (.bin o m) a b, cm, X, Z, U, p, C, tk, h => by
    unfold chkE at h
    split at h
    · simp only [Bool.and_eq_true] at h
      obtain ⟨⟨⟨⟨h1, h2⟩, h3⟩, h4⟩, h5⟩ := h
      exact s_own2bin C h1 tk h2 (of_decide_eq_true h3) (sndE a X Z U _ C tk h4) (sndE b X Z U _ C tk h5)
    · cases h
  | .own2 (.eq m) a b, cm, X, Z, U, p, C, tk, h => by
    unfold chkE at h
    split at h
    · simp only [Bool.and_eq_true, Bool.not_eq_true'] at h
      obtain ⟨⟨⟨⟨h1, h2⟩, h3⟩, h4⟩, h5⟩ := h
      exact s_own2eq C h1 tk h2 (of_decide_eq_true h3) (sndE a X Z U _ C tk h4) (sndE b X Z U _ C tk h5)
    · cases h
  | .own2 (.mem neg m) a b, cm, X, Z, U, p, C, tk, h => by
    unfold chkE at h
    split at h
    · next pa op pb pos =>
      simp only [Bool.and_eq_true, Bool.not_eq_true'] at h
      obtain ⟨⟨⟨⟨⟨h1, h6⟩, h2⟩, h3⟩, h4⟩, h5⟩ := h
      have ho : op = if neg = true then .NotIn else .In := by
        cases op <;> simp at h6 <;> subst h6 <;> rfl
      subst ho
      exact s_own2mem C h1 tk h2 (of_decide_eq_true h3) (sndE a X Z U _ C tk h4) (sndE b X Z U _ C tk h5)
    · cases h
  | .own1 (.neg m) a, cm, X, Z, U, p, C, tk, h => by
    unfold chkE at h
    split at h
    · simp only [Bool.and_eq_true] at h
      exact s_own1neg C h.1.1 tk (of_decide_eq_true h.1.2) (sndE a X Z U _ C tk h.2)
    · cases h
  | .own1 (.prop m) a, cm, X, Z, U, p, C, tk, h => by
    unfold chkE at h
    split at h
    · simp only [Bool.and_eq_true] at h
      obtain ⟨⟨⟨⟨h1, h2⟩, h3⟩, h4⟩, h5⟩ := h
      rw [of_decide_eq_true h2]
      exact s_own1prop C h1 tk h4 (sndE a X Z U _ C tk h5)
    · cases h
  | .umethK c m o es ks pm, cm, X, Z, U, p, C, tk, h => by
    unfold chkE at h
    split at h
    · simp only [Bool.and_eq_true] at h
      obtain ⟨⟨⟨⟨⟨⟨⟨⟨⟨hcm, h1⟩, h2⟩, h3⟩, h4⟩, h5⟩, h6⟩, h7⟩, h8⟩, h9⟩ := h
      obtain ⟨a, b⟩ := chk_star h8
      obtain ⟨k1, k2, k3⟩ := sndKs ks X Z U _ C tk h9
      rw [of_decide_eq_true h1]
      exact s_umethK C hcm tk (of_decide_eq_true h2) h3 h4 (of_decide_eq_true h5) h6 k1 k2 a b (sndE o X Z U _ C tk h7) (sndL es X Z U _ C tk h8) k3
    · cases h
  | .mkK c own es ks pm, cm, X, Z, U, p, C, tk, h => by
    unfold chkE at h
    split at h
    · simp only [Bool.and_eq_true] at h
      obtain ⟨⟨⟨⟨⟨h1, h2⟩, h3⟩, h4⟩, h5⟩, h6⟩ := h
      obtain ⟨a, b⟩ := chk_star h5
      obtain ⟨k1, k2, k3⟩ := sndKs ks X Z U _ C tk h6
      exact s_mkK C h1 tk h2 h4 k1 k2 a b (sndL es X Z U _ C tk h5) k3 h3
    · cases h
  | .lrng own es, cm, X, Z, U, p, C, tk, h => by
    unfold chkE at h
    split at h
    · simp only [Bool.and_eq_true, Bool.or_eq_true, decide_eq_true_eq] at h
      obtain ⟨⟨⟨⟨h1, h2⟩, h3⟩, h4⟩, h5⟩ := h
      obtain ⟨a, b⟩ := chk_star h5
      exact s_lrng C h1 h2 h3 a b h4 (sndL es X Z U _ C tk h5)
    · cases h
  | .meth m o es, cm, X, Z, U, p, C, tk, h => by
    unfold chkE at h
    split at h
    · next po x apos ps pos =>
      simp only [Bool.and_eq_true] at h
      obtain ⟨⟨⟨⟨⟨h1, h2⟩, h3⟩, h4⟩, h5⟩, h6⟩ := h
      rw [of_decide_eq_true h1]
      obtain ⟨a, b⟩ := chk_star h5
      have ho := sndE o X Z U _ C tk h4
      have hL := sndL es X Z U _ C tk h5
      cases m with
      | append =>
        have h6 := of_decide_eq_true h6
        match es, ps, h6, b, a, hL with
        | [e], [pe], _, _, a, hL =>
          rw [List.any_cons, Bool.or_eq_false_iff] at a
          exact s_append h2 h3 a.1 ho hL
      | pop =>
        have h6 : (decide (es.length = 0) || decide (es.length = 1)) = true := h6
        simp only [Bool.or_eq_true, decide_eq_true_eq] at h6
        match es, ps, h6, b, a, hL with
        | [], [], _, _, _, _ => exact s_pop h2 h3 ho
        | [e], [pe], _, _, a, hL =>
          rw [List.any_cons, Bool.or_eq_false_iff] at a
          exact s_popi h2 h3 a.1 ho hL
      | reverse =>
        have h6 := of_decide_eq_true h6
        match es, ps, h6, b with
        | [], [], _, _ => exact s_reverse h2 h3 ho
      | clear =>
        have h6 := of_decide_eq_true h6
        match es, ps, h6, b with
        | [], [], _, _ => exact s_clear h2 h3 ho
      | insert =>
        have h6 := of_decide_eq_true h6
        match es, ps, h6, b, a, hL with
        | [e, e2], [pe, pe2], _, _, a, hL =>
          rw [List.any_cons, Bool.or_eq_false_iff, List.any_cons, Bool.or_eq_false_iff] at a
          exact s_insert h2 h3 a.1 a.2.1 ho hL
      | extend => simp at h6
    · cases h
  | .umeth m o es, cm, X, Z, U, p, C, tk, h => by
    unfold chkE at h
    split at h
    · simp only [Bool.and_eq_true] at h
      obtain ⟨⟨⟨⟨⟨⟨⟨hcm, h1⟩, h2⟩, h3⟩, h4⟩, h5⟩, h6⟩, h7⟩ := h
      obtain ⟨a, b⟩ := chk_star h7
      rw [of_decide_eq_true h1]
      exact s_umeth C hcm tk (of_decide_eq_true h2) h3 h4 (of_decide_eq_true h5) a b (sndE o X Z U _ C tk h6) (sndL es X Z U _ C tk h7)
    · cases h
  | .attr o f, cm, X, Z, U, p, C, tk, h => by
    cases p <;> simp only [chkE, Bool.false_eq_true, Bool.and_eq_true] at h
    rw [of_decide_eq_true h.1.1.1]
    exact s_attr C (of_decide_eq_true h.1.1.2) h.1.2 (sndE o X Z U _ C tk h.2)
  | .mk c own es, cm, X, Z, U, p, C, tk, h => by
    unfold chkE at h
    split at h
    · simp only [Bool.and_eq_true] at h
      obtain ⟨a, b⟩ := chk_star h.2
      exact s_mk C h.1.1.1 tk h.1.1.2 a b (sndL es X Z U _ C tk h.2) h.1.2
    · cases h
  | .exI i c, cm, X, Z, U, p, C, tk, h => by
    unfold chkE at h
    split at h
    · rw [Bool.and_eq_true, Bool.and_eq_true, Bool.and_eq_true, Bool.and_eq_true, Bool.and_eq_true] at h
      obtain ⟨⟨⟨⟨⟨h1, h2⟩, h3⟩, h4⟩, h5⟩, h6⟩ := h
      exact s_exI C (of_decide_eq_true h5) h1 (by rw [h2, h3, h4]; rfl) h6
    · cases h
  | .exA i f, cm, X, Z, U, p, C, tk, h => by
    unfold chkE at h
    split at h
    · simp only [Bool.and_eq_true] at h
      obtain ⟨⟨⟨⟨⟨h2, h3⟩, h4⟩, h5⟩, h6⟩, h7⟩ := h
      rw [of_decide_eq_true h6]
      exact s_exA C (of_decide_eq_true h5) (by rw [h2, h3, h4]; rfl) (of_decide_eq_true h7)
    · cases h
  | .exC f i, cm, X, Z, U, p, C, tk, h => by
    unfold chkE at h
    split at h
    · simp only [Bool.and_eq_true, Bool.not_eq_true'] at h
      obtain ⟨⟨⟨⟨⟨⟨⟨h1, h2⟩, h3⟩, h4⟩, h5⟩, h6⟩, h7⟩, h8⟩ := h
      exact s_exC C tk (of_decide_eq_true h7) h8 h1 h2 h3 (by rw [h4, h5, h6]; rfl)
    · cases h
  | .rmeth _ _ _, cm, X, Z, U, p, C, tk, h => by
    unfold chkE at h
    cases h
  | .lzip es, cm, X, Z, U, p, C, tk, h => by
    unfold chkE at h
    split at h
    · simp only [Bool.and_eq_true, decide_eq_true_eq] at h
      obtain ⟨⟨⟨⟨h1, h2⟩, h3⟩, h4⟩, h5⟩ := h
      obtain ⟨hs, hl⟩ := chk_star h5
      exact s_lzip' C h1 h2 h3 h4 hs hl (sndL es X Z U _ C tk h5)
    · cases h
  | .compR own t elt it cond, cm, X, Z, U, p, C, tk, h => by
    unfold chkE at h
    split at h
    · next pe tg pi ifs a scope pos =>
      simp only [Bool.and_eq_true, Bool.not_eq_true'] at h
      obtain ⟨⟨⟨⟨⟨⟨⟨⟨h1, ht⟩, h2⟩, h3⟩, h6⟩, h4⟩, h7⟩, h8⟩, h9⟩ := h
      have h2 := of_decide_eq_true h2
      subst h2
      obtain ⟨t1, t2⟩ := C.top ht
      exact s_compR (C.zero h1) (C.calm h1) C.nd tk t1 t2 h3 (sndI it X Z U _ _ C tk h7) (blkOk_by h6) h4
        (fun U' z1 z2 σ s H A cl fp => sndE elt (blkX X s H scope (compEnvC scope cl A X.env) fp (Zb Z σ)) (Zb Z σ) U' _ (C.blkx h1 z1 z2 s H scope _ fp _) blkX_takes h8)
        (fun U' z1 z2 σ s H A cl fp => sndC cond (blkX X s H scope (compEnvC scope cl A X.env) fp (Zb Z σ)) (Zb Z σ) U' _ (C.blkx h1 z1 z2 s H scope _ fp _) blkX_takes h9)
    · cases h
  | .comp own i elt it cond, cm, X, Z, U, p, C, tk, h => by
    unfold chkE at h
    split at h
    · next pe y py pi ifs a scope pos =>
      simp only [Bool.and_eq_true, Bool.not_eq_true'] at h
      obtain ⟨⟨⟨⟨⟨⟨⟨⟨h1, h2⟩, h3⟩, h4⟩, h5⟩, h6⟩, h7⟩, h8⟩, h9⟩ := h
      have h2 := of_decide_eq_true h2
      subst h2
      exact s_comp (C.zero h1) (C.calm h1) C.nd h3 (sndI it X Z U _ _ C tk h7) (blkOk_by h6) (nmB_eq h4) (locB_eq h5)
        (fun U' z1 z2 s H A cl fp => sndE elt (X.blk s H scope (compEnvC scope cl A X.env) fp) Zf U' _ (C.blk h1 z1 z2 s H scope _ fp) takesN h8)
        (fun U' z1 z2 s H A cl fp => sndC cond (X.blk s H scope (compEnvC scope cl A X.env) fp) Zf U' _ (C.blk h1 z1 z2 s H scope _ fp) takesN h9)
    · cases h
  | .comp2 own i j elt it it1, cm, X, Z, U, p, C, tk, h => by
    unfold chkE at h
    split at h
    · next pe y py pi ifs a z zp pi1 ifs1 a1 scope pos =>
      simp only [Bool.and_eq_true, Bool.not_eq_true', decide_eq_true_eq, List.isEmpty_iff] at h
      obtain ⟨⟨⟨⟨⟨⟨⟨⟨⟨⟨⟨⟨⟨⟨⟨h1, q0⟩, q1⟩, i0⟩, i1⟩, h3⟩, h3b⟩, n1⟩, n2⟩, hij⟩, l1⟩, l2⟩, h6⟩, h7⟩, h8⟩, h9⟩ := h
      subst q0 q1 i0 i1
      exact s_comp2 (C.zero h1) (C.calm h1) C.nd hij h3 h3b (sndI it X Z U _ _ C tk h7) (blkOk_by h6) (nmB_eq n1) (nmB_eq n2) (locB_eq l1) (locB_eq l2)
        (fun U' z1 z2 s H A cl fp => sndI it1 (X.blk s H scope (compEnvC scope cl A X.env) fp) Zf U' _ _ (C.blk h1 z1 z2 s H scope _ fp) takesN h8)
        (fun U' z1 z2 s H A cl fp => sndE elt (X.blk s H scope (compEnvC scope cl A X.env) fp) Zf U' _ (C.blk h1 z1 z2 s H scope _ fp) takesN h9)
    · cases h
  | .compH own h0 i elt e cond, cm, X, Z, U, p, C, tk, h => by
    unfold chkE at h
    split at h
    · next pe y py pi ifs a scope pos =>
      simp only [Bool.and_eq_true, Bool.not_eq_true', decide_eq_true_eq, Bool.or_eq_true] at h
      obtain ⟨⟨⟨⟨⟨⟨⟨⟨⟨h1, h2⟩, h3⟩, he⟩, h4⟩, h5⟩, h6⟩, h7⟩, h8⟩, h9⟩ := h
      subst h2
      exact s_compH (by rw [C.ue]; exact he) (C.hot h1).2 C.nd h3 (sndE e X Z U _ C tk h7) (blkOk_by h6) (nmB_eq h4) (locB_eq h5)
        (fun U' z1 z2 p hp s H A cl fp => sndE elt (blkH X s H scope (compEnvC scope cl A X.env) fp p) Zf U' _ (C.blkH h1 z1 z2 s H scope _ fp p hp) takesN h8)
        (fun U' z1 z2 p hp s H A cl fp => sndC cond (blkH X s H scope (compEnvC scope cl A X.env) fp p) Zf U' _ (C.blkH h1 z1 z2 s H scope _ fp p hp) takesN h9)
    · cases h
theorem sndT : ∀ (e : E) {cm : Md} (X : Cx) (Z : WX) (U : Ux) (p : Expr), Cok T U G k cm X → Takes X Z → chkE T.toTs cm X.N X.env.scope e p = true → PT X p (pT T U Z G k e) ∧ ((∃ op vs pos, p = .BoolOp op vs pos) → PW X p (pT T U Z G k e))
  | .and a b, cm, X, Z, U, p, C, tk, h => by
    cases p <;> simp only [chkE, Bool.false_eq_true] at h
    rename_i op vs pos
    match op, vs, h with
    | .And, pa :: r, h =>
      simp only [Bool.and_eq_true] at h
      have w : PW X (.BoolOp .And (pa :: r) pos) (pT T U Z G k (.and a b)) := by
        match r, h with
        | [], h => simp at h
        | [pb], h => exact s_andT (sndT a X Z U _ C tk h.1).1 (pw_and1 (sndT b X Z U _ C tk h.2).1)
        | pb :: pc :: r, h => exact s_andT (sndT a X Z U _ C tk h.1).1 ((sndT b X Z U _ C tk h.2).2 ⟨_, _, _, rfl⟩)
      exact ⟨w.pt, fun _ => w⟩
  | .or a b, cm, X, Z, U, p, C, tk, h => by
    cases p <;> simp only [chkE, Bool.false_eq_true] at h
    rename_i op vs pos
    match op, vs, h with
    | .Or, pa :: r, h =>
      simp only [Bool.and_eq_true] at h
      have w : PW X (.BoolOp .Or (pa :: r) pos) (pT T U Z G k (.or a b)) := by
        match r, h with
        | [], h => simp at h
        | [pb], h => exact s_orT (sndT a X Z U _ C tk h.1).1 (pw_or1 (sndT b X Z U _ C tk h.2).1)
        | pb :: pc :: r, h => exact s_orT (sndT a X Z U _ C tk h.1).1 ((sndT b X Z U _ C tk h.2).2 ⟨_, _, _, rfl⟩)
      exact ⟨w.pt, fun _ => w⟩
  | .not a, cm, X, Z, U, p, C, tk, h => by
    cases p <;> simp only [chkE, Bool.false_eq_true] at h
    rename_i op _ _
    cases op <;> simp only [Bool.false_eq_true] at h
    exact ⟨s_notT (sndT a X Z U _ C tk h).1, fun ⟨_, _, _, q⟩ => nomatch q⟩
  | .ite c a b, cm, X, Z, U, p, C, tk, h => by
    cases p <;> simp only [chkE, Bool.false_eq_true, Bool.and_eq_true] at h
    exact ⟨s_iteT (sndT c X Z U _ C tk h.1.1).1 (sndT a X Z U _ C tk h.1.2).1 (sndT b X Z U _ C tk h.2).1, fun ⟨_, _, _, q⟩ => nomatch q⟩
  | .cmp o a b, cm, X, Z, U, p, C, tk, h => by
    cases p <;> simp only [chkE, Bool.false_eq_true] at h
    rename_i l ops cs _
    match ops, cs, h with
    | [op], [pb], h =>
      simp only [Bool.and_eq_true, Bool.not_eq_true'] at h
      exact ⟨s_cmpT C.hu h.1.1.1 h.1.1.2 (sndE a X Z U _ C tk h.1.2) (sndE b X Z U _ C tk h.2), fun ⟨_, _, _, q⟩ => nomatch q⟩
  | .chain o q a b c, cm, X, Z, U, p, C, tk, h => by
    cases p <;> simp only [chkE, Bool.false_eq_true] at h
    rename_i l ops cs _
    match ops, cs, h with
    | [op, oq], [pb, pc], h =>
      simp only [Bool.and_eq_true, Bool.not_eq_true'] at h
      exact ⟨s_chainT C.hu h.1.1.1.1.1.1 h.1.1.1.1.1.2 h.1.1.1.1.2 h.1.1.1.2 (sndE a X Z U _ C tk h.1.1.2) (sndE b X Z U _ C tk h.1.2) (sndE c X Z U _ C tk h.2), fun ⟨_, _, _, q⟩ => nomatch q⟩
  | .var i, cm, X, Z, U, p, C, tk, h => by
    have hE := sndE (.var i) X Z U p C tk h
    cases p <;> simp only [chkE, Bool.false_eq_true] at h
    exact ⟨s_truth (fun _ => rfl) hE (fun g W Q Y z => by simp only [wpT] at z; simp only [wpE]; exact z), fun ⟨_, _, _, q⟩ => nomatch q⟩
  | .exI i c, cm, X, Z, U, p, C, tk, h => by
    have hE := sndE (.exI i c) X Z U p C tk h
    unfold chkE at h
    split at h
    · exact ⟨s_truth (fun _ => rfl) hE (fun g W Q Y z => by
        simp only [wpT] at z
        simp only [wpE]
        obtain ⟨C', fs, e, z⟩ := z
        exact ⟨C', fs, e, _, rfl, z⟩), fun ⟨_, _, _, q⟩ => nomatch q⟩
    · cases h
  | .exC f i, cm, X, Z, U, p, C, tk, h => by
    have hE := sndE (.exC f i) X Z U p C tk h
    unfold chkE at h
    split at h <;> first | (cases h; done) | skip
    exact ⟨s_truth (fun _ => rfl) hE (fun g W Q Y z => by simp only [wpT] at z; simp only [wpE]; exact z), fun ⟨_, _, _, q⟩ => nomatch q⟩
  | .exA _ _, cm, X, Z, U, p, C, tk, h => by
    all_goals exact ⟨⟨fun pins s σ H Q I ⟨g, W, rg, hw, z⟩ => by simp only [wpT] at z⟩, fun _ => ⟨fun wh pins s σ H Q I ⟨g, W, rg, hw, z⟩ => by simp only [wpT] at z⟩⟩
  | .bl b, cm, X, Z, U, p, C, tk, h => by
    have hE := sndE (.bl b) X Z U p C tk h
    cases p <;> simp only [chkE, Bool.false_eq_true] at h
    exact ⟨s_truth (fun _ => rfl) hE (fun g W Q Y z => by simp only [wpT] at z; simp only [wpE]; exact ⟨b, rfl, z⟩), fun ⟨_, _, _, q⟩ => nomatch q⟩
  | .idx a i, cm, X, Z, U, p, C, tk, h => by
    have hE := sndE (.idx a i) X Z U p C tk h
    cases p <;> simp only [chkE, Bool.false_eq_true] at h
    exact ⟨s_truth (fun _ => rfl) hE (fun g W Q Y z => by simp only [wpT] at z; simp only [wpE]; exact z), fun ⟨_, _, _, q⟩ => nomatch q⟩
  | .call f es, cm, X, Z, U, p, C, tk, h => by
    have hE := sndE (.call f es) X Z U p C tk h
    unfold chkE at h
    split at h <;> first | (cases h; done) | skip
    exact ⟨s_truth (fun _ => rfl) hE (fun g W Q Y z => by simp only [wpT] at z; simp only [wpE]; exact z), fun ⟨_, _, _, q⟩ => nomatch q⟩
  | .isi e c, cm, X, Z, U, p, C, tk, h => by
    have hE := sndE (.isi e c) X Z U p C tk h
    unfold chkE at h
    split at h <;> first | (cases h; done) | skip
    exact ⟨s_truth (fun _ => rfl) hE (fun g W Q Y z => by simp only [wpT] at z; simp only [wpE]; exact z), fun ⟨_, _, _, q⟩ => nomatch q⟩
  | .umeth m o es, cm, X, Z, U, p, C, tk, h => by
    have hE := sndE (.umeth m o es) X Z U p C tk h
    unfold chkE at h
    split at h <;> first | (cases h; done) | skip
    exact ⟨s_truth (fun _ => rfl) hE (fun g W Q Y z => by simp only [wpT] at z; simp only [wpE]; exact z), fun ⟨_, _, _, q⟩ => nomatch q⟩
  | .attr o f, cm, X, Z, U, p, C, tk, h => by
    have hE := sndE (.attr o f) X Z U p C tk h
    cases p <;> simp only [chkE, Bool.false_eq_true] at h
    exact ⟨s_truth (fun _ => rfl) hE (fun g W Q Y z => by simp only [wpT] at z; simp only [wpE]; exact z), fun ⟨_, _, _, q⟩ => nomatch q⟩
  | .own2 (.bin o m) a b, cm, X, Z, U, p, C, tk, h => by
    have hE := sndE (.own2 (.bin o m) a b) X Z U p C tk h
    unfold chkE at h
    split at h <;> first | (cases h; done) | skip
    exact ⟨s_truth (fun _ => rfl) hE (fun g W Q Y z => by simp only [wpT] at z; simp only [wpE]; exact z), fun ⟨_, _, _, q⟩ => nomatch q⟩
  | .own2 (.eq m) a b, cm, X, Z, U, p, C, tk, h => by
    unfold chkE at h
    split at h
    · simp only [Bool.and_eq_true, Bool.not_eq_true'] at h
      obtain ⟨⟨⟨⟨h1, h2⟩, h3⟩, h4⟩, h5⟩ := h
      exact ⟨s_own2eqT C h1 tk h2 (of_decide_eq_true h3) (sndE a X Z U _ C tk h4) (sndE b X Z U _ C tk h5), fun ⟨_, _, _, q⟩ => nomatch q⟩
    · cases h
  | .own2 (.mem neg m) a b, cm, X, Z, U, p, C, tk, h => by
    unfold chkE at h
    split at h
    · next pa op pb pos =>
      simp only [Bool.and_eq_true, Bool.not_eq_true'] at h
      obtain ⟨⟨⟨⟨⟨h1, h6⟩, h2⟩, h3⟩, h4⟩, h5⟩ := h
      have ho : op = if neg = true then .NotIn else .In := by
        cases op <;> simp at h6 <;> subst h6 <;> rfl
      subst ho
      exact ⟨s_own2memT C h1 tk h2 (of_decide_eq_true h3) (sndE a X Z U _ C tk h4) (sndE b X Z U _ C tk h5), fun ⟨_, _, _, q⟩ => nomatch q⟩
    · cases h
  | .own1 (.neg m) a, cm, X, Z, U, p, C, tk, h => by
    have hE := sndE (.own1 (.neg m) a) X Z U p C tk h
    unfold chkE at h
    split at h <;> first | (cases h; done) | skip
    exact ⟨s_truth (fun _ => rfl) hE (fun g W Q Y z => by simp only [wpT] at z; simp only [wpE]; exact z), fun ⟨_, _, _, q⟩ => nomatch q⟩
  | .own1 (.prop m) a, cm, X, Z, U, p, C, tk, h => by
    have hE := sndE (.own1 (.prop m) a) X Z U p C tk h
    unfold chkE at h
    split at h <;> first | (cases h; done) | skip
    exact ⟨s_truth (fun _ => rfl) hE (fun g W Q Y z => by simp only [wpT] at z; simp only [wpE]; exact z), fun ⟨_, _, _, q⟩ => nomatch q⟩
  | .umethK _ _ _ _ _ _, cm, X, Z, U, p, C, tk, h => by
    skip
    all_goals exact ⟨⟨fun pins s σ H Q I ⟨g, W, rg, hw, z⟩ => by simp only [wpT] at z⟩, fun _ => ⟨fun wh pins s σ H Q I ⟨g, W, rg, hw, z⟩ => by simp only [wpT] at z⟩⟩
  | .mkK _ _ _ _ _, cm, X, Z, U, p, C, tk, h => by
    skip
    all_goals exact ⟨⟨fun pins s σ H Q I ⟨g, W, rg, hw, z⟩ => by simp only [wpT] at z⟩, fun _ => ⟨fun wh pins s σ H Q I ⟨g, W, rg, hw, z⟩ => by simp only [wpT] at z⟩⟩
  | .lrng _ _, cm, X, Z, U, p, C, tk, h => by
    skip
    all_goals exact ⟨⟨fun pins s σ H Q I ⟨g, W, rg, hw, z⟩ => by simp only [wpT] at z⟩, fun _ => ⟨fun wh pins s σ H Q I ⟨g, W, rg, hw, z⟩ => by simp only [wpT] at z⟩⟩
  | .int _, cm, X, Z, U, p, C, tk, h => by
    skip
    all_goals exact ⟨⟨fun pins s σ H Q I ⟨g, W, rg, hw, z⟩ => by simp only [wpT] at z⟩, fun _ => ⟨fun wh pins s σ H Q I ⟨g, W, rg, hw, z⟩ => by simp only [wpT] at z⟩⟩
  | .str _, cm, X, Z, U, p, C, tk, h => by
    skip
    all_goals exact ⟨⟨fun pins s σ H Q I ⟨g, W, rg, hw, z⟩ => by simp only [wpT] at z⟩, fun _ => ⟨fun wh pins s σ H Q I ⟨g, W, rg, hw, z⟩ => by simp only [wpT] at z⟩⟩
  | .non, cm, X, Z, U, p, C, tk, h => by
    skip
    all_goals exact ⟨⟨fun pins s σ H Q I ⟨g, W, rg, hw, z⟩ => by simp only [wpT] at z⟩, fun _ => ⟨fun wh pins s σ H Q I ⟨g, W, rg, hw, z⟩ => by simp only [wpT] at z⟩⟩
  | .gint _ _, cm, X, Z, U, p, C, tk, h => by
    skip
    all_goals exact ⟨⟨fun pins s σ H Q I ⟨g, W, rg, hw, z⟩ => by simp only [wpT] at z⟩, fun _ => ⟨fun wh pins s σ H Q I ⟨g, W, rg, hw, z⟩ => by simp only [wpT] at z⟩⟩
  | .gstr _ _, cm, X, Z, U, p, C, tk, h => by
    skip
    all_goals exact ⟨⟨fun pins s σ H Q I ⟨g, W, rg, hw, z⟩ => by simp only [wpT] at z⟩, fun _ => ⟨fun wh pins s σ H Q I ⟨g, W, rg, hw, z⟩ => by simp only [wpT] at z⟩⟩
  | .bin _ _ _ _, cm, X, Z, U, p, C, tk, h => by
    skip
    all_goals exact ⟨⟨fun pins s σ H Q I ⟨g, W, rg, hw, z⟩ => by simp only [wpT] at z⟩, fun _ => ⟨fun wh pins s σ H Q I ⟨g, W, rg, hw, z⟩ => by simp only [wpT] at z⟩⟩
  | .neg _, cm, X, Z, U, p, C, tk, h => by
    skip
    all_goals exact ⟨⟨fun pins s σ H Q I ⟨g, W, rg, hw, z⟩ => by simp only [wpT] at z⟩, fun _ => ⟨fun wh pins s σ H Q I ⟨g, W, rg, hw, z⟩ => by simp only [wpT] at z⟩⟩
  | .lst _ _, cm, X, Z, U, p, C, tk, h => by
    skip
    all_goals exact ⟨⟨fun pins s σ H Q I ⟨g, W, rg, hw, z⟩ => by simp only [wpT] at z⟩, fun _ => ⟨fun wh pins s σ H Q I ⟨g, W, rg, hw, z⟩ => by simp only [wpT] at z⟩⟩
  | .tup _, cm, X, Z, U, p, C, tk, h => by
    skip
    all_goals exact ⟨⟨fun pins s σ H Q I ⟨g, W, rg, hw, z⟩ => by simp only [wpT] at z⟩, fun _ => ⟨fun wh pins s σ H Q I ⟨g, W, rg, hw, z⟩ => by simp only [wpT] at z⟩⟩
  | .rev _ _, cm, X, Z, U, p, C, tk, h => by
    skip
    all_goals exact ⟨⟨fun pins s σ H Q I ⟨g, W, rg, hw, z⟩ => by simp only [wpT] at z⟩, fun _ => ⟨fun wh pins s σ H Q I ⟨g, W, rg, hw, z⟩ => by simp only [wpT] at z⟩⟩
  | .slice _ _ _ _, cm, X, Z, U, p, C, tk, h => by
    skip
    all_goals exact ⟨⟨fun pins s σ H Q I ⟨g, W, rg, hw, z⟩ => by simp only [wpT] at z⟩, fun _ => ⟨fun wh pins s σ H Q I ⟨g, W, rg, hw, z⟩ => by simp only [wpT] at z⟩⟩
  | .callK _ _ _ _, cm, X, Z, U, p, C, tk, h => by
    skip
    all_goals exact ⟨⟨fun pins s σ H Q I ⟨g, W, rg, hw, z⟩ => by simp only [wpT] at z⟩, fun _ => ⟨fun wh pins s σ H Q I ⟨g, W, rg, hw, z⟩ => by simp only [wpT] at z⟩⟩
  | .blt b own es, cm, X, Z, U, p, C, tk, h => by
    have hE := sndE (.blt b own es) X Z U p C tk h
    unfold chkE at h
    split at h <;> first | (cases h; done) | skip
    exact ⟨s_truth (fun _ => rfl) hE (fun g W Q Y z => by simp only [wpT] at z; simp only [wpE]; exact z), fun ⟨_, _, _, q⟩ => nomatch q⟩
  | .meth _ _ _, cm, X, Z, U, p, C, tk, h => by
    skip
    all_goals exact ⟨⟨fun pins s σ H Q I ⟨g, W, rg, hw, z⟩ => by simp only [wpT] at z⟩, fun _ => ⟨fun wh pins s σ H Q I ⟨g, W, rg, hw, z⟩ => by simp only [wpT] at z⟩⟩
  | .mk _ _ _, cm, X, Z, U, p, C, tk, h => by
    skip
    all_goals exact ⟨⟨fun pins s σ H Q I ⟨g, W, rg, hw, z⟩ => by simp only [wpT] at z⟩, fun _ => ⟨fun wh pins s σ H Q I ⟨g, W, rg, hw, z⟩ => by simp only [wpT] at z⟩⟩
  | .compR _ _ _ _ _, cm, X, Z, U, p, C, tk, h => by
    skip
    all_goals exact ⟨⟨fun pins s σ H Q I ⟨g, W, rg, hw, z⟩ => by simp only [wpT] at z⟩, fun _ => ⟨fun wh pins s σ H Q I ⟨g, W, rg, hw, z⟩ => by simp only [wpT] at z⟩⟩
  | .comp2 _ _ _ _ _ _, cm, X, Z, U, p, C, tk, h => by
    skip
    all_goals exact ⟨⟨fun pins s σ H Q I ⟨g, W, rg, hw, z⟩ => by simp only [wpT] at z⟩, fun _ => ⟨fun wh pins s σ H Q I ⟨g, W, rg, hw, z⟩ => by simp only [wpT] at z⟩⟩
  | .compH _ _ _ _ _ _, cm, X, Z, U, p, C, tk, h => by
    skip
    all_goals exact ⟨⟨fun pins s σ H Q I ⟨g, W, rg, hw, z⟩ => by simp only [wpT] at z⟩, fun _ => ⟨fun wh pins s σ H Q I ⟨g, W, rg, hw, z⟩ => by simp only [wpT] at z⟩⟩
  | .rmeth _ _ _, cm, X, Z, U, p, C, tk, h => by
    skip
    all_goals exact ⟨⟨fun pins s σ H Q I ⟨g, W, rg, hw, z⟩ => by simp only [wpT] at z⟩, fun _ => ⟨fun wh pins s σ H Q I ⟨g, W, rg, hw, z⟩ => by simp only [wpT] at z⟩⟩
  | .lzip _, cm, X, Z, U, p, C, tk, h => by
    skip
    all_goals exact ⟨⟨fun pins s σ H Q I ⟨g, W, rg, hw, z⟩ => by simp only [wpT] at z⟩, fun _ => ⟨fun wh pins s σ H Q I ⟨g, W, rg, hw, z⟩ => by simp only [wpT] at z⟩⟩
  | .comp _ _ _ _ _, cm, X, Z, U, p, C, tk, h => by
    skip
    all_goals exact ⟨⟨fun pins s σ H Q I ⟨g, W, rg, hw, z⟩ => by simp only [wpT] at z⟩, fun _ => ⟨fun wh pins s σ H Q I ⟨g, W, rg, hw, z⟩ => by simp only [wpT] at z⟩⟩
theorem sndL : ∀ (es : List E) {cm : Md} (X : Cx) (Z : WX) (U : Ux) (ps : List Expr), Cok T U G k cm X → Takes X Z → chkEs T.toTs cm X.N X.env.scope es ps = true → PA X ps (pL T U Z G k es)
  | [], cm, X, Z, U, ps, C, tk, h => by
    cases ps with
    | nil => exact s_nil
    | cons p r => simp [chkEs] at h
  | e :: es, cm, X, Z, U, ps, C, tk, h => by
    cases ps with
    | nil => simp [chkEs] at h
    | cons p r =>
      simp only [chkEs, Bool.and_eq_true, Bool.not_eq_true'] at h
      exact s_cons h.1.1 (sndE e X Z U _ C tk h.1.2) (sndL es X Z U _ C tk h.2)
theorem sndKs : ∀ (es : List E) {cm : Md} (X : Cx) (Z : WX) (U : Ux) (ps : List Keyword), Cok T U G k cm X → Takes X Z → chkKs T.toTs cm X.N X.env.scope es ps = true → (ps.all (·.arg.isSome)) = true ∧ es.length = ps.length ∧ PK X ps (pL T U Z G k es)
  | [], cm, X, Z, U, ps, C, tk, h => by
    cases ps with
    | nil => exact ⟨rfl, rfl, ⟨fun pos pins s σ H Q I ⟨g, W, rg, hw, z⟩ => pk_nil.run pos pins s σ H Q I (by
        simp only [wpEs] at z
        exact z _ _ .nil hw .refl)⟩⟩
    | cons _ _ => simp [chkKs] at h
  | e :: es, cm, X, Z, U, ps, C, tk, h => by
    cases ps with
    | nil => simp [chkKs] at h
    | cons q r =>
      simp only [chkKs, Bool.and_eq_true] at h
      obtain ⟨⟨h1, h2⟩, h3⟩ := h
      obtain ⟨k1, k2, k3⟩ := sndKs es X Z U r C tk h3
      obtain ⟨nm, pe, kp⟩ := q
      have he := sndE e X Z U pe C tk h2
      refine ⟨by rw [List.all_cons, h1, k1]; rfl, congrArg Nat.succ k2, ⟨fun pos pins s σ H Q I ⟨g, W, rg, hw, z⟩ => (pk_cons he k3).run pos pins s σ H Q I ?_⟩⟩
      simp only [wpEs] at z
      refine tE_mono (moE e) (fun x H1 ⟨d, W1, r1, rg1, w1, e1, f⟩ => ?_) (one (moE e) rg hw z)
      exact ⟨g, W1, rg1, w1, moEs es (fun ds W2 f2 vs H2 r2 w2 e2 => f2 _ _ (.cons (r1.ext e2) r2) w2 (e1.trans e2)) (PostX.step e1) f⟩
theorem sndO : ∀ (o : Option E) {cm : Md} (X : Cx) (Z : WX) (U : Ux) (p : Option Expr), Cok T U G k cm X → Takes X Z → chkO T.toTs cm X.N X.env.scope o p = true → PO X p (pO T U Z G k o)
  | none, cm, X, Z, U, p, C, tk, h => by
    cases p with
    | none => exact s_none
    | some p => simp [chkO] at h
  | some e, cm, X, Z, U, p, C, tk, h => by
    cases p with
    | none => simp [chkO] at h
    | some p =>
      simp only [chkO] at h
      exact s_some (sndE e X Z U _ C tk h)
theorem sndC : ∀ (o : Option E) {cm : Md} (X : Cx) (Z : WX) (U : Ux) (ps : List Expr), Cok T U G k cm X → Takes X Z → chkC T.toTs cm X.N X.env.scope o ps = true → PTs X ps (tT T U Z (wpC G k T.toPm o))
  | none, cm, X, Z, U, ps, C, tk, h => by
    cases ps with
    | nil =>
      refine ⟨fun pins s σ H Q I ⟨g, W, rg, hw, z⟩ => pts_nil.run pins s σ H Q I ?_⟩
      simp only [wpC] at z
      exact z H hw .refl
    | cons p r => simp [chkC] at h
  | some e, cm, X, Z, U, ps, C, tk, h => by
    match ps, h with
    | [p], h =>
      simp only [chkC] at h
      have z := sndT e X Z U _ C tk h
      refine ⟨fun pins s σ H Q I ⟨g, W, rg, hw, y⟩ => (pts_one z.1).run pins s σ H Q I ?_⟩
      simp only [wpC] at y
      exact ⟨g, W, rg, hw, y⟩
    | [], h => simp [chkC] at h
    | _ :: _ :: _, h => simp [chkC] at h
theorem sndI : ∀ (i : I) {cm : Md} (X : Cx) (Z : WX) (U : Ux) (tg p : Expr), Cok T U G k cm X → Takes X Z → chkI T.toTs cm X.N X.env.scope tg i p = true → PI X tg p (pI T U Z G k i)
  | .seq e, cm, X, Z, U, tg, p, C, tk, h => by
    simp only [chkI] at h
    exact s_seq (sndE e X Z U _ C tk h)
  | .itf f es, cm, X, Z, U, tg, p, C, tk, h => by
    unfold chkI at h
    split at h
    · next x q ps pos =>
      simp only [Bool.and_eq_true, Bool.or_eq_true] at h
      obtain ⟨a, b⟩ := chk_star h.1.2
      exact s_itf C h.1.1.1 a b (of_decide_eq_true h.1.1.2) (h.2.imp of_decide_eq_true id) (sndL es X Z U _ C tk h.1.2)
    · cases h
  | .rng es, cm, X, Z, U, tg, p, C, tk, h => by
    unfold chkI at h
    split at h
    · next x q ps pos =>
      simp only [Bool.and_eq_true, Bool.or_eq_true] at h
      obtain ⟨a, b⟩ := chk_star h.2
      have ha := sndL es X Z U _ C tk h.2
      rcases h.1.2 with h12 | h3
      · exact s_rng C h.1.1 a b (h12.imp of_decide_eq_true of_decide_eq_true) ha
      · have h3 := of_decide_eq_true h3
        match ps, b, a, ha with
        | [pa, pb, pd], _, a, ha =>
          rw [List.any_cons, Bool.or_eq_false_iff] at a
          exact s_rng3 C h.1.1 a.1 a.2 h3 ha
        | [], b, _, _ => rw [h3] at b; simp at b
        | [_], b, _, _ => rw [h3] at b; simp at b
        | [_, _], b, _, _ => rw [h3] at b; simp at b
        | _ :: _ :: _ :: _ :: _, b, _, _ => rw [h3] at b; simp at b
    · cases h
end
end
end Tw
set_option maxHeartbeats 4000000
namespace Tw
open PySem PySem.Spec L2
open PyProof.Rows (b2i)
structure Ke.le (K K' : Ke) : Prop where
  nx : ∀ g W, K.nx g W → K'.nx g W
  rt : ∀ d W, K.rt d W → K'.rt d W
  bk : ∀ g W, K.bk g W → K'.bk g W
  ct : ∀ g W, K.ct g W → K'.ct g W
  xq : ∀ x g W, K.xq x g W → K'.xq x g W
theorem forL.mono {t : Tg} {w : Wt} {body : Ke → Gm → Om → Prop} (hb : ∀ K K' g W, Ke.le K K' → body K g W → body K' g W) {K K' : Ke} (h : Ke.le K K') : ∀ {ds : List D} {g : Gm} {W : Om}, forL t w body K ds g W → forL t w body K' ds g W
  | [], g, W, z => ⟨z.1, h.nx _ _ z.2⟩
  | d :: ds, g, W, z => ⟨z.1, setT.mono (fun g' z => by
      refine hb _ _ _ _ ?_ z
      exact ⟨fun _ _ z => forL.mono hb h z, h.rt, h.nx, fun _ _ z => forL.mono hb h z, h.xq⟩) z.2⟩
theorem whileW.mono {c : Gm → Om → (Bool → Om → Prop) → PX → Prop} {body : Ke → Gm → Om → Prop} (hc : MoT c) (hb : ∀ K K' g W, Ke.le K K' → body K g W → body K' g W) {K K' : Ke} (h : Ke.le K K') {g : Gm} {W : Om} : whileW c body K g W → whileW c body K' g W :=
  fun ⟨Iv, h0, ht⟩ => ⟨Iv, h0, fun n g W hI => hc (fun t W1 z => ite.mono (fun z => by
    refine hb _ _ _ _ ?_ z
    exact ⟨fun _ _ z => z, h.rt, h.nx, fun _ _ z => z, h.xq⟩) (fun z => h.nx _ _ z) z) (fun x W1 z => h.xq _ _ _ z) (ht n g W hI)⟩
theorem fldD.mono {P : Pm} {o : D} {f : Nat} {d : D} {W : Om} {p q : Om → Prop} (h : ∀ W, p W → q W) : fldD P o f d W p → fldD P o f d W q := by
  unfold fldD
  split
  · exact fun ⟨C, fs, a, b, c, z⟩ => ⟨C, fs, a, b, c, h _ z⟩
  · exact id
theorem subD.mono {o i : D} {d : D} {W : Om} {p q : Om → Prop} (h : ∀ W, p W → q W) : subD o i d W p → subD o i d W q := by
  unfold subD
  split
  · exact fun ⟨ds, j, a, b, z⟩ => ⟨ds, j, a, b, h _ z⟩
  · exact id
section
variable {G : Gs} {k : Nat} {P : Pm}
mutual
theorem moS : ∀ (s : S) {K K' : Ke} {g : Gm} {W : Om}, Ke.le K K' → wpS G k P s K g W → wpS G k P s K' g W
  | .expr e, K, K', g, W, h, z => by
    simp only [wpS] at z ⊢
    exact moE e (fun _ _ z => h.nx _ _ z) (fun _ _ z => h.xq _ _ _ z) z
  | .asg t e, K, K', g, W, h, z => by
    simp only [wpS] at z ⊢
    exact moE e (fun _ _ z => setT.mono (fun _ z => h.nx _ _ z) z) (fun _ _ z => h.xq _ _ _ z) z
  | .aug o i e, K, K', g, W, h, z => by
    simp only [wpS] at z ⊢
    obtain ⟨n, a, z⟩ := z
    exact ⟨n, a, moE e (fun _ _ z => onI.mono (fun _ z => h.nx _ _ z) z) (fun _ _ z => h.xq _ _ _ z) z⟩
  | .ret e, K, K', g, W, h, z => by
    simp only [wpS] at z ⊢
    exact moE e h.rt (fun _ _ z => h.xq _ _ _ z) z
  | .retN, K, K', g, W, h, z => by simp only [wpS] at z ⊢; exact h.rt _ _ z
  | .pass, K, K', g, W, h, z => by simp only [wpS] at z ⊢; exact h.nx _ _ z
  | .brk, K, K', g, W, h, z => by simp only [wpS] at z ⊢; exact h.bk _ _ z
  | .cont, K, K', g, W, h, z => by simp only [wpS] at z ⊢; exact h.ct _ _ z
  | .ite c a b, K, K', g, W, h, z => by
    simp only [wpS] at z ⊢
    exact moT c (fun _ _ z => ite.mono (fun z => moSs a h z) (fun z => moSs b h z) z) (fun _ _ z => h.xq _ _ _ z) z
  | .whl c b, K, K', g, W, h, z => by
    simp only [wpS] at z ⊢
    exact whileW.mono (body := wpSs G k P b) (moT c) (fun _ _ _ _ h z => moSs b h z) h z
  | .for t it b, K, K', g, W, h, z => by
    simp only [wpS] at z ⊢
    exact moI it (fun _ _ _ z => forL.mono (body := wpSs G k P b) (fun _ _ _ _ h z => moSs b h z) h z) (fun _ _ z => h.xq _ _ _ z) z
  | .fld o f e, K, K', g, W, h, z => by
    simp only [wpS] at z ⊢
    exact moE e (fun _ _ z => moE o (fun _ _ z => fldD.mono (fun _ z => h.nx _ _ z) z) (fun _ _ z => h.xq _ _ _ z) z) (fun _ _ z => h.xq _ _ _ z) z
  | .sub o i e, K, K', g, W, h, z => by
    simp only [wpS] at z ⊢
    exact moE e (fun _ _ z => moE o (fun _ _ z => moE i (fun _ _ z => subD.mono (fun _ z => h.nx _ _ z) z) (fun _ _ z => h.xq _ _ _ z) z) (fun _ _ z => h.xq _ _ _ z) z) (fun _ _ z => h.xq _ _ _ z) z
  | .raise C es, K, K', g, W, h, z => by
    simp only [wpS] at z ⊢
    exact moEs es (fun _ _ ⟨fs, a, b, z⟩ => ⟨fs, a, b, h.xq _ _ _ z⟩) (fun _ _ z => h.xq _ _ _ z) z
  | .frz i, K, K', g, W, h, z => by
    simp only [wpS] at z ⊢
    obtain ⟨a, ds, e1, e2, z⟩ := z
    exact ⟨a, ds, e1, e2, h.nx _ _ z⟩
  | .try b hs, K, K', g, W, h, z => by
    simp only [wpS] at z ⊢
    refine moSs b ?_ z
    exact ⟨h.nx, h.rt, h.bk, h.ct, fun _ _ _ z => moH hs h z⟩
theorem moH : ∀ (hs : Hs) {x : Exn} {K K' : Ke} {g : Gm} {W : Om}, Ke.le K K' → wpH G k P hs x K g W → wpH G k P hs x K' g W
  | .nil, x, K, K', g, W, h, z => by
    simp only [wpH] at z ⊢
    exact h.xq _ _ _ z
  | .cons cs none b r, x, K, K', g, W, h, z => by
    simp only [wpH] at z ⊢
    refine ite.mono (fun z => moSs b ?_ z) (fun z => moH r h z) z
    exact ⟨h.nx, h.rt, h.bk, h.ct, fun _ _ _ z => z⟩
  | .cons cs (some i) b r, x, K, K', g, W, h, z => by
    simp only [wpH] at z ⊢
    refine ite.mono (fun z => ⟨z.1, moSs b ?_ z.2⟩) (fun z => moH r h z) z
    exact ⟨fun _ _ z => h.nx _ _ z, h.rt, fun _ _ z => h.bk _ _ z, fun _ _ z => h.ct _ _ z, fun _ _ _ z => z⟩
theorem moSs : ∀ (ss : List S) {K K' : Ke} {g : Gm} {W : Om}, Ke.le K K' → wpSs G k P ss K g W → wpSs G k P ss K' g W
  | [], K, K', g, W, h, z => by simp only [wpSs] at z ⊢; exact h.nx _ _ z
  | s :: ss, K, K', g, W, h, z => by
    simp only [wpSs] at z ⊢
    refine moS s ?_ z
    exact ⟨fun _ _ z => moSs ss h z, h.rt, h.bk, h.ct, h.xq⟩
end
end
end Tw
set_option maxHeartbeats 4000000
namespace Tw
open PySem PySem.Spec L2
open PyProof.Rows
/-- a clause: its class, the slot of 'as', its suite's reading -/
structure Cse where
  c : Value
  sl : Option Nat
  ts : Addr → Obj → TS
def Ends.un (sl : Option Nat) (D : Ends) : Ends := match sl with
  | none => D
  | some i => { nx := fun σ' H' => D.nx (σ'.set i none) H', rt := D.rt, bk := fun σ' H' => D.bk (σ'.set i none) H', ct := fun σ' H' => D.ct (σ'.set i none) H' }
def stIn (sl : Option Nat) (a : Addr) (σ : L2.St) : L2.St := match sl with
  | none => σ
  | some i => σ.set i (some (.ref a))
/-- what the clauses wish of an exception of the body -/
def wT (K : PySem.W.Frag) (Wout : WX) (D : Ends) : List Cse → WX
  | [] => Wout
  | q :: r => fun cls d σ H => ∃ b, PySem.W.exmOne K cls q.c = some b ∧ (b = true → ∀ a oe, H a = none → oe.cls = cls → oe.dict = d → (∃ vs, oe.data = .fields vs) → q.ts a oe (Ends.un q.sl D) (stIn q.sl a σ) H) ∧ (b = false → wT K Wout D r cls d σ H)
/-- a clause's text -/
inductive SlOk (X : Cx) : Option Nat → Option Str → Prop
  | no : SlOk X none none
  | as {i : Nat} {n : Str} : X.N[i]? = some n → X.env.kindOf n = some .local → SlOk X (some i) (some n)
inductive CsOk (X : Cx) : List ExceptHandler → List Cse → Prop
  | nil : CsOk X [] []
  | cons {x : Str} {q : Cse} {on : Option Str} {b₀ : Stmt} {suite : List Stmt} {np pos' : Pos} {hds : List ExceptHandler} {l : List Cse} (hc : Names X x q.c) (hs : SlOk X q.sl on)
      (hsu : ∀ (a : Addr) (oe : Obj) (pn : List (Addr × Obj)), (∃ vs, oe.data = .fields vs) → PXN.CtxN oe → PSs (X.suite a ((a, oe) :: pn)) (b₀ :: suite) (q.ts a oe)) (r : CsOk X hds l) :
      CsOk X (.ExceptHandler (some (.Name x np)) on (b₀ :: suite) pos' :: hds) (q :: l)
section
variable {X : Cx} {body : List Stmt} {h₀ : ExceptHandler} {hds : List ExceptHandler} {l : List Cse} {pos : Pos} {tb : WX → TS} {Wout : WX}
theorem ps_try (hs : X.stack = X.env :: X.outer) (hf : X.env.frame = some X.env.locals) (hN : X.N.Nodup) (tk : L2N.Takes X Wout)
    (hb : ∀ (W : WX) (pn : List (Addr × Obj)) (xe : Value → Shared → Prop), L2N.Takes (X.tr pn xe) W → PassesOwn (model X.prog X.w) X.A X.env xe → PSs (X.tr pn xe) body (tb W)) (hh : CsOk X (h₀ :: hds) l) :
    PS X (.Try body (h₀ :: hds) [] [] pos) (fun D σ H => tb (wT X.K Wout D l) D σ H) := by
  refine ⟨fun pins s σ H D I h => ?_⟩
  have ok := I.ok
  have hfr : X.A.frames = some (X.env :: X.outer) := by rw [ok.frames, hs]
  refine wpAny_Try_except ?_
  refine wpAny_mono ((hb (wT X.K Wout D l) (X.pn ++ pins) (fun e s₁ => wpAny (model X.prog X.w) X.A (noteFrame e X.env) (fun _ s₂ => wpAny (model X.prog X.w) X.A (setFlight e none) (fun _ s₃ => wpAny (model X.prog X.w) X.A (handleBy e X.env (h₀ :: hds)) (SP X pins D) X.xe s₃) X.xe s₂) X.xe s₁)
    (fun u s' xx => ?_) PassesOwn.looking).run [] s σ H D (I.toTry _) h) (fun f s1 hsp => ?_) (fun e s1 he => he)
  · obtain ⟨a, B, sI, pins', σ', H', cls, d, rfl, J', nb, up, sky, na, os, ag, w⟩ := xx
    have J : L2.Inv X pins σ' H' sI := J'.ofTry ok
    have sky' : Sky B (X.env :: X.outer) a (L2N.Zn cls d) X.env.locals s'.heap := by rw [← hs]; exact sky
    show wpAny (model X.prog X.w) X.A (noteFrame (.ref a) X.env) _ _ _; refine L2N.Sky.land L2N.Zn.steady hfr hf sky' fun h3 fl3 up3 => ?_
    have J3 : L2.Inv X pins σ' H' { s' with heap := h3 } := J.landed nb fl3.1 (up.trans up3) os ag
    obtain ⟨oe3, vs3, he3, hz3, hd3⟩ := fl3.there
    have notFr : ∀ {h : Heap} {o : Obj} {vs : Array Value}, h.FunFrames B (X.env :: X.outer) → h.get? a = some o → o.data = .fields vs → a ∉ frs (X.env :: X.outer) := fun {h o vs} ff e dd hm => by
      obtain ⟨_, o', e', hnf⟩ := ff.mem hm; rw [e] at e'; cases e'; exact hnf _ dd
    have nfr := notFr fl3.2.2.1 he3 hd3
    have nL : a ≠ X.env.locals := fun z => nfr (List.mem_filterMap.mpr ⟨X.env, List.mem_cons_self, by rw [hf, z]⟩)
    have nF : a ∉ X.fs := fun hm => by
      obtain ⟨e, he, q⟩ := List.mem_filterMap.mp hm; exact nfr (List.mem_filterMap.mpr ⟨e, List.mem_cons_of_mem _ he, q⟩)
    have S3 := J3.suite he3 hd3 na nL nF
    have go : ∀ {hds' : List ExceptHandler} {l' : List Cse}, CsOk X hds' l' → wT X.K Wout D l' cls d σ' H' → wpAny (model X.prog X.w) X.A (handleBy (.ref a) X.env hds') (SP X pins D) X.xe { s' with heap := h3 } := by
      intro hds' l' hk
      induction hk with
      | nil =>
        intro w
        refine wpAny_handleBy_nil ?_; obtain ⟨k1, k2, k3, oe, vs, T, oT, ts', he, hz, hd, h1, hr⟩ := id fl3; unfold PySem.passOn
        refine wpAny_bind (wpAny_field he hd h1 ?_); rw [if_neg (show ¬ ((Value.ref T == Value.none) = true) from by simp)]
        have fin : wpAny (model X.prog X.w) X.A (setFlight (.ref a) X.env.frame) (fun _ s4 => wpAny (model X.prog X.w) X.A (throw (.ref a) : Sem Flow) (SP X pins D) X.xe s4) X.xe { s' with heap := h3 } := by
          rw [hf]; refine HandSPX.setFlight_upZ fl3 fun h4 hh4 up4 => wpAny_throw (tk _ _ ?_)
          exact ⟨a, B, sI, pins, σ', H', cls, d, rfl, J, nb, (up.trans up3).trans up4, .inr (.inr (by rw [hs]; exact hh4)), na, os, ag, w⟩
        first | exact wpAny_bind (wpAny_pure (wpAny_bind fin)) | exact wpAny_bind fin
      | @cons x q on b₀ suite np pos' hds2 l2 hc hsl hsu r ih =>
        intro w
        obtain ⟨b, hb1, hyes, hno⟩ := w
        refine wpAny_handleBy_cons (codeAny_handlers_test ?_) (by intro q; cases q)
        have LT : PySem.W.Looks (model X.prog X.w) h3 (typeOf (.ref a)) cls := fun A Q E s k q => wpAny_typeOf_ref (k _ _ he3) (by rw [hz3.1]; exact q)
        have LM := PySem.W.exm_one (M := model X.prog X.w) (J3.kIn) LT hb1
        have test : ∀ {Q : Value → Shared → Prop} {E : Value → Shared → Prop}, Q q.c { s' with heap := h3 } → wpAny (model X.prog X.w) (X.A.mark (some (.ref a))) (eval (.Name x np) X.env) Q E { s' with heap := h3 } := fun {Q E} q => by
          obtain ⟨hg, hdbg, hm | ⟨hm, hv, hnn⟩⟩ := hc
          · exact ld_glob (X := X.suite a ((a, oe3) :: (X.pn ++ pins))) S3 hg hm q hdbg
          · exact ld_blt (X := X.suite a ((a, oe3) :: (X.pn ++ pins))) S3 hg hm hv q hnn hdbg
        refine test (LM.here ?_)
        cases b with
        | false =>
          show wpAny _ X.A (handleBy (.ref a) X.env hds2) _ _ _; exact ih (hno rfl)
        | true =>
          obtain ⟨qc, qsl, qts⟩ := q
          have land : ∀ {P : Shared → Prop}, (∀ h4 oe4, (HandSPX.FlyingZ B (X.env :: X.outer) a (L2N.Zn cls d) h4) → L2.Inv (X.suite a ((a, oe4) :: (X.pn ++ pins))) [] σ' H' { s' with heap := h4 } → L2N.Zn cls d oe4 → (∃ vs, oe4.data = .fields vs) → P { s' with heap := h4 }) →
              ∀ h4, HandSPX.FlyingZ B (X.env :: X.outer) a (L2N.Zn cls d) h4 → h3.UpToSlots h4 → P { s' with heap := h4 } := fun {P} k h4 fl4 up4 => by
            have J4 : L2.Inv X pins σ' H' { s' with heap := h4 } := J.landed nb fl4.1 ((up.trans up3).trans up4) os ag
            obtain ⟨oe4, vs4, he4, hz4, hd4⟩ := fl4.there
            exact k h4 oe4 fl4 (J4.suite he4 hd4 na nL nF) hz4 ⟨_, hd4⟩
          cases hsl with
          | no =>
            refine codeAny_handlers_suite ?_
            refine HandSPX.lands_againZ fl3 (land (P := fun s4 => wpAny (model X.prog X.w) _ _ _ _ s4) fun h4 oe4 fl4 S4 hz4 hd4 => ?_)
            refine wpAny_mono ((hsu a oe4 (X.pn ++ pins) hd4 hz4.2.2).run [] _ _ H' _ S4 (hyes rfl a oe4 na hz4.1 hz4.2.1 hd4)) (fun f s6 hsp => ?_) (fun _ _ z => False.elim z)
            cases f with
            | ret u => obtain ⟨v6, σ6, H6, S6, r6, q6⟩ := hsp; exact ⟨_, _, _, S6.unsuite ok, r6, q6⟩
            | next => obtain ⟨σ6, H6, S6, q6⟩ := hsp; exact ⟨_, _, S6.unsuite ok, q6⟩
            | brk => obtain ⟨σ6, H6, S6, q6⟩ := hsp; exact ⟨_, _, S6.unsuite ok, q6⟩
            | cont => obtain ⟨σ6, H6, S6, q6⟩ := hsp; exact ⟨_, _, S6.unsuite ok, q6⟩
          | @as i n hi hln =>
            have hloc : Loc X.env.scope n := .inl hln
            refine codeAny_handlers_suite_as ?_
            refine HandSPX.lands_againZ fl3 (land (P := fun s4 => wpAny (model X.prog X.w) _ _ _ _ s4) fun h4 oe4 fl4 S4 hz4 hd4 => ?_)
            refine store_ok (X := X.suite a ((a, oe4) :: (X.pn ++ pins))) (v := .ref a) S4 hN hi hloc rfl (fun s5 S5 => ?_) (.inr hln)
            refine wpAny_mono ((hsu a oe4 (X.pn ++ pins) hd4 hz4.2.2).run [] s5 _ H' _ S5 (hyes rfl a oe4 na hz4.1 hz4.2.1 hd4)) (fun f s6 hsp => ?_) (fun _ _ z => False.elim z)
            have end_ : ∀ {σ6 : L2.St} {H6 : Hp} {Q : Shared → Prop}, L2.Inv (X.suite a ((a, oe4) :: (X.pn ++ pins))) [] σ6 H6 s6 → (∀ s7, L2.Inv X pins (σ6.set i none) H6 s7 → Q s7) →
              wpAny (model X.prog X.w) X.A (do bindName X.env n .none; unbindBehindTheSuite X.env n pos') (fun _ s7 => Q s7) X.xe s6 := fun {σ6 H6 Q} S6 hq => gone_ok (S6.unsuite ok) hN hi hln hq
            cases f with
            | ret u => obtain ⟨v6, σ6, H6, S6, r6, q6⟩ := hsp; exact end_ S6 fun s7 J7 => ⟨_, _, _, J7, r6, q6⟩
            | next => obtain ⟨σ6, H6, S6, q6⟩ := hsp; exact end_ S6 fun s7 J7 => ⟨_, _, J7, q6⟩
            | brk => obtain ⟨σ6, H6, S6, q6⟩ := hsp; exact end_ S6 fun s7 J7 => ⟨_, _, J7, q6⟩
            | cont => obtain ⟨σ6, H6, S6, q6⟩ := hsp; exact end_ S6 fun s7 J7 => ⟨_, _, J7, q6⟩
    exact go hh w
  · cases f with
    | next => obtain ⟨σ', H', J', q⟩ := hsp; exact wpAny_execs_nil ⟨σ', H', J'.ofTry ok, q⟩
    | brk => obtain ⟨σ', H', J', q⟩ := hsp; exact ⟨σ', H', J'.ofTry ok, q⟩
    | cont => obtain ⟨σ', H', J', q⟩ := hsp; exact ⟨σ', H', J'.ofTry ok, q⟩
    | ret u => obtain ⟨v, σ', H', J', r, q⟩ := hsp; exact ⟨v, σ', H', J'.ofTry ok, r, q⟩
end
end Tw
set_option maxHeartbeats 4000000
namespace Tw
open PySem PySem.Spec L2
open PyProof.Rows (b2i)
/-- a def's context, for statements -/
structure Sok (X : Cx) : Prop where
  own : PassesOwn (model X.prog X.w) X.A X.env X.xe
  fn : ∀ x, X.fn x = true
  kind : X.env.scope.kind = .function
  stk : X.stack = X.env :: X.outer
  frm : X.env.frame = some X.env.locals
def KD (T : Tb) (U : Ux) (Z : WX) (W : Om) (H : Hp) (D : Ends) : Ke where
  nx := fun g' W' => ∀ σ' H', RepG T U W' H' g' σ' → RepW T U W' H' → Ext W H W' H' → D.nx σ' H'
  rt := fun d W' => ∀ v H', Rep T U W' H' d v → RepW T U W' H' → Ext W H W' H' → D.rt v H'
  bk := fun g' W' => ∀ σ' H', RepG T U W' H' g' σ' → RepW T U W' H' → Ext W H W' H' → D.bk σ' H'
  ct := fun g' W' => ∀ σ' H', RepG T U W' H' g' σ' → RepW T U W' H' → Ext W H W' H' → D.ct σ' H'
  xq := fun x g' W' => ∀ c d σ' H', RepX T U W' H' x c d → RepG T U W' H' g' σ' → RepW T U W' H' → Ext W H W' H' → Z c d σ' H'
theorem KD.step {T : Tb} {U : Ux} {Z : WX} {W W1 : Om} {H H1 : Hp} {D : Ends} (e : Ext W H W1 H1) : Ke.le (KD T U Z W H D) (KD T U Z W1 H1 D) :=
  ⟨fun _ _ h σ H' a b c => h σ H' a b (e.trans c), fun _ _ h v H' a b c => h v H' a b (e.trans c), fun _ _ h σ H' a b c => h σ H' a b (e.trans c), fun _ _ h σ H' a b c => h σ H' a b (e.trans c),
    fun _ _ _ h c d σ H' a b x y => h c d σ H' a b x (e.trans y)⟩
def tS (T : Tb) (U : Ux) (Z : WX) (m : Ke → Gm → Om → Prop) : TS := fun D σ H => ∃ g W, RepG T U W H g σ ∧ RepW T U W H ∧ m (KD T U Z W H D) g W
abbrev pS (T : Tb) (U : Ux) (Z : WX) (G : Gs) (k : Nat) (s : S) : TS := tS T U Z (wpS G k T.toPm s)
abbrev pSs (T : Tb) (U : Ux) (Z : WX) (G : Gs) (k : Nat) (s : List S) : TS := tS T U Z (wpSs G k T.toPm s)
theorem _root_.L2.PS.to {X : Cx} {e : Stmt} {t t' : TS} (h : PS X e t) (hi : ∀ D σ H, t' D σ H → t D σ H) : PS X e t' := ⟨fun pins s σ H D I q => h.run pins s σ H D I (hi _ _ _ q)⟩
theorem _root_.L2.PSs.to {X : Cx} {e : List Stmt} {t t' : TS} (h : PSs X e t) (hi : ∀ D σ H, t' D σ H → t D σ H) : PSs X e t' := ⟨fun pins s σ H D I q => h.run pins s σ H D I (hi _ _ _ q)⟩
/-- KD's exceptions, for an expression evaluated at g -/
theorem KDx {T : Tb} {U : Ux} {Z : WX} {W : Om} {H : Hp} {D : Ends} {g : Gm} {σ : St} (rg : RepG T U W H g σ) : ∀ x W', (KD T U Z W H D).xq x g W' → PostX T U W H σ Z x W' := fun x W' h c d H' a b e => h c d σ H' a (rg.ext e) b e
theorem noswap {pe : Expr} {t : Option Expr} {l : Nat} {env : Env} (h : isComp pe = false) : swapsWith pe t l env = pure false := by
  cases pe <;> first | rfl | cases h
section
variable {T : Tb} {U : Ux} {X : Cx} {G : Gs} {k : Nat} {Z : WX} {cm : Md} {a b c : E} {pa pb pc : Expr} {pos : Pos} {es : List E} {ps : List Expr} {s : S} {ss : List S} {q : Stmt} {qs : List Stmt}
theorem t_nil : PSs X [] (pSs T U Z G k []) := pss_nil.to fun D σ H ⟨g, W, rg, hw, h⟩ => by
  simp only [wpSs] at h
  exact h σ H rg hw .refl
theorem t_cons (h1 : PS X q (pS T U Z G k s)) (h2 : PSs X qs (pSs T U Z G k ss)) : PSs X (q :: qs) (pSs T U Z G k (s :: ss)) := (pss_cons h1 h2).to fun D σ H ⟨g, W, rg, hw, h⟩ => by
  simp only [wpSs] at h
  refine ⟨g, W, rg, hw, moS s ?_ h⟩
  exact ⟨fun g' W' z σ' H' a b e => ⟨g', W', a, b, moSs ss (KD.step e) z⟩, fun _ _ z => z, fun _ _ z => z, fun _ _ z => z, fun _ _ _ z => z⟩
theorem t_frz {i : Nat} (hu : U.ei ≠ some i) (h2 : PSs X qs (pSs T U Z G k ss)) : PSs X qs (pSs T U Z G k (.frz i :: ss)) := h2.to fun D σ H ⟨g, W, rg, hw, h⟩ => by
  simp only [wpSs, wpS] at h
  obtain ⟨a, ds, e1, e2, h⟩ := h
  obtain ⟨v, h1, h2⟩ := rg.get hu e1
  cases h2
  have x : Ext W H (W.del a) H := Ext.sub Om.del_sub
  have z := RepG.set (hw.freeze e2) hu (rg.ext x)
  have hs : σ.set i (some (.ref a)) = σ := by
    refine List.ext_getElem? fun j => ?_
    by_cases hj : i = j
    · subst hj
      have hlt : i < σ.length := (List.getElem?_eq_some_iff.mp h1).1
      rw [List.getElem?_set_self hlt, h1]
    · rw [List.getElem?_set_ne hj]
  rw [hs] at z
  exact ⟨_, _, z, hw.sub Om.del_sub, moSs ss (KD.step x) h⟩
theorem t_expr (hc : isComp pa = false) (ha : PE X pa (pE T U Z G k a)) : PS X (.Expr pa pos) (pS T U Z G k (.expr a)) := (ps_expr ha (noswap hc)).to fun D σ H ⟨g, W, rg, hw, h⟩ => by
  simp only [wpS] at h
  exact tE_mono (moE a) (fun x H1 ⟨d, W1, r1, rg1, w1, e1, f⟩ => f σ H1 rg1 w1 e1) (one (moE a) rg hw (moE a (fun _ _ z => z) (KDx rg) h))
/-- the reading of a store of a name, at its value -/
theorem asg_read {j : Nat} (hu : U.ei ≠ some j) {D : Ends} {σ : St} {H : Hp} (h : pS T U Z G k (.asg (.name j) a) D σ H) : tAsg (pE T U Z G k a) (gName j) D σ H := by
  obtain ⟨g, W, rg, hw, h⟩ := h
  simp only [wpS] at h
  exact tE_mono (moE a) (fun x H1 ⟨d, W1, r1, rg1, w1, e1, f⟩ => f _ H1 (RepG.set r1 hu rg1) w1 e1) (one (moE a) rg hw (moE a (fun _ _ z => z) (KDx rg) h))
theorem t_set (O : Sok X) (hnd : X.N.Nodup) {j : Nat} (hu : U.ei ≠ some j) {z : Str} {pz : Pos} (hz : X.N[j]? = some z) (hl : Loc X.env.scope z) (hs : swapsWith pa (some (.Name z pz)) pos.line X.env = pure false) (ha : PE X pa (pE T U Z G k a)) :
    PS X (.Assign [.Name z pz] pa pos) (pS T U Z G k (.asg (.name j) a)) := (ps_set hnd hz hl ha hs (.inl (O.fn z))).to fun D σ H h => asg_read hu h
inductive NamesAre (X : Cx) : List Nat → List Expr → Prop
  | nil : NamesAre X [] []
  | cons {i : Nat} {x : Str} {p : Pos} {is : List Nat} {ts : List Expr} : X.N[i]? = some x → Loc X.env.scope x → NamesAre X is ts → NamesAre X (i :: is) (.Name x p :: ts)
theorem pgs_names (O : Sok X) (hnd : X.N.Nodup) : ∀ {is : List Nat} {ts : List Expr}, NamesAre X is ts → PGs X ts (gNs is) ∧ (assignEach ts X.env).length = is.length ∧ (assignEach ts X.env).findIdx? (·.1) = none
  | _, _, .nil => by
    refine ⟨⟨fun pins s σ H vs us Q I r ⟨σ', e, h⟩ => ?_⟩, rfl, rfl⟩
    cases r with
    | nil => cases e; exact pgs_nil.run pins s _ H [] [] Q I .nil ⟨rfl, h⟩
    | cons _ _ => cases e
  | _, _, .cons (i := i) (is := is) (ts := ts) hi hl h => by
    obtain ⟨h1, h2, h3⟩ := pgs_names O hnd h
    refine ⟨⟨fun pins s σ H vs us Q I r ⟨σ', e, q⟩ => ?_⟩, congrArg Nat.succ h2, ?_⟩
    · cases r with
      | nil => cases e
      | cons r rr => exact (pgs_cons (pg_name hnd hi hl (.inl (O.fn _))) h1).run pins s σ H _ _ Q I (.cons r rr) ⟨_, _, rfl, σ', e, q⟩
    · show (List.findIdx? _ ((false, _) :: assignEach ts X.env)) = none
      rw [List.findIdx?_cons, h3]
      rfl
theorem t_asgT (hc : isComp pa = false) {t : Tg} (ht : TgOk U t) {tg : Expr} (hg : PG X tg (gTg X.K t)) (hw : swappedStores [tg] pa X.env = pure none) (h1 : (assignEach [tg] X.env).map (·.2) = [assign tg X.env]) (ha : PE X pa (pE T U Z G k a)) :
    PS X (.Assign [tg] pa pos) (pS T U Z G k (.asg t a)) := (ps_asg ha hg (noswap hc) hw h1).to fun D σ H ⟨g, W, rg, hw, h⟩ => by
  simp only [wpS] at h
  exact tE_mono (moE a) (fun x H1 ⟨d, W1, r1, rg1, w1, e1, f⟩ => tg_read ht r1 rg1 f fun g' σ' r z => z σ' H1 r w1 e1) (one (moE a) rg hw (moE a (fun _ _ z => z) (KDx rg) h))
theorem t_aug (O : Sok X) (hnd : X.N.Nodup) {sub : Bool} {j : Nat} (hu : U.ei ≠ some j) {z : Str} {pz : Pos} (hz : X.N[j]? = some z) (hl : Loc X.env.scope z) (ha : PE X pa (pE T U Z G k a)) :
    PS X (.AugAssign (.Name z pz) (if sub = true then .Sub else .Add) pa pos) (pS T U Z G k (.aug sub j a)) := by
  have main : ∀ {op : Operator} {f : Int → Int → Int}, PIp X op (ipI f) → (∀ n m, f n m = if sub = true then n - m else n + m) → PS X (.AugAssign (.Name z pz) op pa pos) (pS T U Z G k (.aug sub j a)) := fun {op f} hp hf => (ps_aug hnd hz hl ha hp (.inl (O.fn z))).to fun D σ H ⟨g, W, rg, hw, h⟩ => by
    simp only [wpS] at h
    obtain ⟨n, e1, h⟩ := h
    obtain ⟨v, h1, r⟩ := rg.get hu e1
    cases r
    refine ⟨_, h1, tE_mono (moE a) (fun x H1 ⟨d, W1, r1, rg1, w1, e1, f1⟩ => ?_) (one (moE a) rg hw (moE a (fun _ _ z => z) (KDx rg) h))⟩
    cases d <;> first | exact f1.elim | skip
    cases r1
    exact ⟨_, _, rfl, rfl, f1 _ H1 (RepG.set (by rw [hf]; exact .int _) hu rg1) w1 e1⟩
  cases sub with
  | true => exact main ip_sub fun _ _ => rfl
  | false => exact main ip_add fun _ _ => rfl
theorem t_ret (ha : PE X pa (pE T U Z G k a)) : PS X (.Return (some pa) pos) (pS T U Z G k (.ret a)) := (ps_ret ha).to fun D σ H ⟨g, W, rg, hw, h⟩ => by
  simp only [wpS] at h
  exact ⟨g, W, rg, hw, moE a (fun _ _ z => z) (KDx rg) h⟩
theorem t_retN : PS X (.Return none pos) (pS T U Z G k .retN) := ps_retN.to fun D σ H ⟨g, W, rg, hw, h⟩ => by
  simp only [wpS] at h
  exact h _ _ .non hw .refl
theorem t_pass : PS X (.Pass pos) (pS T U Z G k .pass) := ps_pass.to fun D σ H ⟨g, W, rg, hw, h⟩ => by
  simp only [wpS] at h
  exact h _ _ rg hw .refl
theorem t_brk : PS X (.Break pos) (pS T U Z G k .brk) := ps_break.to fun D σ H ⟨g, W, rg, hw, h⟩ => by
  simp only [wpS] at h
  exact h _ _ rg hw .refl
theorem t_cont : PS X (.Continue pos) (pS T U Z G k .cont) := ps_continue.to fun D σ H ⟨g, W, rg, hw, h⟩ => by
  simp only [wpS] at h
  exact h _ _ rg hw .refl
theorem t_if {s1 s2 : List S} {q1 q2 : List Stmt} (hc : PT X pc (pT T U Z G k c)) (h1 : PSs X q1 (pSs T U Z G k s1)) (h2 : PSs X q2 (pSs T U Z G k s2)) : PS X (.If pc q1 q2 pos) (pS T U Z G k (.ite c s1 s2)) := (ps_if hc h1 h2).to fun D σ H ⟨g, W, rg, hw, h⟩ => by
  simp only [wpS] at h
  refine tT_mono (moT c) (fun t H1 ⟨W1, rg1, w1, e1, f⟩ => ?_) (oneT (moT c) rg hw (moT c (fun _ _ z => z) (KDx rg) h))
  cases t with
  | true => exact ⟨g, W1, rg1, w1, moSs s1 (KD.step e1) f⟩
  | false => exact ⟨g, W1, rg1, w1, moSs s2 (KD.step e1) f⟩
theorem t_while (O : Sok X) {s1 : List S} {q1 : List Stmt} (hc : PT X pc (pT T U Z G k c)) (h1 : PSs X q1 (pSs T U Z G k s1)) : PS X (.While pc q1 [] pos) (pS T U Z G k (.whl c s1)) := (ps_while O.own hc h1).to fun D σ H ⟨g, W, rg, hw, h⟩ => by
  simp only [wpS] at h
  obtain ⟨Iv, ⟨n0, h0⟩, ht⟩ := h
  refine ⟨fun m σ' H' => ∃ g' W', RepG T U W' H' g' σ' ∧ RepW T U W' H' ∧ Ext W H W' H' ∧ Iv m g' W', ⟨n0, g, W, rg, hw, .refl, h0⟩, ?_⟩
  rintro m σ1 H1 ⟨g1, W1, rg1, w1, e1, hI⟩
  have z := ht m g1 W1 hI
  refine tT_mono (moT c) (fun t H2 ⟨W2, rg2, w2, e2, f⟩ => ?_) (oneT (moT c) rg1 w1 (moT c (fun _ _ z => z) (fun x W' z cc d H' a b e => z cc d σ1 H' a (rg1.ext e) b (e1.trans e)) z))
  cases t with
  | false => exact f _ _ rg2 w2 (e1.trans e2)
  | true =>
    refine ⟨fun σ' H' => ∃ m', m' < m ∧ ∃ g' W', RepG T U W' H' g' σ' ∧ RepW T U W' H' ∧ Ext W H W' H' ∧ Iv m' g' W', fun σ' H' z => z, ?_⟩
    have e12 := e1.trans e2
    refine ⟨g1, W2, rg2, w2, moSs s1 ?_ f⟩
    exact ⟨fun g' W' ⟨m', hm, hI'⟩ σ' H' a b e => ⟨m', hm, g', W', a, b, e12.trans e, hI'⟩, fun _ _ z v H' a b e => z v H' a b (e12.trans e), fun _ _ z σ' H' a b e => z σ' H' a b (e12.trans e),
      fun g' W' ⟨m', hm, hI'⟩ σ' H' a b e => ⟨m', hm, g', W', a, b, e12.trans e, hI'⟩, fun _ _ _ z c d σ' H' a b x e => z c d σ' H' a b x (e12.trans e)⟩
theorem for_read {t : Tg} (ht : TgOk U t) {it : I} {s1 : List S} {D : Ends} {σ : St} {H : Hp} (hh : pS T U Z G k (.for t it s1) D σ H) : tFor (pI T U Z G k it) (gTg X.K t) (pSs T U Z G k s1) D σ H := by
  obtain ⟨g, W, rg, hw, h⟩ := hh
  simp only [wpS] at h
  refine ⟨g, W, rg, hw, moI it (fun wt ds W1 f J H1 w1 e1 Y => ?_) (KDx rg) h⟩
  refine ⟨fun i m σ' H' => m = ds.length - i ∧ i ≤ ds.length ∧ ∃ g' W', RepG T U W' H' g' σ' ∧ RepW T U W' H' ∧ Ext W1 H1 W' H' ∧ forL t wt (wpSs G k T.toPm s1) (KD T U Z W H D) (ds.drop i) g' W', ⟨_, rfl, Nat.zero_le _, g, W1, rg.ext e1, w1, .refl, f⟩, ?_⟩
  rintro i m σ2 H2 ⟨rfl, hi, g2, W2, rg2, w2, e2, f2⟩
  rcases Nat.lt_or_ge i ds.length with hlt | hge
  · have hg0 : ds[i]? = some ds[i] := List.getElem?_eq_getElem hlt
    have hdrop : ds.drop i = ds[i] :: ds.drop (i + 1) := List.drop_eq_getElem_cons hlt
    generalize ds[i] = d0 at hg0 hdrop
    rw [hdrop] at f2
    refine .inr ⟨Y.go U i W2 H2 (fun _ z => z) e2.P w2 f2.1 hlt, fun σ' H' => i + 1 ≤ ds.length ∧ ∃ g' W', RepG T U W' H' g' σ' ∧ RepW T U W' H' ∧ Ext W1 H1 W' H' ∧ forL t wt (wpSs G k T.toPm s1) (KD T U Z W H D) (ds.drop (i + 1)) g' W', fun σ' H' z => ⟨_, by omega, rfl, z⟩, fun x H3 yl => ?_⟩
    obtain ⟨d, hd, rx, w3, e3⟩ := Y.yld U i W2 H2 x H3 (fun _ z => z) (fun _ z => .inl z) e2.P w2 f2.1 hlt yl
    replace f2 := f2.2
    obtain rfl : d = d0 := by rw [hg0] at hd; exact (Option.some.inj hd).symm
    refine tg_read ht rx (rg2.ext e3) f2 fun g3 σ3 r3 z => ?_
    have e23 := e2.trans e3
    have eH := e1.trans e23
    refine ⟨g3, W2, r3, w3, moSs s1 ?_ z⟩
    exact ⟨fun g' W' z σ' H' a b e => ⟨hlt, g', W', a, b, e23.trans e, z⟩, fun _ _ z v H' a b e => z v H' a b (eH.trans e), fun _ _ z σ' H' a b e => z σ' H' a b (eH.trans e),
      fun g' W' z σ' H' a b e => ⟨hlt, g', W', a, b, e23.trans e, z⟩, fun _ _ _ z c d σ' H' a b x e => z c d σ' H' a b x (eH.trans e)⟩
  · have e0 : i = ds.length := Nat.le_antisymm hi hge
    subst e0
    rw [List.drop_length] at f2
    refine .inl ⟨Y.stop U _ W2 H2 (fun _ z => z) e2.P w2 f2.1 (Nat.le_refl _) (Nat.le_refl _), ?_⟩
    exact f2.2 _ _ rg2 w2 (e1.trans e2)
theorem t_for (hc : X.calm = true) (O : Sok X) {t : Tg} (ht : TgOk U t) {tg pi : Expr} {it : I} {s1 : List S} {q1 : List Stmt} (hset : isSet pi = false) (hi : PI X tg pi (pI T U Z G k it)) (hg : PG X tg (gTg X.K t)) (h1 : PSs X q1 (pSs T U Z G k s1)) :
    PS X (.For tg pi q1 [] pos) (pS T U Z G k (.for t it s1)) := (ps_for O.own hc hi hg h1 (fun x => by cases pi <;> first | rfl | cases hset)).to fun D σ H h => for_read ht h
/-- in an except suite: over range(n) -/
theorem t_forH (hc : L2H.HotC X) (O : Sok X) {t : Tg} (ht : TgOk U t) {tg pi : Expr} {it : I} {s1 : List S} {q1 : List Stmt} (hset : isSet pi = false) (hi : L2H.PIH X tg pi (pI T U Z G k it)) (hg : PG X tg (gTg X.K t)) (h1 : PSs X q1 (pSs T U Z G k s1)) :
    PS X (.For tg pi q1 [] pos) (pS T U Z G k (.for t it s1)) := by
  refine PS.to (L2H.ps_forH O.own hc hi hg h1 (fun x => by cases pi <;> first | rfl | cases hset)) fun D σ H h => for_read ht h
theorem s_rngH (C : Cok T U G k cm X) {e : E} {tg pe : Expr} {x : Str} {p : Pos} (hx : gloB X.env.scope x "range" = true) (hs : isStar pe = false) (ha : PA X [pe] (pL T U Z G k [e])) : L2H.PIH X tg (.Call (.Name x p) [pe] [] pos) (pI T U Z G k (.rng [e])) := by
  obtain ⟨e1, e2, e3, e4⟩ := glo hx
  subst e1
  have gm : X.mg "range" = none := C.blt _ (by simp [bltNames])
  have z := L2H.pi_range1H (tg := tg) (p := p) (pos := pos) e2 gm ha (star1 hs)
  refine ⟨fun pins s σ H R I ⟨g, W, rg, hw, h⟩ => z.run pins s σ H R I ?_⟩
  simp only [wpI] at h
  refine tL_mono (moEs [e]) (fun vs H1 ⟨ds, W1, r1, rg1, w1, e5, hd, f⟩ => ?_) (oneL (moEs [e]) rg hw (lenEs h))
  match ds, hd, r1, f with
  | [d], _, r1, f =>
    obtain ⟨v, rfl, r⟩ := r1.one
    cases d <;> first | exact f.elim | skip
    cases r
    exact ⟨_, rfl, f.1.1, f.1.2, f.2 _ H1 w1 e5 yields_range⟩
theorem t_fld (C : Cok T U G k cm X) {f : Nat} {p' : Pos} {o : E} {po : Expr} (hf : f < T.nf) (hc : isComp pa = false) (ho : PE X po (pE T U Z G k o)) (ha : PE X pa (pE T U Z G k a)) :
    PS X (.Assign [.Attribute po (T.fnm f) p'] pa pos) (pS T U Z G k (.fld o f a)) := (ps_fld ho ha (noswap hc)).to fun D σ H ⟨g, W, rg, hw, h⟩ => by
  simp only [wpS] at h
  refine tE_mono (moE a) (fun y H1 z => tE_mono (moE o) (fun x H2 ⟨d, e, W2, rd, re, rg2, w2, e2, f2⟩ => ?_) z) (two (moE a) (moE o) rg hw (moE a (fun d W1 z => moE o (fun _ _ z => z) (KDx rg) z) (KDx rg) h))
  unfold fldD at f2
  split at f2
  · obtain ⟨C', fs, e3, e4, e5, f2⟩ := f2
    cases re
    obtain ⟨oo, h1, h2⟩ := w2.cell_ _ _ e3
    cases h2 with
    | ins q r =>
      obtain ⟨c1, c2⟩ := C.fld _ _ e4
      refine ⟨_, _, _, _, rfl, h1, c1, c2, by rw [← r.length]; omega, ?_⟩
      have all : ((putN f d fs).all fun p => T.fld C' p.1) = true := by
        clear f2 e3 e5 h1 r
        induction fs with
        | nil => simp [putN, e4]
        | cons p r ih =>
          rw [List.all_cons, Bool.and_eq_true] at q
          unfold putN
          split
          · rw [List.all_cons, Bool.and_eq_true]; exact q
          · rw [List.all_cons, Bool.and_eq_true]; exact ⟨q.1, ih q.2⟩
      exact f2 σ _ (rg2.ext (Ext.write e3)) (w2.write e3 (.ins all (RepF.put hf rd r))) (e2.trans (Ext.write e3))
  · exact f2.elim
theorem t_sub {p' : Pos} {o i : E} {po pi : Expr} (hc : isComp pa = false) (ho : PE X po (pE T U Z G k o)) (hi : PE X pi (pE T U Z G k i)) (ha : PE X pa (pE T U Z G k a))
    (hasg : ∀ v, assign (.Subscript po pi p') X.env v = (do
      let ov ← holding [v] (eval po X.env)
      let iv ← holding [v, ov] (eval pi X.env)
      standAt p'
      holding [v, ov, iv] (setItem ov iv v)
      release [v, ov, iv] [])) :
    PS X (.Assign [.Subscript po pi p'] pa pos) (pS T U Z G k (.sub o i a)) := (ps_asg (pos := pos) ha (pg_sub ho hi set_list hasg) (noswap (t := some (.Subscript po pi p')) (l := pos.line) (env := X.env) hc) (by rfl) (by rfl)).to fun D σ H ⟨g, W, rg, hw, h⟩ => by
  simp only [wpS] at h
  refine tE_mono (moE a) (fun y H1 ⟨d, W1, r1, rg1, w1, e1, f⟩ => ?_) (one (moE a) rg hw (moE a (fun _ _ z => z) (KDx rg) h))
  refine tE_mono (moE o) (fun x H2 z => tE_mono (moE i) (fun w H3 ⟨e, di, W3, re, ri, rg3, w3, e3, f3⟩ => ?_) z) (two (moE o) (moE i) rg1 w1 (moE o (fun dd W2 z => moE i (fun _ _ z => z) (fun x W' z cc d H' a b e => z cc d σ H' a (rg1.ext e) b (e1.trans e)) z) (fun x W' z cc d H' a b e => z cc d σ H' a (rg1.ext e) b (e1.trans e)) f))
  unfold subD at f3
  split at f3
  · obtain ⟨ds, j, e4, e5, f3⟩ := f3
    cases re
    cases ri
    obtain ⟨vs, h1, rs⟩ := cellOf w3 e4
    exact ⟨_, _, _, j, rfl, rfl, h1, by rw [← rs.length]; exact e5, f3 σ _ (rg3.ext (Ext.write e4)) (w3.write e4 (.lst (Reps.set (r1.ext e3) j rs))) ((e1.trans e3).trans (Ext.write e4))⟩
  · exact f3.elim
end
end Tw
set_option maxHeartbeats 4000000
namespace Tw
open PySem PySem.Spec L2
open PyProof.Rows (b2i)
theorem lcB_eq {sc : Scope} {x : Str} (h : lcB sc x = true) : Loc sc x := by
  unfold lcB at h
  split at h
  · next q => exact .inl q
  · next q => exact .inr q
  · cases h
/-- raise C(..): what the class must have -/
structure Rok (T : Tb) (X : Cx) : Prop where
  r0 : ∀ (C : Nat), T.xin C = some [] → T.isC C = true → ∀ (x : Str) (p pos : Pos), gloB X.env.scope x (T.cn C) = true → PMk X (.Call (.Name x p) [] [] pos) (fun σ H Q => Q (.ref (T.cad C)) none H)
  r1 : ∀ (C f : Nat), T.xin C = some [f] → T.isC C = true → ∀ (x : Str) (p pos : Pos) (pe : Expr) (t : TA), gloB X.env.scope x (T.cn C) = true → isStar pe = false → PA X [pe] t →
    PMk X (.Call (.Name x p) [pe] [] pos) (fun σ H Q => t σ H fun vs H1 => ∃ v, vs = [v] ∧ ∀ d, H1 d = none → Q (.ref (T.cad C)) (some d) (upd H1 d (.xd [(T.fnm f, v)])))
section
variable {T : Tb} {G : Gs} {k : Nat} {cm : Md} {U : Ux} {X : Cx} {Z : WX}
theorem t_raise (hc : X.calm = true) (tk : Takes X Z) (R : Rok T X) (hxl : ∀ C fs, T.xin C = some fs → ∀ f ∈ fs, f < T.nf) {C : Nat} {es : List E} {ps : List Expr} {x : Str} {p pos pos' : Pos} (hC : T.isC C = true) (hX : T.isX C = true)
    (hsm : (match T.xin C with | some fs => decide (fs.length = es.length) && decide (fs.length ≤ 1) | none => false) = true) (hx : gloB X.env.scope x (T.cn C) = true) (hs : ps.any isStar = false) (hn : es.length = ps.length) (ha : PA X ps (pL T U Z G k es)) :
    PS X (.Raise (some (.Call (.Name x p) ps [] pos)) none pos') (pS T U Z G k (.raise C es)) := by
  refine ⟨fun pins s σ H D I ⟨g, W, rg, hw, h⟩ => ?_⟩
  simp only [wpS] at h
  cases hxn : T.xin C with
  | none => rw [hxn] at hsm; cases hsm
  | some fs =>
    rw [hxn] at hsm
    simp only [Bool.and_eq_true, decide_eq_true_eq] at hsm
    match fs, hxn, hsm with
    | [], hxn, hsm =>
      match es, ps, hsm, hn, ha with
      | [], [], _, _, _ =>
        refine (L2N.ps_raise (W := Z) hc tk (R.r0 C hxn hC x p pos hx)).run pins s σ H D I ?_
        simp only [wpEs] at h
        obtain ⟨fs', e2, e3, f⟩ := h
        rw [hxn] at e2
        cases e2
        exact f _ _ σ H (.bare hX) rg hw .refl
    | [f0], hxn, hsm =>
      match es, ps, hsm, hn, ha, hs with
      | [e], [pe], _, _, ha, hs =>
        rw [List.any_cons, Bool.or_eq_false_iff] at hs
        refine (L2N.ps_raise (W := Z) hc tk (R.r1 C f0 hxn hC x p pos pe _ hx hs.1 ha)).run pins s σ H D I ?_
        refine tL_mono (moEs [e]) (fun vs H1 ⟨ds, W1, r1, rg1, w1, e1, fs', e2, e3, f⟩ => ?_) (oneL (moEs [e]) rg hw (moEs [e] (fun _ _ z => z) (KDx rg) h))
        rw [hxn] at e2
        cases e2
        match ds, e3, r1, f with
        | [d0], _, r1, f =>
          obtain ⟨v, rfl, r⟩ := r1.one
          refine ⟨v, rfl, fun d hd => ?_⟩
          have x := Ext.fresh (o := .xd [(T.fnm f0, v)]) hd w1
          exact f _ _ σ _ (.dict hX x.2 upd_same (.cons (hxl C _ hxn f0 List.mem_cons_self) (r.ext x.1) .nil)) (rg1.ext x.1) (w1.fresh hd) (e1.trans x.1)
    | _ :: _ :: _, hxn, hsm => simp at hsm
theorem names_ok : ∀ {is : List Nat} {ts : List Expr}, namesB X.N X.env.scope is ts = true → NamesAre X is ts
  | [], ts, h => by
    cases ts with
    | nil => exact .nil
    | cons _ _ => simp [namesB] at h
  | i :: is, ts, h => by
    unfold namesB at h
    split at h
    · simp only [Bool.and_eq_true] at h
      exact .cons (nmB_eq h.1.1) (lcB_eq h.1.2) (names_ok h.2)
    · cases h
theorem tg_ok (C : Cok T U G k cm X) (O : Sok X) {t : Tg} {tg : Expr} (h : chkT X.N X.env.scope cm t tg = true) : PG X tg (gTg X.K t) := by
  cases t with
  | name i =>
    simp only [chkT] at h
    split at h
    · simp only [Bool.and_eq_true] at h
      exact pg_name C.nd (nmB_eq h.1.1) (lcB_eq h.1.2) (.inl (O.fn _))
    · cases h
  | tup is =>
    simp only [chkT] at h
    split at h
    · simp only [Bool.and_eq_true] at h
      obtain ⟨h1, h2, h3⟩ := pgs_names O C.nd (names_ok h.2)
      exact pg_tup (C.calm h.1) h1 h2 h3
    · cases h
theorem tg_spare (C : Cok T U G k cm X) {t : Tg} {tg : Expr} (h : chkT X.N X.env.scope cm t tg = true) : TgOk U t := by
  cases t with
  | name i =>
    simp only [chkT] at h
    split at h
    · exact C.no (Bool.and_eq_true_iff.mp h).2
    · cases h
  | tup is =>
    simp only [chkT] at h
    split at h
    · exact TgOk.zero (C.zero (Bool.and_eq_true_iff.mp h).1) _
    · cases h
/-- the same beyond what a body's frame may change -/
def RokA (T : Tb) (X : Cx) : Prop := ∀ X' : Cx, X'.prog = X.prog → X'.K = X.K → X'.mg = X.mg → X'.A = X.A → Rok T X'
theorem swap_tup {ts : List Expr} {j : Nat} {pt : Pos} {p : Expr} {env : Env} (h : isTup p = false) : swappedStores [.Tuple ts j pt] p env = pure none := by
  cases p <;> first | rfl | cases h
theorem sub_assign {po pi : Expr} {p' : Pos} {env : Env} (h : isSlice pi = false) : ∀ v, assign (.Subscript po pi p') env v = (do
      let ov ← holding [v] (eval po env)
      let iv ← holding [v, ov] (eval pi env)
      standAt p'
      holding [v, ov, iv] (setItem ov iv v)
      release [v, ov, iv] []) := by
  intro v
  cases pi <;> first | rfl | cases h
theorem Cok.tr (C : Cok T U G k cm X) (hcm : cm.calm = true) (pn : List (Addr × Obj)) (xe : Value → Shared → Prop) : Cok T U G k cm (X.tr pn xe) :=
  ⟨C.nd, C.ue, fun p hp => absurd hp (by rw [C.cp hcm]; exact List.not_mem_nil), C.ce, C.cp, C.calm, C.room, fun z => (Bool.noConfusion (hcm.symm.trans z)), C.len, C.fn, C.gl, C.mth, C.fld, C.ini, C.cls, C.cI, C.cS, C.blt, C.exs, C.own, C.top, (fun i e => nomatch (show some i = none from e.symm.trans (C.ce hcm))), C.fx⟩
theorem Cok.suite (C : Cok T U G k cm X) (hcm : cm.calm = true) {sl : Option Nat} {a : Addr} {oe : Obj} {pn : List (Addr × Obj)} (hd : ∃ vs, oe.data = .fields vs) (hx : PXN.CtxN oe) : Cok T ⟨U.hid, sl, [(a, oe)]⟩ G k ⟨false, sl, false⟩ (X.suite a ((a, oe) :: pn)) := by
  obtain ⟨vs, hv⟩ := hd
  exact ⟨C.nd, rfl, fun p hp => (List.mem_singleton.mp hp) ▸ List.mem_cons_self, (fun z => nomatch z), (fun z => nomatch z), (fun z => nomatch z), (fun z => nomatch z),
    fun _ => ⟨⟨(C.room hcm).dp, (C.room hcm).un⟩, (a, oe), ⟨rfl, vs, hv, hx vs hv⟩, List.mem_cons_self⟩, C.len, C.fn, C.gl, C.mth, C.fld, C.ini, C.cls, C.cI, C.cS, C.blt, C.exs, C.own, (fun z => nomatch (show false = true from z)), (fun _ _ p hp => by rw [List.mem_singleton.mp hp]; rfl), C.fx⟩
mutual
theorem sndS (hxl : ∀ C fs, T.xin C = some fs → ∀ f ∈ fs, f < T.nf) : ∀ (s : S) (cm : Md) (X : Cx) (Z : WX) (U : Ux) (q : Stmt), Cok T U G k cm X → Sok X → (cm.calm = true → RokA T X) → Takes X Z → chkS T.toTs X.N X.env.scope cm s q = true → PS X q (pS T U Z G k s)
  | .expr e, cm, X, Z, U, q, C, O, R, tk, h => by
    cases q <;> simp only [chkS, Bool.false_eq_true, Bool.and_eq_true, Bool.not_eq_true'] at h
    exact t_expr h.1 (sndE e X Z U _ C tk h.2)
  | .asg t e, cm, X, Z, U, q, C, O, R, tk, h => by
    unfold chkS at h
    split at h
    · next z pz p pos =>
      cases t with
      | tup _ => simp at h
      | name j =>
        simp only [Bool.and_eq_true, Bool.or_eq_true, Bool.not_eq_true'] at h
        obtain ⟨⟨⟨⟨h1, h2⟩, hu⟩, h3⟩, h4⟩ := h
        have hu := C.no hu
        rcases h4 with h4 | h4
        · exact t_set O C.nd hu (nmB_eq h1) (lcB_eq h2) (noswap h4) (sndE e X Z U _ C tk h3)
        · split at h4
          · next own i elt it cond pe gens scope cpos =>
            unfold chkE at h3
            split at h3
            · next pe' y py pi ifs a scope' pos' heq =>
              cases heq
              simp only [Bool.and_eq_true, Bool.not_eq_true'] at h3
              obtain ⟨⟨⟨⟨⟨⟨⟨⟨c1, c2⟩, c3⟩, c4⟩, c5⟩, c6⟩, c7⟩, c8⟩, c9⟩ := h3
              have c2 := of_decide_eq_true c2
              subst c2
              simp only [swapB, Bool.and_eq_true, Bool.not_eq_true'] at h4
              have hl := locB_eq h4.2
              exact (s_setComp (C.zero c1) (C.calm c1) C.nd c3 (nmB_eq h1) hl (sw_true O.kind hl h4.1.1 h4.1.2) (sndI it X Z U _ _ C tk c7) (blkOk_by c6) (nmB_eq c4) (locB_eq c5)
                (fun U' z1 z2 s H A cl fp => sndE elt (X.blk s H scope (compEnvC scope cl A X.env) fp) Zf U' _ (C.blk c1 z1 z2 s H scope _ fp) takesN c8)
                (fun U' z1 z2 s H A cl fp => sndC cond (X.blk s H scope (compEnvC scope cl A X.env) fp) Zf U' _ (C.blk c1 z1 z2 s H scope _ fp) takesN c9)).to fun D σ H h => asg_read hu h
            · cases h3
          · next own t elt it cond pe gens scope cpos =>
            unfold chkE at h3
            split at h3
            · next pe' tg pi ifs a scope' pos' heq =>
              cases heq
              simp only [Bool.and_eq_true, Bool.not_eq_true'] at h3
              obtain ⟨⟨⟨⟨⟨⟨⟨⟨c1, ct⟩, c2⟩, c3⟩, c6⟩, c4⟩, c7⟩, c8⟩, c9⟩ := h3
              have c2 := of_decide_eq_true c2
              subst c2
              simp only [swapB, Bool.and_eq_true, Bool.not_eq_true'] at h4
              have hl := locB_eq h4.2
              exact (s_setCompR (C.zero c1) (C.calm c1) C.nd tk O.stk O.frm c3 (nmB_eq h1) hl (sw_true O.kind hl h4.1.1 h4.1.2) (sndI it X Z U _ _ C tk c7) (blkOk_by c6) c4
                (fun U' z1 z2 σ s H A cl fp => sndE elt (blkX X s H scope (compEnvC scope cl A X.env) fp (Zb Z σ)) (Zb Z σ) U' _ (C.blkx c1 z1 z2 s H scope _ fp _) blkX_takes c8)
                (fun U' z1 z2 σ s H A cl fp => sndC cond (blkX X s H scope (compEnvC scope cl A X.env) fp (Zb Z σ)) (Zb Z σ) U' _ (C.blkx c1 z1 z2 s H scope _ fp _) blkX_takes c9)).to fun D σ H h => asg_read hu h
            · cases h3
          · next own i j elt it it1 pe gens scope cpos =>
            unfold chkE at h3
            split at h3
            · next pe' y py pi ifs a z zp pi1 ifs1 a1 scope' pos' heq =>
              cases heq
              simp only [Bool.and_eq_true, Bool.not_eq_true', decide_eq_true_eq, List.isEmpty_iff] at h3
              obtain ⟨⟨⟨⟨⟨⟨⟨⟨⟨⟨⟨⟨⟨⟨⟨c1, q0⟩, q1⟩, i0⟩, i1⟩, c3⟩, c3b⟩, n1⟩, n2⟩, hij⟩, l1⟩, l2⟩, c6⟩, c7⟩, c8⟩, c9⟩ := h3
              subst q0 q1 i0 i1
              simp only [swapB, Bool.and_eq_true, Bool.not_eq_true'] at h4
              have hl := locB_eq h4.2
              exact (s_setComp2 (C.zero c1) (C.calm c1) C.nd hij c3 c3b (nmB_eq h1) hl (sw_true O.kind hl h4.1.1 h4.1.2) (sndI it X Z U _ _ C tk c7) (blkOk_by c6) (nmB_eq n1) (nmB_eq n2) (locB_eq l1) (locB_eq l2)
                (fun U' z1 z2 s H A cl fp => sndI it1 (X.blk s H scope (compEnvC scope cl A X.env) fp) Zf U' _ _ (C.blk c1 z1 z2 s H scope _ fp) takesN c8)
                (fun U' z1 z2 s H A cl fp => sndE elt (X.blk s H scope (compEnvC scope cl A X.env) fp) Zf U' _ (C.blk c1 z1 z2 s H scope _ fp) takesN c9)).to fun D σ H h => asg_read hu h
            · cases h3
          · cases h4
    · cases t with
      | name _ => simp at h
      | tup is =>
        simp only [Bool.and_eq_true, Bool.not_eq_true'] at h
        exact t_asgT h.1.1.2 (tg_spare C h.1.1.1) (tg_ok C O h.1.1.1) (swap_tup h.1.2) (by rfl) (sndE e X Z U _ C tk h.2)
    · cases h
  | .aug sub j e, cm, X, Z, U, q, C, O, R, tk, h => by
    unfold chkS at h
    split at h
    · next z pz op p pos =>
      simp only [Bool.and_eq_true] at h
      obtain ⟨⟨⟨⟨h1, h2⟩, hu⟩, h3⟩, h4⟩ := h
      have eo : op = (if sub = true then .Sub else .Add) := by
        cases sub with
        | true => exact opB_eq (o := .sub) h3
        | false => exact opB_eq (o := .add) h3
      rw [eo]
      exact t_aug O C.nd (C.no hu) (nmB_eq h1) (lcB_eq h2) (sndE e X Z U _ C tk h4)
    · cases h
  | .ret e, cm, X, Z, U, q, C, O, R, tk, h => by
    unfold chkS at h
    split at h
    · exact t_ret (sndE e X Z U _ C tk h)
    · cases h
  | .retN, cm, X, Z, U, q, C, O, R, tk, h => by
    unfold chkS at h
    split at h
    · exact t_retN
    · cases h
  | .pass, cm, X, Z, U, q, C, O, R, tk, h => by
    unfold chkS at h
    split at h
    · exact t_pass
    · cases h
  | .brk, cm, X, Z, U, q, C, O, R, tk, h => by
    unfold chkS at h
    split at h
    · exact t_brk
    · cases h
  | .cont, cm, X, Z, U, q, C, O, R, tk, h => by
    unfold chkS at h
    split at h
    · exact t_cont
    · cases h
  | .ite c a b, cm, X, Z, U, q, C, O, R, tk, h => by
    cases q <;> simp only [chkS, Bool.false_eq_true, Bool.and_eq_true] at h
    exact t_if (sndT c X Z U _ C tk h.1.1).1 (sndSs hxl a cm X Z U _ C O R tk h.1.2) (sndSs hxl b cm X Z U _ C O R tk h.2)
  | .whl c b, cm, X, Z, U, q, C, O, R, tk, h => by
    unfold chkS at h
    split at h
    · simp only [Bool.and_eq_true] at h
      exact t_while O (sndT c X Z U _ C tk h.1).1 (sndSs hxl b cm X Z U _ C O R tk h.2)
    · cases h
  | .for t it b, cm, X, Z, U, q, C, O, R, tk, h => by
    unfold chkS at h
    split at h
    · simp only [Bool.and_eq_true, Bool.not_eq_true'] at h
      obtain ⟨⟨⟨⟨h1, h2⟩, h3⟩, h4⟩, h5⟩ := h
      cases hcm : cm.calm with
      | true => exact t_for (C.calm hcm) O (tg_spare C h3) h2 (sndI it X Z U _ _ C tk h4) (tg_ok C O h3) (sndSs hxl b cm X Z U _ C O R tk h5)
      | false =>
        rw [hcm, Bool.false_or] at h1
        split at h1
        · next e =>
          unfold chkI at h4
          split at h4
          · next x p ps pos =>
            simp only [Bool.and_eq_true] at h4
            obtain ⟨⟨g1, g2⟩, g3⟩ := h4
            obtain ⟨a1, a2⟩ := chk_star g3
            match ps, a1, a2, g3 with
            | [pe], a1, _, g3 =>
              rw [List.any_cons, Bool.or_eq_false_iff] at a1
              exact t_forH (C.hot hcm).2 O (tg_spare C h3) h2 (s_rngH C g1 a1.1 (sndL [e] X Z U _ C tk g3)) (tg_ok C O h3) (sndSs hxl b cm X Z U _ C O R tk h5)
          · cases h4
        · cases h1
    · cases h
  | .fld o f e, cm, X, Z, U, q, C, O, R, tk, h => by
    unfold chkS at h
    split at h
    · simp only [Bool.and_eq_true, Bool.not_eq_true'] at h
      obtain ⟨⟨⟨⟨h1, h2⟩, h3⟩, h4⟩, h5⟩ := h
      rw [of_decide_eq_true h1]
      exact t_fld C (of_decide_eq_true h2) h3 (sndE o X Z U _ C tk h4) (sndE e X Z U _ C tk h5)
    · cases h
  | .sub o i e, cm, X, Z, U, q, C, O, R, tk, h => by
    unfold chkS at h
    split at h
    · simp only [Bool.and_eq_true, Bool.not_eq_true'] at h
      obtain ⟨⟨⟨⟨h1, h2⟩, h3⟩, h4⟩, h5⟩ := h
      exact t_sub h1 (sndE o X Z U _ C tk h3) (sndE i X Z U _ C tk h4) (sndE e X Z U _ C tk h5) (sub_assign h2)
    · cases h
  | .raise c es, cm, X, Z, U, q, C, O, R, tk, h => by
    unfold chkS at h
    split at h
    · simp only [Bool.and_eq_true] at h
      obtain ⟨⟨⟨⟨⟨h1, h2⟩, h3⟩, hX⟩, h4⟩, h5⟩ := h
      exact t_raise (C.calm h1) tk (R h1 X rfl rfl rfl rfl) hxl h3 hX h4 h2 (chk_star h5).1 (chk_star h5).2 (sndL es X Z U _ C tk h5)
    · cases h
  | .frz i, cm, X, Z, U, q, C, O, R, tk, h => by simp [chkS] at h
  | .try b hs, cm, X, Z, U, q, C, O, R, tk, h => by
    unfold chkS at h
    split at h
    · next qb hds pos =>
      simp only [Bool.and_eq_true, Bool.not_eq_true'] at h
      obtain ⟨⟨⟨hcm, hne⟩, h1⟩, h2⟩ := h
      cases hds with
      | nil => simp at hne
      | cons h₀ hds =>
        obtain ⟨l, hl, hw⟩ := sndH hxl hs cm X Z U (h₀ :: hds) hcm C O tk h2
        refine (ps_try (Wout := Z) O.stk O.frm C.nd tk (tb := fun W => pSs T U W G k b) (fun W pn xe tk' hp => ?_) hl).to fun D σ H ⟨g, W, rg, rw_, h⟩ => ?_
        · exact sndSs hxl b cm (X.tr pn xe) W U qb (C.tr hcm pn xe) ⟨hp, O.fn, O.kind, O.stk, O.frm⟩ (fun _ X' a b c d => R hcm X' a b c d) tk' h1
        · simp only [wpS] at h
          refine ⟨g, W, rg, rw_, moSs b ?_ h⟩
          exact ⟨fun _ _ z => z, fun _ _ z => z, fun _ _ z => z, fun _ _ z => z, fun x g' W' z c d σ' H' a rg' b e => hw W H D x g' W' c d σ' H' z a rg' b e⟩
    · cases h
/-- the clauses -/
theorem sndH (hxl : ∀ C fs, T.xin C = some fs → ∀ f ∈ fs, f < T.nf) : ∀ (hs : Hs) (cm : Md) (X : Cx) (Z : WX) (U : Ux) (hds : List ExceptHandler), cm.calm = true → Cok T U G k cm X → Sok X → Takes X Z → chkH T.toTs X.N X.env.scope hs hds = true →
    ∃ l, CsOk X hds l ∧ ∀ (W0 : Om) (H0 : Hp) (D : Ends) (x : Exn) (g : Gm) (W : Om) (c : Value) (d : Option Addr) (σ : St) (H : Hp), wpH G k T.toPm hs x (KD T U Z W0 H0 D) g W → RepX T U W H x c d → RepG T U W H g σ → RepW T U W H → Ext W0 H0 W H → wT X.K Z D l c d σ H
  | .nil, cm, X, Z, U, hds, hcm, C, O, tk, h => by
    cases hds with
    | nil => exact ⟨[], .nil, fun W0 H0 D x g W c d σ H h rx rg rw_ e => by
        simp only [wpH] at h
        exact h c d σ H rx rg rw_ e⟩
    | cons _ _ => simp [chkH] at h
  | .cons cs sl b r, cm, X, Z, U, hds, hcm, C, O, tk, h => by
    unfold chkH at h
    split at h
    · next x np on b₀ suite pos' rest =>
      simp only [Bool.and_eq_true] at h
      obtain ⟨⟨⟨h1, h2⟩, h3⟩, h4⟩ := h
      split at h1
      · next D0 =>
        simp only [Bool.and_eq_true] at h1
        obtain ⟨⟨g1, g2⟩, g3⟩ := h1
        obtain ⟨l, hl, hw⟩ := sndH hxl r cm X Z U rest hcm C O tk h4
        obtain ⟨e1, e2, e3, e4⟩ := glo g1
        obtain ⟨kC, gC⟩ := C.cls D0 g2
        have hu := C.zero hcm
        have slk : SlOk X sl on := by
          split at h2
          · exact .no
          · rw [Bool.and_eq_true] at h2
            exact .as (nmB_eq h2.1) (locB_eq h2.2)
          · cases h2
        refine ⟨⟨.ref (T.cad D0), sl, fun a oe => tS T ⟨U.hid, sl, [(a, oe)]⟩ Zf (wpSs G k T.toPm b)⟩ :: l, .cons ⟨e2, e3, .inl (by rw [e1]; exact gC)⟩ slk (fun a oe pn hd hctx => ?_) hl, fun W0 H0 D x g W c d σ H h rx rg rw_ e => ?_⟩
        · exact sndSs hxl b ⟨false, sl, false⟩ (X.suite a ((a, oe) :: pn)) Zf ⟨U.hid, sl, [(a, oe)]⟩ _ (C.suite hcm hd hctx) ⟨PassesOwn.never, O.fn, O.kind, O.stk, O.frm⟩ (fun z => nomatch z) takesN h3
        · simp only [wpH] at h
          refine ⟨T.sub x.C D0, ?_, fun hb a oe ha ec ed hd => ?_, fun hb => ?_⟩
          · rw [rx.cls]; exact (C.exs.sub _ _ rx.isX g3).2
          · rw [if_pos (by simp [hb])] at h
            have rx : RepX T U W H x oe.cls oe.dict := by rw [ec, ed]; exact rx
            have rg0 := (RepG.zero hu).mp rg
            cases sl with
            | none =>
              refine ⟨g, W, (RepG.zero rfl).mpr rg0, rw_, moSs b ?_ h⟩
              have back : ∀ {g' : Gm} {W' : Om} {σ' : St} {H' : Hp}, RepG T ⟨U.hid, none, [(a, oe)]⟩ W' H' g' σ' → RepG T U W' H' g' σ' := fun {g' W' σ' H'} r => (RepG.zero hu).mpr ((RepG.zero (U := ⟨U.hid, none, [(a, oe)]⟩) rfl).mp r)
              exact ⟨fun g' W' z σ' H' r b e' => z σ' H' (back r) b (e.trans e'), fun d W' z v H' r b e' => z v H' r b (e.trans e'),
                fun g' W' z σ' H' r b e' => z σ' H' (back r) b (e.trans e'), fun g' W' z σ' H' r b e' => z σ' H' (back r) b (e.trans e'), fun x g' W' z => z.elim⟩
            | some i =>
              obtain ⟨hi, h⟩ := h
              have hi2 : i < σ.length := by rw [← rg.length]; exact hi
              refine ⟨g.set i (some (.exn x.C x.fs)), W, (RepG.some_ (i := i) rfl).mpr ⟨⟨x.C, x.fs, a, oe, List.getElem?_set_self hi, List.getElem?_set_self hi2, List.mem_cons_self, hd, rx⟩, ?_⟩, rw_, moSs b ?_ h⟩
              · rw [List.set_set]
                exact rg0.wipe1 i _
              · have back : ∀ {g' : Gm} {W' : Om} {σ' : St} {H' : Hp}, RepG T ⟨U.hid, some i, [(a, oe)]⟩ W' H' g' σ' → RepG T U W' H' (g'.set i none) (σ'.set i none) := fun {g' W' σ' H'} r => by
                  have z := ((RepG.some_ (i := i) rfl).mp r).2.wipe1 i none
                  rw [List.set_set] at z
                  exact (RepG.zero hu).mpr z
                exact ⟨fun g' W' z σ' H' r b e' => z _ H' (back r) b (e.trans e'), fun d W' z v H' r b e' => z v H' r b (e.trans e'), fun g' W' z σ' H' r b e' => z _ H' (back r) b (e.trans e'), fun g' W' z σ' H' r b e' => z _ H' (back r) b (e.trans e'), fun x g' W' z => z.elim⟩
          · rw [if_neg (by simp [hb])] at h
            exact hw W0 H0 D x g W c d σ H h rx rg rw_ e
      · cases h1
    · cases h
theorem sndSs (hxl : ∀ C fs, T.xin C = some fs → ∀ f ∈ fs, f < T.nf) : ∀ (ss : List S) (cm : Md) (X : Cx) (Z : WX) (U : Ux) (qs : List Stmt), Cok T U G k cm X → Sok X → (cm.calm = true → RokA T X) → Takes X Z → chkSs T.toTs X.N X.env.scope cm ss qs = true → PSs X qs (pSs T U Z G k ss)
  | [], cm, X, Z, U, qs, C, O, R, tk, h => by
    cases qs with
    | nil => exact t_nil
    | cons _ _ => simp [chkSs] at h
  | s :: ss, cm, X, Z, U, qs, C, O, R, tk, h => by
    by_cases hf : ∃ i, s = .frz i
    · obtain ⟨i, rfl⟩ := hf
      simp only [chkSs, Bool.and_eq_true] at h
      exact t_frz (C.no h.1) (sndSs hxl ss cm X Z U qs C O R tk h.2)
    · cases qs with
      | nil => cases s <;> first | (simp [chkSs] at h; done) | exact absurd ⟨_, rfl⟩ hf
      | cons q r =>
        have h : (chkS T.toTs X.N X.env.scope cm s q && chkSs T.toTs X.N X.env.scope cm ss r) = true := by
          cases s <;> first | (simpa only [chkSs] using h) | exact absurd ⟨_, rfl⟩ hf
        rw [Bool.and_eq_true] at h
        exact t_cons (sndS hxl s cm X Z U q C O R tk h.1) (sndSs hxl ss cm X Z U r C O R tk h.2)
end
end
end Tw
set_option maxHeartbeats 4000000
namespace Tw
open PySem PySem.Spec L2
open PyProof.Rows (b2i)
/-- W' holds no more cells than W -/
def Sub (W' W : Om) : Prop := ∀ a m, W' a = some m → W a = some m
theorem Sub.refl {W : Om} : Sub W W := fun _ _ h => h
/-- what a def's body is to reach -/
def Kf (R : Out → Om → Prop) : Ke where
  nx := fun _ W => ∃ W', Sub W' W ∧ R (.ret .non) W'
  rt := fun d W => ∃ W', Sub W' W ∧ R (.ret d) W'
  bk := fun _ _ => False
  ct := fun _ _ => False
  xq := fun x _ W => ∃ W', Sub W' W ∧ R (.exc x) W'
def startG (n : Nat) (ds : List D) : Gm := ds.map some ++ List.replicate (n - ds.length) none
theorem RepG0.none' {T : Tb} {U : Addr → Prop} {W : Om} {H : Hp} : ∀ n : Nat, RepG0 T U W H (List.replicate n none) (List.replicate n none)
  | 0 => .nil
  | n + 1 => .no (RepG0.none' n)
theorem RepG0.start {T : Tb} {U : Addr → Prop} {W : Om} {H : Hp} {N : List Str} {ds : List D} {vs : List V} (r : Reps T U W H ds vs) : RepG0 T U W H (startG N.length ds) (L2.start N vs) := by
  unfold startG L2.start
  rw [r.length]
  generalize N.length - vs.length = n
  exact go r
where go {n : Nat} : ∀ {ds : List D} {vs : List V}, Reps T U W H ds vs → RepG0 T U W H (ds.map some ++ List.replicate n none) (vs.map some ++ List.replicate n none)
  | _, _, .nil => RepG0.none' n
  | _, _, .cons r rs => .so r (go rs)
theorem scB_ok {N ps : List Str} {sc : Scope} (h : scB N ps sc = true) : FnScope N ps sc := by
  simp only [scB, Bool.and_eq_true, Bool.not_eq_true'] at h
  obtain ⟨⟨⟨⟨⟨⟨h1, h2⟩, h3⟩, h4⟩, h5⟩, h6⟩, h7⟩ := h
  refine ⟨?_, h2, h3, of_decide_eq_true h4, of_decide_eq_true h5, fun x hx => ?_, fun y hy z => ?_⟩
  · split at h1
    · next q => exact q
    · cases h1
  · exact lcB_eq (List.all_eq_true.mp h6 x hx)
  · have q := List.all_eq_true.mp h7 y hy
    rw [z] at q
    cases q
/-- what the top has written, but for the defs' bodies -/
structure Stc (T : Tb) (K : PySem.W.Frag) (mg : Str → Option Value) : Prop where
  gl : ∀ f, T.isG f = true → mg (T.gn f) = some (.ref (T.fad f))
  mth : ∀ C m f, T.mth C m = some f → T.isF f = true ∧ Cls K (T.cad C) ∧ Meth K (T.cad C) (T.fnm m) (T.fad f)
  fld : ∀ C f, T.fld C f = true → Cls K (T.cad C) ∧ NoAttr K (T.cad C) (T.fnm f)
  ini : ∀ C f, T.ini C = some f → T.isF f = true ∧ Mk K (T.cad C) (T.fad f) ∧ mg (T.cn C) = some (.ref (T.cad C))
  cls : ∀ C, T.isC C = true → PySem.W.keepIn K (.ref (T.cad C)) = true ∧ mg (T.cn C) = some (.ref (T.cad C))
  cI : ∀ g i, T.cI g = some i → ∃ t, mg (T.gn g) = some (.int i t)
  cS : ∀ g i, T.cS g = some i → ∃ t, mg (T.gn g) = some (.str i t)
  blt : ∀ x ∈ bltNames, mg x = none
  exs : Xok T K
  own : OwnF T K
section
variable {P : Program} {w : World} {K : PySem.W.Frag} {mg : Str → Option Value} {base : Heap} {T : Tb} {G : Gs} {k : Nat}
abbrev Fns (P : Program) (w : World) (K : PySem.W.Frag) (mg : Str → Option Value) (base : Heap) (T : Tb) (G : Gs) (k : Nat) : Prop :=
  ∀ f j, T.isF f = true → j ≤ k → ∃ fd ps, Binds K fd ps [] ∧ PySem.W.keepIn K (.ref (T.fad f)) = true ∧ FnOk P w K mg base (L2N.CX P w) j (T.fad f) fd ps (spOf T (G f j)) ∧ (∀ n ks pm, kwB (T.pn f) n ks pm = true → KBn K fd ps n ks (fun us ws => permL pm (us ++ ws)) (fun us ws => permL pm (us ++ ws))) ∧ (T.isH f = true → L2H.FnH P w K mg base (L2N.CX P w) j (T.fad f) fd ps (spOf T (G f j)))
abbrev FnsX (P : Program) (w : World) (K : PySem.W.Frag) (mg : Str → Option Value) (base : Heap) (T : Tb) (G : Gs) (k : Nat) : Prop :=
  ∀ f j, T.isE f = true → j ≤ k → ∃ fd ps, Binds K fd ps [] ∧ PySem.W.keepIn K (.ref (T.fad f)) = true ∧ FnX P w K mg base (L2N.CX P w) j (T.fad f) fd ps (spX T (G f j))
/-- what a raise needs -/
abbrev RokF (P : Program) (K : PySem.W.Frag) (mg : Str → Option Value) (T : Tb) : Prop := ∀ X : Cx, X.prog = P → X.K = K → X.mg = mg → X.A.depth + 1 < recursionLimit → Rok T X
/-- what a body that reached its end is worth to the caller -/
theorem Kf_le {U : Addr → Prop} {ei : Option Nat} {pn : List (Addr × Obj)} {Q : VK} {E : XK} {W : Om} {H : Hp} {R : Out → Om → Prop} (hq : ∀ d W', R (.ret d) W' → ∀ v H', Rep T U W' H' d v → RepW T U W' H' → Ext W H W' H' → Q v H') (hx : ∀ x W', R (.exc x) W' → ∀ c d H', RepX T U W' H' x c d → RepW T U W' H' → Ext W H W' H' → E c d H') :
    Ke.le (Kf R) (KD T ⟨U, ei, pn⟩ (fun cls dd _ H' => E cls dd H') W H { nx := fun _ H' => Q .non H', rt := Q }) := by
  refine ⟨fun g W' ⟨W'', hs, r⟩ σ' H' a b e => ?_, fun dd W' ⟨W'', hs, r⟩ v H' a b e => ?_, fun _ _ z => z.elim, fun _ _ z => z.elim, fun x g W' ⟨W'', hs, r⟩ c dd σ' H' a rg b e => ?_⟩
  · exact hq _ _ r _ _ .non (b.sub hs) (e.trans (Ext.sub hs))
  · exact hq _ _ r _ _ (a.ext (Ext.sub hs)) (b.sub hs) (e.trans (Ext.sub hs))
  · exact hx _ _ r _ _ _ (a.ext (Ext.sub hs)) (b.sub hs) (e.trans (Ext.sub hs))
/-- THE RULE: a def's promise, by its body's wp -/
theorem fn_rule {x qual : Str} {params : Arguments} {body : List Stmt} {scope : Scope} {dvs : List V} {kws : List (Str × V)} {fa : Addr} {fd : FuncData} {f : Nat} {d : Df} (F : FunD K x qual params body scope dvs kws fa fd) (hsc : scB d.N d.ps scope = true)
    (hck : chkSs T.toTs d.N scope ⟨true, none, true⟩ d.body body = true) (har : d.ps.length = T.ar f) (St : Stc T K mg) (hxl : ∀ C fs, T.xin C = some fs → ∀ f ∈ fs, f < T.nf) (hR : RokF P K mg T) (len : ∀ f j ds W R, G f j ds W R → ds.length = T.ar f) (IH : Fns P w K mg base T G k) (IHX : FnsX P w K mg base T G k)
    (hwp : ∀ ds W R, G f (k + 1) ds W R → wpSs G k T.toPm d.body (Kf R) (startG d.N.length ds) W) : FnOk P w K mg base (L2N.CX P w) (k + 1) fa fd d.ps (spOf T (G f (k + 1))) := by
  have S := scB_ok hsc
  refine F.ok S (fun vs H Q E h => ?_) fun cdv A outer s H vs Q E hr h => ?_
  · obtain ⟨U, ds, W, R, rd, hw, hG, _, _⟩ := h
    rw [← rd.length, len _ _ _ _ _ hG, har]
  · obtain ⟨U, ds, W, R, rd, hw, hG, hq, hx⟩ := h
    let X := cxOf (L2N.CX P w) P w K mg base d.N qual scope fa cdv A outer s H E
    have C : Cok T ⟨U, none, []⟩ G k ⟨true, none, true⟩ X := ⟨S.nd, rfl, (fun p hp => nomatch hp), fun _ => rfl, fun _ => rfl, fun _ => rfl, fun _ => hr, (fun z => nomatch z), len, IH, St.gl, St.mth, St.fld, St.ini, St.cls, St.cI, St.cS, St.blt, St.exs, St.own, (fun _ => ⟨rfl, rfl⟩), (fun i e => nomatch e), IHX⟩
    have O : Sok X := ⟨passes_of rfl, fun _ => rfl, S.kind, rfl, rfl⟩
    have tk : Takes X (fun cls dd _ H' => E cls dd H') := L2N.takes_of rfl rfl rfl rfl
    have hd : X.A.depth + 1 < recursionLimit := by have := hr.dp; show (A.deeper _).depth + 1 < _; omega
    refine ⟨_, sndSs hxl d.body ⟨true, none, true⟩ X (fun cls dd _ H' => E cls dd H') ⟨U, none, []⟩ body C O (fun _ X' e1 e2 e3 e4 => hR X' e1 e2 e3 (by rw [e4]; exact hd)) tk hck, startG d.N.length ds, W, (RepG.zero rfl).mpr (RepG0.start rd), hw, ?_⟩
    exact moSs d.body (Kf_le hq hx) (hwp ds W R hG)
/-- .. in an except suite -/
theorem fn_ruleH {x qual : Str} {params : Arguments} {body : List Stmt} {scope : Scope} {dvs : List V} {kws : List (Str × V)} {fa : Addr} {fd : FuncData} {f : Nat} {d : Df} (F : FunD K x qual params body scope dvs kws fa fd) (hsc : scB d.N d.ps scope = true)
    (hck : chkSs T.toTs d.N scope ⟨false, none, false⟩ d.body body = true) (har : d.ps.length = T.ar f) (St : Stc T K mg) (hxl : ∀ C fs, T.xin C = some fs → ∀ f ∈ fs, f < T.nf) (len : ∀ f j ds W R, G f j ds W R → ds.length = T.ar f) (IH : Fns P w K mg base T G k) (IHX : FnsX P w K mg base T G k)
    (hwp : ∀ ds W R, G f (k + 1) ds W R → wpSs G k T.toPm d.body (Kf R) (startG d.N.length ds) W) : L2H.FnH P w K mg base (L2N.CX P w) (k + 1) fa fd d.ps (spOf T (G f (k + 1))) := by
  have S := scB_ok hsc
  obtain ⟨oc, od, dV, kV, doc, pm, an, cdv, ct, osl, rfl, lk, hcd, hD, hK⟩ := F.ex
  refine L2H.fn_ofH lk hcd S (fun vs H Q E h => ?_) fun A outer s H vs Q E p hot hr h => ?_
  · obtain ⟨U, ds, W, R, rd, hw, hG, _, _⟩ := h
    rw [← rd.length, len _ _ _ _ _ hG, har]
  · obtain ⟨U, ds, W, R, rd, hw, hG, hq, hx⟩ := h
    let X := L2H.cxH (L2N.CX P w) P w K mg base d.N qual scope fa cdv A outer s H E p
    have C : Cok T ⟨U, none, []⟩ G k ⟨false, none, false⟩ X := ⟨S.nd, rfl, (fun p hp => nomatch hp), (fun z => nomatch z), (fun z => nomatch z), (fun z => nomatch z), (fun z => nomatch z), fun _ => ⟨hr, p, hot, List.mem_singleton.mpr rfl⟩, len, IH, St.gl, St.mth, St.fld, St.ini, St.cls, St.cI, St.cS, St.blt, St.exs, St.own, (fun z => nomatch (show false = true from z)), (fun i e => nomatch e), IHX⟩
    have O : Sok X := ⟨passes_of rfl, fun _ => rfl, S.kind, rfl, rfl⟩
    have tk : Takes X (fun cls dd _ H' => E cls dd H') := L2N.takes_of rfl rfl rfl rfl
    refine ⟨_, sndSs hxl d.body ⟨false, none, false⟩ X (fun cls dd _ H' => E cls dd H') ⟨U, none, []⟩ body C O (fun z => nomatch z) tk hck, startG d.N.length ds, W, (RepG.zero rfl).mpr (RepG0.start rd), hw, ?_⟩
    exact moSs d.body (Kf_le hq hx) (hwp ds W R hG)
/-- .. of a def that takes the caught exception -/
theorem fn_ruleX {x qual : Str} {params : Arguments} {body : List Stmt} {scope : Scope} {dvs : List V} {kws : List (Str × V)} {fa : Addr} {fd : FuncData} {f : Nat} {d : Df} (F : FunD K x qual params body scope dvs kws fa fd) (hsc : scB d.N d.ps scope = true)
    (hck : chkSs T.toTs d.N scope ⟨false, some 0, false⟩ d.body body = true) (har : d.ps.length = 1) (St : Stc T K mg) (hxl : ∀ C fs, T.xin C = some fs → ∀ f ∈ fs, f < T.nf) (len : ∀ f j ds W R, G f j ds W R → ds.length = T.ar f) (IH : Fns P w K mg base T G k) (IHX : FnsX P w K mg base T G k)
    (hwp : ∀ ds W R, G f (k + 1) ds W R → wpSs G k T.toPm d.body (Kf R) (startG d.N.length ds) W) : FnX P w K mg base (L2N.CX P w) (k + 1) fa fd d.ps (spX T (G f (k + 1))) := by
  have S := scB_ok hsc
  obtain ⟨oc, od, dV, kV, doc, pm, an, cdv, ct, osl, rfl, lk, hcd, hD, hK⟩ := F.ex
  refine fnx_of lk hcd S (fun p vs H Q E h => ?_) fun A outer s H vs Q E p hot hr h => ?_
  · rw [h.1, har]; rfl
  · obtain ⟨rfl, hd, U, C0, fs, W, R, rx, hw, hG, hq, hx⟩ := h
    let X := L2H.cxH (L2N.CX P w) P w K mg base d.N qual scope fa cdv A outer s H E p
    have C : Cok T ⟨U, some 0, [p]⟩ G k ⟨false, some 0, false⟩ X := ⟨S.nd, rfl, (fun q hq => hq), (fun z => nomatch z), (fun z => nomatch z), (fun z => nomatch z), (fun z => nomatch z), fun _ => ⟨hr, p, hot, List.mem_singleton.mpr rfl⟩, len, IH, St.gl, St.mth, St.fld, St.ini, St.cls, St.cI, St.cS, St.blt, St.exs, St.own, (fun z => nomatch (show false = true from z)), (fun _ _ q hq => by rw [List.mem_singleton.mp hq]; exact hot.1), IHX⟩
    have O : Sok X := ⟨passes_of rfl, fun _ => rfl, S.kind, rfl, rfl⟩
    have tk : Takes X (fun cls dd _ H' => E cls dd H') := L2N.takes_of rfl rfl rfl rfl
    have rg : RepG T ⟨U, some 0, [p]⟩ W H (startG d.N.length [.exn C0 fs]) (L2.start d.N [V.ref p.1]) :=
      (RepG.some_ rfl).mpr ⟨⟨C0, fs, p.1, p.2, rfl, rfl, List.mem_singleton.mpr rfl, hd, rx⟩, .no (RepG0.none' _)⟩
    refine ⟨_, sndSs hxl d.body ⟨false, some 0, false⟩ X (fun cls dd _ H' => E cls dd H') ⟨U, some 0, [p]⟩ body C O (fun z => nomatch z) tk hck, startG d.N.length [.exn C0 fs], W, rg, hw, ?_⟩
    exact moSs d.body (Kf_le hq hx) (hwp _ W R hG)
/-- what is known of a def's text -/
structure DfOk (T : Tb) (K : PySem.W.Frag) (f : Nat) (d : Df) : Prop where
  ex : ∃ x qual params body scope dvs kws fd, FunD K x qual params body scope dvs kws (T.fad f) fd ∧ Binds K fd d.ps [] ∧ (∀ us : List Value, us.length = d.ps.length → bindArgs fd ⟨us, []⟩ = pure (d.ps.zip us)) ∧ (∀ n ks pm, kwB (T.pn f) n ks pm = true → KBn K fd d.ps n ks (fun us ws => permL pm (us ++ ws)) (fun us ws => permL pm (us ++ ws))) ∧ scB d.N d.ps scope = true ∧ chkSs T.toTs d.N scope ⟨true, none, true⟩ d.body body = true ∧ (T.isH f = true → chkSs T.toTs d.N scope ⟨false, none, false⟩ d.body body = true)
  ar : d.ps.length = T.ar f
/-- what is known of the text of a def that takes the exception -/
structure DfX (T : Tb) (K : PySem.W.Frag) (f : Nat) (d : Df) : Prop where
  ex : ∃ x qual params body scope dvs kws fd, FunD K x qual params body scope dvs kws (T.fad f) fd ∧ Binds K fd d.ps [] ∧ scB d.N d.ps scope = true ∧ chkSs T.toTs d.N scope ⟨false, some 0, false⟩ d.body body = true
  ar : d.ps.length = 1
/-- every def keeps its promise, at every room -/
theorem all_fns {Dd : Nat → Df} (St : Stc T K mg) (hxl : ∀ C fs, T.xin C = some fs → ∀ f ∈ fs, f < T.nf) (hR : RokF P K mg T) (len : ∀ f j ds W R, G f j ds W R → ds.length = T.ar f) (hF : ∀ f, T.isF f = true → DfOk T K f (Dd f)) (hE : ∀ f, T.isE f = true → DfX T K f (Dd f))
    (h0 : ∀ f ds W R, ¬ G f 0 ds W R) (hwp : ∀ f, T.isF f = true ∨ T.isE f = true → ∀ k ds W R, G f (k + 1) ds W R → wpSs G k T.toPm (Dd f).body (Kf R) (startG (Dd f).N.length ds) W) : ∀ k, Fns P w K mg base T G k ∧ FnsX P w K mg base T G k
  | 0 => ⟨fun f j hf hj => by
    obtain rfl : j = 0 := Nat.le_zero.mp hj
    obtain ⟨⟨x, qual, params, body, scope, dvs, kws, fd, F, B, _, KB, h1, h2, h3⟩, h4⟩ := hF f hf
    refine ⟨fd, _, B, F.kp, ⟨fun vs H Q E h => ?_, fun A outer s H args us vs Q E hr he hb hv h => ?_⟩, KB, fun _ => ⟨fun vs H Q E h => ?_, fun A outer s H args us vs Q E p hr _ _ he hb hv h => ?_⟩⟩ <;>
    · obtain ⟨U, ds, W, R, _, _, hG, _⟩ := h
      exact absurd hG (h0 _ _ _ _), fun f j hf hj => by
    obtain rfl : j = 0 := Nat.le_zero.mp hj
    obtain ⟨⟨x, qual, params, body, scope, dvs, kws, fd, F, B, h1, h2⟩, h4⟩ := hE f hf
    refine ⟨fd, _, B, F.kp, ⟨fun p vs H Q E h => ?_, fun A outer s H args us vs Q E p hr _ _ he hb hv h => ?_⟩⟩ <;>
    · obtain ⟨_, _, U, C, fs, W, R, _, _, hG, _⟩ := h
      exact absurd hG (h0 _ _ _ _)⟩
  | k + 1 => by
    obtain ⟨IH, IHX⟩ := all_fns St hxl hR len hF hE h0 hwp k
    refine ⟨fun f j hf hj => ?_, fun f j hf hj => ?_⟩
    · rcases Nat.lt_or_ge j (k + 1) with hlt | hge
      · exact IH f j hf (Nat.le_of_lt_succ hlt)
      · obtain rfl : j = k + 1 := Nat.le_antisymm hj hge
        obtain ⟨⟨x, qual, params, body, scope, dvs, kws, fd, F, B, _, KB, h1, h2, h3⟩, h4⟩ := hF f hf
        exact ⟨fd, _, B, F.kp, fn_rule F h1 h2 h4 St hxl hR len IH IHX (hwp f (.inl hf) k), KB, fun hh => fn_ruleH F h1 (h3 hh) h4 St hxl len IH IHX (hwp f (.inl hf) k)⟩
    · rcases Nat.lt_or_ge j (k + 1) with hlt | hge
      · exact IHX f j hf (Nat.le_of_lt_succ hlt)
      · obtain rfl : j = k + 1 := Nat.le_antisymm hj hge
        obtain ⟨⟨x, qual, params, body, scope, dvs, kws, fd, F, B, h1, h2⟩, h4⟩ := hE f hf
        exact ⟨fd, _, B, F.kp, fn_ruleX F h1 h2 h4 St hxl len IH IHX (hwp f (.inr hf) k)⟩
end
end Tw
set_option maxHeartbeats 4000000
namespace PySem
namespace XSup
open PySem.W PySem.Calls PyProof.Rows PySem.HandSPX
/-- the text of __init__ -/
def iA (x : Str) (p1 p2 : Pos) : Arguments := { posonlyargs := [], args := [{ arg := "self", annotation := none, pos := p1 }, { arg := x, annotation := none, pos := p2 }], vararg := none, kwonlyargs := [], kw_defaults := [], kwarg := none, defaults := [] }
def iB (x f m : Str) (j : Nat) (a0 a1 a2 a3 a4 a5 q1 q2 q3 q4 : Pos) : List Stmt :=
  [.Expr (.Call (.Attribute (.Call (.Name "super" a0) [] [] a1) "__init__" a2) [.Constant (.str m) j a3] [] a4) a5, .Assign [.Attribute (.Name "self" q1) f q2] (.Name x q3) q4]
/-- what the written part says of the class at C, and of its __init__, at fI -/
structure Txt (prog : Program) (K : Frag) (C fI : Addr) (x f : Str) : Prop where
  cls : ∃ nm q N bs bm sn sub ab col dd k0 k1 k2 k3 k5, K.lookup C = some (excClassObj nm q C N bs bm true sn sub ab col dd k0 k1 k2 k3 k5 "ValueError.__new__") ∧ refsVE bm = true
  sa : findIn K (.ref C) "__setattr__" = some (some (.builtin "object.__setattr__"))
  noN : findIn K (.ref C) f = some none
  iC : findIn K (.ref C) "__init__" = some (some (.ref fI))
  tC : typeIn K (.ref fI) = some (.type "function")
  sup : ks_superIn K C C "__init__" = some (some (.builtin "ValueError.__init__"))
  sVE : subIn K (.ref C) (.type "ValueError") = some true
  mro : mroIn K C (.ref C) = some true
  opq : nsIn K cStatics "thirdparty.any" = some none
  spr : nsIn K mainGlobals "super" = some none
  fn : ∃ (oc : Value) (od : Option Addr) (doc pm : Value) (an : Option Addr) (cda cc : Addr) (ct : Value) (osl : Array (Option Value)) (p1 p2 a0 a1 a2 a3 a4 a5 q1 q2 q3 q4 : Pos) (m qual : Str) (j : Nat),
    K.lookup fI = some ⟨oc, od, .func (fnX "__init__" qual (iA x p1 p2) (iB x f m j a0 a1 a2 a3 a4 a5 q1 q2 q3 q4) (iS x) [("__class__", cc)] .none .none doc pm an (.ref cda) ct), osl⟩ ∧ codeIn K (.ref cda) qual = true ∧ (a2.endLine == a4.line) = true ∧
    (∃ (cl : Value) (cd : Option Addr) (vs : Array Value) (cs : Array (Option Value)) (file : Str) (tf : Tok), K.lookup cda = some ⟨cl, cd, .fields vs, cs⟩ ∧ vs[2]? = some (.str file tf) ∧ ((prog.main.file : Str) == file) = true) ∧
    (∃ (cl : Value) (cd : Option Addr) (cs : Array (Option Value)), K.lookup cc = some ⟨cl, cd, .cell (some (.ref C)), cs⟩)
  top : (prog.main.scope.names.lookup ("super" : Str)).isSome = false
  nx : x ≠ "self"
  nd : (x == (PySem.Str.ofString "__debug__")) = false
  lc : (iS x).names.lookup (PySem.Str.ofString "__class__") = some .free
  ls : (iS x).names.lookup (PySem.Str.ofString "super") = some .globalImplicit
  bd : ∀ (qual : Str) (p1 p2 : Pos) (body : List Stmt) (cc : Addr) (doc pm : Value) (an : Option Addr) (cd ct u v : Value), bindArgs (fnX "__init__" qual (iA x p1 p2) body (iS x) [("__class__", cc)] .none .none doc pm an cd ct) ⟨[u, v], []⟩ = pure [((PySem.Str.ofString "self"), u), (x, v)]
theorem one_size (v : Value) : [v].length ≤ sizeLine := by
  rw [sizeLine_eq]
  exact (by decide : 1 ≤ 16777216)
/-- what __init__ leaves of a fresh exception at x -/
structure InitEnd (h h' : Heap) (x C dx t1 : Addr) (f : Str) (v : Value) : Prop where
  keep : ∀ b o, b ≠ x → h.get? b = some o → h'.get? b = some o
  obj : h'.get? x = some { cls := .ref C, dict := some dx, data := .fields #[.ref t1, .none, .none, .none, .bool false, .none] }
  dbig : h.objs.size ≤ dx
  dne : dx ≠ x
  ns : h'.Ns1 dx (fun y => if y = f then some v else none)
section
variable {prog : Program} {w : World} {A : Around} {E : Value → Shared → Prop} {R : Result → Shared → Prop} {s : Shared} {K : Frag} {mg mb : Str → Option Value} {C fI : Addr} {xn f : Str}
/-- the method-wrapper called -/
theorem call_mw {h : Heap} {g : Array GenState} {d : Drawn} {t : Nat} {os : OsState} {nm q : Str} {N : Addr} {bs bm : List Value} {hdct : Bool} {sn : List Str} {sub : List Value} {ab : Bool} {col : Option Bool} {dd : Option Addr} {k0 k1 k2 k3 k5 : Option Value} {u e t0 : Addr} {rest : List Value} {Q : Value → Shared → Prop}
    (hC : h.get? C = some (excClassObj nm q C N bs bm hdct sn sub ab col dd k0 k1 k2 k3 k5 "ValueError.__new__")) (he : h.get? e = some (excO C t0)) (hu : h.get? u = some (kxs_mw "ValueError.__init__" e)) (hrest : rest.length ≤ sizeLine)
    (hq : ∀ h' t1, (∀ b o, b ≠ e → h.get? b = some o → h'.get? b = some o) → h'.get? e = some (excO C t1) → Q .none ⟨h', g, d, t, os⟩) :
    wpAny (model prog w) A (call (.ref u) rest) Q E ⟨h, g, d, t, os⟩ := by
  refine wpAny_call (codeAny_of_tree ?_)
  show wpAny _ A.in1 (callAny (.ref u) ⟨rest, []⟩) _ _ _
  simp only [callAny]
  refine wpAny_bind (wpAny_load hu ?_)
  simp only [kxs_mw, show (Value.type "method-wrapper" == Value.type "method" || Value.type "method-wrapper" == Value.type "builtin_function_or_method" || Value.type "method-wrapper" == Value.type "method-wrapper") = true by decide, if_true]
  refine W.KFB.if_so (by decide) ?_
  refine wpAny_bind (check_bound_init F.excBase_ValueError.toExcCallFacts hC he rfl ?_)
  refine wpAny_bind (wpAny_pure (wpAny_pure ?_))
  refine ⟨plainId_quiet F.excBase_ValueError.init.plain _, codeAny_builtin F.excBase_ValueError.initEntry ?_⟩
  rw [Around.under_plainId F.excBase_ValueError.init.plain _]
  wp_walk
  refine hq _ h.objs.size (fun b o hb ho => ?_) ?_
  · rw [Heap.get?_update_other _ _ (Ne.symm hb)]
    exact Heap.get?_push_of_some _ ho
  · rw [Heap.get?_update_self _ (Heap.get?_push_of_some _ he) rfl]
    rfl
theorem sup_init (T : Txt prog K C fI xn f) {x t0 : Addr} {v : Value} (X : K.In s.heap) (hg : s.heap.Ns mainGlobals mg) (hb : s.heap.Ns builtinsNs mb) (hbb : ∀ y : Str, y ≠ "__name__" → mb y = bootBuiltins y) (hlim : s.heap.NoLimit)
    (hx : s.heap.get? x = some (excO C t0)) (hnx : K.lookup x = none) (hroom : A.depth < recursionLimit)
    (hq : ∀ h' tk dx t1, InitEnd s.heap h' x C dx t1 f v → R (.ok (.ret .none)) { s with heap := h', toks := tk }) :
    codeAny (model prog w) A (.call (.ref fI) ⟨[.ref x, v], []⟩) R s := by
  obtain ⟨oc, od, doc, pm, an, cda, cc, ct, osl, p1, p2, a0, a1, a2, a3, a4, a5, q1, q2, q3, q4, m, qual, j, ho, hcd, hline, ⟨ccl, ccd, vs, ccs, file, tf, hcode, hvs, hfile⟩, ⟨cl, cld, csl, hcell⟩⟩ := T.fn
  obtain ⟨nm, q, N, bs, bm, sn, sub, ab, col, dd, k0, k1, k2, k3, k5, hC, hbm⟩ := T.cls
  have hcl : clsIn K C = some { name := nm, bases := bs, mro := .ref C :: bm, ns := N, qualname := q, hasDict := true, slotNames := sn, subclasses := sub, abstract := ab, collection := col, hasDel := false } := by unfold clsIn; rw [hC] <;> rfl
  have nx' : (xn == ("self" : Str)) = false := by simpa using T.nx
  have nx2 : (("self" : Str) == xn) = false := by rw [beq_eq_false_iff_ne]; exact fun e => T.nx e.symm
  have lself : (iS xn).names.lookup ("self" : Str) = some .local := rfl
  have lx : (iS xn).names.lookup xn = some .local := by
    show List.lookup xn [(("self" : Str), NameKind.local), (xn, .local), (("__class__" : Str), .free), (("super" : Str), .globalImplicit)] = _
    rw [List.lookup_cons, nx', List.lookup_cons]
    simp
  refine ks_codeAny_call_defAt (binds := [("self", .ref x), (xn, v)]) hroom (X _ _ ho) rfl hlim (codeRec_of X hcd) rfl (BindsTo.of_eq (T.bd _ _ _ _ _ _ _ _ _ _ _ _)) (fun y hy => ?_) (fun y hy => ?_) (fun h₀ hn k => ?_)
  · have hy : y ∈ [(("self" : Str), NameKind.local), (xn, .local), (("__class__" : Str), .free), (("super" : Str), .globalImplicit)] := hy
    simp only [List.mem_cons, List.mem_nil_iff, or_false] at hy
    rcases hy with rfl | rfl | rfl | rfl <;> (intro z; cases z)
  · have hy : y ∈ [(("self" : Str), Value.ref x), (xn, v)] := hy
    simp only [List.mem_cons, List.mem_nil_iff, or_false] at hy
    rcases hy with rfl | rfl
    · exact lself
    · exact lx
  -- the frame
  generalize hL : s.heap.objs.size = L at hn
  have X₀ : K.In h₀ := X.keeps k
  have hx₀ := k _ _ hx
  have hxC : x ≠ C := fun e => by rw [e, hC] at hnx; cases hnx
  have hm1 : (fun y => List.lookup y [(("self" : Str), Value.ref x), (xn, v)].reverse) ("self" : Str) = some (.ref x) := by
    show List.lookup ("self" : Str) [(xn, v), (("self" : Str), Value.ref x)] = _
    rw [List.lookup_cons, nx2]
    simp
  have hm2 : (fun y => List.lookup y [(("self" : Str), Value.ref x), (xn, v)].reverse) xn = some v := by
    show List.lookup xn [(xn, v), (("self" : Str), Value.ref x)] = _
    rw [List.lookup_cons]
    simp
  generalize hmm : (fun y => List.lookup y [(("self" : Str), Value.ref x), (xn, v)].reverse) = mm at hn hm1 hm2
  show wpAt (model prog w) _ _ (execs (iB xn f m j a0 a1 a2 a3 a4 a5 q1 q2 q3 q4) (ksEnv qual (iS xn) L fI (.ref cda) cc)) _ _ _
  refine ks_wpAt_execs_cons (ks_wpAt_Expr_any (ks_wpAt_MethodCall (pl := L2.plainOf (.Call (.Name "super" a0) [] [] a1) (ksEnv qual (iS xn) L fI (.ref cda) cc)) ?_ ?_))
  · -- super()
    refine ks_wpAt_super_base (env := ksEnv qual (iS xn) L fI (.ref cda) cc) T.ls T.lc rfl rfl (X₀ _ _ ho) rfl rfl rfl (X₀ _ _ hcode) rfl hvs hfile T.top ?_
    refine ks_loadName_global rfl T.ls (loadGlobal_builtin (env := ksEnv qual (iS xn) L fI (.ref cda) cc) (hg.keeps k) (mg_none_of X hg T.spr) (hb.keeps k) ((hbb _ (by decide +kernel)).trans (by decide +kernel)) ⟨rfl, ?_⟩)
    refine wpAny_loadName_free rfl T.lc rfl ⟨_, X₀ _ _ hcell, rfl⟩ ?_
    refine wpAny_loadName_local rfl lself hn hm1 ?_
    refine ks_wpAny_isType_cls (X₀ _ _ hC) rfl ⟨rfl, ?_⟩
    refine ks_wpAny_call_super (X₀ _ _ hC) rfl hx₀ rfl (fun c e => by cases e) (looks_mroIn X₀ T.mro) (fun h1 e1 k1 => ?_)
    -- .__init__
    have X1 : K.In h1 := X₀.keeps k1
    have I1 : InstAt h1 x (excO C t0) C none := ⟨k1 _ _ hx₀, rfl, rfl, trivial⟩
    have hsup : alongIn K "__init__" (((.ref C :: bm : List Value).dropWhile (· != .ref C)).drop 1) = some (some (.builtin "ValueError.__init__")) := by
      have z := T.sup
      unfold ks_superIn at z
      rw [hcl] at z
      exact z
    refine kxs_getMethod kxs_ValueError e1 (looks_opaque X1 T.opq) (l₀ := .ref C :: bm) ?_ rfl X1 hsup (I1.type.andThen (looks_subIn X1 T.sVE)) hxC rfl ?_
    · exact fun A Q E s k q => wpAny_bind ((looks_clsIn X1 hcl) A _ E s k (wpAny_pure q))
    -- (text)
    have kp1 : ∀ b o, h1.get? b = some o → (h1.push (kxs_mw "ValueError.__init__" x)).get? b = some o := fun b o e => Heap.get?_push_of_some _ e
    have hu : (h1.push (kxs_mw "ValueError.__init__" x)).get? h1.objs.size = some (kxs_mw "ValueError.__init__" x) := Heap.get?_push_at rfl rfl
    refine kxs_callWith (i := "ValueError.__init__") (x := x) rfl (evalArgs_plain ?_)
    refine spliced_cons (x := eval (.Constant (.str m) j a3) (ksEnv qual (iS xn) L fI (.ref cda) cc)) (rest := []) (Constant_str (spliced_nil ⟨hu, ?_⟩))
    refine call_mw (kp1 _ _ (k1 _ _ (X₀ _ _ hC))) (kp1 _ _ (k1 _ _ hx₀)) hu (one_size _) fun h2 t1 k2 hx2 => ?_
    -- self.f = x
    have kk : ∀ b o, b ≠ x → h₀.get? b = some o → h2.get? b = some o := fun b o hb e => k2 b o hb (kp1 _ _ (k1 _ _ e))
    have X2 : K.In h2 := fun a o e => kk a o (fun z => by rw [z, hnx] at e; cases e) (X₀ a o e)
    have neL : L ≠ x := by rw [← hL]; exact Nat.ne_of_gt (Heap.lt_size hx)
    have hn2 : h2.Ns L mm := by
      obtain ⟨oL, es, ep, hL', r⟩ := hn
      exact ⟨oL, es, ep, kk _ _ neL hL', r⟩
    refine ks_wpAt_execs_cons (ks_wpAt_Assign_Attr (wpAt_of_wpAny (wpAny_Name (wpAny_loadName_local rfl lx hn2 hm2 ?_) T.nd)))
    refine wpAny_Name (wpAny_loadName_local rfl lself hn2 hm1 ?_) rfl
    refine set_plain X2 (ox := excO C t1) (od := none) ⟨hx2, rfl, rfl, trivial⟩ T.sa ?_
    refine exc_osa X2 hx2 hcl (show refsVE (.ref C :: bm) = true from hbm) rfl T.noN (fun h₃ tk₃ dx k₃ dn dne hx₃ hn₃ => ?_)
    refine wpAt_of_wpAny (wpAny_execs_nil (hq h₃ tk₃ dx t1 ⟨fun b o hb e => k₃ b o hb (kk b o hb (k b o e)), hx₃, ?_, dne, hn₃⟩))
    have z : L < h2.objs.size := hn2.lt
    rw [hL]
    exact Nat.le_of_lt (Nat.lt_of_lt_of_le z dn)
  · rw [arm_eval_Call]
    refine congrArg (fun z => attributeBase (.Call (.Name "super" a0) [] [] a1) "__init__" (ksEnv qual (iS xn) L fI (.ref cda) cc) (eval (.Call (.Name "super" a0) [] [] a1) (ksEnv qual (iS xn) L fI (.ref cda) cc)) >>= z) (funext fun ov => ?_)
    refine congrArg (fun z => standAt a2.atName >>= z) (funext fun _ => ?_)
    exact L2.mcall_line rfl hline
/-- a made exception -/
structure Made (h h' : Heap) (e C d : Addr) (f : Str) (v : Value) : Prop where
  keep : ∀ b o, h.get? b = some o → h'.get? b = some o
  new : h.objs.size ≤ e
  obj : ∃ oe vs, h'.get? e = some oe ∧ oe.cls = .ref C ∧ oe.dict = some d ∧ oe.data = .fields vs ∧ vs[1]? = some .none ∧ vs[2]? = some .none
  dbig : h.objs.size ≤ d
  dne : d ≠ e
  ns : h'.Ns1 d (fun y => if y = f then some v else none)
theorem sup_made (T : Txt prog K C fI xn f) {v : Value} (X : K.In s.heap) (hg : s.heap.Ns mainGlobals mg) (hb : s.heap.Ns builtinsNs mb) (hbb : ∀ y : Str, y ≠ "__name__" → mb y = bootBuiltins y) (hlim : s.heap.NoLimit) (hroom : A.depth + 1 < recursionLimit)
    (hq : ∀ h' tk e d, Made s.heap h' e C d f v → R (.ok (.ret (.ref e))) { s with heap := h', toks := tk }) :
    codeAny (model prog w) A (.call (.ref C) ⟨[v], []⟩) R s := by
  obtain ⟨nm, q, N, bs, bm, sn, sub, ab, col, dd, k0, k1, k2, k3, k5, hC, hbm⟩ := T.cls
  obtain ⟨hp, g, dr, tk, os⟩ := s
  have k : ∀ b o, hp.get? b = some o → ((hp.push (kdv_tup [v])).push (excO C hp.objs.size)).get? b = some o := fun b o e => Heap.get?_push_of_some _ (Heap.get?_push_of_some _ e)
  have hget : ((hp.push (kdv_tup [v])).push (excO C hp.objs.size)).get? (hp.objs.size + 1) = some (excO C hp.objs.size) := by heap_get
  have hnx : K.lookup (hp.objs.size + 1) = none := by
    cases e : K.lookup (hp.objs.size + 1) with
    | none => rfl
    | some o =>
      have z : hp.get? (hp.objs.size + 1) = some o := X _ _ e
      exact absurd (Nat.lt_of_succ_lt (Heap.lt_size z)) (Nat.lt_irrefl _)
  refine call_own F.excBase_ValueError (fun X => refsVE_contains X bm hbm) (X _ _ hC) (looks_findIn X T.iC) (fun self => bind_fn X self T.tC) (one_size v) ?_
  refine sup_init (s := ⟨(hp.push (kdv_tup [v])).push (excO C hp.objs.size), g, dr, tk, os⟩) T (X.keeps k) (hg.keeps k) (hb.keeps k) hbb (hlim.keeps k) hget hnx ?_ fun h' tk' dx t1 ⟨k', hx, dn, dne, hns⟩ => ?_
  · show A.depth + 1 < recursionLimit
    exact hroom
  · have old : ∀ b o, hp.get? b = some o → h'.get? b = some o := fun b o e => k' b o (Nat.ne_of_lt (Nat.lt_succ_of_lt (Heap.lt_size e))) (k b o e)
    have z : hp.objs.size + 1 + 1 ≤ dx := by
      first
        | (simpa only [Heap.size_push] using dn)
        | exact dn
        | (have q := dn; rw [Heap.size_push, Heap.size_push] at q; exact q)
    exact ⟨rfl, hq h' tk' (hp.objs.size + 1) dx ⟨old, Nat.le_succ _, ⟨_, _, hx, rfl, rfl, rfl, rfl, rfl⟩, Nat.le_trans (Nat.le_trans (Nat.le_succ _) (Nat.le_succ _)) z, dne, hns⟩⟩
end
end XSup
end PySem
set_option maxHeartbeats 4000000
namespace Tw
open PySem PySem.Spec L2
theorem relO_one {v : V} {v' : Value} (r : RelV v v') (g f : Str) : RelO (List.lookup f [(g, v)]) (if f = g then some v' else none) := by
  by_cases hw : f = g
  · subst hw
    rw [if_pos rfl]
    have q : List.lookup f [(f, v)] = some v := by simp [List.lookup]
    rw [q]
    exact r
  · rw [if_neg hw]
    have qw : (f == g) = false := by simpa using hw
    have q2 : List.lookup f [(g, v)] = none := by simp [List.lookup, qw]
    rw [q2]
    trivial
/-- what the written part says of the exceptions -/
structure Exf (T : Tb) (prog : Program) (K : PySem.W.Frag) : Prop where
  rz : ∀ C fs, T.xin C = some fs → PySem.W.subIn K (.ref (T.cad C)) (.type "BaseException") = some true ∧ PySem.W.typeIn K (.ref (T.cad C)) = some (.type "type")
  x0 : ∀ C, T.xin C = some [] → PySem.W.excIn K (T.cad C) veBase "ValueError.__new__" = true
  x1 : ∀ C f, T.xin C = some [f] → ∃ fI x, PySem.XSup.Txt prog K (T.cad C) fI x (T.fnm f)
section
variable {T : Tb} {X : Cx}
theorem rok (F : Exf T X.prog X.K) (hcls : ∀ C, T.isC C = true → PySem.W.keepIn X.K (.ref (T.cad C)) = true ∧ X.mg (T.cn C) = some (.ref (T.cad C))) (hroom : X.A.depth + 1 < recursionLimit) : Rok T X where
  r0 := by
    intro C hx hC x p pos hg
    obtain ⟨e1, e2, e3, e4⟩ := glo hg
    obtain ⟨kC, gC⟩ := hcls C hC
    obtain ⟨z1, z2⟩ := F.rz C _ hx
    have rz := raises_own (X := X) z1 z2
    intro pins s σ H Q I h
    refine wpAny_Call_Name_kw (ld_glob I e2 (by rw [e1]; exact gC) ?_ e3)
    refine PySem.W.callWith_K0 I.kIn kC ?_
    obtain ⟨bm, N, nm, qn, bs, hdct, sn, sub, ab, col, dd, k0, k1, k2, k3, k5, mN, hC', hN, hni, Tl⟩ := exc_obj I.kIn (F.x0 C hx)
    refine wpAny_call_exc_subT PySem.F.excBase_ValueError Tl hC' hN hni (fun h' e hm => ?_) (by show 0 ≤ sizeLine; exact Nat.zero_le _)
    exact L2N.mk_of I hm rz h (I.hok.gone hm.new)
  r1 := by
    intro C f hx hC x p pos pe t hg hs ha
    obtain ⟨e1, e2, e3, e4⟩ := glo hg
    obtain ⟨kC, gC⟩ := hcls C hC
    obtain ⟨z1, z2⟩ := F.rz C _ hx
    have rz := raises_own (X := X) z1 z2
    intro pins s σ H Q I h
    refine wpAny_Call_Name_kw (ld_glob I e2 (by rw [e1]; exact gC) ?_ e3)
    obtain ⟨fI, xn, Tx⟩ := F.x1 C f hx
    refine PySem.W.callWith_K (h₀ := X.base) I.ok.mod.kin kC (thn (ha.run pos pins s σ H _ I h) fun us s1 hh => ?_) (star1 hs) rfl
    obtain ⟨vs, H1, I1, r1, v, ev, q1⟩ := hh
    subst ev
    refine ⟨I1.kIn, ?_⟩
    cases r1 with
    | cons rv rn =>
      rename_i v' us
      cases rn
      show wpAny _ _ (call (.ref (T.cad C)) [v']) _ _ _
      have hlim := I1.nolimit
      obtain ⟨mb, hb1, hb2⟩ := I1.mod.blt
      have Gl1 := I1.mod.glob.keeps I1.bk
      have Bl1 := hb1.keeps I1.bk
      obtain ⟨hp, g, dr, tk, os⟩ := s1
      refine wpAny_call (PySem.XSup.sup_made Tx I1.kIn Gl1 Bl1 hb2 hlim hroom fun h' tk' e d M => ?_)
      show L2N.MkP X pins σ Q (.ref e) ⟨h', g, dr, tk', os⟩
      obtain ⟨oe, fv, hoe, hc, hd, hdat, h1, h2⟩ := M.obj
      have hns := M.ns
      obtain ⟨G', g1, g2⟩ := restrict h' fun b => decide (b ≠ e)
      have gk : ∀ b, b ≠ e → G'.get? b = h'.get? b := fun b hb => g1 b (decide_eq_true hb)
      have ge : G'.get? e = none := g2 e (by simp)
      have old : ∀ b o, hp.get? b = some o → G'.get? b = some o := fun b o q => (gk b (Nat.ne_of_lt (Nat.lt_of_lt_of_le (Heap.lt_size q) M.new))).trans (M.keep b o q)
      have ob : ObjOk X.prog X.w (upd H1 d (.xd [(T.fnm f, v)])) G' d (.xd [(T.fnm f, v)]) :=
        ⟨_, hns.at (fun o q => (gk d M.dne).trans q), fun y => relO_one rv (T.fnm f) y⟩
      have J : L2.Inv X pins σ (upd H1 d (.xd [(T.fnm f, v)])) ⟨G', g, dr, tk', os⟩ := I1.laid (t' := tk') old M.dbig ob
      refine ⟨e, oe, fv, ⟨G', g, dr, tk', os⟩, _, .ref (T.cad C), some d, rfl, J, fun b o q => ?_, ge, hoe, ⟨hc, hd, fun vs e => by rw [hdat] at e; cases e; exact h2⟩, hdat, h1, ?_, rfl, I1.bare, rz, q1 d (I1.hok.fresh M.dbig)⟩
      · by_cases hb : b = e
        · have q' : G'.get? b = some o := q
          rw [hb, ge] at q'; cases q'
        · exact (gk b hb).symm.trans q
      · rw [upd_ne (Ne.symm M.dne)]
        exact I1.hok.fresh M.new
end
end Tw
set_option maxHeartbeats 4000000
namespace Tw
open PySem PySem.Spec L2
theorem look_zip : ∀ {ps : List Str} {us : List Value}, ps.Nodup → us.length = ps.length → ∀ (i : Nat) (n : Str), ps[i]? = some n → ∃ v, us[i]? = some v ∧ (ps.zip us).lookup n = some v
  | [], _, _, _, i, n, h => by simp at h
  | p :: ps, [], _, hl, _, _, _ => by simp at hl
  | p :: ps, u :: us, hd, hl, 0, n, h => by
    simp at h
    subst h
    exact ⟨u, rfl, by simp [List.lookup]⟩
  | p :: ps, u :: us, hd, hl, i + 1, n, h => by
    rw [List.nodup_cons] at hd
    have h' : ps[i]? = some n := by simpa using h
    obtain ⟨v, h1, h2⟩ := look_zip hd.2 (by simpa using hl) i n h'
    have ne : (n == p) = false := by
      rw [beq_eq_false_iff_ne]
      exact fun e => hd.1 (e ▸ List.mem_of_getElem? h')
    exact ⟨v, by simpa using h1, by rw [List.zip_cons_cons, List.lookup_cons, ne]; exact h2⟩
theorem none_missing {ps : List Str} {us : List Value} (hd : ps.Nodup) (hl : us.length = ps.length) : ∀ n ∈ ps, ((ps.zip us).lookup n).isNone = false := fun n hn => by
  obtain ⟨i, hi⟩ := List.getElem?_of_mem hn
  obtain ⟨v, _, h⟩ := look_zip hd hl i n hi
  rw [h]; rfl
theorem binds_zip {ps : List Str} {us : List Value} (hd : ps.Nodup) (hl : us.length = ps.length) : ps.filterMap (fun n => ((ps.zip us).lookup n).map (n, ·)) = ps.zip us := by
  have main : ∀ (qs : List Str) (ws : List Value), qs.length = ws.length → (∀ (i : Nat) (n : Str), qs[i]? = some n → ∃ v, ws[i]? = some v ∧ (ps.zip us).lookup n = some v) → qs.filterMap (fun n => ((ps.zip us).lookup n).map (n, ·)) = qs.zip ws := by
    intro qs
    induction qs with
    | nil => intro ws _ _; rfl
    | cons q qs ih =>
      intro ws hw h
      cases ws with
      | nil => simp at hw
      | cons w ws =>
        obtain ⟨v, h1, h2⟩ := h 0 q rfl
        have e : w = v := by simpa using h1
        subst e
        rw [List.filterMap_cons, h2]
        show (q, w) :: _ = (q, w) :: _
        rw [ih ws (by simpa using hw) fun i n hi => by simpa using h (i + 1) n (by simpa using hi)]
        rfl
  exact main ps us hl.symm (look_zip hd hl)
theorem bind_plain {ps : List Str} {fd : FuncData} {us : List Value} (h : plainB ps fd.params = true) (hdf : fd.defaults = .none) (hl : us.length = ps.length) : bindArgs fd ⟨us, []⟩ = pure (ps.zip us) := by
  simp only [plainB, Bool.and_eq_true, decide_eq_true_eq, List.isEmpty_iff, Option.isNone_iff_eq_none] at h
  obtain ⟨⟨⟨⟨⟨h1, h2⟩, h3⟩, h4⟩, h5⟩, h6⟩ := h
  have z : (ps.filter fun n => ((ps.zip us).lookup n).isNone) = [] := by
    rw [List.filter_eq_nil_iff]
    intro n hn
    rw [none_missing h6 hl n hn]
    simp
  unfold bindArgs
  simp only [h1, h2, h3, h4, h5, hdf, List.map_nil, List.nil_append, List.append_nil]
  have hn : ¬ (us.length > ps.length ∧ True) := by omega
  simp [seqItems?, hl, z, binds_zip h6 hl]
  rfl
theorem permL_vals : ∀ {pm : List Nat} {vs : List V} {us : List Value}, Vals vs us → Vals (permL pm vs) (permL pm us)
  | [], _, _, _ => .nil
  | j :: pm, vs, us, r => by
    unfold permL
    rw [List.filterMap_cons, List.filterMap_cons]
    cases hj : vs[j]? with
    | none =>
      have : us[j]? = none := by rw [List.getElem?_eq_none_iff] at hj ⊢; rw [← r.length]; exact hj
      rw [this]
      exact permL_vals r
    | some d =>
      obtain ⟨v, h1, h2⟩ := r.get hj
      rw [h1]
      exact .cons h2 (permL_vals r)
theorem kbn_plain {K : PySem.W.Frag} {ps ks : List Str} {n : Nat} {pm : List Nat} {fd : FuncData} (h : plainB ps fd.params = true) (hdf : fd.defaults = .none) (hk : kwB ps n ks pm = true) : KBn K fd ps n ks (fun us ws => permL pm (us ++ ws)) (fun us ws => permL pm (us ++ ws)) :=
  ⟨fun s us ws _ hl hw => BindsTo.of_eq (bind_kw h hdf hk hl hw), fun r1 r2 => permL_vals (r1.append r2)⟩
end Tw
set_option maxHeartbeats 4000000
namespace Tw
open PySem PySem.Spec L2
theorem lk2_mem : ∀ {l : List (Nat × Nat × Nat)} {a b c : Nat}, lk2 l a b = some c → (a, b, c) ∈ l
  | (x, y, z) :: r, a, b, c, h => by
    unfold lk2 at h
    split at h
    · next q =>
      cases h
      rw [← q.1, ← q.2]
      exact List.mem_cons_self
    · exact List.mem_cons_of_mem _ (lk2_mem h)
theorem dfB_ok {T : Tb} {K : PySem.W.Frag} {f : Nat} {d : Df} (h : dfB T.toTs K (T.fad f) (T.isH f) d = true) (ha : d.ps.length = T.ar f) (hp : T.pn f = d.ps) : DfOk T K f d := by
  refine ⟨?_, ha⟩
  unfold dfB at h
  rw [Bool.and_eq_true] at h
  obtain ⟨kp, h⟩ := h
  cases q : K.lookup (T.fad f) with
  | none => rw [q] at h; cases h
  | some o =>
    obtain ⟨oc, od, dt, osl⟩ := o
    rw [q] at h
    cases dt with
    | func fd =>
      simp only [Bool.and_eq_true] at h
      obtain ⟨⟨⟨⟨⟨⟨⟨h1, h2⟩, h3⟩, h4⟩, h5⟩, h6⟩, h7⟩, h8⟩ := h
      replace h1 := of_decide_eq_true h1
      have h22 : fd.closure = [] := List.isEmpty_iff.mp h2
      clear h2
      replace h3 := of_decide_eq_true h3
      replace h5 : fd.defaults = .none := by
        split at h5
        · next z => exact z
        · cases h5
      have bb : Binds K fd d.ps [] := .all fun us hl => bind_plain h6 h5 hl
      cases hb : fd.body with
      | stmts body =>
        rw [hb] at h8
        simp only [Bool.and_eq_true, Bool.or_eq_true, Bool.not_eq_true'] at h8
        refine ⟨fd.name, fd.qualname, fd.params, body, fd.scope, [], [], fd, ⟨⟨oc, od, .none, fd.kwdefaults, fd.doc, fd.pyModule, fd.annotations, fd.code, fd.closureTuple, osl, ?_, q, h4, .inl ⟨rfl, rfl⟩, .inl rfl⟩, kp⟩, bb, fun us hl => bind_plain h6 h5 hl, fun n ks pm hk => kbn_plain h6 h5 (by rw [← hp]; exact hk), h7, h8.1, fun hh => ?_⟩
        · clear h7 h8 h6 bb h4
          obtain ⟨n1, n2, n3, n4, n5, n6, n7, n8, n9, n10, n11, n12, n13, n14, n15⟩ := fd
          dsimp only at h1 h22 h3 h5 hb
          subst h1 h22 h3 h5 hb
          rfl
        · rcases h8.2 with z | z
          · rw [hh] at z; cases z
          · exact z
      | _ => rw [hb] at h8; cases h8
    | _ => cases h
theorem dfXB_ok {T : Tb} {K : PySem.W.Frag} {f : Nat} {d : Df} (h : dfXB T.toTs K (T.fad f) d = true) : DfX T K f d := by
  unfold dfXB at h
  rw [Bool.and_eq_true, Bool.and_eq_true] at h
  obtain ⟨⟨kp, ha⟩, h⟩ := h
  refine ⟨?_, of_decide_eq_true ha⟩
  cases q : K.lookup (T.fad f) with
  | none => rw [q] at h; cases h
  | some o =>
    obtain ⟨oc, od, dt, osl⟩ := o
    rw [q] at h
    cases dt with
    | func fd =>
      simp only [Bool.and_eq_true] at h
      obtain ⟨⟨⟨⟨⟨⟨⟨h1, h2⟩, h3⟩, h4⟩, h5⟩, h6⟩, h7⟩, h8⟩ := h
      replace h1 := of_decide_eq_true h1
      have h22 : fd.closure = [] := List.isEmpty_iff.mp h2
      clear h2
      replace h3 := of_decide_eq_true h3
      replace h5 : fd.defaults = .none := by
        split at h5
        · next z => exact z
        · cases h5
      have bb : Binds K fd d.ps [] := .all fun us hl => bind_plain h6 h5 hl
      cases hb : fd.body with
      | stmts body =>
        rw [hb] at h8
        refine ⟨fd.name, fd.qualname, fd.params, body, fd.scope, [], [], fd, ⟨⟨oc, od, .none, fd.kwdefaults, fd.doc, fd.pyModule, fd.annotations, fd.code, fd.closureTuple, osl, ?_, q, h4, .inl ⟨rfl, rfl⟩, .inl rfl⟩, kp⟩, bb, h7, h8⟩
        · clear h7 h8 h6 bb h4
          obtain ⟨n1, n2, n3, n4, n5, n6, n7, n8, n9, n10, n11, n12, n13, n14, n15⟩ := fd
          dsimp only at h1 h22 h3 h5 hb
          subst h1 h22 h3 h5 hb
          rfl
      | _ => rw [hb] at h8; cases h8
    | _ => cases h
end Tw
set_option maxHeartbeats 4000000
namespace Tw
open PySem PySem.Spec L2
open He (eqO eqO_ok)
theorem xcB_ok {K : PySem.W.Frag} {C : Addr} (q : xcB K C = true) : ∃ nm q N bs bm sn sub ab col dd k0 k1 k2 k3 k5, K.lookup C = some (excClassObj nm q C N bs bm true sn sub ab col dd k0 k1 k2 k3 k5 "ValueError.__new__") ∧ PySem.HandSPX.refsVE bm = true := by
  unfold xcB at q
  split at q
  · rename_i dd cd sl ho
    split at q
    · rename_i C' bm k0 k1 k2 k3 n k5 hm hs
      simp only [Bool.and_eq_true, beq_iff_eq, Bool.not_eq_true'] at q
      obtain ⟨⟨⟨⟨e1, e2⟩, e3⟩, e4⟩, e5⟩ := q
      obtain ⟨nm, bs, mro, ns, qn, hd, sn, sub, ab, col, del⟩ := cd
      dsimp only at hm e3 e4
      subst hm e1 e2 e3 e4
      have hsl : sl = #[k0, k1, k2, k3, some (.builtin "ValueError.__new__"), k5] := by
        obtain ⟨l⟩ := sl; simp only at hs; rw [hs]
      subst hsl
      exact ⟨nm, qn, ns, bs, bm, sn, sub, ab, col, dd, k0, k1, k2, k3, k5, ho, e5⟩
    · cases q
  · cases q
theorem isNm_ok {z : Str} {e : Expr} (h : isNm z e = true) : ∃ p, e = .Name z p := by
  cases e <;> first | (cases h; done) | skip
  exact ⟨_, by rw [of_decide_eq_true h]⟩
theorem xaB_ok {x : Str} {a : Arguments} (h : xaB x a = true) : ∃ p1 p2, a = PySem.XSup.iA x p1 p2 := by
  simp only [xaB, Bool.and_eq_true, List.isEmpty_iff, Option.isNone_iff_eq_none] at h
  obtain ⟨⟨⟨⟨⟨⟨h0, h1⟩, h2⟩, h3⟩, h4⟩, h5⟩, h6⟩ := h
  obtain ⟨po, ar, va, ko, kd, kw, df⟩ := a
  dsimp only at h0 h1 h2 h3 h4 h5 h6
  match ar, h0 with
  | [⟨sa, sn, sp⟩, ⟨ya, yn, yp⟩], h0 =>
    simp only [Bool.and_eq_true, decide_eq_true_eq, Option.isNone_iff_eq_none] at h0
    obtain ⟨⟨⟨e1, e2⟩, e3⟩, e4⟩ := h0
    subst e1 e2 e3 e4 h1 h2 h3 h4 h5 h6
    exact ⟨sp, yp, rfl⟩
theorem xl0_ok {e : Expr} (h : xl0 e = true) : ∃ a0 a1, e = .Call (.Name "super" a0) [] [] a1 := by
  unfold xl0 at h
  split at h
  · obtain ⟨p, rfl⟩ := isNm_ok h
    exact ⟨_, _, rfl⟩
  · cases h
theorem xat1_ok {e : Expr} {a2 : Pos} (h : xat1 e = some a2) : ∃ a0 a1, e = .Attribute (.Call (.Name "super" a0) [] [] a1) "__init__" a2 := by
  unfold xat1 at h
  split at h
  · split at h
    · next q =>
      rw [Bool.and_eq_true] at q
      cases h
      obtain ⟨a0, a1, rfl⟩ := xl0_ok q.1
      rw [of_decide_eq_true q.2]
      exact ⟨_, _, rfl⟩
    · cases h
  · cases h
theorem xcn_ok {e : Expr} (h : xcn e = true) : ∃ m j a3, e = .Constant (.str m) j a3 := by
  unfold xcn at h
  split at h
  · exact ⟨_, _, _, rfl⟩
  · cases h
theorem xe1_ok {s : Stmt} (h : xe1 s = true) : ∃ m j a0 a1 a2 a3 a4 a5, s = .Expr (.Call (.Attribute (.Call (.Name "super" a0) [] [] a1) "__init__" a2) [.Constant (.str m) j a3] [] a4) a5 ∧ (a2.endLine == a4.line) = true := by
  unfold xe1 at h
  split at h
  · unfold xc1 at h
    split at h
    · rw [Bool.and_eq_true] at h
      obtain ⟨h1, h2⟩ := h
      obtain ⟨m, j, a3, rfl⟩ := xcn_ok h1
      split at h2
      · next q =>
        obtain ⟨a0, a1, rfl⟩ := xat1_ok q
        exact ⟨_, _, _, _, _, _, _, _, rfl, h2⟩
      · cases h2
    · cases h
  · cases h
theorem xe2_ok {x f : Str} {s : Stmt} (h : xe2 x f s = true) : ∃ q1 q2 q3 q4, s = .Assign [.Attribute (.Name "self" q1) f q2] (.Name x q3) q4 := by
  unfold xe2 at h
  split at h
  · rw [Bool.and_eq_true] at h
    obtain ⟨h1, h2⟩ := h
    obtain ⟨q3, rfl⟩ := isNm_ok h2
    unfold xt2 at h1
    split at h1
    · rw [Bool.and_eq_true] at h1
      obtain ⟨q1, rfl⟩ := isNm_ok h1.1
      rw [of_decide_eq_true h1.2]
      exact ⟨_, _, _, _, rfl⟩
    · cases h1
  · cases h
theorem xsc_ok {x : Str} {sc : Scope} (h : xsc x sc = true) : sc = PySem.XSup.iS x := by
  simp only [xsc, Bool.and_eq_true, Bool.not_eq_true', List.isEmpty_iff, decide_eq_true_eq] at h
  obtain ⟨⟨⟨⟨h1, h2⟩, h3⟩, h4⟩, h5⟩ := h
  obtain ⟨k, n, g, c, m⟩ := sc
  dsimp only at h1 h2 h3 h4 h5
  split at h1
  · subst h2 h3 h4 h5
    rfl
  · cases h1
theorem vnB_ok {v : Value} (h : vnB v = true) : v = .none := by
  cases v <;> first | rfl | cases h
theorem xtB_ok {prog : Program} {K : PySem.W.Frag} {C : Addr} {x f : Str} (h : xtB prog K C x f = true) : PySem.XSup.Txt prog K C (He.ma K C "__init__") x f := by
  simp only [xtB, Bool.and_eq_true, Bool.not_eq_true', decide_eq_true_eq] at h
  obtain ⟨⟨⟨⟨⟨⟨⟨⟨⟨⟨⟨⟨⟨⟨⟨h1, h2⟩, h3⟩, h4⟩, h5⟩, h6⟩, h7⟩, h8⟩, h9⟩, h10⟩, h11⟩, h12⟩, h13⟩, h14⟩, h15⟩, h16⟩ := h
  refine ⟨xcB_ok h1, eqO_ok h2, eqO_ok h3, eqO_ok h4, h5, eqO_ok h6, h7, h8, eqO_ok h9, eqO_ok h10, ?_, h12, h13, h14, h15, h16, fun qual p1 p2 body cc doc pm an cd ct u v => ?_⟩
  · unfold xiB at h11
    split at h11
    · next oc od fd osl ho =>
      simp only [Bool.and_eq_true, decide_eq_true_eq] at h11
      obtain ⟨⟨⟨⟨⟨⟨⟨⟨⟨e1, e2⟩, e3⟩, e4⟩, e5⟩, e6⟩, e7⟩, e8⟩, e9⟩, k⟩ := h11
      obtain ⟨nm, qual, params, body, scope, gl, clo, dv, kv, doc, pm, an, code, ct, bi⟩ := fd
      dsimp only at e1 e2 e3 e4 e5 e6 e7 e8 e9 k
      obtain ⟨p1, p2, rfl⟩ := xaB_ok e2
      have e4 := xsc_ok e4
      have e7 := vnB_ok e7
      have e8 := vnB_ok e8
      subst e1 e4 e5 e7 e8 e9
      unfold xbB at e3
      split at e3
      · rw [Bool.and_eq_true] at e3
        obtain ⟨m, j, a0, a1, a2, a3, a4, a5, rfl, k2⟩ := xe1_ok e3.1
        obtain ⟨q1, q2, q3, q4, rfl⟩ := xe2_ok e3.2
        unfold xclB at e6
        split at e6
        · next c0 cc =>
          rw [Bool.and_eq_true] at e6
          have ec := of_decide_eq_true e6.1
          subst ec
          unfold xcdB at k
          split at k
          · next cda =>
            rw [Bool.and_eq_true] at k
            refine ⟨oc, od, doc, pm, an, cda, cc, ct, osl, p1, p2, a0, a1, a2, a3, a4, a5, q1, q2, q3, q4, m, qual, j, ho, k.1, k2, ?_, ?_⟩
            · have k3 := k.2
              split at k3
              · next cl cd vs cs ho2 =>
                split at k3
                · next file tf hv => exact ⟨cl, cd, vs, cs, file, tf, ho2, hv, k3⟩
                · cases k3
              · cases k3
            · have k4 := e6.2
              split at k4
              · next cl cd C' cs ho2 => exact ⟨cl, cd, cs, by rw [ho2, of_decide_eq_true k4]⟩
              · cases k4
          · cases k
        · cases e6
      · cases e3
    · cases h11
  · refine bind_plain (ps := ["self", x]) ?_ rfl rfl
    have ne : ¬ (("self" : Str) = x) := fun e => h13 e.symm
    simp [plainB, PySem.XSup.iA, ne]
end Tw
set_option maxHeartbeats 4000000
namespace Tw
open PySem PySem.Spec L2
open He (eqO eqO_ok Fa)
theorem xeB_ok {K : PySem.W.Frag} {D : Addr} (h : xeB K D = true) : ExcC K D ∧ XfC K D ∧ PySem.W.kitOne K (.ref D) (.type "ValueError") = some true ∧ PySem.W.typeIn K (.ref D) = some (.type "type") := by
  simp only [xeB, Bool.and_eq_true, decide_eq_true_eq] at h
  obtain ⟨⟨⟨⟨⟨⟨⟨⟨⟨h1, h2⟩, h3⟩, h4⟩, h5⟩, h6⟩, h7⟩, h8⟩, h9⟩, h10⟩ := h
  exact ⟨⟨eqO_ok h1, eqO_ok h2, h3, h4, eqO_ok h5, eqO_ok h6, h7, h8⟩, ⟨eqO_ok h1, eqO_ok h2, h3, h4⟩, h9, h10⟩
theorem allN_ok {n : Nat} {p : Nat → Bool} (h : allN n p = true) {i : Nat} (hi : i < n) : p i = true := List.all_eq_true.mp h i (List.mem_range.mpr hi)
variable (L : Lw)
variable {L} {K : PySem.W.Frag} {prog : Program} {pn : Nat → Str} {h : Heap} {mg : Str → Option Value}
theorem look_mem {α : Type} {l : List (Nat × α)} {C : Nat} {v : α} (e : l.lookup C = some v) : (C, v) ∈ l := mem_look e
theorem lw_defs (c : fsB L K = true) {f : Nat} (hf : (L.tb K).isF f = true) : DfOk (L.tb K) K f (L.df f) := by
  obtain ⟨hf, hx⟩ := Bool.and_eq_true_iff.mp (show (decide (f < L.fs.length) && !L.xf.contains f) = true from hf)
  have z := allN_ok c (of_decide_eq_true hf)
  rw [Bool.and_eq_true] at z
  rw [if_neg (by rw [Bool.not_eq_true'] at hx; rw [hx]; decide)] at z
  exact dfB_ok (T := L.tb K) z.1 rfl rfl
theorem lw_defX (c : fsB L K = true) {f : Nat} (hf : (L.tb K).isE f = true) : DfX (L.tb K) K f (L.df f) := by
  obtain ⟨hf, hx⟩ := Bool.and_eq_true_iff.mp (show (decide (f < L.fs.length) && L.xf.contains f) = true from hf)
  have z := allN_ok c (of_decide_eq_true hf)
  rw [Bool.and_eq_true] at z
  rw [if_pos hx] at z
  exact dfXB_ok (T := L.tb K) z.1
theorem lw_stc (X : K.In h) (G : h.Ns mainGlobals mg) (c1 : fsB L K = true) (c2 : clB L K = true) (c3 : msB L K = true) (c4 : flB L K = true) (c5 : isB L K = true) (c6 : coB L K = true) (xo : Xok (L.tb K) K) (oo : OwnF (L.tb K) K) : Stc (L.tb K) K mg := by
  refine ⟨fun f hf => ?_, fun C m f e => ?_, fun C f e => ?_, fun C f e => ?_, fun C hC => ?_, fun g i e => ?_, fun g i e => ?_, fun x hx => ?_, xo, oo⟩
  · have hf' : (decide (f < L.fs.length) && (L.fs.getD f ("", none, ⟨[], [], []⟩, false)).2.1.isNone) = true := hf
    rw [Bool.and_eq_true] at hf'
    have hlt := of_decide_eq_true hf'.1
    have z := allN_ok c1 hlt
    rw [Bool.and_eq_true, Bool.or_eq_true, Bool.not_eq_true'] at z
    rcases z.2 with z2 | z2
    · rw [show L.ts.isG f = true from hf] at z2; cases z2
    · rw [Bool.and_eq_true] at z2
      have q := He.glo_ok X G z2.1
      have e2 : (L.tb K).fad f = He.ga K (L.ts.gn f) := of_decide_eq_true z2.2
      rw [e2]
      exact q
  · have z := List.all_eq_true.mp c3 _ (lk2_mem e)
    simp only [Bool.and_eq_true, decide_eq_true_eq] at z
    obtain ⟨⟨⟨z1, z2⟩, z3⟩, z4⟩ := z
    refine ⟨z1, He.cls_ok z2, ?_⟩
    show Meth K (He.ga K (L.ts.cn C)) (L.fnm m) (L.fa K f)
    rw [z4]
    exact He.meth_ok z3
  · have z := List.all_eq_true.mp c4 (C, f) (by have e' : L.fl.contains (C, f) = true := e; simpa using e')
    simp only [Bool.and_eq_true] at z
    exact ⟨He.cls_ok z.1, He.noat_ok z.2⟩
  · have z := List.all_eq_true.mp c5 (C, f) (look_mem e)
    simp only [Bool.and_eq_true, decide_eq_true_eq] at z
    obtain ⟨⟨⟨z1, z2⟩, z3⟩, z4⟩ := z
    refine ⟨z1, ?_, He.glo_ok X G z4⟩
    show Mk K (He.ga K (L.ts.cn C)) (L.fa K f)
    rw [z3]
    exact He.mkr_ok z2
  · have z := allN_ok c2 (show C < L.cs.length from of_decide_eq_true hC)
    rw [Bool.and_eq_true] at z
    exact ⟨z.1, He.glo_ok X G z.2⟩
  · have c61 := (Bool.and_eq_true_iff.mp (Bool.and_eq_true_iff.mp c6).1).1
    have e : (if L.fs.length ≤ g then (L.ci[g - L.fs.length]?).map (·.2) else none) = some i := e
    split at e
    · next hg =>
      obtain ⟨⟨x, i'⟩, q1, q2⟩ := Option.map_eq_some_iff.mp e
      subst q2
      have hlt := (List.getElem?_eq_some_iff.mp q1).1
      have z := He.int_ok X G (List.all_eq_true.mp c61 _ (List.mem_of_getElem? q1))
      have en : (L.tb K).gn g = x := by
        show (if g < L.fs.length then _ else if g < L.fs.length + L.ci.length then _ else _) = _
        rw [if_neg (by omega), if_pos (by omega), List.getD_eq_getElem?_getD, q1]
        rfl
      rw [en]
      exact z
    · cases e
  · have c62 := (Bool.and_eq_true_iff.mp (Bool.and_eq_true_iff.mp c6).1).2
    have e : (if L.fs.length + L.ci.length ≤ g then (L.ct[g - L.fs.length - L.ci.length]?).map (·.2) else none) = some i := e
    split at e
    · next hg =>
      obtain ⟨⟨x, i'⟩, q1, q2⟩ := Option.map_eq_some_iff.mp e
      subst q2
      have z := He.str_ok X G (List.all_eq_true.mp c62 _ (List.mem_of_getElem? q1))
      have en : (L.tb K).gn g = x := by
        show (if g < L.fs.length then _ else if g < L.fs.length + L.ci.length then _ else _) = _
        rw [if_neg (by omega), if_neg (by omega), List.getD_eq_getElem?_getD, q1]
        rfl
      rw [en]
      exact z
    · cases e
  · exact He.free_ok X G (List.all_eq_true.mp (Bool.and_eq_true_iff.mp c6).2 x hx)
theorem exB_at (c : exB L prog pn K = true) {C : Nat} {fs : List Nat} (hC : L.xs.lookup C = some fs) : xeB K (He.ga K (L.ts.cn C)) = true ∧ (∀ D fs', L.xs.lookup D = some fs' → PySem.W.kitOne K (.ref (He.ga K (L.ts.cn C))) (.ref (He.ga K (L.ts.cn D))) = some (L.ts.sub C D) ∧
    PySem.W.exmOne K (.ref (He.ga K (L.ts.cn C))) (.ref (He.ga K (L.ts.cn D))) = some (L.ts.sub C D)) ∧ (∀ f ∈ fs, f < L.fn.length ∧ PySem.W.findIn K (.ref (He.ga K (L.ts.cn C))) (L.fnm f) = some none) ∧ exT L prog pn K C fs = true := by
  have z := List.all_eq_true.mp c (C, fs) (look_mem hC)
  simp only [Bool.and_eq_true] at z
  obtain ⟨⟨⟨z1, z2⟩, z3⟩, z4⟩ := z
  refine ⟨z1, fun D fs' hD => ?_, fun f hf => ?_, z4⟩
  · have q := List.all_eq_true.mp z2 (D, fs') (look_mem hD)
    simp only [Bool.and_eq_true, decide_eq_true_eq] at q
    exact q
  · have q := List.all_eq_true.mp z3 f hf
    rw [Bool.and_eq_true] at q
    exact ⟨of_decide_eq_true q.1, eqO_ok q.2⟩
theorem lw_own (c : owB L K = true) : OwnF (L.tb K) K := by
  unfold owB at c
  rw [Bool.and_eq_true, Bool.and_eq_true] at c
  obtain ⟨⟨c1, c2⟩, c3⟩ := c
  have key : ∀ C, (L.tb K).isO C = true → owB1 L K C = true := fun C hC => List.all_eq_true.mp c1 C (by have hC' : L.os.contains C = true := hC; simpa using hC')
  have z : ∀ C, (L.tb K).isO C = true → _ := fun C hC => by
    have q := key C hC
    simp only [owB1, Bool.and_eq_true, decide_eq_true_eq] at q
    exact q
  refine ⟨fun C hC => (z C hC).1.1.1.1.1.1.1.2, fun C hC n hn => ?_, fun C D hC hD => ?_, fun C D hC hD => ?_, fun C hC => ?_, fun C m f e => ?_⟩
  · have q := List.all_eq_true.mp (z C hC).1.2 n hn
    simp only [Bool.and_eq_true, decide_eq_true_eq] at q
    exact ⟨q.1.1, q.1.2, q.2⟩
  · have q := List.all_eq_true.mp (z C hC).2 D (by have hD' : L.os.contains D = true := hD; simpa using hD')
    exact of_decide_eq_true q
  · have hD' : L.no.contains (C, D) = true := hD
    exact List.all_eq_true.mp c2 (C, D) (by simpa using hD')
  · obtain ⟨⟨⟨⟨⟨⟨⟨⟨⟨q1, q2⟩, q3⟩, q4⟩, q5⟩, q6⟩, q7⟩, q8⟩, q9⟩, q10⟩ := z C hC
    exact ⟨decide_eq_true q1, He.cls_ok q2, eqO_ok q4, eqO_ok q5, q6, q7, q8⟩
  · have q := List.all_eq_true.mp c3 _ (lk2_mem e)
    simp only [Bool.and_eq_true, decide_eq_true_eq] at q
    obtain ⟨⟨⟨⟨⟨q1, q2⟩, q3⟩, q4⟩, q5⟩, q6⟩ := q
    refine ⟨q1, He.cls_ok q2, _, eqO_ok q3, eqO_ok q4, q5, ?_⟩
    split at q6
    · next g r e1 =>
      rw [of_decide_eq_true q6] at e1
      exact ⟨r, e1⟩
    · cases q6
theorem lw_xok (c : exB L prog pn K = true) : Xok (L.tb K) K := by
  refine ⟨fun C hC => ?_, fun C D hC hD => ?_, fun C f e => ?_⟩
  · obtain ⟨fs, hC⟩ := Option.isSome_iff_exists.mp (show (L.xs.lookup C).isSome = true from hC)
    obtain ⟨a, b, c, _⟩ := xeB_ok (exB_at c hC).1
    exact ⟨a, b, c⟩
  · obtain ⟨fs, hC⟩ := Option.isSome_iff_exists.mp (show (L.xs.lookup C).isSome = true from hC)
    obtain ⟨fs', hD⟩ := Option.isSome_iff_exists.mp (show (L.xs.lookup D).isSome = true from hD)
    exact (exB_at c hC).2.1 D fs' hD
  · have e : (match L.xs.lookup C with | some l => l.contains f | none => false) = true := e
    cases hC : L.xs.lookup C with
    | none => rw [hC] at e; cases e
    | some fs =>
      rw [hC] at e
      exact ((exB_at c hC).2.2.1 f (by simpa using e)).2
theorem lw_exf (c : exB L prog pn K = true) : Exf (L.tb K) prog K := by
  refine ⟨fun C fs hC => ?_, fun C hC => ?_, fun C f hC => ?_⟩
  · have hC : L.xs.lookup C = some fs := hC
    obtain ⟨a, b, _, d⟩ := xeB_ok (exB_at c hC).1
    exact ⟨a.hs, d⟩
  · have hC : L.xs.lookup C = some [] := hC
    exact (exB_at c hC).2.2.2
  · have hC : L.xs.lookup C = some [f] := hC
    exact ⟨_, _, xtB_ok (exB_at c hC).2.2.2⟩
end Tw
set_option maxHeartbeats 4000000
namespace Tw
open PySem PySem.Spec L2
theorem noLst_ok {K : PySem.W.Frag} (h : noLst K = true) {a : Addr} {o : Obj} (e : K.lookup a = some o) : o.cls ≠ .type "list" := fun z => by
  have m : (a, o) ∈ K := by
    clear h z
    induction K with
    | nil => cases e
    | cons p r ih =>
      obtain ⟨b, o'⟩ := p
      rw [List.lookup_cons] at e
      by_cases q : a = b
      · subst q
        simp at e
        subst e
        exact List.mem_cons_self
      · have q' : (a == b) = false := by simpa using q
        rw [q'] at e
        exact List.mem_cons_of_mem _ (ih e)
  have q := List.all_eq_true.mp h _ m
  rw [z] at q
  simp at q
/-- what the defs are worth, proved of the small texts -/
structure Good (L : Lw) (G : Gs) : Prop where
  len : ∀ f j ds W R, G f j ds W R → ds.length = L.ts.ar f
  h0 : ∀ f ds W R, ¬ G f 0 ds W R
  wp : ∀ f, f < L.fs.length → ∀ k ds W R, G f (k + 1) ds W R → wpSs G k L.ts.toPm (L.df f).body (Kf R) (startG (L.df f).N.length ds) W
theorem Good.all {L : Lw} {G : Gs} (g : Good L G) {P : Program} {w : World} {K : PySem.W.Frag} {mg : Str → Option Value} {base : Heap} {pn : Nat → Str} (X : K.In base) (Ns : base.Ns mainGlobals mg) (c : lwB L P pn K = true) :
    (∀ k, Fns P w K mg base (L.tb K) G k ∧ FnsX P w K mg base (L.tb K) G k) ∧ Stc (L.tb K) K mg ∧ (∀ C fs, (L.tb K).xin C = some fs → ∀ f ∈ fs, f < (L.tb K).nf) ∧ RokF P K mg (L.tb K) := by
  simp only [lwB, Bool.and_eq_true] at c
  obtain ⟨⟨⟨⟨⟨⟨⟨c1, c2⟩, c3⟩, c4⟩, c5⟩, c6⟩, c7⟩, c8⟩ := c
  have St := lw_stc X Ns c1 c2 c3 c4 c5 c6 (lw_xok c7) (lw_own c8)
  have hxl : ∀ C fs, (L.tb K).xin C = some fs → ∀ f ∈ fs, f < (L.tb K).nf := fun C fs hC f hf => ((exB_at c7 hC).2.2.1 f hf).1
  have hR : RokF P K mg (L.tb K) := fun Y e1 e2 e3 hd => rok (by rw [e1, e2]; exact lw_exf c7) (fun C hC => by rw [e2, e3]; exact St.cls C hC) hd
  exact ⟨all_fns (Dd := L.df) St hxl hR g.len (fun f hf => lw_defs c1 hf) (fun f hf => lw_defX c1 hf) g.h0 fun f hf => g.wp f (by
    rcases hf with hf | hf <;> exact of_decide_eq_true (Bool.and_eq_true_iff.mp (show (decide (f < L.fs.length) && _) = true from hf)).1), St, hxl, hR⟩
end Tw
set_option maxHeartbeats 4000000
namespace Tw
open PySem PySem.Spec L2
theorem walk_any {l : PySem.W.OpenLaw} {n k f0 : Nat} {q : Program} {loose : List Str} {XP : (Str → Option Value) → Heap → Prop} {d : DefRec} {L : Lw} {G : Gs} {pn : Nat → Str} {x : Str} {says : World → Heap → Prop} (g : Good L G)
    (hsay : ∀ w h, says w h → ∃ K : PySem.W.Frag, K.In h ∧ okT L l.prog pn K = true)
    (hn : l.most = some n) (hn2 : n ≤ sizeLine) (hdf : d.params.defaults = []) (hr : Room (k + 1) callerA) (hat : L.at_ f0 = (d.name, none)) (hf0 : f0 < L.fs.length) (hps : (L.df f0).ps = [x])
    (law : ∀ ns : List Int, ns.length ≤ n → (∀ z ∈ ns, Builtin.Int.intBits z ≤ 1048576) → G f0 (k + 1) [.scr ns] (fun _ => none) fun o _ => o = .ret (.bl true)) (hF0 : L.ts.isF f0 = true := by decide +kernel) :
    PySem.W.WalkO q loose XP says l.row.toRowW d [] (fun f vs => PySem.call f vs) := by
  refine Att.attach_callB hn hdf fun w s₀ s₁ mg mb fa o pm cd doc a vs ns Gr Y ho hd hcd hmg hobj hints hlen hbits hg => ?_
  obtain ⟨K, KX, c⟩ := hsay _ _ Y
  obtain ⟨c, cl⟩ := Bool.and_eq_true_iff.mp c
  have c1 : fsB L K = true := by
    simp only [lwB, Bool.and_eq_true] at c
    exact c.1.1.1.1.1.1.1
  have hG : (L.tb K).isG f0 = true := by
    show (decide (f0 < L.fs.length) && (L.at_ f0).2.isNone) = true
    rw [hat, decide_eq_true hf0]
    rfl
  obtain ⟨⟨x', qual, params, body, scope, dvs, kws, fd, F, B, bind, _, h1, h2, h3⟩, h4⟩ := lw_defs c1 (f := f0) hF0
  have e0 : (L.tb K).gn f0 = d.name := by
    have e4 : L.ts.gn f0 = (L.at_ f0).1 := by show (if f0 < L.fs.length then _ else _) = _; rw [if_pos hf0]; rfl
    show L.ts.gn f0 = d.name
    rw [e4, hat]
  have St := (g.all (P := l.prog) (w := w) KX Gr.T.g c).2.1
  have efa : fa = (L.tb K).fad f0 := by
    have z := St.gl f0 hG
    rw [e0] at z
    exact Value.ref.inj (Option.some.inj (hmg.symm.trans z))
  have hsp : ∀ H : Hp, Only H → SqL K H a (ns.map V.int) → spOf (L.tb K) (G f0 (k + 1)) [.ref a] H (fun v _ => v = .bl true) fun _ _ _ => False := fun H hO hS => by
    have ha : ∃ o, H a = some (.frz o (.lst (ns.map V.int))) := by
      rcases hS with hS | ⟨o, its, nn, e1, e2, _⟩
      · rcases hS with hS | ⟨o, hS⟩
        · rcases hO a with z | ⟨o, xs, z⟩ <;> rw [hS] at z <;> cases z
        · exact ⟨o, hS⟩
      · exact absurd e2 (noLst_ok cl e1)
    obtain ⟨o, ha⟩ := ha
    refine ⟨fun _ => False, [.scr ns], fun _ => none, fun o _ => o = .ret (.bl true), .cons (.scr ns ⟨rfl, id⟩ ha) .nil, ⟨(fun _ _ z => nomatch z), (fun _ _ z => nomatch z), fun _ z => False.elim z⟩, law ns hlen hbits, fun d W' e v H' r _ _ => ?_, fun y W' e => nomatch (show Out.exc y = .ret (.bl true) from e)⟩
    have e : Out.ret d = .ret (.bl true) := e
    cases e
    cases r
    rfl
  refine law_call (CX := L2N.CX l.prog w) (k := k + 1) (fd := fd) (x := x) KX Gr.T.g Gr.T.b Gr.T.builtins Gr.T.nolimit hg hobj hints (Nat.le_trans hlen hn2) hr (fun base KB NB => ?_) (fun s u => BindsTo.of_eq (by rw [bind [u] (by rw [hps]; rfl), hps]; rfl)) hsp fun H e s' z => ?_
  · obtain ⟨al, St', hxl, hR⟩ := g.all (P := l.prog) (w := w) KB NB c
    have z := fn_rule F h1 h2 h4 St' hxl hR g.len (al k).1 (al k).2 (g.wp f0 hf0 k)
    rw [hps] at z
    rw [efa]
    exact z
  · obtain ⟨_, _, _, _, _, _, _, _, _, _, _, _, z⟩ := z
    exact z
end Tw
set_option maxHeartbeats 4000000
namespace Tw
open PySem PySem.Spec L2
open PyProof.Rows (b2i)
/-- what simp shall not enter: a later argument's type hangs on it -/
def Hold {α : Sort _} (_ : α) : Type := Unit
def fz {α : Sort _} (k : α) (_ : Hold k := ()) : α := k
theorem fz1 {α : Type} {k : α → Prop} {x : α} : fz k () x = k x := Eq.trans rfl rfl
theorem fz2 {α β : Type} {k : α → β → Prop} {x : α} {y : β} : fz k () x y = k x y := Eq.trans rfl rfl
theorem fz3 {α β γ : Type} {k : α → β → γ → Prop} {x : α} {y : β} {z : γ} : fz k () x y z = k x y z := Eq.trans rfl rfl
def getS (g : Gm) (i : Nat) (k : D → Prop) : Prop := match g[i]? with
  | some (some d) => k d
  | _ => False
theorem getS_zero {d : D} {g : Gm} {k : D → Prop} : getS (some d :: g) 0 k = k d := Eq.trans rfl rfl
theorem getS_succ {x : Option D} {g : Gm} {i : Nat} {k : D → Prop} : getS (x :: g) (i + 1) k = getS g i k := Eq.trans rfl rfl
theorem getS_of {g : Gm} {i : Nat} {k : D → Prop} : getS g i k ↔ ∃ d, g[i]? = some (some d) ∧ k d := by
  unfold getS
  constructor
  · intro h
    split at h
    · next d e => exact ⟨d, e, h⟩
    · exact h.elim
  · rintro ⟨d, e, h⟩
    rw [e]
    exact h
def onO {α : Type} (o : Option α) (k : α → Prop) : Prop := match o with
  | some x => k x
  | none => False
theorem onO_some {α : Type} {x : α} {k : α → Prop} : onO (some x) k = k x := Eq.trans rfl rfl
theorem onO_of {α : Type} {o : Option α} {k : α → Prop} : onO o k ↔ ∃ x, o = some x ∧ k x := by
  cases o with
  | none => exact ⟨fun h => h.elim, fun ⟨_, e, _⟩ => nomatch e⟩
  | some x => exact ⟨fun h => ⟨x, rfl, h⟩, fun ⟨_, e, h⟩ => by cases e; exact h⟩
def cLst (o : Option MO) (k : List D → Prop) : Prop := match o with
  | some (.lst ds) => k ds
  | _ => False
theorem cLst_some {ds : List D} {k : List D → Prop} : cLst (some (.lst ds)) k = k ds := Eq.trans rfl rfl
theorem cLst_of {o : Option MO} {k : List D → Prop} : cLst o k ↔ ∃ ds, o = some (.lst ds) ∧ k ds := by
  unfold cLst
  constructor
  · intro h
    split at h
    · next ds => exact ⟨ds, rfl, h⟩
    · exact h.elim
  · rintro ⟨ds, rfl, h⟩
    exact h
def cIns (o : Option MO) (k : Nat → List (Nat × D) → Prop) : Prop := match o with
  | some (.ins C fs) => k C fs
  | _ => False
theorem cIns_some {C : Nat} {fs : List (Nat × D)} {k : Nat → List (Nat × D) → Prop} : cIns (some (.ins C fs)) k = k C fs := Eq.trans rfl rfl
theorem cIns_of {o : Option MO} {k : Nat → List (Nat × D) → Prop} : cIns o k ↔ ∃ C fs, o = some (.ins C fs) ∧ k C fs := by
  unfold cIns
  constructor
  · intro h
    split at h
    · next C fs => exact ⟨C, fs, rfl, h⟩
    · exact h.elim
  · rintro ⟨C, fs, rfl, h⟩
    exact h
def dPtr (d : D) (k : Addr → Prop) : Prop := match d with
  | .ptr a => k a
  | _ => False
theorem dPtr_ptr {a : Addr} {k : Addr → Prop} : dPtr (.ptr a) k = k a := Eq.trans rfl rfl
theorem dPtr_of {d : D} {k : Addr → Prop} : dPtr d k ↔ ∃ a, d = .ptr a ∧ k a := by
  cases d <;> first | exact ⟨fun h => h.elim, fun ⟨_, e, _⟩ => nomatch e⟩ | skip
  exact ⟨fun h => ⟨_, rfl, h⟩, fun ⟨_, e, h⟩ => by cases e; exact h⟩
theorem onI_int {i : Int} {k : Int → Prop} : onI (.int i) k = k i := Eq.trans rfl rfl
theorem onB_bl {b : Bool} {k : Bool → Prop} : onB (.bl b) k = k b := Eq.trans rfl rfl
theorem onSeq_lst {ds : List D} {W : Om} {k : List D → Prop} : onSeq (.lst ds) W k = k ds := propext ⟨fun ⟨_, e, h⟩ => by cases e; exact h, fun h => ⟨_, rfl, h⟩⟩
theorem onSeq_tup {ds : List D} {W : Om} {k : List D → Prop} : onSeq (.tup ds) W k = k ds := propext ⟨fun ⟨_, e, h⟩ => by cases e; exact h, fun h => ⟨_, rfl, h⟩⟩
theorem onSeq_scr {ns : List Int} {W : Om} {k : List D → Prop} : onSeq (.scr ns) W k = k (ns.map .int) := propext ⟨fun ⟨_, e, h⟩ => by cases e; exact h, fun h => ⟨_, rfl, h⟩⟩
theorem onSeq_ptr {a : Addr} {W : Om} {k : List D → Prop} : onSeq (.ptr a) W k = cLst (W a) k := by
  unfold onSeq cLst
  cases q : W a with
  | none => exact propext ⟨fun ⟨ds, e, h⟩ => by simp [seqOf, q] at e, fun h => h.elim⟩
  | some m =>
    cases m with
    | lst xs => exact propext ⟨fun ⟨ds, e, h⟩ => by simp [seqOf, q] at e; subst e; exact h, fun h => ⟨xs, by simp [seqOf, q], h⟩⟩
    | ins C fs => exact propext ⟨fun ⟨ds, e, h⟩ => by simp [seqOf, q] at e, fun h => h.elim⟩
def onLis (d : D) (W : Om) (k : List D → Prop) : Prop := onO (lisOf W d) k
theorem onLis_lst {ds : List D} {W : Om} {k : List D → Prop} : onLis (.lst ds) W k = k ds := Eq.trans rfl rfl
theorem onLis_scr {ns : List Int} {W : Om} {k : List D → Prop} : onLis (.scr ns) W k = k (ns.map .int) := Eq.trans rfl rfl
theorem onLis_ptr {a : Addr} {W : Om} {k : List D → Prop} : onLis (.ptr a) W k = cLst (W a) k := by
  unfold onLis lisOf cLst onO
  dsimp only
  cases W a with
  | none => rfl
  | some m => cases m <;> rfl
theorem onT_non {W : Om} {Q : Bool → Om → Prop} : onT .non W Q = Q false W := propext ⟨fun ⟨_, e, h⟩ => by cases e; exact h, fun h => ⟨_, rfl, h⟩⟩
theorem onT_bl {b : Bool} {W : Om} {Q : Bool → Om → Prop} : onT (.bl b) W Q = Q b W := propext ⟨fun ⟨_, e, h⟩ => by cases e; exact h, fun h => ⟨_, rfl, h⟩⟩
theorem onT_int {i : Int} {W : Om} {Q : Bool → Om → Prop} : onT (.int i) W Q = Q (i != 0) W := propext ⟨fun ⟨_, e, h⟩ => by cases e; exact h, fun h => ⟨_, rfl, h⟩⟩
theorem onT_lst {ds : List D} {W : Om} {Q : Bool → Om → Prop} : onT (.lst ds) W Q = Q (!ds.isEmpty) W := propext ⟨fun ⟨_, e, h⟩ => by cases e; exact h, fun h => ⟨_, rfl, h⟩⟩
theorem onT_tup {ds : List D} {W : Om} {Q : Bool → Om → Prop} : onT (.tup ds) W Q = Q (!ds.isEmpty) W := propext ⟨fun ⟨_, e, h⟩ => by cases e; exact h, fun h => ⟨_, rfl, h⟩⟩
theorem mkL_false {ds : List D} {W : Om} {Q : PQ} : mkL false ds W Q = Q (.lst ds) W := Eq.trans rfl rfl
/-- a new cell -/
def newC (m : MO) (W : Om) (Q : PQ) : Prop := ∀ p, W p = none → Q (.ptr p) (W.set p m)
theorem mkL_true {ds : List D} {W : Om} {Q : PQ} : mkL true ds W Q = newC (.lst ds) W (fz Q) := Eq.trans rfl rfl
theorem bin_add {own : Bool} {i j : Int} {W : Om} {Q : PQ} : binD .add own (.int i) (.int j) W Q = Q (.int (i + j)) W := Eq.trans rfl rfl
theorem bin_addb {own : Bool} {i : Int} {j : Bool} {W : Om} {Q : PQ} : binD .add own (.int i) (.bl j) W Q = Q (.int (i + b2i j)) W := Eq.trans rfl rfl
theorem bin_sub {own : Bool} {i j : Int} {W : Om} {Q : PQ} : binD .sub own (.int i) (.int j) W Q = Q (.int (i - j)) W := Eq.trans rfl rfl
theorem bin_mul {own : Bool} {i j : Int} {W : Om} {Q : PQ} : binD .mul own (.int i) (.int j) W Q = (MulOk i j ∧ Q (.int (i * j)) W) := Eq.trans rfl rfl
def DivOk (j : Int) : Prop := 0 < j ∧ j.natAbs.log2 < 9000
theorem bin_fdiv {own : Bool} {i j : Int} {W : Om} {Q : PQ} : binD .fdiv own (.int i) (.int j) W Q = (DivOk j ∧ Q (.int (i / j)) W) := Eq.trans rfl rfl
theorem bin_mod {own : Bool} {i j : Int} {W : Om} {Q : PQ} : binD .mod own (.int i) (.int j) W Q = (0 < j ∧ Q (.int (i % j)) W) := Eq.trans rfl rfl
theorem bin_pow {own : Bool} {i j : Int} {W : Om} {Q : PQ} : binD .pow own (.int i) (.int j) W Q = (FitP i j ∧ Q (.int (i ^ j.toNat)) W) := Eq.trans rfl rfl
theorem bin_shl {own : Bool} {i j : Int} {W : Om} {Q : PQ} : binD .shl own (.int i) (.int j) W Q = (ShlOk i j ∧ Q (.int (i * 2 ^ j.toNat)) W) := Eq.trans rfl rfl
theorem bin_shr {own : Bool} {i j : Int} {W : Om} {Q : PQ} : binD .shr own (.int i) (.int j) W Q = (0 ≤ j ∧ Q (.int (i / 2 ^ j.toNat)) W) := Eq.trans rfl rfl
theorem bin_band {own : Bool} {i j : Int} {W : Om} {Q : PQ} : binD .band own (.int i) (.int j) W Q = Q (.int (Builtin.bitAnd i j)) W := Eq.trans rfl rfl
theorem bin_addt {own : Bool} {a b : List D} {W : Om} {Q : PQ} : binD .add own (.tup a) (.tup b) W Q = (a.length + b.length ≤ sizeLine ∧ Q (.tup (a ++ b)) W) := Eq.trans rfl rfl
theorem bin_addpl {own : Bool} {a : Addr} {b : List D} {W : Om} {Q : PQ} : binD .add own (.ptr a) (.lst b) W Q = cLst (W a) (fz fun ds => ds.length + b.length ≤ sizeLine ∧ mkL own (ds ++ b) W Q) := propext cLst_of.symm
theorem bin_addlp {own : Bool} {a : List D} {b : Addr} {W : Om} {Q : PQ} : binD .add own (.lst a) (.ptr b) W Q = cLst (W b) (fz fun ds => a.length + ds.length ≤ sizeLine ∧ mkL own (a ++ ds) W Q) := propext cLst_of.symm
theorem bin_adds {own : Bool} {i j : Str} {W : Om} {Q : PQ} : binD .add own (.str i) (.str j) W Q = (i.length + j.length ≤ sizeLine ∧ Q (.str (i ++ j)) W) := Eq.trans rfl rfl
theorem bin_addl {own : Bool} {a b : List D} {W : Om} {Q : PQ} : binD .add own (.lst a) (.lst b) W Q = (a.length + b.length ≤ sizeLine ∧ mkL own (a ++ b) W Q) := Eq.trans rfl rfl
theorem bin_mull {own : Bool} {a : List D} {k : Int} {W : Om} {Q : PQ} : binD .mul own (.lst a) (.int k) W Q = ((-(2 ^ 63) ≤ k ∧ k < 2 ^ 63 ∧ a.length * k.toNat ≤ sizeLine) ∧ mkL own (List.replicate k.toNat a).flatten W Q) := Eq.trans rfl rfl
theorem cmp_lt {i j : Int} {W : Om} {Q : PQ} : cmpD .lt (.int i) (.int j) W Q = Q (.bl (decide (i < j))) W := Eq.trans rfl rfl
theorem cmp_le {i j : Int} {W : Om} {Q : PQ} : cmpD .le (.int i) (.int j) W Q = Q (.bl (decide (i ≤ j))) W := Eq.trans rfl rfl
theorem cmp_gt {i j : Int} {W : Om} {Q : PQ} : cmpD .gt (.int i) (.int j) W Q = Q (.bl (decide (j < i))) W := Eq.trans rfl rfl
theorem cmp_ge {i j : Int} {W : Om} {Q : PQ} : cmpD .ge (.int i) (.int j) W Q = Q (.bl (decide (j ≤ i))) W := Eq.trans rfl rfl
theorem cmp_eqi {i j : Int} {W : Om} {Q : PQ} : cmpD .eq (.int i) (.int j) W Q = Q (.bl (decide (i = j))) W := propext ⟨fun h => h.elim (·.2) (fun ⟨_, _, e, _⟩ => nomatch e), fun h => .inl ⟨rfl, h⟩⟩
theorem cmp_nei {i j : Int} {W : Om} {Q : PQ} : cmpD .ne (.int i) (.int j) W Q = Q (.bl (!decide (i = j))) W := propext ⟨fun h => h.elim (·.2) (fun ⟨_, _, e, _⟩ => nomatch e), fun h => .inl ⟨rfl, h⟩⟩
theorem cmp_eqs {i j : Str} {W : Om} {Q : PQ} : cmpD .eq (.str i) (.str j) W Q = Q (.bl (decide (i = j))) W := propext ⟨fun h => h.elim (·.2) (fun ⟨_, _, e, _⟩ => nomatch e), fun h => .inl ⟨rfl, h⟩⟩
theorem cmp_nes {i j : Str} {W : Om} {Q : PQ} : cmpD .ne (.str i) (.str j) W Q = Q (.bl (!decide (i = j))) W := propext ⟨fun h => h.elim (·.2) (fun ⟨_, _, e, _⟩ => nomatch e), fun h => .inl ⟨rfl, h⟩⟩
theorem cmp_eqb {i j : Bool} {W : Om} {Q : PQ} : cmpD .eq (.bl i) (.bl j) W Q = Q (.bl (i == j)) W := propext ⟨fun h => h.elim (·.2) (fun ⟨_, _, e, _⟩ => nomatch e), fun h => .inl ⟨rfl, h⟩⟩
theorem cmp_neb {i j : Bool} {W : Om} {Q : PQ} : cmpD .ne (.bl i) (.bl j) W Q = Q (.bl (!(i == j))) W := propext ⟨fun h => h.elim (·.2) (fun ⟨_, _, e, _⟩ => nomatch e), fun h => .inl ⟨rfl, h⟩⟩
/-- == of rows -/
theorem eqRow_of {W : Om} {x y a b : D} {k : Bool → Prop} (h1 : rowOf W x = some a) (h2 : rowOf W y = some b) : eqRow W x y k = (rowD a = true ∧ rowD b = true ∧ k (eqDeep a b)) :=
  propext ⟨fun ⟨a', b', e1, e2, h⟩ => by rw [h1] at e1; rw [h2] at e2; cases e1; cases e2; exact h, fun h => ⟨a, b, h1, h2, h⟩⟩
theorem cmp_eqll {a b : List D} {W : Om} {Q : PQ} : cmpD .eq (.lst a) (.lst b) W Q = (rowD (.lst a) = true ∧ rowD (.lst b) = true ∧ Q (.bl (eqDeep (.lst a) (.lst b))) W) :=
  Eq.trans (propext ⟨fun h => h.elim (fun z => nomatch z.1) id, .inr⟩) (eqRow_of (k := fun t => Q (.bl t) W) rfl rfl)
theorem cmp_eqtt {a b : List D} {W : Om} {Q : PQ} : cmpD .eq (.tup a) (.tup b) W Q = (rowD (.tup a) = true ∧ rowD (.tup b) = true ∧ Q (.bl (eqDeep (.tup a) (.tup b))) W) :=
  Eq.trans (propext ⟨fun h => h.elim (fun z => nomatch z.1) id, .inr⟩) (eqRow_of (k := fun t => Q (.bl t) W) rfl rfl)
theorem cmp_eqlt {a b : List D} {W : Om} {Q : PQ} : cmpD .eq (.lst a) (.tup b) W Q = (rowD (.lst a) = true ∧ rowD (.tup b) = true ∧ Q (.bl (eqDeep (.lst a) (.tup b))) W) :=
  Eq.trans (propext ⟨fun h => h.elim (fun z => nomatch z.1) id, .inr⟩) (eqRow_of (k := fun t => Q (.bl t) W) rfl rfl)
theorem cmp_eqtl {a b : List D} {W : Om} {Q : PQ} : cmpD .eq (.tup a) (.lst b) W Q = (rowD (.tup a) = true ∧ rowD (.lst b) = true ∧ Q (.bl (eqDeep (.tup a) (.lst b))) W) :=
  Eq.trans (propext ⟨fun h => h.elim (fun z => nomatch z.1) id, .inr⟩) (eqRow_of (k := fun t => Q (.bl t) W) rfl rfl)
theorem cmp_nell {a b : List D} {W : Om} {Q : PQ} : cmpD .ne (.lst a) (.lst b) W Q = (rowD (.lst a) = true ∧ rowD (.lst b) = true ∧ Q (.bl (!eqDeep (.lst a) (.lst b))) W) :=
  Eq.trans (propext ⟨fun h => h.elim (fun z => nomatch z.1) id, .inr⟩) (eqRow_of (k := fun t => Q (.bl (!t)) W) rfl rfl)
theorem cmp_nett {a b : List D} {W : Om} {Q : PQ} : cmpD .ne (.tup a) (.tup b) W Q = (rowD (.tup a) = true ∧ rowD (.tup b) = true ∧ Q (.bl (!eqDeep (.tup a) (.tup b))) W) :=
  Eq.trans (propext ⟨fun h => h.elim (fun z => nomatch z.1) id, .inr⟩) (eqRow_of (k := fun t => Q (.bl (!t)) W) rfl rfl)
theorem rowOf_ptr {W : Om} {p : Addr} {x : D} (h : rowOf W (.ptr p) = some x) : ∃ ds, W p = some (.lst ds) ∧ x = .lst ds := by
  unfold rowOf at h
  dsimp only at h
  split at h
  · next ds e => cases h; exact ⟨_, e, rfl⟩
  · cases h
theorem cmp_eqpl {p : Addr} {b : List D} {W : Om} {Q : PQ} : cmpD .eq (.ptr p) (.lst b) W Q = cLst (W p) (fz fun a => rowD (.lst a) = true ∧ rowD (.lst b) = true ∧ Q (.bl (eqDeep (.lst a) (.lst b))) W) := by
  refine Eq.trans (propext ⟨fun h => h.elim (fun z => nomatch z.1) id, .inr⟩ : _ = eqRow W (.ptr p) (.lst b) fun t => Q (.bl t) W) (propext ⟨fun ⟨x, y, e1, e2, h⟩ => ?_, fun h => ?_⟩)
  · obtain ⟨ds, e, rfl⟩ := rowOf_ptr e1
    cases e2
    exact cLst_of.mpr ⟨ds, e, h⟩
  · obtain ⟨ds, e, h⟩ := cLst_of.mp h
    exact ⟨.lst ds, .lst b, by unfold rowOf; dsimp only; rw [e], rfl, h⟩
theorem cmp_eqlp {p : Addr} {b : List D} {W : Om} {Q : PQ} : cmpD .eq (.lst b) (.ptr p) W Q = cLst (W p) (fz fun a => rowD (.lst b) = true ∧ rowD (.lst a) = true ∧ Q (.bl (eqDeep (.lst b) (.lst a))) W) := by
  refine Eq.trans (propext ⟨fun h => h.elim (fun z => nomatch z.1) id, .inr⟩ : _ = eqRow W (.lst b) (.ptr p) fun t => Q (.bl t) W) (propext ⟨fun ⟨x, y, e1, e2, h⟩ => ?_, fun h => ?_⟩)
  · obtain ⟨ds, e, rfl⟩ := rowOf_ptr e2
    cases e1
    exact cLst_of.mpr ⟨ds, e, h⟩
  · obtain ⟨ds, e, h⟩ := cLst_of.mp h
    exact ⟨.lst b, .lst ds, rfl, by unfold rowOf; dsimp only; rw [e], h⟩
theorem cmp_isn {x : D} {W : Om} {Q : PQ} : cmpD .is x .non W Q = Q (.bl (isNon x)) W := by cases x <;> rfl
theorem cmp_isnn {x : D} {W : Om} {Q : PQ} : cmpD .isnot x .non W Q = Q (.bl (!isNon x)) W := by cases x <;> rfl
theorem cmp_isb {a b : Bool} {W : Om} {Q : PQ} : cmpD .is (.bl a) (.bl b) W Q = Q (.bl (decide (a = b))) W := Eq.trans rfl rfl
theorem cmp_isnb {a b : Bool} {W : Om} {Q : PQ} : cmpD .isnot (.bl a) (.bl b) W Q = Q (.bl (!decide (a = b))) W := Eq.trans rfl rfl
theorem cmp_meml {x : D} {ds : List D} {W : Om} {Q : PQ} : cmpD .mem x (.lst ds) W Q = ((flatD x = true ∧ ∀ d ∈ ds, flatD d = true) ∧ Q (.bl (ds.any (eqF x))) W) := by cases x <;> rfl
theorem cmp_nomeml {x : D} {ds : List D} {W : Om} {Q : PQ} : cmpD .nomem x (.lst ds) W Q = ((flatD x = true ∧ ∀ d ∈ ds, flatD d = true) ∧ Q (.bl (!ds.any (eqF x))) W) := by cases x <;> rfl
theorem cmp_memp {x : D} {a : Addr} {W : Om} {Q : PQ} : cmpD .mem x (.ptr a) W Q = cLst (W a) (fz fun ds => (flatD x = true ∧ ∀ d ∈ ds, flatD d = true) ∧ Q (.bl (ds.any (eqF x))) W) := by
  have e : cmpD .mem x (.ptr a) W Q = onSeq (.ptr a) W fun ds => (flatD x = true ∧ ∀ d ∈ ds, flatD d = true) ∧ Q (.bl (ds.any (eqF x))) W := by cases x <;> rfl
  rw [e, onSeq_ptr]; rfl
theorem cmp_nomemp {x : D} {a : Addr} {W : Om} {Q : PQ} : cmpD .nomem x (.ptr a) W Q = cLst (W a) (fz fun ds => (flatD x = true ∧ ∀ d ∈ ds, flatD d = true) ∧ Q (.bl (!ds.any (eqF x))) W) := by
  have e : cmpD .nomem x (.ptr a) W Q = onSeq (.ptr a) W fun ds => (flatD x = true ∧ ∀ d ∈ ds, flatD d = true) ∧ Q (.bl (!ds.any (eqF x))) W := by cases x <;> rfl
  rw [e, onSeq_ptr]; rfl
theorem onEx2 {ds0 : Option (List D)} {i : Int} {W : Om} {Q : PQ} : (∃ ds d, ds0 = some ds ∧ atI ds i = some d ∧ Q d W) = onO ds0 (fz fun ds => onO (atI ds i) (fz fun d => Q d W)) :=
  propext ⟨fun ⟨ds, d, e, f, h⟩ => onO_of.mpr ⟨ds, e, onO_of.mpr ⟨d, f, h⟩⟩, fun h => by
    obtain ⟨ds, e, h⟩ := onO_of.mp h
    obtain ⟨d, f, h⟩ := onO_of.mp h
    exact ⟨ds, d, e, f, h⟩⟩
theorem idx_lst {ds : List D} {i : Int} {W : Om} {Q : PQ} : idxD (.lst ds) (.int i) W Q = onO (atI ds i) (fz fun d => Q d W) := onEx2
theorem idx_tup {ds : List D} {i : Int} {W : Om} {Q : PQ} : idxD (.tup ds) (.int i) W Q = onO (atI ds i) (fz fun d => Q d W) := onEx2
theorem idx_scr {ns : List Int} {i : Int} {W : Om} {Q : PQ} : idxD (.scr ns) (.int i) W Q = onO (atI (ns.map D.int) i) (fz fun d => Q d W) := onEx2
theorem idx_ptr {a : Addr} {i : Int} {W : Om} {Q : PQ} : idxD (.ptr a) (.int i) W Q = cLst (W a) (fz fun ds => onO (atI ds i) (fz fun d => Q d W)) := by
  have e : idxD (.ptr a) (.int i) W Q = onO (seqOf W (.ptr a)) fun ds => onO (atI ds i) fun d => Q d W := onEx2
  rw [e]
  unfold seqOf cLst onO
  dsimp only
  cases W a with
  | none => rfl
  | some m => cases m <;> rfl
theorem idx_str {z : Str} {i : Int} {W : Om} {Q : PQ} : idxD (.str z) (.int i) W Q = (z.length ≤ sizeLine ∧ onO (atI z.cps.toList i) (fz fun c => Q (.str ⟨#[c]⟩) W)) :=
  propext ⟨fun ⟨h, c, e, q⟩ => ⟨h, onO_of.mpr ⟨c, e, q⟩⟩, fun ⟨h, q⟩ => by
    obtain ⟨c, e, q⟩ := onO_of.mp q
    exact ⟨h, c, e, q⟩⟩
theorem atI_lit {α : Type} {xs : List α} {n : Nat} : atI xs (no_index (@OfNat.ofNat Int n (@instOfNat n))) = xs[n]? := by
  have e : (@OfNat.ofNat Int n (@instOfNat n)) = ((n : Nat) : Int) := rfl
  rw [e]
  unfold atI ixN
  rw [if_pos (by omega)]
  split
  · rfl
  · next h => rw [List.getElem?_eq_none (by omega)]; rfl
theorem atI_nat {α : Type} {xs : List α} {n : Nat} : atI xs (n : Int) = xs[n]? := atI_lit
theorem atI_ge {α : Type} {xs : List α} {i : Int} (h : 0 ≤ i) : atI xs i = xs[i.toNat]? := by
  obtain ⟨n, rfl⟩ := Int.eq_ofNat_of_zero_le h
  rw [atI_nat, Int.toNat_natCast]
/-- the index is within -/
theorem atI_mem {α : Type} {xs : List α} {i : Int} (h : 0 ≤ i) (h2 : i < xs.length) : ∃ x, atI xs i = some x ∧ x ∈ xs := by
  obtain ⟨n, rfl⟩ := Int.eq_ofNat_of_zero_le h
  rw [atI_nat]
  have : n < xs.length := by omega
  exact ⟨xs[n], List.getElem?_eq_getElem this, List.getElem_mem this⟩
theorem blt_lens {z : Str} {own : Bool} {W : Om} {Q : PQ} : bltD .len own [.str z] W Q = (z.length ≤ sizeLine ∧ Q (.int z.length) W) := Eq.trans rfl rfl
theorem blt_lenl {ds : List D} {own : Bool} {W : Om} {Q : PQ} : bltD .len own [.lst ds] W Q = Q (.int ds.length) W := onSeq_lst
theorem blt_lent {ds : List D} {own : Bool} {W : Om} {Q : PQ} : bltD .len own [.tup ds] W Q = Q (.int ds.length) W := onSeq_tup
theorem blt_lenc {ns : List Int} {own : Bool} {W : Om} {Q : PQ} : bltD .len own [.scr ns] W Q = Q (.int (ns.map D.int).length) W := onSeq_scr
theorem blt_lenp {a : Addr} {own : Bool} {W : Om} {Q : PQ} : bltD .len own [.ptr a] W Q = cLst (W a) (fz fun ds => Q (.int ds.length) W) := onSeq_ptr
theorem blt_abs {i : Int} {own : Bool} {W : Om} {Q : PQ} : bltD .abs own [.int i] W Q = Q (.int (i.natAbs : Int)) W := by
  have e : (if i < 0 then -i else i) = (i.natAbs : Int) := by split <;> omega
  rw [← e]; exact Eq.trans rfl rfl
theorem blt_min2 {i j : Int} {own : Bool} {W : Om} {Q : PQ} : bltD .min2 own [.int i, .int j] W Q = Q (.int (min i j)) W := by
  have e : (if j < i then j else i) = min i j := by split <;> omega
  rw [← e]; exact Eq.trans rfl rfl
theorem blt_max2 {i j : Int} {own : Bool} {W : Om} {Q : PQ} : bltD .max2 own [.int i, .int j] W Q = Q (.int (max i j)) W := by
  have e : (if j > i then j else i) = max i j := by split <;> omega
  rw [← e]; exact Eq.trans rfl rfl
theorem blt_int {i : Int} {own : Bool} {W : Om} {Q : PQ} : bltD .int own [.int i] W Q = Q (.int i) W := Eq.trans rfl rfl
theorem blt_intb {k own : Bool} {W : Om} {Q : PQ} : bltD .int own [.bl k] W Q = Q (.int (if k then 1 else 0)) W := Eq.trans rfl rfl
theorem blt_list {x : D} {own : Bool} {W : Om} {Q : PQ} : bltD .list own [x] W Q = onSeq x W (fz fun ds => mkL own ds W Q) := Eq.trans rfl rfl
theorem blt_tuple {x : D} {own : Bool} {W : Om} {Q : PQ} : bltD .tuple own [x] W Q = onSeq x W (fz fun ds => Q (.tup ds) W) := Eq.trans rfl rfl
theorem blt_str {i : Int} {own : Bool} {W : Om} {Q : PQ} : bltD .str own [.int i] W Q = (i.natAbs.log2 < 1920 ∧ Q (.str (toString i)) W) := Eq.trans rfl rfl
theorem blt_boolb {k own : Bool} {W : Om} {Q : PQ} : bltD .bool own [.bl k] W Q = Q (.bl k) W := Eq.trans rfl rfl
theorem blt_booli {i : Int} {own : Bool} {W : Om} {Q : PQ} : bltD .bool own [.int i] W Q = Q (.bl (i != 0)) W := Eq.trans rfl rfl
/-- a list of ints, of bools -/
def onInts (ds : List D) (k : List Int → Prop) : Prop := ∃ ns : List Int, ds = ns.map .int ∧ k ns
def onBls (ds : List D) (k : List Bool → Prop) : Prop := ∃ bs : List Bool, ds = bs.map .bl ∧ k bs
theorem lisInts {x : D} {W : Om} {k : List Int → Prop} : (∃ ns : List Int, lisOf W x = some (ns.map .int) ∧ k ns) = onLis x W fun ds => onInts ds k :=
  propext ⟨fun ⟨ns, e, h⟩ => onO_of.mpr ⟨_, e, ns, rfl, h⟩, fun h => by obtain ⟨ds, e, ns, e2, h⟩ := onO_of.mp h; exact ⟨ns, by rw [e, e2], h⟩⟩
theorem lisBls {x : D} {W : Om} {k : List Bool → Prop} : (∃ ns : List Bool, lisOf W x = some (ns.map .bl) ∧ k ns) = onLis x W fun ds => onBls ds k :=
  propext ⟨fun ⟨ns, e, h⟩ => onO_of.mpr ⟨_, e, ns, rfl, h⟩, fun h => by obtain ⟨ds, e, ns, e2, h⟩ := onO_of.mp h; exact ⟨ns, by rw [e, e2], h⟩⟩
theorem seqInts {x : D} {W : Om} {k : List Int → Prop} : (∃ ns : List Int, seqOf W x = some (ns.map .int) ∧ k ns) = onSeq x W fun ds => onInts ds k :=
  propext ⟨fun ⟨ns, e, h⟩ => ⟨_, e, ns, rfl, h⟩, fun ⟨_, e, ns, e2, h⟩ => ⟨ns, by rw [e, e2], h⟩⟩
theorem blt_sum {x : D} {own : Bool} {W : Om} {Q : PQ} : bltD .sum own [x] W Q = onSeq x W (fz fun ds => onInts ds (fz fun ns => Q (.int ns.sum) W)) := seqInts (k := fun ns => Q (.int ns.sum) W)
theorem blt_max1 {x : D} {own : Bool} {W : Om} {Q : PQ} : bltD .max1 own [x] W Q = onLis x W (fz fun ds => onInts ds (fz fun ns => 0 < ns.length ∧ ∀ m ∈ ns, (∀ k ∈ ns, k ≤ m) → Q (.int m) W)) := lisInts (k := fun ns => 0 < ns.length ∧ ∀ m ∈ ns, (∀ k ∈ ns, k ≤ m) → Q (.int m) W)
theorem blt_min1 {x : D} {own : Bool} {W : Om} {Q : PQ} : bltD .min1 own [x] W Q = onLis x W (fz fun ds => onInts ds (fz fun ns => 0 < ns.length ∧ ∀ m ∈ ns, (∀ k ∈ ns, m ≤ k) → Q (.int m) W)) := lisInts (k := fun ns => 0 < ns.length ∧ ∀ m ∈ ns, (∀ k ∈ ns, m ≤ k) → Q (.int m) W)
theorem blt_all {x : D} {own : Bool} {W : Om} {Q : PQ} : bltD .all own [x] W Q = onLis x W (fz fun ds => onBls ds (fz fun bs => Q (.bl (bs.all id)) W)) := lisBls (k := fun bs => Q (.bl (bs.all id)) W)
theorem blt_any {x : D} {own : Bool} {W : Om} {Q : PQ} : bltD .any own [x] W Q = onLis x W (fz fun ds => onBls ds (fz fun bs => Q (.bl (bs.any id)) W)) := lisBls (k := fun bs => Q (.bl (bs.any id)) W)
theorem blt_sorted {x : D} {own : Bool} {W : Om} {Q : PQ} : bltD .sorted own [x] W Q = onLis x W (fz fun ds => onInts ds (fz fun ns => ∀ ns' : List Int, ns'.Perm ns → ns'.Pairwise (· ≤ ·) → mkL own (ns'.map .int) W Q)) := lisInts (k := fun ns => ∀ ns' : List Int, ns'.Perm ns → ns'.Pairwise (· ≤ ·) → mkL own (ns'.map .int) W Q)
theorem rev_tup {own : Bool} {ds : List D} {W : Om} {Q : PQ} : revD own (.tup ds) W Q = Q (.tup ds.reverse) W := Eq.trans rfl rfl
theorem rev_lst {own : Bool} {ds : List D} {W : Om} {Q : PQ} : revD own (.lst ds) W Q = mkL own ds.reverse W Q := propext ⟨fun ⟨_, e, h⟩ => by cases e; exact h, fun h => ⟨_, rfl, h⟩⟩
theorem rev_scr {own : Bool} {ns : List Int} {W : Om} {Q : PQ} : revD own (.scr ns) W Q = mkL own (ns.map D.int).reverse W Q := propext ⟨fun ⟨_, e, h⟩ => by cases e; exact h, fun h => ⟨_, rfl, h⟩⟩
theorem rev_ptr {own : Bool} {a : Addr} {W : Om} {Q : PQ} : revD own (.ptr a) W Q = cLst (W a) (fz fun ds => mkL own ds.reverse W Q) :=
  Eq.trans (propext onO_of.symm : _ = onLis (.ptr a) W fun ds => mkL own ds.reverse W Q) onLis_ptr
theorem lz_ll {as bs : List D} {W : Om} {Q : PQ} : lzipD [.lst as, .lst bs] W Q = Q (.lst (zipL as bs)) W := propext ⟨fun ⟨_, _, e, e2, h⟩ => by cases e; cases e2; exact h, fun h => ⟨_, _, rfl, rfl, h⟩⟩
def TyN (n : String) : Prop := n = "int" ∨ n = "bool" ∨ n = "str" ∨ n = "list" ∨ n = "tuple"
/-- a cell: a list, an instance -/
def cKd (o : Option MO) (k1 : List D → Prop) (k2 : Nat → Prop) : Prop := match o with
  | some (.lst ds) => k1 ds
  | some (.ins C _) => k2 C
  | none => False
theorem cKd_lst {ds : List D} {k1 : List D → Prop} {k2 : Nat → Prop} : cKd (some (.lst ds)) k1 k2 = k1 ds := Eq.trans rfl rfl
theorem cKd_ins {C : Nat} {fs : List (Nat × D)} {k1 : List D → Prop} {k2 : Nat → Prop} : cKd (some (.ins C fs)) k1 k2 = k2 C := Eq.trans rfl rfl
theorem isi_of {P : Pm} {W : Om} {d : D} {t n : String} {Q : PQ} (h : tyD d = some t) (hk : kdO W d = some none) (ne : ∀ a, d ≠ .ptr a) (hn : TyN n) : isiD P W d (.ty n) Q = Q (.bl (isiB t n)) W :=
  propext ⟨fun ⟨_, z⟩ => by
    rcases z with ⟨t', e, q⟩ | ⟨C, e, _⟩
    · rcases e with e | ⟨a, _, e, _⟩
      · rw [h] at e; cases e; exact q
      · exact absurd e (ne a)
    · rw [hk] at e; (cases e), fun q => ⟨hn, .inl ⟨t, .inl h, q⟩⟩⟩
theorem isi_ptr {P : Pm} {W : Om} {a : Addr} {n : String} {Q : PQ} (hn : TyN n) : isiD P W (.ptr a) (.ty n) Q = cKd (W a) (fz fun _ => Q (.bl (isiB "list" n)) W) (fz fun C => P.isO C = true ∧ Q (.bl false) W) := by
  unfold cKd fz
  cases q : W a with
  | none =>
    exact propext ⟨fun ⟨_, z⟩ => by
      rcases z with ⟨t', e, _⟩ | ⟨C, e, _⟩
      · rcases e with e | ⟨b, ds, e, f, _⟩
        · cases e
        · cases e; rw [q] at f; cases f
      · (simp [kdO, q] at e), fun z => z.elim⟩
  | some m =>
    cases m with
    | lst xs =>
      exact propext ⟨fun ⟨_, z⟩ => by
        rcases z with ⟨t', e, z⟩ | ⟨C, e, _⟩
        · rcases e with e | ⟨b, ds, e, f, g⟩
          · cases e
          · subst g; exact z
        · (simp [kdO, q] at e), fun z => ⟨hn, .inl ⟨_, .inr ⟨a, xs, rfl, q, rfl⟩, z⟩⟩⟩
    | ins C fs =>
      exact propext ⟨fun ⟨_, z⟩ => by
        rcases z with ⟨t', e, z⟩ | ⟨C', e, e2, z⟩
        · rcases e with e | ⟨b, ds, e, f, g⟩
          · cases e
          · cases e; rw [q] at f; cases f
        · simp [kdO, q] at e; subst e; exact ⟨e2, z⟩, fun z => ⟨hn, .inr ⟨C, by simp [kdO, q], z.1, z.2⟩⟩⟩
theorem isi_own {P : Pm} {W : Om} {d : D} {E : Nat} {Q : PQ} (hk : kdO W d = some none) : isiD P W d (.own E) Q = (P.isO E = true ∧ Q (.bl false) W) :=
  propext ⟨fun ⟨f, z⟩ => by
    rcases z with ⟨_, z⟩ | ⟨C, e, _⟩
    · exact ⟨f, z⟩
    · rw [hk] at e; (cases e), fun ⟨f, z⟩ => ⟨f, .inl ⟨hk, z⟩⟩⟩
theorem isi_own_obj {P : Pm} {W : Om} {C E : Nat} {fs : List (Nat × D)} {Q : PQ} : isiD P W (.obj C fs) (.own E) Q = (P.isO E = true ∧ P.isO C = true ∧ Q (.bl (P.kin C E)) W) :=
  propext ⟨fun ⟨f, z⟩ => by
    rcases z with ⟨e, _⟩ | ⟨C', e, e2, z⟩
    · cases e
    · cases e; exact ⟨f, e2, z⟩, fun ⟨f, e2, z⟩ => ⟨f, .inr ⟨C, rfl, e2, z⟩⟩⟩
theorem isi_obj_ty {P : Pm} {W : Om} {C : Nat} {fs : List (Nat × D)} {n : String} {Q : PQ} (hn : TyN n) : isiD P W (.obj C fs) (.ty n) Q = (P.isO C = true ∧ Q (.bl false) W) :=
  propext ⟨fun ⟨_, z⟩ => by
    rcases z with ⟨t, e, _⟩ | ⟨C', e, e2, z⟩
    · rcases e with e | ⟨_, _, e, _⟩ <;> cases e
    · cases e; exact ⟨e2, z⟩, fun ⟨e2, z⟩ => ⟨hn, .inr ⟨C, rfl, e2, z⟩⟩⟩
theorem isi_own_ptr {P : Pm} {W : Om} {a : Addr} {E : Nat} {Q : PQ} : isiD P W (.ptr a) (.own E) Q = (P.isO E = true ∧ cKd (W a) (fz fun _ => Q (.bl false) W) (fz fun C => P.isO C = true ∧ Q (.bl (P.kin C E)) W)) := by
  unfold cKd fz
  cases q : W a with
  | none =>
    exact propext ⟨fun ⟨_, z⟩ => by
      rcases z with ⟨e, _⟩ | ⟨C, e, _⟩ <;> (simp [kdO, q] at e), fun z => z.2.elim⟩
  | some m =>
    cases m with
    | lst xs =>
      exact propext ⟨fun ⟨f, z⟩ => by
        rcases z with ⟨e, z⟩ | ⟨C, e, _⟩
        · exact ⟨f, z⟩
        · (simp [kdO, q] at e), fun z => ⟨z.1, .inl ⟨by simp [kdO, q], z.2⟩⟩⟩
    | ins C fs =>
      exact propext ⟨fun ⟨f, z⟩ => by
        rcases z with ⟨e, z⟩ | ⟨C', e, e2, z⟩
        · simp [kdO, q] at e
        · simp [kdO, q] at e; subst e; exact ⟨f, e2, z⟩, fun z => ⟨z.1, .inr ⟨C, by simp [kdO, q], z.2.1, z.2.2⟩⟩⟩
theorem isi_non_int {P : Pm} {W : Om} {Q : PQ} : isiD P W .non (.ty "int") Q = Q (.bl false) W := by rw [isi_of rfl rfl (by intro _ z; cases z) (by unfold TyN; simp), show isiB "NoneType" "int" = false from by decide +kernel]
theorem isi_non_bool {P : Pm} {W : Om} {Q : PQ} : isiD P W .non (.ty "bool") Q = Q (.bl false) W := by rw [isi_of rfl rfl (by intro _ z; cases z) (by unfold TyN; simp), show isiB "NoneType" "bool" = false from by decide +kernel]
theorem isi_non_str {P : Pm} {W : Om} {Q : PQ} : isiD P W .non (.ty "str") Q = Q (.bl false) W := by rw [isi_of rfl rfl (by intro _ z; cases z) (by unfold TyN; simp), show isiB "NoneType" "str" = false from by decide +kernel]
theorem isi_non_list {P : Pm} {W : Om} {Q : PQ} : isiD P W .non (.ty "list") Q = Q (.bl false) W := by rw [isi_of rfl rfl (by intro _ z; cases z) (by unfold TyN; simp), show isiB "NoneType" "list" = false from by decide +kernel]
theorem isi_non_tuple {P : Pm} {W : Om} {Q : PQ} : isiD P W .non (.ty "tuple") Q = Q (.bl false) W := by rw [isi_of rfl rfl (by intro _ z; cases z) (by unfold TyN; simp), show isiB "NoneType" "tuple" = false from by decide +kernel]
theorem isi_own_non {P : Pm} {W : Om} {E : Nat} {Q : PQ} : isiD P W .non (.own E) Q = (P.isO E = true ∧ Q (.bl false) W) := isi_own rfl
theorem isi_bl_int {P : Pm} {b : Bool} {W : Om} {Q : PQ} : isiD P W (.bl b) (.ty "int") Q = Q (.bl true) W := by rw [isi_of rfl rfl (by intro _ z; cases z) (by unfold TyN; simp), show isiB "bool" "int" = true from by decide +kernel]
theorem isi_bl_bool {P : Pm} {b : Bool} {W : Om} {Q : PQ} : isiD P W (.bl b) (.ty "bool") Q = Q (.bl true) W := by rw [isi_of rfl rfl (by intro _ z; cases z) (by unfold TyN; simp), show isiB "bool" "bool" = true from by decide +kernel]
theorem isi_bl_str {P : Pm} {b : Bool} {W : Om} {Q : PQ} : isiD P W (.bl b) (.ty "str") Q = Q (.bl false) W := by rw [isi_of rfl rfl (by intro _ z; cases z) (by unfold TyN; simp), show isiB "bool" "str" = false from by decide +kernel]
theorem isi_bl_list {P : Pm} {b : Bool} {W : Om} {Q : PQ} : isiD P W (.bl b) (.ty "list") Q = Q (.bl false) W := by rw [isi_of rfl rfl (by intro _ z; cases z) (by unfold TyN; simp), show isiB "bool" "list" = false from by decide +kernel]
theorem isi_bl_tuple {P : Pm} {b : Bool} {W : Om} {Q : PQ} : isiD P W (.bl b) (.ty "tuple") Q = Q (.bl false) W := by rw [isi_of rfl rfl (by intro _ z; cases z) (by unfold TyN; simp), show isiB "bool" "tuple" = false from by decide +kernel]
theorem isi_own_bl {P : Pm} {b : Bool} {W : Om} {E : Nat} {Q : PQ} : isiD P W (.bl b) (.own E) Q = (P.isO E = true ∧ Q (.bl false) W) := isi_own rfl
theorem isi_int_int {P : Pm} {i : Int} {W : Om} {Q : PQ} : isiD P W (.int i) (.ty "int") Q = Q (.bl true) W := by rw [isi_of rfl rfl (by intro _ z; cases z) (by unfold TyN; simp), show isiB "int" "int" = true from by decide +kernel]
theorem isi_int_bool {P : Pm} {i : Int} {W : Om} {Q : PQ} : isiD P W (.int i) (.ty "bool") Q = Q (.bl false) W := by rw [isi_of rfl rfl (by intro _ z; cases z) (by unfold TyN; simp), show isiB "int" "bool" = false from by decide +kernel]
theorem isi_int_str {P : Pm} {i : Int} {W : Om} {Q : PQ} : isiD P W (.int i) (.ty "str") Q = Q (.bl false) W := by rw [isi_of rfl rfl (by intro _ z; cases z) (by unfold TyN; simp), show isiB "int" "str" = false from by decide +kernel]
theorem isi_int_list {P : Pm} {i : Int} {W : Om} {Q : PQ} : isiD P W (.int i) (.ty "list") Q = Q (.bl false) W := by rw [isi_of rfl rfl (by intro _ z; cases z) (by unfold TyN; simp), show isiB "int" "list" = false from by decide +kernel]
theorem isi_int_tuple {P : Pm} {i : Int} {W : Om} {Q : PQ} : isiD P W (.int i) (.ty "tuple") Q = Q (.bl false) W := by rw [isi_of rfl rfl (by intro _ z; cases z) (by unfold TyN; simp), show isiB "int" "tuple" = false from by decide +kernel]
theorem isi_own_int {P : Pm} {i : Int} {W : Om} {E : Nat} {Q : PQ} : isiD P W (.int i) (.own E) Q = (P.isO E = true ∧ Q (.bl false) W) := isi_own rfl
theorem isi_str_int {P : Pm} {z : Str} {W : Om} {Q : PQ} : isiD P W (.str z) (.ty "int") Q = Q (.bl false) W := by rw [isi_of rfl rfl (by intro _ z; cases z) (by unfold TyN; simp), show isiB "str" "int" = false from by decide +kernel]
theorem isi_str_bool {P : Pm} {z : Str} {W : Om} {Q : PQ} : isiD P W (.str z) (.ty "bool") Q = Q (.bl false) W := by rw [isi_of rfl rfl (by intro _ z; cases z) (by unfold TyN; simp), show isiB "str" "bool" = false from by decide +kernel]
theorem isi_str_str {P : Pm} {z : Str} {W : Om} {Q : PQ} : isiD P W (.str z) (.ty "str") Q = Q (.bl true) W := by rw [isi_of rfl rfl (by intro _ z; cases z) (by unfold TyN; simp), show isiB "str" "str" = true from by decide +kernel]
theorem isi_str_list {P : Pm} {z : Str} {W : Om} {Q : PQ} : isiD P W (.str z) (.ty "list") Q = Q (.bl false) W := by rw [isi_of rfl rfl (by intro _ z; cases z) (by unfold TyN; simp), show isiB "str" "list" = false from by decide +kernel]
theorem isi_str_tuple {P : Pm} {z : Str} {W : Om} {Q : PQ} : isiD P W (.str z) (.ty "tuple") Q = Q (.bl false) W := by rw [isi_of rfl rfl (by intro _ z; cases z) (by unfold TyN; simp), show isiB "str" "tuple" = false from by decide +kernel]
theorem isi_own_str {P : Pm} {z : Str} {W : Om} {E : Nat} {Q : PQ} : isiD P W (.str z) (.own E) Q = (P.isO E = true ∧ Q (.bl false) W) := isi_own rfl
theorem isi_lst_int {P : Pm} {ds : List D} {W : Om} {Q : PQ} : isiD P W (.lst ds) (.ty "int") Q = Q (.bl false) W := by rw [isi_of rfl rfl (by intro _ z; cases z) (by unfold TyN; simp), show isiB "list" "int" = false from by decide +kernel]
theorem isi_lst_bool {P : Pm} {ds : List D} {W : Om} {Q : PQ} : isiD P W (.lst ds) (.ty "bool") Q = Q (.bl false) W := by rw [isi_of rfl rfl (by intro _ z; cases z) (by unfold TyN; simp), show isiB "list" "bool" = false from by decide +kernel]
theorem isi_lst_str {P : Pm} {ds : List D} {W : Om} {Q : PQ} : isiD P W (.lst ds) (.ty "str") Q = Q (.bl false) W := by rw [isi_of rfl rfl (by intro _ z; cases z) (by unfold TyN; simp), show isiB "list" "str" = false from by decide +kernel]
theorem isi_lst_list {P : Pm} {ds : List D} {W : Om} {Q : PQ} : isiD P W (.lst ds) (.ty "list") Q = Q (.bl true) W := by rw [isi_of rfl rfl (by intro _ z; cases z) (by unfold TyN; simp), show isiB "list" "list" = true from by decide +kernel]
theorem isi_lst_tuple {P : Pm} {ds : List D} {W : Om} {Q : PQ} : isiD P W (.lst ds) (.ty "tuple") Q = Q (.bl false) W := by rw [isi_of rfl rfl (by intro _ z; cases z) (by unfold TyN; simp), show isiB "list" "tuple" = false from by decide +kernel]
theorem isi_own_lst {P : Pm} {ds : List D} {W : Om} {E : Nat} {Q : PQ} : isiD P W (.lst ds) (.own E) Q = (P.isO E = true ∧ Q (.bl false) W) := isi_own rfl
theorem isi_tup_int {P : Pm} {ds : List D} {W : Om} {Q : PQ} : isiD P W (.tup ds) (.ty "int") Q = Q (.bl false) W := by rw [isi_of rfl rfl (by intro _ z; cases z) (by unfold TyN; simp), show isiB "tuple" "int" = false from by decide +kernel]
theorem isi_tup_bool {P : Pm} {ds : List D} {W : Om} {Q : PQ} : isiD P W (.tup ds) (.ty "bool") Q = Q (.bl false) W := by rw [isi_of rfl rfl (by intro _ z; cases z) (by unfold TyN; simp), show isiB "tuple" "bool" = false from by decide +kernel]
theorem isi_tup_str {P : Pm} {ds : List D} {W : Om} {Q : PQ} : isiD P W (.tup ds) (.ty "str") Q = Q (.bl false) W := by rw [isi_of rfl rfl (by intro _ z; cases z) (by unfold TyN; simp), show isiB "tuple" "str" = false from by decide +kernel]
theorem isi_tup_list {P : Pm} {ds : List D} {W : Om} {Q : PQ} : isiD P W (.tup ds) (.ty "list") Q = Q (.bl false) W := by rw [isi_of rfl rfl (by intro _ z; cases z) (by unfold TyN; simp), show isiB "tuple" "list" = false from by decide +kernel]
theorem isi_tup_tuple {P : Pm} {ds : List D} {W : Om} {Q : PQ} : isiD P W (.tup ds) (.ty "tuple") Q = Q (.bl true) W := by rw [isi_of rfl rfl (by intro _ z; cases z) (by unfold TyN; simp), show isiB "tuple" "tuple" = true from by decide +kernel]
theorem isi_own_tup {P : Pm} {ds : List D} {W : Om} {E : Nat} {Q : PQ} : isiD P W (.tup ds) (.own E) Q = (P.isO E = true ∧ Q (.bl false) W) := isi_own rfl
theorem isi_scr_int {P : Pm} {ns : List Int} {W : Om} {Q : PQ} : isiD P W (.scr ns) (.ty "int") Q = Q (.bl false) W := by rw [isi_of rfl rfl (by intro _ z; cases z) (by unfold TyN; simp), show isiB "list" "int" = false from by decide +kernel]
theorem isi_scr_bool {P : Pm} {ns : List Int} {W : Om} {Q : PQ} : isiD P W (.scr ns) (.ty "bool") Q = Q (.bl false) W := by rw [isi_of rfl rfl (by intro _ z; cases z) (by unfold TyN; simp), show isiB "list" "bool" = false from by decide +kernel]
theorem isi_scr_str {P : Pm} {ns : List Int} {W : Om} {Q : PQ} : isiD P W (.scr ns) (.ty "str") Q = Q (.bl false) W := by rw [isi_of rfl rfl (by intro _ z; cases z) (by unfold TyN; simp), show isiB "list" "str" = false from by decide +kernel]
theorem isi_scr_list {P : Pm} {ns : List Int} {W : Om} {Q : PQ} : isiD P W (.scr ns) (.ty "list") Q = Q (.bl true) W := by rw [isi_of rfl rfl (by intro _ z; cases z) (by unfold TyN; simp), show isiB "list" "list" = true from by decide +kernel]
theorem isi_scr_tuple {P : Pm} {ns : List Int} {W : Om} {Q : PQ} : isiD P W (.scr ns) (.ty "tuple") Q = Q (.bl false) W := by rw [isi_of rfl rfl (by intro _ z; cases z) (by unfold TyN; simp), show isiB "list" "tuple" = false from by decide +kernel]
theorem isi_own_scr {P : Pm} {ns : List Int} {W : Om} {E : Nat} {Q : PQ} : isiD P W (.scr ns) (.own E) Q = (P.isO E = true ∧ Q (.bl false) W) := isi_own rfl
theorem isi_ptr_int {P : Pm} {a : Addr} {W : Om} {Q : PQ} : isiD P W (.ptr a) (.ty "int") Q = cKd (W a) (fz fun _ => Q (.bl false) W) (fz fun C => P.isO C = true ∧ Q (.bl false) W) := by rw [isi_ptr (by unfold TyN; simp), show isiB "list" "int" = false from by decide +kernel]
theorem isi_obj_int {P : Pm} {C : Nat} {fs : List (Nat × D)} {W : Om} {Q : PQ} : isiD P W (.obj C fs) (.ty "int") Q = (P.isO C = true ∧ Q (.bl false) W) := isi_obj_ty (by unfold TyN; simp)
theorem isi_ptr_bool {P : Pm} {a : Addr} {W : Om} {Q : PQ} : isiD P W (.ptr a) (.ty "bool") Q = cKd (W a) (fz fun _ => Q (.bl false) W) (fz fun C => P.isO C = true ∧ Q (.bl false) W) := by rw [isi_ptr (by unfold TyN; simp), show isiB "list" "bool" = false from by decide +kernel]
theorem isi_obj_bool {P : Pm} {C : Nat} {fs : List (Nat × D)} {W : Om} {Q : PQ} : isiD P W (.obj C fs) (.ty "bool") Q = (P.isO C = true ∧ Q (.bl false) W) := isi_obj_ty (by unfold TyN; simp)
theorem isi_ptr_str {P : Pm} {a : Addr} {W : Om} {Q : PQ} : isiD P W (.ptr a) (.ty "str") Q = cKd (W a) (fz fun _ => Q (.bl false) W) (fz fun C => P.isO C = true ∧ Q (.bl false) W) := by rw [isi_ptr (by unfold TyN; simp), show isiB "list" "str" = false from by decide +kernel]
theorem isi_obj_str {P : Pm} {C : Nat} {fs : List (Nat × D)} {W : Om} {Q : PQ} : isiD P W (.obj C fs) (.ty "str") Q = (P.isO C = true ∧ Q (.bl false) W) := isi_obj_ty (by unfold TyN; simp)
theorem isi_ptr_list {P : Pm} {a : Addr} {W : Om} {Q : PQ} : isiD P W (.ptr a) (.ty "list") Q = cKd (W a) (fz fun _ => Q (.bl true) W) (fz fun C => P.isO C = true ∧ Q (.bl false) W) := by rw [isi_ptr (by unfold TyN; simp), show isiB "list" "list" = true from by decide +kernel]
theorem isi_obj_list {P : Pm} {C : Nat} {fs : List (Nat × D)} {W : Om} {Q : PQ} : isiD P W (.obj C fs) (.ty "list") Q = (P.isO C = true ∧ Q (.bl false) W) := isi_obj_ty (by unfold TyN; simp)
theorem isi_ptr_tuple {P : Pm} {a : Addr} {W : Om} {Q : PQ} : isiD P W (.ptr a) (.ty "tuple") Q = cKd (W a) (fz fun _ => Q (.bl false) W) (fz fun C => P.isO C = true ∧ Q (.bl false) W) := by rw [isi_ptr (by unfold TyN; simp), show isiB "list" "tuple" = false from by decide +kernel]
theorem isi_obj_tuple {P : Pm} {C : Nat} {fs : List (Nat × D)} {W : Om} {Q : PQ} : isiD P W (.obj C fs) (.ty "tuple") Q = (P.isO C = true ∧ Q (.bl false) W) := isi_obj_ty (by unfold TyN; simp)
theorem meth_append {a : Addr} {d : D} {W : Om} {Q : PQ} : methD .append (.ptr a) [d] W Q = cLst (W a) (fz fun ds => ds.length < sizeLine ∧ Q .non (W.set a (.lst (ds ++ [d])))) :=
  propext ⟨fun ⟨ds, e, f, h⟩ => cLst_of.mpr ⟨ds, e, f, h⟩, fun h => by obtain ⟨ds, e, f, h⟩ := cLst_of.mp h; exact ⟨ds, e, f, h⟩⟩
theorem meth_insert {a : Addr} {i : Int} {d : D} {W : Om} {Q : PQ} : methD .insert (.ptr a) [.int i, d] W Q = cLst (W a) (fz fun ds => ds.length < sizeLine ∧ (0 ≤ i ∧ i < 2 ^ 63) ∧ Q .non (W.set a (.lst (ds.take i.toNat ++ [d] ++ ds.drop i.toNat)))) :=
  propext ⟨fun ⟨ds, e, h⟩ => cLst_of.mpr ⟨ds, e, h⟩, fun h => by obtain ⟨ds, e, h⟩ := cLst_of.mp h; exact ⟨ds, e, h⟩⟩
theorem meth_reverse {a : Addr} {W : Om} {Q : PQ} : methD .reverse (.ptr a) [] W Q = cLst (W a) (fz fun ds => Q .non (W.set a (.lst ds.reverse))) :=
  propext ⟨fun ⟨ds, e, h⟩ => cLst_of.mpr ⟨ds, e, h⟩, fun h => by obtain ⟨ds, e, h⟩ := cLst_of.mp h; exact ⟨ds, e, h⟩⟩
theorem meth_clear {a : Addr} {W : Om} {Q : PQ} : methD .clear (.ptr a) [] W Q = cLst (W a) (fz fun _ => Q .non (W.set a (.lst []))) :=
  propext ⟨fun ⟨ds, e, h⟩ => cLst_of.mpr ⟨ds, e, h⟩, fun h => by obtain ⟨ds, e, h⟩ := cLst_of.mp h; exact ⟨ds, e, h⟩⟩
theorem meth_pop {a : Addr} {W : Om} {Q : PQ} : methD .pop (.ptr a) [] W Q = cLst (W a) (fz fun ds => onO ds[ds.length - 1]? (fz fun d => Q d (W.set a (.lst ds.dropLast)))) :=
  propext ⟨fun ⟨ds, d, e, f, h⟩ => cLst_of.mpr ⟨ds, e, onO_of.mpr ⟨d, f, h⟩⟩, fun h => by obtain ⟨ds, e, h⟩ := cLst_of.mp h; obtain ⟨d, f, h⟩ := onO_of.mp h; exact ⟨ds, d, e, f, h⟩⟩
theorem meth_popi {a : Addr} {i : Int} {W : Om} {Q : PQ} : methD .pop (.ptr a) [.int i] W Q = cLst (W a) (fz fun ds => (-(2 ^ 63) ≤ i ∧ i < 2 ^ 63) ∧ onO (ixN ds.length i) (fz fun j => onO ds[j]? (fz fun d => Q d (W.set a (.lst (ds.eraseIdx j)))))) :=
  propext ⟨fun ⟨ds, j, d, e, e2, e3, f, h⟩ => cLst_of.mpr ⟨ds, e, e2, onO_of.mpr ⟨j, e3, onO_of.mpr ⟨d, f, h⟩⟩⟩, fun h => by obtain ⟨ds, e, e2, h⟩ := cLst_of.mp h; obtain ⟨j, e3, h⟩ := onO_of.mp h; obtain ⟨d, f, h⟩ := onO_of.mp h; exact ⟨ds, j, d, e, e2, e3, f, h⟩⟩
theorem attr_obj {C : Nat} {fs : List (Nat × D)} {f : Nat} {W : Om} {Q : PQ} : attrD (.obj C fs) f W Q = onO (fs.lookup f) (fz fun x => Q x W) :=
  propext ⟨fun ⟨x, e, h⟩ => onO_of.mpr ⟨x, e, h⟩, fun h => onO_of.mp h⟩
theorem attr_ptr {a : Addr} {f : Nat} {W : Om} {Q : PQ} : attrD (.ptr a) f W Q = cIns (W a) (fz fun _ fs => onO (fs.lookup f) (fz fun x => Q x W)) :=
  propext ⟨fun ⟨C, fs, x, e, f, h⟩ => cIns_of.mpr ⟨C, fs, e, onO_of.mpr ⟨x, f, h⟩⟩, fun h => by obtain ⟨C, fs, e, h⟩ := cIns_of.mp h; obtain ⟨x, f, h⟩ := onO_of.mp h; exact ⟨C, fs, x, e, f, h⟩⟩
theorem slice_lst {own : Bool} {ds : List D} {lo hi : Option Int} {W : Om} {Q : PQ} : sliceD own (.lst ds) lo hi W Q = mkL own (cutD ds lo hi) W Q := Eq.trans rfl rfl
theorem slice_scr {own : Bool} {ns : List Int} {lo hi : Option Int} {W : Om} {Q : PQ} : sliceD own (.scr ns) lo hi W Q = mkL own (cutD (ns.map D.int) lo hi) W Q := Eq.trans rfl rfl
theorem slice_ptr {own : Bool} {a : Addr} {lo hi : Option Int} {W : Om} {Q : PQ} : sliceD own (.ptr a) lo hi W Q = cLst (W a) (fz fun ds => mkL own (cutD ds lo hi) W Q) :=
  propext ⟨fun ⟨ds, e, h⟩ => cLst_of.mpr ⟨ds, e, h⟩, fun h => by obtain ⟨ds, e, h⟩ := cLst_of.mp h; exact ⟨ds, e, h⟩⟩
theorem slice_tup {own : Bool} {ds : List D} {lo hi : Option Int} {W : Om} {Q : PQ} : sliceD own (.tup ds) lo hi W Q = Q (.tup (cutD ds lo hi)) W := Eq.trans rfl rfl
theorem rngOk_lt {i j : Int} (h1 : -(2 ^ 62) ≤ i) (h4 : j < 2 ^ 62) : RngOk i j := by
  rcases (by omega : j ≤ i ∨ i < j) with h | h
  · exact .inr h
  · exact .inl ⟨h1, by omega, by omega, h4⟩
theorem rng1 {j : Int} {Q : List D → Prop} : rngD [.int j] Q = ((-(2 ^ 62) ≤ j ∧ j < 2 ^ 62) ∧ Q (rangeL 0 j.toNat)) := Eq.trans rfl rfl
theorem rng2 {i j : Int} {Q : List D → Prop} : rngD [.int i, .int j] Q = (RngOk i j ∧ Q (rangeL i (j - i).toNat)) := Eq.trans rfl rfl
theorem rng3 {i j c : Int} {Q : List D → Prop} : rngD [.int i, .int j, .int c] Q = (stepOk i j c ∧ Q (rangeS i c (stepN i j c))) := Eq.trans rfl rfl
def itD (d : D) (W : Om) (Q : Wt → List D → Om → Prop) : Prop := match d with
  | .lst ds => Q none ds W
  | .tup ds => Q none ds W
  | .scr ns => Q none (ns.map .int) W
  | .ptr a => cLst (W a) fun ds => Q (some (a, ds)) ds W
  | _ => False
theorem it_lst {ds : List D} {W : Om} {Q : Wt → List D → Om → Prop} : itD (.lst ds) W Q = Q none ds W := Eq.trans rfl rfl
theorem it_tup {ds : List D} {W : Om} {Q : Wt → List D → Om → Prop} : itD (.tup ds) W Q = Q none ds W := Eq.trans rfl rfl
theorem it_scr {ns : List Int} {W : Om} {Q : Wt → List D → Om → Prop} : itD (.scr ns) W Q = Q none (ns.map .int) W := Eq.trans rfl rfl
theorem it_ptr {a : Addr} {W : Om} {Q : Wt → List D → Om → Prop} : itD (.ptr a) W Q = cLst (W a) (fz fun ds => Q (some (a, ds)) ds W) := Eq.trans rfl rfl
theorem it_enum_lst {ds : List D} {W : Om} {Q : Wt → List D → Prop} : itfD .enum [.lst ds] W Q = Q none (enumL ds) := propext ⟨fun ⟨_, _, e, h⟩ => by cases e; exact h, fun h => ⟨_, _, rfl, h⟩⟩
theorem it_enum_tup {ds : List D} {W : Om} {Q : Wt → List D → Prop} : itfD .enum [.tup ds] W Q = Q none (enumL ds) := propext ⟨fun ⟨_, _, e, h⟩ => by cases e; exact h, fun h => ⟨_, _, rfl, h⟩⟩
theorem it_enum_scr {ns : List Int} {W : Om} {Q : Wt → List D → Prop} : itfD .enum [.scr ns] W Q = Q none (enumL (ns.map .int)) := propext ⟨fun ⟨_, _, e, h⟩ => by cases e; exact h, fun h => ⟨_, _, rfl, h⟩⟩
theorem sqw_ptr {a : Addr} {W : Om} {k : Wt → List D → Prop} : (∃ w ds, sqw (.ptr a) W = some (w, ds) ∧ k w ds) = cLst (W a) fun ds => k (some (a, ds)) ds := by
  apply propext
  rw [cLst_of]
  constructor
  · rintro ⟨w, ds, e, h⟩
    unfold sqw at e
    dsimp only at e
    split at e
    · next xs e1 => cases e; exact ⟨_, e1, h⟩
    · cases e
  · rintro ⟨ds, e, h⟩
    exact ⟨_, _, by unfold sqw; dsimp only; rw [e], h⟩
theorem it_enum_ptr {a : Addr} {W : Om} {Q : Wt → List D → Prop} : itfD .enum [.ptr a] W Q = cLst (W a) (fz fun ds => Q (some (a, ds)) (enumL ds)) := sqw_ptr (k := fun w ds => Q w (enumL ds))
theorem it_rev_lst {ds : List D} {W : Om} {Q : Wt → List D → Prop} : itfD .rev [.lst ds] W Q = Q none ds.reverse := propext ⟨fun ⟨_, _, e, h⟩ => by cases e; exact h, fun h => ⟨_, _, rfl, h⟩⟩
theorem it_rev_tup {ds : List D} {W : Om} {Q : Wt → List D → Prop} : itfD .rev [.tup ds] W Q = Q none ds.reverse := propext ⟨fun ⟨_, _, e, h⟩ => by cases e; exact h, fun h => ⟨_, _, rfl, h⟩⟩
theorem it_rev_scr {ns : List Int} {W : Om} {Q : Wt → List D → Prop} : itfD .rev [.scr ns] W Q = Q none (ns.map D.int).reverse := propext ⟨fun ⟨_, _, e, h⟩ => by cases e; exact h, fun h => ⟨_, _, rfl, h⟩⟩
theorem it_rev_ptr {a : Addr} {W : Om} {Q : Wt → List D → Prop} : itfD .rev [.ptr a] W Q = cLst (W a) (fz fun ds => Q (some (a, ds)) ds.reverse) := sqw_ptr (k := fun w ds => Q w ds.reverse)
theorem it_zip_lst {xs ys : List D} {W : Om} {Q : Wt → List D → Prop} : itfD .zip [.lst xs, .lst ys] W Q = Q none (zipL xs ys) := propext ⟨fun ⟨_, _, _, _, _, e, e2, e3, h⟩ => by cases e; cases e2; rcases e3 with ⟨rfl, _⟩ | ⟨rfl, _⟩ <;> exact h, fun h => ⟨_, _, _, _, _, rfl, rfl, .inl ⟨rfl, rfl⟩, h⟩⟩
theorem it_zip_tup {xs ys : List D} {W : Om} {Q : Wt → List D → Prop} : itfD .zip [.tup xs, .tup ys] W Q = Q none (zipL xs ys) := propext ⟨fun ⟨_, _, _, _, _, e, e2, e3, h⟩ => by cases e; cases e2; rcases e3 with ⟨rfl, _⟩ | ⟨rfl, _⟩ <;> exact h, fun h => ⟨_, _, _, _, _, rfl, rfl, .inl ⟨rfl, rfl⟩, h⟩⟩
theorem set_name {i : Nat} {d : D} {g : Gm} {k : Gm → Prop} : setT (.name i) d g k = k (g.set i (some d)) := Eq.trans rfl rfl
theorem set_tup {is : List Nat} {ds : List D} {g : Gm} {k : Gm → Prop} : setT (.tup is) (.tup ds) g k = onO (setN is ds g) k :=
  propext ⟨fun ⟨g', e, h⟩ => onO_of.mpr ⟨g', e, h⟩, fun h => onO_of.mp h⟩
theorem setN_nil {g : Gm} : setN [] [] g = some g := Eq.trans rfl rfl
theorem setN_cons {i : Nat} {is : List Nat} {d : D} {ds : List D} {g : Gm} : setN (i :: is) (d :: ds) g = setN is ds (g.set i (some d)) := Eq.trans rfl rfl
theorem fld_ptr {P : Pm} {a : Addr} {f : Nat} {d : D} {W : Om} {k : Om → Prop} : fldD P (.ptr a) f d W k = cIns (W a) (fz fun C fs => P.fld C f = true ∧ fs.length < 900 ∧ k (W.set a (.ins C (putN f d fs)))) :=
  propext ⟨fun ⟨C, fs, e, h⟩ => cIns_of.mpr ⟨C, fs, e, h⟩, fun h => by obtain ⟨C, fs, e, h⟩ := cIns_of.mp h; exact ⟨C, fs, e, h⟩⟩
theorem sub_ptr {a : Addr} {n : Int} {d : D} {W : Om} {k : Om → Prop} : subD (.ptr a) (.int n) d W k = cLst (W a) (fz fun ds => onO (ixN ds.length n) (fz fun j => k (W.set a (.lst (ds.set j d))))) :=
  propext ⟨fun ⟨ds, j, e, f, h⟩ => cLst_of.mpr ⟨ds, e, onO_of.mpr ⟨j, f, h⟩⟩, fun h => by obtain ⟨ds, e, h⟩ := cLst_of.mp h; obtain ⟨j, f, h⟩ := onO_of.mp h; exact ⟨ds, j, e, f, h⟩⟩
theorem ixN_lit {m n : Nat} : ixN m (no_index (@OfNat.ofNat Int n (@instOfNat n))) = if n < m then some n else none := by
  have e : (@OfNat.ofNat Int n (@instOfNat n)) = ((n : Nat) : Int) := rfl
  rw [e]
  unfold ixN
  rw [if_pos (by omega)]
  split
  · next h => rw [if_pos (by omega)]; rfl
  · next h => rw [if_neg (by omega)]
theorem ixN_ge {m : Nat} {i : Int} (h : 0 ≤ i) (h2 : i < m) : ixN m i = some i.toNat := by
  unfold ixN
  rw [if_pos h, if_pos h2]
@[irreducible] def brn (t : Bool) (A B : Prop) (_ : Hold (A, B) := ()) : Prop := if t = true then A else B
theorem brn_def {t : Bool} {A B : Prop} : (if t = true then A else B) = brn t A B := by unfold brn; rfl
theorem brn_eq {t : Bool} {A B : Prop} : brn t A B = if t = true then A else B := by unfold brn; rfl
theorem brn_true {A B : Prop} : brn true A B = A := by unfold brn; rfl
theorem brn_false {A B : Prop} : brn false A B = B := by unfold brn; rfl
theorem brn_not {t : Bool} {A B : Prop} : brn (!t) A B = brn t B A := by unfold brn; cases t <;> rfl
theorem brn_of {t : Bool} {A B : Prop} (a : t = true → A) (b : t = false → B) : brn t A B := by
  unfold brn
  cases t
  · exact b rfl
  · exact a rfl
theorem brn_ofP {p : Prop} {dp : Decidable p} {A B : Prop} (a : p → A) (b : ¬ p → B) : brn (decide p) A B :=
  brn_of (fun h => a (of_decide_eq_true h)) fun h => b (of_decide_eq_false h)
theorem brn_t {t : Bool} {A B : Prop} (h : t = true) (a : A) : brn t A B := by subst h; unfold brn; exact a
theorem brn_f {t : Bool} {A B : Prop} (h : t = false) (b : B) : brn t A B := by subst h; unfold brn; exact b
theorem brn_tP {p : Prop} {dp : Decidable p} {A B : Prop} (h : p) (a : A) : brn (decide p) A B := brn_t (decide_eq_true h) a
theorem brn_fP {p : Prop} {dp : Decidable p} {A B : Prop} (h : ¬ p) (b : B) : brn (decide p) A B := brn_f (decide_eq_false h) b
theorem sz_lt {n : Nat} : (n < sizeLine) = (n < 16777216) := Eq.trans rfl rfl
theorem sz_lit {n : Nat} : (n ≤ sizeLine) = (n ≤ 16777216) := Eq.trans rfl rfl
end Tw
set_option maxHeartbeats 4000000
namespace Tw
open PySem PySem.Spec L2
section
variable {G : Gs} {k : Nat} {P : Pm} {g : Gm} {W : Om} {Q : PQ} {X : PX} {K : Ke}
theorem e_var {i : Nat} : wpE G k P (.var i) g W Q X = getS g i (fz fun d => Q d W) := by
  simp only [wpE]; exact propext getS_of.symm
theorem e_int {i : Int} : wpE G k P (.int i) g W Q X = Q (.int i) W := by simp only [wpE, fz]
theorem e_str {i : Str} : wpE G k P (.str i) g W Q X = Q (.str i) W := by simp only [wpE, fz]
theorem e_bl {i : Bool} : wpE G k P (.bl i) g W Q X = Q (.bl i) W := by simp only [wpE, fz]
theorem e_non : wpE G k P .non g W Q X = Q .non W := by simp only [wpE, fz]
theorem e_gint {n : Nat} {i : Int} : wpE G k P (.gint n i) g W Q X = Q (.int i) W := by simp only [wpE, fz]
theorem e_gstr {n : Nat} {i : Str} : wpE G k P (.gstr n i) g W Q X = Q (.str i) W := by simp only [wpE, fz]
theorem e_bin {o : BOp} {own : Bool} {a b : E} : wpE G k P (.bin o own a b) g W Q X = wpE G k P a g W (fun x W1 => wpE G k P b g W1 (fun y W2 => binD o own x y W2 (fz Q)) X) X := by simp only [wpE, fz]
theorem e_neg {a : E} : wpE G k P (.neg a) g W Q X = wpE G k P a g W (fun x W1 => onI x (fz fun i => Q (.int (-i)) W1)) X := by simp only [wpE, fz]
theorem e_cmp {o : COp} {a b : E} : wpE G k P (.cmp o a b) g W Q X = wpE G k P a g W (fun x W1 => wpE G k P b g W1 (fun y W2 => cmpD o x y W2 (fz Q)) X) X := by simp only [wpE, fz]
theorem e_chain {o p : COp} {a b c : E} : wpE G k P (.chain o p a b c) g W Q X = wpE G k P a g W (fun x W1 => wpE G k P b g W1 (fun y W2 => cmpD o x y W2 (fz fun r W3 => onB r (fz fun t =>
    brn t (wpE G k P c g W3 (fun z W4 => cmpD p y z W4 Q) X) (Q (.bl false) W3)))) X) X := by simp only [wpE, brn_eq, fz]
theorem e_and {a b : E} : wpE G k P (.and a b) g W Q X = wpE G k P a g W (fun x W1 => onB x (fz fun t => brn t (wpE G k P b g W1 Q X) (Q (.bl false) W1))) X := by simp only [wpE, brn_eq, fz]
theorem e_or {a b : E} : wpE G k P (.or a b) g W Q X = wpE G k P a g W (fun x W1 => onB x (fz fun t => brn t (Q (.bl true) W1) (wpE G k P b g W1 Q X))) X := by simp only [wpE, brn_eq, fz]
theorem e_not {a : E} : wpE G k P (.not a) g W Q X = wpE G k P a g W (fun x W1 => onB x (fz fun t => Q (.bl (!t)) W1)) X := by simp only [wpE, fz]
theorem e_ite {c a b : E} : wpE G k P (.ite c a b) g W Q X = wpT G k P c g W (fun t W1 => brn t (wpE G k P a g W1 Q X) (wpE G k P b g W1 Q X)) X := by simp only [wpE, brn_eq, fz]
theorem e_lst {own : Bool} {es : List E} : wpE G k P (.lst own es) g W Q X = wpEs G k P es g W (fun ds W1 => ds.length ≤ sizeLine ∧ mkL own ds W1 Q) X := by simp only [wpE, fz]
theorem e_tup {es : List E} : wpE G k P (.tup es) g W Q X = wpEs G k P es g W (fun ds W1 => ds.length ≤ sizeLine ∧ Q (.tup ds) W1) X := by simp only [wpE, fz]
theorem e_idx {a i : E} : wpE G k P (.idx a i) g W Q X = wpE G k P a g W (fun x W1 => wpE G k P i g W1 (fun y W2 => idxD x y W2 (fz Q)) X) X := by simp only [wpE, fz]
theorem e_rev {own : Bool} {a : E} : wpE G k P (.rev own a) g W Q X = wpE G k P a g W (fun x W1 => revD own x W1 (fz Q)) X := by simp only [wpE, fz]
theorem e_lzip {es : List E} : wpE G k P (.lzip es) g W Q X = wpEs G k P es g W (fun ds W1 => lzipD ds W1 (fz Q)) X := by simp only [wpE, fz]
theorem e_slice {own : Bool} {a : E} {lo hi : Option E} : wpE G k P (.slice own a lo hi) g W Q X = wpE G k P a g W (fun x W1 => wpO G k P lo g W1 (fun l W2 => wpO G k P hi g W2 (fun h W3 => sliceD own x l h W3 (fz Q)) X) X) X := by simp only [wpE, fz]
theorem e_call {f : Nat} {es : List E} : wpE G k P (.call f es) g W Q X = wpEs G k P es g W (fun ds W1 => callW G k f ds W1 (fz Q) (fz X)) X := by simp only [wpE, fz]
theorem e_callK {f : Nat} {es ks : List E} {pm : List Nat} : wpE G k P (.callK f es ks pm) g W Q X = wpEs G k P es g W (fun ds W1 => wpEs G k P ks g W1 (fun zs W2 => callW G k f (permL pm (ds ++ zs)) W2 (fz Q) (fz X)) X) X := by simp only [wpE, fz]
theorem e_blt {b : Blt} {own : Bool} {es : List E} : wpE G k P (.blt b own es) g W Q X = wpEs G k P es g W (fun ds W1 => bltD b own ds W1 (fz Q)) X := by simp only [wpE, fz]
theorem e_isi {e : E} {c : Cl} : wpE G k P (.isi e c) g W Q X = wpE G k P e g W (fun x W1 => isiD P W1 x c (fz Q)) X := by simp only [wpE, fz]
theorem methEx {m : Mt} {es : List E} {x : D} {W1 : Om} : (∃ a cs, x = .ptr a ∧ W1 a = some (.lst cs) ∧ wpEs G k P es g W1 (fun ds W2 => methD m x ds W2 Q) X) =
    dPtr x (fz fun a => cLst (W1 a) (fz fun _ => wpEs G k P es g W1 (fun ds W2 => methD m (.ptr a) ds W2 Q) X)) :=
  propext ⟨fun ⟨a, cs, e, f, h⟩ => by subst e; exact dPtr_of.mpr ⟨a, rfl, cLst_of.mpr ⟨cs, f, h⟩⟩, fun h => by
    obtain ⟨a, e, h⟩ := dPtr_of.mp h
    subst e
    obtain ⟨cs, f, h⟩ := cLst_of.mp h
    exact ⟨a, cs, rfl, f, h⟩⟩
theorem e_meth {m : Mt} {o : E} {es : List E} : wpE G k P (.meth m o es) g W Q X = wpE G k P o g W (fun x W1 => dPtr x (fz fun a => cLst (W1 a) (fz fun _ => wpEs G k P es g W1 (fun ds W2 => methD m (.ptr a) ds W2 (fz Q)) X))) X := by
  simp only [wpE, methEx, fz]
/-- the class and fields of an object -/
def onCls (d : D) (W : Om) (kk : Nat → List (Nat × D) → Prop) : Prop := match d with
  | .obj C fs => kk C fs
  | .ptr a => cIns (W a) kk
  | _ => False
theorem onCls_of {d : D} {W : Om} {kk : Nat → List (Nat × D) → Prop} : onCls d W kk ↔ ∃ C fs, clsD W d = some (C, fs) ∧ kk C fs := by
  unfold onCls clsD
  cases d <;> first | exact ⟨fun h => h.elim, fun ⟨_, _, e, _⟩ => nomatch e⟩ | skip
  · exact ⟨fun h => ⟨_, _, rfl, h⟩, fun ⟨_, _, e, h⟩ => by cases e; exact h⟩
  · rename_i a
    dsimp only
    constructor
    · intro h
      obtain ⟨C, fs, e, h⟩ := cIns_of.mp h
      exact ⟨C, fs, by rw [e], h⟩
    · rintro ⟨C, fs, e, h⟩
      split at e
      · next q => cases e; exact cIns_of.mpr ⟨_, _, q, h⟩
      · cases e
theorem onCls_obj {C : Nat} {fs : List (Nat × D)} {kk : Nat → List (Nat × D) → Prop} : onCls (.obj C fs) W kk = kk C fs := Eq.trans rfl rfl
theorem onCls_ptr {a : Addr} {kk : Nat → List (Nat × D) → Prop} : onCls (.ptr a) W kk = cIns (W a) kk := Eq.trans rfl rfl
theorem umEx {m : Nat} {x : D} {W1 : Om} {kk : Nat → Prop} : (∃ C fs f, clsD W1 x = some (C, fs) ∧ fs.lookup m = none ∧ P.mth C m = some f ∧ kk f) = onCls x W1 (fz fun C fs => fs.lookup m = none ∧ onO (P.mth C m) kk) :=
  propext ⟨fun ⟨C, fs, f, e, e2, e3, h⟩ => onCls_of.mpr ⟨C, fs, e, e2, onO_of.mpr ⟨f, e3, h⟩⟩, fun h => by
    obtain ⟨C, fs, e, e2, h⟩ := onCls_of.mp h
    obtain ⟨f, e3, h⟩ := onO_of.mp h
    exact ⟨C, fs, f, e, e2, e3, h⟩⟩
theorem e_umeth {m : Nat} {o : E} {es : List E} : wpE G k P (.umeth m o es) g W Q X = wpE G k P o g W (fun x W1 => onCls x W1 (fz fun C fs => fs.lookup m = none ∧ onO (P.mth C m) (fz fun f =>
    wpEs G k P es g W1 (fun ds W2 => callW G k f (x :: ds) W2 Q X) X))) X := by
  simp only [wpE, umEx, fz]
theorem e_attr {o : E} {f : Nat} : wpE G k P (.attr o f) g W Q X = wpE G k P o g W (fun x W1 => attrD x f W1 (fz Q)) X := by simp only [wpE, fz]
theorem mkEx {C : Nat} {kk : Nat → Prop} : (∃ f, P.ini C = some f ∧ 0 < k ∧ kk f) = (0 < k ∧ onO (P.ini C) kk) :=
  propext ⟨fun ⟨f, e, e2, h⟩ => ⟨e2, onO_of.mpr ⟨f, e, h⟩⟩, fun ⟨e2, h⟩ => by obtain ⟨f, e, h⟩ := onO_of.mp h; exact ⟨f, e, e2, h⟩⟩
/-- an object is made by its __init__ -/
def mkW (G : Gs) (k f C : Nat) (own : Bool) (ds : List D) (W1 : Om) (Q : PQ) (X : PX) : Prop := ∀ p, W1 p = none →
  callW G (k - 1) f (.ptr p :: ds) (W1.set p (.ins C [])) (fun d W2 => d = .non ∧ madeD own p W2 Q) (fun x W2 => X x (W2.del p))
theorem e_mk {C : Nat} {own : Bool} {es : List E} : wpE G k P (.mk C own es) g W Q X = wpEs G k P es g W (fun ds W1 => 0 < k ∧ onO (P.ini C) (fz fun f => mkW G k f C own ds W1 (fz Q) (fz X))) X := by
  simp only [wpE, mkEx, mkW, fz]
theorem exEx {i : Nat} {kk : Nat → List (Nat × D) → Prop} : exnD g i kk = getS g i (fz fun d => match d with
    | .exn C fs => kk C fs
    | _ => False) := by
  unfold exnD
  refine propext ⟨fun ⟨C, fs, e, h⟩ => getS_of.mpr ⟨_, e, h⟩, fun h => ?_⟩
  obtain ⟨d, e, h⟩ := getS_of.mp h
  cases d <;> first | exact h.elim | exact ⟨_, _, e, h⟩
def dExn (d : D) (kk : Nat → List (Nat × D) → Prop) : Prop := match d with
  | .exn C fs => kk C fs
  | _ => False
theorem dExn_exn {C : Nat} {fs : List (Nat × D)} {kk : Nat → List (Nat × D) → Prop} : dExn (.exn C fs) kk = kk C fs := Eq.trans rfl rfl
theorem e_exC {f i : Nat} : wpE G k P (.exC f i) g W Q X = getS g i (fz fun d => dExn d (fz fun C fs => callW G k f [.exn C fs] W (fz Q) (fz X))) := by simp only [wpE, fz]; exact exEx
theorem e_exI {i : Nat} {c : Cl} : wpE G k P (.exI i c) g W Q X = getS g i (fz fun d => dExn d (fz fun C _ => Q (.bl (subC P C c)) W)) := by simp only [wpE, fz]; exact exEx
theorem e_exA {i f : Nat} : wpE G k P (.exA i f) g W Q X = getS g i (fz fun d => dExn d (fz fun C fs => P.xat C f = true ∧ onO (fs.lookup f) (fz fun x => Q x W))) := by
  simp only [wpE, fz]
  have e : ∀ (C : Nat) (fs : List (Nat × D)), (∃ x, P.xat C f = true ∧ fs.lookup f = some x ∧ Q x W) = (P.xat C f = true ∧ onO (fs.lookup f) fun x => Q x W) := fun C fs =>
    propext ⟨fun ⟨x, e, e2, h⟩ => ⟨e, onO_of.mpr ⟨x, e2, h⟩⟩, fun ⟨e, h⟩ => by obtain ⟨x, e2, h⟩ := onO_of.mp h; exact ⟨x, e, e2, h⟩⟩
  simp only [e]
  exact exEx
/-- a comprehension's turn -/
def compStep (G : Gs) (k : Nat) (P : Pm) (g : Gm) (i : Nat) (elt : E) (cond : Option E) (d : D) (W2 : Om) (R : Option D → Om → Prop) : Prop :=
  wpC G k P cond (g.set i (some d)) W2 (fun t W3 => brn t (wpE G k P elt (g.set i (some d)) W3 (fun y W4 => R (some y) W4) fun _ _ => False) (R none W3)) fun _ _ => False
theorem e_comp {own : Bool} {i : Nat} {elt : E} {it : I} {cond : Option E} : wpE G k P (.comp own i elt it cond) g W Q X = wpI G k P it g W (fun w ds W1 => compL w (compStep G k P g i elt cond) ds [] W1 (fz fun ys W2 => mkL own ys W2 Q)) X := by
  simp only [wpE, fz, brn_def]
  rfl
theorem e_compH {own : Bool} {h i : Nat} {elt a : E} {cond : Option E} : wpE G k P (.compH own h i elt a cond) g W Q X = wpE G k P a g W (fz fun x W1 => seqH x W1 (fz fun w ds => compL w (compStep G k P (g.set h none) i elt cond) ds [] W1 (fz fun ys W2 => mkL own ys W2 Q))) X := by
  simp only [wpE, fz, brn_def]
  rfl
theorem it_hlst {ds : List D} {W : Om} {Q : Wt → List D → Prop} : seqH (.lst ds) W Q = Q none ds := Eq.trans rfl rfl
theorem it_hptr {a : Addr} {W : Om} {Q : Wt → List D → Prop} : seqH (.ptr a) W Q = cLst (W a) (fz fun ds => Q (some (a, ds)) ds) := propext cLst_of.symm
/-- two fors: an outer item -/
def comp2Step (G : Gs) (k : Nat) (P : Pm) (g : Gm) (i j : Nat) (elt : E) (it1 : I) (d : D) (acc : List D) (W2 : Om) (R : List D → Om → Prop) : Prop :=
  wpI G k P it1 ((g.set j none).set i (some d)) W2 (fun w1 ds1 W3 => compL w1 (compStep G k P ((g.set j none).set i (some d)) j elt none) ds1 acc W3 (fz R)) fun _ _ => False
theorem comp0 {i : Nat} {elt : E} : compStep G k P g i elt none = fun e W4 R1 => wpE G k P elt (g.set i (some e)) W4 (fun y W5 => R1 (some y) W5) fun _ _ => False := by
  funext e W4 R1
  unfold compStep
  simp only [wpC, brn_true]
theorem e_comp2 {own : Bool} {i j : Nat} {elt : E} {it it1 : I} : wpE G k P (.comp2 own i j elt it it1) g W Q X = wpI G k P it g W (fun w ds W1 => comp2L w (comp2Step G k P g i j elt it1) ds [] W1 (fz fun ys W2 => mkL own ys W2 Q)) X := by
  have e : comp2Step G k P g i j elt it1 = fun d acc W2 R => wpI G k P it1 ((g.set j none).set i (some d)) W2 (fun w1 ds1 W3 => compL w1 (fun e W4 R1 => wpE G k P elt (((g.set j none).set i (some d)).set j (some e)) W4 (fun y W5 => R1 (some y) W5) fun _ _ => False) ds1 acc W3 R) fun _ _ => False := by
    funext d acc W2 R
    unfold comp2Step
    simp only [comp0, fz]
  rw [e]
  simp only [wpE, fz]
/-- .. that may raise -/
def compStepR (G : Gs) (k : Nat) (P : Pm) (X : PX) (g : Gm) (t : Tg) (elt : E) (cond : Option E) (d : D) (W2 : Om) (R : Option D → Om → Prop) : Prop :=
  setT t d g fun g' => wpC G k P cond g' W2 (fun b W3 => brn b (wpE G k P elt g' W3 (fun y W4 => R (some y) W4) X) (R none W3)) X
theorem e_compR {own : Bool} {t : Tg} {elt : E} {it : I} {cond : Option E} : wpE G k P (.compR own t elt it cond) g W Q X = wpI G k P it g W (fun w ds W1 => compL w (compStepR G k P (fz X) g t elt cond) ds [] W1 (fz fun ys W2 => mkL own ys W2 Q)) X := by
  simp only [wpE, fz, brn_def]
  rfl
theorem e_own2 {o : Own2} {a b : E} : wpE G k P (.own2 o a b) g W Q X = wpE G k P a g W (fun x W1 => wpE G k P b g W1 (fun y W2 => own2W G k P o x y W2 (fz Q) (fz X)) X) X := by simp only [wpE, fz]
theorem e_own1 {o : Own1} {a : E} : wpE G k P (.own1 o a) g W Q X = wpE G k P a g W (fun x W1 => own1W G k P o x W1 (fz Q) (fz X)) X := by simp only [wpE, fz]
/-- what == is asked of the other one -/
def kdOk (P : Pm) (W : Om) (C : Nat) (y : D) : Prop := match kdO W y with
  | some none => True
  | some (some C') => P.isO C' = true ∧ P.nof C C' = true
  | none => False
theorem own_eq {m C : Nat} {fs : List (Nat × D)} {y : D} : own2W G k P (.eq m) (.obj C fs) y W Q X = (P.isO C = true ∧ onO (P.mth C m) (fz fun f => kdOk P W C y ∧ callW G k f [.obj C fs, y] W (fz fun r W' => onB r (fz fun t => Q (.bl t) W')) (fz X))) := by
  unfold own2W
  have eb : ∀ (r : D) (W' : Om), (∃ t, r = .bl t ∧ Q (.bl t) W') = onB r (fz fun t => Q (.bl t) W') := fun r W' => propext ⟨fun ⟨t, e, z⟩ => by subst e; exact z, fun z => by cases r <;> first | exact z.elim | exact ⟨_, rfl, z⟩⟩
  simp only [eb]
  refine propext ⟨fun ⟨C', fs', f, d, e1, e2, e3, e4, e5, z⟩ => ?_, fun ⟨e2, z⟩ => ?_⟩
  · cases e1
    refine ⟨e2, onO_of.mpr ⟨f, e3, ?_, z⟩⟩
    unfold kdOk
    rw [e4]
    cases d with
    | none => trivial
    | some c => exact e5
  · obtain ⟨f, e3, e4, z⟩ := onO_of.mp z
    unfold kdOk at e4
    split at e4
    · next e => exact ⟨C, fs, f, none, rfl, e2, e3, e, trivial, z⟩
    · next c e => exact ⟨C, fs, f, some c, rfl, e2, e3, e, e4, z⟩
    · exact e4.elim
theorem own_mem {neg : Bool} {m C : Nat} {fs : List (Nat × D)} {x : D} : own2W G k P (.mem neg m) x (.obj C fs) W Q X = onO (P.mth C m) (fz fun f => callW G k f [.obj C fs, x] W (fz fun r W' => onB r (fz fun t => Q (.bl (if neg = true then !t else t)) W')) (fz X)) := by
  unfold own2W
  have eb : ∀ (r : D) (W' : Om), (∃ t, r = .bl t ∧ Q (.bl (if neg = true then !t else t)) W') = onB r (fz fun t => Q (.bl (if neg = true then !t else t)) W') := fun r W' => propext ⟨fun ⟨t, e, z⟩ => by subst e; exact z, fun z => by cases r <;> first | exact z.elim | exact ⟨_, rfl, z⟩⟩
  simp only [eb]
  refine propext ⟨fun ⟨C', fs', f, e1, e3, z⟩ => ?_, fun z => ?_⟩
  · cases e1
    exact onO_of.mpr ⟨f, e3, z⟩
  · obtain ⟨f, e3, z⟩ := onO_of.mp z
    exact ⟨C, fs, f, rfl, e3, z⟩
theorem own_bin {o : BOp} {m C C' : Nat} {fs fs' : List (Nat × D)} : own2W G k P (.bin o m) (.obj C fs) (.obj C' fs') W Q X = (C' = C ∧ P.isO C = true ∧ onO (P.mth C m) (fz fun f => callW G k f [.obj C fs, .obj C' fs'] W (fz Q) (fz X))) := by
  unfold own2W
  refine propext ⟨fun ⟨C1, f1, f2, f, e1, e2, e3, e4, z⟩ => ?_, fun ⟨e, e3, z⟩ => ?_⟩
  · cases e1
    cases e2
    exact ⟨rfl, e3, onO_of.mpr ⟨f, e4, z⟩⟩
  · subst e
    obtain ⟨f, e4, z⟩ := onO_of.mp z
    exact ⟨_, fs, fs', f, rfl, rfl, e3, e4, z⟩
theorem own_neg {m C : Nat} {fs : List (Nat × D)} : own1W G k P (.neg m) (.obj C fs) W Q X = onO (P.mth C m) (fz fun f => callW G k f [.obj C fs] W (fz Q) (fz X)) := by
  unfold own1W
  refine propext ⟨fun ⟨C1, f1, f, e1, e4, z⟩ => ?_, fun z => ?_⟩
  · cases e1
    exact onO_of.mpr ⟨f, e4, z⟩
  · obtain ⟨f, e4, z⟩ := onO_of.mp z
    exact ⟨_, fs, f, rfl, e4, z⟩
theorem own_prop {m C : Nat} {fs : List (Nat × D)} : own1W G k P (.prop m) (.obj C fs) W Q X = onO (P.prp C m) (fz fun f => 0 < k ∧ callW G (k - 1) f [.obj C fs] W (fz Q) (fz fun _ _ => False)) := by
  unfold own1W
  refine propext ⟨fun ⟨C1, f1, f, e1, e4, h0, z⟩ => ?_, fun z => ?_⟩
  · cases e1
    exact onO_of.mpr ⟨f, e4, h0, z⟩
  · obtain ⟨f, e4, h0, z⟩ := onO_of.mp z
    exact ⟨_, fs, f, rfl, e4, h0, z⟩
theorem umEx2 {C m : Nat} {x : D} {W1 : Om} {kk : Nat → Prop} : (∃ fs f, clsD W1 x = some (C, fs) ∧ fs.lookup m = none ∧ P.mth C m = some f ∧ kk f) = onCls x W1 (fz fun C' fs => C' = C ∧ fs.lookup m = none ∧ onO (P.mth C m) (fz kk)) :=
  propext ⟨fun ⟨fs, f, e, e2, e3, h⟩ => onCls_of.mpr ⟨C, fs, e, rfl, e2, onO_of.mpr ⟨f, e3, h⟩⟩, fun h => by
    obtain ⟨C', fs, e, e1, e2, h⟩ := onCls_of.mp h
    subst e1
    obtain ⟨f, e3, h⟩ := onO_of.mp h
    exact ⟨fs, f, e, e2, e3, h⟩⟩
theorem e_umethK {C m : Nat} {o : E} {es ks : List E} {pm : List Nat} : wpE G k P (.umethK C m o es ks pm) g W Q X = wpE G k P o g W (fun x W1 => onCls x W1 (fz fun C' fs => C' = C ∧ fs.lookup m = none ∧ onO (P.mth C m) (fz fun f =>
    wpEs G k P es g W1 (fun ds W2 => wpEs G k P ks g W2 (fun zs W3 => callW G k f (permL pm (x :: ds ++ zs)) W3 (fz Q) (fz X)) X) X))) X := by
  simp only [wpE, umEx2, fz]
def mkWK (G : Gs) (k f C : Nat) (own : Bool) (pm : List Nat) (ds zs : List D) (W1 : Om) (Q : PQ) (X : PX) : Prop := ∀ p, W1 p = none →
  callW G (k - 1) f (permL pm (.ptr p :: ds ++ zs)) (W1.set p (.ins C [])) (fun d W2 => d = .non ∧ madeD own p W2 Q) (fun x W2 => X x (W2.del p))
theorem e_mkK {C : Nat} {own : Bool} {es ks : List E} {pm : List Nat} : wpE G k P (.mkK C own es ks pm) g W Q X = wpEs G k P es g W (fun ds W1 => wpEs G k P ks g W1 (fun zs W2 => 0 < k ∧ onO (P.ini C) (fz fun f => mkWK G k f C own pm ds zs W2 (fz Q) (fz X))) X) X := by
  simp only [wpE, mkEx, mkWK, fz]
theorem e_lrng {own : Bool} {es : List E} : wpE G k P (.lrng own es) g W Q X = wpEs G k P es g W (fun ds W1 => lrngD ds (fz fun xs => mkL own xs W1 Q)) X := by simp only [wpE, fz]
theorem lrng_1 {j : Int} {Ql : List D → Prop} : lrngD [.int j] Ql = (LrOk 0 j ∧ Ql (rangeL 0 (j - 0).toNat)) := Eq.trans rfl rfl
theorem lrng_2 {i j : Int} {Ql : List D → Prop} : lrngD [.int i, .int j] Ql = (LrOk i j ∧ Ql (rangeL i (j - i).toNat)) := Eq.trans rfl rfl
variable {R : Bool → Om → Prop}
theorem t_and {a b : E} : wpT G k P (.and a b) g W R X = wpT G k P a g W (fun t W1 => brn t (wpT G k P b g W1 R X) (R false W1)) X := by simp only [wpT, brn_eq, fz]
theorem t_or {a b : E} : wpT G k P (.or a b) g W R X = wpT G k P a g W (fun t W1 => brn t (R true W1) (wpT G k P b g W1 R X)) X := by simp only [wpT, brn_eq, fz]
theorem t_not {a : E} : wpT G k P (.not a) g W R X = wpT G k P a g W (fun t W1 => R (!t) W1) X := by simp only [wpT, fz]
theorem t_ite {c a b : E} : wpT G k P (.ite c a b) g W R X = wpT G k P c g W (fun t W1 => brn t (wpT G k P a g W1 R X) (wpT G k P b g W1 R X)) X := by simp only [wpT, brn_eq, fz]
theorem t_var {i : Nat} : wpT G k P (.var i) g W R X = getS g i (fz fun d => onT d W R) := by simp only [wpT, fz]; exact propext getS_of.symm
theorem t_bl {b : Bool} : wpT G k P (.bl b) g W R X = R b W := by simp only [wpT, fz]
theorem t_cmp {o : COp} {a b : E} : wpT G k P (.cmp o a b) g W R X = wpE G k P a g W (fun x W1 => wpE G k P b g W1 (fun y W2 => cmpD o x y W2 (fz fun r W3 => onB r (fz fun t => R t W3))) X) X := by simp only [wpT, fz]
theorem t_chain {o p : COp} {a b c : E} : wpT G k P (.chain o p a b c) g W R X = wpE G k P a g W (fun x W1 => wpE G k P b g W1 (fun y W2 => cmpD o x y W2 (fz fun r W3 => onB r (fz fun t =>
    brn t (wpE G k P c g W3 (fun z W4 => cmpD p y z W4 (fz fun r W3 => onB r (fz fun t => R t W3))) X) (R false W3)))) X) X := by simp only [wpT, brn_eq, fz]
theorem t_idx {a i : E} : wpT G k P (.idx a i) g W R X = wpE G k P a g W (fun x W1 => wpE G k P i g W1 (fun y W2 => idxD x y W2 (fz fun d W3 => onT d W3 R)) X) X := by simp only [wpT, fz]
theorem t_call {f : Nat} {es : List E} : wpT G k P (.call f es) g W R X = wpEs G k P es g W (fun ds W1 => callW G k f ds W1 (fz (fun d W2 => onT d W2 R)) (fz X)) X := by simp only [wpT, fz]
theorem t_blt {b : Blt} {own : Bool} {es : List E} : wpT G k P (.blt b own es) g W R X = wpEs G k P es g W (fun ds W1 => bltD b own ds W1 (fz fun d W2 => onT d W2 R)) X := by simp only [wpT, fz]
theorem t_isi {e : E} {c : Cl} : wpT G k P (.isi e c) g W R X = wpE G k P e g W (fun x W1 => isiD P W1 x c (fz fun d W2 => onT d W2 R)) X := by simp only [wpT, fz]
theorem t_umeth {m : Nat} {o : E} {es : List E} : wpT G k P (.umeth m o es) g W R X = wpE G k P o g W (fun x W1 => onCls x W1 (fz fun C fs => fs.lookup m = none ∧ onO (P.mth C m) (fz fun f =>
    wpEs G k P es g W1 (fun ds W2 => callW G k f (x :: ds) W2 (fun d W3 => onT d W3 R) X) X))) X := by
  simp only [wpT, umEx, fz]
theorem t_own2 {o : Own2} {a b : E} : wpT G k P (.own2 o a b) g W R X = wpE G k P a g W (fun x W1 => wpE G k P b g W1 (fun y W2 => own2W G k P o x y W2 (fz fun d W3 => onT d W3 R) (fz X)) X) X := by simp only [wpT, fz]
theorem t_own1 {o : Own1} {a : E} : wpT G k P (.own1 o a) g W R X = wpE G k P a g W (fun x W1 => own1W G k P o x W1 (fz fun d W3 => onT d W3 R) (fz X)) X := by simp only [wpT, fz]
theorem t_attr {o : E} {f : Nat} : wpT G k P (.attr o f) g W R X = wpE G k P o g W (fun x W1 => attrD x f W1 (fz fun d W2 => onT d W2 R)) X := by simp only [wpT, fz]
theorem t_exC {f i : Nat} : wpT G k P (.exC f i) g W R X = getS g i (fz fun d => dExn d (fz fun C fs => callW G k f [.exn C fs] W (fz fun d W' => onT d W' R) (fz X))) := by simp only [wpT, fz]; exact exEx
theorem t_exI {i : Nat} {c : Cl} : wpT G k P (.exI i c) g W R X = getS g i (fz fun d => dExn d (fz fun C _ => R (subC P C c) W)) := by simp only [wpT, fz]; exact exEx
variable {Ql : List D → Om → Prop}
theorem es_nil : wpEs G k P [] g W Ql X = Ql [] W := by simp only [wpEs]
theorem es_cons {e : E} {es : List E} : wpEs G k P (e :: es) g W Ql X = wpE G k P e g W (fun d W1 => wpEs G k P es g W1 (fun ds W2 => Ql (d :: ds) W2) X) X := by simp only [wpEs]
theorem o_none {Qo : Option Int → Om → Prop} : wpO G k P none g W Qo X = Qo none W := by simp only [wpO, fz]
theorem o_some {e : E} {Qo : Option Int → Om → Prop} : wpO G k P (some e) g W Qo X = wpE G k P e g W (fun d W1 => onI d (fz fun i => Qo (some i) W1)) X := by simp only [wpO, fz]
theorem c_none : wpC G k P none g W R X = R true W := by simp only [wpC]
theorem c_some {e : E} : wpC G k P (some e) g W R X = wpT G k P e g W R X := by simp only [wpC]
variable {Qi : Wt → List D → Om → Prop}
theorem i_seq {e : E} : wpI G k P (.seq e) g W Qi X = wpE G k P e g W (fun d W1 => itD d W1 (fz Qi)) X := by
  simp only [wpI, fz]
  congr 1
  funext d W1
  cases d <;> first | rfl | exact propext cLst_of.symm
theorem i_rng {es : List E} : wpI G k P (.rng es) g W Qi X = wpEs G k P es g W (fun ds W1 => rngD ds (fz fun xs => Qi none xs W1)) X := by simp only [wpI, fz]
theorem i_itf {f : ItF} {es : List E} : wpI G k P (.itf f es) g W Qi X = wpEs G k P es g W (fun xs W1 => itfD f xs W1 (fz fun w ds => Qi w ds W1)) X := by simp only [wpI, fz]
theorem y_nil : wpSs G k P [] K g W = K.nx g W := by simp only [wpSs]
theorem y_cons {s : S} {ss : List S} : wpSs G k P (s :: ss) K g W = wpS G k P s { K with nx := fun g' W' => wpSs G k P ss K g' W' } g W := by simp only [wpSs]
theorem y_expr {e : E} : wpS G k P (.expr e) K g W = wpE G k P e g W (fun _ W1 => K.nx g W1) fun x W1 => K.xq x g W1 := by simp only [wpS, fz]
theorem y_asg {t : Tg} {e : E} : wpS G k P (.asg t e) K g W = wpE G k P e g W (fun d W1 => setT t d g (fz fun g' => K.nx g' W1)) fun x W1 => K.xq x g W1 := by simp only [wpS, fz]
theorem y_aug {sub : Bool} {i : Nat} {e : E} : wpS G k P (.aug sub i e) K g W = getS g i (fz fun d => onI d (fz fun n => wpE G k P e g W (fun y W1 => onI y (fz fun m => K.nx (g.set i (some (.int (if sub = true then n - m else n + m)))) W1)) fun x W1 => K.xq x g W1)) := by
  simp only [wpS]
  refine propext ⟨fun ⟨n, e, h⟩ => getS_of.mpr ⟨_, e, h⟩, fun h => ?_⟩
  obtain ⟨d, e, h⟩ := getS_of.mp h
  cases d <;> first | exact h.elim | exact ⟨_, e, h⟩
theorem y_ret {e : E} : wpS G k P (.ret e) K g W = wpE G k P e g W K.rt fun x W1 => K.xq x g W1 := by simp only [wpS, fz]
theorem y_retN : wpS G k P .retN K g W = K.rt .non W := by simp only [wpS, fz]
theorem y_pass : wpS G k P .pass K g W = K.nx g W := by simp only [wpS, fz]
theorem y_brk : wpS G k P .brk K g W = K.bk g W := by simp only [wpS, fz]
theorem y_cont : wpS G k P .cont K g W = K.ct g W := by simp only [wpS, fz]
theorem y_ite {c : E} {a b : List S} : wpS G k P (.ite c a b) K g W = wpT G k P c g W (fun t W1 => brn t (wpSs G k P a K g W1) (wpSs G k P b K g W1)) fun x W1 => K.xq x g W1 := by simp only [wpS, brn_eq, fz]
/-- a while -/
def whlW (G : Gs) (k : Nat) (P : Pm) (c : E) (b : List S) (K : Ke) (g : Gm) (W : Om) (_ : Hold K := ()) : Prop := wpS G k P (.whl c b) K g W
theorem y_whl {c : E} {b : List S} : wpS G k P (.whl c b) K g W = whlW G k P c b K g W := Eq.trans rfl rfl
/-- a for's turns -/
def forW (G : Gs) (k : Nat) (P : Pm) (t : Tg) (w : Wt) (b : List S) (K : Ke) (ds : List D) (g : Gm) (W : Om) (_ : Hold K := ()) : Prop := forL t w (wpSs G k P b) K ds g W
theorem y_for {t : Tg} {it : I} {b : List S} : wpS G k P (.for t it b) K g W = wpI G k P it g W (fun w ds W1 => forW G k P t w b K ds g W1) fun x W1 => K.xq x g W1 := by simp only [wpS, forW]
theorem y_fld {o : E} {f : Nat} {e : E} : wpS G k P (.fld o f e) K g W = wpE G k P e g W (fun d W1 => wpE G k P o g W1 (fun od W2 => fldD P od f d W2 (fz fun W3 => K.nx g W3)) fun x W2 => K.xq x g W2) fun x W1 => K.xq x g W1 := by simp only [wpS, fz]
theorem y_sub {o i e : E} : wpS G k P (.sub o i e) K g W = wpE G k P e g W (fun d W1 => wpE G k P o g W1 (fun od W2 => wpE G k P i g W2 (fun id W3 => subD od id d W3 (fz fun W4 => K.nx g W4))
      fun x W3 => K.xq x g W3) fun x W2 => K.xq x g W2) fun x W1 => K.xq x g W1 := by simp only [wpS, fz]
theorem y_raise {C : Nat} {es : List E} : wpS G k P (.raise C es) K g W = wpEs G k P es g W (fun ds W1 => onO (P.xin C) (fz fun fs => fs.length = ds.length ∧ K.xq ⟨C, fs.zip ds⟩ g W1)) fun x W1 => K.xq x g W1 := by
  simp only [wpS, fz]
  have e : ∀ (ds : List D) (W1 : Om), (∃ fs, P.xin C = some fs ∧ fs.length = ds.length ∧ K.xq ⟨C, fs.zip ds⟩ g W1) = onO (P.xin C) fun fs => fs.length = ds.length ∧ K.xq ⟨C, fs.zip ds⟩ g W1 := fun ds W1 => propext onO_of.symm
  simp only [e]
theorem y_frz {i : Nat} : wpS G k P (.frz i) K g W = getS g i (fz fun d => dPtr d (fz fun a => cLst (W a) (fz fun ds => K.nx (g.set i (some (.lst ds))) (W.del a)))) := by
  simp only [wpS]
  refine propext ⟨fun ⟨a, ds, e, f, h⟩ => getS_of.mpr ⟨_, e, cLst_of.mpr ⟨ds, f, h⟩⟩, fun h => ?_⟩
  obtain ⟨d, e, h⟩ := getS_of.mp h
  obtain ⟨a, rfl, h⟩ := dPtr_of.mp h
  obtain ⟨ds, f, h⟩ := cLst_of.mp h
  exact ⟨a, ds, e, f, h⟩
theorem y_try {b : List S} {hs : Hs} : wpS G k P (.try b hs) K g W = wpSs G k P b { K with xq := fun x g' W' => wpH G k P hs x K g' W' } g W := by simp only [wpS, fz]
theorem h_nil {x : Exn} : wpH G k P .nil x K g W = K.xq x g W := by simp only [wpH]
theorem h_cons0 {cs : List Nat} {b : List S} {r : Hs} {x : Exn} : wpH G k P (.cons cs none b r) x K g W = brn (cs.any fun D => P.sub x.C D) (wpSs G k P b { K with xq := fun _ _ _ => False } g W) (wpH G k P r x K g W) := by simp only [wpH, brn_eq, fz]
theorem h_cons1 {cs : List Nat} {i : Nat} {b : List S} {r : Hs} {x : Exn} : wpH G k P (.cons cs (some i) b r) x K g W = brn (cs.any fun D => P.sub x.C D) (i < g.length ∧
    wpSs G k P b { nx := fun g' W' => K.nx (g'.set i none) W', rt := K.rt, bk := fun g' W' => K.bk (g'.set i none) W', ct := fun g' W' => K.ct (g'.set i none) W', xq := fun _ _ _ => False } (g.set i (some (.exn x.C x.fs))) W) (wpH G k P r x K g W) := by simp only [wpH, brn_eq, fz]
theorem kf_nx {R : Out → Om → Prop} : (Kf R).nx g W = ∃ W', Sub W' W ∧ R (.ret .non) W' := Eq.trans rfl rfl
theorem kf_rt {R : Out → Om → Prop} {d : D} : (Kf R).rt d W = ∃ W', Sub W' W ∧ R (.ret d) W' := Eq.trans rfl rfl
theorem kf_xq {R : Out → Om → Prop} {x : Exn} : (Kf R).xq x g W = ∃ W', Sub W' W ∧ R (.exc x) W' := Eq.trans rfl rfl
def outQ (Q : PQ) (X : PX) : Out → Om → Prop := fun o W => match o with
  | .ret d => Q d W
  | .exc x => X x W
theorem outQ_ret {d : D} : outQ Q X (.ret d) W = Q d W := Eq.trans rfl rfl
theorem outQ_exc {x : Exn} : outQ Q X (.exc x) W = X x W := Eq.trans rfl rfl
theorem call_of {f : Nat} {ds : List D} (h : G f k ds W (outQ Q X)) : callW G k f ds W Q X := ⟨_, h, fun _ _ z => z, fun _ _ z => z⟩
end
end Tw
set_option maxHeartbeats 4000000
namespace Tw
open PySem PySem.Spec L2
section
variable {G : Gs} {k : Nat} {P : Pm} {g : Gm} {W : Om} {K : Ke}
/-- a turn of a for: what is wanted behind its body -/
def turnK (K : Ke) (n : Gm → Om → Prop) : Ke := { K with nx := n, ct := n, bk := K.nx }
theorem tk_nx {n : Gm → Om → Prop} : (turnK K n).nx g W = n g W := Eq.trans rfl rfl
theorem tk_ct {n : Gm → Om → Prop} : (turnK K n).ct g W = n g W := Eq.trans rfl rfl
theorem tk_bk {n : Gm → Om → Prop} : (turnK K n).bk g W = K.nx g W := Eq.trans rfl rfl
theorem tk_rt {n : Gm → Om → Prop} {d : D} : (turnK K n).rt d W = K.rt d W := Eq.trans rfl rfl
theorem tk_xq {n : Gm → Om → Prop} {x : Exn} : (turnK K n).xq x g W = K.xq x g W := Eq.trans rfl rfl
theorem forW_from {t : Tg} {w : Wt} {b : List S} {all : List D} (I : Nat → Gm → Om → Prop)
    (step : ∀ j d, all[j]? = some d → ∀ g W, I j g W → wOk w W ∧ setT t d g fun g' => wpSs G k P b (turnK K (I (j + 1))) g' W)
    (fin : ∀ g W, I all.length g W → wOk w W ∧ K.nx g W) : ∀ (r : List D) (j : Nat), all = all.take j ++ r → j + r.length = all.length → ∀ g W, I j g W → forW G k P t w b K r g W
  | [], j, e, hl, g, W, h => by
    have : j = all.length := by simpa using hl
    subst this
    exact fin g W h
  | d :: r, j, e, hl, g, W, h => by
    have hj : all[j]? = some d := by
      rw [e, List.getElem?_append_right (by rw [List.length_take]; omega), List.length_take]
      have : j - min j all.length = 0 := by simp at hl; omega
      rw [this]; rfl
    have hlt : j < all.length := by simp at hl; omega
    have e2 : all = all.take (j + 1) ++ r := by
      rw [List.take_add_one, hj]
      simp only [Option.toList, List.append_assoc, List.singleton_append]
      exact e
    have hl2 : j + 1 + r.length = all.length := by simp at hl; omega
    obtain ⟨h1, h2⟩ := step j d hj g W h
    refine ⟨h1, setT.mono (p := fun g' => wpSs G k P b (turnK K (I (j + 1))) g' W) (fun g' z => ?_) h2⟩
    exact moSs (K := turnK K (I (j + 1))) b ⟨fun g1 W1 z => forW_from I step fin r (j + 1) e2 hl2 g1 W1 z, fun _ _ z => z, fun _ _ z => z, fun g1 W1 z => forW_from I step fin r (j + 1) e2 hl2 g1 W1 z, fun _ _ _ z => z⟩ z
/-- a for: the invariant by the turn's number -/
theorem for_inv {t : Tg} {w : Wt} {b : List S} {ds : List D} (I : Nat → Gm → Om → Prop) (h0 : I 0 g W)
    (step : ∀ j d, ds[j]? = some d → ∀ g W, I j g W → wOk w W ∧ setT t d g fun g' => wpSs G k P b (turnK K (I (j + 1))) g' W)
    (fin : ∀ g W, I ds.length g W → wOk w W ∧ K.nx g W) : forW G k P t w b K ds g W :=
  forW_from I step fin ds 0 (by simp) (by simp) g W h0
theorem range_get {lo : Int} {n j : Nat} {d : D} (h : (rangeL lo n)[j]? = some d) : j < n ∧ d = .int (lo + j) := by
  unfold rangeL at h
  rw [List.getElem?_map] at h
  obtain ⟨x, e, h⟩ := Option.map_eq_some_iff.mp h
  obtain ⟨hl, e⟩ := List.getElem?_eq_some_iff.mp e
  rw [List.length_range] at hl
  rw [List.getElem_range] at e
  subst e
  exact ⟨hl, h.symm⟩
theorem range_len {lo : Int} {n : Nat} : (rangeL lo n).length = n := by unfold rangeL; rw [List.length_map, List.length_range]
/-- for i in range(lo, lo + n) -/
theorem for_range {i : Nat} {b : List S} {lo : Int} {n : Nat} (I : Nat → Gm → Om → Prop) (h0 : I 0 g W)
    (step : ∀ j : Nat, j < n → ∀ g W, I j g W → wpSs G k P b (turnK K (I (j + 1))) (g.set i (some (.int (lo + j)))) W)
    (fin : ∀ g W, I n g W → K.nx g W) : forW G k P (.name i) none b K (rangeL lo n) g W :=
  for_inv I h0 (fun j d h g W z => by
    obtain ⟨h1, rfl⟩ := range_get h
    exact ⟨trivial, step j h1 g W z⟩) fun g W z => ⟨trivial, fin g W (by rwa [range_len] at z)⟩
/-- for x in xs, the list a tree -/
theorem for_list {i : Nat} {b : List S} {ds : List D} (I : Nat → Gm → Om → Prop) (h0 : I 0 g W)
    (step : ∀ j d, ds[j]? = some d → ∀ g W, I j g W → wpSs G k P b (turnK K (I (j + 1))) (g.set i (some d)) W)
    (fin : ∀ g W, I ds.length g W → K.nx g W) : forW G k P (.name i) none b K ds g W :=
  for_inv I h0 (fun j d h g W z => ⟨trivial, step j d h g W z⟩) fun g W z => ⟨trivial, fin g W z⟩
/-- a while: the invariant with a measure -/
theorem whl_inv {c : E} {b : List S} (I : Nat → Gm → Om → Prop) (n0 : Nat) (h0 : I n0 g W)
    (step : ∀ n g W, I n g W → wpT G k P c g W (fun t W1 => brn t (wpSs G k P b (turnK K fun g' W' => ∃ m, m < n ∧ I m g' W') g W1) (K.nx g W1)) fun x W1 => K.xq x g W1) : whlW G k P c b K g W := by
  unfold whlW
  simp only [wpS]
  refine ⟨I, ⟨n0, h0⟩, fun n g W h => ?_⟩
  have z := step n g W h
  simp only [brn_eq] at z
  exact z
def MoSt (st : D → Om → (Option D → Om → Prop) → Prop) : Prop := ∀ d W R R', (∀ o W, R o W → R' o W) → st d W R → st d W R'
theorem compStep_mono {i : Nat} {elt : E} {cond : Option E} : MoSt (compStep G k P g i elt cond) := fun d W R R' h z => by
  unfold compStep at z ⊢
  refine moC cond (fun t W1 y => ?_) (fun _ _ y => y) z
  simp only [brn_eq] at y ⊢
  exact ite.mono (fun y => moE elt (fun _ _ y => h _ _ y) (fun _ _ y => y) y) (fun y => h _ _ y) y
theorem compL_from {w : Wt} {st : D → Om → (Option D → Om → Prop) → Prop} (ms : MoSt st) {all : List D} {Q : List D → Om → Prop} (I : Nat → List D → Om → Prop)
    (step : ∀ j d, all[j]? = some d → ∀ acc W, I j acc W → wOk w W ∧ st d W fun o W' => match o with
      | none => I (j + 1) acc W'
      | some y => acc.length < sizeLine ∧ I (j + 1) (acc ++ [y]) W')
    (fin : ∀ acc W, I all.length acc W → wOk w W ∧ Q acc W) : ∀ (r : List D) (j : Nat), all = all.take j ++ r → j + r.length = all.length → ∀ acc W, I j acc W → compL w st r acc W Q
  | [], j, e, hl, acc, W, h => by
    have : j = all.length := by simpa using hl
    subst this
    exact fin acc W h
  | d :: r, j, e, hl, acc, W, h => by
    have hj : all[j]? = some d := by
      rw [e, List.getElem?_append_right (by rw [List.length_take]; omega), List.length_take]
      have : j - min j all.length = 0 := by simp at hl; omega
      rw [this]; rfl
    have hlt : j < all.length := by simp at hl; omega
    have e2 : all = all.take (j + 1) ++ r := by
      rw [List.take_add_one, hj]
      simp only [Option.toList, List.append_assoc, List.singleton_append]
      exact e
    have hl2 : j + 1 + r.length = all.length := by simp at hl; omega
    obtain ⟨h1, h2⟩ := step j d hj acc W h
    refine ⟨h1, ms _ _ _ _ (fun o W1 z => ?_) h2⟩
    cases o with
    | none => exact compL_from ms I step fin r (j + 1) e2 hl2 acc W1 z
    | some y => exact ⟨z.1, compL_from ms I step fin r (j + 1) e2 hl2 _ W1 z.2⟩
/-- a comprehension: the invariant by the turn's number and the items so far -/
theorem comp_inv {w : Wt} {i : Nat} {elt : E} {cond : Option E} {ds : List D} {Q : List D → Om → Prop} (I : Nat → List D → Om → Prop) (h0 : I 0 [] W)
    (step : ∀ j d, ds[j]? = some d → ∀ acc W, I j acc W → wOk w W ∧ compStep G k P g i elt cond d W fun o W' => match o with
      | none => I (j + 1) acc W'
      | some y => acc.length < sizeLine ∧ I (j + 1) (acc ++ [y]) W')
    (fin : ∀ acc W, I ds.length acc W → wOk w W ∧ Q acc W) : compL w (compStep G k P g i elt cond) ds [] W Q :=
  compL_from compStep_mono I step fin ds 0 (by simp) (by simp) [] W h0
/-- [elt for x in xs], each item by a value, nothing else changed -/
theorem comp_map {w : Wt} {i : Nat} {elt : E} {ds : List D} {Q : List D → Om → Prop} (f : Nat → D) (hw : wOk w W) (hl : ds.length ≤ sizeLine)
    (step : ∀ j d, ds[j]? = some d → ∀ R : PQ, R (f j) W → wpE G k P elt (g.set i (some d)) W R fun _ _ => False)
    (h : Q ((List.range ds.length).map f) W) : compL w (compStep G k P g i elt none) ds [] W Q := by
  refine comp_inv (fun j acc W' => W' = W ∧ acc = (List.range j).map f ∧ j ≤ ds.length) ⟨rfl, rfl, Nat.zero_le _⟩ (fun j d hd acc W' z => ?_) fun acc W' z => ?_
  · obtain ⟨rfl, rfl, hj⟩ := z
    have hlt : j < ds.length := (List.getElem?_eq_some_iff.mp hd).1
    refine ⟨hw, ?_⟩
    unfold compStep
    simp only [wpC, brn_eq]
    refine step j d hd _ ⟨?_, rfl, ?_, hlt⟩
    · rw [List.length_map, List.length_range]; omega
    · rw [List.range_succ, List.map_append]; rfl
  · obtain ⟨rfl, rfl, hj⟩ := z
    exact ⟨hw, h⟩
/-- [x for x in xs if c] with nothing else changed -/
theorem comp_filter {i : Nat} {elt c : E} {ds : List D} {Q : List D → Om → Prop} (f : D → D) (p : D → Bool) (hl : ds.length ≤ sizeLine)
    (step : ∀ d ∈ ds, ∀ R : Bool → Om → Prop, R (p d) W → wpT G k P c (g.set i (some d)) W R fun _ _ => False)
    (step2 : ∀ d ∈ ds, p d = true → ∀ R : PQ, R (f d) W → wpE G k P elt (g.set i (some d)) W R fun _ _ => False)
    (h : Q ((ds.filter p).map f) W) : compL none (compStep G k P g i elt (some c)) ds [] W Q := by
  refine comp_inv (fun j acc W' => W' = W ∧ acc = ((ds.take j).filter p).map f ∧ j ≤ ds.length) ⟨rfl, by simp, Nat.zero_le _⟩ (fun j d hd acc W' z => ?_) fun acc W' z => ?_
  · obtain ⟨rfl, rfl, hj⟩ := z
    have hlt : j < ds.length := (List.getElem?_eq_some_iff.mp hd).1
    have hm := List.mem_of_getElem? hd
    have e3 : ds.take (j + 1) = ds.take j ++ [d] := by rw [List.take_add_one, hd]; rfl
    have hlen : (((ds.take j).filter p).map f).length < sizeLine := by
      rw [List.length_map]
      have := List.length_filter_le p (ds.take j)
      rw [List.length_take] at this
      omega
    refine ⟨trivial, ?_⟩
    unfold compStep
    simp only [wpC, brn_eq]
    refine step d hm _ ?_
    split
    · next hp =>
      refine step2 d hm hp _ ⟨hlen, rfl, ?_, hlt⟩
      rw [e3, List.filter_append, List.map_append]
      simp [hp]
    · next hp =>
      refine ⟨rfl, ?_, hlt⟩
      rw [e3, List.filter_append, List.map_append]
      simp [hp]
  · obtain ⟨rfl, rfl, hj⟩ := z
    refine ⟨trivial, ?_⟩
    rwa [List.take_length]
theorem comp2Step_mono {i j : Nat} {elt : E} {it1 : I} {d : D} {acc : List D} {R R' : List D → Om → Prop} (h : ∀ a W, R a W → R' a W) (z : comp2Step G k P g i j elt it1 d acc W R) : comp2Step G k P g i j elt it1 d acc W R' := by
  unfold comp2Step at z ⊢
  exact moI it1 (fun _ _ _ y => compL.mono compStep_mono (fun a W y => h a W y) y) (fun _ _ y => y) z
theorem comp2L_from {w : Wt} {st : D → List D → Om → (List D → Om → Prop) → Prop} (ms : ∀ d acc W R R', (∀ a W, R a W → R' a W) → st d acc W R → st d acc W R') {all : List D} {Q : List D → Om → Prop} (I : Nat → List D → Om → Prop)
    (step : ∀ n d, all[n]? = some d → ∀ acc W, I n acc W → wOk w W ∧ st d acc W (I (n + 1)))
    (fin : ∀ acc W, I all.length acc W → wOk w W ∧ Q acc W) : ∀ (r : List D) (n : Nat), all = all.take n ++ r → n + r.length = all.length → ∀ acc W, I n acc W → comp2L w st r acc W Q
  | [], n, e, hl, acc, W, h => by
    have : n = all.length := by simpa using hl
    subst this
    exact fin acc W h
  | d :: r, n, e, hl, acc, W, h => by
    have hj : all[n]? = some d := by
      rw [e, List.getElem?_append_right (by rw [List.length_take]; omega), List.length_take]
      have : n - min n all.length = 0 := by simp at hl; omega
      rw [this]; rfl
    have e2 : all = all.take (n + 1) ++ r := by
      rw [List.take_add_one, hj]
      simp only [Option.toList, List.append_assoc, List.singleton_append]
      exact e
    have hl2 : n + 1 + r.length = all.length := by simp at hl; omega
    obtain ⟨h1, h2⟩ := step n d hj acc W h
    exact ⟨h1, ms _ _ _ _ _ (fun a W1 z => comp2L_from ms I step fin r (n + 1) e2 hl2 a W1 z) h2⟩
/-- [e for x in xs for y in ys]: the invariant by the outer turn's number and the items so far -/
theorem comp2_inv {w : Wt} {i j : Nat} {elt : E} {it1 : I} {ds : List D} {Q : List D → Om → Prop} (I : Nat → List D → Om → Prop) (h0 : I 0 [] W)
    (step : ∀ n d, ds[n]? = some d → ∀ acc W, I n acc W → wOk w W ∧ comp2Step G k P g i j elt it1 d acc W (I (n + 1)))
    (fin : ∀ acc W, I ds.length acc W → wOk w W ∧ Q acc W) : comp2L w (comp2Step G k P g i j elt it1) ds [] W Q :=
  comp2L_from (st := comp2Step G k P g i j elt it1) (fun _ _ _ _ _ h z => comp2Step_mono h z) I step fin ds 0 (by simp) (by simp) [] W h0
/-- the inner for: each item by a value, behind what is there -/
theorem comp_acc {w : Wt} {i : Nat} {elt : E} {Q : List D → Om → Prop} (f : D → D) (hw : wOk w W) : ∀ {ds acc : List D}, acc.length + ds.length ≤ sizeLine →
    (∀ d ∈ ds, ∀ R : PQ, R (f d) W → wpE G k P elt (g.set i (some d)) W R fun _ _ => False) → Q (acc ++ ds.map f) W → compL w (compStep G k P g i elt none) ds acc W Q
  | [], acc, _, _, h => ⟨hw, by rw [List.map_nil, List.append_nil] at h; exact h⟩
  | d :: r, acc, hl, st, h => by
    refine ⟨hw, ?_⟩
    rw [comp0]
    refine st d List.mem_cons_self _ ?_
    have hl' : acc.length + (r.length + 1) ≤ sizeLine := by simpa using hl
    refine ⟨by omega, ?_⟩
    rw [← comp0]
    refine comp_acc f hw (by rw [List.length_append, List.length_singleton]; omega) (fun d' hd => st d' (List.mem_cons_of_mem _ hd)) ?_
    rw [List.append_assoc]
    exact h
end
end Tw
set_option maxHeartbeats 4000000
namespace Tw
open PySem PySem.Spec L2
theorem sIx_ge {n d : Nat} {v : Int} (h : 0 ≤ v) : HT.sIx n d (some v) = min v.toNat n := by
  show (if v < 0 then (v + (n : Int)).toNat else min v.toNat n) = min v.toNat n
  rw [if_neg (by omega)]
theorem cut_to {α : Type} {xs : List α} {v : Int} (h : 0 ≤ v) : cutD xs none (some v) = xs.take v.toNat := by
  unfold cutD
  rw [sIx_ge h]
  have e2 : HT.sIx xs.length 0 none = 0 := rfl
  rw [e2, List.drop_zero, Nat.sub_zero]
  rcases Nat.le_total v.toNat xs.length with z | z
  · rw [Nat.min_eq_left z]
  · rw [Nat.min_eq_right z, List.take_length, List.take_of_length_le z]
theorem Sub0.set_new {W V : Om} {p : Addr} {m : MO} (h : Sub W V) (hp : W p = none) : Sub W (V.set p m) := fun b x hb => by
  by_cases e : b = p
  · subst e; rw [hp] at hb; cases hb
  · rw [Om.set_ne e]; exact h b x hb
theorem Sub.set_new {W V : Om} {p : Addr} {m : MO} (h : Sub W V) (hp : W p = none) : Sub W (V.set p m) := Sub0.set_new h hp
theorem Sub.off_ {W V : Om} {p : Addr} (h : Sub W V) (hp : V p = none) : W p = none := by
  cases z : W p with
  | none => rfl
  | some x => rw [h _ _ z] at hp; cases hp
theorem set_none {V : Om} {p q : Addr} {m : MO} (h : (V.set q m) p = none) : p ≠ q ∧ V p = none := by
  by_cases e : p = q
  · subst e; rw [Om.set_same] at h; cases h
  · exact ⟨e, by rwa [Om.set_ne e] at h⟩
end Tw
set_option maxHeartbeats 4000000
namespace Tw
open PySem PySem.Spec L2
/-- a prime number -/
def PrI (n : Int) : Prop := 2 ≤ n ∧ ∀ d : Int, 2 ≤ d → d < n → n % d ≠ 0
/-- a divisor up to the root -/
def HasDiv (n : Int) : Prop := ∃ d : Int, 2 ≤ d ∧ d * d ≤ n ∧ n % d = 0
theorem leastN {p : Nat → Prop} : ∀ n : Nat, p n → ∃ m, p m ∧ ∀ i, i < m → ¬ p i := by
  intro n
  induction n using Nat.strongRecOn with
  | ind n ih =>
    intro h
    rcases Classical.em (∃ i, i < n ∧ p i) with ⟨i, hi, hp⟩ | hno
    · exact ih i hi hp
    · exact ⟨n, h, fun i hi hp => hno ⟨i, hi, hp⟩⟩
/-- the least divisor from 2 on is prime -/
theorem least_div {n : Int} (h : 2 ≤ n) : ∃ p : Int, PrI p ∧ n % p = 0 ∧ p ≤ n ∧ ∀ d, 2 ≤ d → d < p → n % d ≠ 0 := by
  obtain ⟨m, ⟨h1, h2⟩, h3⟩ := leastN (p := fun i : Nat => 2 ≤ i ∧ n % (i : Int) = 0) n.toNat ⟨by omega, by
    have : ((n.toNat : Nat) : Int) = n := by omega
    rw [this]; exact Int.emod_self⟩
  have hle : (m : Int) ≤ n := by
    rcases (by omega : (m : Int) ≤ n ∨ n < m) with z | z
    · exact z
    · rw [Int.emod_eq_of_lt (by omega) z] at h2; omega
  have hno : ∀ d : Int, 2 ≤ d → d < m → n % d ≠ 0 := fun d hd hlt e => by
    refine h3 d.toNat (by omega) ⟨by omega, ?_⟩
    have : ((d.toNat : Nat) : Int) = d := by omega
    rw [this]; exact e
  refine ⟨m, ⟨by omega, fun d hd hlt e => hno d hd hlt ?_⟩, h2, hle, hno⟩
  exact Int.emod_eq_zero_of_dvd (Int.dvd_trans (Int.dvd_of_emod_eq_zero e) (Int.dvd_of_emod_eq_zero h2))
theorem cofactor {n d : Int} (hd : 2 ≤ d) (hlt : d < n) (e : n % d = 0) : ∃ c : Int, 2 ≤ c ∧ c < n ∧ n = d * c ∧ n % c = 0 := by
  obtain ⟨c, hc⟩ := Int.dvd_of_emod_eq_zero e
  have hc1 : 1 < c := by
    rcases (by omega : 1 < c ∨ c ≤ 1) with z | z
    · exact z
    · have : d * c ≤ d * 1 := Int.mul_le_mul_of_nonneg_left z (by omega)
      omega
  have hc2 : c < n := by
    have : 2 * c ≤ d * c := Int.mul_le_mul_of_nonneg_right hd (by omega)
    omega
  refine ⟨c, by omega, hc2, hc, ?_⟩
  exact Int.emod_eq_zero_of_dvd ⟨d, by rw [hc, Int.mul_comm]⟩
/-- no prime: a prime divisor up to the root -/
theorem prime_div {n : Int} (h : 2 ≤ n) (hn : ¬ PrI n) : ∃ p : Int, PrI p ∧ n % p = 0 ∧ p * p ≤ n ∧ p < n := by
  obtain ⟨p, hp, e, hle, hmin⟩ := least_div h
  have hlt : p < n := by
    rcases (by omega : p < n ∨ p = n) with z | rfl
    · exact z
    · exact absurd hp hn
  obtain ⟨c, hc1, hc2, hc3, hc4⟩ := cofactor hp.1 hlt e
  refine ⟨p, hp, e, ?_, hlt⟩
  rcases (by omega : p ≤ c ∨ c < p) with z | z
  · have : p * p ≤ p * c := Int.mul_le_mul_of_nonneg_left z (by have := hp.1; omega)
    omega
  · exact absurd hc4 (hmin c hc1 z)
theorem hasDiv_iff {n : Int} (h : 2 ≤ n) : HasDiv n ↔ ¬ PrI n := by
  constructor
  · rintro ⟨d, h1, h2, h3⟩ hp
    have : d < n := by
      have : d * 2 ≤ d * d := Int.mul_le_mul_of_nonneg_left h1 (by omega)
      omega
    exact hp.2 d h1 this h3
  · intro hn
    obtain ⟨p, hp, e, hle, _⟩ := prime_div h hn
    exact ⟨p, hp.1, hle, e⟩
/-- .. by computation -/
def isPr (n : Int) : Bool := decide (2 ≤ n) && (List.range n.toNat).all fun d => decide (d < 2) || decide (n % (d : Int) ≠ 0)
theorem isPr_iff {n : Int} : isPr n = true ↔ PrI n := by
  unfold isPr PrI
  rw [Bool.and_eq_true, decide_eq_true_eq, List.all_eq_true]
  refine ⟨fun ⟨h1, h2⟩ => ⟨h1, fun d hd hlt => ?_⟩, fun ⟨h1, h2⟩ => ⟨h1, fun d hd => ?_⟩⟩
  · have z := h2 d.toNat (List.mem_range.mpr (by omega))
    have e : ((d.toNat : Nat) : Int) = d := by omega
    rw [e, Bool.or_eq_true, decide_eq_true_eq, decide_eq_true_eq] at z
    rcases z with z | z
    · omega
    · exact z
  · rw [List.mem_range] at hd
    rw [Bool.or_eq_true, decide_eq_true_eq, decide_eq_true_eq]
    rcases (by omega : d < 2 ∨ 2 ≤ d) with z | z
    · exact .inl z
    · exact .inr (h2 d (by omega) (by omega))
/-- the integers from 2 to n, as a range tells them -/
def upTo (n : Nat) : List Int := (List.range n).map fun j : Nat => 2 + (j : Int)
theorem upTo_succ {n : Nat} : upTo (n + 1) = upTo n ++ [2 + (n : Int)] := by unfold upTo; rw [List.range_succ, List.map_append]; rfl
theorem mem_upTo {n : Nat} {x : Int} : x ∈ upTo n ↔ 2 ≤ x ∧ x < 2 + n := by
  unfold upTo
  rw [List.mem_map]
  constructor
  · rintro ⟨j, hj, rfl⟩
    rw [List.mem_range] at hj
    omega
  · rintro ⟨h1, h2⟩
    exact ⟨(x - 2).toNat, List.mem_range.mpr (by omega), by omega⟩
/-- the primes among the first n integers from 2 on -/
def prN (n : Nat) : List Int := (upTo n).filter isPr
/-- the primes up to n -/
def prL (n : Int) : List Int := prN (n + 1 - 2).toNat
theorem prN_succ {n : Nat} : prN (n + 1) = prN n ++ if isPr (2 + n) = true then [2 + (n : Int)] else [] := by
  unfold prN
  rw [upTo_succ, List.filter_append]
  congr 1
  cases h : isPr (2 + n) <;> simp [List.filter, h]
theorem mem_prN {n : Nat} {x : Int} : x ∈ prN n ↔ PrI x ∧ x < 2 + n := by
  unfold prN
  rw [List.mem_filter, mem_upTo, isPr_iff]
  exact ⟨fun ⟨⟨a, b⟩, c⟩ => ⟨c, b⟩, fun ⟨a, b⟩ => ⟨⟨a.1, b⟩, a⟩⟩
theorem mem_prL {n x : Int} : x ∈ prL n ↔ PrI x ∧ x ≤ n := by
  unfold prL
  rw [mem_prN]
  constructor
  · rintro ⟨a, b⟩
    have := a.1
    exact ⟨a, by omega⟩
  · rintro ⟨a, b⟩
    have := a.1
    exact ⟨a, by omega⟩
theorem prN_len {n : Nat} : (prN n).length ≤ n := by
  unfold prN upTo
  refine Nat.le_trans (List.length_filter_le _ _) ?_
  rw [List.length_map, List.length_range]
  exact Nat.le_refl _
theorem upTo_sorted {n : Nat} : (upTo n).Pairwise (· < ·) := by
  induction n with
  | zero => exact List.Pairwise.nil
  | succ n ih =>
    rw [upTo_succ, List.pairwise_append]
    refine ⟨ih, List.pairwise_singleton _ _, fun a ha b hb => ?_⟩
    rw [mem_upTo] at ha
    rw [List.mem_singleton] at hb
    omega
theorem prN_sorted {n : Nat} : (prN n).Pairwise (· < ·) := List.Pairwise.filter _ upTo_sorted
theorem prL101 : prL 101 = [2, 3, 5, 7, 11, 13, 17, 19, 23, 29, 31, 37, 41, 43, 47, 53, 59, 61, 67, 71, 73, 79, 83, 89, 97, 101] := by decide +kernel
end Tw
section
local macro_rules
  | `(tactic| push_cast [$a,*] $[$l:location]?) => `(tactic| simp only [$a,*, ↓Tw.e_var, ↓Tw.e_int, ↓Tw.e_str, ↓Tw.e_bl, ↓Tw.e_non, ↓Tw.e_gint, ↓Tw.e_gstr, ↓Tw.e_bin, ↓Tw.e_neg, ↓Tw.e_cmp, ↓Tw.e_chain, ↓Tw.e_and, ↓Tw.e_or, ↓Tw.e_not, ↓Tw.e_ite, ↓Tw.e_lst, ↓Tw.e_tup, ↓Tw.e_idx, ↓Tw.e_rev, ↓Tw.e_lzip, ↓Tw.e_slice, ↓Tw.e_call, ↓Tw.e_callK, ↓Tw.e_blt, ↓Tw.e_isi, ↓Tw.e_meth, ↓Tw.e_umeth, ↓Tw.e_attr, ↓Tw.e_mk, ↓Tw.e_exC, ↓Tw.e_exI, ↓Tw.e_exA, ↓Tw.e_comp, ↓Tw.e_compH, ↓Tw.e_comp2, ↓Tw.e_compR, ↓Tw.e_own2, ↓Tw.e_own1, ↓Tw.e_umethK, ↓Tw.e_mkK, ↓Tw.e_lrng, ↓Tw.t_and, ↓Tw.t_or, ↓Tw.t_not, ↓Tw.t_ite, ↓Tw.t_var, ↓Tw.t_bl, ↓Tw.t_cmp, ↓Tw.t_chain, ↓Tw.t_idx, ↓Tw.t_call, ↓Tw.t_blt, ↓Tw.t_isi, ↓Tw.t_umeth, ↓Tw.t_own2, ↓Tw.t_own1, ↓Tw.t_attr, ↓Tw.t_exC, ↓Tw.t_exI, ↓Tw.es_nil, ↓Tw.es_cons, ↓Tw.o_none, ↓Tw.o_some, ↓Tw.c_none, ↓Tw.c_some, ↓Tw.i_seq, ↓Tw.i_rng, ↓Tw.i_itf, ↓Tw.y_nil, ↓Tw.y_cons, ↓Tw.y_expr, ↓Tw.y_asg, ↓Tw.y_aug, ↓Tw.y_ret, ↓Tw.y_retN, ↓Tw.y_pass, ↓Tw.y_brk, ↓Tw.y_cont, ↓Tw.y_ite, ↓Tw.y_whl, ↓Tw.y_for, ↓Tw.y_fld, ↓Tw.y_sub, ↓Tw.y_raise, ↓Tw.y_frz, ↓Tw.y_try, ↓Tw.h_nil, ↓Tw.h_cons0, ↓Tw.h_cons1, ↓Tw.kf_nx, ↓Tw.kf_rt, ↓Tw.kf_xq, ↓Tw.tk_nx, ↓Tw.tk_ct, ↓Tw.tk_bk, ↓Tw.tk_rt, ↓Tw.tk_xq, ↓Tw.fz1, ↓Tw.fz2, ↓Tw.fz3, ↓Tw.getS_zero, ↓Tw.getS_succ, ↓Tw.onO_some, ↓Tw.cLst_some, ↓Tw.cIns_some, ↓Tw.dPtr_ptr, ↓Tw.dExn_exn, ↓Tw.onI_int, ↓Tw.onB_bl, ↓Tw.onCls_obj, ↓Tw.onCls_ptr, ↓Tw.outQ_ret, ↓Tw.outQ_exc, ↓Tw.onSeq_lst, ↓Tw.onSeq_tup, ↓Tw.onSeq_scr, ↓Tw.onSeq_ptr, ↓Tw.onLis_lst, ↓Tw.onLis_scr, ↓Tw.onLis_ptr, ↓Tw.onT_non, ↓Tw.onT_bl, ↓Tw.onT_int, ↓Tw.onT_lst, ↓Tw.onT_tup, ↓Tw.mkL_false, ↓Tw.mkL_true, ↓Tw.bin_add, ↓Tw.bin_addb, ↓Tw.bin_sub, ↓Tw.bin_mul, ↓Tw.bin_fdiv, ↓Tw.bin_mod, ↓Tw.bin_pow, ↓Tw.bin_shl, ↓Tw.bin_shr, ↓Tw.bin_band, ↓Tw.bin_addt, ↓Tw.bin_addpl, ↓Tw.bin_addlp, ↓Tw.bin_adds, ↓Tw.bin_addl, ↓Tw.bin_mull, ↓Tw.cmp_lt, ↓Tw.cmp_le, ↓Tw.cmp_gt, ↓Tw.cmp_ge, ↓Tw.cmp_eqi, ↓Tw.cmp_nei, ↓Tw.cmp_eqs, ↓Tw.cmp_nes, ↓Tw.cmp_eqb, ↓Tw.cmp_neb, ↓Tw.cmp_eqll, ↓Tw.cmp_eqtt, ↓Tw.cmp_eqlt, ↓Tw.cmp_eqtl, ↓Tw.cmp_nell, ↓Tw.cmp_nett, ↓Tw.cmp_eqpl, ↓Tw.cmp_eqlp, ↓Tw.cmp_isn, ↓Tw.cmp_isnn, ↓Tw.cmp_isb, ↓Tw.cmp_isnb, ↓Tw.cmp_meml, ↓Tw.cmp_nomeml, ↓Tw.cmp_memp, ↓Tw.cmp_nomemp, ↓Tw.idx_lst, ↓Tw.idx_tup, ↓Tw.idx_scr, ↓Tw.idx_ptr, ↓Tw.idx_str, ↓Tw.blt_lens, ↓Tw.blt_lenl, ↓Tw.blt_lent, ↓Tw.blt_lenc, ↓Tw.blt_lenp, ↓Tw.blt_abs, ↓Tw.blt_min2, ↓Tw.blt_max2, ↓Tw.blt_int, ↓Tw.blt_intb, ↓Tw.blt_list, ↓Tw.blt_tuple, ↓Tw.blt_str, ↓Tw.blt_boolb, ↓Tw.blt_booli, ↓Tw.blt_sum, ↓Tw.blt_max1, ↓Tw.blt_min1, ↓Tw.blt_all, ↓Tw.blt_any, ↓Tw.blt_sorted, ↓Tw.rev_tup, ↓Tw.rev_lst, ↓Tw.rev_scr, ↓Tw.rev_ptr, ↓Tw.lz_ll, ↓Tw.cKd_lst, ↓Tw.cKd_ins, ↓Tw.isi_own_obj, ↓Tw.isi_own_ptr, ↓Tw.isi_non_int, ↓Tw.isi_non_bool, ↓Tw.isi_non_str, ↓Tw.isi_non_list, ↓Tw.isi_non_tuple, ↓Tw.isi_own_non, ↓Tw.isi_bl_int, ↓Tw.isi_bl_bool, ↓Tw.isi_bl_str, ↓Tw.isi_bl_list, ↓Tw.isi_bl_tuple, ↓Tw.isi_own_bl, ↓Tw.isi_int_int, ↓Tw.isi_int_bool, ↓Tw.isi_int_str, ↓Tw.isi_int_list, ↓Tw.isi_int_tuple, ↓Tw.isi_own_int, ↓Tw.isi_str_int, ↓Tw.isi_str_bool, ↓Tw.isi_str_str, ↓Tw.isi_str_list, ↓Tw.isi_str_tuple, ↓Tw.isi_own_str, ↓Tw.isi_lst_int, ↓Tw.isi_lst_bool, ↓Tw.isi_lst_str, ↓Tw.isi_lst_list, ↓Tw.isi_lst_tuple, ↓Tw.isi_own_lst, ↓Tw.isi_tup_int, ↓Tw.isi_tup_bool, ↓Tw.isi_tup_str, ↓Tw.isi_tup_list, ↓Tw.isi_tup_tuple, ↓Tw.isi_own_tup, ↓Tw.isi_scr_int, ↓Tw.isi_scr_bool, ↓Tw.isi_scr_str, ↓Tw.isi_scr_list, ↓Tw.isi_scr_tuple, ↓Tw.isi_own_scr, ↓Tw.isi_ptr_int, ↓Tw.isi_obj_int, ↓Tw.isi_ptr_bool, ↓Tw.isi_obj_bool, ↓Tw.isi_ptr_str, ↓Tw.isi_obj_str, ↓Tw.isi_ptr_list, ↓Tw.isi_obj_list, ↓Tw.isi_ptr_tuple, ↓Tw.isi_obj_tuple, ↓Tw.meth_append, ↓Tw.meth_insert, ↓Tw.meth_reverse, ↓Tw.meth_clear, ↓Tw.meth_pop, ↓Tw.meth_popi, ↓Tw.attr_obj, ↓Tw.attr_ptr, ↓Tw.slice_lst, ↓Tw.slice_scr, ↓Tw.slice_ptr, ↓Tw.slice_tup, ↓Tw.it_lst, ↓Tw.it_tup, ↓Tw.it_scr, ↓Tw.it_ptr, ↓Tw.it_enum_lst, ↓Tw.it_enum_tup, ↓Tw.it_enum_scr, ↓Tw.it_enum_ptr, ↓Tw.it_rev_lst, ↓Tw.it_rev_tup, ↓Tw.it_rev_scr, ↓Tw.it_rev_ptr, ↓Tw.it_zip_lst, ↓Tw.it_zip_tup, ↓Tw.set_name, ↓Tw.set_tup, ↓Tw.fld_ptr, ↓Tw.sub_ptr, ↓Tw.it_hlst, ↓Tw.it_hptr, ↓Tw.own_eq, ↓Tw.own_mem, ↓Tw.own_bin, ↓Tw.own_neg, ↓Tw.own_prop, ↓Tw.lrng_1, ↓Tw.lrng_2, ↓Tw.setN_nil, ↓Tw.setN_cons, ↓Tw.rng1, ↓Tw.rng2, ↓Tw.rng3, ↓Tw.brn_true, ↓Tw.brn_false, ↓Tw.brn_not, ↓Tw.atI_lit, ↓Tw.ixN_lit, Tw.fz1, Tw.fz2, Tw.fz3, Tw.getS_zero, Tw.getS_succ, Tw.onO_some, Tw.cLst_some, Tw.cIns_some, Tw.dPtr_ptr, Tw.dExn_exn, Tw.onI_int, Tw.onB_bl, Tw.onCls_obj, Tw.onCls_ptr, Tw.outQ_ret, Tw.outQ_exc, Tw.onSeq_lst, Tw.onSeq_tup, Tw.onSeq_scr, Tw.onSeq_ptr, Tw.onLis_lst, Tw.onLis_scr, Tw.onLis_ptr, Tw.onT_non, Tw.onT_bl, Tw.onT_int, Tw.onT_lst, Tw.onT_tup, Tw.mkL_false, Tw.mkL_true, Tw.bin_add, Tw.bin_addb, Tw.bin_sub, Tw.bin_mul, Tw.bin_fdiv, Tw.bin_mod, Tw.bin_pow, Tw.bin_shl, Tw.bin_shr, Tw.bin_band, Tw.bin_addt, Tw.bin_addpl, Tw.bin_addlp, Tw.bin_adds, Tw.bin_addl, Tw.bin_mull, Tw.cmp_lt, Tw.cmp_le, Tw.cmp_gt, Tw.cmp_ge, Tw.cmp_eqi, Tw.cmp_nei, Tw.cmp_eqs, Tw.cmp_nes, Tw.cmp_eqb, Tw.cmp_neb, Tw.cmp_eqll, Tw.cmp_eqtt, Tw.cmp_eqlt, Tw.cmp_eqtl, Tw.cmp_nell, Tw.cmp_nett, Tw.cmp_eqpl, Tw.cmp_eqlp, Tw.cmp_isn, Tw.cmp_isnn, Tw.cmp_isb, Tw.cmp_isnb, Tw.cmp_meml, Tw.cmp_nomeml, Tw.cmp_memp, Tw.cmp_nomemp, Tw.idx_lst, Tw.idx_tup, Tw.idx_scr, Tw.idx_ptr, Tw.idx_str, Tw.blt_lens, Tw.blt_lenl, Tw.blt_lent, Tw.blt_lenc, Tw.blt_lenp, Tw.blt_abs, Tw.blt_min2, Tw.blt_max2, Tw.blt_int, Tw.blt_intb, Tw.blt_list, Tw.blt_tuple, Tw.blt_str, Tw.blt_boolb, Tw.blt_booli, Tw.blt_sum, Tw.blt_max1, Tw.blt_min1, Tw.blt_all, Tw.blt_any, Tw.blt_sorted, Tw.rev_tup, Tw.rev_lst, Tw.rev_scr, Tw.rev_ptr, Tw.lz_ll, Tw.cKd_lst, Tw.cKd_ins, Tw.isi_own_obj, Tw.isi_own_ptr, Tw.isi_non_int, Tw.isi_non_bool, Tw.isi_non_str, Tw.isi_non_list, Tw.isi_non_tuple, Tw.isi_own_non, Tw.isi_bl_int, Tw.isi_bl_bool, Tw.isi_bl_str, Tw.isi_bl_list, Tw.isi_bl_tuple, Tw.isi_own_bl, Tw.isi_int_int, Tw.isi_int_bool, Tw.isi_int_str, Tw.isi_int_list, Tw.isi_int_tuple, Tw.isi_own_int, Tw.isi_str_int, Tw.isi_str_bool, Tw.isi_str_str, Tw.isi_str_list, Tw.isi_str_tuple, Tw.isi_own_str, Tw.isi_lst_int, Tw.isi_lst_bool, Tw.isi_lst_str, Tw.isi_lst_list, Tw.isi_lst_tuple, Tw.isi_own_lst, Tw.isi_tup_int, Tw.isi_tup_bool, Tw.isi_tup_str, Tw.isi_tup_list, Tw.isi_tup_tuple, Tw.isi_own_tup, Tw.isi_scr_int, Tw.isi_scr_bool, Tw.isi_scr_str, Tw.isi_scr_list, Tw.isi_scr_tuple, Tw.isi_own_scr, Tw.isi_ptr_int, Tw.isi_obj_int, Tw.isi_ptr_bool, Tw.isi_obj_bool, Tw.isi_ptr_str, Tw.isi_obj_str, Tw.isi_ptr_list, Tw.isi_obj_list, Tw.isi_ptr_tuple, Tw.isi_obj_tuple, Tw.meth_append, Tw.meth_insert, Tw.meth_reverse, Tw.meth_clear, Tw.meth_pop, Tw.meth_popi, Tw.attr_obj, Tw.attr_ptr, Tw.slice_lst, Tw.slice_scr, Tw.slice_ptr, Tw.slice_tup, Tw.it_lst, Tw.it_tup, Tw.it_scr, Tw.it_ptr, Tw.it_enum_lst, Tw.it_enum_tup, Tw.it_enum_scr, Tw.it_enum_ptr, Tw.it_rev_lst, Tw.it_rev_tup, Tw.it_rev_scr, Tw.it_rev_ptr, Tw.it_zip_lst, Tw.it_zip_tup, Tw.set_name, Tw.set_tup, Tw.fld_ptr, Tw.sub_ptr, Tw.it_hlst, Tw.it_hptr, Tw.own_eq, Tw.own_mem, Tw.own_bin, Tw.own_neg, Tw.own_prop, Tw.lrng_1, Tw.lrng_2, Tw.setN_nil, Tw.setN_cons, Tw.rng1, Tw.rng2, Tw.rng3, Tw.brn_true, Tw.brn_false, Tw.brn_not, Tw.atI_lit, Tw.ixN_lit, List.set_cons_zero, List.set_cons_succ, List.getElem?_cons_zero, List.getElem?_cons_succ, List.length_cons, List.length_nil, Nat.reduceAdd, Nat.zero_add, Tw.Om.set_same, Tw.Om.set_set, List.map_nil, List.map_cons, Bool.not_true, Bool.not_false, List.isEmpty_cons, List.isEmpty_nil, true_and, and_true, Nat.reduceLT, Tw.sz_lit, Tw.sz_lt, Nat.reduceLeDiff, if_true, reduceIte, Option.some.injEq, Tw.isNon] $[$l]?)
  | `(tactic| push_cast $[$l:location]?) => `(tactic| simp only [↓Tw.e_var, ↓Tw.e_int, ↓Tw.e_str, ↓Tw.e_bl, ↓Tw.e_non, ↓Tw.e_gint, ↓Tw.e_gstr, ↓Tw.e_bin, ↓Tw.e_neg, ↓Tw.e_cmp, ↓Tw.e_chain, ↓Tw.e_and, ↓Tw.e_or, ↓Tw.e_not, ↓Tw.e_ite, ↓Tw.e_lst, ↓Tw.e_tup, ↓Tw.e_idx, ↓Tw.e_rev, ↓Tw.e_lzip, ↓Tw.e_slice, ↓Tw.e_call, ↓Tw.e_callK, ↓Tw.e_blt, ↓Tw.e_isi, ↓Tw.e_meth, ↓Tw.e_umeth, ↓Tw.e_attr, ↓Tw.e_mk, ↓Tw.e_exC, ↓Tw.e_exI, ↓Tw.e_exA, ↓Tw.e_comp, ↓Tw.e_compH, ↓Tw.e_comp2, ↓Tw.e_compR, ↓Tw.e_own2, ↓Tw.e_own1, ↓Tw.e_umethK, ↓Tw.e_mkK, ↓Tw.e_lrng, ↓Tw.t_and, ↓Tw.t_or, ↓Tw.t_not, ↓Tw.t_ite, ↓Tw.t_var, ↓Tw.t_bl, ↓Tw.t_cmp, ↓Tw.t_chain, ↓Tw.t_idx, ↓Tw.t_call, ↓Tw.t_blt, ↓Tw.t_isi, ↓Tw.t_umeth, ↓Tw.t_own2, ↓Tw.t_own1, ↓Tw.t_attr, ↓Tw.t_exC, ↓Tw.t_exI, ↓Tw.es_nil, ↓Tw.es_cons, ↓Tw.o_none, ↓Tw.o_some, ↓Tw.c_none, ↓Tw.c_some, ↓Tw.i_seq, ↓Tw.i_rng, ↓Tw.i_itf, ↓Tw.y_nil, ↓Tw.y_cons, ↓Tw.y_expr, ↓Tw.y_asg, ↓Tw.y_aug, ↓Tw.y_ret, ↓Tw.y_retN, ↓Tw.y_pass, ↓Tw.y_brk, ↓Tw.y_cont, ↓Tw.y_ite, ↓Tw.y_whl, ↓Tw.y_for, ↓Tw.y_fld, ↓Tw.y_sub, ↓Tw.y_raise, ↓Tw.y_frz, ↓Tw.y_try, ↓Tw.h_nil, ↓Tw.h_cons0, ↓Tw.h_cons1, ↓Tw.kf_nx, ↓Tw.kf_rt, ↓Tw.kf_xq, ↓Tw.tk_nx, ↓Tw.tk_ct, ↓Tw.tk_bk, ↓Tw.tk_rt, ↓Tw.tk_xq, ↓Tw.fz1, ↓Tw.fz2, ↓Tw.fz3, ↓Tw.getS_zero, ↓Tw.getS_succ, ↓Tw.onO_some, ↓Tw.cLst_some, ↓Tw.cIns_some, ↓Tw.dPtr_ptr, ↓Tw.dExn_exn, ↓Tw.onI_int, ↓Tw.onB_bl, ↓Tw.onCls_obj, ↓Tw.onCls_ptr, ↓Tw.outQ_ret, ↓Tw.outQ_exc, ↓Tw.onSeq_lst, ↓Tw.onSeq_tup, ↓Tw.onSeq_scr, ↓Tw.onSeq_ptr, ↓Tw.onLis_lst, ↓Tw.onLis_scr, ↓Tw.onLis_ptr, ↓Tw.onT_non, ↓Tw.onT_bl, ↓Tw.onT_int, ↓Tw.onT_lst, ↓Tw.onT_tup, ↓Tw.mkL_false, ↓Tw.mkL_true, ↓Tw.bin_add, ↓Tw.bin_addb, ↓Tw.bin_sub, ↓Tw.bin_mul, ↓Tw.bin_fdiv, ↓Tw.bin_mod, ↓Tw.bin_pow, ↓Tw.bin_shl, ↓Tw.bin_shr, ↓Tw.bin_band, ↓Tw.bin_addt, ↓Tw.bin_addpl, ↓Tw.bin_addlp, ↓Tw.bin_adds, ↓Tw.bin_addl, ↓Tw.bin_mull, ↓Tw.cmp_lt, ↓Tw.cmp_le, ↓Tw.cmp_gt, ↓Tw.cmp_ge, ↓Tw.cmp_eqi, ↓Tw.cmp_nei, ↓Tw.cmp_eqs, ↓Tw.cmp_nes, ↓Tw.cmp_eqb, ↓Tw.cmp_neb, ↓Tw.cmp_eqll, ↓Tw.cmp_eqtt, ↓Tw.cmp_eqlt, ↓Tw.cmp_eqtl, ↓Tw.cmp_nell, ↓Tw.cmp_nett, ↓Tw.cmp_eqpl, ↓Tw.cmp_eqlp, ↓Tw.cmp_isn, ↓Tw.cmp_isnn, ↓Tw.cmp_isb, ↓Tw.cmp_isnb, ↓Tw.cmp_meml, ↓Tw.cmp_nomeml, ↓Tw.cmp_memp, ↓Tw.cmp_nomemp, ↓Tw.idx_lst, ↓Tw.idx_tup, ↓Tw.idx_scr, ↓Tw.idx_ptr, ↓Tw.idx_str, ↓Tw.blt_lens, ↓Tw.blt_lenl, ↓Tw.blt_lent, ↓Tw.blt_lenc, ↓Tw.blt_lenp, ↓Tw.blt_abs, ↓Tw.blt_min2, ↓Tw.blt_max2, ↓Tw.blt_int, ↓Tw.blt_intb, ↓Tw.blt_list, ↓Tw.blt_tuple, ↓Tw.blt_str, ↓Tw.blt_boolb, ↓Tw.blt_booli, ↓Tw.blt_sum, ↓Tw.blt_max1, ↓Tw.blt_min1, ↓Tw.blt_all, ↓Tw.blt_any, ↓Tw.blt_sorted, ↓Tw.rev_tup, ↓Tw.rev_lst, ↓Tw.rev_scr, ↓Tw.rev_ptr, ↓Tw.lz_ll, ↓Tw.cKd_lst, ↓Tw.cKd_ins, ↓Tw.isi_own_obj, ↓Tw.isi_own_ptr, ↓Tw.isi_non_int, ↓Tw.isi_non_bool, ↓Tw.isi_non_str, ↓Tw.isi_non_list, ↓Tw.isi_non_tuple, ↓Tw.isi_own_non, ↓Tw.isi_bl_int, ↓Tw.isi_bl_bool, ↓Tw.isi_bl_str, ↓Tw.isi_bl_list, ↓Tw.isi_bl_tuple, ↓Tw.isi_own_bl, ↓Tw.isi_int_int, ↓Tw.isi_int_bool, ↓Tw.isi_int_str, ↓Tw.isi_int_list, ↓Tw.isi_int_tuple, ↓Tw.isi_own_int, ↓Tw.isi_str_int, ↓Tw.isi_str_bool, ↓Tw.isi_str_str, ↓Tw.isi_str_list, ↓Tw.isi_str_tuple, ↓Tw.isi_own_str, ↓Tw.isi_lst_int, ↓Tw.isi_lst_bool, ↓Tw.isi_lst_str, ↓Tw.isi_lst_list, ↓Tw.isi_lst_tuple, ↓Tw.isi_own_lst, ↓Tw.isi_tup_int, ↓Tw.isi_tup_bool, ↓Tw.isi_tup_str, ↓Tw.isi_tup_list, ↓Tw.isi_tup_tuple, ↓Tw.isi_own_tup, ↓Tw.isi_scr_int, ↓Tw.isi_scr_bool, ↓Tw.isi_scr_str, ↓Tw.isi_scr_list, ↓Tw.isi_scr_tuple, ↓Tw.isi_own_scr, ↓Tw.isi_ptr_int, ↓Tw.isi_obj_int, ↓Tw.isi_ptr_bool, ↓Tw.isi_obj_bool, ↓Tw.isi_ptr_str, ↓Tw.isi_obj_str, ↓Tw.isi_ptr_list, ↓Tw.isi_obj_list, ↓Tw.isi_ptr_tuple, ↓Tw.isi_obj_tuple, ↓Tw.meth_append, ↓Tw.meth_insert, ↓Tw.meth_reverse, ↓Tw.meth_clear, ↓Tw.meth_pop, ↓Tw.meth_popi, ↓Tw.attr_obj, ↓Tw.attr_ptr, ↓Tw.slice_lst, ↓Tw.slice_scr, ↓Tw.slice_ptr, ↓Tw.slice_tup, ↓Tw.it_lst, ↓Tw.it_tup, ↓Tw.it_scr, ↓Tw.it_ptr, ↓Tw.it_enum_lst, ↓Tw.it_enum_tup, ↓Tw.it_enum_scr, ↓Tw.it_enum_ptr, ↓Tw.it_rev_lst, ↓Tw.it_rev_tup, ↓Tw.it_rev_scr, ↓Tw.it_rev_ptr, ↓Tw.it_zip_lst, ↓Tw.it_zip_tup, ↓Tw.set_name, ↓Tw.set_tup, ↓Tw.fld_ptr, ↓Tw.sub_ptr, ↓Tw.it_hlst, ↓Tw.it_hptr, ↓Tw.own_eq, ↓Tw.own_mem, ↓Tw.own_bin, ↓Tw.own_neg, ↓Tw.own_prop, ↓Tw.lrng_1, ↓Tw.lrng_2, ↓Tw.setN_nil, ↓Tw.setN_cons, ↓Tw.rng1, ↓Tw.rng2, ↓Tw.rng3, ↓Tw.brn_true, ↓Tw.brn_false, ↓Tw.brn_not, ↓Tw.atI_lit, ↓Tw.ixN_lit, Tw.fz1, Tw.fz2, Tw.fz3, Tw.getS_zero, Tw.getS_succ, Tw.onO_some, Tw.cLst_some, Tw.cIns_some, Tw.dPtr_ptr, Tw.dExn_exn, Tw.onI_int, Tw.onB_bl, Tw.onCls_obj, Tw.onCls_ptr, Tw.outQ_ret, Tw.outQ_exc, Tw.onSeq_lst, Tw.onSeq_tup, Tw.onSeq_scr, Tw.onSeq_ptr, Tw.onLis_lst, Tw.onLis_scr, Tw.onLis_ptr, Tw.onT_non, Tw.onT_bl, Tw.onT_int, Tw.onT_lst, Tw.onT_tup, Tw.mkL_false, Tw.mkL_true, Tw.bin_add, Tw.bin_addb, Tw.bin_sub, Tw.bin_mul, Tw.bin_fdiv, Tw.bin_mod, Tw.bin_pow, Tw.bin_shl, Tw.bin_shr, Tw.bin_band, Tw.bin_addt, Tw.bin_addpl, Tw.bin_addlp, Tw.bin_adds, Tw.bin_addl, Tw.bin_mull, Tw.cmp_lt, Tw.cmp_le, Tw.cmp_gt, Tw.cmp_ge, Tw.cmp_eqi, Tw.cmp_nei, Tw.cmp_eqs, Tw.cmp_nes, Tw.cmp_eqb, Tw.cmp_neb, Tw.cmp_eqll, Tw.cmp_eqtt, Tw.cmp_eqlt, Tw.cmp_eqtl, Tw.cmp_nell, Tw.cmp_nett, Tw.cmp_eqpl, Tw.cmp_eqlp, Tw.cmp_isn, Tw.cmp_isnn, Tw.cmp_isb, Tw.cmp_isnb, Tw.cmp_meml, Tw.cmp_nomeml, Tw.cmp_memp, Tw.cmp_nomemp, Tw.idx_lst, Tw.idx_tup, Tw.idx_scr, Tw.idx_ptr, Tw.idx_str, Tw.blt_lens, Tw.blt_lenl, Tw.blt_lent, Tw.blt_lenc, Tw.blt_lenp, Tw.blt_abs, Tw.blt_min2, Tw.blt_max2, Tw.blt_int, Tw.blt_intb, Tw.blt_list, Tw.blt_tuple, Tw.blt_str, Tw.blt_boolb, Tw.blt_booli, Tw.blt_sum, Tw.blt_max1, Tw.blt_min1, Tw.blt_all, Tw.blt_any, Tw.blt_sorted, Tw.rev_tup, Tw.rev_lst, Tw.rev_scr, Tw.rev_ptr, Tw.lz_ll, Tw.cKd_lst, Tw.cKd_ins, Tw.isi_own_obj, Tw.isi_own_ptr, Tw.isi_non_int, Tw.isi_non_bool, Tw.isi_non_str, Tw.isi_non_list, Tw.isi_non_tuple, Tw.isi_own_non, Tw.isi_bl_int, Tw.isi_bl_bool, Tw.isi_bl_str, Tw.isi_bl_list, Tw.isi_bl_tuple, Tw.isi_own_bl, Tw.isi_int_int, Tw.isi_int_bool, Tw.isi_int_str, Tw.isi_int_list, Tw.isi_int_tuple, Tw.isi_own_int, Tw.isi_str_int, Tw.isi_str_bool, Tw.isi_str_str, Tw.isi_str_list, Tw.isi_str_tuple, Tw.isi_own_str, Tw.isi_lst_int, Tw.isi_lst_bool, Tw.isi_lst_str, Tw.isi_lst_list, Tw.isi_lst_tuple, Tw.isi_own_lst, Tw.isi_tup_int, Tw.isi_tup_bool, Tw.isi_tup_str, Tw.isi_tup_list, Tw.isi_tup_tuple, Tw.isi_own_tup, Tw.isi_scr_int, Tw.isi_scr_bool, Tw.isi_scr_str, Tw.isi_scr_list, Tw.isi_scr_tuple, Tw.isi_own_scr, Tw.isi_ptr_int, Tw.isi_obj_int, Tw.isi_ptr_bool, Tw.isi_obj_bool, Tw.isi_ptr_str, Tw.isi_obj_str, Tw.isi_ptr_list, Tw.isi_obj_list, Tw.isi_ptr_tuple, Tw.isi_obj_tuple, Tw.meth_append, Tw.meth_insert, Tw.meth_reverse, Tw.meth_clear, Tw.meth_pop, Tw.meth_popi, Tw.attr_obj, Tw.attr_ptr, Tw.slice_lst, Tw.slice_scr, Tw.slice_ptr, Tw.slice_tup, Tw.it_lst, Tw.it_tup, Tw.it_scr, Tw.it_ptr, Tw.it_enum_lst, Tw.it_enum_tup, Tw.it_enum_scr, Tw.it_enum_ptr, Tw.it_rev_lst, Tw.it_rev_tup, Tw.it_rev_scr, Tw.it_rev_ptr, Tw.it_zip_lst, Tw.it_zip_tup, Tw.set_name, Tw.set_tup, Tw.fld_ptr, Tw.sub_ptr, Tw.it_hlst, Tw.it_hptr, Tw.own_eq, Tw.own_mem, Tw.own_bin, Tw.own_neg, Tw.own_prop, Tw.lrng_1, Tw.lrng_2, Tw.setN_nil, Tw.setN_cons, Tw.rng1, Tw.rng2, Tw.rng3, Tw.brn_true, Tw.brn_false, Tw.brn_not, Tw.atI_lit, Tw.ixN_lit, List.set_cons_zero, List.set_cons_succ, List.getElem?_cons_zero, List.getElem?_cons_succ, List.length_cons, List.length_nil, Nat.reduceAdd, Nat.zero_add, Tw.Om.set_same, Tw.Om.set_set, List.map_nil, List.map_cons, Bool.not_true, Bool.not_false, List.isEmpty_cons, List.isEmpty_nil, true_and, and_true, Nat.reduceLT, Tw.sz_lit, Tw.sz_lt, Nat.reduceLeDiff, if_true, reduceIte, Option.some.injEq, Tw.isNon] $[$l]?)
set_option maxHeartbeats 4000000
namespace Tw
open PySem PySem.Spec L2
open PyProof.Rows (b2i)
theorem mulR {i j : Int} (h1 : -1000000000000 ≤ j) (h2 : j ≤ 1000000000000) : MulOk i j := .inr (.inl ⟨by omega, by omega⟩)
theorem mulL {i j : Int} (h1 : -1000000000000 ≤ i) (h2 : i ≤ 1000000000000) : MulOk i j := .inl ⟨by omega, by omega⟩
def LogOk (m : Int) : Prop := m.natAbs.log2 < 9000
theorem logOk_le {m : Int} (h1 : -18446744073709551616 ≤ m) (h2 : m ≤ 18446744073709551616) : LogOk m := by
  unfold LogOk
  rcases Nat.eq_zero_or_pos m.natAbs with h | h
  · rw [h]; decide
  · have : m.natAbs.log2 < 65 := (Nat.log2_lt (by omega)).mpr (by omega)
    omega
theorem divOk {j : Int} (h : 0 < j) (h2 : LogOk j) : DivOk j := ⟨h, h2⟩
theorem divOk_le {j : Int} (h : 0 < j) (h2 : j ≤ 18446744073709551616) : DivOk j := ⟨h, logOk_le (by omega) h2⟩
theorem fit_lit {i j : Int} (h : (decide (0 ≤ j) && decide ((Builtin.Int.intBits i : Int) * j ≤ 134217728)) = true) : FitP i j := by
  rw [Bool.and_eq_true, decide_eq_true_eq, decide_eq_true_eq] at h
  exact h
def storeM (ns : List Int) (pos rest turns seed : Int) : MO := .lst [.lst (ns.map .int), .int pos, .int rest, .int turns, .int seed]
def StoreM (m : MO) : Prop := ∃ ns pos rest turns seed, m = storeM ns pos rest turns seed ∧ 0 ≤ pos ∧ 0 ≤ rest ∧ ns.length ≤ 63
def StOk (W : Om) (a : Addr) : Prop := ∃ m, W a = some m ∧ StoreM m
theorem StOk.set {W : Om} {a : Addr} {m : MO} (h : StoreM m) : StOk (W.set a m) a := ⟨m, Om.set_same, h⟩
theorem StOk.off {W : Om} {a p : Addr} {m : MO} (h : StOk W a) (ne : p ≠ a) : StOk (W.set p m) a := by
  obtain ⟨m', e, h⟩ := h
  exact ⟨m', by rw [Om.set_ne (Ne.symm ne)]; exact e, h⟩
theorem StOk.ne {W : Om} {a p : Addr} (h : StOk W a) (hp : W p = none) : p ≠ a := by
  rintro rfl
  obtain ⟨m, e, _⟩ := h
  rw [hp] at e; cases e
theorem Sub.drop {W : Om} {p : Addr} {m : MO} (hp : W p = none) : Sub W (W.set p m) := fun b x h => by
  by_cases e : b = p
  · subst e; rw [hp] at h; cases h
  · rw [Om.set_ne e]; exact h
section
variable {G : Gs} {k : Nat} {P : Pm} {W : Om} {R : Out → Om → Prop} {Q : PQ} {X : PX}
def MixSp (ds : List D) (W : Om) (R : Out → Om → Prop) : Prop := match ds with
  | [.int _, .int _] => ∀ r : Int, 0 ≤ r → R (.ret (.int r)) W
  | _ => False
def B_mix : List S := [.asg (.name 2) (.bin .mod false (.blt .int false [(.bin .add false (.bin .add false (.bin .mul false (.var 0) (.int 48271)) (.bin .mul false (.var 1) (.int 69621))) (.int 12820163))]) (.int 2147483647)), .asg (.name 3) (.bin .mod false (.blt .int false [(.bin .add false (.bin .add false (.bin .mul false (.var 2) (.var 2)) (.bin .mul false (.var 1) (.int 16807))) (.int 40692))]) (.int 2147483629)), .asg (.name 4) (.bin .mod false (.blt .int false [(.bin .add false (.bin .mul false (.var 3) (.bin .add false (.bin .fdiv false (.var 3) (.int 65536)) (.int 40014))) (.var 2))]) (.int 1999999973)), .ret (.bin .fdiv false (.var 4) (.int 128))]
theorem wp_mix {ds : List D} (h : MixSp ds W R) : wpSs G k P B_mix (Kf R) (startG 5 ds) W := by
  unfold MixSp at h
  split at h
  · next n t =>
    show wpSs G k P B_mix (Kf R) [some (.int n), some (.int t), none, none, none] W
    unfold B_mix
    push_cast
    have a1 : ∀ x : Int, 0 ≤ x % 2147483647 ∧ x % 2147483647 < 2147483647 := fun x => ⟨Int.emod_nonneg _ (by omega), Int.emod_lt_of_pos _ (by omega)⟩
    have a2 : ∀ x : Int, 0 ≤ x % 2147483629 ∧ x % 2147483629 < 2147483629 := fun x => ⟨Int.emod_nonneg _ (by omega), Int.emod_lt_of_pos _ (by omega)⟩
    have a3 : ∀ x : Int, 0 ≤ x % 1999999973 ∧ x % 1999999973 < 1999999973 := fun x => ⟨Int.emod_nonneg _ (by omega), Int.emod_lt_of_pos _ (by omega)⟩
    refine ⟨mulR (by omega) (by omega), mulR (by omega) (by omega), by omega, ?_⟩
    generalize he : (n * 48271 + t * 69621 + 12820163) % 2147483647 = x
    have h1 := a1 (n * 48271 + t * 69621 + 12820163)
    rw [he] at h1
    clear he
    refine ⟨mulR (by omega) (by omega), mulR (by omega) (by omega), by omega, ?_⟩
    generalize he : (x * x + t * 16807 + 40692) % 2147483629 = y
    have h2 := a2 (x * x + t * 16807 + 40692)
    rw [he] at h2
    clear he
    refine ⟨divOk_le (by omega) (by omega), mulL (by omega) (by omega), by omega, divOk_le (by omega) (by omega), _, Sub.refl, h _ ?_⟩
    have h3 := a3 (y * (y / 65536 + 40014) + x)
    omega
  · exact h.elim
def TakeSp (ds : List D) (W : Om) (R : Out → Om → Prop) : Prop := match ds with
  | [.ptr a, .int m] => LogOk m ∧ StOk W a ∧ ∀ r m', 0 ≤ r → r < max 1 m → StoreM m' → R (.ret (.int r)) (W.set a m')
  | _ => False
def B_take (c_law_mix : Nat) : List S := [.asg (.name 1) (.blt .max2 false [(.int 1), (.var 1)]), .sub (.var 0) (.int 3) (.bin .add false (.blt .int false [(.idx (.var 0) (.int 3))]) (.int 1)), .ite (.and (.cmp .eq (.idx (.var 0) (.int 2)) (.int 0)) (.cmp .lt (.idx (.var 0) (.int 1)) (.blt .len false [(.idx (.var 0) (.int 0))]))) [.asg (.name 2) (.blt .int false [(.idx (.idx (.var 0) (.int 0)) (.idx (.var 0) (.int 1)))]), .sub (.var 0) (.int 1) (.bin .add false (.idx (.var 0) (.int 1)) (.int 1)), .ite (.cmp .lt (.blt .abs false [(.var 2)]) (.bin .pow false (.int 10) (.int 18))) [.ret (.bin .mod false (.blt .int false [(.call c_law_mix [(.var 2), (.idx (.var 0) (.int 3))])]) (.var 1))] [], .sub (.var 0) (.int 2) (.bin .mod false (.blt .abs false [(.var 2)]) (.bin .pow false (.bin .pow false (.int 10) (.int 60)) (.int 20)))] [], .ite (.cmp .gt (.idx (.var 0) (.int 2)) (.int 0)) [.asg (.name 3) (.blt .int false [(.idx (.var 0) (.int 2))]), .sub (.var 0) (.int 2) (.bin .fdiv false (.var 3) (.var 1)), .ret (.bin .mod false (.var 3) (.var 1))] [], .ret (.bin .mod false (.blt .int false [(.call c_law_mix [(.idx (.var 0) (.int 4)), (.idx (.var 0) (.int 3))])]) (.var 1))]
theorem wp_take {x : Nat} (hM : ∀ ds W R, MixSp ds W R → G x k ds W R) {ds : List D} (h : TakeSp ds W R) : wpSs G k P (B_take x) (Kf R) (startG 4 ds) W := by
  unfold TakeSp at h
  split at h
  · next a m =>
    obtain ⟨hl, ⟨st, hs, ns, pos, rest, turns, seed, rfl, h1, h2, h3⟩, h⟩ := h
    show wpSs G k P (B_take x) (Kf R) [some (.ptr a), some (.int m), none, none] W
    unfold B_take
    unfold storeM at hs
    push_cast [hs]
    generalize hM2 : max 1 m = M
    rw [hM2] at h
    have hM3 : 0 < M := by omega
    have hlM : LogOk M := by
      rcases (by omega : M = m ∨ M = 1) with z | z
      · rw [z]; exact hl
      · rw [z]; exact logOk_le (by omega) (by omega)
    have md : ∀ z : Int, 0 ≤ z % M ∧ z % M < M := fun z => ⟨Int.emod_nonneg _ (by omega), Int.emod_lt_of_pos _ hM3⟩
    have sM : ∀ pos rest turns : Int, 0 ≤ pos → 0 ≤ rest → StoreM (storeM ns pos rest turns seed) := fun p r t h1 h2 => ⟨ns, p, r, t, seed, rfl, h1, h2, h3⟩
    have tail : ∀ (g2 : Option D) (p r t : Int), 0 ≤ p → 0 ≤ r → wpSs G k P [.ite (.cmp .gt (.idx (.var 0) (.int 2)) (.int 0)) [.asg (.name 3) (.blt .int false [(.idx (.var 0) (.int 2))]), .sub (.var 0) (.int 2) (.bin .fdiv false (.var 3) (.var 1)), .ret (.bin .mod false (.var 3) (.var 1))] [], .ret (.bin .mod false (.blt .int false [(.call x [(.idx (.var 0) (.int 4)), (.idx (.var 0) (.int 3))])]) (.var 1))] (Kf R) [some (.ptr a), some (.int M), g2, none] (W.set a (storeM ns p r t seed)) := fun g2 p r t hp hr => by
      unfold storeM
      push_cast
      refine brn_ofP (fun e => ?_) (fun e => ?_)
      · push_cast
        refine ⟨divOk hM3 hlM, hM3, _, Sub.refl, h _ _ (md _).1 (md _).2 (sM _ _ _ hp (Int.ediv_nonneg hr (by omega)))⟩
      · push_cast
        refine call_of (hM _ _ _ fun r' h0 => ?_)
        push_cast
        exact ⟨hM3, _, Sub.refl, h _ _ (md _).1 (md _).2 (sM _ _ _ hp hr)⟩
    refine brn_ofP (fun e => ?_) (fun e => ?_)
    · push_cast [List.length_map]
      refine brn_ofP (fun e2 => ?_) (fun e2 => ?_)
      · obtain ⟨c, hc⟩ : ∃ c, atI (ns.map D.int) pos = some (.int c) := by
          obtain ⟨x, hx, hm⟩ := atI_mem (xs := ns.map D.int) h1 (by rw [List.length_map]; exact e2)
          obtain ⟨c, _, rfl⟩ := List.mem_map.mp hm
          exact ⟨c, hx⟩
        push_cast [hc]
        generalize (10 : Int) ^ Int.toNat 18 = T18
        refine ⟨fit_lit (by decide +kernel), brn_ofP (fun e3 => ?_) (fun e3 => ?_)⟩
        · push_cast
          refine call_of (hM _ _ _ fun r' h0 => ?_)
          push_cast
          exact ⟨hM3, _, Sub.refl, h _ _ (md _).1 (md _).2 (sM _ _ _ (by omega) h2)⟩
        · push_cast
          refine ⟨fit_lit (by decide +kernel), fit_lit (by decide +kernel), Int.pow_pos (Int.pow_pos (by decide)), ?_⟩
          have hT : (0 : Int) < (10 ^ Int.toNat 60) ^ Int.toNat 20 := Int.pow_pos (Int.pow_pos (by decide))
          revert hT
          generalize ((10 : Int) ^ Int.toNat 60) ^ Int.toNat 20 = T60
          intro hT
          have z := tail (some (.int c)) (pos + 1) (c.natAbs % T60) (turns + 1) (by omega) (Int.emod_nonneg _ (by omega))
          (repeat rw [Om.set_set])
          unfold storeM at z
          push_cast at z
          exact z
      · push_cast
        have z := tail none pos rest (turns + 1) h1 h2
        unfold storeM at z
        push_cast at z
        exact z
    · push_cast
      have z := tail none pos rest (turns + 1) h1 h2
      unfold storeM at z
      push_cast at z
      exact z
  · exact h.elim
end
end Tw
set_option maxHeartbeats 4000000
namespace Tw
open PySem PySem.Spec L2
open PyProof.Rows (b2i)
section
variable {G : Gs} {k : Nat} {P : Pm} {W : Om} {R : Out → Om → Prop} {Q : PQ} {X : PX}
/-- what G says of the def x, at the room k -/
abbrev Has (G : Gs) (k x : Nat) (Sp : List D → Om → (Out → Om → Prop) → Prop) : Prop := ∀ ds W R, Sp ds W R → G x k ds W R
theorem call_take {t : Nat} {a : Addr} {m : Int} (hT : Has G k t TakeSp) (hl : LogOk m) (st : StOk W a) (h : ∀ r m', 0 ≤ r → r < max 1 m → StoreM m' → Q (.int r) (W.set a m')) : callW G k t [.ptr a, .int m] W Q X :=
  call_of (hT _ _ _ ⟨hl, st, h⟩)
def StoreSp (ds : List D) (W : Om) (R : Out → Om → Prop) : Prop := match ds with
  | [.scr ns] => ns.length ≤ 63 ∧ ∀ p m, W p = none → StoreM m → R (.ret (.ptr p)) (W.set p m)
  | _ => False
def B_store : List S := [.asg (.name 1) (.int 1), .for (.name 2) (.seq (.var 0)) [.asg (.name 1) (.bin .mod false (.blt .int false [(.bin .add false (.bin .add false (.bin .mul false (.var 1) (.int 31)) (.bin .mod false (.blt .int false [(.var 2)]) (.int 1000000007))) (.int 17))]) (.int 998244353))], .ret (.lst true [(.blt .list false [(.var 0)]), (.int 0), (.int 0), (.int 0), (.var 1)])]
theorem wp_store {ds : List D} (h : StoreSp ds W R) : wpSs G k P B_store (Kf R) (startG 3 ds) W := by
  unfold StoreSp at h
  split at h
  · next ns =>
    show wpSs G k P B_store (Kf R) [some (.scr ns), none, none] W
    unfold B_store
    push_cast
    refine for_list (fun _ g W' => W' = W ∧ ∃ s x, g = [some (.scr ns), some (.int s), x]) ⟨rfl, 1, _, rfl⟩ ?_ ?_
    · rintro j d hd g W' ⟨rfl, s, x, rfl⟩
      rw [List.getElem?_map] at hd
      obtain ⟨c, hc, rfl⟩ := Option.map_eq_some_iff.mp hd
      push_cast
      exact ⟨mulR (by omega) (by omega), by omega, by omega, _, _, rfl⟩
    · rintro g W' ⟨rfl, s, x, rfl⟩
      push_cast
      refine fun p hp => ?_
      push_cast
      exact ⟨_, Sub.refl, h.2 _ _ hp ⟨ns, 0, 0, 0, s, rfl, by omega, by omega, h.1⟩⟩
  · exact h.elim
def EdgeSp (ds : List D) (W : Om) (R : Out → Om → Prop) : Prop := match ds with
  | [.ptr a, .int lo, .int hi] => LogOk (max 0 (hi - lo) + 1) ∧ StOk W a ∧ ∀ r m', lo ≤ r → r ≤ max lo hi → StoreM m' → R (.ret (.int r)) (W.set a m')
  | _ => False
def B_edge (c_law_take : Nat) : List S := [.asg (.name 3) (.bin .add false (.blt .max2 false [(.int 0), (.bin .sub false (.var 2) (.var 1))]) (.int 1)), .asg (.name 4) (.call c_law_take [(.var 0), (.int 9)]), .ite (.cmp .eq (.var 4) (.int 0)) [.ret (.var 1)] [], .ite (.cmp .eq (.var 4) (.int 1)) [.ret (.bin .sub false (.bin .add false (.var 1) (.var 3)) (.int 1))] [], .ite (.cmp .eq (.var 4) (.int 2)) [.ret (.bin .add false (.var 1) (.blt .min2 false [(.bin .sub false (.var 3) (.int 1)), (.int 1)]))] [], .ret (.bin .add false (.var 1) (.call c_law_take [(.var 0), (.var 3)]))]
theorem wp_edge {t : Nat} (hT : Has G k t TakeSp) {ds : List D} (h : EdgeSp ds W R) : wpSs G k P (B_edge t) (Kf R) (startG 5 ds) W := by
  unfold EdgeSp at h
  split at h
  · next a lo hi =>
    obtain ⟨hl, st, h⟩ := h
    show wpSs G k P (B_edge t) (Kf R) [some (.ptr a), some (.int lo), some (.int hi), none, none] W
    unfold B_edge
    push_cast
    refine call_take hT (logOk_le (by omega) (by omega)) st fun r m1 h0 h1 hs => ?_
    push_cast
    refine brn_ofP (fun e => ?_) (fun e => ?_)
    · push_cast
      exact ⟨_, Sub.refl, h _ _ (by omega) (by omega) hs⟩
    push_cast
    refine brn_ofP (fun e => ?_) (fun e => ?_)
    · push_cast
      exact ⟨_, Sub.refl, h _ _ (by omega) (by omega) hs⟩
    push_cast
    refine brn_ofP (fun e => ?_) (fun e => ?_)
    · push_cast
      exact ⟨_, Sub.refl, h _ _ (by omega) (by omega) hs⟩
    push_cast
    refine call_take hT hl (.set hs) fun r m2 h0 h1 hs => ?_
    push_cast
    exact ⟨_, Sub.refl, h _ _ (by omega) (by omega) hs⟩
  · exact h.elim
theorem call_edge {t : Nat} {a : Addr} {lo hi : Int} (hT : Has G k t EdgeSp) (hl : LogOk (max 0 (hi - lo) + 1)) (st : StOk W a) (h : ∀ r m', lo ≤ r → r ≤ max lo hi → StoreM m' → Q (.int r) (W.set a m')) : callW G k t [.ptr a, .int lo, .int hi] W Q X :=
  call_of (hT _ _ _ ⟨hl, st, h⟩)
def PickSp (ds : List D) (W : Om) (R : Out → Om → Prop) : Prop := match ds with
  | [.ptr a, .lst xs] => (0 < xs.length ∧ xs.length ≤ 16777216) ∧ StOk W a ∧ ∀ d m', d ∈ xs → StoreM m' → R (.ret d) (W.set a m')
  | [.ptr a, .tup xs] => (0 < xs.length ∧ xs.length ≤ 16777216) ∧ StOk W a ∧ ∀ d m', d ∈ xs → StoreM m' → R (.ret d) (W.set a m')
  | _ => False
def B_pick (c_law_take : Nat) : List S := [.ite (.cmp .eq (.blt .len false [(.var 1)]) (.int 0)) [.ret .non] [], .ret (.idx (.var 1) (.call c_law_take [(.var 0), (.blt .len false [(.var 1)])]))]
theorem wp_pick {t : Nat} (hT : Has G k t TakeSp) {ds : List D} (h : PickSp ds W R) : wpSs G k P (B_pick t) (Kf R) (startG 2 ds) W := by
  unfold PickSp at h
  split at h
  · next a xs =>
    obtain ⟨hl, st, h⟩ := h
    show wpSs G k P (B_pick t) (Kf R) [some (.ptr a), some (.lst xs)] W
    unfold B_pick
    push_cast
    refine brn_fP (by omega) ?_
    push_cast
    refine call_take hT (logOk_le (by omega) (by omega)) st fun r m1 h0 h1 hs => ?_
    obtain ⟨d, hd, hm⟩ := atI_mem (xs := xs) h0 (by omega)
    push_cast [hd]
    exact ⟨_, Sub.refl, h _ _ hm hs⟩
  · next a xs =>
    obtain ⟨hl, st, h⟩ := h
    show wpSs G k P (B_pick t) (Kf R) [some (.ptr a), some (.tup xs)] W
    unfold B_pick
    push_cast
    refine brn_fP (by omega) ?_
    push_cast
    refine call_take hT (logOk_le (by omega) (by omega)) st fun r m1 h0 h1 hs => ?_
    obtain ⟨d, hd, hm⟩ := atI_mem (xs := xs) h0 (by omega)
    push_cast [hd]
    exact ⟨_, Sub.refl, h _ _ hm hs⟩
  · exact h.elim
theorem call_pick {t : Nat} {a : Addr} {xs : List D} (hT : Has G k t PickSp) (h1 : 0 < xs.length) (h2 : xs.length ≤ 16777216) (st : StOk W a) (h : ∀ d m', d ∈ xs → StoreM m' → Q d (W.set a m')) : callW G k t [.ptr a, .lst xs] W Q X :=
  call_of (hT _ _ _ ⟨⟨h1, h2⟩, st, h⟩)
def otherL : List D := [.bl true, .bl false, .non, .str "", .str "0", .str "1", .str "a", .tup [], .tup [.int 0]]
def OtherSp (ds : List D) (W : Om) (R : Out → Om → Prop) : Prop := match ds with
  | [.ptr a] => StOk W a ∧ ∀ d m', d ∈ otherL → StoreM m' → R (.ret d) (W.set a m')
  | _ => False
def B_other_kind (c_law_pick : Nat) : List S := [.ret (.call c_law_pick [(.var 0), (.lst false [(.bl true), (.bl false), .non, (.str ""), (.str "0"), (.str "1"), (.str "a"), (.tup []), (.tup [(.int 0)])])])]
theorem wp_other_kind {t : Nat} (hT : Has G k t PickSp) {ds : List D} (h : OtherSp ds W R) : wpSs G k P (B_other_kind t) (Kf R) (startG 1 ds) W := by
  unfold OtherSp at h
  split at h
  · next a =>
    obtain ⟨st, h⟩ := h
    show wpSs G k P (B_other_kind t) (Kf R) [some (.ptr a)] W
    unfold B_other_kind
    push_cast
    refine call_pick (xs := otherL) hT (by decide) (by decide) st fun d m1 hd hs => ?_
    push_cast
    exact ⟨_, Sub.refl, h _ _ hd hs⟩
  · exact h.elim
theorem call_other {t : Nat} {a : Addr} (hT : Has G k t OtherSp) (st : StOk W a) (h : ∀ d m', d ∈ otherL → StoreM m' → Q d (W.set a m')) : callW G k t [.ptr a] W Q X :=
  call_of (hT _ _ _ ⟨st, h⟩)
def ChanceSp (ds : List D) (W : Om) (R : Out → Om → Prop) : Prop := match ds with
  | [.ptr a, .int p] => LogOk p ∧ StOk W a ∧ ∀ (b : Bool) m', StoreM m' → R (.ret (.bl b)) (W.set a m')
  | _ => False
def B_chance (c_law_take : Nat) : List S := [.ret (.cmp .eq (.call c_law_take [(.var 0), (.var 1)]) (.bin .sub false (.blt .max2 false [(.int 1), (.var 1)]) (.int 1)))]
theorem wp_chance {t : Nat} (hT : Has G k t TakeSp) {ds : List D} (h : ChanceSp ds W R) : wpSs G k P (B_chance t) (Kf R) (startG 2 ds) W := by
  unfold ChanceSp at h
  split at h
  · next a p =>
    obtain ⟨hp, st, h⟩ := h
    show wpSs G k P (B_chance t) (Kf R) [some (.ptr a), some (.int p)] W
    unfold B_chance
    push_cast
    refine call_take hT hp st fun r m1 h0 h1 hs => ?_
    push_cast
    exact ⟨_, Sub.refl, h _ _ hs⟩
  · exact h.elim
theorem call_chance {t : Nat} {a : Addr} {p : Int} (hT : Has G k t ChanceSp) (h1 : LogOk p) (st : StOk W a) (h : ∀ (b : Bool) m', StoreM m' → Q (.bl b) (W.set a m')) : callW G k t [.ptr a, .int p] W Q X :=
  call_of (hT _ _ _ ⟨h1, st, h⟩)
end
end Tw
set_option maxHeartbeats 4000000
namespace Tw
open PySem PySem.Spec L2
open PyProof.Rows (b2i)
/-- a plain value of a depth -/
def pln : Nat → D → Prop
  | 0, d => flatD d = true
  | n + 1, d => flatD d = true ∨ ∃ ds, (d = .lst ds ∨ d = .tup ds) ∧ ds.length ≤ 16777216 ∧ ∀ x ∈ ds, pln n x
theorem pln_flat {d : D} (h : flatD d = true) : ∀ {n : Nat}, pln n d
  | 0 => h
  | _ + 1 => .inl h
theorem pln_lst {n : Nat} {ds : List D} (l : ds.length ≤ 16777216) (h : ∀ x ∈ ds, pln n x) : pln (n + 1) (.lst ds) := .inr ⟨ds, .inl rfl, l, h⟩
theorem pln_tup {n : Nat} {ds : List D} (l : ds.length ≤ 16777216) (h : ∀ x ∈ ds, pln n x) : pln (n + 1) (.tup ds) := .inr ⟨ds, .inr rfl, l, h⟩
/-- what a value is: a tree, or a list cell's content -/
def Res (W : Om) (x t : D) : Prop := x = t ∨ ∃ p ds, x = .ptr p ∧ W p = some (.lst ds) ∧ t = .lst ds
/-- .. at every depth -/
def RsL (R : D → D → Prop) (xs ts : List D) : Prop := xs.length = ts.length ∧ ∀ (i : Nat) x t, xs[i]? = some x → ts[i]? = some t → R x t
def Rs (W : Om) : Nat → D → D → Prop
  | 0, x, t => x = t ∧ flatD t = true
  | n + 1, x, t => (x = t ∧ flatD t = true) ∨ ∃ xs ts, ((x = .lst xs ∧ t = .lst ts) ∨ (x = .tup xs ∧ t = .tup ts) ∨ ∃ p, x = .ptr p ∧ t = .lst ts ∧ W p = some (.lst xs)) ∧ xs.length ≤ 16777216 ∧ RsL (Rs W n) xs ts
theorem Rs.flat {W : Om} {x : D} (h : flatD x = true) : ∀ {n : Nat}, Rs W n x x
  | 0 => ⟨rfl, h⟩
  | _ + 1 => .inl ⟨rfl, h⟩
theorem Rs.self {W : Om} : ∀ {n : Nat} {x : D}, pln n x → Rs W n x x
  | 0, x, h => ⟨rfl, h⟩
  | n + 1, x, h => by
    rcases h with h | ⟨ds, e, l, q⟩
    · exact .inl ⟨rfl, h⟩
    · refine .inr ⟨ds, ds, ?_, l, rfl, fun i x t h1 h2 => ?_⟩
      · rcases e with rfl | rfl
        · exact .inl ⟨rfl, rfl⟩
        · exact .inr (.inl ⟨rfl, rfl⟩)
      · rw [h1] at h2; cases h2
        exact Rs.self (q x (List.mem_of_getElem? h1))
theorem Rs.of {W : Om} {n : Nat} {x t : D} (p : pln n t) (r : Res W x t) : Rs W n x t := by
  rcases r with rfl | ⟨q, ds, rfl, e, rfl⟩
  · exact .self p
  · cases n with
    | zero => cases p
    | succ n =>
      rcases p with p | ⟨es, e2, l, h⟩
      · cases p
      · rcases e2 with e2 | e2
        · cases e2
          refine .inr ⟨ds, ds, .inr (.inr ⟨q, rfl, rfl, e⟩), l, rfl, fun i x t h1 h2 => ?_⟩
          rw [h1] at h2; cases h2
          exact Rs.self (h x (List.mem_of_getElem? h1))
        · cases e2
theorem Rs.up {W : Om} : ∀ {n : Nat} {x t : D}, Rs W n x t → Rs W (n + 1) x t
  | 0, _, _, h => .inl h
  | n + 1, _, _, .inl h => .inl h
  | n + 1, _, _, .inr ⟨xs, ts, e, l, l2, h⟩ => .inr ⟨xs, ts, e, l, l2, fun i x t h1 h2 => Rs.up (h i x t h1 h2)⟩
theorem Rs.le {W : Om} {n m : Nat} {x t : D} (h : Rs W n x t) (l : n ≤ m) : Rs W m x t := by
  induction l with
  | refl => exact h
  | step _ ih => exact ih.up
theorem RsL.nil {R : D → D → Prop} : RsL R [] [] := ⟨rfl, fun i x t h => by simp at h⟩
theorem RsL.cons {R : D → D → Prop} {x t : D} {xs ts : List D} (h : R x t) (hs : RsL R xs ts) : RsL R (x :: xs) (t :: ts) := by
  refine ⟨by rw [List.length_cons, List.length_cons, hs.1], fun i y u h1 h2 => ?_⟩
  cases i with
  | zero => simp at h1 h2; subst h1 h2; exact h
  | succ i => exact hs.2 i y u (by simpa using h1) (by simpa using h2)
theorem Rs.lst {W : Om} {n : Nat} {xs ts : List D} (l : xs.length ≤ 16777216) (h : RsL (Rs W n) xs ts) : Rs W (n + 1) (.lst xs) (.lst ts) := .inr ⟨xs, ts, .inl ⟨rfl, rfl⟩, l, h⟩
theorem Rs.tup {W : Om} {n : Nat} {xs ts : List D} (l : xs.length ≤ 16777216) (h : RsL (Rs W n) xs ts) : Rs W (n + 1) (.tup xs) (.tup ts) := .inr ⟨xs, ts, .inr (.inl ⟨rfl, rfl⟩), l, h⟩
theorem Rs.ptr {W : Om} {n : Nat} {p : Addr} {xs ts : List D} (e : W p = some (.lst xs)) (l : xs.length ≤ 16777216) (h : RsL (Rs W n) xs ts) : Rs W (n + 1) (.ptr p) (.lst ts) := .inr ⟨xs, ts, .inr (.inr ⟨p, rfl, rfl, e⟩), l, h⟩
/-- of a sequence: length, items -/
structure SqV (W : Om) (x : D) (xs : List D) : Prop where
  len : ∀ (own : Bool) (Q : PQ), bltD .len own [x] W Q = Q (.int xs.length) W
  idx : ∀ (i : Int) (Q : PQ), idxD x (.int i) W Q = onO (atI xs i) (fz fun d => Q d W)
theorem SqV.lst {W : Om} {xs : List D} : SqV W (.lst xs) xs := ⟨fun _ _ => blt_lenl, fun _ _ => idx_lst⟩
theorem SqV.tup {W : Om} {xs : List D} : SqV W (.tup xs) xs := ⟨fun _ _ => blt_lent, fun _ _ => idx_tup⟩
theorem SqV.ptr {W : Om} {p : Addr} {xs : List D} (h : W p = some (.lst xs)) : SqV W (.ptr p) xs := ⟨fun _ _ => by rw [blt_lenp, h]; rfl, fun _ _ => by rw [idx_ptr, h]; rfl⟩
section
variable {G : Gs} {k : Nat} {P : Pm} {W : Om} {R : Out → Om → Prop} {Q : PQ} {X : PX}
def SameSp (k : Nat) (ds : List D) (W : Om) (R : Out → Om → Prop) : Prop := match ds with
  | [x, y] => ∃ n t1 t2, n < k ∧ Rs W n x t1 ∧ Rs W n y t2 ∧ ∀ b : Bool, (b = true ↔ t1 = t2) → R (.ret (.bl b)) W
  | _ => False
def B_same (c_law_same : Nat) : List S := [.ite (.or (.cmp .is (.var 1) .non) (.cmp .is (.var 0) .non)) [.ret (.and (.cmp .is (.var 1) .non) (.cmp .is (.var 0) .non))] [], .ite (.or (.isi (.var 1) (.ty "bool")) (.isi (.var 0) (.ty "bool"))) [.ret (.and (.isi (.var 1) (.ty "bool")) (.and (.isi (.var 0) (.ty "bool")) (.cmp .eq (.var 0) (.var 1))))] [], .ite (.isi (.var 1) (.ty "int")) [.ret (.and (.isi (.var 0) (.ty "int")) (.cmp .eq (.var 0) (.var 1)))] [], .ite (.isi (.var 1) (.ty "str")) [.ret (.and (.isi (.var 0) (.ty "str")) (.cmp .eq (.var 0) (.var 1)))] [], .ite (.isi (.var 1) (.ty "list")) [.asg (.name 2) (.isi (.var 0) (.ty "list"))] [.asg (.name 2) (.and (.isi (.var 1) (.ty "tuple")) (.isi (.var 0) (.ty "tuple")))], .ite (.or (.not (.var 2)) (.cmp .ne (.blt .len false [(.var 0)]) (.blt .len false [(.var 1)]))) [.ret (.bl false)] [], .for (.name 3) (.rng [(.blt .len false [(.var 1)])]) [.ite (.not (.call c_law_same [(.idx (.var 0) (.var 3)), (.idx (.var 1) (.var 3))])) [.ret (.bl false)] []], .ret (.bl true)]
theorem same_seq {s n : Nat} (hT : Has G k s (SameSp k)) (hn : n < k) {x y : D} {xs ys ts us : List D} {g3 : Option D} (sx : SqV W x xs) (sy : SqV W y ys) (lx : xs.length ≤ 16777216) (ly : ys.length ≤ 16777216) (px : RsL (Rs W n) xs ts) (py : RsL (Rs W n) ys us)
    (h : ∀ b : Bool, (b = true ↔ ts = us) → R (.ret (.bl b)) W) :
    wpSs G k P [.ite (.or (.not (.var 2)) (.cmp .ne (.blt .len false [(.var 0)]) (.blt .len false [(.var 1)]))) [.ret (.bl false)] [], .for (.name 3) (.rng [(.blt .len false [(.var 1)])]) [.ite (.not (.call s [(.idx (.var 0) (.var 3)), (.idx (.var 1) (.var 3))])) [.ret (.bl false)] []], .ret (.bl true)] (Kf R) [some x, some y, some (.bl true), g3] W := by
  push_cast [sx.len, sy.len]
  refine brn_ofP (fun e => ?_) (fun e => ?_)
  · push_cast [sx.len, sy.len]
    have e : xs.length = ys.length := by omega
    refine ⟨by omega, ?_⟩
    have pl1 := px.1
    have pl2 := py.1
    refine for_range (fun j g W' => W' = W ∧ (∃ g3, g = [some x, some y, some (.bl true), g3]) ∧ ∀ i, i < j → ts[i]? = us[i]?) ⟨rfl, ⟨_, rfl⟩, fun i hi => by omega⟩ ?_ ?_
    · rintro j hj g W' ⟨rfl, ⟨g3, rfl⟩, hi⟩
      have hj' : j < ys.length := by omega
      have hjx : j < xs.length := by omega
      have hjt : j < ts.length := by omega
      have hju : j < us.length := by omega
      have ex : atI xs (0 + (j : Int)) = some xs[j] := by rw [Int.zero_add, Tw.atI_nat, List.getElem?_eq_getElem hjx]
      have ey : atI ys (0 + (j : Int)) = some ys[j] := by rw [Int.zero_add, Tw.atI_nat, List.getElem?_eq_getElem hj']
      push_cast [sx.idx, sy.idx, ex, ey]
      refine call_of (hT _ _ _ ⟨n, _, _, hn, px.2 j _ _ (List.getElem?_eq_getElem hjx) (List.getElem?_eq_getElem hjt), py.2 j _ _ (List.getElem?_eq_getElem hj') (List.getElem?_eq_getElem hju), fun b hb => ?_⟩)
      push_cast
      refine brn_of (fun hbt => ?_) (fun hbf => ?_)
      · push_cast
        refine ⟨⟨_, rfl⟩, fun i hlt => ?_⟩
        rcases (by omega : i < j ∨ i = j) with z | rfl
        · exact hi i z
        · rw [List.getElem?_eq_getElem hjt, List.getElem?_eq_getElem hju, hb.mp hbt]
      · push_cast
        refine ⟨_, Sub.refl, h _ ⟨(fun z => nomatch z), fun z => ?_⟩⟩
        have : b = true := hb.mpr (by simp only [z])
        rw [hbf] at this; cases this
    · rintro g W' ⟨rfl, ⟨g3, rfl⟩, hi⟩
      push_cast
      refine ⟨_, Sub.refl, h _ ⟨fun _ => ?_, fun _ => rfl⟩⟩
      apply List.ext_getElem?
      intro i
      rcases (by omega : i < (ys.length - 0 : Int).toNat ∨ ys.length ≤ i) with z | z
      · exact hi i z
      · rw [List.getElem?_eq_none (by omega), List.getElem?_eq_none (by omega)]
  · push_cast
    refine ⟨_, Sub.refl, h _ ⟨(fun z => nomatch z), fun z => ?_⟩⟩
    subst z
    have pl1 := px.1
    have pl2 := py.1
    exact absurd (by omega : (xs.length : Int) = ys.length) e
theorem wp_same {s : Nat} (hT : Has G k s (SameSp k)) {ds : List D} (h : SameSp (k + 1) ds W R) : wpSs G k P (B_same s) (Kf R) (startG 4 ds) W := by
  unfold SameSp at h
  split at h
  · next x y =>
    obtain ⟨n, t1, t2, hn, r1, r2, h⟩ := h
    show wpSs G k P (B_same s) (Kf R) [some x, some y, none, none] W
    unfold B_same
    have cs : ∀ {n : Nat} {x t : D}, Rs W n x t → (x = t ∧ flatD t = true) ∨ ∃ m xs ts, n = m + 1 ∧ ((x = .lst xs ∧ t = .lst ts) ∨ (x = .tup xs ∧ t = .tup ts) ∨ ∃ p, x = .ptr p ∧ t = .lst ts ∧ W p = some (.lst xs)) ∧ xs.length ≤ 16777216 ∧ RsL (Rs W m) xs ts := by
      intro n x t r
      cases n with
      | zero => exact .inl r
      | succ m =>
        rcases r with r | ⟨xs, ts, e, l, q⟩
        · exact .inl r
        · exact .inr ⟨m, xs, ts, rfl, e, l, q⟩
    rcases cs r1 with ⟨rfl, f1⟩ | ⟨m, xs, ts, rfl, c1, lx, qx⟩
    · rcases cs r2 with ⟨rfl, f2⟩ | ⟨m, ys, us, rfl, c2, ly, qy⟩
      · cases x <;> (first | cases f1 | skip) <;> cases y <;> (first | cases f2 | skip) <;> push_cast <;> exact ⟨_, Sub.refl, h _ (by simp)⟩
      · rcases c2 with ⟨rfl, rfl⟩ | ⟨rfl, rfl⟩ | ⟨p, rfl, rfl, hp⟩
        · cases x <;> (first | cases f1 | skip) <;> push_cast <;> exact ⟨_, Sub.refl, h _ (by simp)⟩
        · cases x <;> (first | cases f1 | skip) <;> push_cast <;> exact ⟨_, Sub.refl, h _ (by simp)⟩
        · cases x <;> (first | cases f1 | skip) <;> push_cast [hp] <;> exact ⟨_, Sub.refl, h _ (by simp)⟩
    · rcases cs r2 with ⟨rfl, f2⟩ | ⟨m', ys, us, hm, c2, ly, qy⟩
      · rcases c1 with ⟨rfl, rfl⟩ | ⟨rfl, rfl⟩ | ⟨p, rfl, rfl, hp⟩
        · cases y <;> (first | cases f2 | skip) <;> push_cast <;> exact ⟨_, Sub.refl, h _ (by simp)⟩
        · cases y <;> (first | cases f2 | skip) <;> push_cast <;> exact ⟨_, Sub.refl, h _ (by simp)⟩
        · cases y <;> (first | cases f2 | skip) <;> push_cast [hp] <;> exact ⟨_, Sub.refl, h _ (by simp)⟩
      · obtain rfl : m' = m := by omega
        have hk : m' < k := by omega
        have L : ∀ {x y : D} {g3 : Option D}, SqV W x xs → SqV W y ys → (∀ b : Bool, (b = true ↔ ts = us) → R (.ret (.bl b)) W) → _ := fun {x y g3} sx sy => same_seq (R := R) (P := P) hT hk (g3 := g3) sx sy lx ly qx qy
        rcases c1 with ⟨rfl, rfl⟩ | ⟨rfl, rfl⟩ | ⟨p, rfl, rfl, hp⟩ <;> rcases c2 with ⟨rfl, rfl⟩ | ⟨rfl, rfl⟩ | ⟨q, rfl, rfl, hq⟩
        · have z := L (g3 := none) .lst .lst (fun b hb => h b (by rw [hb]; simp))
          push_cast at z
          push_cast
          exact z
        · push_cast
          exact ⟨_, Sub.refl, h _ (by simp)⟩
        · have z := L (g3 := none) .lst (.ptr hq) (fun b hb => h b (by rw [hb]; simp))
          push_cast [hq] at z
          push_cast [hq]
          exact z
        · push_cast
          exact ⟨_, Sub.refl, h _ (by simp)⟩
        · have z := L (g3 := none) .tup .tup (fun b hb => h b (by rw [hb]; simp))
          push_cast at z
          push_cast
          exact z
        · push_cast [hq]
          exact ⟨_, Sub.refl, h _ (by simp)⟩
        · have z := L (g3 := none) (.ptr hp) .lst (fun b hb => h b (by rw [hb]; simp))
          push_cast [hp] at z
          push_cast [hp]
          exact z
        · push_cast [hp]
          exact ⟨_, Sub.refl, h _ (by simp)⟩
        · have z := L (g3 := none) (.ptr hp) (.ptr hq) (fun b hb => h b (by rw [hb]; simp))
          push_cast [hp, hq] at z
          push_cast [hp, hq]
          exact z
  · exact h.elim
/-- equal values -/
theorem call_sameR {s n : Nat} {x y t1 t2 : D} (hT : Has G k s (SameSp k)) (hn : n < k) (r1 : Rs W n x t1) (r2 : Rs W n y t2) (h : ∀ b : Bool, (b = true ↔ t1 = t2) → Q (.bl b) W) : callW G k s [x, y] W Q X :=
  call_of (hT _ _ _ ⟨n, t1, t2, hn, r1, r2, h⟩)
theorem call_same {s n : Nat} {x y t1 t2 : D} (hT : Has G k s (SameSp k)) (hn : n < k) (p1 : pln n t1) (p2 : pln n t2) (r1 : Res W x t1) (r2 : Res W y t2) (h : ∀ b : Bool, (b = true ↔ t1 = t2) → Q (.bl b) W) : callW G k s [x, y] W Q X :=
  call_sameR hT hn (.of p1 r1) (.of p2 r2) h
theorem call_same_t {s n : Nat} {x y t : D} (hT : Has G k s (SameSp k)) (hn : n < k) (p1 : pln n t) (r1 : Res W x t) (r2 : Res W y t) (h : Q (.bl true) W) : callW G k s [x, y] W Q X :=
  call_same hT hn p1 p1 r1 r2 fun b hb => by rw [hb.mpr rfl]; exact h
end
end Tw
set_option maxHeartbeats 4000000
namespace Tw
open PySem PySem.Spec L2
open PyProof.Rows (b2i)
section
variable {G : Gs} {k : Nat} {P : Pm} {W : Om} {R : Out → Om → Prop} {Q : PQ} {X : PX}
def B_spoil_list : List S := [.ite (.isi (.var 0) (.ty "list")) [.for (.name 1) (.seq (.var 0)) [.ite (.isi (.var 1) (.ty "list")) [.expr (.meth .append (.var 1) [(.int 0)])] []], .expr (.meth .reverse (.var 0) []), .expr (.meth .append (.var 0) [.non])] []]
def PrimesSp (ds : List D) (W : Om) (R : Out → Om → Prop) : Prop := match ds with
  | [.int n] => (-1000000 ≤ n ∧ n ≤ 100000) ∧ R (.ret (.lst ((prL n).map .int))) W
  | _ => False
def B_primes : List S := [.asg (.name 1) (.lst true []), .for (.name 2) (.rng [(.int 2), (.bin .add false (.var 0) (.int 1))]) [.asg (.name 3) (.bl false), .for (.name 4) (.seq (.var 1)) [.ite (.cmp .gt (.bin .mul false (.var 4) (.var 4)) (.var 2)) [.brk] [], .ite (.cmp .eq (.bin .mod false (.var 2) (.var 4)) (.int 0)) [.asg (.name 3) (.bl true), .brk] []], .ite (.not (.var 3)) [.expr (.meth .append (.var 1) [(.var 2)])] []], .frz 1, .ret (.var 1)]
theorem wp_primes {ds : List D} (h : PrimesSp ds W R) : wpSs G k P B_primes (Kf R) (startG 5 ds) W := by
  unfold PrimesSp at h
  split at h
  · next n =>
    obtain ⟨hn, h⟩ := h
    show wpSs G k P B_primes (Kf R) [some (.int n), none, none, none, none] W
    unfold B_primes
    push_cast
    intro p hp
    push_cast
    refine ⟨rngOk_lt (by omega) (by omega), ?_⟩
    refine for_range (fun j g W' => W' = W.set p (.lst ((prN j).map .int)) ∧ ∃ a b c, g = [some (.int n), some (.ptr p), a, b, c]) ⟨rfl, _, _, _, rfl⟩ ?_ ?_
    · rintro j hj g W' ⟨rfl, a, b, c, rfl⟩
      push_cast
      have body : ∀ (x c : Option D) (dv : Bool), (dv = true ↔ ¬ PrI (2 + (j : Int))) → wpSs G k P [.ite (.not (.var 3)) [.expr (.meth .append (.var 1) [(.var 2)])] []] (turnK { nx := fun g' W' => wpSs G k P [.frz 1, .ret (.var 1)] (Kf R) g' W', rt := (Kf R).rt, bk := (Kf R).bk, ct := (Kf R).ct, xq := (Kf R).xq } fun g W' => W' = W.set p (.lst ((prN (j + 1)).map .int)) ∧ ∃ a b c, g = [some (.int n), some (.ptr p), a, b, c]) [some (.int n), some (.ptr p), some (.int (2 + (j : Int))), some (.bl dv), c] (W.set p (.lst ((prN j).map .int))) := by
        intro x c dv hdv
        push_cast
        refine brn_of (fun e => ?_) (fun e => ?_)
        · push_cast
          refine ⟨?_, _, _, _, rfl⟩
          rw [prN_succ, if_neg (by rw [isPr_iff]; exact hdv.mp e), List.append_nil]
        · push_cast [List.length_map]
          refine ⟨by have := @prN_len j; omega, ?_, _, _, _, rfl⟩
          have : PrI (2 + (j : Int)) := by
            rcases Classical.em (PrI (2 + (j : Int))) with z | z
            · exact z
            · rw [hdv.mpr z] at e; cases e
          rw [prN_succ, if_pos (isPr_iff.mpr this), List.map_append]
          rfl
      refine for_inv (fun i g W' => W' = W.set p (.lst ((prN j).map .int)) ∧ (∃ c, g = [some (.int n), some (.ptr p), some (.int (2 + (j : Int))), some (.bl false), c]) ∧ ∀ q, q ∈ (prN j).take i → (2 + (j : Int)) % q ≠ 0) ⟨rfl, ⟨_, rfl⟩, fun q hq => by simp at hq⟩ ?_ ?_
      · rintro i d hd g W' ⟨rfl, ⟨c, rfl⟩, hno⟩
        refine ⟨Om.set_same, ?_⟩
        rw [List.getElem?_map] at hd
        obtain ⟨q, hq, rfl⟩ := Option.map_eq_some_iff.mp hd
        have hqm := mem_prN.mp (List.mem_of_getElem? hq)
        have hq2 := hqm.1.1
        push_cast
        refine ⟨mulR (by omega) (by omega), brn_ofP (fun e => ?_) (fun e => ?_)⟩
        · push_cast
          have z := body none (some (.int q)) false ⟨(fun z => nomatch z), fun hnp => ?_⟩
          · push_cast at z
            exact z
          · exfalso
            obtain ⟨r, hr, er, hrr, hrl⟩ := prime_div (by omega) hnp
            have hrq : r < q := by
              rcases (by omega : r < q ∨ q ≤ r) with z | z
              · exact z
              · have : q * q ≤ r * r := Int.mul_le_mul z z (by omega) (by omega)
                omega
            have hrm : r ∈ prN j := mem_prN.mpr ⟨hr, hrl⟩
            obtain ⟨i', hi', hri⟩ := List.getElem_of_mem hrm
            obtain ⟨hil, hqi⟩ := List.getElem?_eq_some_iff.mp hq
            have hlt : i' < i := by
              rcases (by omega : i' < i ∨ i' = i ∨ i < i') with z | z | z
              · exact z
              · subst z; omega
              · have := List.pairwise_iff_getElem.mp (@prN_sorted j) i i' hil hi' z
                omega
            exact hno r (List.mem_take_iff_getElem.mpr ⟨i', by omega, hri⟩) er
        · push_cast
          refine ⟨by omega, brn_ofP (fun e2 => ?_) (fun e2 => ?_)⟩
          · push_cast
            have z := body none (some (.int q)) true ⟨fun _ hp => hp.2 q hq2 hqm.2 e2, fun _ => rfl⟩
            push_cast at z
            exact z
          · push_cast
            refine ⟨⟨_, rfl⟩, fun q' hq' => ?_⟩
            rw [List.take_add_one, hq] at hq'
            rcases List.mem_append.mp hq' with z | z
            · exact hno q' z
            · simp at z; subst z; exact e2
      · rintro g W' ⟨rfl, ⟨c, rfl⟩, hno⟩
        refine ⟨Om.set_same, ?_⟩
        have z := body none c false ⟨(fun z => nomatch z), fun hnp => ?_⟩
        · push_cast at z
          push_cast
          exact z
        · exfalso
          obtain ⟨r, hr, er, hrr, hrl⟩ := prime_div (by omega) hnp
          refine hno r ?_ er
          rw [List.take_of_length_le (by rw [List.length_map]; exact Nat.le_refl _)]
          exact mem_prN.mpr ⟨hr, hrl⟩
    · rintro g W' ⟨rfl, a, b, c, rfl⟩
      push_cast
      refine ⟨W, fun b x hb => ?_, h⟩
      by_cases e : b = p
      · subst e; rw [hp] at hb; cases hb
      · rw [Om.del_ne e, Om.set_ne e]; exact hb
  · exact h.elim
theorem call_primes {s : Nat} {n : Int} (hT : Has G k s PrimesSp) (h1 : -1000000 ≤ n) (h2 : n ≤ 100000) (h : Q (.lst ((prL n).map .int)) W) : callW G k s [.int n] W Q X :=
  call_of (hT _ _ _ ⟨⟨h1, h2⟩, h⟩)
def PrimeSp (ds : List D) (W : Om) (R : Out → Om → Prop) : Prop := match ds with
  | [.ptr a] => StOk W a ∧ ∀ p m', PrI p → p ≤ 101 → StoreM m' → R (.ret (.int p)) (W.set a m')
  | _ => False
def B_prime (c_law_primes c_law_edge : Nat) : List S := [.asg (.name 1) (.call c_law_primes [(.int 101)]), .ret (.idx (.var 1) (.call c_law_edge [(.var 0), (.int 0), (.bin .sub false (.blt .len false [(.var 1)]) (.int 1))]))]
theorem prL101_len : (prL 101).length = 26 := by rw [prL101]; rfl
theorem wp_prime {t u : Nat} (hT : Has G k t PrimesSp) (hU : Has G k u EdgeSp) {ds : List D} (h : PrimeSp ds W R) : wpSs G k P (B_prime t u) (Kf R) (startG 2 ds) W := by
  unfold PrimeSp at h
  split at h
  · next a =>
    obtain ⟨st, h⟩ := h
    show wpSs G k P (B_prime t u) (Kf R) [some (.ptr a), none] W
    unfold B_prime
    push_cast
    refine call_primes hT (by omega) (by omega) ?_
    push_cast [List.length_map, prL101_len]
    refine call_edge hU (logOk_le (by omega) (by omega)) st fun r m1 h0 h1 hs => ?_
    obtain ⟨d, hd, hm⟩ := atI_mem (xs := (prL 101).map D.int) h0 (by rw [List.length_map, prL101_len]; omega)
    obtain ⟨p, hp, rfl⟩ := List.mem_map.mp hm
    rw [mem_prL] at hp
    push_cast [hd]
    exact ⟨_, Sub.refl, h _ _ hp.1 hp.2 hs⟩
  · exact h.elim
theorem call_prime {t : Nat} {a : Addr} (hT : Has G k t PrimeSp) (st : StOk W a) (h : ∀ p m', PrI p → p ≤ 101 → StoreM m' → Q (.int p) (W.set a m')) : callW G k t [.ptr a] W Q X :=
  call_of (hT _ _ _ ⟨st, h⟩)
def P101 (p : Int) : Prop := PrI p ∧ p ≤ 101
def BadPv (d : D) : Prop := (∃ i, d = .int i ∧ ¬ P101 i) ∨ d ∈ otherL
theorem not_prime_mul {a b : Int} (ha : 2 ≤ a) (hb : 2 ≤ b) : ¬ PrI (a * b) := fun ⟨_, h⟩ => by
  refine h a ha ?_ (Int.mul_emod_right a b)
  have : a * 2 ≤ a * b := Int.mul_le_mul_of_nonneg_left hb (by omega)
  omega
def BadPrimeSp (ds : List D) (W : Om) (R : Out → Om → Prop) : Prop := match ds with
  | [.ptr a] => StOk W a ∧ ∀ d m', BadPv d → StoreM m' → R (.ret d) (W.set a m')
  | _ => False
def B_bad_prime (c_law_take c_law_prime c_law_other_kind : Nat) : List S := [.asg (.name 1) (.call c_law_take [(.var 0), (.int 8)]), .ite (.cmp .eq (.var 1) (.int 0)) [.ret (.bin .mul false (.bin .add false (.int 2) (.call c_law_take [(.var 0), (.int 9)])) (.bin .add false (.int 2) (.call c_law_take [(.var 0), (.int 9)])))] [], .ite (.cmp .eq (.var 1) (.int 1)) [.ret (.call c_law_take [(.var 0), (.int 2)])] [], .ite (.cmp .eq (.var 1) (.int 2)) [.ret (.neg (.call c_law_prime [(.var 0)]))] [], .ite (.cmp .eq (.var 1) (.int 3)) [.ret (.bin .add false (.int 102) (.call c_law_take [(.var 0), (.int 200)]))] [], .ite (.cmp .eq (.var 1) (.int 4)) [.ret (.bin .add false (.bin .pow false (.int 10) (.int 40)) (.call c_law_take [(.var 0), (.int 1000)]))] [], .ite (.cmp .eq (.var 1) (.int 5)) [.ret (.bin .sub false (.neg (.int 1)) (.bin .mul false (.call c_law_take [(.var 0), (.int 2)]) (.bin .pow false (.int 10) (.int 40))))] [], .ite (.cmp .eq (.var 1) (.int 6)) [.ret (.bin .mul false (.call c_law_prime [(.var 0)]) (.call c_law_prime [(.var 0)]))] [], .ret (.call c_law_other_kind [(.var 0)])]
theorem wp_bad_prime {t p o : Nat} (hT : Has G k t TakeSp) (hP : Has G k p PrimeSp) (hO : Has G k o OtherSp) {ds : List D} (h : BadPrimeSp ds W R) : wpSs G k P (B_bad_prime t p o) (Kf R) (startG 2 ds) W := by
  unfold BadPrimeSp at h
  split at h
  · next a =>
    obtain ⟨st, h⟩ := h
    show wpSs G k P (B_bad_prime t p o) (Kf R) [some (.ptr a), none] W
    unfold B_bad_prime
    push_cast
    refine call_take hT (logOk_le (by omega) (by omega)) st fun r m1 h0 h1 hs => ?_
    have e40 : (10 : Int) ^ Int.toNat 40 = 10000000000000000000000000000000000000000 := by decide +kernel
    push_cast
    refine brn_ofP (fun e => ?_) (fun e => ?_)
    · push_cast
      refine call_take hT (logOk_le (by omega) (by omega)) (.set hs) fun r1 m2 h0 h1 hs => ?_
      push_cast
      refine call_take hT (logOk_le (by omega) (by omega)) (.set hs) fun r2 m3 h0 h1 hs => ?_
      push_cast
      exact ⟨mulR (by omega) (by omega), _, Sub.refl, h _ _ (.inl ⟨_, rfl, fun z => not_prime_mul (by omega) (by omega) z.1⟩) hs⟩
    push_cast
    refine brn_ofP (fun e => ?_) (fun e => ?_)
    · push_cast
      refine call_take hT (logOk_le (by omega) (by omega)) (.set hs) fun r1 m2 h0 h1 hs => ?_
      push_cast
      exact ⟨_, Sub.refl, h _ _ (.inl ⟨_, rfl, fun z => by have := z.1.1; omega⟩) hs⟩
    push_cast
    refine brn_ofP (fun e => ?_) (fun e => ?_)
    · push_cast
      refine call_prime hP (.set hs) fun q m2 hq hq2 hs => ?_
      push_cast
      exact ⟨_, Sub.refl, h _ _ (.inl ⟨_, rfl, fun z => by have := z.1.1; have := hq.1; omega⟩) hs⟩
    push_cast
    refine brn_ofP (fun e => ?_) (fun e => ?_)
    · push_cast
      refine call_take hT (logOk_le (by omega) (by omega)) (.set hs) fun r1 m2 h0 h1 hs => ?_
      push_cast
      exact ⟨_, Sub.refl, h _ _ (.inl ⟨_, rfl, fun z => by have := z.2; omega⟩) hs⟩
    push_cast
    refine brn_ofP (fun e => ?_) (fun e => ?_)
    · push_cast [e40]
      refine ⟨fit_lit (by decide +kernel), ?_⟩
      refine call_take hT (logOk_le (by omega) (by omega)) (.set hs) fun r1 m2 h0 h1 hs => ?_
      push_cast
      exact ⟨_, Sub.refl, h _ _ (.inl ⟨_, rfl, fun z => by have := z.2; omega⟩) hs⟩
    push_cast
    refine brn_ofP (fun e => ?_) (fun e => ?_)
    · push_cast
      refine call_take hT (logOk_le (by omega) (by omega)) (.set hs) fun r1 m2 h0 h1 hs => ?_
      push_cast [e40]
      exact ⟨fit_lit (by decide +kernel), mulL (by omega) (by omega), _, Sub.refl, h _ _ (.inl ⟨_, rfl, fun z => by have := z.1.1; omega⟩) hs⟩
    push_cast
    refine brn_ofP (fun e => ?_) (fun e => ?_)
    · push_cast
      refine call_prime hP (.set hs) fun q m2 hq hq2 hs => ?_
      push_cast
      refine call_prime hP (.set hs) fun q' m2 hq' hq2' hs => ?_
      push_cast
      have := hq.1
      have := hq'.1
      exact ⟨mulR (by omega) (by omega), _, Sub.refl, h _ _ (.inl ⟨_, rfl, fun z => not_prime_mul (by omega) (by omega) z.1⟩) hs⟩
    push_cast
    refine call_other hO (.set hs) fun d m2 hd hs => ?_
    push_cast
    exact ⟨_, Sub.refl, h _ _ (.inr hd) hs⟩
  · exact h.elim
theorem call_bad_prime {t : Nat} {a : Addr} (hT : Has G k t BadPrimeSp) (st : StOk W a) (h : ∀ d m', BadPv d → StoreM m' → Q d (W.set a m')) : callW G k t [.ptr a] W Q X :=
  call_of (hT _ _ _ ⟨st, h⟩)
def BadIv (lo hi : Int) (d : D) : Prop := (∃ i, d = .int i ∧ (i < lo ∨ hi < i) ∧ lo - 10 ^ 40 ≤ i ∧ i ≤ hi + 10 ^ 40) ∨ d ∈ otherL
def BadIntSp (ds : List D) (W : Om) (R : Out → Om → Prop) : Prop := match ds with
  | [.ptr a, .int lo, .int hi] => lo ≤ hi + 1 ∧ StOk W a ∧ ∀ d m', BadIv lo hi d → StoreM m' → R (.ret d) (W.set a m')
  | _ => False
def B_bad_integer (c_law_take c_law_pick c_law_other_kind : Nat) : List S := [.asg (.name 3) (.call c_law_take [(.var 0), (.int 6)]), .ite (.cmp .eq (.var 3) (.int 0)) [.ret (.bin .sub false (.var 1) (.int 1))] [], .ite (.cmp .eq (.var 3) (.int 1)) [.ret (.bin .add false (.var 2) (.int 1))] [], .ite (.cmp .eq (.var 3) (.int 2)) [.ret (.bin .sub false (.bin .sub false (.var 1) (.int 2)) (.call c_law_take [(.var 0), (.int 1000)]))] [], .ite (.cmp .eq (.var 3) (.int 3)) [.ret (.bin .add false (.bin .add false (.var 2) (.int 2)) (.call c_law_take [(.var 0), (.int 1000)]))] [], .ite (.cmp .eq (.var 3) (.int 4)) [.ret (.call c_law_pick [(.var 0), (.lst false [(.bin .add false (.var 2) (.bin .pow false (.int 10) (.int 40))), (.bin .sub false (.var 1) (.bin .pow false (.int 10) (.int 40)))])])] [], .ret (.call c_law_other_kind [(.var 0)])]
theorem wp_bad_integer {t p o : Nat} (hT : Has G k t TakeSp) (hP : Has G k p PickSp) (hO : Has G k o OtherSp) {ds : List D} (h : BadIntSp ds W R) : wpSs G k P (B_bad_integer t p o) (Kf R) (startG 4 ds) W := by
  unfold BadIntSp at h
  split at h
  · next a lo hi =>
    obtain ⟨hlo, st, h⟩ := h
    show wpSs G k P (B_bad_integer t p o) (Kf R) [some (.ptr a), some (.int lo), some (.int hi), none] W
    unfold B_bad_integer
    have e40 : (10 : Int) ^ Int.toNat 40 = 10000000000000000000000000000000000000000 := by decide +kernel
    have f40 : (10 : Int) ^ 40 = 10000000000000000000000000000000000000000 := by decide +kernel
    unfold BadIv at h
    rw [f40] at h
    push_cast
    refine call_take hT (logOk_le (by omega) (by omega)) st fun r m1 h0 h1 hs => ?_
    push_cast
    refine brn_ofP (fun e => ?_) (fun e => ?_)
    · push_cast
      exact ⟨_, Sub.refl, h _ _ (.inl ⟨_, rfl, by omega, by omega, by omega⟩) hs⟩
    push_cast
    refine brn_ofP (fun e => ?_) (fun e => ?_)
    · push_cast
      exact ⟨_, Sub.refl, h _ _ (.inl ⟨_, rfl, by omega, by omega, by omega⟩) hs⟩
    push_cast
    refine brn_ofP (fun e => ?_) (fun e => ?_)
    · push_cast
      refine call_take hT (logOk_le (by omega) (by omega)) (.set hs) fun r1 m2 h0 h1 hs => ?_
      push_cast
      exact ⟨_, Sub.refl, h _ _ (.inl ⟨_, rfl, by omega, by omega, by omega⟩) hs⟩
    push_cast
    refine brn_ofP (fun e => ?_) (fun e => ?_)
    · push_cast
      refine call_take hT (logOk_le (by omega) (by omega)) (.set hs) fun r1 m2 h0 h1 hs => ?_
      push_cast
      exact ⟨_, Sub.refl, h _ _ (.inl ⟨_, rfl, by omega, by omega, by omega⟩) hs⟩
    push_cast
    refine brn_ofP (fun e => ?_) (fun e => ?_)
    · push_cast [e40]
      refine ⟨fit_lit (by decide +kernel), fit_lit (by decide +kernel), ?_⟩
      refine call_pick (xs := [.int (hi + 10000000000000000000000000000000000000000), .int (lo - 10000000000000000000000000000000000000000)]) hP (by simp) (by simp) (.set hs) fun d m2 hd hs => ?_
      push_cast
      simp at hd
      rcases hd with rfl | rfl
      · exact ⟨_, Sub.refl, h _ _ (.inl ⟨_, rfl, by omega, by omega, by omega⟩) hs⟩
      · exact ⟨_, Sub.refl, h _ _ (.inl ⟨_, rfl, by omega, by omega, by omega⟩) hs⟩
    push_cast
    refine call_other hO (.set hs) fun d m2 hd hs => ?_
    push_cast
    exact ⟨_, Sub.refl, h _ _ (.inr hd) hs⟩
  · exact h.elim
theorem call_bad_int {t : Nat} {a : Addr} {lo hi : Int} (hT : Has G k t BadIntSp) (hlo : lo ≤ hi + 1) (st : StOk W a) (h : ∀ d m', BadIv lo hi d → StoreM m' → Q d (W.set a m')) : callW G k t [.ptr a, .int lo, .int hi] W Q X :=
  call_of (hT _ _ _ ⟨hlo, st, h⟩)
end
end Tw
set_option maxHeartbeats 4000000
namespace Tw
open PySem PySem.Spec L2
open PyProof.Rows (b2i)
section
variable {G : Gs} {k : Nat} {P : Pm} {W : Om} {R : Out → Om → Prop} {Q : PQ} {X : PX}
/-- a value whose kind is a built-in one's -/
def Knd (W : Om) (x : D) : Prop := tyD x ≠ none ∨ ∃ p ds, x = .ptr p ∧ W p = some (.lst ds)
def isIntD (x : D) : Bool := match x with
  | .int _ => true
  | _ => false
theorem knd_res {W : Om} {n : Nat} {x t : D} (p : pln n t) (r : Res W x t) : Knd W x := by
  rcases r with rfl | ⟨q, ds, rfl, e, _⟩
  · refine .inl ?_
    cases n with
    | zero => cases x <;> (first | cases p | skip) <;> (intro h; cases h)
    | succ n =>
      rcases p with p | ⟨ds, e, _⟩
      · cases x <;> (first | cases p | skip) <;> (intro h; cases h)
      · rcases e with rfl | rfl <;> (intro h; cases h)
  · exact .inr ⟨q, ds, rfl, e⟩
theorem knd_int {i : Int} : Knd W (.int i) := .inl fun h => nomatch h
def WholeSp (ds : List D) (W : Om) (R : Out → Om → Prop) : Prop := match ds with
  | [x] => Knd W x ∧ R (.ret (.bl (isIntD x))) W
  | _ => False
def B_is_whole : List S := [.ret (.and (.isi (.var 0) (.ty "int")) (.not (.isi (.var 0) (.ty "bool"))))]
theorem wp_whole {ds : List D} (h : WholeSp ds W R) : wpSs G k P B_is_whole (Kf R) (startG 1 ds) W := by
  unfold WholeSp at h
  split at h
  · next x =>
    obtain ⟨hk, h⟩ := h
    show wpSs G k P B_is_whole (Kf R) [some x] W
    unfold B_is_whole
    rcases hk with hk | ⟨p, ds, rfl, e⟩
    · cases x <;> (first | exact absurd rfl hk | skip) <;> push_cast <;> exact ⟨_, Sub.refl, h⟩
    · push_cast [e]
      exact ⟨_, Sub.refl, h⟩
  · exact h.elim
theorem call_whole {t : Nat} {x : D} (hT : Has G k t WholeSp) (hk : Knd W x) (h : Q (.bl (isIntD x)) W) : callW G k t [x] W Q X := call_of (hT _ _ _ ⟨hk, h⟩)
def HasDivSp (ds : List D) (W : Om) (R : Out → Om → Prop) : Prop := match ds with
  | [.int n] => n ≤ 10000 ∧ ∀ b : Bool, (b = true ↔ HasDiv n) → R (.ret (.bl b)) W
  | _ => False
def B_has_divisor : List S := [.asg (.name 1) (.int 2), .whl (.cmp .le (.bin .mul false (.var 1) (.var 1)) (.var 0)) [.ite (.cmp .eq (.bin .mod false (.var 0) (.var 1)) (.int 0)) [.ret (.bl true)] [], .aug false 1 (.int 1)], .ret (.bl false)]
theorem wp_has_divisor {ds : List D} (h : HasDivSp ds W R) : wpSs G k P B_has_divisor (Kf R) (startG 2 ds) W := by
  unfold HasDivSp at h
  split at h
  · next n =>
    obtain ⟨hn, h⟩ := h
    show wpSs G k P B_has_divisor (Kf R) [some (.int n), none] W
    unfold B_has_divisor
    push_cast
    refine whl_inv (fun m g W' => ∃ d : Int, g = [some (.int n), some (.int d)] ∧ W' = W ∧ 2 ≤ d ∧ d ≤ 101 ∧ m = (102 - d).toNat ∧ ∀ e, 2 ≤ e → e < d → n % e ≠ 0) _ ⟨2, rfl, rfl, by omega, by omega, rfl, fun e h1 h2 => by omega⟩ ?_
    rintro m g W' ⟨d, rfl, rfl, h2, h101, rfl, hno⟩
    push_cast
    refine ⟨mulR (by omega) (by omega), brn_ofP (fun hle => ?_) (fun hle => ?_)⟩
    · have hd100 : d ≤ 100 := by
        rcases (by omega : 100 < d ∨ d ≤ 100) with h | h
        · have : 101 * 101 ≤ d * d := Int.mul_le_mul (by omega) (by omega) (by omega) (by omega)
          omega
        · exact h
      push_cast
      refine ⟨by omega, brn_ofP (fun hz => ?_) (fun hz => ?_)⟩
      · push_cast
        exact ⟨_, Sub.refl, h true ⟨fun _ => ⟨d, h2, hle, hz⟩, fun _ => rfl⟩⟩
      · push_cast
        refine ⟨_, ?_, d + 1, rfl, by omega, by omega, rfl, fun e h1 h3 => ?_⟩
        · omega
        · rcases (by omega : e < d ∨ e = d) with h | rfl
          · exact hno e h1 h
          · exact hz
    · push_cast
      refine ⟨_, Sub.refl, h false ⟨(fun z => nomatch z), fun ⟨e, e1, e2, e3⟩ => ?_⟩⟩
      rcases (by omega : e < d ∨ d ≤ e) with h | h
      · exact absurd e3 (hno e e1 h)
      · have : d * d ≤ e * e := Int.mul_le_mul h h (by omega) (by omega)
        omega
  · exact h.elim
theorem call_has_div {t : Nat} {n : Int} (hT : Has G k t HasDivSp) (hn : n ≤ 10000) (h : ∀ b : Bool, (b = true ↔ HasDiv n) → Q (.bl b) W) : callW G k t [.int n] W Q X := call_of (hT _ _ _ ⟨hn, h⟩)
/-- a good prime, or the error with the value -/
def CheckPrimeSp (cN fv : Nat) (ds : List D) (W : Om) (R : Out → Om → Prop) : Prop := match ds with
  | [x] => Knd W x ∧ (∀ n, x = .int n → P101 n → R (.ret (.int n)) W) ∧ ((∀ n, x = .int n → ¬ P101 n) → R (.exc ⟨cN, [(fv, x)]⟩) W)
  | _ => False
def B_check_prime (c_is_whole k_NotPrime g_MAX_PRIME c_has_divisor : Nat) : List S := [.ite (.not (.call c_is_whole [(.var 0)])) [.raise k_NotPrime [(.var 0)]] [], .ite (.or (.cmp .lt (.var 0) (.int 2)) (.cmp .gt (.var 0) (.gint g_MAX_PRIME 101))) [.raise k_NotPrime [(.var 0)]] [], .ite (.call c_has_divisor [(.var 0)]) [.raise k_NotPrime [(.var 0)]] [], .ret (.var 0)]
theorem wp_check_prime {w cN gi d fv : Nat} (hW : Has G k w WholeSp) (hD : Has G k d HasDivSp) (hx : P.xin cN = some [fv]) {ds : List D} (h : CheckPrimeSp cN fv ds W R) : wpSs G k P (B_check_prime w cN gi d) (Kf R) (startG 1 ds) W := by
  unfold CheckPrimeSp at h
  split at h
  · next x =>
    obtain ⟨hk, h1, h2⟩ := h
    show wpSs G k P (B_check_prime w cN gi d) (Kf R) [some x] W
    unfold B_check_prime
    push_cast
    refine call_whole hW hk ?_
    push_cast
    refine brn_of (fun e => ?_) (fun e => ?_)
    · push_cast
      cases x <;> (first | cases e | skip)
      rename_i n
      push_cast
      refine brn_ofP (fun e => ?_) (fun e => ?_)
      · push_cast [hx]
        exact ⟨_, Sub.refl, h2 fun m em z => by cases em; have := z.1.1; omega⟩
      push_cast
      refine brn_ofP (fun e2 => ?_) (fun e2 => ?_)
      · push_cast [hx]
        exact ⟨_, Sub.refl, h2 fun m em z => by cases em; have := z.2; omega⟩
      push_cast
      refine call_has_div hD (by omega) fun b hb => ?_
      rw [hasDiv_iff (by omega)] at hb
      push_cast
      refine brn_of (fun e3 => ?_) (fun e3 => ?_)
      · push_cast [hx]
        exact ⟨_, Sub.refl, h2 fun m em z => by cases em; exact hb.mp e3 z.1⟩
      · push_cast
        refine ⟨_, Sub.refl, h1 n rfl ⟨?_, by omega⟩⟩
        rcases Classical.em (PrI n) with z | z
        · exact z
        · rw [hb.mpr z] at e3; cases e3
    · push_cast [hx]
      exact ⟨_, Sub.refl, h2 fun m em z => by subst em; cases e⟩
  · exact h.elim
theorem call_check_prime {t cN fv : Nat} {x : D} (hT : Has G k t (CheckPrimeSp cN fv)) (hk : Knd W x) (h1 : ∀ n, x = .int n → P101 n → Q (.int n) W) (h2 : (∀ n, x = .int n → ¬ P101 n) → X ⟨cN, [(fv, x)]⟩ W) : callW G k t [x] W Q X :=
  call_of (hT _ _ _ ⟨hk, h1, h2⟩)
end
end Tw
set_option maxHeartbeats 4000000
namespace Tw
open PySem PySem.Spec L2
open PyProof.Rows (b2i)
section
variable {G : Gs} {k : Nat} {P : Pm} {W : Om} {R : Out → Om → Prop} {Q : PQ} {X : PX}
/-- a row of numbers below p -/
def RowP (p : Int) (n : Nat) (d : D) : Prop := ∃ is : List Int, d = .tup (is.map .int) ∧ is.length = n ∧ ∀ i ∈ is, 0 ≤ i ∧ i < p
def AllRowsSp (ds : List D) (W : Om) (R : Out → Om → Prop) : Prop := match ds with
  | [.int p, .int n] => (1 ≤ p ∧ p ≤ 5) ∧ (0 ≤ n ∧ n ≤ 6) ∧ ∀ xs, (∀ d ∈ xs, RowP p n.toNat d) → xs.length ≤ 15625 → R (.ret (.lst xs)) W
  | _ => False
end
end Tw
set_option maxHeartbeats 4000000
namespace Tw
open PySem PySem.Spec L2
open PyProof.Rows (b2i)
/-- a number of the field -/
def isNum (p : Int) (x : D) : Bool := match x with
  | .int i => decide (0 ≤ i) && decide (i < p)
  | _ => false
theorem isNum_int {p i : Int} : isNum p (.int i) = true ↔ 0 ≤ i ∧ i < p := by
  show (decide (0 ≤ i) && decide (i < p)) = true ↔ _
  rw [Bool.and_eq_true, decide_eq_true_eq, decide_eq_true_eq]
theorem isNum_ex {p : Int} {x : D} (h : isNum p x = true) : ∃ i, x = .int i ∧ 0 ≤ i ∧ i < p := by
  cases x <;> first | cases h | skip
  exact ⟨_, rfl, isNum_int.mp h⟩
end Tw
set_option maxHeartbeats 4000000
namespace Tw
open PySem PySem.Spec L2
open PyProof.Rows (b2i)
end Tw
set_option maxHeartbeats 4000000
namespace Tw
/-- the coefficient of a power -/
def cf (l : List Int) (i : Nat) : Int := l.getD i 0
theorem cf_nil {i : Nat} : cf [] i = 0 := by simp [cf]
theorem cf_zero {a : Int} {l : List Int} : cf (a :: l) 0 = a := rfl
theorem cf_succ {a : Int} {l : List Int} {i : Nat} : cf (a :: l) (i + 1) = cf l i := by simp [cf]
theorem cf_ge {l : List Int} {i : Nat} (h : l.length ≤ i) : cf l i = 0 := by unfold cf; rw [List.getD_eq_getElem?_getD, List.getElem?_eq_none h]; rfl
theorem cf_lt {l : List Int} {i : Nat} (h : i < l.length) : l[i]? = some (cf l i) := by
  unfold cf; rw [List.getD_eq_getElem?_getD, List.getElem?_eq_getElem h]; rfl
theorem cf_take {l : List Int} {n i : Nat} : cf (l.take n) i = if i < n then cf l i else 0 := by
  unfold cf
  rw [List.getD_eq_getElem?_getD, List.getD_eq_getElem?_getD, List.getElem?_take]
  split <;> rfl
/-- without the zeros at the end -/
def trim : List Int → List Int
  | [] => []
  | a :: r => match trim r with
    | [] => if a = 0 then [] else [a]
    | b :: t => a :: b :: t
theorem trim_cons (a : Int) (r : List Int) : trim (a :: r) = if trim r = [] then (if a = 0 then [] else [a]) else a :: trim r := by
  rw [trim]
  cases trim r with
  | nil => simp
  | cons b t => simp
theorem cf_trim : ∀ (l : List Int) (i : Nat), cf (trim l) i = cf l i
  | [], i => rfl
  | a :: r, i => by
    have ih := cf_trim r
    rw [trim_cons]
    split
    · next e =>
      have z : ∀ i, cf r i = 0 := fun i => by rw [← ih, e, cf_nil]
      split
      · next ea => cases i with
        | zero => rw [cf_nil, cf_zero, ea]
        | succ i => rw [cf_nil, cf_succ, z]
      · cases i with
        | zero => rfl
        | succ i => rw [cf_succ, cf_succ, cf_nil, z]
    · cases i with
      | zero => rfl
      | succ i => rw [cf_succ, cf_succ, ih]
theorem trim_nil_iff : ∀ {l : List Int}, trim l = [] ↔ ∀ i, cf l i = 0
  | [] => ⟨fun _ i => cf_nil, fun _ => rfl⟩
  | a :: r => by
    have ih := trim_nil_iff (l := r)
    rw [trim_cons]
    constructor
    · intro h i
      split at h
      · next e =>
        split at h
        · next ea => cases i with
          | zero => exact ea
          | succ i => rw [cf_succ]; exact ih.mp e i
        · cases h
      · cases h
    · intro h
      have e : trim r = [] := ih.mpr fun i => by have := h (i + 1); rwa [cf_succ] at this
      rw [if_pos e, if_pos (show a = 0 from h 0)]
theorem trim_ext : ∀ {l m : List Int}, (∀ i, cf l i = cf m i) → trim l = trim m
  | [], m, h => (trim_nil_iff (l := m).mpr fun i => by rw [← h i, cf_nil]).symm
  | l, [], h => trim_nil_iff (l := l).mpr fun i => by rw [h i, cf_nil]
  | a :: r, b :: t, h => by
    have e : a = b := h 0
    have ih : trim r = trim t := trim_ext fun i => by have := h (i + 1); rwa [cf_succ, cf_succ] at this
    rw [trim_cons, trim_cons, ih, e]
theorem trim_self : ∀ {l : List Int}, (l = [] ∨ cf l (l.length - 1) ≠ 0) → trim l = l
  | [], _ => rfl
  | [a], h => by
    have : a ≠ 0 := by simpa [cf] using h
    rw [trim_cons]
    simp [trim, this]
  | a :: b :: r, h => by
    have h2 : cf (b :: r) ((b :: r).length - 1) ≠ 0 := by
      rcases h with h | h
      · cases h
      · simpa [cf] using h
    have ih := trim_self (l := b :: r) (.inr h2)
    rw [trim_cons, ih]
    simp
theorem trim_last {l : List Int} : trim l = [] ∨ cf (trim l) ((trim l).length - 1) ≠ 0 := by
  have key : ∀ l : List Int, trim l = [] ∨ cf (trim l) ((trim l).length - 1) ≠ 0 := by
    intro l
    induction l with
    | nil => exact .inl rfl
    | cons a r ih =>
      rw [trim_cons]
      split
      · split
        · exact .inl rfl
        · next ea => exact .inr (by simpa [cf] using ea)
      · next e =>
        right
        rcases ih with ih | ih
        · exact absurd ih e
        · cases ht : trim r with
          | nil => exact absurd ht e
          | cons b t => rw [ht] at ih; simpa [cf] using ih
  exact key l
theorem trim_len {l : List Int} {n : Nat} (h : ∀ i, n ≤ i → cf l i = 0) : (trim l).length ≤ n := by
  rcases trim_last (l := l) with e | e
  · rw [e]; exact Nat.zero_le _
  · rcases Nat.lt_or_ge n (trim l).length with z | z
    · rw [cf_trim, h _ (by omega)] at e; exact absurd rfl e
    · exact z
theorem trim_le (l : List Int) : (trim l).length ≤ l.length := trim_len fun i hi => cf_ge hi
theorem trim_take {l : List Int} {n : Nat} (hn : n ≤ l.length) (h : ∀ i, n ≤ i → cf l i = 0) (h2 : n = 0 ∨ cf l (n - 1) ≠ 0) : l.take n = trim l := by
  have e : trim (l.take n) = trim l := trim_ext fun i => by
    rw [cf_take]
    split
    · rfl
    · next z => rw [h i (by omega)]
  rw [← e]
  refine (trim_self ?_).symm
  rcases h2 with h2 | h2
  · subst h2; exact .inl rfl
  · rcases Nat.eq_zero_or_pos n with z | z
    · subst z; exact .inl rfl
    · right
      rw [List.length_take, Nat.min_eq_left hn, cf_take, if_pos (by omega)]
      exact h2
def conv (a b : List Int) : Nat → Nat → Int
  | 0, _ => 0
  | i + 1, n => conv a b i n + (if i ≤ n then cf a i * cf b (n - i) else 0)
end Tw
set_option maxHeartbeats 4000000
namespace Tw
open PySem PySem.Spec L2
open PyProof.Rows (b2i)
abbrev iL (l : List Int) : List D := l.map D.int
theorem iL_len {l : List Int} : (iL l).length = l.length := List.length_map _
theorem iL_at {l : List Int} {i : Nat} (h : i < l.length) : (iL l)[i]? = some (.int (cf l i)) := by rw [List.getElem?_map, cf_lt h]; rfl
theorem iL_atI {l : List Int} {i : Int} (h : 0 ≤ i) (h2 : i < l.length) : atI (iL l) i = some (.int (cf l i.toNat)) := by
  rw [atI_ge h, iL_at (by omega)]
theorem iL_inj {l m : List Int} (h : iL l = iL m) : l = m := (List.map_inj_right (fun a b e => by cases e; rfl)).mp h
theorem iL_mem {l : List Int} {d : D} (h : d ∈ iL l) : ∃ i, d = .int i ∧ i ∈ l := by
  obtain ⟨i, hi, rfl⟩ := List.mem_map.mp h
  exact ⟨i, rfl, hi⟩
/-- a row: a list (a tree or a cell), a tuple -/
def RowV (W : Om) (x : D) (xs : List D) : Prop := x = .lst xs ∨ x = .tup xs ∨ ∃ q, x = .ptr q ∧ W q = some (.lst xs)
theorem RowV.sq {W : Om} {x : D} {xs : List D} (h : RowV W x xs) : SqV W x xs := by
  rcases h with rfl | rfl | ⟨q, rfl, e⟩
  · exact .lst
  · exact .tup
  · exact .ptr e
theorem RowV.off {W : Om} {x : D} {xs : List D} {p : Addr} {m : MO} (h : RowV W x xs) (hp : W p = none) : RowV (W.set p m) x xs := by
  rcases h with rfl | rfl | ⟨q, rfl, e⟩
  · exact .inl rfl
  · exact .inr (.inl rfl)
  · refine .inr (.inr ⟨q, rfl, ?_⟩)
    rw [Om.set_ne]
    · exact e
    · rintro rfl; rw [hp] at e; cases e
/-- the first item that is no number of the field -/
def badN (p : Int) (xs : List D) : Option D := xs.find? fun d => !isNum p d
theorem badN_none {p : Int} {xs : List D} : badN p xs = none ↔ ∀ d ∈ xs, isNum p d = true := by
  unfold badN
  rw [List.find?_eq_none]
  exact ⟨fun h d hd => by simpa using h d hd, fun h d hd => by simpa using h d hd⟩
def NumsP (p : Int) (l : List Int) : Prop := ∀ x ∈ l, 0 ≤ x ∧ x < p
theorem NumsP.bad {p : Int} {l : List Int} (h : NumsP p l) : badN p (iL l) = none := badN_none.mpr fun d hd => by
  obtain ⟨i, rfl, hi⟩ := iL_mem hd
  exact isNum_int.mpr (h i hi)
theorem badN_nums {p : Int} {xs : List D} (h : badN p xs = none) : ∃ l, xs = iL l ∧ NumsP p l := by
  replace h := badN_none.mp h
  induction xs with
  | nil => exact ⟨[], rfl, fun x hx => nomatch hx⟩
  | cons d xs ih =>
    obtain ⟨i, rfl, h1, h2⟩ := isNum_ex (h d List.mem_cons_self)
    obtain ⟨l, rfl, h3⟩ := ih fun e he => h e (List.mem_cons_of_mem _ he)
    exact ⟨i :: l, rfl, fun x hx => (List.mem_cons.mp hx).elim (fun e => by rw [e]; exact ⟨h1, h2⟩) (h3 x)⟩
/-- a polynomial of the program -/
def polyO (kP fp fc : Nat) (p : Int) (l : List Int) : D := .obj kP [(fp, .int p), (fc, .tup (iL l))]
section
variable {G : Gs} {k : Nat} {P : Pm} {W : Om} {R : Out → Om → Prop} {Q : PQ} {X : PX} {ds : List D}
def PCheckNumSp (cN fv : Nat) (ds : List D) (W : Om) (R : Out → Om → Prop) : Prop := match ds with
  | [.int p, x] => Knd W x ∧ (isNum p x = true → R (.ret .non) W) ∧ (isNum p x = false → R (.exc ⟨cN, [(fv, x)]⟩) W)
  | _ => False
def B_pcn (k_NotInField : Nat) : List S := [.ite (.or (.isi (.var 1) (.ty "bool")) (.not (.isi (.var 1) (.ty "int")))) [.raise k_NotInField [(.var 1)]] [], .ite (.or (.cmp .lt (.var 1) (.int 0)) (.cmp .ge (.var 1) (.var 0))) [.raise k_NotInField [(.var 1)]] []]
theorem wp_pcn {cN fv : Nat} (hx : P.xin cN = some [fv]) (h : PCheckNumSp cN fv ds W R) : wpSs G k P (B_pcn cN) (Kf R) (startG 2 ds) W := by
  unfold PCheckNumSp at h
  split at h
  · next p x =>
    obtain ⟨hk, h1, h2⟩ := h
    show wpSs G k P (B_pcn cN) (Kf R) [some (.int p), some x] W
    unfold B_pcn
    rcases hk with hk | ⟨q, ds, rfl, e⟩
    · cases x <;> (first | exact absurd rfl hk | skip)
      case int i =>
        push_cast
        refine brn_ofP (fun e => ?_) (fun e => ?_)
        · push_cast [hx]
          refine ⟨_, Sub.refl, h2 ?_⟩
          cases z : isNum p (.int i) with
          | false => rfl
          | true => have := isNum_int.mp z; omega
        push_cast
        refine brn_ofP (fun e2 => ?_) (fun e2 => ?_)
        · push_cast [hx]
          refine ⟨_, Sub.refl, h2 ?_⟩
          cases z : isNum p (.int i) with
          | false => rfl
          | true => have := isNum_int.mp z; omega
        · push_cast
          exact ⟨_, Sub.refl, h1 (isNum_int.mpr ⟨by omega, by omega⟩)⟩
      all_goals (push_cast [hx]; exact ⟨_, Sub.refl, h2 rfl⟩)
    · push_cast [e, hx]
      exact ⟨_, Sub.refl, h2 rfl⟩
  · exact h.elim
theorem call_pcn {t cN fv : Nat} {x : D} {p : Int} (hT : Has G k t (PCheckNumSp cN fv)) (hk : Knd W x) (h1 : isNum p x = true → Q .non W) (h2 : isNum p x = false → X ⟨cN, [(fv, x)]⟩ W) : callW G k t [.int p, x] W Q X := call_of (hT _ _ _ ⟨hk, h1, h2⟩)
def CheckRowSp (cT cN fv : Nat) (ds : List D) (W : Om) (R : Out → Om → Prop) : Prop := match ds with
  | [.int p, x, .int m] => ∃ xs, RowV W x xs ∧ xs.length ≤ 16777216 ∧ (∀ d ∈ xs, Knd W d) ∧ (m < xs.length → R (.exc ⟨cT, []⟩) W) ∧ ((xs.length : Int) ≤ m → badN p xs = none → R (.ret .non) W) ∧ ((xs.length : Int) ≤ m → ∀ d, badN p xs = some d → R (.exc ⟨cN, [(fv, d)]⟩) W)
  | _ => False
def B_pcr (k_TooLarge c_check_number : Nat) : List S := [.ite (.cmp .gt (.blt .len false [(.var 1)]) (.var 2)) [.raise k_TooLarge []] [], .for (.name 3) (.seq (.var 1)) [.expr (.call c_check_number [(.var 0), (.var 3)])]]
theorem wp_pcr {cT cN fv c : Nat} (hC : Has G k c (PCheckNumSp cN fv)) (hx : P.xin cT = some []) (h : CheckRowSp cT cN fv ds W R) : wpSs G k P (B_pcr cT c) (Kf R) (startG 4 ds) W := by
  unfold CheckRowSp at h
  split at h
  · next p x m =>
    obtain ⟨xs, hr, hl, hk, h1, h2, h3⟩ := h
    show wpSs G k P (B_pcr cT c) (Kf R) [some (.int p), some x, some (.int m), none] W
    unfold B_pcr
    have s := hr.sq
    have loop : ∀ w, wOk w W → (xs.length : Int) ≤ m → forW G k P (.name 3) w [.expr (.call c [.var 0, .var 3])] (Kf R) xs [some (.int p), some x, some (.int m), none] W := fun w hw hm => by
      refine for_inv (fun j g W' => W' = W ∧ (∃ y, g = [some (.int p), some x, some (.int m), y]) ∧ ∀ d ∈ xs.take j, isNum p d = true) ⟨rfl, ⟨_, rfl⟩, fun d hd => by simp at hd⟩ ?_ ?_
      · rintro j d hd g W' ⟨rfl, ⟨y, rfl⟩, hj⟩
        refine ⟨hw, ?_⟩
        have hm' := List.mem_of_getElem? hd
        have e3 : xs.take (j + 1) = xs.take j ++ [d] := by rw [List.take_add_one, hd]; rfl
        push_cast
        refine call_pcn hC (hk d hm') (fun e => ?_) fun e => ?_
        · push_cast
          refine ⟨⟨_, rfl⟩, fun d' hd' => ?_⟩
          rw [e3, List.mem_append, List.mem_singleton] at hd'
          exact hd'.elim (hj d') fun z => by rw [z]; exact e
        · push_cast
          refine ⟨_, Sub.refl, h3 hm d ?_⟩
          obtain ⟨e4, _⟩ := List.getElem?_eq_some_iff.mp hd
          have e5 : xs = xs.take j ++ d :: xs.drop (j + 1) := by
            conv => lhs; rw [← List.take_append_drop j xs, List.drop_eq_getElem_cons e4]
            rw [(List.getElem?_eq_some_iff.mp hd).2]
          unfold badN
          rw [e5, List.find?_append, List.find?_eq_none.mpr fun d' hd' => by simpa using hj d' hd', List.find?_cons]
          simp [e]
      · rintro g W' ⟨rfl, ⟨y, rfl⟩, hj⟩
        refine ⟨hw, ?_⟩
        rw [List.take_length] at hj
        push_cast
        exact ⟨_, Sub.refl, h2 hm (badN_none.mpr hj)⟩
    push_cast [s.len]
    refine brn_ofP (fun e => ?_) (fun e => ?_)
    · push_cast [hx]
      exact ⟨_, Sub.refl, h1 (by omega)⟩
    · rcases hr with rfl | rfl | ⟨q, rfl, eq⟩
      · push_cast
        exact loop none trivial (by omega)
      · push_cast
        exact loop none trivial (by omega)
      · push_cast [eq]
        exact loop (some (q, xs)) eq (by omega)
  · exact h.elim
def TrimSp (ds : List D) (W : Om) (R : Out → Om → Prop) : Prop := match ds with
  | [x] => ∃ l : List Int, RowV W x (iL l) ∧ l.length ≤ 16777216 ∧ R (.ret (.tup (iL (trim l)))) W
  | _ => False
def B_trim : List S := [.asg (.name 1) (.blt .len false [(.var 0)]), .whl (.and (.cmp .gt (.var 1) (.int 0)) (.cmp .eq (.idx (.var 0) (.bin .sub false (.var 1) (.int 1))) (.int 0))) [.asg (.name 1) (.bin .sub false (.var 1) (.int 1))], .ret (.blt .tuple false [(.slice false (.var 0) none (some (.var 1)))])]
theorem wp_trim (h : TrimSp ds W R) : wpSs G k P B_trim (Kf R) (startG 2 ds) W := by
  unfold TrimSp at h
  split at h
  · next x =>
    obtain ⟨l, hr, hl, h⟩ := h
    show wpSs G k P B_trim (Kf R) [some x, none] W
    unfold B_trim
    have s := hr.sq
    push_cast [s.len]
    refine whl_inv (fun m g W' => ∃ e : Nat, g = [some x, some (.int (e : Int))] ∧ W' = W ∧ e ≤ l.length ∧ m = e ∧ ∀ i, e ≤ i → cf l i = 0) l.length ⟨l.length, by rw [iL_len], rfl, Nat.le_refl _, rfl, fun i hi => cf_ge hi⟩ ?_
    rintro m g W' ⟨e, rfl, rfl, he, hme, hz⟩
    have fin : (e = 0 ∨ cf l (e - 1) ≠ 0) → wpSs G k P [.ret (.blt .tuple false [(.slice false (.var 0) none (some (.var 1)))])] (Kf R) [some x, some (.int (e : Int))] W' := fun h0 => by
      have e1 : (iL l).take ((e : Nat) : Int).toNat = iL (trim l) := by rw [← trim_take he hz h0, Int.toNat_natCast]; exact (List.map_take ..).symm
      rcases hr with rfl | rfl | ⟨q, rfl, eq⟩
      · push_cast
        rw [cut_to (Int.natCast_nonneg _), e1]
        exact ⟨_, Sub.refl, h⟩
      · push_cast
        rw [cut_to (Int.natCast_nonneg _), e1]
        exact ⟨_, Sub.refl, h⟩
      · push_cast [eq]
        rw [cut_to (Int.natCast_nonneg _), e1]
        exact ⟨_, Sub.refl, h⟩
    push_cast
    refine brn_ofP (fun e1 => ?_) (fun e1 => ?_)
    · push_cast [s.idx]
      rw [iL_atI (by omega) (by omega)]
      push_cast
      refine brn_ofP (fun e2 => ?_) (fun e2 => ?_)
      · push_cast
        refine ⟨e - 1, by omega, e - 1, by rw [show ((e - 1 : Nat) : Int) = (e : Int) - 1 from by omega], by omega, rfl, fun i hi => ?_⟩
        rcases Nat.lt_or_ge i e with z | z
        · have : i = ((e : Int) - 1).toNat := by omega
          rw [this]; exact e2
        · exact hz i z
      · refine fin (.inr ?_)
        rw [show e - 1 = ((e : Int) - 1).toNat from by omega]
        exact e2
    · exact brn_f rfl (fin (.inl (by omega)))
  · exact h.elim
theorem call_trim {t : Nat} {x : D} {l : List Int} (hT : Has G k t TrimSp) (hr : RowV W x (iL l)) (hl : l.length ≤ 16777216) (h : Q (.tup (iL (trim l))) W) : callW G k t [x] W Q X := call_of (hT _ _ _ ⟨l, hr, hl, h⟩)
def PInitSp (kP fp fc cP cT cN fv : Nat) (ds : List D) (W : Om) (R : Out → Om → Prop) : Prop := match ds with
  | [.ptr q, x, y] => W q = some (.ins kP []) ∧ Knd W x ∧ ∃ xs, RowV W y xs ∧ xs.length ≤ 16777216 ∧ (∀ d ∈ xs, Knd W d) ∧ ((∀ n, x = .int n → ¬ P101 n) → R (.exc ⟨cP, [(fv, x)]⟩) W) ∧ (∀ p, x = .int p → P101 p →
      (128 < xs.length → ∀ m, R (.exc ⟨cT, []⟩) (W.set q m)) ∧ (xs.length ≤ 128 → ∀ d, badN p xs = some d → ∀ m, R (.exc ⟨cN, [(fv, d)]⟩) (W.set q m)) ∧ (∀ l, xs = iL l → xs.length ≤ 128 → NumsP p l → R (.ret .non) (W.set q (.ins kP [(fp, .int p), (fc, .tup (iL (trim l)))]))))
  | _ => False
def B_pinit (f_prime c_check_prime c_check_row g_MAX_COEFFICIENTS f_coefficients c_trimmed : Nat) : List S := [.fld (.var 0) f_prime (.call c_check_prime [(.var 1)]), .expr (.call c_check_row [(.var 1), (.var 2), (.gint g_MAX_COEFFICIENTS 128)]), .fld (.var 0) f_coefficients (.call c_trimmed [(.var 2)])]
theorem wp_pinit {kP fp fc cP cT cN fv c r gi t : Nat} (hC : Has G k c (CheckPrimeSp cP fv)) (hR : Has G k r (CheckRowSp cT cN fv)) (hT : Has G k t TrimSp) (hf : P.fld kP fp = true) (hf2 : P.fld kP fc = true) (ne : (fp = fc) = False) (h : PInitSp kP fp fc cP cT cN fv ds W R) : wpSs G k P (B_pinit fp c r gi fc t) (Kf R) (startG 3 ds) W := by
  unfold PInitSp at h
  split at h
  · next q x y =>
    obtain ⟨hq, hk, xs, hr, hl, hki, h0, h1⟩ := h
    show wpSs G k P (B_pinit fp c r gi fc t) (Kf R) [some (.ptr q), some x, some y] W
    unfold B_pinit
    have nq : ∀ d : D, d ≠ .ptr q → ∀ m, Knd W d → Knd (W.set q m) d := fun d hd m hk => by
      rcases hk with hk | ⟨q', ds, rfl, e⟩
      · exact .inl hk
      · exact .inr ⟨q', ds, rfl, by rw [Om.set_ne fun e => hd (by rw [e])]; exact e⟩
    have nqk : ∀ d : D, Knd W d → d ≠ .ptr q := fun d hk e => by
      subst e
      rcases hk with hk | ⟨q', ds, e, e2⟩
      · exact hk rfl
      · cases e; rw [hq] at e2; cases e2
    have hr' : ∀ m, RowV (W.set q m) y xs := fun m => by
      rcases hr with rfl | rfl | ⟨q', rfl, e⟩
      · exact .inl rfl
      · exact .inr (.inl rfl)
      · refine .inr (.inr ⟨q', rfl, ?_⟩)
        rw [Om.set_ne]
        · exact e
        · rintro rfl; rw [hq] at e; cases e
    push_cast
    refine call_check_prime hC hk (fun n en hn => ?_) fun hn => ?_
    · subst en
      obtain ⟨k1, k2, k3⟩ := h1 n rfl hn
      push_cast [hq, hf, putN]
      refine call_of (hR _ _ _ ⟨xs, hr' _, hl, fun d hd => nq d (nqk d (hki d hd)) _ (hki d hd), fun e => ?_, fun e e2 => ?_, fun e d e2 => ?_⟩)
      · push_cast
        exact ⟨_, Sub.refl, k1 (by omega) _⟩
      · obtain ⟨l, rfl, hn⟩ := badN_nums e2
        push_cast
        refine call_trim hT (hr' _) (by rw [← iL_len (l := l)]; exact hl) ?_
        push_cast [hf2, putN, ne]
        exact ⟨_, Sub.refl, k3 l rfl (by omega) hn⟩
      · push_cast
        exact ⟨_, Sub.refl, k2 (by omega) d e2 _⟩
    · push_cast
      exact ⟨_, Sub.refl, h0 hn⟩
  · exact h.elim
/-- Poly(p, row), a good row -/
theorem mk_poly {kP fp fc cP cT cN fv c : Nat} {p : Int} {y : D} {l : List Int} (hC : Has G (k - 1) c (PInitSp kP fp fc cP cT cN fv)) (hp : P101 p) (hr : RowV W y (iL l)) (hl : l.length ≤ 128) (hn : NumsP p l) (h : Q (polyO kP fp fc p (trim l)) W) : mkW G k c kP false [.int p, y] W Q X := by
  intro q hq
  refine call_of (hC _ _ _ ⟨Om.set_same, knd_int, iL l, hr.off hq, by rw [iL_len]; omega, fun d hd => ?_, fun z => absurd hp (z p rfl), fun p' ep hp' => ?_⟩)
  · obtain ⟨i, rfl, _⟩ := iL_mem hd
    exact knd_int
  · cases ep
    refine ⟨fun z => ?_, fun _ d z => ?_, fun l' el _ _ => ?_⟩
    · rw [iL_len] at z; omega
    · rw [hn.bad] at z; cases z
    · cases iL_inj el
      refine ⟨rfl, kP, [(fp, .int p), (fc, .tup (iL (trim l)))], ?_, ?_⟩
      · rw [Om.set_set, Om.set_same]
      · rw [Om.set_set, Om.del_set hq]
        exact h
end
end Tw
set_option maxHeartbeats 4000000
namespace Tw
open PySem PySem.Spec L2
open PyProof.Rows (b2i)
end Tw
set_option maxHeartbeats 4000000
namespace Tw
open PySem PySem.Spec L2
open PyProof.Rows (b2i)
theorem lk_p {fp fc : Nat} {a b : D} : List.lookup fp [(fp, a), (fc, b)] = some a := by simp [List.lookup]
theorem lk_c {fp fc : Nat} {a b : D} (h : fp ≠ fc) : List.lookup fc [(fp, a), (fc, b)] = some b := by
  have e : (fc == fp) = false := by simpa using Ne.symm h
  simp [List.lookup, e]
section
variable {G : Gs} {k : Nat} {P : Pm} {W : Om} {R : Out → Om → Prop} {Q : PQ} {X : PX} {ds : List D}
def CheckRangeSp (cO : Nat) (ds : List D) (W : Om) (R : Out → Om → Prop) : Prop := match ds with
  | [x, .int m] => Knd W x ∧ (isNum (m + 1) x = true → R (.ret .non) W) ∧ (isNum (m + 1) x = false → R (.exc ⟨cO, []⟩) W)
  | _ => False
def B_pcg (k_OutOfRange : Nat) : List S := [.ite (.or (.isi (.var 0) (.ty "bool")) (.not (.isi (.var 0) (.ty "int")))) [.raise k_OutOfRange []] [], .ite (.or (.cmp .lt (.var 0) (.int 0)) (.cmp .gt (.var 0) (.var 1))) [.raise k_OutOfRange []] []]
theorem wp_pcg {cO : Nat} (hx : P.xin cO = some []) (h : CheckRangeSp cO ds W R) : wpSs G k P (B_pcg cO) (Kf R) (startG 2 ds) W := by
  unfold CheckRangeSp at h
  split at h
  · next x m =>
    obtain ⟨hk, h1, h2⟩ := h
    show wpSs G k P (B_pcg cO) (Kf R) [some x, some (.int m)] W
    unfold B_pcg
    rcases hk with hk | ⟨q, ds, rfl, e⟩
    · cases x <;> (first | exact absurd rfl hk | skip)
      case int i =>
        push_cast
        refine brn_ofP (fun e => ?_) (fun e => ?_)
        · push_cast [hx]
          refine ⟨_, Sub.refl, h2 ?_⟩
          cases z : isNum (m + 1) (.int i) with
          | false => rfl
          | true => have := isNum_int.mp z; omega
        push_cast
        refine brn_ofP (fun e2 => ?_) (fun e2 => ?_)
        · push_cast [hx]
          refine ⟨_, Sub.refl, h2 ?_⟩
          cases z : isNum (m + 1) (.int i) with
          | false => rfl
          | true => have := isNum_int.mp z; omega
        · push_cast
          exact ⟨_, Sub.refl, h1 (isNum_int.mpr ⟨by omega, by omega⟩)⟩
      all_goals (push_cast [hx]; exact ⟨_, Sub.refl, h2 rfl⟩)
    · push_cast [e, hx]
      exact ⟨_, Sub.refl, h2 rfl⟩
  · exact h.elim
end
end Tw
set_option maxHeartbeats 4000000
namespace Tw
open PySem PySem.Spec L2
open PyProof.Rows (b2i)
end Tw
set_option maxHeartbeats 4000000
namespace Tw
open PySem PySem.Spec L2
open PyProof.Rows (b2i)
section
variable {G : Gs} {k : Nat} {P : Pm} {W : Om} {R : Out → Om → Prop} {Q : PQ} {X : PX} {ds : List D}
theorem RowV.set {W : Om} {x : D} {xs : List D} {q : Addr} {m : MO} (h : RowV W x xs) (hq : W q = none) : RowV (W.set q m) x xs := h.off hq
end
end Tw
set_option maxHeartbeats 4000000
namespace Tw
open PySem PySem.Spec L2
open PyProof.Rows (b2i)
section
variable {G : Gs} {k : Nat} {P : Pm} {W : Om} {R : Out → Om → Prop} {Q : PQ} {X : PX} {ds : List D}
theorem sub_new {W : Om} {q : Addr} {m : MO} (hq : W q = none) : Sub W (W.set q m) := fun b x hb => by
  rw [Om.set_ne]
  · exact hb
  · rintro rfl; rw [hq] at hb; cases hb
/-- the polynomial due (the check that holds) -/
def PolyIsSp (kP fp fc k0 : Nat) (ds : List D) (W : Om) (R : Out → Om → Prop) : Prop := match ds with
  | [o, .int p, y] => 1 < k0 ∧ ∃ l f : List Int, o = polyO kP fp fc p l ∧ RowV W y (iL f) ∧ f.length ≤ 100000 ∧ l = trim f ∧ R (.ret (.bl true)) W
  | _ => False
def B_polyis (k_Poly c_law_same f_coefficients c_law_trim f_prime : Nat) : List S := [.ite (.not (.isi (.var 0) (.own k_Poly))) [.ret (.bl false)] [], .ret (.and (.call c_law_same [(.attr (.var 0) f_prime), (.var 1)]) (.call c_law_same [(.attr (.var 0) f_coefficients), (.call c_law_trim [(.var 2)])]))]
theorem pl_ints {l : List Int} (h : l.length ≤ 16777216) : pln 1 (.tup (iL l)) := pln_tup (by rw [iL_len]; exact h) fun d hd => by obtain ⟨i, rfl, _⟩ := iL_mem hd; exact pln_flat rfl
theorem wp_polyis {kP fp fc s t k0 : Nat} (hS : Has G k s (SameSp k)) (hT : Has G k t TrimSp) (hk : k0 ≤ k) (ho : P.isO kP = true) (hkk : P.kin kP kP = true) (ne : fp ≠ fc) (h : PolyIsSp kP fp fc k0 ds W R) : wpSs G k P (B_polyis kP s fc t fp) (Kf R) (startG 3 ds) W := by
  unfold PolyIsSp at h
  split at h
  · next o p y =>
    obtain ⟨hk0, l, f, rfl, hr, lf, rfl, h⟩ := h
    have := trim_le f
    show wpSs G k P (B_polyis kP s fc t fp) (Kf R) [some (.obj kP [(fp, .int p), (fc, .tup (iL (trim f)))]), some (.int p), some y] W
    unfold B_polyis
    push_cast [ho, hkk, lk_p]
    refine call_same_t hS (n := 0) (by omega) (pln_flat rfl) (.inl rfl) (.inl rfl) ?_
    push_cast [lk_c ne]
    refine call_trim hT hr (by omega) ?_
    push_cast
    refine call_same_t hS (n := 1) (by omega) (pl_ints (by omega)) (.inl rfl) (.inl rfl) ?_
    push_cast
    exact ⟨_, Sub.refl, h⟩
  · exact h.elim
theorem call_polyis {kP fp fc k0 s : Nat} {p : Int} {o y : D} {l f : List Int} (hS : Has G k s (PolyIsSp kP fp fc k0)) (h0 : 1 < k0) (ho : o = polyO kP fp fc p l) (hr : RowV W y (iL f)) (lf : f.length ≤ 100000) (e : l = trim f) (h : Q (.bl true) W) : callW G k s [o, .int p, y] W Q X :=
  call_of (hS _ _ _ ⟨h0, l, f, ho, hr, lf, e, h⟩)
end
end Tw
set_option maxHeartbeats 4000000
namespace Tw
open PySem PySem.Spec L2
open PyProof.Rows (b2i)
theorem badPv {d : D} (h : BadPv d) : pln 1 d ∧ ∀ n, d = .int n → ¬ P101 n := by
  rcases h with ⟨i, rfl, hi⟩ | h
  · exact ⟨pln_flat rfl, fun n e => by cases e; exact hi⟩
  · unfold otherL at h
    simp only [List.mem_cons, List.not_mem_nil, or_false] at h
    rcases h with rfl | rfl | rfl | rfl | rfl | rfl | rfl | rfl | rfl
    all_goals refine ⟨?_, fun n e => (by cases e)⟩
    any_goals exact pln_flat rfl
    · exact pln_tup (by simp) (fun x hx => by simp at hx)
    · exact pln_tup (by simp) (fun x hx => by simp at hx; subst hx; exact pln_flat rfl)
section
variable {G : Gs} {k : Nat} {P : Pm} {W : Om} {R : Out → Om → Prop} {Q : PQ} {X : PX} {ds : List D}
/-- a row handed in: a tuple, or a new cell -/
def HandV (W : Om) (a : Addr) (W' : Om) (y : D) (xs : List D) : Prop := (y = .tup xs ∨ ∃ q, y = .ptr q ∧ W q = none ∧ q ≠ a ∧ W' q = some (.lst xs)) ∧ ∀ q m, q ≠ a → W q = some m → W' q = some m
theorem HandV.row {W W' : Om} {a : Addr} {y : D} {xs : List D} (h : HandV W a W' y xs) : RowV W' y xs := by
  rcases h.1 with rfl | ⟨q, rfl, _, _, e⟩
  · exact .inr (.inl rfl)
  · exact .inr (.inr ⟨q, rfl, e⟩)
/-- the first row's cell, after the second row is handed in -/
theorem HandV.keep {W W1 W2 : Om} {a : Addr} {y1 y2 : D} {xs ys : List D} (h : HandV W a W1 y1 xs) (h2 : HandV W1 a W2 y2 ys) : (y1 = .tup xs ∨ ∃ q, y1 = .ptr q ∧ q ≠ a ∧ W2 q = some (.lst xs)) ∧ ∀ q, y1 = .ptr q → y2 ≠ .ptr q := by
  refine ⟨?_, fun q e1 e2 => ?_⟩
  · rcases h.1 with rfl | ⟨q, rfl, _, hq, e⟩
    · exact .inl rfl
    · exact .inr ⟨q, rfl, hq, h2.2 q _ hq e⟩
  · subst e1
    rcases h.1 with e | ⟨q1, e, _, hq, e3⟩
    · cases e
    · cases e
      rcases h2.1 with e | ⟨q2, e, e4, _⟩
      · rw [e2] at e; cases e
      · rw [e2] at e; cases e; rw [e3] at e4; cases e4
end
end Tw
set_option maxHeartbeats 4000000
namespace K14
open PySem PySem.Spec L2 Tw
open PyProof.Rows (b2i)
def NeverSp (ds : List D) (W : Om) (R : Out → Om → Prop) : Prop := match ds with
  | [] => False
  | _ => False
theorem wp_never {ds : List D} {W : Om} {R : Out → Om → Prop} {α : Prop} (h : NeverSp ds W R) : α := by
  unfold NeverSp at h
  split at h <;> exact h.elim
/-- the figures of k to the base p, m of them -/
def figs (p : Nat) : Nat → Nat → List Int
  | 0, _ => []
  | m + 1, k => figs p m (k / p) ++ [((k % p : Nat) : Int)]
def rowsD (p m : Nat) : List D := (List.range (p ^ m)).map fun k => D.tup (iL (figs p m k))
abbrev pO (p : Int) (l : List Int) : D := polyO 9 2 3 p l
def polysD (p m : Nat) : List D := (List.range (p ^ m)).map fun k => pO p (trim (figs p m k))
def PowSp (ds : List D) (W : Om) (R : Out → Om → Prop) : Prop := match ds with
  | [.int p, .int m] => ∃ a b : Nat, p = a ∧ m = b ∧ a ≤ 1000 ∧ b ≤ 1000 ∧ R (.ret (.int ((a ^ b : Nat) : Int))) W
  | _ => False
def AllRowsSp (ds : List D) (W : Om) (R : Out → Om → Prop) : Prop := match ds with
  | [x, y] => Knd W x ∧ Knd W y ∧ ((∀ n, x = .int n → ¬ P101 n) → R (.exc ⟨7, [(0, x)]⟩) W) ∧ (∀ p : Nat, x = .int p → P101 p →
      ((∀ n, y = .int n → ¬ (0 ≤ n ∧ n ≤ 128)) → R (.exc ⟨4, []⟩) W) ∧ (∀ m : Nat, y = .int m → m ≤ 128 → (1024 < p ^ m → R (.exc ⟨5, []⟩) W) ∧ (p ^ m ≤ 1024 → ∀ q, W q = none → R (.ret (.ptr q)) (W.set q (.lst (rowsD p m))))))
  | _ => False
def AllPolysSp (ds : List D) (W : Om) (R : Out → Om → Prop) : Prop := match ds with
  | [x, y] => Knd W x ∧ Knd W y ∧ ((∀ n, x = .int n → ¬ P101 n) → R (.exc ⟨7, [(0, x)]⟩) W) ∧ (∀ p : Nat, x = .int p → P101 p →
      ((∀ n, y = .int n → ¬ (0 ≤ n ∧ n ≤ 127)) → R (.exc ⟨4, []⟩) W) ∧ (∀ m : Nat, y = .int m → m ≤ 127 → (1024 < p ^ (m + 1) → R (.exc ⟨5, []⟩) W) ∧ (p ^ (m + 1) ≤ 1024 → ∀ q, W q = none → R (.ret (.ptr q)) (W.set q (.lst (polysD p (m + 1)))))))
  | _ => False
def FitPrimeSp (ds : List D) (W : Om) (R : Out → Om → Prop) : Prop := match ds with
  | [.ptr a, .int m, .int n] => ∃ b : Nat, m = b ∧ b ≤ 10 ∧ 2 ^ b ≤ n ∧ StOk W a ∧ ∀ (p : Nat) m', P101 p → ((p ^ b : Nat) : Int) ≤ n → StoreM m' → R (.ret (.int p)) (W.set a m')
  | _ => False
abbrev kindsL (s : Str) : D := .lst [.str "ValueError", .str "TalkError", .str s]
def KindsSp (ds : List D) (W : Om) (R : Out → Om → Prop) : Prop := match ds with
  | [.exn C fs] => (C = 5 ∧ R (.ret (kindsL "TooLarge")) W) ∨ (C = 7 ∧ R (.ret (kindsL "NotPrime")) W) ∨ (C = 4 ∧ R (.ret (kindsL "OutOfRange")) W)
  | _ => False
def ErrSp (z : Nat) (ds : List D) (W : Om) (R : Out → Om → Prop) : Prop := match ds with
  | [x, y] => Knd W x ∧ Knd W y ∧ (((∀ n, x = .int n → ¬ P101 n) ∧ R (.ret (.tup [kindsL "NotPrime", x])) W) ∨ ∃ p : Nat, x = .int p ∧ P101 p ∧
      (((∀ n, y = .int n → ¬ (0 ≤ n ∧ n ≤ 128 - (z : Int))) ∧ R (.ret (.tup [kindsL "OutOfRange", .non])) W) ∨ ∃ m : Nat, y = .int m ∧ m + z ≤ 128 ∧ 1024 < p ^ (m + z) ∧ R (.ret (.tup [kindsL "TooLarge", .non])) W))
  | _ => False
abbrev RowsErrSp := ErrSp 0
abbrev PolysErrSp := ErrSp 1
def DueSp (ds : List D) (W : Om) (R : Out → Om → Prop) : Prop := match ds with
  | [.str s, v] => R (.ret (.tup [kindsL s, v])) W
  | _ => False
def FiguresSp (ds : List D) (W : Om) (R : Out → Om → Prop) : Prop := match ds with
  | [.int p, .int m, .int k] => ∃ a b c : Nat, p = a ∧ m = b ∧ k = c ∧ 0 < a ∧ a ≤ 1000 ∧ b ≤ 1000 ∧ R (.ret (.lst (iL (figs a b c)))) W
  | _ => False
def RowsListedSp (ds : List D) (W : Om) (R : Out → Om → Prop) : Prop := match ds with
  | [.ptr q, .int p, .int m] => ∃ a b : Nat, p = a ∧ m = b ∧ W q = some (.lst (rowsD a b)) ∧ 0 < a ∧ a ≤ 101 ∧ b ≤ 128 ∧ a ^ b ≤ 1024 ∧ R (.ret (.bl true)) W
  | _ => False
def PolysListedSp (ds : List D) (W : Om) (R : Out → Om → Prop) : Prop := match ds with
  | [.ptr q, .int p, .int m] => ∃ a b : Nat, p = a ∧ m = b ∧ W q = some (.lst (polysD a b)) ∧ 0 < a ∧ a ≤ 101 ∧ b ≤ 128 ∧ a ^ b ≤ 1024 ∧ R (.ret (.bl true)) W
  | _ => False
def RefusedSp (ds : List D) (W : Om) (R : Out → Om → Prop) : Prop := match ds with
  | [.ptr a, .int p] => ∃ b : Nat, p = b ∧ P101 b ∧ StOk W a ∧ ∀ m', StoreM m' → R (.ret (.bl true)) (W.set a m')
  | _ => False
def LawSp (ds : List D) (W : Om) (R : Out → Om → Prop) : Prop := match ds with
  | [.scr ns] => ns.length ≤ 63 ∧ ∀ W', R (.ret (.bl true)) W'
  | _ => False
def noLO (d : D) : Bool := match d with
  | .tup _ => true | .obj C _ => decide (C = 9) | _ => false
def SpoilOSp (ds : List D) (W : Om) (R : Out → Om → Prop) : Prop := match ds with
  | [.ptr p] => ∃ xs, W p = some (.lst xs) ∧ (∀ d ∈ xs, noLO d = true) ∧ xs.length < 16777216 ∧ R (.ret .non) (W.set p (.lst (xs.reverse ++ [.non])))
  | _ => False
def G : Gs := fun f k ds W R => match f with
  | 0 => 1 ≤ k ∧ NeverSp ds W R
  | 1 => 1 ≤ k ∧ WholeSp ds W R
  | 2 => 1 ≤ k ∧ HasDivSp ds W R
  | 3 => 2 ≤ k ∧ (CheckPrimeSp 7 0) ds W R
  | 4 => 1 ≤ k ∧ (PCheckNumSp 8 0) ds W R
  | 5 => 2 ≤ k ∧ (CheckRowSp 5 8 0) ds W R
  | 6 => 1 ≤ k ∧ (CheckRangeSp 4) ds W R
  | 7 => 1 ≤ k ∧ NeverSp ds W R
  | 8 => 1 ≤ k ∧ TrimSp ds W R
  | 9 => 1 ≤ k ∧ NeverSp ds W R
  | 10 => 3 ≤ k ∧ AllRowsSp ds W R
  | 11 => 5 ≤ k ∧ AllPolysSp ds W R
  | 12 => 1 ≤ k ∧ MixSp ds W R
  | 13 => 1 ≤ k ∧ StoreSp ds W R
  | 14 => 2 ≤ k ∧ TakeSp ds W R
  | 15 => 3 ≤ k ∧ EdgeSp ds W R
  | 16 => 3 ≤ k ∧ ChanceSp ds W R
  | 17 => 3 ≤ k ∧ PickSp ds W R
  | 18 => 4 ≤ k ∧ OtherSp ds W R
  | 19 => 5 ≤ k ∧ BadIntSp ds W R
  | 20 => 1 ≤ k ∧ PrimesSp ds W R
  | 21 => 4 ≤ k ∧ PrimeSp ds W R
  | 22 => 1 ≤ k ∧ PowSp ds W R
  | 23 => 3 ≤ k ∧ FitPrimeSp ds W R
  | 24 => 5 ≤ k ∧ BadPrimeSp ds W R
  | 25 => (SameSp k) ds W R
  | 26 => 1 ≤ k ∧ SpoilOSp ds W R
  | 27 => 5 ≤ k ∧ (PolyIsSp 9 2 3 4) ds W R
  | 28 => 1 ≤ k ∧ TrimSp ds W R
  | 29 => 1 ≤ k ∧ KindsSp ds W R
  | 30 => 4 ≤ k ∧ (ErrSp 0) ds W R
  | 31 => 6 ≤ k ∧ (ErrSp 1) ds W R
  | 32 => 1 ≤ k ∧ DueSp ds W R
  | 33 => 1 ≤ k ∧ FiguresSp ds W R
  | 34 => 4 ≤ k ∧ RowsListedSp ds W R
  | 35 => 6 ≤ k ∧ PolysListedSp ds W R
  | 36 => 7 ≤ k ∧ RefusedSp ds W R
  | 37 => 8 ≤ k ∧ LawSp ds W R
  | 38 => 3 ≤ k ∧ (PInitSp 9 2 3 7 5 8 0) ds W R
  | 39 => 1 ≤ k ∧ NeverSp ds W R
  | 40 => 1 ≤ k ∧ NeverSp ds W R
  | 41 => 1 ≤ k ∧ NeverSp ds W R
  | 42 => 1 ≤ k ∧ NeverSp ds W R
  | 43 => 1 ≤ k ∧ NeverSp ds W R
  | 44 => 1 ≤ k ∧ NeverSp ds W R
  | 45 => 1 ≤ k ∧ NeverSp ds W R
  | 46 => 1 ≤ k ∧ NeverSp ds W R
  | 47 => 1 ≤ k ∧ NeverSp ds W R
  | 48 => 1 ≤ k ∧ NeverSp ds W R
  | 49 => 1 ≤ k ∧ NeverSp ds W R
  | 50 => 1 ≤ k ∧ NeverSp ds W R
  | 51 => 1 ≤ k ∧ NeverSp ds W R
  | 52 => 1 ≤ k ∧ NeverSp ds W R
  | _ => False
theorem h_whole {k : Nat} (hk : 1 ≤ k) : Has G k 1 (WholeSp) := fun _ _ _ h => ⟨hk, h⟩
theorem h_hasdiv {k : Nat} (hk : 1 ≤ k) : Has G k 2 (HasDivSp) := fun _ _ _ h => ⟨hk, h⟩
theorem h_checkprime {k : Nat} (hk : 2 ≤ k) : Has G k 3 ((CheckPrimeSp 7 0)) := fun _ _ _ h => ⟨hk, h⟩
theorem h_pcn {k : Nat} (hk : 1 ≤ k) : Has G k 4 ((PCheckNumSp 8 0)) := fun _ _ _ h => ⟨hk, h⟩
theorem h_pcr {k : Nat} (hk : 2 ≤ k) : Has G k 5 ((CheckRowSp 5 8 0)) := fun _ _ _ h => ⟨hk, h⟩
theorem h_pcg {k : Nat} (hk : 1 ≤ k) : Has G k 6 ((CheckRangeSp 4)) := fun _ _ _ h => ⟨hk, h⟩
theorem h_trimmed {k : Nat} (hk : 1 ≤ k) : Has G k 8 (TrimSp) := fun _ _ _ h => ⟨hk, h⟩
theorem h_allrows {k : Nat} (hk : 3 ≤ k) : Has G k 10 (AllRowsSp) := fun _ _ _ h => ⟨hk, h⟩
theorem h_allpolys {k : Nat} (hk : 5 ≤ k) : Has G k 11 (AllPolysSp) := fun _ _ _ h => ⟨hk, h⟩
theorem h_mix {k : Nat} (hk : 1 ≤ k) : Has G k 12 (MixSp) := fun _ _ _ h => ⟨hk, h⟩
theorem h_store {k : Nat} (hk : 1 ≤ k) : Has G k 13 (StoreSp) := fun _ _ _ h => ⟨hk, h⟩
theorem h_take {k : Nat} (hk : 2 ≤ k) : Has G k 14 (TakeSp) := fun _ _ _ h => ⟨hk, h⟩
theorem h_edge {k : Nat} (hk : 3 ≤ k) : Has G k 15 (EdgeSp) := fun _ _ _ h => ⟨hk, h⟩
theorem h_chance {k : Nat} (hk : 3 ≤ k) : Has G k 16 (ChanceSp) := fun _ _ _ h => ⟨hk, h⟩
theorem h_pick {k : Nat} (hk : 3 ≤ k) : Has G k 17 (PickSp) := fun _ _ _ h => ⟨hk, h⟩
theorem h_other {k : Nat} (hk : 4 ≤ k) : Has G k 18 (OtherSp) := fun _ _ _ h => ⟨hk, h⟩
theorem h_badint {k : Nat} (hk : 5 ≤ k) : Has G k 19 (BadIntSp) := fun _ _ _ h => ⟨hk, h⟩
theorem h_primes {k : Nat} (hk : 1 ≤ k) : Has G k 20 (PrimesSp) := fun _ _ _ h => ⟨hk, h⟩
theorem h_prime {k : Nat} (hk : 4 ≤ k) : Has G k 21 (PrimeSp) := fun _ _ _ h => ⟨hk, h⟩
theorem h_power {k : Nat} (hk : 1 ≤ k) : Has G k 22 (PowSp) := fun _ _ _ h => ⟨hk, h⟩
theorem h_fitprime {k : Nat} (hk : 3 ≤ k) : Has G k 23 (FitPrimeSp) := fun _ _ _ h => ⟨hk, h⟩
theorem h_badprime {k : Nat} (hk : 5 ≤ k) : Has G k 24 (BadPrimeSp) := fun _ _ _ h => ⟨hk, h⟩
theorem h_same {k : Nat} : Has G k 25 ((SameSp k)) := fun _ _ _ h => h
theorem h_spoil {k : Nat} (hk : 1 ≤ k) : Has G k 26 (SpoilOSp) := fun _ _ _ h => ⟨hk, h⟩
theorem h_polyis {k : Nat} (hk : 5 ≤ k) : Has G k 27 ((PolyIsSp 9 2 3 4)) := fun _ _ _ h => ⟨hk, h⟩
theorem h_ltrim {k : Nat} (hk : 1 ≤ k) : Has G k 28 (TrimSp) := fun _ _ _ h => ⟨hk, h⟩
theorem h_kinds {k : Nat} (hk : 1 ≤ k) : Has G k 29 (KindsSp) := fun _ _ _ h => ⟨hk, h⟩
theorem h_rowserr {k : Nat} (hk : 4 ≤ k) : Has G k 30 ((ErrSp 0)) := fun _ _ _ h => ⟨hk, h⟩
theorem h_polyserr {k : Nat} (hk : 6 ≤ k) : Has G k 31 ((ErrSp 1)) := fun _ _ _ h => ⟨hk, h⟩
theorem h_due {k : Nat} (hk : 1 ≤ k) : Has G k 32 (DueSp) := fun _ _ _ h => ⟨hk, h⟩
theorem h_figures {k : Nat} (hk : 1 ≤ k) : Has G k 33 (FiguresSp) := fun _ _ _ h => ⟨hk, h⟩
theorem h_rowslisted {k : Nat} (hk : 4 ≤ k) : Has G k 34 (RowsListedSp) := fun _ _ _ h => ⟨hk, h⟩
theorem h_polyslisted {k : Nat} (hk : 6 ≤ k) : Has G k 35 (PolysListedSp) := fun _ _ _ h => ⟨hk, h⟩
theorem h_refused {k : Nat} (hk : 7 ≤ k) : Has G k 36 (RefusedSp) := fun _ _ _ h => ⟨hk, h⟩
theorem h_pinit {k : Nat} (hk : 3 ≤ k) : Has G k 38 ((PInitSp 9 2 3 7 5 8 0)) := fun _ _ _ h => ⟨hk, h⟩
theorem figs_len {p : Nat} : ∀ {m k : Nat}, (figs p m k).length = m
  | 0, _ => rfl
  | m + 1, k => by rw [figs, List.length_append, figs_len]; rfl
theorem figs_cons {p : Nat} : ∀ {m k : Nat}, figs p (m + 1) k = ((k / p ^ m % p : Nat) : Int) :: figs p m k
  | 0, k => by rw [figs, figs, figs, Nat.pow_zero, Nat.div_one]; rfl
  | m + 1, k => by
    rw [figs, figs_cons, List.cons_append, Nat.div_div_eq_div_mul, ← Nat.pow_succ']
    rfl
theorem figs_nums {p : Nat} (hp : 0 < p) : ∀ {m k : Nat}, NumsP p (figs p m k)
  | 0, _ => fun x hx => nomatch hx
  | m + 1, k => fun x hx => by
    rw [figs] at hx
    rcases List.mem_append.mp hx with z | z
    · exact figs_nums hp x z
    · rw [List.mem_singleton] at z
      have := Nat.mod_lt k hp
      omega
theorem rows_len {p m : Nat} : (rowsD p m).length = p ^ m := by unfold rowsD; rw [List.length_map, List.length_range]
theorem polys_len {p m : Nat} : (polysD p m).length = p ^ m := by unfold polysD; rw [List.length_map, List.length_range]
theorem rows_at {p m k : Nat} (h : k < p ^ m) : (rowsD p m)[k]? = some (.tup (iL (figs p m k))) := by
  unfold rowsD
  rw [List.getElem?_map, List.getElem?_range h]
  rfl
theorem polys_at {p m k : Nat} (h : k < p ^ m) : (polysD p m)[k]? = some (pO p (trim (figs p m k))) := by
  unfold polysD
  rw [List.getElem?_map, List.getElem?_range h]
  rfl
/-- the rows by one figure more -/
def nextD (p m n : Nat) : List D := (List.range (n * p)).map fun k => D.tup (iL (figs p (m + 1) k))
theorem next_full {p m : Nat} : nextD p m (p ^ m) = rowsD p (m + 1) := by unfold nextD rowsD; rw [Nat.pow_succ]
theorem next_succ {p m n : Nat} (hp : 0 < p) : nextD p m (n + 1) = nextD p m n ++ (List.range p).map fun x => D.tup (iL (figs p m n ++ [((x : Nat) : Int)])) := by
  unfold nextD
  rw [Nat.succ_mul, List.range_add, List.map_append, List.map_map]
  congr 1
  refine List.map_congr_left fun x hx => ?_
  have hx := List.mem_range.mp hx
  show D.tup (iL (figs p (m + 1) (n * p + x))) = _
  rw [figs, Nat.mul_comm n p, Nat.mul_add_div hp, Nat.div_eq_of_lt hx, Nat.add_zero, Nat.mul_add_mod, Nat.mod_eq_of_lt hx]
theorem pow_grow {p a b : Nat} (hp : 0 < p) (h : a ≤ b) : p ^ a ≤ p ^ b := Nat.pow_le_pow_right hp h
theorem set_mid {a : List Int} {x y : Int} {b : List Int} : (a ++ x :: b).set a.length y = a ++ y :: b := by
  induction a with
  | nil => rfl
  | cons z r ih => show z :: (r ++ x :: b).set r.length y = z :: (r ++ y :: b); rw [ih]
end K14
set_option maxHeartbeats 4000000
namespace K14
open PySem PySem.Spec L2 Tw
open PyProof.Rows (b2i)
abbrev P : Pm := L.ts.toPm
section
variable {k : Nat} {W : Om} {R : Out → Om → Prop} {Q : PQ} {X : PX} {ds : List D}
theorem wp_power {G : Gs} {P : Pm} (h : PowSp ds W R) : wpSs G k P [.asg (.name 2) (.int 1), .for (.name 3) (.rng [(.var 1)]) [.asg (.name 2) (.bin .mul false (.var 2) (.var 0))], .ret (.var 2)] (Kf R) (startG 4 ds) W := by
  unfold PowSp at h
  split at h
  · next p m =>
    obtain ⟨a, b, rfl, rfl, ha, hb, h⟩ := h
    show wpSs G k P [.asg (.name 2) (.int 1), .for (.name 3) (.rng [(.var 1)]) [.asg (.name 2) (.bin .mul false (.var 2) (.var 0))], .ret (.var 2)] (Kf R) [some (.int a), some (.int b), none, none] W
    push_cast
    refine ⟨by omega, ?_⟩
    refine for_range (fun j g V => j ≤ b ∧ V = W ∧ ∃ y3, g = [some (.int a), some (.int b), some (.int ((a ^ j : Nat) : Int)), y3]) ⟨Nat.zero_le _, rfl, _, rfl⟩ ?_ ?_
    · rintro j hj g V ⟨_, rfl, y3, rfl⟩
      push_cast
      refine ⟨mulR (by omega) (by omega), by omega, some (.int (0 + (j : Int))), ?_⟩
      rw [Nat.pow_succ, Int.natCast_mul]
    · rintro g V ⟨_, rfl, y3, rfl⟩
      push_cast
      rw [show ((b : Nat) : Int).toNat = b from by omega]
      exact ⟨_, Sub.refl, h⟩
  · exact h.elim
theorem c_power {a b : Nat} (hk : 1 ≤ k) (ha : a ≤ 1000) (hb : b ≤ 1000) (h : Q (.int ((a ^ b : Nat) : Int)) W) : callW G k 22 [.int a, .int b] W Q X := call_of (h_power hk _ _ _ ⟨a, b, rfl, rfl, ha, hb, h⟩)
theorem wp_spoilO {G : Gs} (h : SpoilOSp ds W R) : wpSs G k P B_spoil_list (Kf R) (startG 2 ds) W := by
  unfold SpoilOSp at h
  split at h
  · next p =>
    obtain ⟨xs, e, hx, hl, h⟩ := h
    show wpSs G k P B_spoil_list (Kf R) [some (.ptr p), none] W
    unfold B_spoil_list
    push_cast [e]
    refine for_inv (fun _ g W' => W' = W ∧ ∃ y, g = [some (.ptr p), y]) ⟨rfl, _, rfl⟩ ?_ ?_
    · rintro j d hd g W' ⟨rfl, y, rfl⟩
      refine ⟨e, ?_⟩
      have := hx d (List.mem_of_getElem? hd)
      push_cast
      have o9 : P.isO 9 = true := by decide +kernel
      cases d with
      | tup xs => push_cast; exact ⟨_, rfl⟩
      | obj C fs =>
        obtain rfl : C = 9 := of_decide_eq_true this
        push_cast [o9]
        exact ⟨_, rfl⟩
      | _ => cases this
    · rintro g W' ⟨rfl, y, rfl⟩
      refine ⟨e, ?_⟩
      push_cast [e, List.length_reverse]
      exact ⟨hl, _, Sub.refl, h⟩
  · exact h.elim
theorem c_spoil {p : Addr} {xs : List D} (hk : 1 ≤ k) (e : W p = some (.lst xs)) (hx : ∀ d ∈ xs, noLO d = true) (hl : xs.length < 16777216) (h : Q .non (W.set p (.lst (xs.reverse ++ [.non])))) : callW G k 26 [.ptr p] W Q X :=
  call_of (h_spoil hk _ _ _ ⟨xs, e, hx, hl, h⟩)
theorem wp_due {G : Gs} {P : Pm} (h : DueSp ds W R) : wpSs G k P [.ret (.tup [(.lst false [(.str "ValueError"), (.str "TalkError"), (.var 0)]), (.var 1)])] (Kf R) (startG 2 ds) W := by
  unfold DueSp at h
  split at h
  · next s v =>
    show wpSs G k P [.ret (.tup [(.lst false [(.str "ValueError"), (.str "TalkError"), (.var 0)]), (.var 1)])] (Kf R) [some (.str s), some v] W
    push_cast
    exact ⟨_, Sub.refl, h⟩
  · exact h.elim
theorem rep0 {n : Nat} : (List.replicate n [D.int 0]).flatten = iL (List.replicate n 0) := by
  induction n with
  | zero => rfl
  | succ n ih => rw [List.replicate_succ, List.flatten_cons, ih, List.replicate_succ]; rfl
theorem wp_figures {G : Gs} {P : Pm} (h : FiguresSp ds W R) : wpSs G k P [.asg (.name 3) (.bin .mul true (.lst false [(.int 0)]) (.var 1)), .for (.name 4) (.rng [(.var 1)]) [.sub (.var 3) (.bin .sub false (.bin .sub false (.var 1) (.int 1)) (.var 4)) (.bin .mod false (.blt .int false [(.var 2)]) (.var 0)), .asg (.name 2) (.bin .fdiv false (.var 2) (.var 0))], .frz 3, .ret (.var 3)] (Kf R) (startG 5 ds) W := by
  unfold FiguresSp at h
  split at h
  · next p m k' =>
    obtain ⟨a, b, c, rfl, rfl, rfl, a0, ha, hb, h⟩ := h
    show wpSs G k P [.asg (.name 3) (.bin .mul true (.lst false [(.int 0)]) (.var 1)), .for (.name 4) (.rng [(.var 1)]) [.sub (.var 3) (.bin .sub false (.bin .sub false (.var 1) (.int 1)) (.var 4)) (.bin .mod false (.blt .int false [(.var 2)]) (.var 0)), .asg (.name 2) (.bin .fdiv false (.var 2) (.var 0))], .frz 3, .ret (.var 3)] (Kf R) [some (.int a), some (.int b), some (.int c), none, none] W
    push_cast
    refine ⟨by simp; omega, fun q hq => ?_⟩
    rw [show ((b : Nat) : Int).toNat = b from by omega, rep0]
    push_cast
    refine ⟨by omega, ?_⟩
    refine for_range (fun j g V => j ≤ b ∧ V = W.set q (.lst (iL (List.replicate (b - j) 0 ++ figs a j c))) ∧ ∃ y4, g = [some (.int a), some (.int b), some (.int ((c / a ^ j : Nat) : Int)), some (.ptr q), y4]) ⟨Nat.zero_le _, by rw [figs, List.append_nil]; rfl, _, by rw [Nat.pow_zero, Nat.div_one]⟩ ?_ ?_
    · rintro j hj g V ⟨_, rfl, y4, rfl⟩
      have hj : j < b := by omega
      push_cast
      refine ⟨by omega, ?_⟩
      rw [ixN_ge (show (0 : Int) ≤ (b : Int) - 1 - (0 + (j : Int)) by omega) (by rw [iL_len, List.length_append, List.length_replicate, figs_len]; omega)]
      push_cast
      refine ⟨⟨by omega, logOk_le (by omega) (by omega)⟩, by omega, ?_, ?_⟩
      · have e1 : ((b : Int) - 1 - (0 + (j : Int))).toNat = (List.replicate (b - j - 1) (0 : Int)).length := by rw [List.length_replicate]; omega
        have e2 : List.replicate (b - j) (0 : Int) ++ figs a j c = List.replicate (b - j - 1) 0 ++ 0 :: figs a j c := by
          rw [show b - j = (b - j - 1) + 1 from by omega, List.replicate_succ', List.append_assoc]
          rfl
        rw [e1, e2]
        show _ = W.set q (.lst (iL (List.replicate (b - (j + 1)) 0 ++ figs a (j + 1) c)))
        rw [figs_cons, show b - (j + 1) = b - j - 1 from by omega, ← set_mid (a := List.replicate (b - j - 1) (0 : Int)) (x := 0) (y := ((c / a ^ j % a : Nat) : Int)) (b := figs a j c)]
        congr 2
        show (List.map D.int _).set _ (D.int _) = List.map D.int _
        rw [List.map_set, Int.natCast_emod]
      · exact ⟨_, by rw [Nat.pow_succ, ← Nat.div_div_eq_div_mul]; rfl⟩
    · rintro g V ⟨_, rfl, y4, rfl⟩
      push_cast
      rw [Om.del_set hq, show ((b : Nat) : Int).toNat = b from by omega, Nat.sub_self]
      exact ⟨_, Sub.refl, h⟩
  · exact h.elim
theorem c_figures {a b c : Nat} (hk : 1 ≤ k) (a0 : 0 < a) (ha : a ≤ 1000) (hb : b ≤ 1000) (h : Q (.lst (iL (figs a b c))) W) : callW G k 33 [.int a, .int b, .int c] W Q X := call_of (h_figures hk _ _ _ ⟨a, b, c, rfl, rfl, rfl, a0, ha, hb, h⟩)
theorem wp_rowslisted (hk : 3 ≤ k) (h : RowsListedSp ds W R) : wpSs G k P (L.df 34).body (Kf R) (startG 4 ds) W := by
  unfold RowsListedSp at h
  split at h
  · next q p m =>
    obtain ⟨a, b, rfl, rfl, eq, a0, ha, hb, hab, h⟩ := h
    show wpSs G k P [.ite (.or (.not (.isi (.var 0) (.ty "list"))) (.cmp .ne (.blt .len false [(.var 0)]) (.call 22 [(.var 1), (.var 2)]))) [.ret (.bl false)] [], .for (.name 3) (.rng [(.blt .len false [(.var 0)])]) [.ite (.not (.call 25 [(.idx (.var 0) (.var 3)), (.blt .tuple false [(.call 33 [(.var 1), (.var 2), (.var 3)])])])) [.ret (.bl false)] []], .ret (.bl true)] (Kf R) [some (.ptr q), some (.int a), some (.int b), none] W
    push_cast [eq]
    refine c_power (by omega) (by omega) (by omega) ?_
    push_cast [rows_len]
    refine brn_tP trivial ?_
    push_cast [eq, rows_len]
    refine ⟨by omega, ?_⟩
    refine for_range (fun j g V => V = W ∧ ∃ y3, g = [some (.ptr q), some (.int a), some (.int b), y3]) ⟨rfl, _, rfl⟩ ?_ ?_
    · rintro j hj g V ⟨rfl, y3, rfl⟩
      have hj : j < a ^ b := by omega
      push_cast [eq]
      rw [show (0 : Int) + (j : Int) = ((j : Nat) : Int) from by omega, Tw.atI_nat, rows_at hj]
      push_cast
      refine c_figures (by omega) a0 (by omega) (by omega) ?_
      push_cast
      refine call_same_t h_same (n := 1) (by omega) (pl_ints (by rw [figs_len]; omega)) (.inl rfl) (.inl rfl) ?_
      push_cast
      exact ⟨_, rfl⟩
    · rintro g V ⟨rfl, y3, rfl⟩
      push_cast
      exact ⟨_, Sub.refl, h⟩
  · exact h.elim
theorem wp_polyslisted (hk : 5 ≤ k) (h : PolysListedSp ds W R) : wpSs G k P (L.df 35).body (Kf R) (startG 4 ds) W := by
  unfold PolysListedSp at h
  split at h
  · next q p m =>
    obtain ⟨a, b, rfl, rfl, eq, a0, ha, hb, hab, h⟩ := h
    show wpSs G k P [.ite (.or (.not (.isi (.var 0) (.ty "list"))) (.cmp .ne (.blt .len false [(.var 0)]) (.call 22 [(.var 1), (.var 2)]))) [.ret (.bl false)] [], .for (.name 3) (.rng [(.blt .len false [(.var 0)])]) [.ite (.not (.call 27 [(.idx (.var 0) (.var 3)), (.var 1), (.call 33 [(.var 1), (.var 2), (.var 3)])])) [.ret (.bl false)] []], .ret (.bl true)] (Kf R) [some (.ptr q), some (.int a), some (.int b), none] W
    push_cast [eq]
    refine c_power (by omega) (by omega) (by omega) ?_
    push_cast [polys_len]
    refine brn_tP trivial ?_
    push_cast [eq, polys_len]
    refine ⟨by omega, ?_⟩
    refine for_range (fun j g V => V = W ∧ ∃ y3, g = [some (.ptr q), some (.int a), some (.int b), y3]) ⟨rfl, _, rfl⟩ ?_ ?_
    · rintro j hj g V ⟨rfl, y3, rfl⟩
      have hj : j < a ^ b := by omega
      push_cast [eq]
      rw [show (0 : Int) + (j : Int) = ((j : Nat) : Int) from by omega, Tw.atI_nat, polys_at hj]
      push_cast
      refine c_figures (by omega) a0 (by omega) (by omega) ?_
      push_cast
      refine call_polyis (h_polyis (by omega)) (by omega) rfl (.inl rfl) (by rw [figs_len]; omega) rfl ?_
      push_cast
      exact ⟨_, rfl⟩
    · rintro g V ⟨rfl, y3, rfl⟩
      push_cast
      exact ⟨_, Sub.refl, h⟩
  · exact h.elim
theorem wp_allrows (hk : 2 ≤ k) (h : AllRowsSp ds W R) : wpSs G k P (L.df 10).body (Kf R) (startG 7 ds) W := by
  unfold AllRowsSp at h
  split at h
  · next x y =>
    obtain ⟨hx, hy, h0, h⟩ := h
    have x5 : P.xin 5 = some [] := by decide +kernel
    show wpSs G k P [.expr (.call 3 [(.var 0)]), .expr (.call 6 [(.var 1), (.gint 56 128)]), .asg (.name 2) (.int 1), .for (.name 3) (.rng [(.var 1)]) [.asg (.name 2) (.bin .mul false (.var 2) (.var 0)), .ite (.cmp .gt (.var 2) (.gint 55 1024)) [.raise 5 []] []], .asg (.name 4) (.lst true [(.tup [])]), .for (.name 3) (.rng [(.var 1)]) [.asg (.name 4) (.comp2 true 5 6 (.bin .add false (.var 5) (.tup [(.var 6)])) (.seq (.var 4)) (.rng [(.var 0)]))], .ret (.var 4)] (Kf R) [some x, some y, none, none, none, none, none] W
    push_cast
    refine call_check_prime (h_checkprime (by omega)) hx (fun n e hn => ?_) fun hn => ?_
    rotate_left
    · push_cast
      exact ⟨_, Sub.refl, h0 hn⟩
    subst e
    obtain ⟨p, rfl⟩ : ∃ p : Nat, n = p := ⟨n.toNat, by have := hn.1.1; omega⟩
    obtain ⟨h1, h2⟩ := h p rfl hn
    have p2 := hn.1.1
    have p3 := hn.2
    have p0 : 0 < p := by omega
    push_cast
    refine call_of (h_pcg (by omega) _ _ _ ⟨hy, fun e => ?_, fun e => ?_⟩)
    rotate_left
    · push_cast
      exact ⟨_, Sub.refl, h1 fun i ei z => by subst ei; rw [isNum_int.mpr ⟨z.1, by omega⟩] at e; cases e⟩
    obtain ⟨i, rfl, i0, i1⟩ := isNum_ex e
    obtain ⟨m, rfl⟩ : ∃ m : Nat, i = m := ⟨i.toNat, by omega⟩
    obtain ⟨h3, h4⟩ := h2 m rfl (by omega)
    push_cast
    refine ⟨by omega, ?_⟩
    refine for_range (fun j g V => j ≤ m ∧ V = W ∧ p ^ j ≤ 1024 ∧ ∃ y3, g = [some (.int p), some (.int m), some (.int ((p ^ j : Nat) : Int)), y3, none, none, none]) ⟨Nat.zero_le _, rfl, by rw [Nat.pow_zero]; omega, _, rfl⟩ ?_ ?_
    · rintro j hj g V ⟨_, rfl, hpj, y3, rfl⟩
      have ep : ((p ^ j : Nat) : Int) * (p : Int) = ((p ^ (j + 1) : Nat) : Int) := by rw [Nat.pow_succ, Int.natCast_mul]
      push_cast
      rw [ep]
      refine ⟨mulR (by omega) (by omega), ?_⟩
      refine brn_ofP (fun e => ?_) (fun e => ?_)
      · push_cast [x5]
        exact ⟨_, Sub.refl, h3 (by have := pow_grow p0 (show j + 1 ≤ m by omega); omega)⟩
      · push_cast
        exact ⟨by omega, by omega, _, rfl⟩
    · rintro g V ⟨_, rfl, hpm, y3, rfl⟩
      rw [show ((m : Nat) : Int).toNat = m from by omega] at hpm ⊢
      have h5 := h4 hpm
      push_cast
      intro q0 hq0
      push_cast
      refine ⟨by omega, ?_⟩
      refine for_range (fun j g V2 => j ≤ m ∧ Tw.Sub V V2 ∧ ∃ q y3, V q = none ∧ V2 q = some (.lst (rowsD p j)) ∧ g = [some (.int p), some (.int m), some (.int ((p ^ m : Nat) : Int)), y3, some (.ptr q), none, none]) ⟨Nat.zero_le _, sub_new hq0, q0, _, hq0, Om.set_same, rfl⟩ ?_ ?_
      · rintro j hj g V2 ⟨_, sb, q, y3, hq, eq, rfl⟩
        have hj : j < m := by omega
        have pj : p ^ (j + 1) ≤ 1024 := Nat.le_trans (pow_grow p0 hj) hpm
        rw [Nat.pow_succ] at pj
        push_cast [eq]
        refine comp2_inv (fun n acc V3 => V3 = V2 ∧ acc = nextD p j n ∧ n ≤ p ^ j) ⟨rfl, by unfold nextD; rw [Nat.zero_mul]; rfl, Nat.zero_le _⟩ ?_ ?_
        · rintro n d hd acc V3 ⟨rfl, rfl, _⟩
          have hn : n < p ^ j := by have := (List.getElem?_eq_some_iff.mp hd).1; rw [rows_len] at this; exact this
          rw [rows_at hn] at hd
          cases hd
          have np : n * p + p ≤ 1024 := by
            have := Nat.mul_le_mul_right p (show n + 1 ≤ p ^ j by omega)
            rw [Nat.succ_mul] at this
            omega
          refine ⟨eq, ?_⟩
          unfold comp2Step
          push_cast
          refine ⟨by omega, ?_⟩
          refine comp_acc (w := none) (fun d => match d with | .int x => .tup (iL (figs p j n ++ [x])) | _ => .non) trivial (by unfold nextD; rw [List.length_map, List.length_range, range_len]; unfold sizeLine; omega) (fun d hd R' hR => ?_) ?_
          · obtain ⟨t, ht⟩ := List.getElem?_of_mem hd
            obtain ⟨hlt, rfl⟩ := range_get ht
            push_cast
            refine ⟨by rw [iL_len, figs_len]; omega, ?_⟩
            rw [show iL (figs p j n) ++ [D.int (0 + (t : Int))] = iL (figs p j n ++ [0 + (t : Int)]) from by show List.map _ _ ++ _ = List.map _ _; rw [List.map_append]; rfl]
            exact hR
          · push_cast
            refine ⟨?_, by omega⟩
            rw [next_succ p0]
            congr 1
            unfold rangeL
            rw [List.map_map, show ((p : Nat) : Int).toNat = p from by omega]
            refine List.map_congr_left fun t _ => ?_
            show D.tup (iL (figs p j n ++ [0 + (t : Int)])) = _
            rw [Int.zero_add]
        · rintro acc V3 ⟨rfl, rfl, _⟩
          refine ⟨eq, ?_⟩
          rw [rows_len, next_full]
          push_cast
          intro q2 hq2
          push_cast
          exact ⟨by omega, Sub.set_new sb (Tw.Sub.off_ sb hq2), q2, _, Tw.Sub.off_ sb hq2, Om.set_same, rfl⟩
      · rintro g V2 ⟨_, sb, q, y3, hq, eq, rfl⟩
        rw [show ((m : Nat) : Int).toNat = m from by omega] at eq
        push_cast
        refine ⟨_, fun b mm hb => ?_, h5 q hq⟩
        by_cases e : b = q
        · subst e; rw [Om.set_same] at hb; cases hb; exact eq
        · rw [Om.set_ne e] at hb; exact sb b mm hb
  · exact h.elim
end
end K14
set_option maxHeartbeats 4000000
namespace K14
open PySem PySem.Spec L2 Tw
open PyProof.Rows (b2i)
section
variable {k : Nat} {W : Om} {R : Out → Om → Prop} {Q : PQ} {X : PX} {ds : List D}
theorem wp_allpolys (hk : 4 ≤ k) (h : AllPolysSp ds W R) : wpSs G k P (L.df 11).body (Kf R) (startG 3 ds) W := by
  unfold AllPolysSp at h
  split at h
  · next x y =>
    obtain ⟨hx, hy, h0, h⟩ := h
    show wpSs G k P [.expr (.call 3 [(.var 0)]), .expr (.call 6 [(.var 1), (.gint 57 127)]), .ret (.comp true 2 (.mk 9 false [(.var 0), (.var 2)]) (.seq (.call 10 [(.var 0), (.bin .add false (.var 1) (.int 1))])) none)] (Kf R) [some x, some y, none] W
    push_cast
    refine call_check_prime (h_checkprime (by omega)) hx (fun n e hn => ?_) fun hn => ?_
    rotate_left
    · push_cast
      exact ⟨_, Sub.refl, h0 hn⟩
    subst e
    obtain ⟨p, rfl⟩ : ∃ p : Nat, n = p := ⟨n.toNat, by have := hn.1.1; omega⟩
    obtain ⟨h1, h2⟩ := h p rfl hn
    have p2 := hn.1.1
    have p3 := hn.2
    have p0 : 0 < p := by omega
    push_cast
    refine call_of (h_pcg (by omega) _ _ _ ⟨hy, fun e => ?_, fun e => ?_⟩)
    rotate_left
    · push_cast
      exact ⟨_, Sub.refl, h1 fun i ei z => by subst ei; rw [isNum_int.mpr ⟨z.1, by omega⟩] at e; cases e⟩
    obtain ⟨i, rfl, i0, i1⟩ := isNum_ex e
    obtain ⟨m, rfl⟩ : ∃ m : Nat, i = m := ⟨i.toNat, by omega⟩
    obtain ⟨h3, h4⟩ := h2 m rfl (by omega)
    push_cast
    refine call_of (h_allrows (by omega) _ _ _ ⟨knd_int, knd_int, fun z => absurd hn (z _ rfl), fun p' e hp' => ?_⟩)
    obtain rfl : p' = p := by cases e; rfl
    refine ⟨fun z => absurd (show (0 : Int) ≤ (m : Int) + 1 ∧ (m : Int) + 1 ≤ 128 by omega) (z _ rfl), fun m' e' hm' => ?_⟩
    obtain rfl : m' = m + 1 := by
      have := D.int.inj e'
      omega
    refine ⟨fun hp => ?_, fun hp q hq => ?_⟩
    · push_cast
      exact ⟨_, Sub.refl, h3 hp⟩
    have h5 := h4 hp
    push_cast
    refine Tw.comp_map (w := some (q, rowsD p' (m + 1))) (fun t => pO p' (trim (figs p' (m + 1) t))) Om.set_same (by rw [rows_len]; unfold sizeLine; omega) (fun t d hd R' hR => ?_) ?_
    · have ht : t < p' ^ (m + 1) := by have := (List.getElem?_eq_some_iff.mp hd).1; rw [rows_len] at this; exact this
      rw [rows_at ht] at hd
      cases hd
      have ini9 : P.ini 9 = some 38 := by decide +kernel
      push_cast [ini9]
      refine ⟨by omega, ?_⟩
      refine mk_poly (k := k) (l := figs p' (m + 1) t) (h_pinit (k := k - 1) (by omega)) hn (.inr (.inl rfl)) (by rw [figs_len]; omega) (figs_nums p0) ?_
      exact hR
    rw [rows_len]
    push_cast
    intro q2 hq2
    obtain ⟨n1, n2⟩ := set_none hq2
    push_cast
    refine ⟨_, fun b mm hb => ?_, h5 q2 n2⟩
    by_cases e : b = q2
    · subst e; rw [Om.set_same] at hb ⊢; exact hb
    · rw [Om.set_ne e] at hb ⊢
      rw [Om.set_ne (by rintro rfl; rw [hq] at hb; cases hb)]
      exact hb
  · exact h.elim
theorem c_allrows {p m : Nat} (hk : 3 ≤ k) (hp : P101 p) (hm : m ≤ 128) (h1 : p ^ m ≤ 1024) (h : ∀ q, W q = none → Q (.ptr q) (W.set q (.lst (rowsD p m)))) : callW G k 10 [.int p, .int m] W Q X :=
  call_of (h_allrows hk _ _ _ ⟨knd_int, knd_int, fun z => absurd hp (z _ rfl), fun p' e _ => by
    obtain rfl : p' = p := by have := D.int.inj e; omega
    exact ⟨fun z => absurd (show (0 : Int) ≤ (m : Int) ∧ (m : Int) ≤ 128 by omega) (z _ rfl), fun m' e' _ => by
      obtain rfl : m' = m := by have := D.int.inj e'; omega
      exact ⟨fun z => by omega, fun _ => h⟩⟩⟩)
theorem c_allpolys {p m : Nat} {z : Int} (hk : 5 ≤ k) (hz : z = m) (hp : P101 p) (hm : m ≤ 127) (h1 : p ^ (m + 1) ≤ 1024) (h : ∀ q, W q = none → Q (.ptr q) (W.set q (.lst (polysD p (m + 1))))) : callW G k 11 [.int p, .int z] W Q X := by
  subst hz
  exact call_of (h_allpolys hk _ _ _ ⟨knd_int, knd_int, fun z => absurd hp (z _ rfl), fun p' e _ => by
    obtain rfl : p' = p := by have := D.int.inj e; omega
    exact ⟨fun z => absurd (show (0 : Int) ≤ (m : Int) ∧ (m : Int) ≤ 127 by omega) (z _ rfl), fun m' e' _ => by
      obtain rfl : m' = m := by have := D.int.inj e'; omega
      exact ⟨fun z => by omega, fun _ => h⟩⟩⟩)
theorem store_at' {W : Om} {a : Addr} (st : StOk W a) : ∃ m, StoreM m ∧ W = W.set a m := by
  obtain ⟨m0, em0, sm0⟩ := st
  refine ⟨m0, sm0, ?_⟩
  funext b
  by_cases e : b = a
  · subst e; rw [Om.set_same]; exact em0
  · rw [Om.set_ne e]
theorem wp_fitprime (hk : 2 ≤ k) (h : FitPrimeSp ds W R) : wpSs G k P (L.df 23).body (Kf R) (startG 5 ds) W := by
  unfold FitPrimeSp at h
  split at h
  · next a m n =>
    obtain ⟨b, rfl, hb, h2, st, h⟩ := h
    show wpSs G k P [.asg (.name 3) (.comp false 4 (.var 4) (.seq (.call 20 [(.int 101)])) (some (.cmp .le (.call 22 [(.var 4), (.var 1)]) (.var 2)))), .ite (.cmp .eq (.blt .len false [(.var 3)]) (.int 0)) [.ret (.int 2)] [], .ite (.cmp .gt (.call 14 [(.var 0), (.int 4)]) (.int 0)) [.ret (.idx (.var 3) (.call 14 [(.var 0), (.blt .min2 false [(.int 4), (.blt .len false [(.var 3)])])]))] [], .ret (.idx (.var 3) (.call 14 [(.var 0), (.blt .len false [(.var 3)])]))] (Kf R) [some (.ptr a), some (.int b), some (.int n), none, none] W
    push_cast
    refine call_primes (h_primes (by omega)) (by omega) (by omega) ?_
    push_cast
    refine comp_filter id (fun d => match d with | .int x => decide (((x.toNat ^ b : Nat) : Int) ≤ n) | _ => false) (by rw [List.length_map, prL101_len]; decide) (fun d hd R' hR => ?_) (fun d hd _ R' hR => ?_) ?_
    · obtain ⟨x, hx, rfl⟩ := List.mem_map.mp hd
      have px := mem_prL.mp hx
      obtain ⟨c, rfl⟩ : ∃ c : Nat, x = c := ⟨x.toNat, by have := px.1.1; omega⟩
      have := px.2
      push_cast
      refine c_power (by omega) (by omega) (by omega) ?_
      push_cast
      exact hR
    · push_cast
      exact hR
    rw [List.map_id]
    have fp : ∀ d ∈ ((prL 101).map D.int).filter (fun d => match d with | .int x => decide (((x.toNat ^ b : Nat) : Int) ≤ n) | _ => false), ∃ c : Nat, d = .int c ∧ P101 c ∧ ((c ^ b : Nat) : Int) ≤ n := fun d hd => by
      obtain ⟨hd, hc⟩ := List.mem_filter.mp hd
      obtain ⟨x, hx, rfl⟩ := List.mem_map.mp hd
      have px := mem_prL.mp hx
      obtain ⟨c, rfl⟩ : ∃ c : Nat, x = c := ⟨x.toNat, by have := px.1.1; omega⟩
      exact ⟨c, rfl, px, of_decide_eq_true hc⟩
    have fl : (((prL 101).map D.int).filter (fun d => match d with | .int x => decide (((x.toNat ^ b : Nat) : Int) ≤ n) | _ => false)).length ≤ 26 := by
      have := List.length_filter_le (fun d => match d with | D.int x => decide (((x.toNat ^ b : Nat) : Int) ≤ n) | _ => false) ((prL 101).map D.int)
      rw [List.length_map, prL101_len] at this
      exact this
    generalize ((prL 101).map D.int).filter (fun d => match d with | .int x => decide (((x.toNat ^ b : Nat) : Int) ≤ n) | _ => false) = fs at fp fl ⊢
    push_cast
    refine brn_ofP (fun e => ?_) (fun e => ?_)
    · push_cast
      obtain ⟨m0, sm0, ew⟩ := store_at' st
      refine ⟨_, Sub.refl, ?_⟩
      rw [ew]
      exact h 2 m0 (mem_prL.mp (by rw [prL101]; decide)) (by rw [Int.natCast_pow]; exact h2) sm0
    · push_cast
      refine call_take (h_take (by omega)) (logOk_le (by omega) (by omega)) st fun c m1 c0 c1 hs => ?_
      push_cast
      refine brn_ofP (fun e => ?_) (fun e => ?_)
      all_goals
        push_cast
        refine call_take (h_take (by omega)) (logOk_le (by omega) (by omega)) (.set hs) fun r m2 r0 r1 hs => ?_
        obtain ⟨d, hd, hm⟩ := atI_mem (xs := fs) r0 (by omega)
        obtain ⟨c, rfl, pc, hc⟩ := fp d hm
        push_cast [hd]
        exact ⟨_, Sub.refl, h c m2 pc hc hs⟩
  · exact h.elim
theorem c_fitprime {a : Addr} {b : Nat} {n : Int} (hk : 3 ≤ k) (hb : b ≤ 10) (h2 : 2 ^ b ≤ n) (st : StOk W a) (h : ∀ (p : Nat) m', P101 p → ((p ^ b : Nat) : Int) ≤ n → StoreM m' → Q (.int p) (W.set a m')) : callW G k 23 [.ptr a, .int b, .int n] W Q X := call_of (h_fitprime hk _ _ _ ⟨b, rfl, hb, h2, st, h⟩)
theorem wp_kinds (h : KindsSp ds W R) : wpSs G k P (L.df 29).body (Kf R) (startG 3 ds) W := by
  unfold KindsSp at h
  split at h
  · next C fs =>
    show wpSs G k P [.asg (.name 1) (.lst false [(.tup [(.str "ValueError"), (.exI 0 (.ty "ValueError"))]), (.tup [(.str "TalkError"), (.exI 0 (.own 0))]), (.tup [(.str "BadText"), (.exI 0 (.own 6))]), (.tup [(.str "NotInField"), (.exI 0 (.own 8))]), (.tup [(.str "NotPrime"), (.exI 0 (.own 7))]), (.tup [(.str "OutOfRange"), (.exI 0 (.own 4))]), (.tup [(.str "Repeated"), (.exI 0 (.own 3))]), (.tup [(.str "TooLarge"), (.exI 0 (.own 5))]), (.tup [(.str "WrongPlaces"), (.exI 0 (.own 2))])]), .ret (.compH false 0 2 (.idx (.var 2) (.int 0)) (.var 1) (some (.idx (.var 2) (.int 1))))] (Kf R) [some (.exn C fs), none, none] W
    have s5_ty : subC P 5 (.ty "ValueError") = true := by decide +kernel
    have s5_0 : subC P 5 (.own 0) = true := by decide +kernel
    have s5_6 : subC P 5 (.own 6) = false := by decide +kernel
    have s5_8 : subC P 5 (.own 8) = false := by decide +kernel
    have s5_7 : subC P 5 (.own 7) = false := by decide +kernel
    have s5_4 : subC P 5 (.own 4) = false := by decide +kernel
    have s5_3 : subC P 5 (.own 3) = false := by decide +kernel
    have s5_5 : subC P 5 (.own 5) = true := by decide +kernel
    have s5_2 : subC P 5 (.own 2) = false := by decide +kernel
    have s7_ty : subC P 7 (.ty "ValueError") = true := by decide +kernel
    have s7_0 : subC P 7 (.own 0) = true := by decide +kernel
    have s7_6 : subC P 7 (.own 6) = false := by decide +kernel
    have s7_8 : subC P 7 (.own 8) = false := by decide +kernel
    have s7_7 : subC P 7 (.own 7) = true := by decide +kernel
    have s7_4 : subC P 7 (.own 4) = false := by decide +kernel
    have s7_3 : subC P 7 (.own 3) = false := by decide +kernel
    have s7_5 : subC P 7 (.own 5) = false := by decide +kernel
    have s7_2 : subC P 7 (.own 2) = false := by decide +kernel
    have s4_ty : subC P 4 (.ty "ValueError") = true := by decide +kernel
    have s4_0 : subC P 4 (.own 0) = true := by decide +kernel
    have s4_6 : subC P 4 (.own 6) = false := by decide +kernel
    have s4_8 : subC P 4 (.own 8) = false := by decide +kernel
    have s4_7 : subC P 4 (.own 7) = false := by decide +kernel
    have s4_4 : subC P 4 (.own 4) = true := by decide +kernel
    have s4_3 : subC P 4 (.own 3) = false := by decide +kernel
    have s4_5 : subC P 4 (.own 5) = false := by decide +kernel
    have s4_2 : subC P 4 (.own 2) = false := by decide +kernel
    rcases h with ⟨rfl, h⟩ | ⟨rfl, h⟩ | ⟨rfl, h⟩
    · push_cast [s5_ty, s5_0, s5_6, s5_8, s5_7, s5_4, s5_3, s5_5, s5_2]
      refine comp_filter (fun d => match d with | .tup [x, _] => x | _ => .non) (fun d => match d with | .tup [_, .bl b] => b | _ => false) (by decide) (fun d hd R' hR => ?_) (fun d hd _ R' hR => ?_) ?_
      · simp only [List.mem_cons, List.not_mem_nil, or_false] at hd
        rcases hd with rfl | rfl | rfl | rfl | rfl | rfl | rfl | rfl | rfl <;> (push_cast; exact hR)
      · simp only [List.mem_cons, List.not_mem_nil, or_false] at hd
        rcases hd with rfl | rfl | rfl | rfl | rfl | rfl | rfl | rfl | rfl <;> (push_cast; exact hR)
      · push_cast
        exact ⟨_, Sub.refl, h⟩
    · push_cast [s7_ty, s7_0, s7_6, s7_8, s7_7, s7_4, s7_3, s7_5, s7_2]
      refine comp_filter (fun d => match d with | .tup [x, _] => x | _ => .non) (fun d => match d with | .tup [_, .bl b] => b | _ => false) (by decide) (fun d hd R' hR => ?_) (fun d hd _ R' hR => ?_) ?_
      · simp only [List.mem_cons, List.not_mem_nil, or_false] at hd
        rcases hd with rfl | rfl | rfl | rfl | rfl | rfl | rfl | rfl | rfl <;> (push_cast; exact hR)
      · simp only [List.mem_cons, List.not_mem_nil, or_false] at hd
        rcases hd with rfl | rfl | rfl | rfl | rfl | rfl | rfl | rfl | rfl <;> (push_cast; exact hR)
      · push_cast
        exact ⟨_, Sub.refl, h⟩
    · push_cast [s4_ty, s4_0, s4_6, s4_8, s4_7, s4_4, s4_3, s4_5, s4_2]
      refine comp_filter (fun d => match d with | .tup [x, _] => x | _ => .non) (fun d => match d with | .tup [_, .bl b] => b | _ => false) (by decide) (fun d hd R' hR => ?_) (fun d hd _ R' hR => ?_) ?_
      · simp only [List.mem_cons, List.not_mem_nil, or_false] at hd
        rcases hd with rfl | rfl | rfl | rfl | rfl | rfl | rfl | rfl | rfl <;> (push_cast; exact hR)
      · simp only [List.mem_cons, List.not_mem_nil, or_false] at hd
        rcases hd with rfl | rfl | rfl | rfl | rfl | rfl | rfl | rfl | rfl <;> (push_cast; exact hR)
      · push_cast
        exact ⟨_, Sub.refl, h⟩
  · exact h.elim
end
end K14
set_option maxHeartbeats 4000000
namespace K14
open PySem PySem.Spec L2 Tw
open PyProof.Rows (b2i)
section
variable {k : Nat} {W : Om} {R : Out → Om → Prop} {Q : PQ} {X : PX} {ds : List D}
theorem x7 : P.xat 7 0 = true := by decide +kernel
theorem e6 {x : D} : List.lookup 0 [((0 : Nat), x)] = some x := rfl
theorem s77 : P.sub 7 7 = true := by decide +kernel
theorem s57 : P.sub 5 7 = false := by decide +kernel
theorem s50 : P.sub 5 0 = true := by decide +kernel
theorem s47 : P.sub 4 7 = false := by decide +kernel
theorem s40 : P.sub 4 0 = true := by decide +kernel
theorem wp_rowserr (hk : 3 ≤ k) (h : RowsErrSp ds W R) : wpSs G k P (L.df 30).body (Kf R) (startG 3 ds) W := by
  unfold RowsErrSp ErrSp at h
  split at h
  · next x y =>
    obtain ⟨hx, hy, h⟩ := h
    show wpSs G k P [.try [.expr (.call 10 [(.var 0), (.var 1)])] (.cons [7] (some 2) [.ret (.tup [(.exC 29 2), (.exA 2 0)])] (.cons [0] (some 2) [.ret (.tup [(.exC 29 2), .non])] .nil)), .ret .non] (Kf R) [some x, some y, none] W
    push_cast
    refine call_of (h_allrows (by omega) _ _ _ ⟨hx, hy, fun hn => ?_, fun p e hp => ⟨fun hm => ?_, fun m e2 hm => ⟨fun hpm => ?_, fun hpm => ?_⟩⟩⟩)
    · rcases h with ⟨_, h⟩ | ⟨p, e, hp, _⟩
      · push_cast
        refine brn_t (by rw [List.any_cons, s77]; rfl) ?_
        push_cast
        refine call_of (h_kinds (by omega) _ _ _ (.inr (.inl ⟨rfl, ?_⟩)))
        push_cast [x7, e6]
        exact ⟨_, Sub.refl, h⟩
      · exact absurd hp (hn _ e)
    all_goals rcases h with ⟨hn, _⟩ | ⟨p', e', _, h⟩
    all_goals first | exact absurd hp (hn _ e) | skip
    all_goals (obtain rfl : p' = p := by rw [e] at e'; have := D.int.inj e'; omega)
    · rcases h with ⟨_, h⟩ | ⟨m, e3, hm', _⟩
      · push_cast
        refine brn_f (by rw [List.any_cons, s47]; rfl) ?_
        push_cast
        refine brn_t (by rw [List.any_cons, s40]; rfl) ?_
        push_cast
        refine call_of (h_kinds (by omega) _ _ _ (.inr (.inr ⟨rfl, ?_⟩)))
        push_cast
        exact ⟨_, Sub.refl, h⟩
      · exact absurd ⟨by omega, by omega⟩ (hm _ e3)
    · rcases h with ⟨hm', _⟩ | ⟨m', e3, hm', hb, h⟩
      · exact absurd ⟨by omega, by omega⟩ (hm' _ e2)
      · push_cast
        refine brn_f (by rw [List.any_cons, s57]; rfl) ?_
        push_cast
        refine brn_t (by rw [List.any_cons, s50]; rfl) ?_
        push_cast
        refine call_of (h_kinds (by omega) _ _ _ (.inl ⟨rfl, ?_⟩))
        push_cast
        exact ⟨_, Sub.refl, h⟩
    · exfalso
      rcases h with ⟨hm', _⟩ | ⟨m', e3, hm', hb, h⟩
      · exact hm' _ e2 ⟨by omega, by omega⟩
      · obtain rfl : m' = m := by rw [e2] at e3; have := D.int.inj e3; omega
        try rw [Nat.add_zero] at hb
        omega
  · exact h.elim
theorem wp_polyserr (hk : 5 ≤ k) (h : PolysErrSp ds W R) : wpSs G k P (L.df 31).body (Kf R) (startG 3 ds) W := by
  unfold PolysErrSp ErrSp at h
  split at h
  · next x y =>
    obtain ⟨hx, hy, h⟩ := h
    show wpSs G k P [.try [.expr (.call 11 [(.var 0), (.var 1)])] (.cons [7] (some 2) [.ret (.tup [(.exC 29 2), (.exA 2 0)])] (.cons [0] (some 2) [.ret (.tup [(.exC 29 2), .non])] .nil)), .ret .non] (Kf R) [some x, some y, none] W
    push_cast
    refine call_of (h_allpolys (by omega) _ _ _ ⟨hx, hy, fun hn => ?_, fun p e hp => ⟨fun hm => ?_, fun m e2 hm => ⟨fun hpm => ?_, fun hpm => ?_⟩⟩⟩)
    · rcases h with ⟨_, h⟩ | ⟨p, e, hp, _⟩
      · push_cast
        refine brn_t (by rw [List.any_cons, s77]; rfl) ?_
        push_cast
        refine call_of (h_kinds (by omega) _ _ _ (.inr (.inl ⟨rfl, ?_⟩)))
        push_cast [x7, e6]
        exact ⟨_, Sub.refl, h⟩
      · exact absurd hp (hn _ e)
    all_goals rcases h with ⟨hn, _⟩ | ⟨p', e', _, h⟩
    all_goals first | exact absurd hp (hn _ e) | skip
    all_goals (obtain rfl : p' = p := by rw [e] at e'; have := D.int.inj e'; omega)
    · rcases h with ⟨_, h⟩ | ⟨m, e3, hm', _⟩
      · push_cast
        refine brn_f (by rw [List.any_cons, s47]; rfl) ?_
        push_cast
        refine brn_t (by rw [List.any_cons, s40]; rfl) ?_
        push_cast
        refine call_of (h_kinds (by omega) _ _ _ (.inr (.inr ⟨rfl, ?_⟩)))
        push_cast
        exact ⟨_, Sub.refl, h⟩
      · exact absurd ⟨by omega, by omega⟩ (hm _ e3)
    · rcases h with ⟨hm', _⟩ | ⟨m', e3, hm', hb, h⟩
      · exact absurd ⟨by omega, by omega⟩ (hm' _ e2)
      · push_cast
        refine brn_f (by rw [List.any_cons, s57]; rfl) ?_
        push_cast
        refine brn_t (by rw [List.any_cons, s50]; rfl) ?_
        push_cast
        refine call_of (h_kinds (by omega) _ _ _ (.inl ⟨rfl, ?_⟩))
        push_cast
        exact ⟨_, Sub.refl, h⟩
    · exfalso
      rcases h with ⟨hm', _⟩ | ⟨m', e3, hm', hb, h⟩
      · exact hm' _ e2 ⟨by omega, by omega⟩
      · obtain rfl : m' = m := by rw [e2] at e3; have := D.int.inj e3; omega
        try rw [Nat.add_zero] at hb
        omega
  · exact h.elim
theorem pl_due {s : Str} {v : D} (pv : pln 1 v) : pln 2 (.tup [kindsL s, v]) := pln_tup (by simp) fun z hz => by
  simp only [List.mem_cons, List.not_mem_nil, or_false] at hz
  rcases hz with rfl | rfl
  · exact pln_lst (by simp) fun z hz => by
      simp only [List.mem_cons, List.not_mem_nil, or_false] at hz
      rcases hz with rfl | rfl | rfl <;> exact pln_flat rfl
  · exact pv
theorem c_due {s : Str} {v : D} (hk : 1 ≤ k) (h : Q (.tup [kindsL s, v]) W) : callW G k 32 [.str s, v] W Q X := call_of (h_due hk _ _ _ h)
theorem badIv' {lo hi : Int} {d : D} (h : BadIv lo hi d) : pln 1 d ∧ ∀ n, d = .int n → ¬ (lo ≤ n ∧ n ≤ hi) := by
  rcases h with ⟨i, rfl, hi, _⟩ | h
  · exact ⟨pln_flat rfl, fun n e => by cases e; omega⟩
  · have := badPv (.inr h)
    refine ⟨this.1, fun n e => ?_⟩
    subst e
    unfold otherL at h
    simp at h
theorem pe10 {a b : D} : permL [1, 0] ([] ++ [a, b]) = [b, a] := Eq.trans rfl rfl
theorem wp_refused (hk : 6 ≤ k) (h : RefusedSp ds W R) : wpSs G k P (L.df 36).body (Kf R) (startG 7 ds) W := by
  unfold RefusedSp at h
  split at h
  · next a p =>
    obtain ⟨p, rfl, hp, st, h⟩ := h
    have p2 := hp.1.1
    have p3 := hp.2
    have p0 : 0 < p := by omega
    have big : ∀ t : Nat, 11 ≤ t → 1024 < p ^ t := fun t ht => by
      have h1 := pow_grow p0 ht
      have h2 := Nat.pow_le_pow_left (show 2 ≤ p by omega) 11
      have h3 : (2 : Nat) ^ 11 = 2048 := by decide
      omega
    show wpSs G k P [.asg (.name 2) (.int 0), .whl (.cmp .le (.call 22 [(.var 1), (.var 2)]) (.int 1024)) [.asg (.name 2) (.bin .add false (.var 2) (.int 1))], .asg (.name 3) (.call 24 [(.var 0)]), .asg (.name 4) (.call 19 [(.var 0), (.int 0), (.int 128)]), .asg (.name 5) (.call 19 [(.var 0), (.int 0), (.int 127)]), .for (.name 6) (.seq (.lst false [(.var 2), (.bin .add false (.var 2) (.int 1)), (.int 128)])) [.ite (.not (.call 25 [(.call 30 [(.var 1), (.var 6)]), (.call 32 [(.str "TooLarge"), .non])])) [.ret (.bl false)] [], .ite (.not (.call 25 [(.call 31 [(.var 1), (.bin .sub false (.var 6) (.int 1))]), (.call 32 [(.str "TooLarge"), .non])])) [.ret (.bl false)] []], .for (.name 6) (.seq (.lst false [(.int 0), (.var 2), (.var 4)])) [.ite (.not (.call 25 [(.call 30 [(.var 3), (.var 6)]), (.call 32 [(.str "NotPrime"), (.var 3)])])) [.ret (.bl false)] []], .for (.name 6) (.seq (.lst false [(.int 0), (.bin .sub false (.var 2) (.int 1)), (.var 5)])) [.ite (.not (.call 25 [(.call 31 [(.var 3), (.var 6)]), (.call 32 [(.str "NotPrime"), (.var 3)])])) [.ret (.bl false)] []], .ite (.not (.call 25 [(.call 30 [(.var 1), (.var 4)]), (.call 32 [(.str "OutOfRange"), .non])])) [.ret (.bl false)] [], .ret (.call 25 [(.call 31 [(.var 1), (.var 5)]), (.call 32 [(.str "OutOfRange"), .non])])] (Kf R) [some (.ptr a), some (.int p), none, none, none, none, none] W
    push_cast
    refine whl_inv (fun n g (V : Om) => ∃ t : Nat, t ≤ 11 ∧ n = 11 - t ∧ V = W ∧ g = [some (.ptr a), some (.int p), some (.int (t : Nat)), none, none, none, none]) 11 ⟨0, by omega, rfl, rfl, rfl⟩ ?_
    rintro n g V ⟨t, ht, rfl, rfl, rfl⟩
    push_cast
    refine c_power (by omega) (by omega) (by omega) ?_
    push_cast
    refine brn_ofP (fun e => ?_) (fun e => ?_)
    · have lt : t < 11 := by
        rcases Nat.lt_or_ge t 11 with z | z
        · exact z
        · have := big t z; omega
      push_cast
      exact ⟨11 - (t + 1), by omega, t + 1, by omega, rfl, by rw [Int.natCast_add]; rfl⟩
    have hb : 1024 < p ^ t := by omega
    have t1 : 1 ≤ t := by
      rcases Nat.eq_zero_or_pos t with z | z
      · subst z; rw [Nat.pow_zero] at hb; omega
      · exact z
    push_cast
    refine call_bad_prime (h_badprime (by omega)) st fun x m1 hx hs => ?_
    obtain ⟨px, nx⟩ := badPv hx
    push_cast
    refine call_bad_int (h_badint (by omega)) (by omega) (.set hs) fun y m2 hy hs => ?_
    obtain ⟨py, ny⟩ := badIv' hy
    push_cast
    refine call_bad_int (h_badint (by omega)) (by omega) (.set hs) fun z m3 hz hs => ?_
    obtain ⟨pz, nz⟩ := badIv' hz
    have kn : ∀ {d : D} {V : Om}, pln 1 d → Knd V d := fun pd => knd_res pd (.inl rfl)
    push_cast
    refine for_list (fun j g (V2 : Om) => V2 = V.set a m3 ∧ ∃ y6, g = [some (.ptr a), some (.int p), some (.int t), some x, some y, some z, y6]) ⟨rfl, _, rfl⟩ ?_ ?_
    · rintro j d hd g V2 ⟨rfl, y6, rfl⟩
      obtain ⟨s, rfl, hs1, hs2, hs3⟩ : ∃ s : Nat, d = .int s ∧ 1 ≤ s ∧ s ≤ 128 ∧ 1024 < p ^ s := by
        have hd := List.mem_of_getElem? hd
        simp only [List.mem_cons, List.not_mem_nil, or_false] at hd
        rcases hd with rfl | rfl | rfl
        · exact ⟨t, rfl, t1, by omega, hb⟩
        · exact ⟨t + 1, by rw [Int.natCast_add]; rfl, by omega, by omega, Nat.lt_of_lt_of_le hb (pow_grow p0 (by omega))⟩
        · exact ⟨128, rfl, by omega, by omega, big 128 (by omega)⟩
      push_cast
      refine call_of (h_rowserr (by omega) _ _ _ ⟨knd_int, knd_int, .inr ⟨p, rfl, hp, .inr ⟨s, rfl, by omega, hs3, ?_⟩⟩⟩)
      push_cast
      refine c_due (by omega) ?_
      push_cast
      refine call_same_t h_same (n := 2) (by omega) (pl_due (pln_flat rfl)) (.inl rfl) (.inl rfl) ?_
      push_cast
      refine call_of (h_polyserr (by omega) _ _ _ ⟨knd_int, knd_int, .inr ⟨p, rfl, hp, .inr ⟨s - 1, by rw [Int.natCast_sub hs1]; rfl, by omega, by rw [Nat.sub_add_cancel hs1]; exact hs3, ?_⟩⟩⟩)
      push_cast
      refine c_due (by omega) ?_
      push_cast
      refine call_same_t h_same (n := 2) (by omega) (pl_due (pln_flat rfl)) (.inl rfl) (.inl rfl) ?_
      push_cast
      first | exact ⟨_, rfl⟩ | rfl | exact ⟨rfl, _, rfl⟩
    rintro g V2 ⟨rfl, y6, rfl⟩
    push_cast
    refine for_list (fun j g (V2 : Om) => V2 = V.set a m3 ∧ ∃ y6, g = [some (.ptr a), some (.int p), some (.int t), some x, some y, some z, y6]) ⟨rfl, _, rfl⟩ ?_ ?_
    · rintro j d hd g V2 ⟨rfl, y6, rfl⟩
      have kd : Knd (V.set a m3) d := by
        have hd := List.mem_of_getElem? hd
        simp only [List.mem_cons, List.not_mem_nil, or_false] at hd
        rcases hd with rfl | rfl | rfl
        · exact knd_int
        · exact knd_int
        · exact kn py
      push_cast
      refine call_of (h_rowserr (by omega) _ _ _ ⟨kn px, kd, .inl ⟨nx, ?_⟩⟩)
      push_cast
      refine c_due (by omega) ?_
      push_cast
      refine call_same_t h_same (n := 2) (by omega) (pl_due px) (.inl rfl) (.inl rfl) ?_
      push_cast
      first | exact ⟨_, rfl⟩ | rfl | exact ⟨rfl, _, rfl⟩
    rintro g V2 ⟨rfl, y6, rfl⟩
    push_cast
    refine for_list (fun j g (V2 : Om) => V2 = V.set a m3 ∧ ∃ y6, g = [some (.ptr a), some (.int p), some (.int t), some x, some y, some z, y6]) ⟨rfl, _, rfl⟩ ?_ ?_
    · rintro j d hd g V2 ⟨rfl, y6, rfl⟩
      have kd : Knd (V.set a m3) d := by
        have hd := List.mem_of_getElem? hd
        simp only [List.mem_cons, List.not_mem_nil, or_false] at hd
        rcases hd with rfl | rfl | rfl
        · exact knd_int
        · exact knd_int
        · exact kn pz
      push_cast
      refine call_of (h_polyserr (by omega) _ _ _ ⟨kn px, kd, .inl ⟨nx, ?_⟩⟩)
      push_cast
      refine c_due (by omega) ?_
      push_cast
      refine call_same_t h_same (n := 2) (by omega) (pl_due px) (.inl rfl) (.inl rfl) ?_
      push_cast
      first | exact ⟨_, rfl⟩ | rfl | exact ⟨rfl, _, rfl⟩
    rintro g V2 ⟨rfl, y6, rfl⟩
    push_cast
    refine call_of (h_rowserr (by omega) _ _ _ ⟨knd_int, kn py, .inr ⟨p, rfl, hp, .inl ⟨fun i ei => by simpa using ny i ei, ?_⟩⟩⟩)
    push_cast
    refine c_due (by omega) ?_
    push_cast
    refine call_same_t h_same (n := 2) (by omega) (pl_due (pln_flat rfl)) (.inl rfl) (.inl rfl) ?_
    push_cast
    refine call_of (h_polyserr (by omega) _ _ _ ⟨knd_int, kn pz, .inr ⟨p, rfl, hp, .inl ⟨fun i ei => nz i ei, ?_⟩⟩⟩)
    push_cast
    refine c_due (by omega) ?_
    push_cast
    refine call_same_t h_same (n := 2) (by omega) (pl_due (pln_flat rfl)) (.inl rfl) (.inl rfl) ?_
    push_cast
    exact ⟨_, Sub.refl, h _ hs⟩
  · exact h.elim
theorem wp_law (hk : 7 ≤ k) (h : LawSp ds W R) : wpSs G k P (L.df 37).body (Kf R) (startG 11 ds) W := by
  unfold LawSp at h
  split at h
  · next ns =>
    obtain ⟨hl, h⟩ := h
    show wpSs G k P [.asg (.name 1) (.call 13 [(.var 0)]), .asg (.name 2) (.lst true [(.int 243), (.int 243)]), .asg (.name 3) (.lst true [(.int 7), (.int 7)]), .ite (.call 16 [(.var 1), (.int 10)]) [.asg (.name 4) (.call 14 [(.var 1), (.int 2)]), .sub (.var 2) (.var 4) (.int 1024), .sub (.var 3) (.var 4) (.int 10)] [], .asg (.name 5) (.call 15 [(.var 1), (.int 0), (.idx (.var 3) (.int 0))]), .asg (.name 6) (.call 23 [(.var 1), (.var 5), (.idx (.var 2) (.int 0))]), .asg (.name 7) (.call 15 [(.var 1), (.int 1), (.idx (.var 3) (.int 1))]), .asg (.name 8) (.call 23 [(.var 1), (.var 7), (.idx (.var 2) (.int 1))]), .asg (.name 9) (.call 10 [(.var 6), (.var 5)]), .asg (.name 10) (.call 11 [(.var 8), (.bin .sub false (.var 7) (.int 1))]), .ite (.or (.not (.call 34 [(.var 9), (.var 6), (.var 5)])) (.not (.call 35 [(.var 10), (.var 8), (.var 7)]))) [.ret (.bl false)] [], .ite (.not (.call 34 [(.callK 10 [] [(.int 1), (.var 8)] [1, 0]), (.var 8), (.int 1)])) [.ret (.bl false)] [], .ite (.not (.call 35 [(.callK 11 [] [(.int 0), (.var 6)] [1, 0]), (.var 6), (.int 1)])) [.ret (.bl false)] [], .expr (.call 26 [(.var 9)]), .expr (.call 26 [(.var 10)]), .ite (.not (.call 36 [(.var 1), (.call 21 [(.var 1)])])) [.ret (.bl false)] [], .ite (.not (.call 34 [(.call 10 [(.var 6), (.var 5)]), (.var 6), (.var 5)])) [.ret (.bl false)] [], .ret (.call 35 [(.call 11 [(.var 8), (.bin .sub false (.var 7) (.int 1))]), (.var 8), (.var 7)])] (Kf R) [some (.scr ns), none, none, none, none, none, none, none, none, none, none] W
    have rest : ∀ (V : Om) a q2 q3 (n0 n1 : Int) (b0 b1 : Nat) y4, StOk V a → V q2 = some (.lst [.int n0, .int n1]) → V q3 = some (.lst [.int b0, .int b1]) → q2 ≠ a → q3 ≠ a → n0 ≤ 1024 → n1 ≤ 1024 → b0 ≤ 10 → 1 ≤ b1 → b1 ≤ 10 → ((2 ^ b0 : Nat) : Int) ≤ n0 → ((2 ^ b1 : Nat) : Int) ≤ n1 →
        wpSs G k P [.asg (.name 5) (.call 15 [(.var 1), (.int 0), (.idx (.var 3) (.int 0))]), .asg (.name 6) (.call 23 [(.var 1), (.var 5), (.idx (.var 2) (.int 0))]), .asg (.name 7) (.call 15 [(.var 1), (.int 1), (.idx (.var 3) (.int 1))]), .asg (.name 8) (.call 23 [(.var 1), (.var 7), (.idx (.var 2) (.int 1))]), .asg (.name 9) (.call 10 [(.var 6), (.var 5)]), .asg (.name 10) (.call 11 [(.var 8), (.bin .sub false (.var 7) (.int 1))]), .ite (.or (.not (.call 34 [(.var 9), (.var 6), (.var 5)])) (.not (.call 35 [(.var 10), (.var 8), (.var 7)]))) [.ret (.bl false)] [], .ite (.not (.call 34 [(.callK 10 [] [(.int 1), (.var 8)] [1, 0]), (.var 8), (.int 1)])) [.ret (.bl false)] [], .ite (.not (.call 35 [(.callK 11 [] [(.int 0), (.var 6)] [1, 0]), (.var 6), (.int 1)])) [.ret (.bl false)] [], .expr (.call 26 [(.var 9)]), .expr (.call 26 [(.var 10)]), .ite (.not (.call 36 [(.var 1), (.call 21 [(.var 1)])])) [.ret (.bl false)] [], .ite (.not (.call 34 [(.call 10 [(.var 6), (.var 5)]), (.var 6), (.var 5)])) [.ret (.bl false)] [], .ret (.call 35 [(.call 11 [(.var 8), (.bin .sub false (.var 7) (.int 1))]), (.var 8), (.var 7)])] (Kf R) [some (.scr ns), some (.ptr a), some (.ptr q2), some (.ptr q3), y4, none, none, none, none, none, none] V := fun V a q2 q3 n0 n1 b0 b1 y4 st e2 e3 na2 na3 l0 l1 c0 c1 c2 w0 w1 => by
      have f2 : ∀ m, (V.set a m) q2 = some (.lst [.int n0, .int n1]) := fun m => by rw [Om.set_ne na2]; exact e2
      have f3 : ∀ m, (V.set a m) q3 = some (.lst [.int b0, .int b1]) := fun m => by rw [Om.set_ne na3]; exact e3
      push_cast [e3]
      refine call_edge (h_edge (by omega)) (logOk_le (by omega) (by omega)) st fun i m1 i0 i1 hs => ?_
      obtain ⟨m, rfl⟩ : ∃ m : Nat, i = m := ⟨i.toNat, by omega⟩
      have hm : m ≤ b0 := by omega
      push_cast [f2]
      have w0' : (2 : Int) ^ m ≤ n0 := by
        have z := pow_grow (show 0 < 2 by omega) hm
        have z2 : ((2 ^ m : Nat) : Int) ≤ n0 := by omega
        rw [Int.natCast_pow] at z2
        exact z2
      refine c_fitprime (b := m) (by omega) (by omega) w0' (.set hs) fun p m2 hp hpm hs => ?_
      push_cast [f3]
      refine call_edge (h_edge (by omega)) (logOk_le (by omega) (by omega)) (.set hs) fun i m3 i0 i1 hs => ?_
      obtain ⟨n, rfl⟩ : ∃ n : Nat, i = n := ⟨i.toNat, by omega⟩
      have hn : n ≤ b1 := by omega
      have n1' : 1 ≤ n := by omega
      push_cast [f2]
      have w1' : (2 : Int) ^ n ≤ n1 := by
        have z := pow_grow (show 0 < 2 by omega) hn
        have z2 : ((2 ^ n : Nat) : Int) ≤ n1 := by omega
        rw [Int.natCast_pow] at z2
        exact z2
      refine c_fitprime (b := n) (by omega) (by omega) w1' (.set hs) fun q m4 hq hqn hs => ?_
      have p2 := hp.1.1
      have p3 := hp.2
      have q2' := hq.1.1
      have q3' := hq.2
      have hpm : p ^ m ≤ 1024 := by omega
      have hqn : q ^ n ≤ 1024 := by omega
      have en : n - 1 + 1 = n := Nat.sub_add_cancel n1'
      have ei : (n : Int) - 1 = ((n - 1 : Nat) : Int) := by omega
      have hqn2 : q ^ (n - 1 + 1) ≤ 1024 := by rw [en]; exact hqn
      have st1 : StOk (V.set a m4) a := .set hs
      push_cast
      generalize V.set a m4 = V1 at st1 ⊢
      refine c_allrows (by omega) hp (by omega) hpm fun r9 h9 => ?_
      have r9a : r9 ≠ a := st1.ne h9
      have st2 := st1.off (m := .lst (rowsD p m)) r9a
      push_cast
      refine c_allpolys (by omega) ei hq (by omega) hqn2 fun r10 h10 => ?_
      rw [en]
      obtain ⟨n910, _⟩ := set_none h10
      have r10a : r10 ≠ a := st2.ne h10
      have st3 := st2.off (m := .lst (polysD q n)) r10a
      have g9 : ((V1.set r9 (.lst (rowsD p m))).set r10 (.lst (polysD q n))) r9 = some (.lst (rowsD p m)) := by rw [Om.set_ne (Ne.symm n910), Om.set_same]
      have g10 : ((V1.set r9 (.lst (rowsD p m))).set r10 (.lst (polysD q n))) r10 = some (.lst (polysD q n)) := Om.set_same
      push_cast
      generalize ((V1.set r9 (.lst (rowsD p m))).set r10 (.lst (polysD q n))) = V2 at st3 g9 g10 ⊢
      refine call_of (h_rowslisted (by omega) _ _ _ ⟨p, m, rfl, rfl, g9, by omega, by omega, by omega, hpm, ?_⟩)
      push_cast
      refine call_of (h_polyslisted (by omega) _ _ _ ⟨q, n, rfl, rfl, g10, by omega, by omega, by omega, hqn, ?_⟩)
      push_cast [pe10]
      refine c_allrows (m := 1) (by omega) hq (by omega) (by rw [Nat.pow_one]; omega) fun r11 h11 => ?_
      push_cast
      refine call_of (h_rowslisted (by omega) _ _ _ ⟨q, 1, rfl, rfl, Om.set_same, by omega, by omega, by omega, by rw [Nat.pow_one]; omega, ?_⟩)
      push_cast [pe10]
      refine c_allpolys (m := 0) (by omega) rfl hp (by omega) (by rw [Nat.zero_add, Nat.pow_one]; omega) fun r12 h12 => ?_
      push_cast
      refine call_of (h_polyslisted (by omega) _ _ _ ⟨p, 1, rfl, rfl, Om.set_same, by omega, by omega, by omega, by rw [Nat.pow_one]; omega, ?_⟩)
      have st4 := (st3.off (m := .lst (rowsD q 1)) (st3.ne h11)).off (m := .lst (polysD p (0 + 1))) ((st3.off (m := .lst (rowsD q 1)) (st3.ne h11)).ne h12)
      have k9 : ((V2.set r11 (.lst (rowsD q 1))).set r12 (.lst (polysD p (0 + 1)))) r9 = some (.lst (rowsD p m)) := by
        have a1 : r9 ≠ r11 := by rintro rfl; rw [h11] at g9; cases g9
        have b1 : (V2.set r11 (.lst (rowsD q 1))) r9 = some (.lst (rowsD p m)) := by rw [Om.set_ne a1]; exact g9
        have a2 : r9 ≠ r12 := by rintro rfl; rw [h12] at b1; cases b1
        rw [Om.set_ne a2]; exact b1
      have k10 : ((V2.set r11 (.lst (rowsD q 1))).set r12 (.lst (polysD p (0 + 1)))) r10 = some (.lst (polysD q n)) := by
        have a1 : r10 ≠ r11 := by rintro rfl; rw [h11] at g10; cases g10
        have b1 : (V2.set r11 (.lst (rowsD q 1))) r10 = some (.lst (polysD q n)) := by rw [Om.set_ne a1]; exact g10
        have a2 : r10 ≠ r12 := by rintro rfl; rw [h12] at b1; cases b1
        rw [Om.set_ne a2]; exact b1
      push_cast
      generalize ((V2.set r11 (.lst (rowsD q 1))).set r12 (.lst (polysD p (0 + 1)))) = V3 at st4 k9 k10 ⊢
      refine c_spoil (by omega) k9 (fun d hd => by obtain ⟨t, _, rfl⟩ := List.mem_map.mp hd; rfl) (by rw [rows_len]; omega) ?_
      have k10' : (V3.set r9 (.lst ((rowsD p m).reverse ++ [.non]))) r10 = some (.lst (polysD q n)) := by rw [Om.set_ne n910]; exact k10
      push_cast
      refine c_spoil (by omega) k10' (fun d hd => by obtain ⟨t, _, rfl⟩ := List.mem_map.mp hd; rfl) (by rw [polys_len]; omega) ?_
      have st5 := (st4.off (m := .lst ((rowsD p m).reverse ++ [.non])) r9a).off (m := .lst ((polysD q n).reverse ++ [.non])) r10a
      push_cast
      generalize ((V3.set r9 (.lst ((rowsD p m).reverse ++ [.non]))).set r10 (.lst ((polysD q n).reverse ++ [.non]))) = V4 at st5 ⊢
      refine call_prime (h_prime (by omega)) st5 fun u m5 hu hu2 hs => ?_
      obtain ⟨u, rfl⟩ : ∃ c : Nat, u = c := ⟨u.toNat, by have := hu.1; omega⟩
      push_cast
      refine call_of (h_refused (by omega) _ _ _ ⟨u, rfl, ⟨hu, hu2⟩, .set hs, fun m6 hs => ?_⟩)
      push_cast
      refine c_allrows (by omega) hp (by omega) hpm fun r13 h13 => ?_
      push_cast
      refine call_of (h_rowslisted (by omega) _ _ _ ⟨p, m, rfl, rfl, Om.set_same, by omega, by omega, by omega, hpm, ?_⟩)
      push_cast
      refine c_allpolys (by omega) ei hq (by omega) hqn2 fun r14 h14 => ?_
      rw [en]
      push_cast
      refine call_of (h_polyslisted (by omega) _ _ _ ⟨q, n, rfl, rfl, Om.set_same, by omega, by omega, by omega, hqn, ?_⟩)
      push_cast
      exact ⟨_, Sub.refl, h _⟩
    push_cast
    refine call_of (h_store (by omega) _ _ _ ⟨hl, fun a m0 ha hs => ?_⟩)
    have st0 : StOk (W.set a m0) a := .set hs
    push_cast
    generalize W.set a m0 = V0 at st0 ⊢
    intro q2 hq2
    have na2 : q2 ≠ a := st0.ne hq2
    have st1 := st0.off (m := .lst [.int 243, .int 243]) na2
    push_cast
    intro q3 hq3
    have na3 : q3 ≠ a := st1.ne hq3
    obtain ⟨n32, _⟩ := set_none hq3
    have st2 := st1.off (m := .lst [.int 7, .int 7]) na3
    have e2 : ((V0.set q2 (.lst [.int 243, .int 243])).set q3 (.lst [.int 7, .int 7])) q2 = some (.lst [.int 243, .int 243]) := by rw [Om.set_ne (Ne.symm n32), Om.set_same]
    have e3 : ((V0.set q2 (.lst [.int 243, .int 243])).set q3 (.lst [.int 7, .int 7])) q3 = some (.lst [.int 7, .int 7]) := Om.set_same
    generalize ((V0.set q2 (.lst [.int 243, .int 243])).set q3 (.lst [.int 7, .int 7])) = V at st2 e2 e3 ⊢
    have f2 : ∀ m, (V.set a m) q2 = some (.lst [.int 243, .int 243]) := fun m => by rw [Om.set_ne na2]; exact e2
    have f3 : ∀ m, (V.set a m) q3 = some (.lst [.int 7, .int 7]) := fun m => by rw [Om.set_ne na3]; exact e3
    push_cast
    refine call_chance (h_chance (by omega)) (logOk_le (by omega) (by omega)) st2 fun b m1 hs => ?_
    push_cast
    refine brn_of (fun e => ?_) (fun e => ?_)
    · push_cast
      refine call_take (h_take (by omega)) (logOk_le (by omega) (by omega)) (.set hs) fun c m2 c0 c1 hs => ?_
      have g3 : ∀ xs, ((V.set a m2).set q2 xs) q3 = some (.lst [.int 7, .int 7]) := fun xs => by rw [Om.set_ne n32]; exact f3 m2
      obtain rfl | rfl : c = 0 ∨ c = 1 := by omega
      · push_cast [f2, g3]
        have z := rest (((V.set a m2).set q2 (.lst [.int 1024, .int 243])).set q3 (.lst [.int 10, .int 7])) a q2 q3 1024 243 10 7 (some (.int 0)) (((StOk.set hs).off na2).off na3) (by rw [Om.set_ne (Ne.symm n32), Om.set_same]) Om.set_same na2 na3 (by omega) (by omega) (by omega) (by omega) (by omega) (by decide) (by decide)
        push_cast at z
        exact z
      · push_cast [f2, g3]
        have z := rest (((V.set a m2).set q2 (.lst [.int 243, .int 1024])).set q3 (.lst [.int 7, .int 10])) a q2 q3 243 1024 7 10 (some (.int 1)) (((StOk.set hs).off na2).off na3) (by rw [Om.set_ne (Ne.symm n32), Om.set_same]) Om.set_same na2 na3 (by omega) (by omega) (by omega) (by omega) (by omega) (by decide) (by decide)
        push_cast at z
        exact z
    · have z := rest (V.set a m1) a q2 q3 243 243 7 7 none (.set hs) (f2 m1) (f3 m1) na2 na3 (by omega) (by omega) (by omega) (by omega) (by omega) (by decide) (by decide)
      push_cast at z
      push_cast
      exact z
  · exact h.elim
end
theorem l_wall {k : Nat} {ds : List D} {W : Om} {R : Out → Om → Prop} (h : G 0 k ds W R) : ds.length = L.ts.ar 0 ∧ k ≠ 0 := by
  obtain ⟨hk, h⟩ : 1 ≤ k ∧ NeverSp ds W R := h
  refine ⟨?_, by omega⟩
  unfold NeverSp at h
  split at h <;> first | rfl | exact h.elim
theorem l_whole {k : Nat} {ds : List D} {W : Om} {R : Out → Om → Prop} (h : G 1 k ds W R) : ds.length = L.ts.ar 1 ∧ k ≠ 0 := by
  obtain ⟨hk, h⟩ : 1 ≤ k ∧ WholeSp ds W R := h
  refine ⟨?_, by omega⟩
  unfold WholeSp at h
  split at h <;> first | rfl | exact h.elim
theorem l_hasdiv {k : Nat} {ds : List D} {W : Om} {R : Out → Om → Prop} (h : G 2 k ds W R) : ds.length = L.ts.ar 2 ∧ k ≠ 0 := by
  obtain ⟨hk, h⟩ : 1 ≤ k ∧ HasDivSp ds W R := h
  refine ⟨?_, by omega⟩
  unfold HasDivSp at h
  split at h <;> first | rfl | exact h.elim
theorem l_checkprime {k : Nat} {ds : List D} {W : Om} {R : Out → Om → Prop} (h : G 3 k ds W R) : ds.length = L.ts.ar 3 ∧ k ≠ 0 := by
  obtain ⟨hk, h⟩ : 2 ≤ k ∧ (CheckPrimeSp 7 0) ds W R := h
  refine ⟨?_, by omega⟩
  unfold CheckPrimeSp at h
  split at h <;> first | rfl | exact h.elim
theorem l_pcn {k : Nat} {ds : List D} {W : Om} {R : Out → Om → Prop} (h : G 4 k ds W R) : ds.length = L.ts.ar 4 ∧ k ≠ 0 := by
  obtain ⟨hk, h⟩ : 1 ≤ k ∧ (PCheckNumSp 8 0) ds W R := h
  refine ⟨?_, by omega⟩
  unfold PCheckNumSp at h
  split at h <;> first | rfl | exact h.elim
theorem l_pcr {k : Nat} {ds : List D} {W : Om} {R : Out → Om → Prop} (h : G 5 k ds W R) : ds.length = L.ts.ar 5 ∧ k ≠ 0 := by
  obtain ⟨hk, h⟩ : 2 ≤ k ∧ (CheckRowSp 5 8 0) ds W R := h
  refine ⟨?_, by omega⟩
  unfold CheckRowSp at h
  split at h <;> first | rfl | exact h.elim
theorem l_pcg {k : Nat} {ds : List D} {W : Om} {R : Out → Om → Prop} (h : G 6 k ds W R) : ds.length = L.ts.ar 6 ∧ k ≠ 0 := by
  obtain ⟨hk, h⟩ : 1 ≤ k ∧ (CheckRangeSp 4) ds W R := h
  refine ⟨?_, by omega⟩
  unfold CheckRangeSp at h
  split at h <;> first | rfl | exact h.elim
theorem l_pcf {k : Nat} {ds : List D} {W : Om} {R : Out → Om → Prop} (h : G 7 k ds W R) : ds.length = L.ts.ar 7 ∧ k ≠ 0 := by
  obtain ⟨hk, h⟩ : 1 ≤ k ∧ NeverSp ds W R := h
  refine ⟨?_, by omega⟩
  unfold NeverSp at h
  split at h <;> first | rfl | exact h.elim
theorem l_trimmed {k : Nat} {ds : List D} {W : Om} {R : Out → Om → Prop} (h : G 8 k ds W R) : ds.length = L.ts.ar 8 ∧ k ≠ 0 := by
  obtain ⟨hk, h⟩ : 1 ≤ k ∧ TrimSp ds W R := h
  refine ⟨?_, by omega⟩
  unfold TrimSp at h
  split at h <;> first | rfl | exact h.elim
theorem l_multiplied {k : Nat} {ds : List D} {W : Om} {R : Out → Om → Prop} (h : G 9 k ds W R) : ds.length = L.ts.ar 9 ∧ k ≠ 0 := by
  obtain ⟨hk, h⟩ : 1 ≤ k ∧ NeverSp ds W R := h
  refine ⟨?_, by omega⟩
  unfold NeverSp at h
  split at h <;> first | rfl | exact h.elim
theorem l_allrows {k : Nat} {ds : List D} {W : Om} {R : Out → Om → Prop} (h : G 10 k ds W R) : ds.length = L.ts.ar 10 ∧ k ≠ 0 := by
  obtain ⟨hk, h⟩ : 3 ≤ k ∧ AllRowsSp ds W R := h
  refine ⟨?_, by omega⟩
  unfold AllRowsSp at h
  split at h <;> first | rfl | exact h.elim
theorem l_allpolys {k : Nat} {ds : List D} {W : Om} {R : Out → Om → Prop} (h : G 11 k ds W R) : ds.length = L.ts.ar 11 ∧ k ≠ 0 := by
  obtain ⟨hk, h⟩ : 5 ≤ k ∧ AllPolysSp ds W R := h
  refine ⟨?_, by omega⟩
  unfold AllPolysSp at h
  split at h <;> first | rfl | exact h.elim
theorem l_mix {k : Nat} {ds : List D} {W : Om} {R : Out → Om → Prop} (h : G 12 k ds W R) : ds.length = L.ts.ar 12 ∧ k ≠ 0 := by
  obtain ⟨hk, h⟩ : 1 ≤ k ∧ MixSp ds W R := h
  refine ⟨?_, by omega⟩
  unfold MixSp at h
  split at h <;> first | rfl | exact h.elim
theorem l_store {k : Nat} {ds : List D} {W : Om} {R : Out → Om → Prop} (h : G 13 k ds W R) : ds.length = L.ts.ar 13 ∧ k ≠ 0 := by
  obtain ⟨hk, h⟩ : 1 ≤ k ∧ StoreSp ds W R := h
  refine ⟨?_, by omega⟩
  unfold StoreSp at h
  split at h <;> first | rfl | exact h.elim
theorem l_take {k : Nat} {ds : List D} {W : Om} {R : Out → Om → Prop} (h : G 14 k ds W R) : ds.length = L.ts.ar 14 ∧ k ≠ 0 := by
  obtain ⟨hk, h⟩ : 2 ≤ k ∧ TakeSp ds W R := h
  refine ⟨?_, by omega⟩
  unfold TakeSp at h
  split at h <;> first | rfl | exact h.elim
theorem l_edge {k : Nat} {ds : List D} {W : Om} {R : Out → Om → Prop} (h : G 15 k ds W R) : ds.length = L.ts.ar 15 ∧ k ≠ 0 := by
  obtain ⟨hk, h⟩ : 3 ≤ k ∧ EdgeSp ds W R := h
  refine ⟨?_, by omega⟩
  unfold EdgeSp at h
  split at h <;> first | rfl | exact h.elim
theorem l_chance {k : Nat} {ds : List D} {W : Om} {R : Out → Om → Prop} (h : G 16 k ds W R) : ds.length = L.ts.ar 16 ∧ k ≠ 0 := by
  obtain ⟨hk, h⟩ : 3 ≤ k ∧ ChanceSp ds W R := h
  refine ⟨?_, by omega⟩
  unfold ChanceSp at h
  split at h <;> first | rfl | exact h.elim
theorem l_pick {k : Nat} {ds : List D} {W : Om} {R : Out → Om → Prop} (h : G 17 k ds W R) : ds.length = L.ts.ar 17 ∧ k ≠ 0 := by
  obtain ⟨hk, h⟩ : 3 ≤ k ∧ PickSp ds W R := h
  refine ⟨?_, by omega⟩
  unfold PickSp at h
  split at h <;> first | rfl | exact h.elim
theorem l_other {k : Nat} {ds : List D} {W : Om} {R : Out → Om → Prop} (h : G 18 k ds W R) : ds.length = L.ts.ar 18 ∧ k ≠ 0 := by
  obtain ⟨hk, h⟩ : 4 ≤ k ∧ OtherSp ds W R := h
  refine ⟨?_, by omega⟩
  unfold OtherSp at h
  split at h <;> first | rfl | exact h.elim
theorem l_badint {k : Nat} {ds : List D} {W : Om} {R : Out → Om → Prop} (h : G 19 k ds W R) : ds.length = L.ts.ar 19 ∧ k ≠ 0 := by
  obtain ⟨hk, h⟩ : 5 ≤ k ∧ BadIntSp ds W R := h
  refine ⟨?_, by omega⟩
  unfold BadIntSp at h
  split at h <;> first | rfl | exact h.elim
theorem l_primes {k : Nat} {ds : List D} {W : Om} {R : Out → Om → Prop} (h : G 20 k ds W R) : ds.length = L.ts.ar 20 ∧ k ≠ 0 := by
  obtain ⟨hk, h⟩ : 1 ≤ k ∧ PrimesSp ds W R := h
  refine ⟨?_, by omega⟩
  unfold PrimesSp at h
  split at h <;> first | rfl | exact h.elim
theorem l_prime {k : Nat} {ds : List D} {W : Om} {R : Out → Om → Prop} (h : G 21 k ds W R) : ds.length = L.ts.ar 21 ∧ k ≠ 0 := by
  obtain ⟨hk, h⟩ : 4 ≤ k ∧ PrimeSp ds W R := h
  refine ⟨?_, by omega⟩
  unfold PrimeSp at h
  split at h <;> first | rfl | exact h.elim
theorem l_power {k : Nat} {ds : List D} {W : Om} {R : Out → Om → Prop} (h : G 22 k ds W R) : ds.length = L.ts.ar 22 ∧ k ≠ 0 := by
  obtain ⟨hk, h⟩ : 1 ≤ k ∧ PowSp ds W R := h
  refine ⟨?_, by omega⟩
  unfold PowSp at h
  split at h <;> first | rfl | exact h.elim
theorem l_fitprime {k : Nat} {ds : List D} {W : Om} {R : Out → Om → Prop} (h : G 23 k ds W R) : ds.length = L.ts.ar 23 ∧ k ≠ 0 := by
  obtain ⟨hk, h⟩ : 3 ≤ k ∧ FitPrimeSp ds W R := h
  refine ⟨?_, by omega⟩
  unfold FitPrimeSp at h
  split at h <;> first | rfl | exact h.elim
theorem l_badprime {k : Nat} {ds : List D} {W : Om} {R : Out → Om → Prop} (h : G 24 k ds W R) : ds.length = L.ts.ar 24 ∧ k ≠ 0 := by
  obtain ⟨hk, h⟩ : 5 ≤ k ∧ BadPrimeSp ds W R := h
  refine ⟨?_, by omega⟩
  unfold BadPrimeSp at h
  split at h <;> first | rfl | exact h.elim
theorem l_same {k : Nat} {ds : List D} {W : Om} {R : Out → Om → Prop} (h : G 25 k ds W R) : ds.length = L.ts.ar 25 ∧ k ≠ 0 := by
  have h : (SameSp k) ds W R := h
  refine ⟨?_, ?_⟩
  · unfold SameSp at h
    split at h <;> first | rfl | exact h.elim
  · rintro rfl
    unfold SameSp at h
    split at h
    all_goals first | exact h.elim | (obtain ⟨_, _, hz, _⟩ := h; exact absurd hz (Nat.not_lt_zero _)) | (obtain ⟨_, _, _, hz, _⟩ := h; exact absurd hz (Nat.not_lt_zero _))
theorem l_spoil {k : Nat} {ds : List D} {W : Om} {R : Out → Om → Prop} (h : G 26 k ds W R) : ds.length = L.ts.ar 26 ∧ k ≠ 0 := by
  obtain ⟨hk, h⟩ : 1 ≤ k ∧ SpoilOSp ds W R := h
  refine ⟨?_, by omega⟩
  unfold SpoilOSp at h
  split at h <;> first | rfl | exact h.elim
theorem l_polyis {k : Nat} {ds : List D} {W : Om} {R : Out → Om → Prop} (h : G 27 k ds W R) : ds.length = L.ts.ar 27 ∧ k ≠ 0 := by
  obtain ⟨hk, h⟩ : 5 ≤ k ∧ (PolyIsSp 9 2 3 4) ds W R := h
  refine ⟨?_, by omega⟩
  unfold PolyIsSp at h
  split at h <;> first | rfl | exact h.elim
theorem l_ltrim {k : Nat} {ds : List D} {W : Om} {R : Out → Om → Prop} (h : G 28 k ds W R) : ds.length = L.ts.ar 28 ∧ k ≠ 0 := by
  obtain ⟨hk, h⟩ : 1 ≤ k ∧ TrimSp ds W R := h
  refine ⟨?_, by omega⟩
  unfold TrimSp at h
  split at h <;> first | rfl | exact h.elim
theorem l_kinds {k : Nat} {ds : List D} {W : Om} {R : Out → Om → Prop} (h : G 29 k ds W R) : ds.length = L.ts.ar 29 ∧ k ≠ 0 := by
  obtain ⟨hk, h⟩ : 1 ≤ k ∧ KindsSp ds W R := h
  refine ⟨?_, by omega⟩
  unfold KindsSp at h
  split at h <;> first | rfl | exact h.elim
theorem l_rowserr {k : Nat} {ds : List D} {W : Om} {R : Out → Om → Prop} (h : G 30 k ds W R) : ds.length = L.ts.ar 30 ∧ k ≠ 0 := by
  obtain ⟨hk, h⟩ : 4 ≤ k ∧ (ErrSp 0) ds W R := h
  refine ⟨?_, by omega⟩
  unfold ErrSp at h
  split at h <;> first | rfl | exact h.elim
theorem l_polyserr {k : Nat} {ds : List D} {W : Om} {R : Out → Om → Prop} (h : G 31 k ds W R) : ds.length = L.ts.ar 31 ∧ k ≠ 0 := by
  obtain ⟨hk, h⟩ : 6 ≤ k ∧ (ErrSp 1) ds W R := h
  refine ⟨?_, by omega⟩
  unfold ErrSp at h
  split at h <;> first | rfl | exact h.elim
theorem l_due {k : Nat} {ds : List D} {W : Om} {R : Out → Om → Prop} (h : G 32 k ds W R) : ds.length = L.ts.ar 32 ∧ k ≠ 0 := by
  obtain ⟨hk, h⟩ : 1 ≤ k ∧ DueSp ds W R := h
  refine ⟨?_, by omega⟩
  unfold DueSp at h
  split at h <;> first | rfl | exact h.elim
theorem l_figures {k : Nat} {ds : List D} {W : Om} {R : Out → Om → Prop} (h : G 33 k ds W R) : ds.length = L.ts.ar 33 ∧ k ≠ 0 := by
  obtain ⟨hk, h⟩ : 1 ≤ k ∧ FiguresSp ds W R := h
  refine ⟨?_, by omega⟩
  unfold FiguresSp at h
  split at h <;> first | rfl | exact h.elim
theorem l_rowslisted {k : Nat} {ds : List D} {W : Om} {R : Out → Om → Prop} (h : G 34 k ds W R) : ds.length = L.ts.ar 34 ∧ k ≠ 0 := by
  obtain ⟨hk, h⟩ : 4 ≤ k ∧ RowsListedSp ds W R := h
  refine ⟨?_, by omega⟩
  unfold RowsListedSp at h
  split at h <;> first | rfl | exact h.elim
theorem l_polyslisted {k : Nat} {ds : List D} {W : Om} {R : Out → Om → Prop} (h : G 35 k ds W R) : ds.length = L.ts.ar 35 ∧ k ≠ 0 := by
  obtain ⟨hk, h⟩ : 6 ≤ k ∧ PolysListedSp ds W R := h
  refine ⟨?_, by omega⟩
  unfold PolysListedSp at h
  split at h <;> first | rfl | exact h.elim
theorem l_refused {k : Nat} {ds : List D} {W : Om} {R : Out → Om → Prop} (h : G 36 k ds W R) : ds.length = L.ts.ar 36 ∧ k ≠ 0 := by
  obtain ⟨hk, h⟩ : 7 ≤ k ∧ RefusedSp ds W R := h
  refine ⟨?_, by omega⟩
  unfold RefusedSp at h
  split at h <;> first | rfl | exact h.elim
theorem l_law {k : Nat} {ds : List D} {W : Om} {R : Out → Om → Prop} (h : G 37 k ds W R) : ds.length = L.ts.ar 37 ∧ k ≠ 0 := by
  obtain ⟨hk, h⟩ : 8 ≤ k ∧ LawSp ds W R := h
  refine ⟨?_, by omega⟩
  unfold LawSp at h
  split at h <;> first | rfl | exact h.elim
theorem l_pinit {k : Nat} {ds : List D} {W : Om} {R : Out → Om → Prop} (h : G 38 k ds W R) : ds.length = L.ts.ar 38 ∧ k ≠ 0 := by
  obtain ⟨hk, h⟩ : 3 ≤ k ∧ (PInitSp 9 2 3 7 5 8 0) ds W R := h
  refine ⟨?_, by omega⟩
  unfold PInitSp at h
  split at h <;> first | rfl | exact h.elim
theorem l_n39 {k : Nat} {ds : List D} {W : Om} {R : Out → Om → Prop} (h : G 39 k ds W R) : ds.length = L.ts.ar 39 ∧ k ≠ 0 := by
  obtain ⟨hk, h⟩ : 1 ≤ k ∧ NeverSp ds W R := h
  refine ⟨?_, by omega⟩
  unfold NeverSp at h
  split at h <;> first | rfl | exact h.elim
theorem l_n40 {k : Nat} {ds : List D} {W : Om} {R : Out → Om → Prop} (h : G 40 k ds W R) : ds.length = L.ts.ar 40 ∧ k ≠ 0 := by
  obtain ⟨hk, h⟩ : 1 ≤ k ∧ NeverSp ds W R := h
  refine ⟨?_, by omega⟩
  unfold NeverSp at h
  split at h <;> first | rfl | exact h.elim
theorem l_n41 {k : Nat} {ds : List D} {W : Om} {R : Out → Om → Prop} (h : G 41 k ds W R) : ds.length = L.ts.ar 41 ∧ k ≠ 0 := by
  obtain ⟨hk, h⟩ : 1 ≤ k ∧ NeverSp ds W R := h
  refine ⟨?_, by omega⟩
  unfold NeverSp at h
  split at h <;> first | rfl | exact h.elim
theorem l_n42 {k : Nat} {ds : List D} {W : Om} {R : Out → Om → Prop} (h : G 42 k ds W R) : ds.length = L.ts.ar 42 ∧ k ≠ 0 := by
  obtain ⟨hk, h⟩ : 1 ≤ k ∧ NeverSp ds W R := h
  refine ⟨?_, by omega⟩
  unfold NeverSp at h
  split at h <;> first | rfl | exact h.elim
theorem l_n43 {k : Nat} {ds : List D} {W : Om} {R : Out → Om → Prop} (h : G 43 k ds W R) : ds.length = L.ts.ar 43 ∧ k ≠ 0 := by
  obtain ⟨hk, h⟩ : 1 ≤ k ∧ NeverSp ds W R := h
  refine ⟨?_, by omega⟩
  unfold NeverSp at h
  split at h <;> first | rfl | exact h.elim
theorem l_n44 {k : Nat} {ds : List D} {W : Om} {R : Out → Om → Prop} (h : G 44 k ds W R) : ds.length = L.ts.ar 44 ∧ k ≠ 0 := by
  obtain ⟨hk, h⟩ : 1 ≤ k ∧ NeverSp ds W R := h
  refine ⟨?_, by omega⟩
  unfold NeverSp at h
  split at h <;> first | rfl | exact h.elim
theorem l_n45 {k : Nat} {ds : List D} {W : Om} {R : Out → Om → Prop} (h : G 45 k ds W R) : ds.length = L.ts.ar 45 ∧ k ≠ 0 := by
  obtain ⟨hk, h⟩ : 1 ≤ k ∧ NeverSp ds W R := h
  refine ⟨?_, by omega⟩
  unfold NeverSp at h
  split at h <;> first | rfl | exact h.elim
theorem l_n46 {k : Nat} {ds : List D} {W : Om} {R : Out → Om → Prop} (h : G 46 k ds W R) : ds.length = L.ts.ar 46 ∧ k ≠ 0 := by
  obtain ⟨hk, h⟩ : 1 ≤ k ∧ NeverSp ds W R := h
  refine ⟨?_, by omega⟩
  unfold NeverSp at h
  split at h <;> first | rfl | exact h.elim
theorem l_n47 {k : Nat} {ds : List D} {W : Om} {R : Out → Om → Prop} (h : G 47 k ds W R) : ds.length = L.ts.ar 47 ∧ k ≠ 0 := by
  obtain ⟨hk, h⟩ : 1 ≤ k ∧ NeverSp ds W R := h
  refine ⟨?_, by omega⟩
  unfold NeverSp at h
  split at h <;> first | rfl | exact h.elim
theorem l_n48 {k : Nat} {ds : List D} {W : Om} {R : Out → Om → Prop} (h : G 48 k ds W R) : ds.length = L.ts.ar 48 ∧ k ≠ 0 := by
  obtain ⟨hk, h⟩ : 1 ≤ k ∧ NeverSp ds W R := h
  refine ⟨?_, by omega⟩
  unfold NeverSp at h
  split at h <;> first | rfl | exact h.elim
theorem l_n49 {k : Nat} {ds : List D} {W : Om} {R : Out → Om → Prop} (h : G 49 k ds W R) : ds.length = L.ts.ar 49 ∧ k ≠ 0 := by
  obtain ⟨hk, h⟩ : 1 ≤ k ∧ NeverSp ds W R := h
  refine ⟨?_, by omega⟩
  unfold NeverSp at h
  split at h <;> first | rfl | exact h.elim
theorem l_n50 {k : Nat} {ds : List D} {W : Om} {R : Out → Om → Prop} (h : G 50 k ds W R) : ds.length = L.ts.ar 50 ∧ k ≠ 0 := by
  obtain ⟨hk, h⟩ : 1 ≤ k ∧ NeverSp ds W R := h
  refine ⟨?_, by omega⟩
  unfold NeverSp at h
  split at h <;> first | rfl | exact h.elim
theorem l_n51 {k : Nat} {ds : List D} {W : Om} {R : Out → Om → Prop} (h : G 51 k ds W R) : ds.length = L.ts.ar 51 ∧ k ≠ 0 := by
  obtain ⟨hk, h⟩ : 1 ≤ k ∧ NeverSp ds W R := h
  refine ⟨?_, by omega⟩
  unfold NeverSp at h
  split at h <;> first | rfl | exact h.elim
theorem l_n52 {k : Nat} {ds : List D} {W : Om} {R : Out → Om → Prop} (h : G 52 k ds W R) : ds.length = L.ts.ar 52 ∧ k ≠ 0 := by
  obtain ⟨hk, h⟩ : 1 ≤ k ∧ NeverSp ds W R := h
  refine ⟨?_, by omega⟩
  unfold NeverSp at h
  split at h <;> first | rfl | exact h.elim
theorem w_wall {k : Nat} {ds : List D} {W : Om} {R : Out → Om → Prop} (h : G 0 (k + 1) ds W R) : wpSs G k L.ts.toPm (L.df 0).body (Kf R) (startG (L.df 0).N.length ds) W := by
  obtain ⟨hk, h⟩ : 1 ≤ k + 1 ∧ NeverSp ds W R := h
  exact wp_never h
theorem w_whole {k : Nat} {ds : List D} {W : Om} {R : Out → Om → Prop} (h : G 1 (k + 1) ds W R) : wpSs G k L.ts.toPm (L.df 1).body (Kf R) (startG (L.df 1).N.length ds) W := by
  obtain ⟨hk, h⟩ : 1 ≤ k + 1 ∧ WholeSp ds W R := h
  exact wp_whole h
theorem w_hasdiv {k : Nat} {ds : List D} {W : Om} {R : Out → Om → Prop} (h : G 2 (k + 1) ds W R) : wpSs G k L.ts.toPm (L.df 2).body (Kf R) (startG (L.df 2).N.length ds) W := by
  obtain ⟨hk, h⟩ : 1 ≤ k + 1 ∧ HasDivSp ds W R := h
  exact wp_has_divisor h
theorem w_checkprime {k : Nat} {ds : List D} {W : Om} {R : Out → Om → Prop} (h : G 3 (k + 1) ds W R) : wpSs G k L.ts.toPm (L.df 3).body (Kf R) (startG (L.df 3).N.length ds) W := by
  obtain ⟨hk, h⟩ : 2 ≤ k + 1 ∧ (CheckPrimeSp 7 0) ds W R := h
  exact wp_check_prime (h_whole (by omega)) (h_hasdiv (by omega)) rfl h
theorem w_pcn {k : Nat} {ds : List D} {W : Om} {R : Out → Om → Prop} (h : G 4 (k + 1) ds W R) : wpSs G k L.ts.toPm (L.df 4).body (Kf R) (startG (L.df 4).N.length ds) W := by
  obtain ⟨hk, h⟩ : 1 ≤ k + 1 ∧ (PCheckNumSp 8 0) ds W R := h
  exact wp_pcn rfl h
theorem w_pcr {k : Nat} {ds : List D} {W : Om} {R : Out → Om → Prop} (h : G 5 (k + 1) ds W R) : wpSs G k L.ts.toPm (L.df 5).body (Kf R) (startG (L.df 5).N.length ds) W := by
  obtain ⟨hk, h⟩ : 2 ≤ k + 1 ∧ (CheckRowSp 5 8 0) ds W R := h
  exact wp_pcr (h_pcn (by omega)) rfl h
theorem w_pcg {k : Nat} {ds : List D} {W : Om} {R : Out → Om → Prop} (h : G 6 (k + 1) ds W R) : wpSs G k L.ts.toPm (L.df 6).body (Kf R) (startG (L.df 6).N.length ds) W := by
  obtain ⟨hk, h⟩ : 1 ≤ k + 1 ∧ (CheckRangeSp 4) ds W R := h
  exact wp_pcg rfl h
theorem w_pcf {k : Nat} {ds : List D} {W : Om} {R : Out → Om → Prop} (h : G 7 (k + 1) ds W R) : wpSs G k L.ts.toPm (L.df 7).body (Kf R) (startG (L.df 7).N.length ds) W := by
  obtain ⟨hk, h⟩ : 1 ≤ k + 1 ∧ NeverSp ds W R := h
  exact wp_never h
theorem w_trimmed {k : Nat} {ds : List D} {W : Om} {R : Out → Om → Prop} (h : G 8 (k + 1) ds W R) : wpSs G k L.ts.toPm (L.df 8).body (Kf R) (startG (L.df 8).N.length ds) W := by
  obtain ⟨hk, h⟩ : 1 ≤ k + 1 ∧ TrimSp ds W R := h
  exact wp_trim h
theorem w_multiplied {k : Nat} {ds : List D} {W : Om} {R : Out → Om → Prop} (h : G 9 (k + 1) ds W R) : wpSs G k L.ts.toPm (L.df 9).body (Kf R) (startG (L.df 9).N.length ds) W := by
  obtain ⟨hk, h⟩ : 1 ≤ k + 1 ∧ NeverSp ds W R := h
  exact wp_never h
theorem w_allrows {k : Nat} {ds : List D} {W : Om} {R : Out → Om → Prop} (h : G 10 (k + 1) ds W R) : wpSs G k L.ts.toPm (L.df 10).body (Kf R) (startG (L.df 10).N.length ds) W := by
  obtain ⟨hk, h⟩ : 3 ≤ k + 1 ∧ AllRowsSp ds W R := h
  exact wp_allrows (by omega) h
theorem w_allpolys {k : Nat} {ds : List D} {W : Om} {R : Out → Om → Prop} (h : G 11 (k + 1) ds W R) : wpSs G k L.ts.toPm (L.df 11).body (Kf R) (startG (L.df 11).N.length ds) W := by
  obtain ⟨hk, h⟩ : 5 ≤ k + 1 ∧ AllPolysSp ds W R := h
  exact wp_allpolys (by omega) h
theorem w_mix {k : Nat} {ds : List D} {W : Om} {R : Out → Om → Prop} (h : G 12 (k + 1) ds W R) : wpSs G k L.ts.toPm (L.df 12).body (Kf R) (startG (L.df 12).N.length ds) W := by
  obtain ⟨hk, h⟩ : 1 ≤ k + 1 ∧ MixSp ds W R := h
  exact wp_mix h
theorem w_store {k : Nat} {ds : List D} {W : Om} {R : Out → Om → Prop} (h : G 13 (k + 1) ds W R) : wpSs G k L.ts.toPm (L.df 13).body (Kf R) (startG (L.df 13).N.length ds) W := by
  obtain ⟨hk, h⟩ : 1 ≤ k + 1 ∧ StoreSp ds W R := h
  exact wp_store h
theorem w_take {k : Nat} {ds : List D} {W : Om} {R : Out → Om → Prop} (h : G 14 (k + 1) ds W R) : wpSs G k L.ts.toPm (L.df 14).body (Kf R) (startG (L.df 14).N.length ds) W := by
  obtain ⟨hk, h⟩ : 2 ≤ k + 1 ∧ TakeSp ds W R := h
  exact wp_take (h_mix (by omega)) h
theorem w_edge {k : Nat} {ds : List D} {W : Om} {R : Out → Om → Prop} (h : G 15 (k + 1) ds W R) : wpSs G k L.ts.toPm (L.df 15).body (Kf R) (startG (L.df 15).N.length ds) W := by
  obtain ⟨hk, h⟩ : 3 ≤ k + 1 ∧ EdgeSp ds W R := h
  exact wp_edge (h_take (by omega)) h
theorem w_chance {k : Nat} {ds : List D} {W : Om} {R : Out → Om → Prop} (h : G 16 (k + 1) ds W R) : wpSs G k L.ts.toPm (L.df 16).body (Kf R) (startG (L.df 16).N.length ds) W := by
  obtain ⟨hk, h⟩ : 3 ≤ k + 1 ∧ ChanceSp ds W R := h
  exact wp_chance (h_take (by omega)) h
theorem w_pick {k : Nat} {ds : List D} {W : Om} {R : Out → Om → Prop} (h : G 17 (k + 1) ds W R) : wpSs G k L.ts.toPm (L.df 17).body (Kf R) (startG (L.df 17).N.length ds) W := by
  obtain ⟨hk, h⟩ : 3 ≤ k + 1 ∧ PickSp ds W R := h
  exact wp_pick (h_take (by omega)) h
theorem w_other {k : Nat} {ds : List D} {W : Om} {R : Out → Om → Prop} (h : G 18 (k + 1) ds W R) : wpSs G k L.ts.toPm (L.df 18).body (Kf R) (startG (L.df 18).N.length ds) W := by
  obtain ⟨hk, h⟩ : 4 ≤ k + 1 ∧ OtherSp ds W R := h
  exact wp_other_kind (h_pick (by omega)) h
theorem w_badint {k : Nat} {ds : List D} {W : Om} {R : Out → Om → Prop} (h : G 19 (k + 1) ds W R) : wpSs G k L.ts.toPm (L.df 19).body (Kf R) (startG (L.df 19).N.length ds) W := by
  obtain ⟨hk, h⟩ : 5 ≤ k + 1 ∧ BadIntSp ds W R := h
  exact wp_bad_integer (h_take (by omega)) (h_pick (by omega)) (h_other (by omega)) h
theorem w_primes {k : Nat} {ds : List D} {W : Om} {R : Out → Om → Prop} (h : G 20 (k + 1) ds W R) : wpSs G k L.ts.toPm (L.df 20).body (Kf R) (startG (L.df 20).N.length ds) W := by
  obtain ⟨hk, h⟩ : 1 ≤ k + 1 ∧ PrimesSp ds W R := h
  exact wp_primes h
theorem w_prime {k : Nat} {ds : List D} {W : Om} {R : Out → Om → Prop} (h : G 21 (k + 1) ds W R) : wpSs G k L.ts.toPm (L.df 21).body (Kf R) (startG (L.df 21).N.length ds) W := by
  obtain ⟨hk, h⟩ : 4 ≤ k + 1 ∧ PrimeSp ds W R := h
  exact wp_prime (h_primes (by omega)) (h_edge (by omega)) h
theorem w_power {k : Nat} {ds : List D} {W : Om} {R : Out → Om → Prop} (h : G 22 (k + 1) ds W R) : wpSs G k L.ts.toPm (L.df 22).body (Kf R) (startG (L.df 22).N.length ds) W := by
  obtain ⟨hk, h⟩ : 1 ≤ k + 1 ∧ PowSp ds W R := h
  exact wp_power h
theorem w_fitprime {k : Nat} {ds : List D} {W : Om} {R : Out → Om → Prop} (h : G 23 (k + 1) ds W R) : wpSs G k L.ts.toPm (L.df 23).body (Kf R) (startG (L.df 23).N.length ds) W := by
  obtain ⟨hk, h⟩ : 3 ≤ k + 1 ∧ FitPrimeSp ds W R := h
  exact wp_fitprime (by omega) h
theorem w_badprime {k : Nat} {ds : List D} {W : Om} {R : Out → Om → Prop} (h : G 24 (k + 1) ds W R) : wpSs G k L.ts.toPm (L.df 24).body (Kf R) (startG (L.df 24).N.length ds) W := by
  obtain ⟨hk, h⟩ : 5 ≤ k + 1 ∧ BadPrimeSp ds W R := h
  exact wp_bad_prime (h_take (by omega)) (h_prime (by omega)) (h_other (by omega)) h
theorem w_same {k : Nat} {ds : List D} {W : Om} {R : Out → Om → Prop} (h : G 25 (k + 1) ds W R) : wpSs G k L.ts.toPm (L.df 25).body (Kf R) (startG (L.df 25).N.length ds) W := by
  exact wp_same h_same (show (SameSp (k + 1)) ds W R from h)
theorem w_spoil {k : Nat} {ds : List D} {W : Om} {R : Out → Om → Prop} (h : G 26 (k + 1) ds W R) : wpSs G k L.ts.toPm (L.df 26).body (Kf R) (startG (L.df 26).N.length ds) W := by
  obtain ⟨hk, h⟩ : 1 ≤ k + 1 ∧ SpoilOSp ds W R := h
  exact wp_spoilO h
theorem w_polyis {k : Nat} {ds : List D} {W : Om} {R : Out → Om → Prop} (h : G 27 (k + 1) ds W R) : wpSs G k L.ts.toPm (L.df 27).body (Kf R) (startG (L.df 27).N.length ds) W := by
  obtain ⟨hk, h⟩ : 5 ≤ k + 1 ∧ (PolyIsSp 9 2 3 4) ds W R := h
  exact wp_polyis h_same (h_ltrim (by omega)) (by omega) rfl rfl (by decide) h
theorem w_ltrim {k : Nat} {ds : List D} {W : Om} {R : Out → Om → Prop} (h : G 28 (k + 1) ds W R) : wpSs G k L.ts.toPm (L.df 28).body (Kf R) (startG (L.df 28).N.length ds) W := by
  obtain ⟨hk, h⟩ : 1 ≤ k + 1 ∧ TrimSp ds W R := h
  exact wp_trim h
theorem w_kinds {k : Nat} {ds : List D} {W : Om} {R : Out → Om → Prop} (h : G 29 (k + 1) ds W R) : wpSs G k L.ts.toPm (L.df 29).body (Kf R) (startG (L.df 29).N.length ds) W := by
  obtain ⟨hk, h⟩ : 1 ≤ k + 1 ∧ KindsSp ds W R := h
  exact wp_kinds h
theorem w_rowserr {k : Nat} {ds : List D} {W : Om} {R : Out → Om → Prop} (h : G 30 (k + 1) ds W R) : wpSs G k L.ts.toPm (L.df 30).body (Kf R) (startG (L.df 30).N.length ds) W := by
  obtain ⟨hk, h⟩ : 4 ≤ k + 1 ∧ (ErrSp 0) ds W R := h
  exact wp_rowserr (by omega) h
theorem w_polyserr {k : Nat} {ds : List D} {W : Om} {R : Out → Om → Prop} (h : G 31 (k + 1) ds W R) : wpSs G k L.ts.toPm (L.df 31).body (Kf R) (startG (L.df 31).N.length ds) W := by
  obtain ⟨hk, h⟩ : 6 ≤ k + 1 ∧ (ErrSp 1) ds W R := h
  exact wp_polyserr (by omega) h
theorem w_due {k : Nat} {ds : List D} {W : Om} {R : Out → Om → Prop} (h : G 32 (k + 1) ds W R) : wpSs G k L.ts.toPm (L.df 32).body (Kf R) (startG (L.df 32).N.length ds) W := by
  obtain ⟨hk, h⟩ : 1 ≤ k + 1 ∧ DueSp ds W R := h
  exact wp_due h
theorem w_figures {k : Nat} {ds : List D} {W : Om} {R : Out → Om → Prop} (h : G 33 (k + 1) ds W R) : wpSs G k L.ts.toPm (L.df 33).body (Kf R) (startG (L.df 33).N.length ds) W := by
  obtain ⟨hk, h⟩ : 1 ≤ k + 1 ∧ FiguresSp ds W R := h
  exact wp_figures h
theorem w_rowslisted {k : Nat} {ds : List D} {W : Om} {R : Out → Om → Prop} (h : G 34 (k + 1) ds W R) : wpSs G k L.ts.toPm (L.df 34).body (Kf R) (startG (L.df 34).N.length ds) W := by
  obtain ⟨hk, h⟩ : 4 ≤ k + 1 ∧ RowsListedSp ds W R := h
  exact wp_rowslisted (by omega) h
theorem w_polyslisted {k : Nat} {ds : List D} {W : Om} {R : Out → Om → Prop} (h : G 35 (k + 1) ds W R) : wpSs G k L.ts.toPm (L.df 35).body (Kf R) (startG (L.df 35).N.length ds) W := by
  obtain ⟨hk, h⟩ : 6 ≤ k + 1 ∧ PolysListedSp ds W R := h
  exact wp_polyslisted (by omega) h
theorem w_refused {k : Nat} {ds : List D} {W : Om} {R : Out → Om → Prop} (h : G 36 (k + 1) ds W R) : wpSs G k L.ts.toPm (L.df 36).body (Kf R) (startG (L.df 36).N.length ds) W := by
  obtain ⟨hk, h⟩ : 7 ≤ k + 1 ∧ RefusedSp ds W R := h
  exact wp_refused (by omega) h
theorem w_law {k : Nat} {ds : List D} {W : Om} {R : Out → Om → Prop} (h : G 37 (k + 1) ds W R) : wpSs G k L.ts.toPm (L.df 37).body (Kf R) (startG (L.df 37).N.length ds) W := by
  obtain ⟨hk, h⟩ : 8 ≤ k + 1 ∧ LawSp ds W R := h
  exact wp_law (by omega) h
theorem w_pinit {k : Nat} {ds : List D} {W : Om} {R : Out → Om → Prop} (h : G 38 (k + 1) ds W R) : wpSs G k L.ts.toPm (L.df 38).body (Kf R) (startG (L.df 38).N.length ds) W := by
  obtain ⟨hk, h⟩ : 3 ≤ k + 1 ∧ (PInitSp 9 2 3 7 5 8 0) ds W R := h
  exact wp_pinit (h_checkprime (by omega)) (h_pcr (by omega)) (h_trimmed (by omega)) rfl rfl (by decide) h
theorem w_n39 {k : Nat} {ds : List D} {W : Om} {R : Out → Om → Prop} (h : G 39 (k + 1) ds W R) : wpSs G k L.ts.toPm (L.df 39).body (Kf R) (startG (L.df 39).N.length ds) W := by
  obtain ⟨hk, h⟩ : 1 ≤ k + 1 ∧ NeverSp ds W R := h
  exact wp_never h
theorem w_n40 {k : Nat} {ds : List D} {W : Om} {R : Out → Om → Prop} (h : G 40 (k + 1) ds W R) : wpSs G k L.ts.toPm (L.df 40).body (Kf R) (startG (L.df 40).N.length ds) W := by
  obtain ⟨hk, h⟩ : 1 ≤ k + 1 ∧ NeverSp ds W R := h
  exact wp_never h
theorem w_n41 {k : Nat} {ds : List D} {W : Om} {R : Out → Om → Prop} (h : G 41 (k + 1) ds W R) : wpSs G k L.ts.toPm (L.df 41).body (Kf R) (startG (L.df 41).N.length ds) W := by
  obtain ⟨hk, h⟩ : 1 ≤ k + 1 ∧ NeverSp ds W R := h
  exact wp_never h
theorem w_n42 {k : Nat} {ds : List D} {W : Om} {R : Out → Om → Prop} (h : G 42 (k + 1) ds W R) : wpSs G k L.ts.toPm (L.df 42).body (Kf R) (startG (L.df 42).N.length ds) W := by
  obtain ⟨hk, h⟩ : 1 ≤ k + 1 ∧ NeverSp ds W R := h
  exact wp_never h
theorem w_n43 {k : Nat} {ds : List D} {W : Om} {R : Out → Om → Prop} (h : G 43 (k + 1) ds W R) : wpSs G k L.ts.toPm (L.df 43).body (Kf R) (startG (L.df 43).N.length ds) W := by
  obtain ⟨hk, h⟩ : 1 ≤ k + 1 ∧ NeverSp ds W R := h
  exact wp_never h
theorem w_n44 {k : Nat} {ds : List D} {W : Om} {R : Out → Om → Prop} (h : G 44 (k + 1) ds W R) : wpSs G k L.ts.toPm (L.df 44).body (Kf R) (startG (L.df 44).N.length ds) W := by
  obtain ⟨hk, h⟩ : 1 ≤ k + 1 ∧ NeverSp ds W R := h
  exact wp_never h
theorem w_n45 {k : Nat} {ds : List D} {W : Om} {R : Out → Om → Prop} (h : G 45 (k + 1) ds W R) : wpSs G k L.ts.toPm (L.df 45).body (Kf R) (startG (L.df 45).N.length ds) W := by
  obtain ⟨hk, h⟩ : 1 ≤ k + 1 ∧ NeverSp ds W R := h
  exact wp_never h
theorem w_n46 {k : Nat} {ds : List D} {W : Om} {R : Out → Om → Prop} (h : G 46 (k + 1) ds W R) : wpSs G k L.ts.toPm (L.df 46).body (Kf R) (startG (L.df 46).N.length ds) W := by
  obtain ⟨hk, h⟩ : 1 ≤ k + 1 ∧ NeverSp ds W R := h
  exact wp_never h
theorem w_n47 {k : Nat} {ds : List D} {W : Om} {R : Out → Om → Prop} (h : G 47 (k + 1) ds W R) : wpSs G k L.ts.toPm (L.df 47).body (Kf R) (startG (L.df 47).N.length ds) W := by
  obtain ⟨hk, h⟩ : 1 ≤ k + 1 ∧ NeverSp ds W R := h
  exact wp_never h
theorem w_n48 {k : Nat} {ds : List D} {W : Om} {R : Out → Om → Prop} (h : G 48 (k + 1) ds W R) : wpSs G k L.ts.toPm (L.df 48).body (Kf R) (startG (L.df 48).N.length ds) W := by
  obtain ⟨hk, h⟩ : 1 ≤ k + 1 ∧ NeverSp ds W R := h
  exact wp_never h
theorem w_n49 {k : Nat} {ds : List D} {W : Om} {R : Out → Om → Prop} (h : G 49 (k + 1) ds W R) : wpSs G k L.ts.toPm (L.df 49).body (Kf R) (startG (L.df 49).N.length ds) W := by
  obtain ⟨hk, h⟩ : 1 ≤ k + 1 ∧ NeverSp ds W R := h
  exact wp_never h
theorem w_n50 {k : Nat} {ds : List D} {W : Om} {R : Out → Om → Prop} (h : G 50 (k + 1) ds W R) : wpSs G k L.ts.toPm (L.df 50).body (Kf R) (startG (L.df 50).N.length ds) W := by
  obtain ⟨hk, h⟩ : 1 ≤ k + 1 ∧ NeverSp ds W R := h
  exact wp_never h
theorem w_n51 {k : Nat} {ds : List D} {W : Om} {R : Out → Om → Prop} (h : G 51 (k + 1) ds W R) : wpSs G k L.ts.toPm (L.df 51).body (Kf R) (startG (L.df 51).N.length ds) W := by
  obtain ⟨hk, h⟩ : 1 ≤ k + 1 ∧ NeverSp ds W R := h
  exact wp_never h
theorem w_n52 {k : Nat} {ds : List D} {W : Om} {R : Out → Om → Prop} (h : G 52 (k + 1) ds W R) : wpSs G k L.ts.toPm (L.df 52).body (Kf R) (startG (L.df 52).N.length ds) W := by
  obtain ⟨hk, h⟩ : 1 ≤ k + 1 ∧ NeverSp ds W R := h
  exact wp_never h
theorem G_none {f k : Nat} {ds : List D} {W : Om} {R : Out → Om → Prop} (h : G (f + 53) k ds W R) : False := h
theorem good_len : ∀ f j ds W R, G f j ds W R → ds.length = L.ts.ar f ∧ j ≠ 0 := fun f j ds W R h => 
  match f with
  | 0 => l_wall h
  | 1 => l_whole h
  | 2 => l_hasdiv h
  | 3 => l_checkprime h
  | 4 => l_pcn h
  | 5 => l_pcr h
  | 6 => l_pcg h
  | 7 => l_pcf h
  | 8 => l_trimmed h
  | 9 => l_multiplied h
  | 10 => l_allrows h
  | 11 => l_allpolys h
  | 12 => l_mix h
  | 13 => l_store h
  | 14 => l_take h
  | 15 => l_edge h
  | 16 => l_chance h
  | 17 => l_pick h
  | 18 => l_other h
  | 19 => l_badint h
  | 20 => l_primes h
  | 21 => l_prime h
  | 22 => l_power h
  | 23 => l_fitprime h
  | 24 => l_badprime h
  | 25 => l_same h
  | 26 => l_spoil h
  | 27 => l_polyis h
  | 28 => l_ltrim h
  | 29 => l_kinds h
  | 30 => l_rowserr h
  | 31 => l_polyserr h
  | 32 => l_due h
  | 33 => l_figures h
  | 34 => l_rowslisted h
  | 35 => l_polyslisted h
  | 36 => l_refused h
  | 37 => l_law h
  | 38 => l_pinit h
  | 39 => l_n39 h
  | 40 => l_n40 h
  | 41 => l_n41 h
  | 42 => l_n42 h
  | 43 => l_n43 h
  | 44 => l_n44 h
  | 45 => l_n45 h
  | 46 => l_n46 h
  | 47 => l_n47 h
  | 48 => l_n48 h
  | 49 => l_n49 h
  | 50 => l_n50 h
  | 51 => l_n51 h
  | 52 => l_n52 h
  | _ + 53 => (G_none h).elim
theorem good_wp : ∀ f, f < L.fs.length → ∀ k ds W R, G f (k + 1) ds W R → wpSs G k L.ts.toPm (L.df f).body (Kf R) (startG (L.df f).N.length ds) W := fun f _ k ds W R h => 
  match f with
  | 0 => w_wall h
  | 1 => w_whole h
  | 2 => w_hasdiv h
  | 3 => w_checkprime h
  | 4 => w_pcn h
  | 5 => w_pcr h
  | 6 => w_pcg h
  | 7 => w_pcf h
  | 8 => w_trimmed h
  | 9 => w_multiplied h
  | 10 => w_allrows h
  | 11 => w_allpolys h
  | 12 => w_mix h
  | 13 => w_store h
  | 14 => w_take h
  | 15 => w_edge h
  | 16 => w_chance h
  | 17 => w_pick h
  | 18 => w_other h
  | 19 => w_badint h
  | 20 => w_primes h
  | 21 => w_prime h
  | 22 => w_power h
  | 23 => w_fitprime h
  | 24 => w_badprime h
  | 25 => w_same h
  | 26 => w_spoil h
  | 27 => w_polyis h
  | 28 => w_ltrim h
  | 29 => w_kinds h
  | 30 => w_rowserr h
  | 31 => w_polyserr h
  | 32 => w_due h
  | 33 => w_figures h
  | 34 => w_rowslisted h
  | 35 => w_polyslisted h
  | 36 => w_refused h
  | 37 => w_law h
  | 38 => w_pinit h
  | 39 => w_n39 h
  | 40 => w_n40 h
  | 41 => w_n41 h
  | 42 => w_n42 h
  | 43 => w_n43 h
  | 44 => w_n44 h
  | 45 => w_n45 h
  | 46 => w_n46 h
  | 47 => w_n47 h
  | 48 => w_n48 h
  | 49 => w_n49 h
  | 50 => w_n50 h
  | 51 => w_n51 h
  | 52 => w_n52 h
  | _ + 53 => (G_none h).elim
theorem good : Good L G := ⟨fun f j ds W R h => (good_len f j ds W R h).1, fun f ds W R h => (good_len f 0 ds W R h).2 rfl, good_wp⟩
end K14
end
set_option maxHeartbeats 0
open PySem PySem.W PySem.Calls PyProof.Rows
theorem PySem.Challenge.cw_sumtalk_k14_all_rows_and_polys_are_liste_holds : PySem.Challenge.rw_sumtalk_k14_all_rows_and_polys_are_liste.Holds :=
  K14.top fun says q loose XP d hs hdf hat =>
    Tw.walk_any (l := PySem.Challenge.rw_sumtalk_k14_all_rows_and_polys_are_liste) (n := 63) (k := 20) (f0 := 37) (x := "_law_script") K14.good hs rfl (by decide) hdf ⟨rfl, by decide, by decide⟩ hat (by decide +kernel) rfl
      (fun ns hl _ => ⟨by omega, hl, fun _ => rfl⟩)
