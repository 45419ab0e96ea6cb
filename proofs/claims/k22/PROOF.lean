import PyProof.Rows.All
import Wide.All
import OpenK.AllK
import Wide.FinOn
import HandS.ForMost
import HandS.Wide
import HandS.IsInst
import HandS.TupAny
import HandS.TupMul
import HandS.Style
import HandS.Codes
import HandS.Zip
import HandS.Defaults
import PySem.Challenge.RW_branchturns_k22_whole_round_words
set_option Elab.async false
set_option linter.all false
set_option maxRecDepth 100000
set_option maxHeartbeats 4000000
/-! My own layer over HandS: heaps that keep all but one list, rules that lack, the dice of the laws. -/
namespace Br
open PySem PySem.Spec PyProof.Rows L2

/-! ### heaps -/
/-- all is kept but the list at d -/
def Kd (d : Addr) (H H' : Hp) : Prop := ∀ a o, H a = some o → (a = d → ∀ xs, o ≠ .lst xs) → H' a = some o
theorem Kd.refl {d : Addr} {H : Hp} : Kd d H H := fun _ _ h _ => h
theorem Kd.trans {d : Addr} {H H1 H2 : Hp} (a : Kd d H H1) (b : Kd d H1 H2) : Kd d H H2 := fun c o h n => b c o (a c o h n) n
theorem Kd.same {d : Addr} {H H' : Hp} (s : Same H H') : Kd d H H' := fun c o h _ => s c o h
theorem Kd.rd {d a : Addr} {H H' : Hp} {u : HO} (k : Kd d H H') (h : Rd H a u) (n : a = d → ∀ xs, u ≠ .lst xs) : Rd H' a u := by
  rcases h with h | ⟨o, h⟩
  · exact .inl (k _ _ h n)
  · exact .inr ⟨o, k _ _ h fun _ _ z => nomatch z⟩
theorem Kd.tup {d a : Addr} {K : PySem.W.Frag} {H H' : Hp} {xs : List V} (k : Kd d H H') (h : SqT K H a xs) : SqT K H' a xs := by
  rcases h with h | h
  · exact .inl (k.rd h fun _ _ z => nomatch z)
  · exact .inr h
theorem Kd.lst {d a : Addr} {K : PySem.W.Frag} {H H' : Hp} {xs : List V} (k : Kd d H H') (n : a ≠ d) (h : SqL K H a xs) : SqL K H' a xs := by
  rcases h with h | h
  · exact .inl (k.rd h fun z => (n z).elim)
  · exact .inr h
theorem Kd.free {d a : Addr} {H H' : Hp} (k : Kd d H H') (n : a ≠ d) (h : H' a = none) : H a = none := by
  cases e : H a with
  | none => rfl
  | some o =>
    rw [k a o e fun z => (n z).elim] at h
    cases h
theorem same_new {H : Hp} {p : Addr} {o : HO} (h : H p = none) : Same H (upd H p o) := fun a u e => by
  rw [upd_ne (ne_of_none e h)]
  exact e
theorem same_tup {K : PySem.W.Frag} {H H' : Hp} {a : Addr} {xs : List V} (e : Same H H') (h : SqT K H a xs) : SqT K H' a xs := Kd.tup (d := a) (Kd.same e) h
theorem kd_upd {d : Addr} {H : Hp} {o : HO} {xs : List V} (h : H d = some (.lst xs)) : Kd d H (upd H d o) := fun a u e n => by
  by_cases z : a = d
  · subst z
    rw [h] at e
    cases e
    exact absurd rfl (n rfl xs)
  · rw [upd_ne z]
    exact e
theorem sT {K : PySem.W.Frag} {H : Hp} {a : Addr} {xs : List V} (h : H a = some (.tup xs)) : SqT K H a xs := .inl (.inl h)
theorem sL {K : PySem.W.Frag} {H : Hp} {a : Addr} {xs : List V} (h : H a = some (.lst xs)) : SqL K H a xs := .inl (.inl h)
theorem sz {n : Nat} (h : n ≤ 1000000) : n ≤ sizeLine := Nat.le_trans h (by decide)
theorem szl {n : Nat} (h : n < 1000000) : n < sizeLine := Nat.lt_of_lt_of_le h (by decide)

/-! ### rules that lack -/
section
variable {X : Cx}
/-- ** of a great base -/
theorem op_powW : OpR X (binaryOp .Pow) (rI (fun i j => 0 ≤ j ∧ (Builtin.Int.intBits i : Int) * j ≤ 2 ^ 27) fun i j => .int (i ^ j.toNat)) := opI fun _ _ _ _ _ _ _ hc q => pow_int hc.1 hc.2 q
end
section
open HT
variable {prog : Program} {w : World} {A : Around} {E : Value → Shared → Prop} {s : Shared}
theorem rev_places (n : Nat) : Builtin.Slice.slicePlaces ((n : Int) - 1) (-1) (-1) = n := by
  unfold Builtin.Slice.slicePlaces
  rw [if_neg (by decide)]
  simp only [Int.neg_neg, Int.ediv_one]
  split <;> omega
theorem rev_adjust (n : Nat) : Builtin.Slice.sliceAdjust none none (-1) (n : Int) = ((n : Int) - 1, -1) := rfl
theorem rev_applied {sl : Addr} {vs : Value} {n : Nat} {Q : Int × Int × Nat → Shared → Prop} (hs : s.heap.IsSliceOf sl .none .none vs) (ps : IsPart vs (some (-1))) (h : Q ((n : Int) - 1, -1, n) s) :
    wpAny (model prog w) A (Builtin.Slice.sliceApplied (.ref sl) (pure (n : Int))) Q E s := by
  obtain ⟨os, hos, hcs, hds⟩ := id hs
  unfold Builtin.Slice.sliceApplied Builtin.Slice.sliceFields
  refine wpAny_bind (wpAny_bind (wpAny_field hos hds (x := .none) rfl (wpAny_bind (wpAny_field hos hds (x := .none) rfl (wpAny_bind (wpAny_field hos hds (x := vs) rfl (wpAny_pure ?_)))))))
  refine wpAny_bind (slicePart_ ps ?_)
  show wpAny _ _ (if ((-1 : Int) == 0) = true then _ else _) _ _ s
  rw [if_neg (by decide)]
  refine wpAny_bind (slicePart_ .none (wpAny_bind (slicePart_ .none (wpAny_bind (wpAny_pure ?_)))))
  show wpAny _ _ (match Builtin.Slice.sliceAdjust none none (-1) (n : Int) with | (lo, hi) => pure (lo, (-1 : Int), Builtin.Slice.slicePlaces lo hi (-1))) _ _ s
  rw [rev_adjust n]
  show wpAny _ _ (pure ((n : Int) - 1, (-1 : Int), Builtin.Slice.slicePlaces ((n : Int) - 1) (-1) (-1))) _ _ s
  rw [rev_places]
  exact wpAny_pure h
theorem rev_pick (xs : List Value) : ((List.range xs.length).filterMap fun (k : Nat) => xs.toArray[(((xs.length : Nat) : Int) - 1 + (k : Int) * -1).toNat]?) = xs.reverse := by
  have e : ∀ (n : Nat), n ≤ xs.length → ((List.range n).filterMap fun (k : Nat) => xs.toArray[(((xs.length : Nat) : Int) - 1 + (k : Int) * -1).toNat]?) = xs.reverse.take n := by
    intro n
    induction n with
    | zero => intro _; rfl
    | succ n ih =>
      intro h
      rw [List.range_succ, List.filterMap_append, ih (by omega), List.take_add_one]
      congr 1
      have e1 : (((xs.length : Nat) : Int) - 1 + (n : Int) * -1).toNat = xs.length - 1 - n := by omega
      have h2 : xs.reverse[n]? = xs[xs.length - 1 - n]? := by rw [List.getElem?_reverse (by omega)]
      rw [h2]
      simp only [List.filterMap_cons, List.filterMap_nil, e1, List.getElem?_toArray]
      cases xs[xs.length - 1 - n]? <;> rfl
  have := e xs.length (Nat.le_refl _)
  rw [this, List.take_of_length_le (by rw [List.length_reverse]; exact Nat.le_refl _)]
theorem getItem_tuple_rev {t sl : Addr} {its : List Value} {vs : Value} {Q : Value → Shared → Prop} (ht : IsTup s.heap t its.toArray) (hs : s.heap.IsSliceOf sl .none .none vs) (ps : IsPart vs (some (-1))) (hz : its.length ≤ sizeLine)
    (h : Q (.ref s.heap.objs.size) { s with heap := s.heap.push { cls := .type "tuple", data := .seq its.reverse.toArray } }) : wpAny (model prog w) A (getItem (.ref t) (.ref sl)) Q E s := by
  have htake : sizeOk (.seq its.reverse.toArray) := by
    show its.reverse.toArray.size ≤ sizeLine
    rw [List.size_toArray, List.length_reverse]
    exact hz
  obtain ⟨os, hos, hcs, hds⟩ := id hs
  have hTs : s.TypeIs (.ref sl) "slice" := ⟨os, hos, hcs⟩
  unfold getItem
  try with_reducible refine wpAny_holding ?_
  first | refine wpAny_bind (wpAny_pure ?_) | skip
  refine wpAny_bind (wpAny_sequenceKey ht.typeIs (by decide) ?_)
  refine wpAny_bind (wpAny_callSpecial?_slot (name := Str.ofString "__getitem__") ht.typeIs PyProof.Rows.slot_tuple_getitem
    (wpAny_call_entry PyProof.Rows.slot_tuple_getitem ht.typeIs entry_tuple_getitem ?_ (args_tuple_getitem _ _)))
  show wpAny _ _ (Builtin.Tuple.tupleItemsOf (.ref t) >>= _) _ _ s
  refine wpAny_bind (tupleItemsOf_ ht ?_)
  refine wpAny_bind (wpAny_typeOf hTs ?_)
  rw [if_pos (by decide)]
  refine wpAny_bind (rev_applied (n := its.toArray.size) hs ps ?_)
  have hno : ¬ ((((its.toArray.size : Nat) : Int) - 1 == 0 && (-1 : Int) == 1 && its.toArray.size == its.toArray.size) = true) := by
    intro q
    rw [Bool.and_eq_true, Bool.and_eq_true] at q
    exact absurd q.1.2 (by decide)
  show wpAny _ _ (if (((its.toArray.size : Nat) : Int) - 1 == 0 && (-1 : Int) == 1 && its.toArray.size == its.toArray.size) = true then _ else _) _ _ s
  rw [if_neg hno, List.size_toArray, rev_pick]
  first
    | exact wpAny_bind (m := Builtin.Tuple.tupleExact _) (wpAny_newObj_type (wpAny_pure ⟨_, rfl, wpAny_pure h⟩) htake)
    | exact wpAny_bind (m := Builtin.Tuple.tupleExact _) (wpAny_newObj_type (wpAny_bind (wpAny_pure (wpAny_pure ⟨_, rfl, wpAny_pure h⟩))) htake)
    | exact wpAny_bind (wpAny_bind (m := Builtin.Tuple.tupleExact _) (wpAny_newObj_type (wpAny_pure (wpAny_pure ⟨_, rfl, wpAny_pure h⟩)) htake))
    | exact wpAny_bind (wpAny_bind (m := Builtin.Tuple.tupleExact _) (wpAny_newObj_type (wpAny_pure ⟨_, rfl, wpAny_pure h⟩) htake))
end
section
variable {X : Cx}
/-- t[::-1], t a tuple -/
def tRevT (K : PySem.W.Frag) (te : TE) : TE := fun σ H Q => te σ H fun x H1 => ∃ a xs, x = .ref a ∧ SqT K H1 a xs ∧ ∀ p, H1 p = none → Q (.ref p) (upd H1 p (.tup xs.reverse))
theorem pe_revT {e : Expr} {te : TE} {k : Nat} {p1 p2 p3 pos : Pos} (he : PE X e te) : PE X (.Subscript e (.Slice none none (some (.UnaryOp .USub (.Constant (.int 1) k p1) p2)) p3) pos) (tRevT X.K te) := by
  refine ⟨fun pins s σ H Q I h => Subscript_ (thn (he.run pins s σ H _ I h) fun v s1 ⟨x, H1, I1, r1, a, xs, ex, hx, q⟩ => ?_)⟩
  subst ex
  cases r1
  have hst : PO X (some (.UnaryOp .USub (.Constant (.int 1) k p1) p2)) (tPart (tUn (rU fun i => .int (-i)) (tC (.int 1)))) := po_some (pe_un un_neg pe_int)
  refine wpAny_Slice (thn (po_none.run pins s1 σ H1 (fun o H2 => o = none ∧ H2 = H1) I1 ⟨rfl, rfl⟩) fun vl s2 ⟨l, H2, I2, pl, el, e2⟩ => ?_)
  subst el e2
  refine thn (po_none.run pins s2 σ H2 (fun o H3 => o = none ∧ H3 = H2) I2 ⟨rfl, rfl⟩) fun vu s3 ⟨u, H3, I3, pu, eu, e3⟩ => ?_
  subst eu e3
  refine thn (hst.run pins s3 σ H3 (fun o H4 => o = some (-1) ∧ H4 = H3) I3 ⟨1, rfl, -1, rfl, rfl, rfl⟩) fun vs s4 ⟨o, H4, I4, ps, eo, e4⟩ => ?_
  subst eo e4
  cases pl
  cases pu
  have I5 : Inv X pins σ H4 { s4 with heap := s4.heap.push { cls := .type "slice", data := .fields #[.none, .none, vs] } } := I4.kept (t' := s4.toks) fun b ob q => Heap.get?_push_of_some _ q
  obtain ⟨its, r, ht, hz⟩ := I5.tuple hx
  have hlen := r.length
  refine tail_any (ops := [.ref a, .ref s4.heap.objs.size]) ht.typeIs PyProof.Rows.slot_tuple_getitem.lookup ?_ (by with_unfolding_all rfl)
  refine getItem_tuple_rev ht (Heap.IsSliceOf.new _ .none .none vs) ps (by omega) ?_
  refine ⟨.ref _, _, I5.laid (t' := s4.toks) (o := .tup xs.reverse) (fun b ob q => Heap.get?_push_of_some _ q) (Nat.le_refl _) ?_, rfl, q _ (I5.hok.fresh (Nat.le_refl _))⟩
  exact ⟨by rw [List.length_reverse]; exact hz, _, r.reverse, IsTup.new _ _⟩
end
end Br

namespace Br
open PySem PySem.Spec PyProof.Rows L2
/-! ### defs by their names -/
/-- a def that may be called by its name, with these defaults; CX: what it may let out -/
structure Cl (CX : CXT) (P : Program) (w : World) (K : PySem.W.Frag) (mg : Str → Option Value) (base : Heap) (k : Nat) (x : Str) (sp : Sp) (dvs : List V) : Prop where
  ex : ∃ (f : Addr) (fd : FuncData) (ps : List Str) (ds : List Value), FnOk P w K mg base CX k f fd ps sp ∧ mg x = some (.ref f) ∧ PySem.W.keepIn K (.ref f) = true ∧ Binds K fd ps ds ∧ Vals dvs ds
/-- a def of the text as it stands behind the top -/
structure Dn (K : PySem.W.Frag) (mg : Str → Option Value) (x : Str) (st : Stmt) (ps : List Str) (f : Addr) (fd : FuncData) : Prop where
  ex : ∃ (oc : Value) (od : Option Addr) (dV kV doc pm : Value) (an : Option Addr) (cdv ct : Value) (osl : Array (Option Value)),
    fd = PySem.W.fnOf x x (defArgs st) (defBody st) (defScope st) dV kV doc pm an cdv ct ∧ K.lookup f = some ⟨oc, od, .func fd, osl⟩ ∧ PySem.W.codeIn K cdv x = true
  kp : PySem.W.keepIn K (.ref f) = true
  mgf : mg x = some (.ref f)
section
variable {P : Program} {w : World} {K : PySem.W.Frag} {mg : Str → Option Value} {base : Heap}
theorem Dn.ok {x : Str} {st : Stmt} {f : Addr} {fd : FuncData} {N ps : List Str} {k : Nat} {sp : Sp} (F : Dn K mg x st ps f fd) (S : FnScope N ps (defScope st)) (len : ∀ vs H Q E, sp vs H Q E → vs.length = ps.length)
    (hbody : ∀ (cdv : Value) (A : Around) (outer : List Env) (s : Shared) (H : Hp) (vs : List V) (Q : VK) (E : XK), Room k (A.deeper (envOfC x (defScope st) s.heap.objs.size f cdv)) → sp vs H Q E →
      ∃ t, PSs (cxOf CX0 P w K mg base N x (defScope st) f cdv A outer s H E).nox (defBody st) t ∧ t { nx := fun _ H' => Q .non H', rt := Q } (start N vs) H) : FnOk P w K mg base CX0 (k + 1) f fd ps sp := by
  obtain ⟨oc, od, dV, kV, doc, pm, an, cdv, ct, osl, rfl, lk, hcd⟩ := F.ex
  refine fn_of lk hcd S len fun A outer s H vs Q E hr hsp => ?_
  obtain ⟨t, h, q⟩ := hbody cdv A outer s H vs Q E hr hsp
  exact ⟨t, h.nox, q⟩
theorem Dn.cl {CX : CXT} {x : Str} {st : Stmt} {f : Addr} {fd : FuncData} {ps : List Str} {k : Nat} {sp : Sp} {ds : List Value} {dvs : List V} (F : Dn K mg x st ps f fd) (b : Binds K fd ps ds) (d : Vals dvs ds) (h : FnOk P w K mg base CX k f fd ps sp) :
    Cl CX P w K mg base k x sp dvs := ⟨f, fd, ps, ds, h, F.mgf, F.kp, b, d⟩
theorem dn_mk {x : Str} {st : Stmt} {ps : List Str} {f : Addr} {oc : Value} {od an : Option Addr} {osl : Array (Option Value)} {dV kV doc pm cdv ct : Value}
    (l : K.lookup f = some ⟨oc, od, .func (PySem.W.fnOf x x (defArgs st) (defBody st) (defScope st) dV kV doc pm an cdv ct), osl⟩)
    (c : PySem.W.codeIn K cdv x = true) (k : PySem.W.keepIn K (.ref f) = true) (m : mg x = some (.ref f)) : Dn K mg x st ps f (PySem.W.fnOf x x (defArgs st) (defBody st) (defScope st) dV kV doc pm an cdv ct) :=
  ⟨⟨oc, od, dV, kV, doc, pm, an, cdv, ct, osl, rfl, l, c⟩, k, m⟩
end
section
variable {X : Cx} {k j : Nat} {x : Str} {sp : Sp} {dvs : List V} {p pos : Pos} {e : Expr} {es : List Expr} {t : TA}
theorem pe_c (c : Cl CX0 X.prog X.w X.K X.mg X.base k x sp dvs) (hr : Room j X.A) (hk : k ≤ j) (hg : Gl X x) (ha : PA X (e :: es) t)
    (hdb : (x == ("__debug__" : Str)) = false := by decide) (he : starEach (e :: es) X.env = (false, eval e X.env) :: starEach es X.env := by rfl) (hpl : (backTo pos (starEach es X.env)).any (·.1) = false := by rfl) :
    PE X (.Call (.Name x p) (e :: es) [] pos) (tCall sp dvs E0 t) := by
  obtain ⟨f, fd, ps, ds, F, hm, kp, b, d⟩ := c.ex
  exact pe_call F (hr.mono hk) hg hm kp b d pass0 ha hdb he hpl
theorem pe_gc {v : V} (hg : Gl X x) (h : ∃ u, X.mg x = some u ∧ RelV v u) (hd : (x == ("__debug__" : Str)) = false := by decide) : PE X (.Name x pos) (tC v) := by
  obtain ⟨u, hm, r⟩ := h
  exact pe_glob hg hm r hd
end

/-! ### values of known kinds -/
/-- a value whose built-in type is known -/
inductive Kn (K : PySem.W.Frag) (H : Hp) : V → Prop where
  | non : Kn K H .non
  | bl (b : Bool) : Kn K H (.bl b)
  | int (i : Int) : Kn K H (.int i)
  | str (x : Str) : Kn K H (.str x)
  | lst {a : Addr} {xs : List V} (h : H a = some (.lst xs)) : Kn K H (.ref a)
  | tup {a : Addr} {xs : List V} (h : SqT K H a xs) : Kn K H (.ref a)
  | dK {a : Addr} {kvs : List (Key × V)} (h : H a = some (.dK kvs)) : Kn K H (.ref a)
/-- an int, but no bool -/
def isI : V → Bool
  | .int _ => true
  | _ => false
def isIB : V → Bool
  | .int _ => true
  | .bl _ => true
  | _ => false
def isB : V → Bool
  | .bl _ => true
  | _ => false
theorem tyT {K : PySem.W.Frag} {H : Hp} {a : Addr} {xs : List V} (h : SqT K H a xs) : TyX K H (.ref a) (.type "tuple") := by
  rcases h with (h | ⟨o, h⟩) | ⟨o, its, n, h1, h2, _⟩
  · exact .base (.tup h)
  · exact .fTuple h
  · exact .kTuple h1 h2
theorem kq {K : PySem.W.Frag} {a b : String} (r : Bool) {r' : Bool} (h : kitB a b = some r) (e : r = r') : PySem.W.kitOne K (.type a) (.type b) = some r' := by
  rw [← e]
  exact kit_ty h
theorem Kn.int_of {K : PySem.W.Frag} {H : Hp} {v : V} (k : Kn K H v) : ∃ t, TyX K H v t ∧ PySem.W.kitOne K t (.type "int") = some (isIB v) ∧ PySem.W.kitOne K t (.type "bool") = some (isB v) := by
  cases k with
  | non => exact ⟨_, .base .non, kq false (by decide +kernel) rfl, kq false (by decide +kernel) rfl⟩
  | bl b => exact ⟨_, .base (.bl b), kq true (by decide +kernel) rfl, kq true (by decide +kernel) rfl⟩
  | int i => exact ⟨_, .base (.int i), kq true (by decide +kernel) rfl, kq false (by decide +kernel) rfl⟩
  | str x => exact ⟨_, .base (.str x), kq false (by decide +kernel) rfl, kq false (by decide +kernel) rfl⟩
  | lst h => exact ⟨_, .base (.lst h), kq false (by decide +kernel) rfl, kq false (by decide +kernel) rfl⟩
  | tup h => exact ⟨_, tyT h, kq false (by decide +kernel) rfl, kq false (by decide +kernel) rfl⟩
  | dK h => exact ⟨_, .base (.dK h), kq false (by decide +kernel) rfl, kq false (by decide +kernel) rfl⟩
/-- no tuple -/
inductive NoT (H : Hp) : V → Prop where
  | non : NoT H .non
  | bl (b : Bool) : NoT H (.bl b)
  | int (i : Int) : NoT H (.int i)
  | str (x : Str) : NoT H (.str x)
  | lst {a : Addr} {xs : List V} (h : H a = some (.lst xs)) : NoT H (.ref a)
  | dK {a : Addr} {kvs : List (Key × V)} (h : H a = some (.dK kvs)) : NoT H (.ref a)
theorem NoT.kn {K : PySem.W.Frag} {H : Hp} {v : V} (k : NoT H v) : Kn K H v := by
  cases k with
  | non => exact .non
  | bl b => exact .bl b
  | int i => exact .int i
  | str x => exact .str x
  | lst h => exact .lst h
  | dK h => exact .dK h
theorem NoT.ty {K : PySem.W.Frag} {H : Hp} {v : V} (k : NoT H v) : ∃ t, TyX K H v t ∧ PySem.W.kitOne K t (.type "tuple") = some false := by
  cases k with
  | non => exact ⟨_, .base .non, kit_ty (by decide +kernel)⟩
  | bl b => exact ⟨_, .base (.bl b), kit_ty (by decide +kernel)⟩
  | int i => exact ⟨_, .base (.int i), kit_ty (by decide +kernel)⟩
  | str x => exact ⟨_, .base (.str x), kit_ty (by decide +kernel)⟩
  | lst h => exact ⟨_, .base (.lst h), kit_ty (by decide +kernel)⟩
  | dK h => exact ⟨_, .base (.dK h), kit_ty (by decide +kernel)⟩
theorem kit_tt {K : PySem.W.Frag} : PySem.W.kitOne K (.type "tuple") (.type "tuple") = some true := kit_ty (by decide +kernel)

/-! ### data: tuples of ints, tuples of those -/
def dI (ns : List Int) : PyData := .tuple (ns.map .int)
theorem dpAllI {K : PySem.W.Frag} {H : Hp} : ∀ ns : List Int, DpAll K H (ns.map V.int) (ns.map PyData.int)
  | [] => .nil
  | i :: r => .cons (.int i) (dpAllI r)
theorem dpI {K : PySem.W.Frag} {H : Hp} {a : Addr} {ns : List Int} (h : SqT K H a (ns.map V.int)) : Dp K H (.ref a) (dI ns) := .tup h (dpAllI ns)
theorem layI : ∀ ns : List Int, PyData.canLayAll0 (ns.map PyData.int) = true
  | [] => rfl
  | i :: r => by
    show (PyData.canLay0 (.int i) && PyData.canLayAll0 (r.map PyData.int)) = true
    rw [layI r] <;> rfl
theorem depI : ∀ ns : List Int, PyData.depthAll (ns.map PyData.int) ≤ 1
  | [] => by decide
  | i :: r => by
    show max (PyData.depth (.int i)) (PyData.depthAll (r.map PyData.int)) ≤ 1
    have := depI r
    have e : PyData.depth (.int i) ≤ 1 := by
      show _ ≤ _
      simp [PyData.depth]
    omega
theorem shI (ns : List Int) : SeqAt.shaped (dI ns) = true := by
  have h2 : PyData.depth (dI ns) ≤ 64 := by
    show PyData.depthAll (ns.map PyData.int) + 1 ≤ 64
    have := depI ns
    omega
  show (PyData.canLayAll0 (ns.map PyData.int) && decide (PyData.depth (dI ns) ≤ 64)) = true
  rw [layI, decide_eq_true h2] <;> rfl
def dII (wss : List (List Int)) : PyData := .tuple (wss.map dI)
theorem layII : ∀ wss : List (List Int), PyData.canLayAll0 (wss.map dI) = true
  | [] => rfl
  | i :: r => by
    show (PyData.canLayAll0 (i.map PyData.int) && PyData.canLayAll0 (r.map dI)) = true
    rw [layII r, layI] <;> rfl
theorem depII : ∀ wss : List (List Int), PyData.depthAll (wss.map dI) ≤ 2
  | [] => by decide
  | i :: r => by
    show max (PyData.depthAll (i.map PyData.int) + 1) (PyData.depthAll (r.map dI)) ≤ 2
    have := depII r
    have := depI i
    omega
theorem shII (wss : List (List Int)) : SeqAt.shaped (dII wss) = true := by
  have h2 : PyData.depth (dII wss) ≤ 64 := by
    show PyData.depthAll (wss.map dI) + 1 ≤ 64
    have := depII wss
    omega
  show (PyData.canLayAll0 (wss.map dI) && decide (PyData.depth (dII wss) ≤ 64)) = true
  rw [layII, decide_eq_true h2] <;> rfl
theorem eqvr {d : PyData} (h : SeqAt.shaped d = true) : PyData.eqv d d = true := SeqAt.eqv_refl d (SeqAt.canLay_of_shaped h)
/-- addresses of tuples of ints -/
inductive Tups (K : PySem.W.Frag) (H : Hp) : List V → List (List Int) → Prop where
  | nil : Tups K H [] []
  | cons {a : Addr} {ns : List Int} {vs : List V} {wss : List (List Int)} (h : SqT K H a (ns.map V.int)) (t : Tups K H vs wss) : Tups K H (.ref a :: vs) (ns :: wss)
theorem Tups.len {K : PySem.W.Frag} {H : Hp} {vs : List V} {wss : List (List Int)} (t : Tups K H vs wss) : vs.length = wss.length := by
  induction t with
  | nil => rfl
  | cons h t ih => simp [ih]
theorem Tups.mono {K : PySem.W.Frag} {H H' : Hp} {d : Addr} (k : Kd d H H') {vs : List V} {wss : List (List Int)} (t : Tups K H vs wss) : Tups K H' vs wss := by
  induction t with
  | nil => exact .nil
  | cons h t ih => exact .cons (k.tup h) ih
theorem Tups.app {K : PySem.W.Frag} {H : Hp} {vs us : List V} {wss xss : List (List Int)} (t : Tups K H vs wss) (u : Tups K H us xss) : Tups K H (vs ++ us) (wss ++ xss) := by
  induction t with
  | nil => exact u
  | cons h t ih => exact .cons h ih
theorem Tups.dp {K : PySem.W.Frag} {H : Hp} {vs : List V} {wss : List (List Int)} (t : Tups K H vs wss) : DpAll K H vs (wss.map dI) := by
  induction t with
  | nil => exact .nil
  | cons h t ih => exact .cons (dpI h) ih
theorem Tups.get {K : PySem.W.Frag} {H : Hp} {vs : List V} {wss : List (List Int)} (t : Tups K H vs wss) : ∀ {i : Nat} {ns : List Int}, wss[i]? = some ns → ∃ a, vs[i]? = some (.ref a) ∧ SqT K H a (ns.map V.int) := by
  induction t with
  | nil => intro i ns h; simp at h
  | @cons a ms vs wss h t ih =>
    intro i ns e
    cases i with
    | zero =>
      rw [List.getElem?_cons_zero] at e
      cases e
      exact ⟨a, rfl, h⟩
    | succ i => exact ih (by rw [List.getElem?_cons_succ] at e; exact e)
theorem dpII {K : PySem.W.Frag} {H : Hp} {a : Addr} {vs : List V} {wss : List (List Int)} (h : SqT K H a vs) (t : Tups K H vs wss) : Dp K H (.ref a) (dII wss) := .tup h t.dp

/-! ### the dice -/
/-- the dice stand at d; at most n rolls were mixed so far -/
def Dice (H : Hp) (d : Addr) (n : Nat) : Prop := ∃ g s c : Int, H d = some (.lst [.int g, .int s, .int c]) ∧ 0 ≤ g ∧ g.natAbs < 2 ^ 1100 ∧ 0 ≤ s ∧ s.natAbs < 2 ^ 72 ∧ 0 ≤ c ∧ c ≤ n
theorem Dice.more {H : Hp} {d : Addr} {n m : Nat} (h : Dice H d n) (l : n ≤ m) : Dice H d m := by
  obtain ⟨g, s, c, h1, h2, h3, h4, h5, h6, h7⟩ := h
  exact ⟨g, s, c, h1, h2, h3, h4, h5, h6, by omega⟩
theorem Dice.same {H H' : Hp} {d : Addr} {n : Nat} (h : Dice H d n) (e : Same H H') : Dice H' d n := by
  obtain ⟨g, s, c, h1, h2⟩ := h
  exact ⟨g, s, c, e _ _ h1, h2⟩
theorem Dice.ne {H : Hp} {d a : Addr} {n : Nat} (h : Dice H d n) (e : H a = none) : a ≠ d := by
  obtain ⟨g, s, c, h1, _⟩ := h
  intro z
  rw [z, h1] at e
  cases e
end Br

namespace Br
open PySem PySem.Spec PyProof.Rows L2
/-! ### readings of what makes tuples, in one way -/
section
variable {K : PySem.W.Frag} {H : Hp} {a b : Addr} {xs ys : List V} {Q : VK}
theorem cat_ok (ha : SqT K H a xs) (hb : SqT K H b ys) (hl : xs.length + ys.length ≤ 1000000) (q : ∀ p H', Same H H' → SqT K H' p (xs ++ ys) → Q (.ref p) H') : rCatA K (.ref a) (.ref b) H Q :=
  ⟨a, b, xs, ys, rfl, rfl, ha, hb, sz hl, fun e => q b H (Same.refl H) (by rw [e]; exact hb), fun _ e => q a H (Same.refl H) (by rw [e, List.append_nil]; exact ha), fun _ _ p np => q p _ (same_new np) (sT upd_same)⟩
theorem sl_ok {lo hi : Option Int} (ha : SqT K H a xs) (q : ∀ p H', Same H H' → SqT K H' p (cutV xs lo hi) → Q (.ref p) H') : rSlA K (.ref a) lo hi H Q := by
  refine ⟨a, xs, rfl, ha, fun e => q a H (Same.refl H) ?_, fun _ p np => q p _ (same_new np) (sT upd_same)⟩
  have z : cutV xs lo hi = xs := by
    unfold cutV
    rw [e.1, e.2, List.drop_zero, Nat.sub_zero, List.take_length]
  rw [z]
  exact ha
end
end Br

namespace Br
open PySem PySem.Spec PyProof.Rows L2
/-! ### the rules with the written part named (within a comprehension it cannot be found) -/
section
variable {X : Cx} (K : PySem.W.Frag)
theorem op_catK (h : X.K = K) : OpR X (binaryOp .Add) (rCatA K) := by
  subst h
  exact op_catA
theorem op_repK (h : X.K = K) : OpR X (binaryOp .Mult) (rRepT K) := by
  subst h
  exact op_repT
theorem op_eqK (h : X.K = K) (hu : X.A.units + 64 < cLine) : OpR X (compareOp .Eq) (rEqD K) := by
  subst h
  exact op_eqD hu
theorem op_neK (h : X.K = K) (hu : X.A.units + 64 < cLine) : OpR X (compareOp .NotEq) (rNeD K) := by
  subst h
  exact op_neD hu
theorem op_inK (h : X.K = K) : OpR X (compareOp .In) (rIn K false) := by
  subst h
  exact op_in_seq
theorem op_ninK (h : X.K = K) : OpR X (compareOp .NotIn) (rIn K true) := by
  subst h
  exact op_notIn_seq
theorem ix_lK (h : X.K = K) : IxR X (rIxL K) := by
  subst h
  exact ix_list
theorem ix_tK (h : X.K = K) : IxR X (rIxT K) := by
  subst h
  exact ix_tup
theorem sl_lK (h : X.K = K) : SlR X (rSlL K) := by
  subst h
  exact sl_list
theorem sl_tK (h : X.K = K) : SlR X (rSlA K) := by
  subst h
  exact sl_tupA
def rLenK (K : PySem.W.Frag) : List V → Hp → VK → Prop := fun xs H Q => ∃ p ys, xs = [.ref p] ∧ (SqL K H p ys ∨ SqT K H p ys) ∧ Q (.int ys.length) H
theorem call_lenK (h : X.K = K) : CallR X (.builtin "len") (rLenK K) := by
  subst h
  exact call_len_seq
def rTupK (K : PySem.W.Frag) : List V → Hp → VK → Prop := fun xs H Q => ∃ p ys, xs = [.ref p] ∧ ((SqL K H p ys ∧ ∀ l, H l = none → Q (.ref l) (upd H l (.tup ys))) ∨ (SqT K H p ys ∧ Q (.ref p) H))
theorem call_tupK (h : X.K = K) : CallR X (.type "tuple") (rTupK K) := by
  subst h
  exact call_tuple_of
def rLstK (K : PySem.W.Frag) : List V → Hp → VK → Prop := fun xs H Q => ∃ p ys, xs = [.ref p] ∧ (SqL K H p ys ∨ SqT K H p ys) ∧ ∀ l, H l = none → Q (.ref l) (upd H l (.lst ys))
theorem call_lstK (h : X.K = K) : CallR X (.type "list") (rLstK K) := by
  subst h
  exact call_list_of
theorem call_isK (h : X.K = K) : CallR X (.builtin "isinstance") (rIsi K) := by
  subst h
  exact call_isi
theorem cr_allK (h : X.K = K) (hc : X.calm = true) : CallR X (.builtin "all") (rAll K) := by
  subst h
  exact cr_all hc
theorem cr_anyK (h : X.K = K) (hc : X.calm = true) : CallR X (.builtin "any") (rAny K) := by
  subst h
  exact cr_any hc
theorem cr_sumK (h : X.K = K) (hc : X.calm = true) : CallR X (.builtin "sum") (rSum K) := by
  subst h
  exact cr_sum hc
theorem pi_lK {tg l : Expr} {tl : TE} (h : X.K = K) (hl : PE X l tl) : PI X tg l (iList K tl) := by
  subst h
  exact pi_list hl
theorem pi_tK {tg l : Expr} {tl : TE} (h : X.K = K) (hl : PE X l tl) : PI X tg l (iTup K tl) := by
  subst h
  exact pi_tup hl
theorem pe_revTK {e : Expr} {te : TE} {k : Nat} {p1 p2 p3 pos : Pos} (h : X.K = K) (he : PE X e te) : PE X (.Subscript e (.Slice none none (some (.UnaryOp .USub (.Constant (.int 1) k p1) p2)) p3) pos) (tRevT K te) := by
  subst h
  exact pe_revT he
theorem pe_revLK {e : Expr} {te : TE} {k : Nat} {p1 p2 p3 pos : Pos} (h : X.K = K) (he : PE X e te) : PE X (.Subscript e (.Slice none none (some (.UnaryOp .USub (.Constant (.int 1) k p1) p2)) p3) pos) (tRevL K te) := by
  subst h
  exact pe_revL he
end
end Br

namespace Br
open PySem PySem.Spec PyProof.Rows L2
/-! ### for the end: how arguments bind -/
section
variable {K : PySem.W.Frag} {x : Str} {st : Stmt} {f : Addr} {oc : Value} {od an : Option Addr} {osl : Array (Option Value)} {kV doc pm cdv ct : Value} {ps : List Str}
theorem bind_all {dV : Value} (_ : K.lookup f = some ⟨oc, od, .func (PySem.W.fnOf x x (defArgs st) (defBody st) (defScope st) dV kV doc pm an cdv ct), osl⟩)
    (h : ∀ us : List Value, us.length = ps.length → bindArgs (PySem.W.fnOf x x (defArgs st) (defBody st) (defScope st) dV kV doc pm an cdv ct) ⟨us, []⟩ = pure (ps.zip us)) : Binds K (PySem.W.fnOf x x (defArgs st) (defBody st) (defScope st) dV kV doc pm an cdv ct) ps [] := .all h
theorem fund_mk {dvs : List V} {its : List Value} {T : Addr} {tc : Value} {td : Option Addr} {tn : Nat} {tsl : Array (Option Value)} (l : K.lookup f = some ⟨oc, od, .func (PySem.W.fnOf x x (defArgs st) (defBody st) (defScope st) (.ref T) kV doc pm an cdv ct), osl⟩)
    (c : PySem.W.codeIn K cdv x = true) (k : PySem.W.keepIn K (.ref f) = true) (t : K.lookup T = some ⟨tc, td, .seq its.toArray tn, tsl⟩) (r : Vals dvs its) (hn : dvs ≠ [] := by decide) :
    FunD K x x (defArgs st) (defBody st) (defScope st) dvs [] f (PySem.W.fnOf x x (defArgs st) (defBody st) (defScope st) (.ref T) kV doc pm an cdv ct) :=
  ⟨⟨oc, od, _, kV, doc, pm, an, cdv, ct, osl, rfl, l, c, .inr ⟨hn, T, _, its, tn, rfl, t, rfl, r⟩, .inl rfl⟩, k⟩
end
end Br

namespace Br
open PySem PySem.Spec PyProof.Rows L2
/-! ### tuple * int, once or more -/
theorem tuple_mul1 (l : Addr) (items : Array Value) (n : Nat) (dd : Option Addr) (sl : Array (Option Value)) (u : Tok) :
    Meets (Builtin.«tuple.__mul__» ⟨[.ref l, .int 1 u], []⟩) (fun _ R s => s.heap.get? l = some { cls := .type "tuple", dict := dd, data := .seq items n, slots := sl } ∧ R (.ok (.ret (Value.ref l))) s) :=
  .of_wp fun prog w A R s h => by
    obtain ⟨hp, g, d, tk, os⟩ := s
    obtain ⟨hl, h⟩ := h
    have f1 := AutoSeq1.idx_int
    have c1 : (items.isEmpty || (1 : Int) == 1) = true := by simp
    wp_walk using wpAny_loadPart' hl
    all_goals first | exact ⟨_, rfl, h⟩ | skip
end Br

namespace Br
open PySem PySem.Spec PyProof.Rows L2
def rRepA (K : PySem.W.Frag) : R2 := fun x y H Q => ∃ l k xs, x = .ref l ∧ y = .int k ∧ SqT K H l xs ∧ xs ≠ [] ∧ 1 ≤ k ∧ k ≤ 1000 ∧ xs.length ≤ 1000 ∧
  (k = 1 → Q (.ref l) H) ∧ (2 ≤ k → ∀ p, H p = none → Q (.ref p) (upd H p (.tup (List.replicate k.toNat xs).flatten)))
section
variable {X : Cx}
theorem op_repA0 : OpR X (binaryOp .Mult) (rRepA X.K) := by
  intro pins s σ H x y v u Q I rx ry h
  obtain ⟨l, k, xs, ex, ey, hT, hne, h1, h2, hz, q1, q2⟩ := h
  by_cases hk : 2 ≤ k
  · exact op_repT pins s σ H x y v u Q I rx ry ⟨l, k, xs, ex, ey, hT, hne, hk, h2, hz, q2 hk⟩
  · obtain rfl : k = 1 := by omega
    subst ex ey
    cases rx
    obtain ⟨t, rfl⟩ := ry
    obtain ⟨its, r, ⟨⟨cls, dd, data, sl⟩, ho, hc, n, hd⟩, hs⟩ := I.tuple hT
    simp only at hc hd
    subst hc hd
    exact wpAny_binaryOp_repeat_ref (T := "tuple") (U := "int") (by decide) ⟨_, ho, rfl⟩ (fun s' => typeIs_int s' 1 t) noFill_tuple_mul F.fills_int_mul F.slot_int_rmul repeat_tuple F.slot_int_index.lookup
      (call_meets F.slot_int_rmul (typeIs_int s 1 t) F.entry_int_rmul (F.args_int_rmul_2 _ _) (int_rmul_tuple 1 t l its.toArray n dd sl)
        ⟨ho, rfl, ⟨_, ho, rfl⟩, call_meets F.slot_tuple_mul ⟨_, ho, rfl⟩ F.entry_tuple_mul (F.args_tuple_mul_2 _ _) (tuple_mul1 l its.toArray n dd sl t) ⟨ho, ⟨.ref l, H, I, rfl, q1 rfl⟩⟩⟩)
theorem op_repA (K : PySem.W.Frag) (h : X.K = K) : OpR X (binaryOp .Mult) (rRepA K) := by
  subst h
  exact op_repA0
end
theorem rep_ok {K : PySem.W.Frag} {H : Hp} {a : Addr} {xs : List V} {k : Int} {Q : VK} (ha : SqT K H a xs) (hne : xs ≠ []) (h1 : 1 ≤ k) (h2 : k ≤ 1000) (hl : xs.length ≤ 1000) (q : ∀ p H', Same H H' → SqT K H' p (List.replicate k.toNat xs).flatten → Q (.ref p) H') :
    rRepA K (.ref a) (.int k) H Q :=
  ⟨a, k, xs, rfl, rfl, ha, hne, h1, h2, hl, fun e => q a H (Same.refl H) (by
    subst e
    show SqT K H a (List.replicate 1 xs).flatten
    rw [List.replicate_one, List.flatten_singleton]
    exact ha), fun _ p np => q p _ (same_new np) (sT upd_same)⟩
end Br

namespace Br
open PySem PySem.Spec PyProof.Rows L2
theorem sl_okF {K : PySem.W.Frag} {H : Hp} {a : Addr} {xs : List V} {Q : VK} {lo : Option Int} {σ : L2.St} (ha : SqT K H a xs) (q : ∀ p H', Same H H' → SqT K H' p (cutV xs lo none) → Q (.ref p) H') : tNoPart σ H fun u H3 => rSlA K (.ref a) lo u H3 Q := sl_ok ha q
end Br

namespace Br
open PySem PySem.Spec PyProof.Rows L2
theorem same_at {H H' : Hp} {a : Addr} {o : HO} (s : Same H H') (h : H a = some o) : H' a = some o := s _ _ h
/-! ### readings that hand on a new heap by a letter, with what stands there -/
section
variable {X : Cx}
theorem pe_imp {e : Expr} {t t' : TE} (h : PE X e t) (m : ∀ σ H Q, t' σ H Q → t σ H Q) : PE X e t' := ⟨fun pins s σ H Q I k => h.run pins s σ H Q I (m σ H Q k)⟩
theorem pa_wide {es : List Expr} {ta : TA} (ha : PA X es ta) : PA X es (fun σ H k => ∃ k', (∀ xs H1, k' xs H1 → k xs H1) ∧ ta σ H k') := ⟨fun pos pins s σ H Q I h => by
  obtain ⟨k', m, h⟩ := h
  exact thn (ha.run pos pins s σ H k' I h) fun us s1 ⟨vs, H1, I1, r, q⟩ => ⟨vs, H1, I1, r, m _ _ q⟩⟩
theorem pe_wide {e : Expr} {te : TE} (he : PE X e te) : PE X e (fun σ H k => ∃ k', (∀ x H1, k' x H1 → k x H1) ∧ te σ H k') := ⟨fun pins s σ H Q I h => by
  obtain ⟨k', m, h⟩ := h
  exact thn (he.run pins s σ H k' I h) fun us s1 ⟨vs, H1, I1, r, q⟩ => ⟨vs, H1, I1, r, m _ _ q⟩⟩
/-- a new object o somewhere -/
def New (o : HO) (H : Hp) (Q : VK) : Prop := ∀ p H', H p = none → Same H H' → H' p = some o → Q (.ref p) H'
theorem New.old {o : HO} {H : Hp} {Q : VK} (h : New o H Q) : ∀ p, H p = none → Q (.ref p) (upd H p o) := fun p n => h p _ n (same_new n) upd_same
def tTupS (ta : TA) : TE := fun σ H Q => ta σ H fun xs H1 => xs.length ≤ 1000000 ∧ New (.tup xs) H1 Q
def tLstS (ta : TA) : TE := fun σ H Q => ta σ H fun xs H1 => xs.length ≤ 1000000 ∧ New (.lst xs) H1 Q
variable {es : List Expr} {ta : TA} {x1 : Nat} {pos : Pos} {e : Expr} {te : TE}
theorem pe_tupS (ha : PA X es ta) : PE X (.Tuple es x1 pos) (tTupS ta) := pe_imp (pe_tup (pa_wide ha)) fun σ H Q h => ⟨_, fun xs H1 k => ⟨sz k.1, k.2.old⟩, h⟩
theorem pe_lstS (ha : PA X es ta) : PE X (.List es pos) (tLstS ta) := pe_imp (pe_lst (pa_wide ha)) fun σ H Q h => ⟨_, fun xs H1 k => ⟨sz k.1, k.2.old⟩, h⟩
theorem pe_dnewS : PE X (.Dict [] [] pos) (fun _ H Q => New (.dK []) H Q) := pe_imp pe_dnewK fun σ H Q h => h.old
theorem pe_dnewTS : PE X (.Dict [] [] pos) (fun _ H Q => New (.dT []) H Q) := pe_imp pe_dnewT fun σ H Q h => h.old
def tRevTS (K : PySem.W.Frag) (te : TE) : TE := fun σ H Q => te σ H fun x H1 => ∃ a xs, x = .ref a ∧ SqT K H1 a xs ∧ New (.tup xs.reverse) H1 Q
theorem pe_revTS {k : Nat} {p1 p2 p3 : Pos} (K : PySem.W.Frag) (h : X.K = K) (he : PE X e te) : PE X (.Subscript e (.Slice none none (some (.UnaryOp .USub (.Constant (.int 1) k p1) p2)) p3) pos) (tRevTS K te) := by
  subst h
  exact pe_imp (pe_revT (pe_wide he)) fun σ H Q h => ⟨_, fun x H1 ⟨a, xs, e, h, k⟩ => ⟨a, xs, e, h, k.old⟩, h⟩
def tRevLS (K : PySem.W.Frag) (te : TE) : TE := fun σ H Q => te σ H fun x H1 => ∃ a xs, x = .ref a ∧ SqL K H1 a xs ∧ New (.lst xs.reverse) H1 Q
theorem pe_revLS {k : Nat} {p1 p2 p3 : Pos} (K : PySem.W.Frag) (h : X.K = K) (he : PE X e te) : PE X (.Subscript e (.Slice none none (some (.UnaryOp .USub (.Constant (.int 1) k p1) p2)) p3) pos) (tRevLS K te) := by
  subst h
  exact pe_imp (pe_revL (pe_wide he)) fun σ H Q h => ⟨_, fun x H1 ⟨a, xs, e, h, k⟩ => ⟨a, xs, e, h, k.old⟩, h⟩
theorem CallR.imp {f : Value} {r r' : List V → Hp → VK → Prop} (h : CallR X f r) (m : ∀ xs H Q, r' xs H Q → r xs H Q) : CallR X f r' := fun pins s σ H xs us Q I rv k => h pins s σ H xs us Q I rv (m _ _ _ k)
def rTupS (K : PySem.W.Frag) : List V → Hp → VK → Prop := fun xs H Q => ∃ p ys, xs = [.ref p] ∧ ((SqL K H p ys ∧ New (.tup ys) H Q) ∨ (SqT K H p ys ∧ Q (.ref p) H))
theorem call_tupS (K : PySem.W.Frag) (h : X.K = K) : CallR X (.type "tuple") (rTupS K) := CallR.imp (call_tupK K h) fun xs H Q ⟨p, ys, e, k⟩ => ⟨p, ys, e, k.imp (fun z => ⟨z.1, z.2.old⟩) id⟩
def rLstS (K : PySem.W.Frag) : List V → Hp → VK → Prop := fun xs H Q => ∃ p ys, xs = [.ref p] ∧ (SqL K H p ys ∨ SqT K H p ys) ∧ New (.lst ys) H Q
theorem call_lstS (K : PySem.W.Frag) (h : X.K = K) : CallR X (.type "list") (rLstS K) := CallR.imp (call_lstK K h) fun xs H Q ⟨p, ys, e, k, n⟩ => ⟨p, ys, e, k, n.old⟩
theorem OpR.imp {f : Value → Value → Sem Value} {r r' : R2} (h : OpR X f r) (m : ∀ x y H Q, r' x y H Q → r x y H Q) : OpR X f r' := fun pins s σ H x y v u Q I rx ry k => h pins s σ H x y v u Q I rx ry (m _ _ _ _ k)
def rCatS : R2 := fun x y H Q => ∃ l b xs zs, x = .ref l ∧ y = .ref b ∧ H l = some (.lst xs) ∧ H b = some (.lst zs) ∧ xs.length + zs.length ≤ 1000000 ∧ New (.lst (xs ++ zs)) H Q
theorem op_catS : OpR X (binaryOp .Add) rCatS := OpR.imp op_cat fun x y H Q ⟨l, b, xs, zs, e1, e2, h1, h2, hl, n⟩ => ⟨l, b, xs, zs, e1, e2, h1, h2, sz hl, n.old⟩
def rCatTS (K : PySem.W.Frag) : R2 := fun x y H Q => ∃ a b xs ys, x = .ref a ∧ y = .ref b ∧ SqT K H a xs ∧ SqT K H b ys ∧ xs.length + ys.length ≤ 1000000 ∧ ∀ p H', Same H H' → SqT K H' p (xs ++ ys) → Q (.ref p) H'
theorem op_catTS (K : PySem.W.Frag) (h : X.K = K) : OpR X (binaryOp .Add) (rCatTS K) := OpR.imp (op_catK K h) fun x y H Q ⟨a, b, xs, ys, e1, e2, h1, h2, hl, n⟩ => by
  subst e1 e2
  exact cat_ok h1 h2 hl n
def rRepTS (K : PySem.W.Frag) : R2 := fun x y H Q => ∃ a k xs, x = .ref a ∧ y = .int k ∧ SqT K H a xs ∧ xs ≠ [] ∧ 1 ≤ k ∧ k ≤ 1000 ∧ xs.length ≤ 1000 ∧ ∀ p H', Same H H' → SqT K H' p (List.replicate k.toNat xs).flatten → Q (.ref p) H'
theorem op_repTS (K : PySem.W.Frag) (h : X.K = K) : OpR X (binaryOp .Mult) (rRepTS K) := OpR.imp (op_repA K h) fun x y H Q ⟨a, k, xs, e1, e2, h1, h2, h3, h4, h5, n⟩ => by
  subst e1 e2
  exact rep_ok h1 h2 h3 h4 h5 n
theorem SlR.imp {r r' : V → Option Int → Option Int → Hp → VK → Prop} (h : SlR X r) (m : ∀ x lo hi H Q, r' x lo hi H Q → r x lo hi H Q) : SlR X r' := fun pins s σ H x v vl vu lo hi sl Q I rx hs pl pu k => h pins s σ H x v vl vu lo hi sl Q I rx hs pl pu (m _ _ _ _ _ k)
def rSlTS (K : PySem.W.Frag) : V → Option Int → Option Int → Hp → VK → Prop := fun x lo hi H Q => ∃ a xs, x = .ref a ∧ SqT K H a xs ∧ ∀ p H', Same H H' → SqT K H' p (cutV xs lo hi) → Q (.ref p) H'
theorem sl_tS (K : PySem.W.Frag) (h : X.K = K) : SlR X (rSlTS K) := SlR.imp (sl_tK K h) fun x lo hi H Q ⟨a, xs, e, h, n⟩ => by
  subst e
  exact sl_ok h n
def rSlLS (K : PySem.W.Frag) : V → Option Int → Option Int → Hp → VK → Prop := fun x lo hi H Q => ∃ a xs, x = .ref a ∧ SqL K H a xs ∧ New (.lst (cutV xs lo hi)) H Q
theorem sl_lS (K : PySem.W.Frag) (h : X.K = K) : SlR X (rSlLS K) := SlR.imp (sl_lK K h) fun x lo hi H Q ⟨a, xs, e, h, n⟩ => ⟨a, xs, e, h, n.old⟩
end
end Br

/-! The plain law of words: places, low digits, all words of a length. -/
namespace Br
/-- the letters are of the width -/
def inW (k : Int) (ns : List Int) : Prop := ∀ x ∈ ns, 0 ≤ x ∧ x < k
/-- the index of a word -/
def place (k : Int) (ns : List Int) : Int := ns.foldl (fun f x => f * k + x) 0
/-- the low digits -/
def lows (k : Int) : Nat → Int → List Int
  | 0, _ => []
  | n + 1, p => p % k :: lows k n (p / k)
theorem place_app (k : Int) (ns : List Int) (x : Int) : place k (ns ++ [x]) = place k ns * k + x := by
  unfold place
  rw [List.foldl_append] <;> rfl
theorem inW_app {k : Int} {ns : List Int} {x : Int} (h : inW k (ns ++ [x])) : inW k ns ∧ 0 ≤ x ∧ x < k :=
  ⟨fun y hy => h y (List.mem_append_left _ hy), h x (List.mem_append_right _ List.mem_cons_self)⟩
theorem rev_ind {α : Type} {P : List α → Prop} (h0 : P []) (h1 : ∀ l x, P l → P (l ++ [x])) (l : List α) : P l := by
  rw [← List.reverse_reverse l]
  induction l.reverse with
  | nil => exact h0
  | cons x r ih =>
    rw [List.reverse_cons]
    exact h1 _ _ ih
theorem ipow_pos {k : Int} (h : 0 < k) (n : Nat) : 0 < k ^ n := by
  induction n with
  | zero =>
    rw [Int.pow_zero]
    decide
  | succ n ih =>
    rw [Int.pow_succ]
    exact Int.mul_pos ih h
theorem place_lt {k : Int} (hk : 0 < k) (ns : List Int) : inW k ns → 0 ≤ place k ns ∧ place k ns < k ^ ns.length := by
  refine rev_ind (P := fun ns => inW k ns → 0 ≤ place k ns ∧ place k ns < k ^ ns.length) (fun _ => ⟨Int.le_refl 0, by rw [List.length_nil, Int.pow_zero]; show (0 : Int) < 1; decide⟩) (fun l x ih h => ?_) ns
  obtain ⟨h1, h2, h3⟩ := inW_app h
  obtain ⟨a, b⟩ := ih h1
  rw [place_app, List.length_append, List.length_singleton, Int.pow_succ]
  have m : 0 ≤ place k l * k := Int.mul_nonneg a (Int.le_of_lt hk)
  have m2 : (place k l + 1) * k ≤ k ^ l.length * k := Int.mul_le_mul_of_nonneg_right (by omega) (Int.le_of_lt hk)
  rw [Int.add_mul, Int.one_mul] at m2
  omega
theorem lows_len (k : Int) : ∀ n p, (lows k n p).length = n
  | 0, _ => rfl
  | n + 1, p => congrArg (· + 1) (lows_len k n (p / k))
theorem lows_more (k : Int) (hk : 0 < k) : ∀ (n : Nat) (p : Int), lows k (n + 1) p = lows k n p ++ [p / k ^ n % k]
  | 0, p => by
    show [p % k] = [p / k ^ 0 % k]
    rw [Int.pow_zero, Int.ediv_one]
  | n + 1, p => by
    have ih := lows_more k hk n (p / k)
    show p % k :: lows k (n + 1) (p / k) = p % k :: (lows k n (p / k) ++ [p / k ^ (n + 1) % k])
    rw [ih, Int.pow_succ, Int.mul_comm (k ^ n) k, Int.ediv_ediv_of_nonneg (Int.le_of_lt hk)]
theorem lows_in {k : Int} (hk : 0 < k) : ∀ (n : Nat) (p : Int), inW k (lows k n p)
  | 0, _ => fun _ h => nomatch h
  | n + 1, p => fun x h => by
    rcases List.mem_cons.mp h with rfl | h
    · exact ⟨Int.emod_nonneg _ (by omega), Int.emod_lt_of_pos _ hk⟩
    · exact lows_in hk n _ x h
theorem inW_rev {k : Int} {ns : List Int} (h : inW k ns) : inW k ns.reverse := fun x hx => h x (List.mem_reverse.mp hx)
/-- the letters of the word of an index -/
theorem lows_place {k : Int} (hk : 0 < k) (ns : List Int) : inW k ns → lows k ns.length (place k ns) = ns.reverse := by
  refine rev_ind (P := fun ns => inW k ns → lows k ns.length (place k ns) = ns.reverse) (fun _ => rfl) (fun l x ih h => ?_) ns
  obtain ⟨h1, h2, h3⟩ := inW_app h
  rw [place_app, List.length_append, List.length_singleton, List.reverse_append]
  show (place k l * k + x) % k :: lows k l.length ((place k l * k + x) / k) = x :: l.reverse
  rw [Int.add_comm, Int.add_mul_emod_self_right, Int.emod_eq_of_lt h2 h3, Int.add_mul_ediv_right _ _ (by omega), Int.ediv_eq_zero_of_lt h2 h3, Int.zero_add, ih h1]
theorem place_lows {k : Int} (hk : 0 < k) : ∀ (n : Nat) (p : Int), 0 ≤ p → place k (lows k n p).reverse = p % k ^ n
  | 0, p, _ => by
    rw [Int.pow_zero, Int.emod_one] <;> rfl
  | n + 1, p, h => by
    have ih := place_lows hk n (p / k) (Int.ediv_nonneg h (Int.le_of_lt hk))
    show place k (p % k :: lows k n (p / k)).reverse = _
    rw [List.reverse_cons, place_app, ih]
    have e1 : p % k ^ (n + 1) = p - k ^ (n + 1) * (p / k ^ (n + 1)) := Int.emod_def _ _
    have e2 : p / k % k ^ n = p / k - k ^ n * (p / k / k ^ n) := Int.emod_def _ _
    have e3 : p % k = p - k * (p / k) := Int.emod_def _ _
    have e4 : p / k / k ^ n = p / k ^ (n + 1) := by rw [Int.ediv_ediv_of_nonneg (Int.le_of_lt hk), Int.pow_succ, Int.mul_comm]
    rw [e1, e2, e3, e4, Int.sub_mul, Int.pow_succ]
    have e5 : k ^ n * (p / (k ^ n * k)) * k = k ^ n * k * (p / (k ^ n * k)) := by rw [Int.mul_assoc, Int.mul_comm (p / (k ^ n * k)) k, ← Int.mul_assoc]
    rw [e5, Int.mul_comm (p / k) k]
    omega
/-- all words of a length, as the index tells them -/
def wordsI (k : Int) (n : Nat) : List (List Int) := (List.range (k ^ n).toNat).map fun p => (lows k n (p : Nat)).reverse
/-- .. as they grow -/
def wordsG (k : Nat) : Nat → List (List Int)
  | 0 => [[]]
  | n + 1 => (wordsG k n).flatMap fun w => (List.range k).map fun r => w ++ [((r : Nat) : Int)]
theorem range_mul (a k : Nat) : List.range (a * k) = (List.range a).flatMap fun q => (List.range k).map fun r => q * k + r := by
  induction a with
  | zero => simp
  | succ a ih =>
    rw [List.range_succ, List.flatMap_append, ← ih, Nat.succ_mul, List.range_add]
    simp
theorem words_eq (k : Nat) (hk : 0 < k) : ∀ n : Nat, wordsG k n = wordsI k n
  | 0 => by
    unfold wordsI
    rw [Int.pow_zero] <;> rfl
  | n + 1 => by
    have ih := words_eq k hk n
    unfold wordsI
    have e : ((k : Int) ^ (n + 1)).toNat = ((k : Int) ^ n).toNat * k := by
      rw [Int.pow_succ, Int.toNat_mul (Int.le_of_lt (ipow_pos (by omega) n)) (by omega)] <;> rfl
    rw [e, range_mul, List.map_flatMap]
    show (wordsG k n).flatMap _ = _
    rw [ih]
    unfold wordsI
    rw [List.flatMap_map]
    rw [List.flatMap_def, List.flatMap_def]
    refine congrArg List.flatten (List.map_congr_left fun q _ => ?_)
    rw [List.map_map]
    refine List.map_congr_left fun r hr => ?_
    have hr' : r < k := List.mem_range.mp hr
    show (lows k n (q : Nat)).reverse ++ [((r : Nat) : Int)] = (lows k (n + 1) ((q * k + r : Nat) : Int)).reverse
    have e1 : ((q * k + r : Nat) : Int) % (k : Int) = (r : Int) := by
      rw [Int.natCast_add, Int.natCast_mul, Int.add_comm, Int.add_mul_emod_self_right]
      exact Int.emod_eq_of_lt (by omega) (by omega)
    have e2 : ((q * k + r : Nat) : Int) / (k : Int) = (q : Int) := by
      rw [Int.natCast_add, Int.natCast_mul, Int.add_comm, Int.add_mul_ediv_right _ _ (by omega), Int.ediv_eq_zero_of_lt (by omega) (by omega), Int.zero_add]
    show _ = (((q * k + r : Nat) : Int) % (k : Int) :: lows k n (((q * k + r : Nat) : Int) / (k : Int))).reverse
    rw [e1, e2, List.reverse_cons]
end Br

/-! Words: what their defs promise, and lemmas; the dice of the laws. No text of a law here. -/
namespace Br
open PySem PySem.Spec PyProof.Rows L2
section
variable {K : PySem.W.Frag}
/-! ### power_of -/
def sp_power_of : Sp := fun vs H Q _ => ∃ (b : Int) (n : Nat), vs = [.int b, .int n] ∧ b.natAbs < 2 ^ 8 ∧ n ≤ 1000 ∧ Q (.int (b ^ n)) H
theorem pow_lt {b : Int} (h : b.natAbs < 2 ^ 8) : ∀ i : Nat, (b ^ i).natAbs < 2 ^ (8 * i + 1)
  | 0 => by
    rw [Int.pow_zero]
    decide
  | i + 1 => by
    rw [Int.pow_succ]
    have := wide_lt (pow_lt h i) h
    have e : 8 * i + 1 + 8 = 8 * (i + 1) + 1 := by omega
    rw [e] at this
    exact this
/-! ### ints within bounds -/
def sp_is_integer (K : PySem.W.Frag) : Sp := fun vs H Q _ => ∃ v, vs = [v] ∧ Kn K H v ∧ Q (.bl (isI v)) H
/-- an int within two bounds -/
def wn (lo hi : Int) : V → Bool
  | .int i => decide (lo ≤ i) && decide (i ≤ hi)
  | _ => false
def sp_is_within (K : PySem.W.Frag) : Sp := fun vs H Q _ => ∃ v lo hi, vs = [v, .int lo, .int hi] ∧ Kn K H v ∧ Q (.bl (wn lo hi v)) H
def sp_require_within (K : PySem.W.Frag) : Sp := fun vs H Q _ => ∃ v lo hi, vs = [v, .int lo, .int hi] ∧ wn lo hi v = true ∧ Q .non H
theorem wn_int {lo hi : Int} {v : V} (h : wn lo hi v = true) : ∃ i, v = .int i ∧ lo ≤ i ∧ i ≤ hi := by
  cases v with
  | int i =>
    have h' : (decide (lo ≤ i) && decide (i ≤ hi)) = true := h
    rw [Bool.and_eq_true, decide_eq_true_eq, decide_eq_true_eq] at h'
    exact ⟨i, rfl, h'⟩
  | _ => cases h
theorem wn_kn {lo hi : Int} {v : V} {H : Hp} (h : wn lo hi v = true) : Kn K H v := by
  obtain ⟨i, rfl, _⟩ := wn_int h
  exact .int i
theorem wn_of {lo hi i : Int} (h1 : lo ≤ i) (h2 : i ≤ hi) : wn lo hi (.int i) = true := by
  show (decide (lo ≤ i) && decide (i ≤ hi)) = true
  rw [decide_eq_true h1, decide_eq_true h2] <;> rfl
def sp_is_width (K : PySem.W.Frag) : Sp := fun vs H Q _ => ∃ v, vs = [v] ∧ Kn K H v ∧ Q (.bl (wn 2 5 v)) H
def sp_require_width (K : PySem.W.Frag) : Sp := fun vs H Q _ => ∃ k : Int, vs = [.int k] ∧ 2 ≤ k ∧ k ≤ 5 ∧ Q .non H
def sp_is_letter (K : PySem.W.Frag) : Sp := fun vs H Q _ => ∃ (k : Int) (v : V), vs = [.int k, v] ∧ Kn K H v ∧ Q (.bl (wn 0 (k - 1) v)) H
/-! ### words -/
theorem Kn.same {H H' : Hp} {v : V} (e : Same H H') (k : Kn K H v) : Kn K H' v := by
  cases k with
  | non => exact .non
  | bl b => exact .bl b
  | int i => exact .int i
  | str x => exact .str x
  | lst h => exact .lst (e _ _ h)
  | tup h => exact .tup (same_tup e h)
  | dK h => exact .dK (e _ _ h)
def mostOk : V → Nat → Bool
  | .int m, n => !decide (m < (n : Int))
  | _, _ => true
theorem take_map {α β : Type} {f : α → β} {l : List α} {i : Nat} {x : α} (h : l[i]? = some x) : (l.take (i + 1)).map f = (l.take i).map f ++ [f x] := by
  rw [List.take_add_one, h, List.map_append] <;> rfl
def sp_is_word_in (K : PySem.W.Frag) : Sp := fun vs H Q _ => ∃ (k : Int) (v m : V), vs = [.int k, v, m] ∧ (m = .non ∨ ∃ i, m = .int i) ∧
  ((NoT H v ∧ Q (.bl false) H) ∨ ∃ (a : Addr) (xs : List V), v = .ref a ∧ SqT K H a xs ∧ xs.length < 1000000 ∧ (∀ x ∈ xs, Kn K H x) ∧ ∀ H', Same H H' → Q (.bl (mostOk m xs.length && xs.all (wn 0 (k - 1)))) H')
theorem iT {H : Hp} {K : PySem.W.Frag} {a : Addr} {xs : List V} (h : SqT K H a xs) : SqT K H a xs := h
theorem inW_wn {k : Int} {ns : List Int} (h : inW k ns) : (ns.map V.int).all (wn 0 (k - 1)) = true := by
  rw [List.all_eq_true]
  intro x hx
  obtain ⟨i, hi, rfl⟩ := List.mem_map.mp hx
  obtain ⟨h1, h2⟩ := h i hi
  exact wn_of h1 (by omega)
theorem ints_kn {K : PySem.W.Frag} {H : Hp} {ns : List Int} : ∀ x ∈ ns.map V.int, Kn K H x := fun x hx => by
  obtain ⟨i, _, rfl⟩ := List.mem_map.mp hx
  exact .int i
def sp_require_word (K : PySem.W.Frag) : Sp := fun vs H Q _ => ∃ (k : Int) (a : Addr) (ns : List Int), vs = [.int k, .ref a] ∧ SqT K H a (ns.map V.int) ∧ inW k ns ∧ ns.length ≤ 200 ∧ ∀ H', Same H H' → Q .non H'
/-! ### places and words -/
theorem abs_le {i j : Int} {n : Nat} (h0 : 0 ≤ i) (h : i ≤ j) (hj : j.natAbs < 2 ^ n) : i.natAbs < 2 ^ n := Nat.lt_of_le_of_lt (by omega) hj
theorem k8 {k : Int} (h1 : 2 ≤ k) (h2 : k ≤ 5) : k.natAbs < 2 ^ 8 := by omega
theorem inW_take {k : Int} {ns : List Int} (h : inW k ns) (i : Nat) : inW k (ns.take i) := fun x hx => h x (List.mem_of_mem_take hx)
theorem place_abs {k : Int} (h1 : 2 ≤ k) (h2 : k ≤ 5) {ns : List Int} (h : inW k ns) : (place k ns).natAbs < 2 ^ (8 * ns.length + 1) := by
  obtain ⟨a, b⟩ := place_lt (by omega) ns h
  exact abs_le a (Int.le_of_lt b) (pow_lt (k8 h1 h2) _)
def sp_place_in (K : PySem.W.Frag) : Sp := fun vs H Q _ => ∃ (k : Int) (a : Addr) (ns : List Int), vs = [.int k, .ref a] ∧ SqT K H a (ns.map V.int) ∧ inW k ns ∧ 2 ≤ k ∧ k ≤ 5 ∧ ns.length ≤ 1000 ∧ Q (.int (place k ns)) H
theorem getI {ns : List Int} {i : Nat} {x : V} (h : (ns.map V.int)[i]? = some x) : ∃ j, x = .int j ∧ ns[i]? = some j := by
  rw [List.getElem?_map] at h
  cases e : ns[i]? with
  | none =>
    rw [e] at h
    cases h
  | some j =>
    rw [e] at h
    exact ⟨j, (Option.some.inj h).symm, rfl⟩
theorem take_more {α : Type} {l : List α} {i : Nat} {x : α} (h : l[i]? = some x) : l.take (i + 1) = l.take i ++ [x] := by
  rw [List.take_add_one, h] <;> rfl
def sp_word_in (K : PySem.W.Frag) : Sp := fun vs H Q _ => ∃ (k : Int) (n : Nat) (p : Int), vs = [.int k, .int n, .int p] ∧ 2 ≤ k ∧ k ≤ 5 ∧ n ≤ 1000 ∧
  ∀ a H', Same H H' → SqT K H' a ((lows k n p).reverse.map V.int) → Q (.ref a) H'
theorem Tups.same {H H' : Hp} (s : Same H H') {vs : List V} {wss : List (List Int)} (t : Tups K H vs wss) : Tups K H' vs wss := t.mono (d := 0) (Kd.same s)
theorem Tups.one {H : Hp} {a : Addr} {ns : List Int} {vs : List V} {wss : List (List Int)} (t : Tups K H vs wss) (h : SqT K H a (ns.map V.int)) : Tups K H (vs ++ [.ref a]) (wss ++ [ns]) := t.app (.cons h .nil)
def sp_words_in (K : PySem.W.Frag) : Sp := fun vs H Q _ => ∃ (k : Int) (n : Nat), vs = [.int k, .int n] ∧ 2 ≤ k ∧ k ≤ 5 ∧ n ≤ 1000 ∧ k ^ n ≤ 5000 ∧
  ∀ a us H', Same H H' → SqT K H' a us → Tups K H' us (wordsI k n) → Q (.ref a) H'
/-! ### the interface -/
theorem kn_k {k : Int} {H : Hp} : Kn K H (.int k) := .int k
def sp_is_word (K : PySem.W.Frag) : Sp := fun vs H Q _ => ∃ (k : Int) (v : V), vs = [.int k, v] ∧ 2 ≤ k ∧ k ≤ 5 ∧
  ((NoT H v ∧ Q (.bl false) H) ∨ ∃ (a : Addr) (xs : List V), v = .ref a ∧ SqT K H a xs ∧ xs.length < 1000000 ∧ (∀ x ∈ xs, Kn K H x) ∧ ∀ H', Same H H' → Q (.bl (xs.all (wn 0 (k - 1)))) H')
def sp_words_of (K : PySem.W.Frag) : Sp := fun vs H Q _ => ∃ (k : Int) (n : Nat), vs = [.int k, .int n] ∧ 2 ≤ k ∧ k ≤ 5 ∧ n ≤ 12 ∧ k ^ n ≤ 5000 ∧
  ∀ a us H', Same H H' → SqT K H' a us → Tups K H' us (wordsI k n) → Q (.ref a) H'
def sp_place_of (K : PySem.W.Frag) : Sp := fun vs H Q _ => ∃ (k : Int) (a : Addr) (ns : List Int), vs = [.int k, .ref a] ∧ SqT K H a (ns.map V.int) ∧ inW k ns ∧ 2 ≤ k ∧ k ≤ 5 ∧ ns.length ≤ 200 ∧ ∀ H', Same H H' → Q (.int (place k ns)) H'
def sp_word_at (K : PySem.W.Frag) : Sp := fun vs H Q _ => ∃ (k : Int) (n : Nat) (p : Int), vs = [.int k, .int n, .int p] ∧ 2 ≤ k ∧ k ≤ 5 ∧ n ≤ 200 ∧ 0 ≤ p ∧ p < k ^ n ∧
  ∀ a H', Same H H' → SqT K H' a ((lows k n p).reverse.map V.int) → Q (.ref a) H'
def sp_low_number (K : PySem.W.Frag) : Sp := fun vs H Q _ => ∃ (k : Int) (a : Addr) (ns : List Int), vs = [.int k, .ref a] ∧ SqT K H a (ns.map V.int) ∧ inW k ns ∧ 2 ≤ k ∧ k ≤ 5 ∧ ns.length ≤ 200 ∧ ∀ H', Same H H' → Q (.int (place k ns.reverse)) H'
def sp_low_word (K : PySem.W.Frag) : Sp := fun vs H Q _ => ∃ (k : Int) (p : Int) (n : Nat), vs = [.int k, .int p, .int n] ∧ 2 ≤ k ∧ k ≤ 5 ∧ n ≤ 200 ∧ 0 ≤ p ∧ p < 10 ^ 60 ∧
  ∀ a H', Same H H' → SqT K H' a ((lows k n p).map V.int) → Q (.ref a) H'
/-! ### the dice -/
def bigM : Int := (10 ^ 54) ^ 6
theorem bigM_pos : 0 < bigM := by decide +kernel
theorem bigM_lt : bigM.natAbs < 2 ^ 1100 := by decide +kernel
def sp_law_dice (K : PySem.W.Frag) : Sp := fun vs H Q _ => ∃ (a : Addr) (ns : List Int) (i : Nat), vs = [.ref a, .int i] ∧ SqL K H a (ns.map V.int) ∧ i ≤ 1000 ∧ ∀ p H', H p = none → Same H H' → Dice H' p 0 → Q (.ref p) H'
/-- one roll -/
def sp_law_roll : Sp := fun vs H Q _ => ∃ (d : Addr) (t : Int) (n : Nat), vs = [.ref d, .int t] ∧ Dice H d n ∧ n < 2 ^ 60 ∧ 0 < t ∧ t.natAbs < 2 ^ 64 ∧ ∀ v H', 0 ≤ v → v < t → Kd d H H' → Dice H' d (n + 1) → Q (.int v) H'
/-- one of some items -/
def sp_law_pick (K : PySem.W.Frag) : Sp := fun vs H Q _ => ∃ (d a : Addr) (xs : List V) (n : Nat), vs = [.ref d, .ref a] ∧ Dice H d n ∧ n < 2 ^ 60 ∧ SqL K H a xs ∧ a ≠ d ∧ 0 < xs.length ∧ xs.length < 1000000 ∧
  ∀ (i : Nat) v H', xs[i]? = some v → Kd d H H' → Dice H' d (n + 1) → Q v H'
/-- all words, as they grow -/
def oneMore (k : Nat) (ws : List (List Int)) : List (List Int) := ws.flatMap fun w => (List.range k).map fun r => w ++ [((r : Nat) : Int)]
theorem oneMore_len (k : Nat) (ws : List (List Int)) : (oneMore k ws).length = ws.length * k := by
  unfold oneMore
  induction ws with
  | nil => simp
  | cons a r ih => rw [List.flatMap_cons, List.length_append, ih, List.length_map, List.length_range, List.length_cons, Nat.succ_mul, Nat.add_comm]
theorem oneMore_app (k : Nat) (ws : List (List Int)) (x : List Int) : oneMore k (ws ++ [x]) = oneMore k ws ++ (List.range k).map fun r => x ++ [((r : Nat) : Int)] := by
  unfold oneMore
  rw [List.flatMap_append, List.flatMap_singleton]
theorem wordsG_len (k : Nat) : ∀ n, (wordsG k n).length = k ^ n
  | 0 => rfl
  | n + 1 => by
    show (oneMore k (wordsG k n)).length = _
    rw [oneMore_len, wordsG_len k n, Nat.pow_succ]
theorem words_short (k : Nat) : ∀ n, ∀ w ∈ wordsG k n, w.length = n
  | 0, w, h => by
    have : w = [] := by simpa [wordsG] using h
    rw [this] <;> rfl
  | n + 1, w, h => by
    have h' : w ∈ (wordsG k n).flatMap fun w => (List.range k).map fun r => w ++ [((r : Nat) : Int)] := h
    obtain ⟨v, hv, hw⟩ := List.mem_flatMap.mp h'
    obtain ⟨r, _, rfl⟩ := List.mem_map.mp hw
    rw [List.length_append, words_short k n v hv] <;> rfl
def sp_law_words (K : PySem.W.Frag) : Sp := fun vs H Q _ => ∃ (k n : Nat), vs = [.int k, .int n] ∧ 2 ≤ k ∧ k ≤ 5 ∧ n ≤ 4 ∧
  ∀ l us H', H l = none → Same H H' → H' l = some (.lst us) → Tups K H' us (wordsG k n) → Q (.ref l) H'
theorem pow5 {k n : Nat} (hk : k ≤ 5) (hn : n ≤ 4) : k ^ n ≤ 625 := Nat.le_trans (Nat.pow_le_pow_left hk n) (Nat.le_trans (Nat.pow_le_pow_right (by decide) hn) (by decide))
/-! ### a drawn word -/
def sp_law_word (K : PySem.W.Frag) : Sp := fun vs H Q _ => ∃ (d : Addr) (k : Int) (m n : Nat), vs = [.ref d, .int k, .int m] ∧ Dice H d n ∧ n < 2 ^ 59 ∧ m ≤ 1000 ∧ 0 < k ∧ k.natAbs < 2 ^ 31 ∧
  ∀ a ns H', Kd d H H' → Dice H' d (n + m + 1) → SqT K H' a (ns.map V.int) → inW k ns → ns.length ≤ m → Q (.ref a) H'
theorem kd_mut {d D : Addr} {H H' : Hp} {o : HO} (k : Kd d H H') (h : H D = none) : Kd d H (upd H' D o) := fun b u e z => by
  rw [upd_ne (ne_of_none e h)]
  exact k b u e z
theorem Dice.at {H H' : Hp} {d : Addr} {n : Nat} (h : Dice H d n) (e : H' d = H d) : Dice H' d n := by
  obtain ⟨g, s, c, h1, h2⟩ := h
  exact ⟨g, s, c, e.trans h1, h2⟩
/-! ### a value that is no word -/
theorem NoT.keep {H H' : Hp} {v : V} (k : NoT H v) (e : ∀ a o, v = .ref a → H a = some o → H' a = some o) : NoT H' v := by
  cases k with
  | non => exact .non
  | bl b => exact .bl b
  | int i => exact .int i
  | str x => exact .str x
  | lst h => exact .lst (e _ _ rfl h)
  | dK h => exact .dK (e _ _ rfl h)
theorem wn_big {k : Int} : wn 0 (k - 1) (.int k) = false := by
  show (decide ((0 : Int) ≤ k) && decide (k ≤ k - 1)) = false
  rw [decide_eq_false (show ¬ k ≤ k - 1 by omega), Bool.and_false]
theorem one_sz {x : V} : [x].length ≤ sizeLine := by
  show 1 ≤ sizeLine
  decide
def spLaw (K : PySem.W.Frag) : Sp := fun vs H Q _ => ∃ (a : Addr) (ns : List Int), vs = [.ref a] ∧ SqL K H a (ns.map V.int) ∧ ns.length ≤ 63 ∧ ∀ H', Q (.bl true) H'
/-- how many cells are looked at -/
def lim (m : Int) (n : Nat) : Int := if (if (n : Int) < m then (n : Int) else m) > 1 then (if (n : Int) < m then (n : Int) else m) else 1
theorem lim_le {m : Int} (h : 1 ≤ m) (n : Nat) : 1 ≤ lim m n ∧ lim m n ≤ m := by
  unfold lim
  split <;> split at * <;> omega
end
end Br
namespace Br
open PySem PySem.Spec PyProof.Rows L2
theorem eqvAllI : ∀ xs ys : List Int, PyData.eqvAll (xs.map .int) (ys.map .int) = decide (xs = ys)
  | [], [] => rfl
  | [], _ :: _ => rfl
  | _ :: _, [] => rfl
  | x :: xs, y :: ys => by
    show ((x == y) && PyData.eqvAll (xs.map .int) (ys.map .int)) = _
    rw [eqvAllI xs ys]
    by_cases h : x = y
    · subst h
      by_cases h2 : xs = ys
      · subst h2
        simp
      · simp [h2]
    · simp [h]
theorem eqvI (xs ys : List Int) : PyData.eqv (dI xs) (dI ys) = decide (xs = ys) := eqvAllI xs ys
/-! ### slices in short -/
theorem cut_to {xs : List V} {n : Nat} : cutV xs none (some (n : Int)) = xs.take n := by
  unfold cutV
  rw [HT.sIx_nat, HT.sIx_none, List.drop_zero, Nat.sub_zero]
  by_cases h : n ≤ xs.length
  · rw [Nat.min_eq_left h]
  · rw [Nat.min_eq_right (by omega), List.take_of_length_le (Nat.le_refl _), List.take_of_length_le (by omega)]
theorem cut_from {xs : List V} {n : Nat} : cutV xs (some (n : Int)) none = xs.drop n := by
  unfold cutV
  rw [HT.sIx_nat, HT.sIx_none]
  by_cases h : n ≤ xs.length
  · rw [Nat.min_eq_left h, List.take_of_length_le (by rw [List.length_drop]; exact Nat.le_refl _)]
  · rw [Nat.min_eq_right (by omega), List.drop_eq_nil_of_le (Nat.le_refl _), List.drop_eq_nil_of_le (by omega)]
    simp
theorem cut_to1 {xs : List V} : cutV xs none (some 1) = xs.take 1 := cut_to (n := 1)
theorem cut_from1 {xs : List V} : cutV xs (some 1) none = xs.drop 1 := cut_from (n := 1)
theorem cut_init {xs : List V} : cutV xs none (some (-1)) = xs.dropLast := by
  unfold cutV
  rw [HT.sIx_none, List.drop_zero, Nat.sub_zero]
  have e : HT.sIx xs.length xs.length (some (-1)) = xs.length - 1 := by
    show (if (-1 : Int) < 0 then ((-1 : Int) + (xs.length : Int)).toNat else min (-1 : Int).toNat xs.length) = _
    rw [if_pos (by decide)]
    omega
  rw [e, List.dropLast_eq_take]
theorem cut_last {xs : List V} {x : V} : cutV (xs ++ [x]) (some (-1)) none = [x] := by
  unfold cutV
  rw [HT.sIx_none]
  have e : HT.sIx (xs ++ [x]).length 0 (some (-1)) = xs.length := by
    show (if (-1 : Int) < 0 then ((-1 : Int) + ((xs ++ [x]).length : Int)).toNat else min (-1 : Int).toNat (xs ++ [x]).length) = _
    rw [if_pos (by decide), List.length_append]
    show ((-1 : Int) + ((xs.length + 1 : Nat) : Int)).toNat = _
    omega
  rw [e, List.drop_left, List.length_append]
  exact List.take_of_length_le (by simp)
end Br
namespace Br
open PySem PySem.Spec PyProof.Rows L2
theorem same_lst {K : PySem.W.Frag} {H H' : Hp} {a : Addr} {xs : List V} (e : Same H H') (h : SqL K H a xs) : SqL K H' a xs := e.seq h
mutual
theorem dpSame {K : PySem.W.Frag} {H H' : Hp} (s : Same H H') : ∀ {d : PyData} {v : V}, Dp K H v d → Dp K H' v d
  | _, _, .non => .non
  | _, _, .bl b => .bl b
  | _, _, .int i => .int i
  | _, _, .str x => .str x
  | _, _, .lst h t => .lst (same_lst s h) (dpAllSame s t)
  | _, _, .tup h t => .tup (same_tup s h) (dpAllSame s t)
theorem dpAllSame {K : PySem.W.Frag} {H H' : Hp} (s : Same H H') : ∀ {ds : List PyData} {vs : List V}, DpAll K H vs ds → DpAll K H' vs ds
  | _, _, .nil => .nil
  | _, _, .cons h t => .cons (dpSame s h) (dpAllSame s t)
end
end Br

/-! The plain law of round words: least pairs, endless words, letters. -/
namespace Br
namespace Rd
variable {α : Type} [DecidableEq α]
/-- a word so many times -/
def rep (n : Nat) (a : List α) : List α := (List.replicate n a).flatten
theorem rep_len (n : Nat) (a : List α) : (rep n a).length = n * a.length := by
  unfold rep
  induction n with
  | zero => simp
  | succ n ih => rw [List.replicate_succ, List.flatten_cons, List.length_append, ih, Nat.succ_mul, Nat.add_comm]
theorem rep_succ (n : Nat) (a : List α) : rep (n + 1) a = rep n a ++ a := by
  unfold rep
  rw [List.replicate_succ', List.flatten_append, List.flatten_singleton]
theorem rep_one (a : List α) : rep 1 a = a := by
  unfold rep
  rw [List.replicate_one, List.flatten_singleton]
theorem rep_get (n : Nat) (a : List α) (i : Nat) (h : i < n * a.length) : (rep n a)[i]? = a[i % a.length]? := by
  induction n generalizing i with
  | zero => simp at h
  | succ n ih =>
    unfold rep
    rw [List.replicate_succ, List.flatten_cons]
    have hp : 0 < a.length := Nat.pos_of_ne_zero fun z => by rw [z, Nat.mul_zero] at h; omega
    by_cases hi : i < a.length
    · rw [List.getElem?_append_left hi, Nat.mod_eq_of_lt hi]
    · rw [List.getElem?_append_right (by omega)]
      have := ih (i - a.length) (by rw [Nat.succ_mul] at h; omega)
      unfold rep at this
      rw [this]
      congr 1
      have e : i = (i - a.length) + a.length := by omega
      conv => rhs; rw [e]
      rw [Nat.add_mod_right]
/-- is the word its first t letters again and again? -/
def isRep (a : List α) (t : Nat) : Bool := decide (rep (a.length / t) (a.take t) = a)
def sizes (a : List α) : List Nat := ((List.range a.length).map (· + 1)).filter (isRep a)
/-- the least length of such a beginning -/
def leastS (a : List α) : Nat := (sizes a).headD 0
theorem isRep_len {a : List α} {t : Nat} (h1 : 1 ≤ t) (h2 : t ≤ a.length) (h : isRep a t = true) : a.length % t = 0 := by
  have e := congrArg List.length (of_decide_eq_true h)
  rw [rep_len, List.length_take, Nat.min_eq_left h2] at e
  rw [← e]
  exact Nat.mul_mod_left _ _
theorem isRep_get {a : List α} {t : Nat} (h1 : 1 ≤ t) (h2 : t ≤ a.length) (h : isRep a t = true) (i : Nat) (hi : i < a.length) : a[i]? = a[i % t]? := by
  have e := of_decide_eq_true h
  have el := congrArg List.length e
  rw [rep_len, List.length_take, Nat.min_eq_left h2] at el
  have := rep_get (a.length / t) (a.take t) i (by rw [List.length_take, Nat.min_eq_left h2]; omega)
  rw [e, List.length_take, Nat.min_eq_left h2, List.getElem?_take_of_lt (Nat.mod_lt _ h1)] at this
  exact this
theorem isRep_of {a : List α} {t : Nat} (h1 : 1 ≤ t) (h2 : t ≤ a.length) (h0 : a.length % t = 0) (h : ∀ i, i < a.length → a[i]? = a[i % t]?) : isRep a t = true := by
  refine decide_eq_true (List.ext_getElem? fun i => ?_)
  have hl : (rep (a.length / t) (a.take t)).length = a.length := by
    rw [rep_len, List.length_take, Nat.min_eq_left h2]
    exact Nat.div_mul_cancel (Nat.dvd_of_mod_eq_zero h0)
  by_cases hi : i < a.length
  · rw [rep_get _ _ _ (by rw [← rep_len, hl]; exact hi), List.length_take, Nat.min_eq_left h2, List.getElem?_take_of_lt (Nat.mod_lt _ h1), h i hi]
  · rw [List.getElem?_eq_none (by omega), List.getElem?_eq_none (by omega)]
theorem isRep_self {a : List α} (h : a ≠ []) : isRep a a.length = true := by
  have : 0 < a.length := List.length_pos_iff.mpr h
  refine decide_eq_true ?_
  rw [Nat.div_self this, rep_one, List.take_length]
theorem mem_sizes {a : List α} {t : Nat} : t ∈ sizes a ↔ 1 ≤ t ∧ t ≤ a.length ∧ isRep a t = true := by
  unfold sizes
  rw [List.mem_filter, List.mem_map]
  constructor
  · rintro ⟨⟨i, hi, rfl⟩, h⟩
    have := List.mem_range.mp hi
    exact ⟨by omega, by omega, h⟩
  · rintro ⟨h1, h2, h⟩
    exact ⟨⟨t - 1, List.mem_range.mpr (by omega), by omega⟩, h⟩
theorem sizes_ne {a : List α} (h : a ≠ []) : sizes a ≠ [] := fun e => by
  have : a.length ∈ sizes a := mem_sizes.mpr ⟨List.length_pos_iff.mpr h, Nat.le_refl _, isRep_self h⟩
  rw [e] at this
  cases this
theorem sizes_sorted (a : List α) : (sizes a).Pairwise (· < ·) := by
  unfold sizes
  refine List.Pairwise.filter _ ?_
  rw [List.pairwise_map]
  exact List.Pairwise.imp (fun h => by omega) List.pairwise_lt_range
theorem leastS_mem {a : List α} (h : a ≠ []) : 1 ≤ leastS a ∧ leastS a ≤ a.length ∧ isRep a (leastS a) = true := by
  unfold leastS
  cases e : sizes a with
  | nil => exact absurd e (sizes_ne h)
  | cons t r =>
    refine mem_sizes.mp ?_
    rw [e]
    exact List.mem_cons_self
theorem leastS_le {a : List α} {t : Nat} (h1 : 1 ≤ t) (h2 : t ≤ a.length) (h : isRep a t = true) : leastS a ≤ t := by
  have hm := mem_sizes.mpr ⟨h1, h2, h⟩
  have hs := sizes_sorted a
  unfold leastS
  cases e : sizes a with
  | nil =>
    rw [e] at hm
    cases hm
  | cons u r =>
    rw [e] at hm hs
    rcases List.mem_cons.mp hm with rfl | hm
    · exact Nat.le_refl _
    · exact Nat.le_of_lt ((List.pairwise_cons.mp hs).1 t hm)
theorem leastS_eq {a : List α} {t : Nat} (h1 : 1 ≤ t) (h2 : t ≤ a.length) (h : isRep a t = true) (hl : ∀ u, 1 ≤ u → u < t → isRep a u = false) : leastS a = t := by
  have hne : a ≠ [] := fun z => by subst z; exact absurd h2 (by show ¬ t ≤ 0; omega)
  have := leastS_le h1 h2 h
  obtain ⟨a1, a2, a3⟩ := leastS_mem hne
  by_cases hlt : leastS a < t
  · rw [hl _ a1 hlt] at a3
    cases a3
  · omega
/-- the last letters of both, if equal, go to the front of the ring -/
def rot : List α → List α → List α × List α
  | b, a => if h : b ≠ [] ∧ b.getLast? = a.getLast? then rot b.dropLast (b.getLast h.1 :: a.dropLast) else (b, a)
termination_by b _ => b.length
decreasing_by
  have : 0 < b.length := List.length_pos_iff.mpr h.1
  rw [List.length_dropLast]
  omega
def least (b a : List α) : List α × List α := rot b (a.take (leastS a))
theorem rot_go {b a : List α} {x : α} : rot (b ++ [x]) (a ++ [x]) = rot b (x :: a) := by
  rw [rot]
  have h : b ++ [x] ≠ [] ∧ (b ++ [x]).getLast? = (a ++ [x]).getLast? := ⟨by simp, by simp⟩
  rw [dif_pos h]
  simp
theorem rot_stop {b a : List α} (h : ¬ (b ≠ [] ∧ b.getLast? = a.getLast?)) : rot b a = (b, a) := by
  rw [rot, dif_neg h]

/-! ### the endless word -/
def ltr (b a : List α) (n : Nat) : Option α := if n < b.length then b[n]? else a[(n - b.length) % a.length]?
theorem ltr_lt {b a : List α} {n : Nat} (h : n < b.length) : ltr b a n = b[n]? := if_pos h
theorem ltr_ge {b a : List α} {n : Nat} (h : b.length ≤ n) : ltr b a n = a[(n - b.length) % a.length]? := if_neg (by omega)
theorem ltr_per {b a : List α} {n : Nat} (h : b.length ≤ n) : ltr b a (n + a.length) = ltr b a n := by
  rw [ltr_ge h, ltr_ge (by omega)]
  congr 1
  have e : n + a.length - b.length = (n - b.length) + a.length := by omega
  rw [e, Nat.add_mod_right]
theorem ltr_some {b a : List α} (ha : a ≠ []) (n : Nat) : ∃ x, ltr b a n = some x := by
  have hp : 0 < a.length := List.length_pos_iff.mpr ha
  by_cases h : n < b.length
  · exact ⟨_, by rw [ltr_lt h, List.getElem?_eq_getElem h]⟩
  · exact ⟨_, by rw [ltr_ge (by omega), List.getElem?_eq_getElem (Nat.mod_lt _ hp)]⟩
/-- a rotation tells the same -/
theorem ltr_rot (b a : List α) (x : α) (n : Nat) : ltr (b ++ [x]) (a ++ [x]) n = ltr b (x :: a) n := by
  by_cases h1 : n < b.length
  · rw [ltr_lt (by rw [List.length_append]; omega), ltr_lt h1, List.getElem?_append_left h1]
  · by_cases h2 : n = b.length
    · subst h2
      rw [ltr_lt (by rw [List.length_append]; show _ < _ + 1; omega), ltr_ge (Nat.le_refl _), Nat.sub_self, Nat.zero_mod]
      simp
    · rw [ltr_ge (by rw [List.length_append]; show _ + 1 ≤ _; omega), ltr_ge (by omega)]
      have e1 : (b ++ [x]).length = b.length + 1 := by simp
      have e2 : (a ++ [x]).length = a.length + 1 := by simp
      have e3 : (x :: a).length = a.length + 1 := rfl
      rw [e1, e2, e3]
      obtain ⟨m, hm⟩ : ∃ m, n = b.length + 1 + m := ⟨n - (b.length + 1), by omega⟩
      have e4 : n - (b.length + 1) = m := by omega
      have e5 : n - b.length = m + 1 := by omega
      rw [e4, e5]
      by_cases hl : m % (a.length + 1) = a.length
      · have z : (m + 1) % (a.length + 1) = 0 := by
          rw [Nat.add_mod, hl]
          by_cases h0 : a.length = 0
          · rw [h0]
          · rw [Nat.mod_eq_of_lt (show 1 < a.length + 1 by omega), Nat.mod_self]
        rw [hl, z]
        simp
      · have hlt : m % (a.length + 1) < a.length := by
          have := Nat.mod_lt m (show 0 < a.length + 1 by omega)
          omega
        have z : (m + 1) % (a.length + 1) = m % (a.length + 1) + 1 := by
          rw [Nat.add_mod, Nat.mod_eq_of_lt (show 1 < a.length + 1 by omega), Nat.mod_eq_of_lt (by omega)]
        rw [z, List.getElem?_append_left hlt, List.getElem?_cons_succ]
theorem split_last {b : List α} (h : b ≠ []) : ∃ c x, b = c ++ [x] := ⟨b.dropLast, b.getLast h, (List.dropLast_concat_getLast h).symm⟩
theorem ltr_rotAll : ∀ (m : Nat) (b a : List α), b.length = m → a ≠ [] → ∀ n, ltr (rot b a).1 (rot b a).2 n = ltr b a n := by
  intro m
  induction m with
  | zero =>
    intro b a h _ n
    have : b = [] := List.eq_nil_of_length_eq_zero h
    subst this
    rw [rot_stop (fun z => z.1 rfl)]
  | succ m ih =>
    intro b a h ha n
    by_cases hc : b ≠ [] ∧ b.getLast? = a.getLast?
    · obtain ⟨c, x, rfl⟩ := split_last hc.1
      obtain ⟨d, y, rfl⟩ := split_last ha
      have exy : x = y := by simpa using hc.2
      subst exy
      rw [rot_go, ih c (x :: d) (by simpa using h) (List.cons_ne_nil _ _) n, ltr_rot]
    · rw [rot_stop hc]
theorem rot_ne : ∀ (m : Nat) (b a : List α), b.length = m → a ≠ [] → (rot b a).2 ≠ [] ∧ (rot b a).2.length = a.length ∧ (rot b a).1.length ≤ b.length ∧ ¬ ((rot b a).1 ≠ [] ∧ (rot b a).1.getLast? = (rot b a).2.getLast?) := by
  intro m
  induction m with
  | zero =>
    intro b a h ha
    have : b = [] := List.eq_nil_of_length_eq_zero h
    subst this
    rw [rot_stop (fun z => z.1 rfl)]
    exact ⟨ha, rfl, Nat.le_refl _, fun z => z.1 rfl⟩
  | succ m ih =>
    intro b a h ha
    by_cases hc : b ≠ [] ∧ b.getLast? = a.getLast?
    · obtain ⟨c, x, rfl⟩ := split_last hc.1
      obtain ⟨d, y, rfl⟩ := split_last ha
      have exy : x = y := by simpa using hc.2
      subst exy
      obtain ⟨i1, i2, i3, i4⟩ := ih c (x :: d) (by simpa using h) (List.cons_ne_nil _ _)
      rw [rot_go]
      exact ⟨i1, by rw [i2]; simp, by rw [List.length_append]; omega, i4⟩
    · rw [rot_stop hc]
      exact ⟨ha, rfl, Nat.le_refl _, hc⟩
/-- the first size's letters tell the same ring -/
theorem ltr_take {b a : List α} (ha : a ≠ []) (n : Nat) : ltr b (a.take (leastS a)) n = ltr b a n := by
  obtain ⟨h1, h2, h3⟩ := leastS_mem ha
  have hp : 0 < a.length := List.length_pos_iff.mpr ha
  by_cases h : n < b.length
  · rw [ltr_lt h, ltr_lt h]
  · rw [ltr_ge (by omega), ltr_ge (by omega), List.length_take, Nat.min_eq_left h2, List.getElem?_take_of_lt (Nat.mod_lt _ h1)]
    rw [isRep_get h1 h2 h3 _ (Nat.mod_lt _ hp)]
    congr 1
    have hd := isRep_len h1 h2 h3
    rw [Nat.mod_mod_of_dvd _ (Nat.dvd_of_mod_eq_zero hd)]
theorem take_ne {a : List α} (ha : a ≠ []) : a.take (leastS a) ≠ [] := by
  obtain ⟨h1, h2, _⟩ := leastS_mem ha
  intro z
  have := congrArg List.length z
  rw [List.length_take, Nat.min_eq_left h2] at this
  simp at this
  omega
theorem ltr_least {b a : List α} (ha : a ≠ []) (n : Nat) : ltr (least b a).1 (least b a).2 n = ltr b a n := by
  unfold least
  rw [ltr_rotAll _ _ _ rfl (take_ne ha), ltr_take ha]
/-- least pairs -/
structure IsLeast (b a : List α) : Prop where
  ne : a ≠ []
  size : leastS a = a.length
  last : ¬ (b ≠ [] ∧ b.getLast? = a.getLast?)
/-- a shorter period of the ring, by the endless word -/
theorem per_back {b a : List α} {g N : Nat} (ha : a ≠ []) (hg : ∀ n, N ≤ n → ltr b a (n + g) = ltr b a n) : ∀ n, b.length ≤ n → ltr b a (n + g) = ltr b a n := by
  intro n hn
  have hp : 0 < a.length := List.length_pos_iff.mpr ha
  have many : ∀ k m, b.length ≤ m → ltr b a (m + k * a.length) = ltr b a m := by
    intro k
    induction k with
    | zero => intro m _; rw [Nat.zero_mul, Nat.add_zero]
    | succ k ih =>
      intro m hm
      rw [Nat.succ_mul, ← Nat.add_assoc, ltr_per (by omega), ih m hm]
  have hN : N ≤ n + N * a.length := by
    have : N * 1 ≤ N * a.length := Nat.mul_le_mul_left N hp
    omega
  rw [← many N n hn, ← hg _ hN, ← many N (n + g) (by omega)]
  congr 1
  omega
theorem isRep_of_per {b a : List α} {g : Nat} (ha : a ≠ []) (h1 : 1 ≤ g) (hd : a.length % g = 0) (hg : ∀ n, b.length ≤ n → ltr b a (n + g) = ltr b a n) : isRep a g = true := by
  have hp : 0 < a.length := List.length_pos_iff.mpr ha
  have hle : g ≤ a.length := Nat.le_of_dvd hp (Nat.dvd_of_mod_eq_zero hd)
  refine isRep_of h1 hle hd fun i hi => ?_
  have at_ : ∀ j, j < a.length → ltr b a (b.length + j) = a[j]? := fun j hj => by
    rw [ltr_ge (by omega), Nat.add_sub_cancel_left, Nat.mod_eq_of_lt hj]
  have many : ∀ k m, b.length ≤ m → ltr b a (m + k * g) = ltr b a m := by
    intro k
    induction k with
    | zero => intro m _; rw [Nat.zero_mul, Nat.add_zero]
    | succ k ih =>
      intro m hm
      rw [Nat.succ_mul, ← Nat.add_assoc, hg _ (by omega), ih m hm]
  have e := many (i / g) (b.length + i % g) (by omega)
  have e2 : b.length + i % g + i / g * g = b.length + i := by
    have := Nat.mod_add_div i g
    rw [Nat.mul_comm] at this
    omega
  rw [e2, at_ i hi, at_ _ (Nat.lt_of_le_of_lt (Nat.mod_le _ _) hi)] at e
  exact e
/-- two periods behind some place give their greatest common divisor -/
theorem gcd_per {f : Nat → Option α} {N : Nat} : ∀ (p q : Nat), (∀ n, N ≤ n → f (n + p) = f n) → (∀ n, N ≤ n → f (n + q) = f n) → ∀ n, N ≤ n → f (n + Nat.gcd p q) = f n := by
  intro p q
  induction p, q using Nat.gcd.induction with
  | H0 q => intro _ hq; rw [Nat.gcd_zero_left]; exact hq
  | H1 p q hpos ih =>
    intro hp hq
    rw [Nat.gcd_rec]
    refine ih ?_ hp
    intro n hn
    have many : ∀ k m, N ≤ m → f (m + k * p) = f m := by
      intro k
      induction k with
      | zero => intro m _; rw [Nat.zero_mul, Nat.add_zero]
      | succ k ih => intro m hm; rw [Nat.succ_mul, ← Nat.add_assoc, hp _ (by omega), ih m hm]
    rw [← many (q / p) (n + q % p) (by omega), ← hq n hn]
    congr 1
    have := Nat.mod_add_div q p
    rw [Nat.mul_comm] at this
    omega
theorem least_unique0 {b a b' a' : List α} (h : IsLeast b a) (h' : IsLeast b' a') (e : ∀ n, ltr b a n = ltr b' a' n) (hl : b.length ≤ b'.length) : b = b' ∧ a = a' := by
  have p1 := List.length_pos_iff.mpr h.ne
  have p2 := List.length_pos_iff.mpr h'.ne
  have gp : 1 ≤ Nat.gcd a.length a'.length := Nat.gcd_pos_of_pos_left _ p1
  have per : ∀ n, b'.length ≤ n → ltr b a (n + Nat.gcd a.length a'.length) = ltr b a n := gcd_per a.length a'.length (fun n hn => ltr_per (by omega)) (fun n hn => by rw [e, e, ltr_per hn])
  have per1 := per_back h.ne per
  have per2 : ∀ n, b'.length ≤ n → ltr b' a' (n + Nat.gcd a.length a'.length) = ltr b' a' n := fun n hn => by rw [← e, ← e, per n hn]
  have d1 : a.length % Nat.gcd a.length a'.length = 0 := Nat.mod_eq_zero_of_dvd (Nat.gcd_dvd_left _ _)
  have d2 : a'.length % Nat.gcd a.length a'.length = 0 := Nat.mod_eq_zero_of_dvd (Nat.gcd_dvd_right _ _)
  have i1 := isRep_of_per h.ne gp d1 per1
  have i2 := isRep_of_per h'.ne gp d2 per2
  have l1 := leastS_le gp (Nat.le_of_dvd p1 (Nat.gcd_dvd_left _ _)) i1
  have l2 := leastS_le gp (Nat.le_of_dvd p2 (Nat.gcd_dvd_right _ _)) i2
  rw [h.size] at l1
  rw [h'.size] at l2
  have g1 := Nat.le_of_dvd p1 (Nat.gcd_dvd_left a.length a'.length)
  have g2 := Nat.le_of_dvd p2 (Nat.gcd_dvd_right a.length a'.length)
  have hlen : a.length = a'.length := by omega
  have hb : b.length = b'.length := by
    by_cases hlt : b.length < b'.length
    · exfalso
      have hne : b' ≠ [] := fun z => by rw [z] at hlt; simp at hlt
      refine h'.last ⟨hne, ?_⟩
      have hp' : 0 < b'.length := by omega
      rw [List.getLast?_eq_getElem?, List.getLast?_eq_getElem?]
      have x1 : ltr b' a' (b'.length - 1) = b'[b'.length - 1]? := ltr_lt (by omega)
      have x2 : ltr b' a' (b'.length - 1 + a'.length) = a'[a'.length - 1]? := by
        rw [ltr_ge (by omega)]
        have z : b'.length - 1 + a'.length - b'.length = a'.length - 1 := by omega
        rw [z, Nat.mod_eq_of_lt (by omega)]
      rw [← x1, ← x2, ← e, ← e, ← hlen, ltr_per (by omega)]
    · omega
  constructor
  · refine List.ext_getElem? fun i => ?_
    by_cases hi : i < b.length
    · have := e i
      rw [ltr_lt hi, ltr_lt (by omega)] at this
      exact this
    · rw [List.getElem?_eq_none (by omega), List.getElem?_eq_none (by omega)]
  · refine List.ext_getElem? fun i => ?_
    by_cases hi : i < a.length
    · have := e (b.length + i)
      rw [ltr_ge (by omega), ltr_ge (by omega), hb, Nat.add_sub_cancel_left, Nat.mod_eq_of_lt hi, Nat.mod_eq_of_lt (by omega)] at this
      exact this
    · rw [List.getElem?_eq_none (by omega), List.getElem?_eq_none (by omega)]
theorem least_unique {b a b' a' : List α} (h : IsLeast b a) (h' : IsLeast b' a') (e : ∀ n, ltr b a n = ltr b' a' n) : (b, a) = (b', a') := by
  by_cases hl : b.length ≤ b'.length
  · obtain ⟨rfl, rfl⟩ := least_unique0 h h' e hl
    rfl
  · obtain ⟨rfl, rfl⟩ := least_unique0 h' h (fun n => (e n).symm) (by omega)
    rfl
/-- the period of a turned ring is the ring's -/
theorem rot_size : ∀ (m : Nat) (b a : List α), b.length = m → a ≠ [] → leastS a = a.length → leastS (rot b a).2 = (rot b a).2.length := by
  intro m b a hm ha hs
  obtain ⟨r1, r2, r3, r4⟩ := rot_ne m b a hm ha
  have hl := ltr_rotAll m b a hm ha
  obtain ⟨q1, q2, q3⟩ := leastS_mem r1
  have pp : ∀ n, (rot b a).1.length ≤ n → ltr (rot b a).1 (rot b a).2 (n + leastS (rot b a).2) = ltr (rot b a).1 (rot b a).2 n := fun n hn => by
    have p1 := List.length_pos_iff.mpr r1
    rw [ltr_ge hn, ltr_ge (by omega), isRep_get q1 q2 q3 _ (Nat.mod_lt _ p1), isRep_get q1 q2 q3 ((n - (rot b a).1.length) % (rot b a).2.length) (Nat.mod_lt _ p1)]
    have hd := Nat.dvd_of_mod_eq_zero (isRep_len q1 q2 q3)
    congr 1
    rw [Nat.mod_mod_of_dvd _ hd, Nat.mod_mod_of_dvd _ hd]
    have z : n + leastS (rot b a).2 - (rot b a).1.length = (n - (rot b a).1.length) + leastS (rot b a).2 := by omega
    rw [z, Nat.add_mod_right]
  have pq : ∀ n, (rot b a).1.length ≤ n → ltr b a (n + leastS (rot b a).2) = ltr b a n := fun n hn => by rw [← hl, ← hl, pp n hn]
  have hd : a.length % leastS (rot b a).2 = 0 := by rw [← r2]; exact isRep_len q1 q2 q3
  have := isRep_of_per ha q1 hd (per_back ha pq)
  have := leastS_le q1 (by rw [← r2]; exact q2) this
  rw [hs] at this
  omega
theorem take_size {a : List α} (ha : a ≠ []) : leastS (a.take (leastS a)) = (a.take (leastS a)).length := by
  obtain ⟨h1, h2, h3⟩ := leastS_mem ha
  have hl : (a.take (leastS a)).length = leastS a := by rw [List.length_take, Nat.min_eq_left h2]
  have hne := take_ne ha
  obtain ⟨q1, q2, q3⟩ := leastS_mem hne
  rw [hl] at q2 ⊢
  have hdq := isRep_len q1 (by rw [hl]; exact q2) q3
  rw [hl] at hdq
  have hd := isRep_len h1 h2 h3
  have : isRep a (leastS (a.take (leastS a))) = true := by
    refine isRep_of q1 (by omega) (Nat.mod_eq_zero_of_dvd (Nat.dvd_trans (Nat.dvd_of_mod_eq_zero hdq) (Nat.dvd_of_mod_eq_zero hd))) fun i hi => ?_
    rw [isRep_get h1 h2 h3 i hi]
    have hm : i % leastS a < leastS a := Nat.mod_lt _ h1
    have := isRep_get q1 (by rw [hl]; exact q2) q3 (i % leastS a) (by rw [hl]; exact hm)
    rw [List.getElem?_take_of_lt hm, List.getElem?_take_of_lt (Nat.lt_of_lt_of_le (Nat.mod_lt _ q1) q2), Nat.mod_mod_of_dvd _ (Nat.dvd_of_mod_eq_zero hdq)] at this
    exact this
  have := leastS_le q1 (by omega) this
  omega
theorem least_is {b a : List α} (ha : a ≠ []) : IsLeast (least b a).1 (least b a).2 := by
  have hne := take_ne ha
  obtain ⟨r1, r2, r3, r4⟩ := rot_ne _ b _ rfl hne
  exact ⟨r1, rot_size _ b _ rfl hne (take_size ha), r4⟩
theorem least_len {b a : List α} (ha : a ≠ []) : (least b a).2 ≠ [] ∧ (least b a).2.length ≤ a.length ∧ (least b a).1.length ≤ b.length := by
  have hne := take_ne ha
  obtain ⟨r1, r2, r3, r4⟩ := rot_ne _ b _ rfl hne
  exact ⟨r1, by unfold least; rw [r2, List.length_take]; omega, r3⟩
/-- equal endless words have one least pair -/
theorem least_iff {b a b' a' : List α} (ha : a ≠ []) (ha' : a' ≠ []) : least b a = least b' a' ↔ ∀ n, ltr b a n = ltr b' a' n := by
  constructor
  · intro e n
    rw [← ltr_least ha, ← ltr_least ha', e]
  · intro e
    have z := least_unique (least_is (b := b) ha) (least_is (b := b') ha') fun n => by rw [ltr_least ha, ltr_least ha', e]
    exact z
theorem least_least {b a : List α} (ha : a ≠ []) : least (least b a).1 (least b a).2 = least b a := by
  have e := (least_iff (b := (least b a).1) (b' := b) (least_len ha).1 ha).mpr fun n => ltr_least ha n
  exact e
/-- enough equal letters make equal endless words -/
theorem enough {b a b' a' : List α} (ha : a ≠ []) (ha' : a' ≠ []) (N M : Nat) (hb : b.length ≤ N) (hb' : b'.length ≤ N) (hM : N + a.length + a'.length ≤ M) (e : ∀ n, n < M → ltr b a n = ltr b' a' n) : ∀ n, ltr b a n = ltr b' a' n := by
  have p1 := List.length_pos_iff.mpr ha
  have p2 := List.length_pos_iff.mpr ha'
  intro n
  induction n using Nat.strongRecOn with
  | ind n ih =>
    by_cases h : n < M
    · exact e n h
    · have x1 : ltr b a n = ltr b a (n - a.length) := by
        have := ltr_per (b := b) (a := a) (n := n - a.length) (by omega)
        rw [Nat.sub_add_cancel (by omega)] at this
        exact this
      have x2 : ltr b' a' n = ltr b' a' (n - a'.length) := by
        have := ltr_per (b := b') (a := a') (n := n - a'.length) (by omega)
        rw [Nat.sub_add_cancel (by omega)] at this
        exact this
      have x3 : ltr b' a' (n - a.length) = ltr b' a' (n - a.length - a'.length) := by
        have := ltr_per (b := b') (a := a') (n := n - a.length - a'.length) (by omega)
        rw [Nat.sub_add_cancel (by omega)] at this
        exact this
      have x4 : ltr b a (n - a'.length) = ltr b a (n - a'.length - a.length) := by
        have := ltr_per (b := b) (a := a) (n := n - a'.length - a.length) (by omega)
        rw [Nat.sub_add_cancel (by omega)] at this
        exact this
      have y := ih (n - a'.length) (by omega)
      rw [x1, ih _ (by omega), x3, x2, ← y, x4]
      have z : n - a'.length - a.length = n - a.length - a'.length := by omega
      rw [z]
      exact (ih _ (by omega)).symm
end Rd
end Br
namespace Br
namespace Rd
variable {α : Type} [DecidableEq α]
theorem ltr_rep {b a : List α} {k : Nat} (ha : a ≠ []) (hk : 1 ≤ k) (n : Nat) : ltr b (rep k a) n = ltr b a n := by
  have hp : 0 < a.length := List.length_pos_iff.mpr ha
  by_cases h : n < b.length
  · rw [ltr_lt h, ltr_lt h]
  · rw [ltr_ge (by omega), ltr_ge (by omega), rep_len]
    have hkl : 0 < k * a.length := Nat.mul_pos hk hp
    rw [rep_get _ _ _ (Nat.mod_lt _ hkl)]
    congr 1
    rw [Nat.mod_mod_of_dvd _ (Nat.dvd_mul_left _ _)]
theorem rep_ne {a : List α} {k : Nat} (ha : a ≠ []) (hk : 1 ≤ k) : rep k a ≠ [] := fun z => by
  have := congrArg List.length z
  rw [rep_len] at this
  have hp : 0 < a.length := List.length_pos_iff.mpr ha
  have := Nat.mul_pos hk hp
  simp at *
  omega
theorem app_get {b a : List α} (j i : Nat) (h : i < (b ++ rep j a).length) : (b ++ rep j a)[i]? = ltr b a i := by
  rw [List.length_append, rep_len] at h
  by_cases hb : i < b.length
  · rw [List.getElem?_append_left hb, ltr_lt hb]
  · rw [List.getElem?_append_right (by omega), ltr_ge (by omega), rep_get _ _ _ (by omega)]
theorem sizes_at (a : List α) (i : Nat) : ((List.range (i + 1)).map (· + 1)).filter (isRep a) = ((List.range i).map (· + 1)).filter (isRep a) ++ (if isRep a (i + 1) = true then [i + 1] else []) := by
  rw [List.range_succ, List.map_append, List.filter_append]
  congr 1
  show List.filter (isRep a) [i + 1] = _
  cases h : isRep a (i + 1) <;> simp [h]
theorem sizes_hd {a : List α} (ha : a ≠ []) : (sizes a)[0]? = some (leastS a) := by
  unfold leastS
  cases e : sizes a with
  | nil => exact absurd e (sizes_ne ha)
  | cons t r => rfl
end Rd
end Br

/-! Round words: what their defs promise. -/
namespace Br
open PySem PySem.Spec PyProof.Rows L2
/-- a pair of words stands at v -/
def PairT (K : PySem.W.Frag) (H : Hp) (v : V) (b a : List Int) : Prop := ∃ p x y, v = .ref p ∧ SqT K H p [.ref x, .ref y] ∧ SqT K H x (b.map V.int) ∧ SqT K H y (a.map V.int)
theorem PairT.kd {K : PySem.W.Frag} {H H' : Hp} {d : Addr} {v : V} {b a : List Int} (k : Kd d H H') (h : PairT K H v b a) : PairT K H' v b a := by
  obtain ⟨p, x, y, e, h1, h2, h3⟩ := h
  exact ⟨p, x, y, e, k.tup h1, k.tup h2, k.tup h3⟩
theorem PairT.same {K : PySem.W.Frag} {H H' : Hp} {v : V} {b a : List Int} (k : Same H H') (h : PairT K H v b a) : PairT K H' v b a := h.kd (d := 0) (Kd.same k)
def dP (b a : List Int) : PyData := .tuple [dI b, dI a]
theorem PairT.dp {K : PySem.W.Frag} {H : Hp} {v : V} {b a : List Int} (h : PairT K H v b a) : Dp K H v (dP b a) := by
  obtain ⟨p, x, y, rfl, h1, h2, h3⟩ := h
  exact .tup h1 (.cons (dpI h2) (.cons (dpI h3) .nil))
theorem shP (b a : List Int) : SeqAt.shaped (dP b a) = true := by
  have h2 : PyData.depth (dP b a) ≤ 64 := by
    show max (PyData.depthAll (b.map PyData.int) + 1) (max (PyData.depthAll (a.map PyData.int) + 1) (PyData.depthAll [])) + 1 ≤ 64
    have := depI b
    have := depI a
    have : PyData.depthAll [] = 0 := by simp [PyData.depthAll]
    omega
  show (((PyData.canLayAll0 (b.map PyData.int)) && ((PyData.canLayAll0 (a.map PyData.int)) && true)) && decide (PyData.depth (dP b a) ≤ 64)) = true
  rw [layI, layI, decide_eq_true h2] <;> rfl
theorem eqvP (b a b' a' : List Int) : PyData.eqv (dP b a) (dP b' a') = decide ((b, a) = (b', a')) := by
  show (PyData.eqv (dI b) (dI b') && (PyData.eqv (dI a) (dI a') && true)) = _
  rw [eqvI, eqvI, Bool.and_true]
  by_cases h : b = b'
  · subst h
    by_cases h2 : a = a'
    · subst h2
      simp
    · simp [h2]
  · simp [h]
/-- as an argument of is_word_in the value gives b -/
def Wv (K : PySem.W.Frag) (H : Hp) (k : Int) (m x : V) (b : Bool) : Prop := (NoT H x ∧ b = false) ∨ ∃ (a : Addr) (xs : List V), x = .ref a ∧ SqT K H a xs ∧ xs.length < 1000000 ∧ (∀ y ∈ xs, Kn K H y) ∧ b = (mostOk m xs.length && xs.all (wn 0 (k - 1)))
theorem NoT.same {H H' : Hp} {v : V} (e : Same H H') (k : NoT H v) : NoT H' v := k.keep fun a o _ h => e a o h
theorem Wv.same {K : PySem.W.Frag} {H H' : Hp} {k : Int} {m x : V} {b : Bool} (s : Same H H') (h : Wv K H k m x b) : Wv K H' k m x b := by
  rcases h with ⟨h, e⟩ | ⟨a, xs, e, h1, h2, h3, h4⟩
  · exact .inl ⟨h.same s, e⟩
  · exact .inr ⟨a, xs, e, same_tup s h1, h2, fun y hy => (h3 y hy).same s, h4⟩
theorem wv_word {K : PySem.W.Frag} {H : Hp} {k : Int} {m : V} {a : Addr} {ns : List Int} (h : SqT K H a (ns.map V.int)) (hl : ns.length < 1000000) (hw : inW k ns) (hm : mostOk m ns.length = true) : Wv K H k m (.ref a) true :=
  .inr ⟨a, _, rfl, h, by rw [List.length_map]; exact hl, ints_kn, by rw [inW_wn hw, List.length_map, hm] <;> rfl⟩
def sp_is_round_in (K : PySem.W.Frag) : Sp := fun vs H Q _ => ∃ (k : Int) (v m : V), vs = [.int k, v, m] ∧ (m = .non ∨ ∃ i, m = .int i) ∧
  ((NoT H v ∧ Q (.bl false) H) ∨ (∃ (a : Addr) (xs : List V), v = .ref a ∧ SqT K H a xs ∧ xs.length ≠ 2 ∧ Q (.bl false) H) ∨
   ∃ (a : Addr) (x y : V) (bx b2 : Bool) (dy : PyData), v = .ref a ∧ SqT K H a [x, y] ∧ Wv K H k m x bx ∧ Wv K H k m y b2 ∧ Dp K H y dy ∧ SeqAt.shaped dy = true ∧ ∀ H', Same H H' → Q (.bl (!PyData.eqv dy (dI []) && (bx && b2))) H')
def sp_require_round (K : PySem.W.Frag) : Sp := fun vs H Q _ => ∃ (k : Int) (v : V) (b a : List Int), vs = [.int k, v] ∧ PairT K H v b a ∧ inW k b ∧ inW k a ∧ a ≠ [] ∧ b.length < 1000000 ∧ a.length < 1000000 ∧ ∀ H', Same H H' → Q .non H'
def sp_least_round_in (K : PySem.W.Frag) : Sp := fun vs H Q _ => ∃ (v : V) (b a : List Int), vs = [v] ∧ PairT K H v b a ∧ a ≠ [] ∧ b.length ≤ 1000 ∧ a.length ≤ 1000 ∧ ∀ v' H', Same H H' → PairT K H' v' (Rd.least b a).1 (Rd.least b a).2 → Q v' H'
def sp_is_round (K : PySem.W.Frag) : Sp := fun vs H Q _ => ∃ (k : Int) (v : V), vs = [.int k, v] ∧ 2 ≤ k ∧ k ≤ 5 ∧
  ((NoT H v ∧ Q (.bl false) H) ∨ (∃ (a : Addr) (xs : List V), v = .ref a ∧ SqT K H a xs ∧ xs.length ≠ 2 ∧ Q (.bl false) H) ∨
   ∃ (a : Addr) (x y : V) (bx b2 : Bool) (dy : PyData), v = .ref a ∧ SqT K H a [x, y] ∧ Wv K H k (.int 60) x bx ∧ Wv K H k (.int 60) y b2 ∧ Dp K H y dy ∧ SeqAt.shaped dy = true ∧ ∀ H', Same H H' → Q (.bl (!PyData.eqv dy (dI []) && (bx && b2))) H')
def sp_least_round (K : PySem.W.Frag) : Sp := fun vs H Q _ => ∃ (k : Int) (v : V) (b a : List Int), vs = [.int k, v] ∧ 2 ≤ k ∧ k ≤ 5 ∧ PairT K H v b a ∧ inW k b ∧ inW k a ∧ a ≠ [] ∧ b.length ≤ 1000 ∧ a.length ≤ 1000 ∧
  ∀ v' H', Same H H' → PairT K H' v' (Rd.least b a).1 (Rd.least b a).2 → Q v' H'
/-- the first letters of the endless word -/
def firstL (b a : List Int) (n : Nat) : List Int := (List.range n).map fun i => (Rd.ltr b a i).getD 0
def sp_letters_of (K : PySem.W.Frag) : Sp := fun vs H Q _ => ∃ (k : Int) (v : V) (b a : List Int) (n : Nat), vs = [.int k, v, .int n] ∧ 2 ≤ k ∧ k ≤ 5 ∧ PairT K H v b a ∧ inW k b ∧ inW k a ∧ a ≠ [] ∧ b.length ≤ 1000 ∧ a.length ≤ 1000 ∧ n ≤ 2000 ∧
  ∀ p H', Same H H' → SqT K H' p ((firstL b a n).map V.int) → Q (.ref p) H'
end Br
namespace Br
open PySem PySem.Spec PyProof.Rows L2
theorem map_take {f : Int → V} {n : Nat} {xs : List Int} : (xs.map f).take n = (xs.take n).map f := by rw [List.map_take]
theorem map_rep {n : Nat} {xs : List Int} : (List.replicate n (xs.map V.int)).flatten = (Rd.rep n xs).map V.int := by
  unfold Rd.rep
  rw [List.map_flatten, List.map_replicate]
theorem k_of {n : Int} (h0 : 0 ≤ n) (h : n < 100000) : n.natAbs < 2 ^ 64 := by omega
/-- the test of a size -/
def okS (a : List Int) (t : Nat) : Bool := decide (a.length % t = 0) && Rd.isRep a t
theorem okS_rep {a : List Int} {t : Nat} (h1 : 1 ≤ t) (h2 : t ≤ a.length) : okS a t = Rd.isRep a t := by
  unfold okS
  cases h : Rd.isRep a t with
  | true => rw [decide_eq_true (Rd.isRep_len h1 h2 h)] <;> rfl
  | false => rw [Bool.and_false]
theorem leastS_of {a : List Int} {t : Nat} (h1 : 1 ≤ t) (h2 : t ≤ a.length) (h : okS a t = true) (hl : ∀ u, 1 ≤ u → u < t → okS a u = false) : Rd.leastS a = t :=
  Rd.leastS_eq h1 h2 (by rw [← okS_rep h1 h2]; exact h) fun u u1 u2 => by rw [← okS_rep u1 (by omega)]; exact hl u u1 u2
theorem atLast {xs : List V} {x : V} (h : xs.getLast? = some x) : atI xs (-1) = some x := by
  obtain ⟨c, rfl⟩ : ∃ c, xs = c ++ [x] := by
    have hne : xs ≠ [] := fun z => by rw [z] at h; cases h
    refine ⟨xs.dropLast, ?_⟩
    rw [List.getLast?_eq_getLast hne] at h
    have := List.dropLast_concat_getLast hne
    rw [Option.some.inj h] at this
    exact this.symm
  exact atI_last _ _
end Br
namespace Br
open PySem PySem.Spec PyProof.Rows L2
/-! ### the laws' helpers -/
def dLi (ns : List Int) : PyData := .list (ns.map .int)
theorem dpLi {K : PySem.W.Frag} {H : Hp} {a : Addr} {ns : List Int} (h : SqL K H a (ns.map V.int)) : Dp K H (.ref a) (dLi ns) := .lst h (dpAllI ns)
theorem shLi (ns : List Int) : SeqAt.shaped (dLi ns) = true := shI ns
theorem eqvLi (xs ys : List Int) : PyData.eqv (dLi xs) (dLi ys) = decide (xs = ys) := eqvAllI xs ys
theorem firstL_of {b a : List Int} {j n : Nat} (h : n ≤ (b ++ Rd.rep j a).length) : (b ++ Rd.rep j a).take n = firstL b a n := by
  refine List.ext_getElem? fun i => ?_
  unfold firstL
  by_cases hi : i < n
  · rw [List.getElem?_take_of_lt hi, Rd.app_get j i (by omega), List.getElem?_map, List.getElem?_range hi]
    have := Rd.app_get (b := b) (a := a) j i (by omega)
    rw [List.getElem?_eq_getElem (by omega)] at this
    rw [Option.map_some, ← this] <;> rfl
  · rw [List.getElem?_eq_none (by rw [List.length_take]; omega), List.getElem?_eq_none (by rw [List.length_map, List.length_range]; omega)]
theorem firstL_eq {b a b' a' : List Int} (n : Nat) (h : ∀ i, i < n → Rd.ltr b a i = Rd.ltr b' a' i) : firstL b a n = firstL b' a' n := by
  unfold firstL
  refine List.map_congr_left fun i hi => ?_
  rw [h i (List.mem_range.mp hi)]
theorem firstL_inj {b a b' a' : List Int} (ha : a ≠ []) (ha' : a' ≠ []) {n : Nat} (h : firstL b a n = firstL b' a' n) : ∀ i, i < n → Rd.ltr b a i = Rd.ltr b' a' i := fun i hi => by
  have := congrArg (fun l => l[i]?) h
  unfold firstL at this
  simp only [List.getElem?_map, List.getElem?_range hi, Option.map_some] at this
  obtain ⟨x, hx⟩ := Rd.ltr_some (b := b) ha i
  obtain ⟨y, hy⟩ := Rd.ltr_some (b := b') ha' i
  rw [hx, hy] at this ⊢
  have := Option.some.inj this
  simp at this
  rw [this]
def sp_law_rd_least (K : PySem.W.Frag) : Sp := fun vs H Q _ => ∃ (x y : Addr) (b a : List Int), vs = [.ref x, .ref y] ∧ SqT K H x (b.map V.int) ∧ SqT K H y (a.map V.int) ∧ a ≠ [] ∧ b.length ≤ 1000 ∧ a.length ≤ 1000 ∧ ∀ v' H', Same H H' → PairT K H' v' (Rd.least b a).1 (Rd.least b a).2 → Q v' H'
def sp_law_rd_letters (K : PySem.W.Frag) : Sp := fun vs H Q _ => ∃ (v : V) (b a : List Int) (n : Nat), vs = [v, .int n] ∧ PairT K H v b a ∧ a ≠ [] ∧ b.length ≤ 1000 ∧ a.length ≤ 1000 ∧ n ≤ 5000 ∧ ∀ p H', Same H H' → SqT K H' p ((firstL b a n).map V.int) → Q (.ref p) H'
def sp_law_rd_drawn (K : PySem.W.Frag) : Sp := fun vs H Q _ => ∃ (d : Addr) (k : Int) (m n : Nat), vs = [.ref d, .int k, .int m] ∧ Dice H d n ∧ n < 2 ^ 58 ∧ 1 ≤ m ∧ m ≤ 100 ∧ 0 < k ∧ k.natAbs < 2 ^ 31 ∧
  ∀ v b a H', Kd d H H' → Dice H' d (n + 300) → PairT K H' v b a → inW k b → inW k a → a ≠ [] → b.length ≤ m → a.length ≤ m → Q v H'
def sp_law_wider (K : PySem.W.Frag) : Sp := fun vs H Q _ => ∃ (d : Addr) (v : V) (k : Int) (b a : List Int) (n : Nat), vs = [.ref d, v] ∧ Dice H d n ∧ n < 2 ^ 58 ∧ PairT K H v b a ∧ inW k b ∧ inW k a ∧ a ≠ [] ∧ b.length ≤ 200 ∧ a.length ≤ 200 ∧
  ∀ v' b' a' H', Kd d H H' → Dice H' d (n + 10) → PairT K H' v' b' a' → inW k b' → inW k a' → a' ≠ [] → b'.length ≤ b.length + 3 → a'.length ≤ 3 * a.length → (∀ i, Rd.ltr b' a' i = Rd.ltr b a i) → Q v' H'
end Br

namespace Br
open PySem PySem.Spec PyProof.Rows L2
local macro_rules | `(tactic| walk_at "up") => `(tactic| first | assumption | exact sT (by assumption) | exact sL (by assumption) | (with_reducible refine same_tup (by assumption) ?_; walk_at "up") | (with_reducible refine Kd.tup (by assumption) ?_; walk_at "up") | (with_reducible refine same_lst (by assumption) ?_; walk_at "up") | (with_reducible refine same_at (by assumption) ?_; walk_at "up"))
local macro_rules | `(tactic| walk_at "sm") => `(tactic| first | exact Same.refl _ | assumption | (refine Same.trans ?_ (by assumption); walk_at "sm"))
local macro_rules | `(tactic| walk_at "kd") => `(tactic| first | exact Kd.refl | assumption | exact Kd.same (by assumption) | (with_reducible refine Kd.trans ?_ (by assumption); walk_at "kd") | (with_reducible refine Kd.trans ?_ (Kd.same (by assumption)); walk_at "kd"))
def topS (i : Nat) : Stmt := PySem.Challenge.pw_branchturns_k22_whole_round_words.main.body.getD i (.Pass ⟨0, 0, 0, 0⟩)
abbrev s_is_integer : Stmt := topS 6
theorem sc_is_integer : FnScope ["value"] ["value"] (defScope s_is_integer) := ⟨rfl, rfl, rfl, by decide +kernel, rfl, by decide +kernel, by decide +kernel⟩
abbrev s_is_within : Stmt := topS 7
theorem sc_is_within : FnScope ["value", "low", "high"] ["value", "low", "high"] (defScope s_is_within) := ⟨rfl, rfl, rfl, by decide +kernel, rfl, by decide +kernel, by decide +kernel⟩
abbrev s_require_within : Stmt := topS 8
theorem sc_require_within : FnScope ["value", "low", "high"] ["value", "low", "high"] (defScope s_require_within) := ⟨rfl, rfl, rfl, by decide +kernel, rfl, by decide +kernel, by decide +kernel⟩
abbrev s_is_width : Stmt := topS 9
theorem sc_is_width : FnScope ["value"] ["value"] (defScope s_is_width) := ⟨rfl, rfl, rfl, by decide +kernel, rfl, by decide +kernel, by decide +kernel⟩
abbrev s_require_width : Stmt := topS 10
theorem sc_require_width : FnScope ["value"] ["value"] (defScope s_require_width) := ⟨rfl, rfl, rfl, by decide +kernel, rfl, by decide +kernel, by decide +kernel⟩
abbrev s_is_letter : Stmt := topS 11
theorem sc_is_letter : FnScope ["width", "value"] ["width", "value"] (defScope s_is_letter) := ⟨rfl, rfl, rfl, by decide +kernel, rfl, by decide +kernel, by decide +kernel⟩
abbrev s_is_word_in : Stmt := topS 12
theorem sc_is_word_in : FnScope ["width", "value", "most", "letter"] ["width", "value", "most"] (defScope s_is_word_in) := ⟨rfl, rfl, rfl, by decide +kernel, rfl, by decide +kernel, by decide +kernel⟩
abbrev s_is_round_in : Stmt := topS 16
theorem sc_is_round_in : FnScope ["width", "value", "most", "word"] ["width", "value", "most"] (defScope s_is_round_in) := ⟨rfl, rfl, rfl, by decide +kernel, rfl, by decide +kernel, by decide +kernel⟩
abbrev s_require_round : Stmt := topS 17
theorem sc_require_round : FnScope ["width", "value"] ["width", "value"] (defScope s_require_round) := ⟨rfl, rfl, rfl, by decide +kernel, rfl, by decide +kernel, by decide +kernel⟩
abbrev s_least_round_in : Stmt := topS 18
theorem sc_least_round_in : FnScope ["word", "before", "around", "size"] ["word"] (defScope s_least_round_in) := ⟨rfl, rfl, rfl, by decide +kernel, rfl, by decide +kernel, by decide +kernel⟩
abbrev s_is_round : Stmt := topS 19
theorem sc_is_round : FnScope ["width", "value"] ["width", "value"] (defScope s_is_round) := ⟨rfl, rfl, rfl, by decide +kernel, rfl, by decide +kernel, by decide +kernel⟩
abbrev s_least_round : Stmt := topS 20
theorem sc_least_round : FnScope ["width", "value"] ["width", "value"] (defScope s_least_round) := ⟨rfl, rfl, rfl, by decide +kernel, rfl, by decide +kernel, by decide +kernel⟩
abbrev s_letters_of : Stmt := topS 21
theorem sc_letters_of : FnScope ["width", "word", "many", "before", "around", "at"] ["width", "word", "many"] (defScope s_letters_of) := ⟨rfl, rfl, rfl, by decide +kernel, rfl, by decide +kernel, by decide +kernel⟩
abbrev s_law_dice : Stmt := topS 23
theorem sc_law_dice : FnScope ["script", "spot", "cell", "great", "seed"] ["script", "spot"] (defScope s_law_dice) := ⟨rfl, rfl, rfl, by decide +kernel, rfl, by decide +kernel, by decide +kernel⟩
abbrev s_law_roll : Stmt := topS 24
theorem sc_law_roll : FnScope ["dice", "total", "found", "one", "two"] ["dice", "total"] (defScope s_law_roll) := ⟨rfl, rfl, rfl, by decide +kernel, rfl, by decide +kernel, by decide +kernel⟩
abbrev s_law_pick : Stmt := topS 25
theorem sc_law_pick : FnScope ["dice", "items"] ["dice", "items"] (defScope s_law_pick) := ⟨rfl, rfl, rfl, by decide +kernel, rfl, by decide +kernel, by decide +kernel⟩
abbrev s_law_word : Stmt := topS 26
theorem sc_law_word : FnScope ["dice", "width", "most", "at"] ["dice", "width", "most"] (defScope s_law_word) := ⟨rfl, rfl, rfl, by decide +kernel, rfl, by decide +kernel, by decide +kernel⟩
abbrev s_law_rd_least : Stmt := topS 27
theorem sc_law_rd_least : FnScope ["before", "around", "sizes", "ahead", "ring", "many"] ["before", "around"] (defScope s_law_rd_least) := ⟨rfl, rfl, rfl, by decide +kernel, rfl, by decide +kernel, by decide +kernel⟩
abbrev s_law_rd_letters : Stmt := topS 28
theorem sc_law_rd_letters : FnScope ["pair", "many", "found"] ["pair", "many"] (defScope s_law_rd_letters) := ⟨rfl, rfl, rfl, by decide +kernel, rfl, by decide +kernel, by decide +kernel⟩
abbrev s_law_rd_drawn : Stmt := topS 29
theorem sc_law_rd_drawn : FnScope ["dice", "width", "most"] ["dice", "width", "most"] (defScope s_law_rd_drawn) := ⟨rfl, rfl, rfl, by decide +kernel, rfl, by decide +kernel, by decide +kernel⟩
abbrev s_law_wider : Stmt := topS 30
theorem sc_law_wider : FnScope ["dice", "pair", "before", "around", "turn"] ["dice", "pair"] (defScope s_law_wider) := ⟨rfl, rfl, rfl, by decide +kernel, rfl, by decide +kernel, by decide +kernel⟩
abbrev s_law_odd : Stmt := topS 31
theorem sc_law_odd : FnScope ["dice", "width", "pair", "before", "around", "odd"] ["dice", "width", "pair"] (defScope s_law_odd) := ⟨rfl, rfl, rfl, by decide +kernel, rfl, by decide +kernel, by decide +kernel⟩
abbrev s_law_right : Stmt := topS 32
theorem sc_law_right : FnScope ["dice", "width", "pair", "wide", "mate", "due", "many", "is_same"] ["dice"] (defScope s_law_right) := ⟨rfl, rfl, rfl, by decide +kernel, rfl, by decide +kernel, by decide +kernel⟩
abbrev s_law : Stmt := topS 33
theorem sc_law : FnScope ["script", "spot", "dice", "turn"] ["script"] (defScope s_law) := ⟨rfl, rfl, rfl, by decide +kernel, rfl, by decide +kernel, by decide +kernel⟩
structure Blt (mg : Str → Option Value) : Prop where
  len' : mg "len" = none
  range' : mg "range" = none
  isinstance' : mg "isinstance" = none
  int' : mg "int" = none
  bool' : mg "bool" = none
  tuple' : mg "tuple" = none
  list' : mg "list" = none
  all' : mg "all" = none
  abs' : mg "abs" = none
  max' : mg "max" = none
  min' : mg "min" = none
section
variable {P : Program} {w : World} {K : PySem.W.Frag} {mg : Str → Option Value} {base : Heap}
theorem ok_is_integer (B : Blt mg)  {f : Addr} {fd : FuncData} (F : Dn K mg "is_integer" s_is_integer ["value"] f fd) : FnOk P w K mg base CX0 1 f fd ["value"] (sp_is_integer K) := by
  refine F.ok sc_is_integer (fun vs H Q E h => by obtain ⟨v, rfl, _⟩ := h; rfl) (fun cdv A outer s H vs Q E hr h => ?_)
  obtain ⟨v, rfl, kn, q⟩ := h
  obtain ⟨t, ht, h1, h2⟩ := kn.int_of
  refine ⟨_, (pss_one (ps_ret (pe_and (pe_callB (call_isK K rfl) (by rfl) B.isinstance' (by decide +kernel) (pa_cons (pv 0) (pa_cons (pe_bltn (v := .ty "int") (by rfl) B.int' (by decide +kernel) rfl) pa_nil))) (pe_one (pe_not (pe_callB (call_isK K rfl) (by rfl) B.isinstance' (by decide +kernel) (pa_cons (pv 0) (pa_cons (pe_bltn (v := .ty "bool") (by rfl) B.bool' (by decide +kernel) rfl) pa_nil)))))))), ?_⟩
  refine ⟨v, rfl, v, .ty "int", t, .type "int", isIB v, rfl, .ty "int", ht, h1, isIB v, rfl, ite2 (fun e => ?_) (fun e => ?_)⟩
  · refine ⟨v, rfl, v, .ty "bool", t, .type "bool", isB v, rfl, .ty "bool", ht, h2, isB v, rfl, ?_⟩
    have z : isI v = !isB v := by
      cases v <;> first | rfl | cases e
    rw [z] at q
    exact q
  · have z : isI v = false := by
      cases v <;> first | rfl | exact absurd rfl e
    rw [z] at q
    exact q
theorem ok_is_within (B : Blt mg) (c_is_integer : Cl CX0 P w K mg base 1 "is_integer" (sp_is_integer K) [])  {f : Addr} {fd : FuncData} (F : Dn K mg "is_within" s_is_within ["value", "low", "high"] f fd) : FnOk P w K mg base CX0 2 f fd ["value", "low", "high"] (sp_is_within K) := by
  refine F.ok sc_is_within (fun vs H Q E h => by obtain ⟨v, lo, hi, rfl, _⟩ := h; rfl) (fun cdv A outer s H vs Q E hr h => ?_)
  obtain ⟨v, lo, hi, rfl, kn, q⟩ := h
  refine ⟨_, (pss_one (ps_ret (pe_and (pe_c c_is_integer hr (by decide) (by rfl) (pa_cons (pv 0) pa_nil)) (pe_one (pe_chain op_le op_le (pv 1) (pv 0) (pv 2)))))), ?_⟩
  refine ⟨v, rfl, v, rfl, kn, isI v, rfl, ite2 (fun e => ?_) (fun e => ?_)⟩
  · obtain ⟨i, rfl⟩ : ∃ i, v = .int i := by
      cases v <;> first | exact ⟨_, rfl⟩ | cases e
    refine ⟨_, rfl, _, rfl, _, _, rfl, rfl, _, rfl, ite2 (fun e1 => ?_) (fun e1 => ?_)⟩
    · refine ⟨_, rfl, _, _, rfl, rfl, ?_⟩
      have z : wn lo hi (.int i) = decide (i ≤ hi) := by
        show (decide (lo ≤ i) && decide (i ≤ hi)) = _
        rw [e1, Bool.true_and]
      rw [z] at q
      exact q
    · have z : wn lo hi (.int i) = false := by
        show (decide (lo ≤ i) && decide (i ≤ hi)) = _
        rw [Bool.eq_false_iff.mpr e1, Bool.false_and]
      rw [z] at q
      exact q
  · have z : wn lo hi v = false := by
      cases v <;> first | rfl | exact absurd rfl e
    rw [z] at q
    exact q
theorem ok_require_within (B : Blt mg) (c_is_within : Cl CX0 P w K mg base 2 "is_within" (sp_is_within K) [])  {f : Addr} {fd : FuncData} (F : Dn K mg "require_within" s_require_within ["value", "low", "high"] f fd) : FnOk P w K mg base CX0 3 f fd ["value", "low", "high"] (sp_require_within K) := by
  refine F.ok sc_require_within (fun vs H Q E h => by obtain ⟨v, lo, hi, rfl, _⟩ := h; rfl) (fun cdv A outer s H vs Q E hr h => ?_)
  obtain ⟨v, lo, hi, rfl, wv, q⟩ := h
  refine ⟨_, (pss_one (ps_if (pt_not (pt_val (pe_c c_is_within hr (by decide) (by rfl) (pa_cons (pv 0) (pa_cons (pv 1) (pa_cons (pv 2) pa_nil)))))) (pss_one ps_never) pss_nil)), ?_⟩
  refine ⟨v, rfl, _, rfl, _, rfl, v, lo, hi, rfl, wn_kn wv, _, rfl, ?_⟩
  rw [wv]
  exact iteF q
theorem ok_is_width (B : Blt mg) (m_MAX_WIDTH : ∃ u, mg "MAX_WIDTH" = some u ∧ RelV (.int 5) u) (c_is_within : Cl CX0 P w K mg base 2 "is_within" (sp_is_within K) [])  {f : Addr} {fd : FuncData} (F : Dn K mg "is_width" s_is_width ["value"] f fd) : FnOk P w K mg base CX0 3 f fd ["value"] (sp_is_width K) := by
  refine F.ok sc_is_width (fun vs H Q E h => by obtain ⟨v, rfl, _⟩ := h; rfl) (fun cdv A outer s H vs Q E hr h => ?_)
  obtain ⟨v, rfl, kn, q⟩ := h
  refine ⟨_, (pss_one (ps_ret (pe_c c_is_within hr (by decide) (by rfl) (pa_cons (pv 0) (pa_cons pe_int (pa_cons (pe_gc (by rfl) m_MAX_WIDTH) pa_nil)))))), ?_⟩
  exact ⟨v, rfl, v, 2, 5, rfl, kn, q⟩
theorem ok_require_width (B : Blt mg) (c_is_width : Cl CX0 P w K mg base 3 "is_width" (sp_is_width K) [])  {f : Addr} {fd : FuncData} (F : Dn K mg "require_width" s_require_width ["value"] f fd) : FnOk P w K mg base CX0 4 f fd ["value"] (sp_require_width K) := by
  refine F.ok sc_require_width (fun vs H Q E h => by obtain ⟨v, rfl, _⟩ := h; rfl) (fun cdv A outer s H vs Q E hr h => ?_)
  obtain ⟨v, rfl, h1, h2, q⟩ := h
  refine ⟨_, (pss_one (ps_if (pt_not (pt_val (pe_c c_is_width hr (by decide) (by rfl) (pa_cons (pv 0) pa_nil)))) (pss_one ps_never) pss_nil)), ?_⟩
  refine ⟨_, rfl, _, rfl, .int v, _, rfl, ?_⟩
  rw [wn_of h1 h2]
  exact iteF q
theorem ok_is_letter (B : Blt mg) (c_is_within : Cl CX0 P w K mg base 2 "is_within" (sp_is_within K) [])  {f : Addr} {fd : FuncData} (F : Dn K mg "is_letter" s_is_letter ["width", "value"] f fd) : FnOk P w K mg base CX0 3 f fd ["width", "value"] (sp_is_letter K) := by
  refine F.ok sc_is_letter (fun vs H Q E h => by obtain ⟨k, v, rfl, _⟩ := h; rfl) (fun cdv A outer s H vs Q E hr h => ?_)
  obtain ⟨k, v, rfl, kn, q⟩ := h
  refine ⟨_, (pss_one (ps_ret (pe_c c_is_within hr (by decide) (by rfl) (pa_cons (pv 1) (pa_cons pe_int (pa_cons (pe_op op_sub (pv 0) pe_int) pa_nil)))))), ?_⟩
  exact ⟨v, rfl, .int k, rfl, k, 1, rfl, rfl, v, 0, k - 1, rfl, kn, q⟩
theorem ok_is_word_in (B : Blt mg) (c_is_letter : Cl CX0 P w K mg base 3 "is_letter" (sp_is_letter K) [])  {f : Addr} {fd : FuncData} (F : Dn K mg "is_word_in" s_is_word_in ["width", "value", "most"] f fd) : FnOk P w K mg base CX0 4 f fd ["width", "value", "most"] (sp_is_word_in K) := by
  refine F.ok sc_is_word_in (fun vs H Q E h => by obtain ⟨k, v, m, rfl, _⟩ := h; rfl) (fun cdv A outer s H vs Q E hr h => ?_)
  obtain ⟨k, v, m, rfl, hm, hv⟩ := h
  refine ⟨_, (pss_cons (ps_if (PW.pt (pw_or (pt_not (pt_val (pe_callB (call_isK K rfl) (by rfl) B.isinstance' (by decide +kernel) (pa_cons (pv 1) (pa_cons (pe_bltn (v := .ty "tuple") (by rfl) B.tuple' (by decide +kernel) rfl) pa_nil))))) (pw_or1 (PW.pt (pw_and (pt_cmpR op_notN (pv 2) pe_non (nomark _)) (pw_and1 (pt_cmpR op_gt (pe_callB (call_lenK K rfl) (by rfl) B.len' PySem.boot_len (pa_cons (pv 1) pa_nil)) (pv 2) (nomark _)))))))) (pss_one (ps_ret pe_bl)) pss_nil)
      (pss_one (ps_ret (pe_callB (cr_allK K rfl rfl) (by rfl) B.all' (by decide +kernel) (pa_cons (pe_lc (own := [("letter", 3)]) (by rfl) sc_is_word_in.nd (pi_tK K rfl (pv 1)) (blkOk_by (own := [("letter", 3)]) (N := ["width", "value", "most", "letter"]) (sc := defScope s_is_word_in) (by decide +kernel)) (fun _ _ _ _ _ => (pg_name (i := 3) sc_is_word_in.nd rfl (Or.inl rfl))) (fun _ _ _ _ _ => pts_nil) (fun _ _ _ _ _ => (pe_c c_is_letter hr (by decide) (by rfl) (pa_cons (pv 0) (pa_cons (pv 3) pa_nil))))) pa_nil))))), ?_⟩
  rcases hv with ⟨nt, q⟩ | ⟨a, xs, rfl, hT, hl, hk, q⟩
  · obtain ⟨t, ht, h1⟩ := nt.ty (K := K)
    exact ⟨v, rfl, v, .ty "tuple", t, .type "tuple", false, rfl, .ty "tuple", ht, h1, false, rfl, iteT (iteT q)⟩
  · refine ⟨_, rfl, .ref a, .ty "tuple", _, .type "tuple", true, rfl, .ty "tuple", tyT hT, kit_tt, true, rfl, iteF ?_⟩
    have body : mostOk m xs.length = true → tRet (tCB (rAll K) (tCons (tLc (iTup K (tVar 1)) (gName 3) tYes (tCall (sp_is_letter K) [] E0 (tCons (tVar 0) (tCons (tVar 3) tNil))) [3]) tNil)) { nx := fun _ H' => Q .non H', rt := Q } (start ["width", "value", "most", "letter"] [.int k, .ref a, m]) H := fun e => by
      refine ⟨.ref a, rfl, a, rfl, ⟨_, hT⟩, fun D hD => lc_tup (K := K) (a := a) (xs := xs) (fun i H' => Same H H' ∧ H' D = some (.lst ((xs.take i).map fun x => .bl (wn 0 (k - 1) x)))) ⟨same_new hD, upd_same⟩ (fun i H' _ h => same_tup h.1 hT) ?_ ?_⟩
      · rintro i x H' hx ⟨s1, e1⟩
        have hi : i < xs.length := (List.getElem?_eq_some_iff.mp hx).1
        refine ⟨rfl, _, rfl, _, rfl, k, x, rfl, (hk x (List.mem_of_getElem? hx)).same s1, _, e1, szl (by rw [List.length_map, List.length_take]; omega), fun b o z => ?_, ?_⟩
        · rw [upd_ne (ne_of_none z hD)]
          exact s1 b o z
        · rw [upd_same, take_map hx]
      · rintro H' ⟨s1, e1⟩
        refine ⟨D, xs.map (wn 0 (k - 1)), rfl, sL ?_, ?_⟩
        · rw [e1, List.take_length, List.map_map] <;> rfl
        · have := q H' s1
          rw [e, Bool.true_and] at this
          rw [List.all_map]
          exact this
    rcases hm with rfl | ⟨i, rfl⟩
    · exact ⟨.non, rfl, rfl, false, rfl, iteF (iteF (body rfl))⟩
    · refine ⟨.int i, rfl, rfl, true, rfl, iteT ⟨_, rfl, a, xs, rfl, .inr hT, _, rfl, _, _, rfl, rfl, _, rfl, ite2 (fun e => ?_) (fun e => ?_)⟩⟩
      · have := q H (Same.refl H)
        have e2 : mostOk (.int i) xs.length = false := by
          show (!decide (i < (xs.length : Int))) = false
          rw [e] <;> rfl
        rw [e2, Bool.false_and] at this
        exact this
      · refine body ?_
        show (!decide (i < (xs.length : Int))) = true
        rw [Bool.eq_false_iff.mpr e] <;> rfl
theorem ok_is_round_in (B : Blt mg) (c_is_word_in : Cl CX0 P w K mg base 4 "is_word_in" (sp_is_word_in K) [])  {f : Addr} {fd : FuncData} (F : Dn K mg "is_round_in" s_is_round_in ["width", "value", "most"] f fd) : FnOk P w K mg base CX0 5 f fd ["width", "value", "most"] (sp_is_round_in K) := by
  refine F.ok sc_is_round_in (fun vs H Q E h => by obtain ⟨k, v, m, rfl, _⟩ := h; rfl) (fun cdv A outer s H vs Q E hr h => ?_)
  obtain ⟨k, v, m, rfl, hm, hv⟩ := h
  refine ⟨_, (pss_cons (ps_if (PW.pt (pw_or (pt_not (pt_val (pe_callB (call_isK K rfl) (by rfl) B.isinstance' (by decide +kernel) (pa_cons (pv 1) (pa_cons (pe_bltn (v := .ty "tuple") (by rfl) B.tuple' (by decide +kernel) rfl) pa_nil))))) (pw_or1 (pt_cmpR op_ne (pe_callB (call_lenK K rfl) (by rfl) B.len' PySem.boot_len (pa_cons (pv 1) pa_nil)) pe_int (nomark _))))) (pss_one (ps_ret pe_bl)) pss_nil)
      (pss_one (ps_ret (pe_and (pe_cmpR (op_neK K rfl hr.units) (pe_ix (ix_tK K rfl) (pv 1) pe_int (fun _ _ => rfl)) (pe_tup pa_nil) (nomark _)) (pe_one (pe_callB (cr_allK K rfl rfl) (by rfl) B.all' (by decide +kernel) (pa_cons (pe_lc (own := [("word", 3)]) (by rfl) sc_is_round_in.nd (pi_tK K rfl (pv 1)) (blkOk_by (own := [("word", 3)]) (N := ["width", "value", "most", "word"]) (sc := defScope s_is_round_in) (by decide +kernel)) (fun _ _ _ _ _ => (pg_name (i := 3) sc_is_round_in.nd rfl (Or.inl rfl))) (fun _ _ _ _ _ => pts_nil) (fun _ _ _ _ _ => (pe_c c_is_word_in hr (by decide) (by rfl) (pa_cons (pv 0) (pa_cons (pv 3) (pa_cons (pv 2) pa_nil)))))) pa_nil))))))), ?_⟩
  rcases hv with ⟨nt, q⟩ | ⟨a, xs, rfl, hT, hl, q⟩ | ⟨a, x, y, bx, b2, dy, rfl, hT, wx, wy, hd, hs, q⟩
  · obtain ⟨t, ht, h1⟩ := nt.ty (K := K)
    exact ⟨v, rfl, v, .ty "tuple", t, .type "tuple", false, rfl, .ty "tuple", ht, h1, false, rfl, iteT (iteT q)⟩
  · refine ⟨_, rfl, .ref a, .ty "tuple", _, .type "tuple", true, rfl, .ty "tuple", tyT hT, kit_tt, true, rfl, iteF ⟨_, rfl, a, xs, rfl, .inr hT, rfl, _, rfl, ?_⟩⟩
    rw [decide_eq_false (fun z => hl (by injection z with z; exact Int.ofNat.inj z))]
    exact iteT q
  · refine ⟨_, rfl, .ref a, .ty "tuple", _, .type "tuple", true, rfl, .ty "tuple", tyT hT, kit_tt, true, rfl, iteF ⟨_, rfl, a, _, rfl, .inr hT, rfl, _, rfl, iteNS rfl ?_⟩⟩
    refine ⟨_, rfl, a, [x, y], 1, y, rfl, rfl, hT, rfl, by show 0 ≤ sizeLine; decide, fun e ne => ?_⟩
    have se := same_new (o := .tup []) ne
    have hde := dpSame se hd
    refine ⟨dy, dI [], hde, dpI (ns := []) (sT upd_same), hs, shI [], !PyData.eqv dy (dI []), rfl, ite2 (fun e1 => ?_) (fun e1 => ?_)⟩
    · refine ⟨_, rfl, a, rfl, ⟨_, same_tup se hT⟩, fun D hD => lc_tup (K := K) (a := a) (xs := [x, y]) (fun i H' => Same H H' ∧ H' D = some (.lst (([bx, b2].take i).map V.bl))) ⟨se.trans (same_new hD), upd_same⟩ (fun i H' _ h => same_tup h.1 hT) ?_ ?_⟩
      · rintro i z H' hz ⟨s1, e2⟩
        have hD0 : H D = none := se.free hD
        have key : ∀ b : Bool, Wv K H k m z b → ([bx, b2] : List Bool)[i]? = some b → sp_is_word_in K [.int k, z, m] H' (fun y H4 => ∃ acc, H4 D = some (.lst acc) ∧ acc.length < sizeLine ∧ (Same H (upd H4 D (.lst (acc ++ [y]))) ∧ (upd H4 D (.lst (acc ++ [y]))) D = some (.lst (([bx, b2].take (i + 1)).map V.bl)))) E0 := fun b hw hb => by
          have done : ∀ H4, Same H' H4 → ∃ acc, H4 D = some (.lst acc) ∧ acc.length < sizeLine ∧ (Same H (upd H4 D (.lst (acc ++ [.bl b]))) ∧ (upd H4 D (.lst (acc ++ [.bl b]))) D = some (.lst (([bx, b2].take (i + 1)).map V.bl))) := fun H4 s4 => by
            refine ⟨_, s4 _ _ e2, szl (by rw [List.length_map, List.length_take]; show min i 2 < _; omega), fun c o hc => ?_, ?_⟩
            · rw [upd_ne (ne_of_none hc hD0)]
              exact s4 _ _ (s1 _ _ hc)
            · rw [upd_same, take_map hb]
          rcases hw.same s1 with ⟨nt, rfl⟩ | ⟨c, zs, rfl, h1, h2, h3, rfl⟩
          · exact ⟨k, z, m, rfl, hm, .inl ⟨nt, done H' (Same.refl _)⟩⟩
          · exact ⟨k, _, m, rfl, hm, .inr ⟨c, zs, rfl, h1, h2, h3, fun H4 s4 => done H4 s4⟩⟩
        match i, hz with
        | 0, h => cases h; exact ⟨rfl, _, rfl, _, rfl, _, rfl, key bx wx rfl⟩
        | 1, h => cases h; exact ⟨rfl, _, rfl, _, rfl, _, rfl, key b2 wy rfl⟩
        | i + 2, h => cases h
      · rintro H' ⟨s1, e2⟩
        refine ⟨D, [bx, b2], rfl, sL e2, ?_⟩
        have := q H' s1
        rw [e1, Bool.true_and] at this
        simpa using this
    · have := q _ se
      rw [Bool.eq_false_iff.mpr e1, Bool.false_and] at this
      exact this
theorem ok_require_round (B : Blt mg) (c_is_round_in : Cl CX0 P w K mg base 5 "is_round_in" (sp_is_round_in K) [])  {f : Addr} {fd : FuncData} (F : Dn K mg "require_round" s_require_round ["width", "value"] f fd) : FnOk P w K mg base CX0 6 f fd ["width", "value"] (sp_require_round K) := by
  refine F.ok sc_require_round (fun vs H Q E h => by obtain ⟨k, v, b, a, rfl, _⟩ := h; rfl) (fun cdv A outer s H vs Q E hr h => ?_)
  obtain ⟨k, v, b, a, rfl, ⟨p, x, y, rfl, hT, hx, hy⟩, hb, ha, hne, lb, la, q⟩ := h
  refine ⟨_, (pss_one (ps_if (pt_not (pt_val (pe_c c_is_round_in hr (by decide) (by rfl) (pa_cons (pv 0) (pa_cons (pv 1) (pa_cons pe_non pa_nil)))))) (pss_one ps_never) pss_nil)), ?_⟩
  refine ⟨_, rfl, _, rfl, k, _, .non, rfl, .inl rfl, .inr (.inr ⟨p, .ref x, .ref y, true, true, dI a, rfl, hT, wv_word hx lb hb rfl, wv_word hy la ha rfl, dpI hy, shI a, fun H' s1 => ⟨_, rfl, ?_⟩⟩)⟩
  rw [eqvI, decide_eq_false hne]
  exact iteF (q H' s1)
theorem ok_law_dice (B : Blt mg)  {f : Addr} {fd : FuncData} (F : Dn K mg "_law_dice" s_law_dice ["script", "spot"] f fd) : FnOk P w K mg base CX0 1 f fd ["script", "spot"] (sp_law_dice K) := by
  refine F.ok sc_law_dice (fun vs H Q E h => by obtain ⟨a, ns, i, rfl, _⟩ := h; rfl) (fun cdv A outer s H vs Q E hr h => ?_)
  obtain ⟨a, ns, i, rfl, hS, hi, q⟩ := h
  refine ⟨_, (C8.pss_cut (ps_set (i := 2) sc_law_dice.nd rfl (Or.inl rfl) (pe_ifExp (pt_cmpR op_lt (pv 1) (pe_callB (call_lenK K rfl) (by rfl) B.len' PySem.boot_len (pa_cons (pv 0) pa_nil)) (nomark _)) (pe_callTy call_int1 (by rfl) B.int' (by decide +kernel) (pa_cons (pe_ix (ix_lK K rfl) (pv 0) (pv 1) (fun _ _ => rfl)) pa_nil)) (pe_op op_add (pe_op op_mulW pe_int (pv 1)) pe_int)))
      (pss_cons (ps_set (i := 3) sc_law_dice.nd rfl (Or.inl rfl) (pe_op op_mod (pe_callTy call_int1 (by rfl) B.int' (by decide +kernel) (pa_cons (pe_callB call_abs (by rfl) B.abs' (by decide +kernel) (pa_cons (pv 2) pa_nil)) pa_nil)) (pe_op op_powW (pe_op op_powW pe_int pe_int) pe_int)))
      (pss_cons (ps_set (i := 4) sc_law_dice.nd rfl (Or.inl rfl) (pe_op op_add (pe_op op_add (pe_op op_add (pe_op op_mulW (pe_op op_mod (pv 3) pe_int) pe_int) (pe_op op_mulW pe_int (pv 1))) (pe_op op_mulW pe_int (pe_callTy call_int1 (by rfl) B.int' (by decide +kernel) (pa_cons (pe_cmpR op_lt (pv 2) pe_int (nomark _)) pa_nil)))) pe_int))
      (pss_one (ps_ret (pe_lst (pa_cons (pe_callB (call_max2 rfl) (by rfl) B.max' (by decide +kernel) (pa_cons pe_int (pa_cons (pe_op op_sub (pv 3) (pe_op op_powW pe_int pe_int)) pa_nil))) (pa_cons (pv 4) (pa_cons pe_int pa_nil))))))))), ?_⟩
  refine ⟨fun σ H' => ∃ c : Int, σ = [some (.ref a), some (.int i), some (.int c), none, none] ∧ H' = H, ?_, ?_⟩
  · refine ⟨_, rfl, _, rfl, a, _, rfl, .inl hS, _, _, rfl, rfl, _, rfl, ite2 (fun e => ?_) (fun e => ?_)⟩
    · have hlt : i < ns.length := by
        have := of_decide_eq_true e
        rw [List.length_map] at this
        omega
      exact ⟨_, rfl, _, rfl, a, _, _, .int ns[i], rfl, rfl, hS, atI_nat (j := i) (by rw [List.getElem?_map, List.getElem?_eq_getElem hlt] <;> rfl), .inl ⟨_, rfl, _, rfl, rfl⟩⟩
    · exact ⟨_, rfl, _, _, rfl, rfl, wide_mul (a := 64) (b := 64) (by decide) (by omega) (by omega) (by omega) (by omega), _, _, rfl, rfl, _, rfl, rfl⟩
  · rintro σ H' ⟨c, rfl, rfl⟩
    refine ⟨_, rfl, _, rfl, .inl ⟨_, rfl, _, _, rfl, rfl, ⟨by decide, by decide +kernel⟩, _, _, rfl, rfl, ⟨by decide, by decide +kernel⟩, _, _, rfl, rfl, bigM_pos, ?_⟩⟩
    show tSeq _ _ _ [some (.ref a), some (.int i), some (.int c), some (.int ((if c < 0 then -c else c) % bigM)), none] H'
    generalize hg : (if c < 0 then -c else c) % bigM = g
    have g0 : 0 ≤ g := by rw [← hg]; exact Int.emod_nonneg _ (by have := bigM_pos; omega)
    have g1 : g < bigM := by rw [← hg]; exact Int.emod_lt_of_pos _ bigM_pos
    have gl : g.natAbs < 2 ^ 1100 := abs_le g0 (Int.le_of_lt g1) bigM_lt
    have r0 : 0 ≤ g % 2305843009213693921 := Int.emod_nonneg _ (by decide)
    have r1 : g % 2305843009213693921 < 2305843009213693921 := Int.emod_lt_of_pos _ (by decide)
    refine ⟨_, rfl, _, _, rfl, rfl, (by show (0 : Int) < 2305843009213693921; decide), ?_⟩
    refine ⟨_, _, rfl, rfl, wide_mul (a := 64) (b := 64) (by omega) (by decide) (by omega) (by omega) (by omega), _, rfl, _, _, rfl, rfl, wide_mul (a := 64) (b := 64) (by decide) (by omega) (by omega) (by omega) (by omega), _, _, rfl, rfl, _, rfl, _, _, rfl, rfl, .inr ⟨_, rfl, _, _, rfl, rfl, wide_mul (a := 64) (b := 64) (by decide) (by split <;> omega) (by omega) (by omega) (by omega), _, _, rfl, rfl, _, _, rfl, rfl, ?_⟩⟩
    refine ⟨_, rfl, _, _, rfl, rfl, ⟨by decide, by decide +kernel⟩, _, _, rfl, rfl, _, _, rfl, _, rfl, by show 3 ≤ sizeLine; decide, fun p np => ?_⟩
    have t16 : (0 : Int) ≤ 10 ^ Int.toNat 16 := by decide
    refine q p _ np (same_new np) ⟨_, _, _, upd_same, ?_, ?_, ?_, ?_, Int.le_refl 0, by decide⟩
    · split <;> omega
    · refine Nat.lt_of_le_of_lt ?_ gl
      split <;> omega
    · split <;> omega
    · split <;> omega
theorem ok_law_roll (B : Blt mg)  {f : Addr} {fd : FuncData} (F : Dn K mg "_law_roll" s_law_roll ["dice", "total"] f fd) : FnOk P w K mg base CX0 1 f fd ["dice", "total"] sp_law_roll := by
  refine F.ok sc_law_roll (fun vs H Q E h => by obtain ⟨d, t, n, rfl, _⟩ := h; rfl) (fun cdv A outer s H vs Q E hr h => ?_)
  obtain ⟨d, t, n, rfl, ⟨g, s, c, hD, g0, g1, s0, s1, c0, c1⟩, hn, t0, t1, q⟩ := h
  refine ⟨_, (pss_cons (ps_if (pt_cmpR op_gt (pe_ix (ix_lK K rfl) (pv 0) pe_int (fun _ _ => rfl)) pe_int (nomark _)) (pss_cons (ps_set (i := 2) sc_law_roll.nd rfl (Or.inl rfl) (pe_op op_mod (pe_ix (ix_lK K rfl) (pv 0) pe_int (fun _ _ => rfl)) (pv 1)))
      (pss_cons (ps_asg (pe_op op_fdivW (pe_ix (ix_lK K rfl) (pv 0) pe_int (fun _ _ => rfl)) (pv 1)) (pg_sub (pv 0) pe_int set_list))
      (pss_one (ps_ret (pe_callTy call_int1 (by rfl) B.int' (by decide +kernel) (pa_cons (pv 2) pa_nil)))))) pss_nil)
      (pss_cons (ps_asg (pe_op op_add (pe_ix (ix_lK K rfl) (pv 0) pe_int (fun _ _ => rfl)) pe_int) (pg_sub (pv 0) pe_int set_list))
      (pss_cons (ps_set (i := 3) sc_law_roll.nd rfl (Or.inl rfl) (pe_op op_mod (pe_op op_add (pe_ix (ix_lK K rfl) (pv 0) pe_int (fun _ _ => rfl)) (pe_op op_mulW pe_int (pe_ix (ix_lK K rfl) (pv 0) pe_int (fun _ _ => rfl)))) pe_int))
      (pss_cons (ps_set (i := 4) sc_law_roll.nd rfl (Or.inl rfl) (pe_op op_add (pe_op op_mulW (pe_op op_mod (pe_op op_add (pe_op op_mulW (pv 3) (pv 3)) (pe_op op_mulW pe_int (pe_ix (ix_lK K rfl) (pv 0) pe_int (fun _ _ => rfl)))) pe_int) pe_int) (pv 3)))
      (pss_one (ps_ret (pe_op op_mod (pe_callTy call_int1 (by rfl) B.int' (by decide +kernel) (pa_cons (pe_op op_fdivW (pv 4) pe_int) pa_nil)) (pv 1)))))))), ?_⟩
  refine ⟨_, rfl, d, _, _, .int g, rfl, rfl, sL hD, rfl, _, _, rfl, rfl, _, rfl, ite2 (fun e => ?_) (fun e => ?_)⟩
  · have m0 : 0 ≤ g / t := Int.ediv_nonneg g0 (Int.le_of_lt t0)
    have m1 : g / t ≤ g := Int.ediv_le_self _ g0
    refine ⟨_, rfl, d, _, _, .int g, rfl, rfl, sL hD, rfl, _, rfl, _, _, rfl, rfl, t0, _, rfl, d, _, _, .int g, rfl, rfl, sL hD, rfl, _, rfl, _, _, rfl, rfl, wide_div t0 t1 (by decide) (by decide), _, rfl, d, _, _, 0, rfl, rfl, hD, rfl, _, rfl, .inl ⟨_, rfl, ?_⟩⟩
    exact q _ _ (Int.emod_nonneg _ (by omega)) (Int.emod_lt_of_pos _ t0) (kd_upd hD) ⟨g / t, s, c, upd_same, m0, Nat.lt_of_le_of_lt (by omega) g1, s0, s1, c0, by omega⟩
  · have hD1 : ∀ o, (upd H d o) d = some o := fun o => upd_same
    refine ⟨_, rfl, d, _, _, .int c, rfl, rfl, sL hD, rfl, _, _, rfl, rfl, _, rfl, d, _, _, 2, rfl, rfl, hD, rfl, ?_⟩
    show tSeq _ _ _ _ (upd H d (.lst [.int g, .int s, .int (c + 1)]))
    have hE : (upd H d (.lst [.int g, .int s, .int (c + 1)])) d = some (.lst [.int g, .int s, .int (c + 1)]) := upd_same
    have kE : Kd d H (upd H d (.lst [.int g, .int s, .int (c + 1)])) := kd_upd hD
    generalize upd H d (.lst [.int g, .int s, .int (c + 1)]) = H1 at hE kE
    have c62 : (c + 1).natAbs < 2 ^ 62 := by omega
    refine ⟨_, rfl, d, _, _, .int s, rfl, rfl, sL hE, rfl, _, rfl, d, _, _, .int (c + 1), rfl, rfl, sL hE, rfl, _, _, rfl, rfl, wide_mul (a := 64) (b := 62) (by decide) c62 (by omega) (by omega) (by omega), _, _, rfl, rfl, _, _, rfl, rfl, (by show (0 : Int) < 2305843009213693951; decide), ?_⟩
    have o0 : 0 ≤ (s + 86028157 * (c + 1)) % 2305843009213693951 := Int.emod_nonneg _ (by decide)
    have o1 : (s + 86028157 * (c + 1)) % 2305843009213693951 < 2305843009213693951 := Int.emod_lt_of_pos _ (by decide)
    show tSeq _ _ _ [some (.ref d), some (.int t), none, some (.int ((s + 86028157 * (c + 1)) % 2305843009213693951)), none] H1
    generalize (s + 86028157 * (c + 1)) % 2305843009213693951 = o at o0 o1
    refine ⟨_, rfl, _, rfl, _, _, rfl, rfl, wide_mul (a := 64) (b := 64) (by omega) (by omega) (by omega) (by omega) (by omega), _, rfl, d, _, _, .int (c + 1), rfl, rfl, sL hE, rfl, _, _, rfl, rfl, wide_mul (a := 64) (b := 62) (by decide) c62 (by omega) (by omega) (by omega), _, _, rfl, rfl, _, _, rfl, rfl, (by show (0 : Int) < 2305843009213693907; decide), ?_⟩
    have u0 : 0 ≤ (o * o + 179 * (c + 1)) % 2305843009213693907 := Int.emod_nonneg _ (by decide)
    have u1 : (o * o + 179 * (c + 1)) % 2305843009213693907 < 2305843009213693907 := Int.emod_lt_of_pos _ (by decide)
    generalize (o * o + 179 * (c + 1)) % 2305843009213693907 = u at u0 u1
    refine ⟨_, _, rfl, rfl, wide_mul (a := 64) (b := 64) (by omega) (by decide) (by omega) (by omega) (by omega), _, rfl, _, _, rfl, rfl, _, rfl, _, _, rfl, rfl, wide_div (b := 64) (by decide) (by decide) (by decide) (by decide), .inl ⟨_, rfl, _, rfl, _, _, rfl, rfl, t0, ?_⟩⟩
    exact q _ _ (Int.emod_nonneg _ (by omega)) (Int.emod_lt_of_pos _ t0) kE ⟨g, s, c + 1, hE, g0, g1, s0, s1, by omega, by omega⟩
theorem ok_law_pick (B : Blt mg) (c_law_roll : Cl CX0 P w K mg base 1 "_law_roll" sp_law_roll [])  {f : Addr} {fd : FuncData} (F : Dn K mg "_law_pick" s_law_pick ["dice", "items"] f fd) : FnOk P w K mg base CX0 2 f fd ["dice", "items"] (sp_law_pick K) := by
  refine F.ok sc_law_pick (fun vs H Q E h => by obtain ⟨d, a, xs, n, rfl, _⟩ := h; rfl) (fun cdv A outer s H vs Q E hr h => ?_)
  obtain ⟨d, a, xs, n, rfl, hD, hn, hS, ne, h0, hl, q⟩ := h
  refine ⟨_, (pss_one (ps_ret (pe_ix (ix_lK K rfl) (pv 1) (pe_c c_law_roll hr (by decide) (by rfl) (pa_cons (pv 0) (pa_cons (pe_callB (call_lenK K rfl) (by rfl) B.len' PySem.boot_len (pa_cons (pv 1) pa_nil)) pa_nil))) (fun _ _ => rfl)))), ?_⟩
  refine ⟨_, rfl, _, rfl, _, rfl, a, _, rfl, .inl hS, d, xs.length, n, rfl, hD, hn, by omega, by omega, fun v H' v0 v1 k1 D1 => ?_⟩
  obtain ⟨i, rfl⟩ : ∃ i : Nat, v = i := ⟨v.toNat, by omega⟩
  have hi : i < xs.length := by omega
  exact ⟨a, xs, i, xs[i], rfl, rfl, k1.lst ne hS, atI_nat (List.getElem?_eq_getElem hi), q i _ H' (List.getElem?_eq_getElem hi) k1 D1⟩
theorem ok_law_word (B : Blt mg) (c_law_roll : Cl CX0 P w K mg base 1 "_law_roll" sp_law_roll [])  {f : Addr} {fd : FuncData} (F : Dn K mg "_law_word" s_law_word ["dice", "width", "most"] f fd) : FnOk P w K mg base CX0 2 f fd ["dice", "width", "most"] (sp_law_word K) := by
  refine F.ok sc_law_word (fun vs H Q E h => by obtain ⟨d, k, m, n, rfl, _⟩ := h; rfl) (fun cdv A outer s H vs Q E hr h => ?_)
  obtain ⟨d, k, m, n, rfl, D0, hn, hm, k0, k1, q⟩ := h
  refine ⟨_, (pss_one (ps_ret (pe_callTy (call_tupK K rfl) (by rfl) B.tuple' (by decide +kernel) (pa_cons (pe_lc (own := [("at", 3)]) (by rfl) sc_law_word.nd (pi_range1 (by rfl) B.range' (pa_cons (pe_c c_law_roll hr (by decide) (by rfl) (pa_cons (pv 0) (pa_cons (pe_op op_add (pv 2) pe_int) pa_nil))) pa_nil)) (blkOk_by (own := [("at", 3)]) (N := ["dice", "width", "most", "at"]) (sc := defScope s_law_word) (by decide +kernel)) (fun _ _ _ _ _ => (pg_name (i := 3) sc_law_word.nd rfl (Or.inl rfl))) (fun _ _ _ _ _ => pts_nil) (fun _ _ _ _ _ => (pe_c c_law_roll hr (by decide) (by rfl) (pa_cons (pv 0) (pa_cons (pv 1) pa_nil))))) pa_nil)))), ?_⟩
  refine ⟨_, rfl, _, rfl, _, _, rfl, rfl, d, (m : Int) + 1, n, rfl, D0, by omega, by omega, by omega, fun v H1 v0 v1 kd1 D1 => ?_⟩
  obtain ⟨z, rfl⟩ : ∃ z : Nat, v = z := ⟨v.toNat, by omega⟩
  refine ⟨z, rfl, by omega, by omega, fun C hC => ?_⟩
  have nCd : C ≠ d := D1.ne hC
  have hC0 : H C = none := kd1.free nCd hC
  refine lc_range (lo := 0) (n := z) (fun i H' => Kd d H H' ∧ ∃ ns : List Int, H' C = some (.lst (ns.map V.int)) ∧ ns.length = i ∧ inW k ns ∧ Dice H' d (n + 1 + i)) ⟨kd_mut kd1 hC0, [], upd_same, rfl, (fun _ h => by cases h), D1.at (upd_ne (Ne.symm nCd))⟩ ?_ ?_
  · rintro i H' hi ⟨kd, ns, eC, hl, hw, Di⟩
    refine ⟨rfl, _, rfl, _, rfl, d, k, n + 1 + i, rfl, Di, by omega, k0, by omega, fun x H2 x0 x1 kd2 D2 => ⟨ns.map V.int, kd2 _ _ eC (fun z => (nCd z).elim), szl (by rw [List.length_map]; omega), kd_mut (kd.trans kd2) hC0, ns ++ [x], ?_, ?_, ?_, ?_⟩⟩
    · rw [upd_same, List.map_append] <;> rfl
    · rw [List.length_append, hl] <;> rfl
    · intro y hy
      rcases List.mem_append.mp hy with hy | hy
      · exact hw y hy
      · rw [List.mem_singleton.mp hy]
        exact ⟨x0, x1⟩
    · exact D2.at (upd_ne (Ne.symm nCd))
  · rintro H' ⟨kd, ns, eC, hl, hw, Di⟩
    refine ⟨C, _, rfl, .inl ⟨sL eC, fun t nt => ?_⟩⟩
    exact q t ns _ (kd.trans (Kd.same (same_new nt))) ((Di.same (same_new nt)).more (by omega)) (sT upd_same) hw (by omega)
end
end Br

namespace Br
open PySem PySem.Spec PyProof.Rows L2
local macro_rules | `(tactic| walk_at "up") => `(tactic| first | assumption | exact sT (by assumption) | exact sL (by assumption) | (with_reducible refine same_tup (by assumption) ?_; walk_at "up") | (with_reducible refine Kd.tup (by assumption) ?_; walk_at "up") | (with_reducible refine same_lst (by assumption) ?_; walk_at "up") | (with_reducible refine same_at (by assumption) ?_; walk_at "up"))
local macro_rules | `(tactic| walk_at "sm") => `(tactic| first | exact Same.refl _ | assumption | (refine Same.trans ?_ (by assumption); walk_at "sm"))
local macro_rules | `(tactic| walk_at "kd") => `(tactic| first | exact Kd.refl | assumption | exact Kd.same (by assumption) | (with_reducible refine Kd.trans ?_ (by assumption); walk_at "kd") | (with_reducible refine Kd.trans ?_ (Kd.same (by assumption)); walk_at "kd"))
section
variable {P : Program} {w : World} {K : PySem.W.Frag} {mg : Str → Option Value} {base : Heap}
theorem ok_least_round_in (B : Blt mg)  {f : Addr} {fd : FuncData} (F : Dn K mg "least_round_in" s_least_round_in ["word"] f fd) : FnOk P w K mg base CX0 1 f fd ["word"] (sp_least_round_in K) := by
  refine F.ok sc_least_round_in (fun vs H Q E h => by obtain ⟨v, b, a, rfl, _⟩ := h; rfl) (fun cdv A outer s H vs Q E hr h => ?_)
  obtain ⟨v, b, a, rfl, ⟨p, x, y, rfl, hT, hx, hy⟩, hne, lb, la, q⟩ := h
  have hp : 0 < a.length := List.length_pos_iff.mpr hne
  refine ⟨_, (pss_cons (ps_asg (pv 0) (pg_tup (by rfl) (pgs_cons (pg_name (i := 1) sc_least_round_in.nd rfl (Or.inl rfl)) (pgs_cons (pg_name (i := 2) sc_least_round_in.nd rfl (Or.inl rfl)) pgs_nil))))
      (pss_cons (ps_set (i := 3) sc_least_round_in.nd rfl (Or.inl rfl) pe_int)
      (pss_cons (ps_while PassesOwn.never (PW.pt (pw_or (pt_cmpR op_ne (pe_op op_mod (pe_callB (call_lenK K rfl) (by rfl) B.len' PySem.boot_len (pa_cons (pv 2) pa_nil)) (pv 3)) pe_int (nomark _)) (pw_or1 (pt_cmpR (op_neK K rfl hr.units) (pe_op (op_repA K rfl) (pe_slice (sl_tK K rfl) (pv 2) po_none (po_some (pv 3))) (pe_op op_fdivW (pe_callB (call_lenK K rfl) (by rfl) B.len' PySem.boot_len (pa_cons (pv 2) pa_nil)) (pv 3))) (pv 2) (nomark _))))) (pss_one (ps_set (i := 3) sc_least_round_in.nd rfl (Or.inl rfl) (pe_op op_add (pv 3) pe_int))))
      (pss_cons (ps_set (i := 2) sc_least_round_in.nd rfl (Or.inl rfl) (pe_slice (sl_tK K rfl) (pv 2) po_none (po_some (pv 3))))
      (pss_cons (ps_while PassesOwn.never (PW.pt (pw_and (pt_cmpR (op_neK K rfl hr.units) (pv 1) (pe_tup pa_nil) (nomark _)) (pw_and1 (pt_cmpR op_eq (pe_ix (ix_tK K rfl) (pv 1) (pe_un un_neg pe_int) (fun _ _ => rfl)) (pe_ix (ix_tK K rfl) (pv 2) (pe_un un_neg pe_int) (fun _ _ => rfl)) (nomark _))))) (pss_one (ps_par (i := 1) (j := 2) (by rfl) sc_least_round_in.nd rfl rfl (by decide) rfl rfl (pa_cons (pe_slice (sl_tK K rfl) (pv 1) po_none (po_some (pe_un un_neg pe_int))) (pa_cons (pe_op (op_catK K rfl) (pe_slice (sl_tK K rfl) (pv 2) (po_some (pe_un un_neg pe_int)) po_none) (pe_slice (sl_tK K rfl) (pv 2) po_none (po_some (pe_un un_neg pe_int)))) pa_nil)) (by rfl))))
      (pss_one (ps_ret (pe_tup (pa_cons (pv 1) (pa_cons (pv 2) pa_nil)))))))))), ?_⟩
  refine ⟨_, rfl, p, _, rfl, hT, rfl, _, _, rfl, _, _, rfl, rfl, ?_⟩
  -- the least size
  refine ⟨fun m σ H' => ∃ t : Nat, σ = [some (.ref p), some (.ref x), some (.ref y), some (.int t)] ∧ 1 ≤ t ∧ t ≤ a.length ∧ m = a.length - t ∧ Same H H' ∧ ∀ u, 1 ≤ u → u < t → okS a u = false, ⟨_, 1, rfl, by omega, by omega, rfl, Same.refl H, fun u u1 u2 => by omega⟩, ?_⟩
  rintro m σ H1 ⟨t, rfl, t1, t2, rfl, s1, hl⟩
  have step : ∀ H2, Same H1 H2 → okS a t = false → t < a.length ∧ ∃ N : L2.St → Hp → Prop, (∀ σ' H', N σ' H' → ∃ m', m' < a.length - t ∧ ∃ t : Nat, σ' = [some (.ref p), some (.ref x), some (.ref y), some (.int t)] ∧ 1 ≤ t ∧ t ≤ a.length ∧ m' = a.length - t ∧ Same H H' ∧ ∀ u, 1 ≤ u → u < t → okS a u = false) ∧ N [some (.ref p), some (.ref x), some (.ref y), some (.int ((t : Int) + 1))] H2 := fun H2 s2 e => by
    have hlt : t < a.length := by
      by_cases z : t = a.length
      · subst z
        rw [okS_rep t1 (Nat.le_refl _), Rd.isRep_self hne] at e
        cases e
      · omega
    refine ⟨hlt, fun σ' H' => σ' = [some (.ref p), some (.ref x), some (.ref y), some (.int ((t : Int) + 1))] ∧ H' = H2, ?_, rfl, rfl⟩
    rintro σ' H' ⟨rfl, rfl⟩
    refine ⟨_, ?_, t + 1, rfl, by omega, by omega, rfl, s1.trans s2, fun u u1 u2 => ?_⟩
    · omega
    · by_cases z : u = t
      · subst z
        exact e
      · exact hl u u1 (by omega)
  have la' : (a.map V.int).length = a.length := List.length_map _
  refine ⟨_, rfl, y, _, rfl, .inr (same_tup s1 hy), _, rfl, _, _, rfl, rfl, (by show (0 : Int) < (t : Int); omega), rfl, _, rfl, ?_⟩
  rw [la']
  by_cases hm : a.length % t = 0
  · have e0 : ((a.length : Nat) : Int) % (t : Int) = 0 := by rw [← Int.natCast_emod, hm] <;> rfl
    have hdv : ((a.length : Nat) : Int) / (t : Int) = ((a.length / t : Nat) : Int) := by rw [← Int.natCast_ediv]
    have hd1 : 1 ≤ a.length / t := (Nat.one_le_div_iff t1).mpr t2
    have hd2 : a.length / t ≤ a.length := Nat.div_le_self _ _
    refine ite2 (fun e => ?_) (fun e => ?_)
    · exfalso
      have z : (!decide (V.int (((a.length : Nat) : Int) % (t : Int)) = V.int 0)) = true := e
      rw [e0] at z
      exact absurd z (by decide)
    · refine ⟨_, rfl, _, rfl, _, rfl, ?_⟩
      refine sl_ok (same_tup s1 hy) fun p2 H2 s2 h2 => ⟨_, rfl, y, _, rfl, .inr (same_tup s2 (same_tup s1 hy)), _, rfl, _, _, rfl, rfl, wide_div (b := 64) (by omega) (by omega) (by decide) (by decide), ?_⟩
      rw [cut_to, map_take] at h2
      show rRepA K (.ref p2) (.int (((a.map V.int).length : Int) / (t : Int))) H2 _
      rw [la', hdv]
      have htk : (a.take t).length = t := by rw [List.length_take, Nat.min_eq_left t2]
      refine rep_ok h2 (fun z => ?_) (by omega) (by omega) (by rw [List.length_map, htk]; omega) fun p3 H3 s3 h3 => ⟨_, rfl, ?_⟩
      · have := congrArg List.length z
        rw [List.length_map, htk] at this
        have : t = 0 := this
        omega
      rw [Int.toNat_natCast, map_rep] at h3
      refine ⟨_, _, dpI h3, dpI (same_tup s3 (same_tup s2 (same_tup s1 hy))), shI _, shI _, _, rfl, ?_⟩
      rw [eqvI]
      have eo : okS a t = decide (Rd.rep (a.length / t) (a.take t) = a) := by
        unfold okS
        rw [decide_eq_true hm] <;> rfl
      refine ite2 (fun e2 => ?_) (fun e2 => ?_)
      · have ef : okS a t = false := by
          rw [eo]
          simpa using e2
        obtain ⟨hlt, N, n1, n2⟩ := step H3 (s2.trans s3) ef
        exact ⟨N, n1, _, rfl, _, _, rfl, rfl, n2⟩
      · have et : okS a t = true := by
          rw [eo]
          simpa using e2
        have hleast := leastS_of t1 t2 et hl
        have c3 := s1.trans (s2.trans s3)
        -- around = around[:size]
        refine ⟨_, rfl, _, rfl, _, rfl, sl_ok (same_tup c3 hy) fun y4 H4 s4 h4 => ?_⟩
        rw [cut_to, map_take] at h4
        have c4 := c3.trans s4
        refine ⟨fun m σ H' => ∃ (b' a' : List Int) (x' y' : Addr), σ = [some (.ref p), some (.ref x'), some (.ref y'), some (.int t)] ∧ m = b'.length ∧ a' ≠ [] ∧ b'.length ≤ 1000 ∧ a'.length = t ∧ Same H H' ∧ SqT K H' x' (b'.map V.int) ∧ SqT K H' y' (a'.map V.int) ∧ Rd.rot b' a' = Rd.least b a,
          ⟨_, b, a.take t, x, y4, rfl, rfl, fun z => by rw [z] at htk; simp at htk; omega, lb, htk, c4, same_tup c4 hx, h4, by unfold Rd.least; rw [hleast]⟩, ?_⟩
        rintro m σ H5 ⟨b', a', x', y', rfl, rfl, ha', lb', lt', s5, hx5, hy5, hrot⟩
        have out : ∀ H6, Same H5 H6 → ¬ (b' ≠ [] ∧ b'.getLast? = a'.getLast?) → Q (.ref 0) H6 ∨ True := fun _ _ _ => .inr trivial
        refine ⟨_, rfl, by show 0 ≤ sizeLine; decide, fun e0' ne0 => ?_⟩
        have s6 := same_new (o := .tup []) ne0
        refine ⟨_, _, dpI (same_tup s6 hx5), dpI (ns := []) (sT upd_same), shI _, shI _, _, rfl, ?_⟩
        rw [eqvI]
        have fin : ∀ H7, Same (upd H5 e0' (.tup [])) H7 → ¬ (b' ≠ [] ∧ b'.getLast? = a'.getLast?) → ∀ r, H7 r = none → Q (.ref r) (upd H7 r (.tup [.ref x', .ref y'])) := fun H7 s7 hn r nr => by
          have hst := Rd.rot_stop hn
          rw [hst] at hrot
          have sr := same_new (o := .tup [.ref x', .ref y']) nr
          refine q (.ref r) _ (((s5.trans s6).trans s7).trans sr) ?_
          rw [← hrot]
          exact ⟨r, x', y', rfl, sT upd_same, same_tup sr (same_tup s7 (same_tup s6 hx5)), same_tup sr (same_tup s7 (same_tup s6 hy5))⟩
        by_cases hb0 : b' = []
        · rw [decide_eq_true hb0]
          refine iteF (iteF ⟨_, rfl, _, rfl, by show 2 ≤ sizeLine; decide, fun r nr => fin _ (Same.refl _) (fun z => z.1 hb0) r nr⟩)
        · rw [decide_eq_false hb0]
          obtain ⟨c, u, rfl⟩ := Rd.split_last hb0
          obtain ⟨dd, w', rfl⟩ := Rd.split_last ha'
          refine iteT ⟨_, rfl, _, rfl, x', _, _, .int u, rfl, rfl, same_tup s6 hx5, ?_, _, rfl, _, rfl, y', _, _, .int w', rfl, rfl, same_tup s6 hy5, ?_, rfl, _, rfl, ?_⟩
          · rw [List.map_append]
            exact atI_last _ _
          · rw [List.map_append]
            exact atI_last _ _
          by_cases huw : u = w'
          · subst huw
            rw [decide_eq_true rfl]
            refine iteT ⟨fun σ' H' => ∃ (x6 y6 : Addr), σ' = [some (.ref p), some (.ref x6), some (.ref y6), some (.int t)] ∧ Same H5 H' ∧ SqT K H' x6 (c.map V.int) ∧ SqT K H' y6 ((u :: dd).map V.int), ?_, ?_⟩
            · rintro σ' H' ⟨x6, y6, rfl, s7, h6, h7⟩
              refine ⟨c.length, by rw [List.length_append]; exact Nat.lt_succ_self _, c, u :: dd, x6, y6, rfl, rfl, List.cons_ne_nil _ _, by rw [List.length_append] at lb'; omega, ?_, s5.trans s7, h6, h7, ?_⟩
              · rw [List.length_append] at lt'
                exact lt'
              · rw [← hrot, Rd.rot_go]
            · refine ⟨_, rfl, _, rfl, _, rfl, sl_ok (same_tup s6 hx5) fun x8 H8 s8 h8 => ⟨_, rfl, _, rfl, _, rfl, sl_okF (same_tup s8 (same_tup s6 hy5)) fun y9 H9 s9 h9 => ⟨_, rfl, _, rfl, _, rfl, sl_ok (same_tup s9 (same_tup s8 (same_tup s6 hy5))) fun z9 H10 s10 h10 => ?_⟩⟩⟩
              have e8 : cutV ((c ++ [u]).map V.int) none (some (-1)) = c.map V.int := by rw [cut_init, List.map_append]; exact List.dropLast_concat
              have e9 : cutV ((dd ++ [u]).map V.int) (some (-1)) none = [.int u] := by rw [List.map_append]; exact cut_last
              have e10 : cutV ((dd ++ [u]).map V.int) none (some (-1)) = dd.map V.int := by rw [cut_init, List.map_append]; exact List.dropLast_concat
              have h8' : SqT K H8 x8 (c.map V.int) := by rw [← e8]; exact h8
              have h9' : SqT K H9 y9 [.int u] := by rw [← e9]; exact h9
              have h10' : SqT K H10 z9 (dd.map V.int) := by rw [← e10]; exact h10
              refine cat_ok (same_tup s10 h9') h10' ?_ fun y11 H11 s11 h11 => ⟨_, _, rfl, x8, y11, rfl, (((s6.trans s8).trans s9).trans s10).trans s11, same_tup s11 (same_tup s10 (same_tup s9 h8')), h11⟩
              rw [List.length_map]
              rw [List.length_append] at lt'
              have : [V.int u].length = 1 := rfl
              have : [u].length = 1 := rfl
              omega
          · rw [decide_eq_false (fun z => huw (V.int.inj z))]
            refine iteF ⟨_, rfl, _, rfl, by show 2 ≤ sizeLine; decide, fun r nr => fin _ (Same.refl _) (fun z => huw (by simpa using z.2)) r nr⟩
  · have e0 : ¬ ((a.length : Nat) : Int) % (t : Int) = 0 := fun z => hm (by rw [← Int.natCast_emod] at z; omega)
    refine ite2 (fun e => ?_) (fun e => ?_)
    · have ef : okS a t = false := by
        unfold okS
        rw [decide_eq_false hm, Bool.false_and]
      obtain ⟨hlt, N, n1, n2⟩ := step H1 (Same.refl H1) ef
      exact ⟨N, n1, _, rfl, _, _, rfl, rfl, n2⟩
    · exfalso
      have z : ¬ (!decide (V.int (((a.length : Nat) : Int) % (t : Int)) = V.int 0)) = true := e
      rw [decide_eq_false (fun z => e0 (V.int.inj z))] at z
      exact z rfl
theorem ok_is_round (B : Blt mg) (m_MAX_ROUND : ∃ u, mg "MAX_ROUND" = some u ∧ RelV (.int 60) u) (c_require_width : Cl CX0 P w K mg base 4 "require_width" (sp_require_width K) []) (c_is_round_in : Cl CX0 P w K mg base 5 "is_round_in" (sp_is_round_in K) [])  {f : Addr} {fd : FuncData} (F : Dn K mg "is_round" s_is_round ["width", "value"] f fd) : FnOk P w K mg base CX0 6 f fd ["width", "value"] (sp_is_round K) := by
  refine F.ok sc_is_round (fun vs H Q E h => by obtain ⟨k, v, rfl, _⟩ := h; rfl) (fun cdv A outer s H vs Q E hr h => ?_)
  obtain ⟨k, v, rfl, h1, h2, hv⟩ := h
  refine ⟨_, (pss_cons (ps_expr (pe_c c_require_width hr (by decide) (by rfl) (pa_cons (pv 0) pa_nil)))
      (pss_one (ps_ret (pe_c c_is_round_in hr (by decide) (by rfl) (pa_cons (pv 0) (pa_cons (pv 1) (pa_cons (pe_gc (by rfl) m_MAX_ROUND) pa_nil))))))), ?_⟩
  exact ⟨_, rfl, k, rfl, h1, h2, _, rfl, _, rfl, k, v, .int 60, rfl, .inr ⟨60, rfl⟩, hv⟩
theorem ok_least_round (B : Blt mg) (c_require_width : Cl CX0 P w K mg base 4 "require_width" (sp_require_width K) []) (c_require_round : Cl CX0 P w K mg base 6 "require_round" (sp_require_round K) []) (c_least_round_in : Cl CX0 P w K mg base 1 "least_round_in" (sp_least_round_in K) [])  {f : Addr} {fd : FuncData} (F : Dn K mg "least_round" s_least_round ["width", "value"] f fd) : FnOk P w K mg base CX0 7 f fd ["width", "value"] (sp_least_round K) := by
  refine F.ok sc_least_round (fun vs H Q E h => by obtain ⟨k, v, b, a, rfl, _⟩ := h; rfl) (fun cdv A outer s H vs Q E hr h => ?_)
  obtain ⟨k, v, b, a, rfl, h1, h2, hP, hb, ha, hne, lb, la, q⟩ := h
  refine ⟨_, (pss_cons (ps_expr (pe_c c_require_width hr (by decide) (by rfl) (pa_cons (pv 0) pa_nil)))
      (pss_cons (ps_expr (pe_c c_require_round hr (by decide) (by rfl) (pa_cons (pv 0) (pa_cons (pv 1) pa_nil))))
      (pss_one (ps_ret (pe_c c_least_round_in hr (by decide) (by rfl) (pa_cons (pv 1) pa_nil)))))), ?_⟩
  exact ⟨_, rfl, k, rfl, h1, h2, _, rfl, _, rfl, k, v, b, a, rfl, hP, hb, ha, hne, by omega, by omega, fun H1 s1 => ⟨_, rfl, v, b, a, rfl, hP.same s1, hne, lb, la, fun v' H2 s2 h => q v' H2 (s1.trans s2) h⟩⟩
theorem ok_letters_of (B : Blt mg) (m_MOST_LETTERS : ∃ u, mg "MOST_LETTERS" = some u ∧ RelV (.int 2000) u) (c_require_width : Cl CX0 P w K mg base 4 "require_width" (sp_require_width K) []) (c_require_round : Cl CX0 P w K mg base 6 "require_round" (sp_require_round K) []) (c_require_within : Cl CX0 P w K mg base 3 "require_within" (sp_require_within K) [])  {f : Addr} {fd : FuncData} (F : Dn K mg "letters_of" s_letters_of ["width", "word", "many"] f fd) : FnOk P w K mg base CX0 7 f fd ["width", "word", "many"] (sp_letters_of K) := by
  refine F.ok sc_letters_of (fun vs H Q E h => by obtain ⟨k, v, b, a, n, rfl, _⟩ := h; rfl) (fun cdv A outer s H vs Q E hr h => ?_)
  obtain ⟨k, v, b, a, n, rfl, h1, h2, hP, hb, ha, hne, lb, la, hn, q⟩ := h
  have hp : 0 < a.length := List.length_pos_iff.mpr hne
  refine ⟨_, (pss_cons (ps_expr (pe_c c_require_width hr (by decide) (by rfl) (pa_cons (pv 0) pa_nil)))
      (pss_cons (ps_expr (pe_c c_require_round hr (by decide) (by rfl) (pa_cons (pv 0) (pa_cons (pv 1) pa_nil))))
      (pss_cons (ps_expr (pe_c c_require_within hr (by decide) (by rfl) (pa_cons (pv 2) (pa_cons pe_int (pa_cons (pe_gc (by rfl) m_MOST_LETTERS) pa_nil)))))
      (pss_cons (ps_asg (pv 1) (pg_tup (by rfl) (pgs_cons (pg_name (i := 3) sc_letters_of.nd rfl (Or.inr rfl)) (pgs_cons (pg_name (i := 4) sc_letters_of.nd rfl (Or.inr rfl)) pgs_nil))))
      (pss_one (ps_ret (pe_callTy (call_tupK K rfl) (by rfl) B.tuple' (by decide +kernel) (pa_cons (pe_lc (own := [("at", 5)]) (by rfl) sc_letters_of.nd (pi_range1 (by rfl) B.range' (pa_cons (pv 2) pa_nil)) (blkOk_by (own := [("at", 5)]) (N := ["width", "word", "many", "before", "around", "at"]) (sc := defScope s_letters_of) (by decide +kernel)) (fun _ _ _ _ _ => (pg_name (i := 5) sc_letters_of.nd rfl (Or.inl rfl))) (fun _ _ _ _ _ => pts_nil) (fun _ _ _ _ _ => (pe_ifExp (pt_cmpR op_lt (pv 5) (pe_callB (call_lenK K rfl) (by rfl) B.len' PySem.boot_len (pa_cons (pv 3) pa_nil)) (nomark _)) (pe_ix (ix_tK K rfl) (pv 3) (pv 5) (fun _ _ => rfl)) (pe_ix (ix_tK K rfl) (pv 4) (pe_op op_mod (pe_op op_sub (pv 5) (pe_callB (call_lenK K rfl) (by rfl) B.len' PySem.boot_len (pa_cons (pv 3) pa_nil))) (pe_callB (call_lenK K rfl) (by rfl) B.len' PySem.boot_len (pa_cons (pv 4) pa_nil))) (fun _ _ => rfl))))) pa_nil)))))))), ?_⟩
  refine ⟨_, rfl, k, rfl, h1, h2, _, rfl, _, rfl, k, v, b, a, rfl, hP, hb, ha, hne, by omega, by omega, fun H1 s1 => ⟨_, rfl, _, 0, 2000, rfl, wn_of (by omega) (by omega), ?_⟩⟩
  obtain ⟨p, x, y, rfl, hT, hx, hy⟩ := hP.same s1
  refine ⟨_, rfl, p, _, rfl, hT, rfl, _, _, rfl, _, _, rfl, rfl, _, rfl, n, rfl, by omega, by omega, fun D hD => lc_range (lo := 0) (n := n) (fun i H' => Same H1 H' ∧ H' D = some (.lst ((firstL b a i).map V.int))) ⟨same_new hD, upd_same⟩ ?_ ?_⟩
  · rintro i H' hi ⟨s2, eD⟩
    have put : ∀ z : Int, Rd.ltr b a i = some z → ∃ acc, H' D = some (.lst acc) ∧ acc.length < sizeLine ∧ (Same H1 (upd H' D (.lst (acc ++ [.int z]))) ∧ (upd H' D (.lst (acc ++ [.int z]))) D = some (.lst ((firstL b a (i + 1)).map V.int))) := fun z hz => by
      refine ⟨_, eD, szl ?_, fun c o hc => ?_, ?_⟩
      · unfold firstL
        rw [List.length_map, List.length_map, List.length_range]
        omega
      · rw [upd_ne (ne_of_none hc hD)]
        exact s2 _ _ hc
      · rw [upd_same]
        unfold firstL
        rw [List.range_succ, List.map_append, List.map_append, List.map_singleton, hz] <;> rfl
    have hx' := same_tup s2 hx
    have hy' := same_tup s2 hy
    refine ⟨rfl, _, rfl, _, rfl, x, _, rfl, .inr hx', _, _, rfl, rfl, _, rfl, ite2 (fun e => ?_) (fun e => ?_)⟩
    · have hlt : i < b.length := by
        have := of_decide_eq_true e
        rw [List.length_map] at this
        omega
      exact ⟨_, rfl, _, rfl, x, _, _, .int b[i], rfl, rfl, hx', by rw [Int.zero_add]; exact atI_nat (j := i) (by rw [List.getElem?_map, List.getElem?_eq_getElem hlt] <;> rfl), put _ (by rw [Rd.ltr_lt hlt, List.getElem?_eq_getElem hlt])⟩
    · have hge : b.length ≤ i := by
        have e' : ¬ ((0 + (i : Int)) < (((b.map V.int).length : Nat) : Int)) := fun z => e (decide_eq_true z)
        rw [List.length_map] at e'
        omega
      have hm : (i - b.length) % a.length < a.length := Nat.mod_lt _ hp
      refine ⟨_, rfl, _, rfl, _, rfl, x, _, rfl, .inr hx', _, _, rfl, rfl, _, rfl, y, _, rfl, .inr hy', _, _, rfl, rfl, (by show (0 : Int) < (((a.map V.int).length : Nat) : Int); rw [List.length_map]; omega), y, _, _, .int a[(i - b.length) % a.length], rfl, rfl, hy', ?_, put _ (by rw [Rd.ltr_ge hge, List.getElem?_eq_getElem hm])⟩
      have e2 : ((0 + (i : Int)) - (((b.map V.int).length : Nat) : Int)) % (((a.map V.int).length : Nat) : Int) = (((i - b.length) % a.length : Nat) : Int) := by
        rw [List.length_map, List.length_map]
        have e3 : (0 + (i : Int)) - ((b.length : Nat) : Int) = ((i - b.length : Nat) : Int) := by omega
        rw [e3, ← Int.natCast_emod]
      show atI _ (((0 + (i : Int)) - (((b.map V.int).length : Nat) : Int)) % (((a.map V.int).length : Nat) : Int)) = _
      rw [e2]
      exact atI_nat (by rw [List.getElem?_map, List.getElem?_eq_getElem hm] <;> rfl)
  · rintro H' ⟨s2, eD⟩
    refine ⟨D, _, rfl, .inl ⟨sL eD, fun t nt => ?_⟩⟩
    exact q t _ (s1.trans (s2.trans (same_new nt))) (sT upd_same)
end
end Br

namespace Br
open PySem PySem.Spec PyProof.Rows L2
local macro_rules | `(tactic| walk_at "up") => `(tactic| first | assumption | exact sT (by assumption) | exact sL (by assumption) | (with_reducible refine same_tup (by assumption) ?_; walk_at "up") | (with_reducible refine Kd.tup (by assumption) ?_; walk_at "up") | (with_reducible refine same_lst (by assumption) ?_; walk_at "up") | (with_reducible refine same_at (by assumption) ?_; walk_at "up"))
local macro_rules | `(tactic| walk_at "sm") => `(tactic| first | exact Same.refl _ | assumption | (refine Same.trans ?_ (by assumption); walk_at "sm"))
local macro_rules | `(tactic| walk_at "kd") => `(tactic| first | exact Kd.refl | assumption | exact Kd.same (by assumption) | (with_reducible refine Kd.trans ?_ (by assumption); walk_at "kd") | (with_reducible refine Kd.trans ?_ (Kd.same (by assumption)); walk_at "kd"))
section
variable {P : Program} {w : World} {K : PySem.W.Frag} {mg : Str → Option Value} {base : Heap}
theorem ok_law_rd_least (B : Blt mg)  {f : Addr} {fd : FuncData} (F : Dn K mg "_law_rd_least" s_law_rd_least ["before", "around"] f fd) : FnOk P w K mg base CX0 1 f fd ["before", "around"] (sp_law_rd_least K) := by
  refine F.ok sc_law_rd_least (fun vs H Q E h => by obtain ⟨x, y, b, a, rfl, _⟩ := h; rfl) (fun cdv A outer s H vs Q E hr h => ?_)
  obtain ⟨x, y, b, a, rfl, hx, hy, hne, lb, la, q⟩ := h
  have hp : 0 < a.length := List.length_pos_iff.mpr hne
  have la' : (a.map V.int).length = a.length := List.length_map _
  refine ⟨_, (pss_cons (ps_setLc (i := 2) (own := [("many", 5)]) (by rfl) sc_law_rd_least.nd rfl rfl (sw_true rfl rfl rfl (by decide +kernel)) (pi_range2 (by rfl) B.range' (pa_cons pe_int (pa_cons (pe_op op_add (pe_callB (call_lenK K rfl) (by rfl) B.len' PySem.boot_len (pa_cons (pv 1) pa_nil)) pe_int) pa_nil))) (blkOk_by (own := [("many", 5)]) (N := ["before", "around", "sizes", "ahead", "ring", "many"]) (sc := defScope s_law_rd_least) (by decide +kernel)) (fun _ _ _ _ _ => (pg_name (i := 5) sc_law_rd_least.nd rfl (Or.inl rfl))) (fun _ _ _ _ _ => (pts_one (pt_cmpR (op_eqK K rfl hr.units) (pe_op (op_repA K rfl) (pe_slice (sl_tK K rfl) (pv 1) po_none (po_some (pv 5))) (pe_op op_fdivW (pe_callB (call_lenK K rfl) (by rfl) B.len' PySem.boot_len (pa_cons (pv 1) pa_nil)) (pv 5))) (pv 1) (nomark _)))) (fun _ _ _ _ _ => (pv 5)))
      (pss_cons (ps_par (i := 3) (j := 4) (by rfl) sc_law_rd_least.nd rfl rfl (by decide) rfl rfl (pa_cons (pe_callTy (call_lstK K rfl) (by rfl) B.list' (by decide +kernel) (pa_cons (pv 0) pa_nil)) (pa_cons (pe_callTy (call_lstK K rfl) (by rfl) B.list' (by decide +kernel) (pa_cons (pe_slice (sl_tK K rfl) (pv 1) po_none (po_some (pe_ix (ix_lK K rfl) (pv 2) pe_int (fun _ _ => rfl)))) pa_nil)) pa_nil)) (by rfl))
      (pss_cons (ps_while PassesOwn.never (PW.pt (pw_and (pt_cmpR (op_neK K rfl hr.units) (pv 3) (pe_lst pa_nil) (nomark _)) (pw_and1 (pt_cmpR op_eq (pe_ix (ix_lK K rfl) (pv 3) (pe_un un_neg pe_int) (fun _ _ => rfl)) (pe_ix (ix_lK K rfl) (pv 4) (pe_un un_neg pe_int) (fun _ _ => rfl)) (nomark _))))) (pss_cons (ps_set (i := 4) sc_law_rd_least.nd rfl (Or.inl rfl) (pe_op op_cat (pe_lst (pa_cons (pe_ix (ix_lK K rfl) (pv 4) (pe_un un_neg pe_int) (fun _ _ => rfl)) pa_nil)) (pe_slice (sl_lK K rfl) (pv 4) po_none (po_some (pe_un un_neg pe_int)))))
      (pss_one (ps_expr (pe_bm0 PySem.F.plainAttrs_list PySem.F.slot_list_pop PySem.F.type_list_pop mt_pop (pv 3))))))
      (pss_one (ps_ret (pe_tup (pa_cons (pe_callTy (call_tupK K rfl) (by rfl) B.tuple' (by decide +kernel) (pa_cons (pv 3) pa_nil)) (pa_cons (pe_callTy (call_tupK K rfl) (by rfl) B.tuple' (by decide +kernel) (pa_cons (pv 4) pa_nil)) pa_nil)))))))), ?_⟩
  refine ⟨_, rfl, y, _, rfl, .inr hy, _, _, rfl, rfl, 1, _, rfl, by rw [la']; omega, fun D hD => lc_range (lo := 1) (n := (((a.map V.int).length : Int) + 1 - 1).toNat) (fun i H' => Same H H' ∧ H' D = some (.lst ((((List.range i).map (· + 1)).filter (Rd.isRep a)).map fun t => .int ((t : Nat) : Int)))) ⟨same_new hD, upd_same⟩ ?_ ?_⟩
  · rintro i H' hi ⟨s1, eD⟩
    rw [la'] at hi
    have hi' : i + 1 ≤ a.length := by omega
    have e1 : (1 : Int) + (i : Int) = ((i + 1 : Nat) : Int) := by omega
    refine ⟨rfl, ?_⟩
    rw [e1]
    have hdv : ((a.length : Nat) : Int) / ((i + 1 : Nat) : Int) = ((a.length / (i + 1) : Nat) : Int) := by rw [← Int.natCast_ediv]
    have hd1 : 1 ≤ a.length / (i + 1) := (Nat.one_le_div_iff (by omega)).mpr hi'
    have hd2 : a.length / (i + 1) ≤ a.length := Nat.div_le_self _ _
    refine ⟨_, rfl, _, rfl, _, rfl, sl_ok (same_tup s1 hy) fun p2 H2 s2 h2 => ⟨_, rfl, y, _, rfl, .inr (same_tup s2 (same_tup s1 hy)), _, rfl, _, _, rfl, rfl, wide_div (b := 64) (by omega) (by omega) (by decide) (by decide), ?_⟩⟩
    rw [cut_to, map_take] at h2
    show rRepA K (.ref p2) (.int (((a.map V.int).length : Int) / ((i + 1 : Nat) : Int))) H2 _
    rw [la', hdv]
    have htk : (a.take (i + 1)).length = i + 1 := by rw [List.length_take, Nat.min_eq_left hi']
    refine rep_ok h2 (fun z => ?_) (by omega) (by omega) (by rw [List.length_map, htk]; omega) fun p3 H3 s3 h3 => ⟨_, rfl, ?_⟩
    · have := congrArg List.length z
      rw [List.length_map, htk] at this
      cases this
    rw [Int.toNat_natCast, map_rep] at h3
    refine ⟨_, _, dpI h3, dpI (same_tup s3 (same_tup s2 (same_tup s1 hy))), shI _, shI _, _, rfl, ?_⟩
    rw [eqvI]
    have s23 := s2.trans s3
    have lenOk : ((((List.range i).map (· + 1)).filter (Rd.isRep a)).map fun t => V.int ((t : Nat) : Int)).length < 1000000 := by
      rw [List.length_map]
      refine Nat.lt_of_le_of_lt (List.length_filter_le _ _) ?_
      rw [List.length_map, List.length_range]
      omega
    refine ite2 (fun e2 => ?_) (fun e2 => ?_)
    · refine ⟨_, rfl, _, s23 _ _ eD, szl lenOk, fun c o hc => ?_, ?_⟩
      · rw [upd_ne (ne_of_none hc hD)]
        exact s23 _ _ (s1 _ _ hc)
      · have er : Rd.isRep a (i + 1) = true := e2
        rw [upd_same, Rd.sizes_at, if_pos er, List.map_append] <;> rfl
    · have er : ¬ Rd.isRep a (i + 1) = true := e2
      refine ⟨s1.trans s23, ?_⟩
      rw [s23 _ _ eD, Rd.sizes_at, if_neg er, List.append_nil]
  · rintro H1 ⟨s1, eD⟩
    have en : (((a.map V.int).length : Int) + 1 - 1).toNat = a.length := by rw [la']; omega
    rw [en] at eD
    have eD' : H1 D = some (.lst ((Rd.sizes a).map fun t => .int ((t : Nat) : Int))) := eD
    obtain ⟨t1, t2, t3⟩ := Rd.leastS_mem hne
    have htk : (a.take (Rd.leastS a)).length = Rd.leastS a := by rw [List.length_take, Nat.min_eq_left t2]
    -- ahead, ring
    refine ⟨_, rfl, x, _, rfl, .inr (same_tup s1 hx), fun A nA => ⟨_, rfl, _, rfl, D, _, 0, .int (Rd.leastS a), rfl, rfl, sL (same_new nA _ _ eD'), atI_nat (j := 0) (by rw [List.getElem?_map, Rd.sizes_hd hne] <;> rfl), _, rfl, ?_⟩⟩
    have s2 := same_new (o := .lst (b.map V.int)) nA
    refine sl_ok (same_tup s2 (same_tup s1 hy)) fun p3 H3 s3 h3 => ⟨p3, _, rfl, .inr h3, fun R nR => ?_⟩
    rw [cut_to, map_take] at h3
    have s4 := same_new (o := .lst (cutV (a.map V.int) none (some (Rd.leastS a : Int)))) nR
    have hA : H A = none := s1.free nA
    have eA : (upd H1 A (.lst (b.map V.int))) A = some (.lst (b.map V.int)) := upd_same
    have neAR : A ≠ R := ne_of_none (s3 _ _ eA) nR
    refine ⟨_, _, rfl, fun m σ H' => ∃ (b' a' : List Int) (R' : Addr) (z : Option V), σ = [some (.ref x), some (.ref y), some (.ref D), some (.ref A), some (.ref R'), z] ∧ m = b'.length ∧ a' ≠ [] ∧ b'.length ≤ 1000 ∧ a'.length ≤ 1000 ∧ Same H H' ∧ H' A = some (.lst (b'.map V.int)) ∧ H' R' = some (.lst (a'.map V.int)) ∧ A ≠ R' ∧ Rd.rot b' a' = Rd.least b a,
      ⟨_, b, a.take (Rd.leastS a), R, none, rfl, rfl, Rd.take_ne hne, lb, by omega, ((s1.trans s2).trans s3).trans s4, s4 _ _ (s3 _ _ eA), by rw [upd_same, cut_to, map_take], neAR, rfl⟩, ?_⟩
    rintro m σ H5 ⟨b', a', R', z, rfl, rfl, ha', lb', lt', s5, eA5, eR5, neR, hrot⟩
    -- ahead != []
    refine ⟨_, rfl, by show 0 ≤ sizeLine; decide, fun e0 ne0 => ?_⟩
    have s6 := same_new (o := .lst []) ne0
    refine ⟨_, _, dpLi (sL (s6 _ _ eA5)), dpLi (ns := []) (sL upd_same), shLi _, shLi _, _, rfl, ?_⟩
    rw [eqvLi]
    have fin : ∀ H7, Same H5 H7 → ¬ (b' ≠ [] ∧ b'.getLast? = a'.getLast?) → ∀ (u v r : Addr), H7 u = none → (upd H7 u (.tup (b'.map V.int))) v = none → (upd (upd H7 u (.tup (b'.map V.int))) v (.tup (a'.map V.int))) r = none → Q (.ref r) (upd (upd (upd H7 u (.tup (b'.map V.int))) v (.tup (a'.map V.int))) r (.tup [.ref u, .ref v])) := fun H7 s7 hn u v r nu nv nr => by
      rw [Rd.rot_stop hn] at hrot
      have su := same_new (o := .tup (b'.map V.int)) nu
      have sv := same_new (o := .tup (a'.map V.int)) nv
      have sr := same_new (o := .tup [.ref u, .ref v]) nr
      refine q (.ref r) _ ((((s5.trans s7).trans su).trans sv).trans sr) ?_
      rw [← hrot]
      exact ⟨r, u, v, rfl, sT upd_same, same_tup sr (same_tup sv (sT upd_same)), same_tup sr (sT upd_same)⟩
    by_cases hb0 : b' = []
    · rw [decide_eq_true hb0]
      refine iteF (iteF ⟨_, rfl, A, _, rfl, .inl ⟨sL (s6 _ _ eA5), fun u nu => ⟨_, rfl, R', _, rfl, .inl ⟨sL (same_new nu _ _ (s6 _ _ eR5)), fun v nv => ⟨by show 2 ≤ sizeLine; decide, fun r nr => fin _ s6 (fun z => z.1 hb0) u v r nu nv nr⟩⟩⟩⟩⟩)
    · rw [decide_eq_false hb0]
      obtain ⟨c, u, rfl⟩ := Rd.split_last hb0
      obtain ⟨dd, w', rfl⟩ := Rd.split_last ha'
      refine iteT ⟨_, rfl, _, rfl, A, _, _, .int u, rfl, rfl, sL (s6 _ _ eA5), ?_, _, rfl, _, rfl, R', _, _, .int w', rfl, rfl, sL (s6 _ _ eR5), ?_, rfl, _, rfl, ?_⟩
      · rw [List.map_append]
        exact atI_last _ _
      · rw [List.map_append]
        exact atI_last _ _
      by_cases huw : u = w'
      · subst huw
        rw [decide_eq_true rfl]
        refine iteT ⟨fun σ' H' => ∃ (R6 : Addr) (z : Option V), σ' = [some (.ref x), some (.ref y), some (.ref D), some (.ref A), some (.ref R6), z] ∧ Same H H' ∧ H' A = some (.lst (c.map V.int)) ∧ H' R6 = some (.lst ((u :: dd).map V.int)) ∧ A ≠ R6, ?_, ?_⟩
        · rintro σ' H' ⟨R6, z, rfl, s7, h6, h7, n7⟩
          refine ⟨c.length, by rw [List.length_append]; exact Nat.lt_succ_self _, c, u :: dd, R6, z, rfl, rfl, List.cons_ne_nil _ _, by rw [List.length_append] at lb'; omega, ?_, s7, h6, h7, n7, ?_⟩
          · rw [List.length_append] at lt'
            exact lt'
          · rw [← hrot, Rd.rot_go]
        · refine ⟨_, rfl, _, rfl, R', _, _, .int u, rfl, rfl, sL (s6 _ _ eR5), ?_, by show 1 ≤ sizeLine; decide, fun p7 n7 => ?_⟩
          · rw [List.map_append]
            exact atI_last _ _
          have s7 := same_new (o := .lst [.int u]) n7
          refine ⟨_, rfl, _, rfl, _, rfl, R', _, rfl, sL (s7 _ _ (s6 _ _ eR5)), fun p8 n8 => ?_⟩
          have s8 := same_new (o := .lst (cutV ((dd ++ [u]).map V.int) none (some (-1)))) n8
          have e10 : cutV ((dd ++ [u]).map V.int) none (some (-1)) = dd.map V.int := by rw [cut_init, List.map_append]; exact List.dropLast_concat
          refine ⟨p7, p8, _, _, rfl, rfl, s8 _ _ upd_same, upd_same, ?_, fun p9 n9 => ?_⟩
          · have el : (cutV ((dd ++ [u]).map V.int) none (some (-1))).length = dd.length := by rw [e10, List.length_map]
            show 1 + (cutV ((dd ++ [u]).map V.int) none (some (-1))).length ≤ sizeLine
            rw [el]
            rw [List.length_append] at lt'
            exact sz (by have : [u].length = 1 := rfl; omega)
          have s9 := same_new (o := .lst ([V.int u] ++ cutV ((dd ++ [u]).map V.int) none (some (-1)))) n9
          have eA9 := s9 _ _ (s8 _ _ (s7 _ _ (s6 _ _ eA5)))
          have nA9 : A ≠ p9 := ne_of_none (s8 _ _ (s7 _ _ (s6 _ _ eA5))) n9
          refine ⟨_, rfl, .inl ⟨rfl, _, sL eA9⟩, A, _, .int u, rfl, rfl, eA9, ?_, p9, _, rfl, fun cc o hc => ?_, ?_, ?_, nA9⟩
          · rw [List.map_append, List.length_append]
            show (c.map V.int ++ [V.int u])[(c.map V.int).length + 1 - 1]? = _
            rw [Nat.add_sub_cancel, List.getElem?_append_right (Nat.le_refl _), Nat.sub_self] <;> rfl
          · rw [upd_ne (ne_of_none hc hA)]
            exact s9 _ _ (s8 _ _ (s7 _ _ (s6 _ _ (s5 _ _ hc))))
          · rw [upd_same, List.map_append]
            show some (HO.lst ((c.map V.int ++ [V.int u]).dropLast)) = _
            rw [List.dropLast_concat]
          · rw [upd_ne (Ne.symm nA9), upd_same, e10] <;> rfl
      · rw [decide_eq_false (fun z => huw (V.int.inj z))]
        refine iteF ⟨_, rfl, A, _, rfl, .inl ⟨sL (s6 _ _ eA5), fun u' nu => ⟨_, rfl, R', _, rfl, .inl ⟨sL (same_new nu _ _ (s6 _ _ eR5)), fun v nv => ⟨by show 2 ≤ sizeLine; decide, fun r nr => fin _ s6 (fun z => huw (by simpa using z.2)) u' v r nu nv nr⟩⟩⟩⟩⟩
theorem ok_law_rd_letters (B : Blt mg)  {f : Addr} {fd : FuncData} (F : Dn K mg "_law_rd_letters" s_law_rd_letters ["pair", "many"] f fd) : FnOk P w K mg base CX0 1 f fd ["pair", "many"] (sp_law_rd_letters K) := by
  refine F.ok sc_law_rd_letters (fun vs H Q E h => by obtain ⟨v, b, a, n, rfl, _⟩ := h; rfl) (fun cdv A outer s H vs Q E hr h => ?_)
  obtain ⟨v, b, a, n, rfl, ⟨p, x, y, rfl, hT, hx, hy⟩, hne, lb, la, hn, q⟩ := h
  have hp : 0 < a.length := List.length_pos_iff.mpr hne
  refine ⟨_, (pss_cons (ps_set (i := 2) sc_law_rd_letters.nd rfl (Or.inl rfl) (pe_ix (ix_tK K rfl) (pv 0) pe_int (fun _ _ => rfl)))
      (pss_cons (ps_while PassesOwn.never (pt_cmpR op_lt (pe_callB (call_lenK K rfl) (by rfl) B.len' PySem.boot_len (pa_cons (pv 2) pa_nil)) (pv 1) (nomark _)) (pss_one (ps_set (i := 2) sc_law_rd_letters.nd rfl (Or.inl rfl) (pe_op (op_catK K rfl) (pv 2) (pe_ix (ix_tK K rfl) (pv 0) pe_int (fun _ _ => rfl))))))
      (pss_one (ps_ret (pe_slice (sl_tK K rfl) (pv 2) po_none (po_some (pv 1))))))), ?_⟩
  refine ⟨_, rfl, p, _, _, .ref x, rfl, rfl, hT, rfl, fun m σ H' => ∃ (r : Addr) (j : Nat), σ = [some (.ref p), some (.int n), some (.ref r)] ∧ m = n - (b ++ Rd.rep j a).length ∧ (b ++ Rd.rep j a).length ≤ 10000 ∧ Same H H' ∧ SqT K H' r ((b ++ Rd.rep j a).map V.int), ⟨_, x, 0, rfl, rfl, ?_, Same.refl H, ?_⟩, ?_⟩
  · show (b ++ []).length ≤ 10000
    rw [List.append_nil]
    omega
  · show SqT K H x ((b ++ []).map V.int)
    rw [List.append_nil]
    exact hx
  rintro m σ H1 ⟨r, j, rfl, rfl, hl, s1, hr1⟩
  refine ⟨_, rfl, r, _, rfl, .inr hr1, _, rfl, _, _, rfl, rfl, _, rfl, ?_⟩
  rw [List.length_map]
  refine ite2 (fun e => ?_) (fun e => ?_)
  · have hlt : (b ++ Rd.rep j a).length < n := by
      have := of_decide_eq_true e
      omega
    refine ⟨fun σ' H' => ∃ r' : Addr, σ' = [some (.ref p), some (.int n), some (.ref r')] ∧ Same H1 H' ∧ SqT K H' r' ((b ++ Rd.rep (j + 1) a).map V.int), ?_, ?_⟩
    · rintro σ' H' ⟨r', rfl, s2, h2⟩
      have e1 : (b ++ Rd.rep (j + 1) a).length = (b ++ Rd.rep j a).length + a.length := by
        rw [Rd.rep_succ, ← List.append_assoc, List.length_append]
      exact ⟨_, by omega, r', j + 1, rfl, rfl, by omega, s1.trans s2, h2⟩
    · refine ⟨_, rfl, _, rfl, p, _, _, .ref y, rfl, rfl, same_tup s1 hT, rfl, cat_ok hr1 (same_tup s1 hy) (by rw [List.length_map, List.length_map]; omega) fun r' H2 s2 h2 => ⟨r', rfl, s2, ?_⟩⟩
      rw [Rd.rep_succ, ← List.append_assoc, List.map_append]
      exact h2
  · have hge : n ≤ (b ++ Rd.rep j a).length := by
      have e' : ¬ (((b ++ Rd.rep j a).length : Nat) : Int) < (n : Int) := fun z => e (decide_eq_true z)
      omega
    refine ⟨_, rfl, _, rfl, _, rfl, sl_ok hr1 fun t H2 s2 h2 => q t H2 (s1.trans s2) ?_⟩
    rw [cut_to, map_take, firstL_of hge] at h2
    exact h2
theorem ok_law_rd_drawn (B : Blt mg) (c_law_word : Cl CX0 P w K mg base 2 "_law_word" (sp_law_word K) []) (c_law_roll : Cl CX0 P w K mg base 1 "_law_roll" sp_law_roll [])  {f : Addr} {fd : FuncData} (F : Dn K mg "_law_rd_drawn" s_law_rd_drawn ["dice", "width", "most"] f fd) : FnOk P w K mg base CX0 3 f fd ["dice", "width", "most"] (sp_law_rd_drawn K) := by
  refine F.ok sc_law_rd_drawn (fun vs H Q E h => by obtain ⟨d, k, m, n, rfl, _⟩ := h; rfl) (fun cdv A outer s H vs Q E hr h => ?_)
  obtain ⟨d, k, m, n, rfl, D0, hn, m1, m2, k0, k1, q⟩ := h
  refine ⟨_, (pss_one (ps_ret (pe_tup (pa_cons (pe_c c_law_word hr (by decide) (by rfl) (pa_cons (pv 0) (pa_cons (pv 1) (pa_cons (pv 2) pa_nil)))) (pa_cons (pe_op (op_catK K rfl) (pe_tup (pa_cons (pe_c c_law_roll hr (by decide) (by rfl) (pa_cons (pv 0) (pa_cons (pv 1) pa_nil))) pa_nil)) (pe_c c_law_word hr (by decide) (by rfl) (pa_cons (pv 0) (pa_cons (pv 1) (pa_cons (pe_op op_sub (pv 2) pe_int) pa_nil))))) pa_nil))))), ?_⟩
  refine ⟨_, rfl, _, rfl, _, rfl, d, k, m, n, rfl, D0, by omega, by omega, k0, k1, fun x b H1 kd1 D1 hx wb lb => ⟨_, rfl, _, rfl, d, k, _, rfl, D1, by omega, k0, by omega, fun v H2 v0 v1 kd2 D2 => ⟨by show 1 ≤ sizeLine; decide, fun t nt => ?_⟩⟩⟩
  have st := same_new (o := .tup [.int v]) nt
  refine ⟨_, rfl, _, rfl, _, rfl, _, _, rfl, rfl, d, k, m - 1, _, ?_, D2.same st, by omega, by omega, k0, k1, fun y a H3 kd3 D3 hy wa la => ?_⟩
  · have e : (m : Int) - 1 = ((m - 1 : Nat) : Int) := by omega
    show [V.ref d, V.int k, V.int ((m : Int) - 1)] ++ [] = _
    rw [e] <;> rfl
  refine cat_ok (kd3.tup (sT upd_same)) hy ?_ fun z H4 s4 hz => ⟨by show 2 ≤ sizeLine; decide, fun p np => ?_⟩
  · rw [List.length_map]
    show 1 + a.length ≤ 1000000
    omega
  have sp := same_new (o := .tup [.ref x, .ref z]) np
  have kall := ((((kd1.trans kd2).trans (Kd.same st)).trans kd3).trans (Kd.same s4)).trans (Kd.same sp)
  refine q (.ref p) b (v :: a) _ kall (((D3.same s4).same sp).more (by omega)) ⟨p, x, z, rfl, sT upd_same, same_tup sp (same_tup s4 (kd3.tup (same_tup st (kd2.tup hx)))), same_tup sp hz⟩ wb (fun u hu => ?_) (List.cons_ne_nil _ _) lb (by show a.length + 1 ≤ m; omega)
  rcases List.mem_cons.mp hu with rfl | hu
  · exact ⟨v0, v1⟩
  · exact wa u hu
theorem ok_law_wider (B : Blt mg) (c_law_roll : Cl CX0 P w K mg base 1 "_law_roll" sp_law_roll [])  {f : Addr} {fd : FuncData} (F : Dn K mg "_law_wider" s_law_wider ["dice", "pair"] f fd) : FnOk P w K mg base CX0 2 f fd ["dice", "pair"] (sp_law_wider K) := by
  refine F.ok sc_law_wider (fun vs H Q E h => by obtain ⟨d, v, k, b, a, n, rfl, _⟩ := h; rfl) (fun cdv A outer s H vs Q E hr h => ?_)
  obtain ⟨d, v, k, b, a, n, rfl, D0, hn, ⟨p, x, y, rfl, hT, hx, hy⟩, wb, wa, hne, lb, la, q⟩ := h
  refine ⟨_, (pss_cons (ps_asg (pv 1) (pg_tup (by rfl) (pgs_cons (pg_name (i := 2) sc_law_wider.nd rfl (Or.inl rfl)) (pgs_cons (pg_name (i := 3) sc_law_wider.nd rfl (Or.inl rfl)) pgs_nil))))
      (pss_cons (ps_for PassesOwn.never rfl (pi_range1 (by rfl) B.range' (pa_cons (pe_c c_law_roll hr (by decide) (by rfl) (pa_cons (pv 0) (pa_cons pe_int pa_nil))) pa_nil)) (pg_name (i := 4) sc_law_wider.nd rfl (Or.inl rfl)) (pss_one (ps_par (i := 2) (j := 3) (by rfl) sc_law_wider.nd rfl rfl (by decide) rfl rfl (pa_cons (pe_op (op_catK K rfl) (pv 2) (pe_slice (sl_tK K rfl) (pv 3) po_none (po_some pe_int))) (pa_cons (pe_op (op_catK K rfl) (pe_slice (sl_tK K rfl) (pv 3) (po_some pe_int) po_none) (pe_slice (sl_tK K rfl) (pv 3) po_none (po_some pe_int))) pa_nil)) (by rfl))))
      (pss_one (ps_ret (pe_tup (pa_cons (pv 2) (pa_cons (pe_op (op_repA K rfl) (pv 3) (pe_op op_add pe_int (pe_c c_law_roll hr (by decide) (by rfl) (pa_cons (pv 0) (pa_cons pe_int pa_nil))))) pa_nil))))))), ?_⟩
  refine ⟨_, rfl, p, _, rfl, hT, rfl, _, _, rfl, _, _, rfl, rfl, _, rfl, d, 4, n, rfl, D0, by omega, by decide, by decide, fun j H1 j0 j1 k1 D1 => ?_⟩
  obtain ⟨j, rfl⟩ : ∃ i : Nat, j = i := ⟨j.toNat, by omega⟩
  refine ⟨j, rfl, by omega, by omega, for_range (lo := 0) (n := j) (fun i σ H' => ∃ (x' y' : Addr) (b' a' : List Int) (z : Option V), σ = [some (.ref d), some (.ref p), some (.ref x'), some (.ref y'), z] ∧ Same H1 H' ∧ SqT K H' x' (b'.map V.int) ∧ SqT K H' y' (a'.map V.int) ∧ inW k b' ∧ inW k a' ∧ a' ≠ [] ∧ b'.length = b.length + i ∧ a'.length = a.length ∧ ∀ i, Rd.ltr b' a' i = Rd.ltr b a i)
    ⟨x, y, b, a, none, rfl, Same.refl _, k1.tup hx, k1.tup hy, wb, wa, hne, rfl, rfl, fun _ => rfl⟩ ?_ ?_⟩
  · rintro i σ H2 hi ⟨x', y', b', a', z, rfl, s2, hx2, hy2, wb2, wa2, hne2, lb2, la2, hl2⟩
    obtain ⟨u, c, rfl⟩ : ∃ u c, a' = u :: c := by
      cases a' with
      | nil => exact absurd rfl hne2
      | cons u c => exact ⟨u, c, rfl⟩
    refine ⟨_, rfl, _, rfl, 1, rfl, sl_ok hy2 fun p3 H3 s3 h3 => cat_ok (same_tup s3 hx2) h3 ?_ fun x4 H4 s4 h4 => ⟨_, rfl, 1, rfl, sl_okF (same_tup s4 (same_tup s3 hy2)) fun p5 H5 s5 h5 => ⟨_, rfl, 1, rfl, sl_ok (same_tup s5 (same_tup s4 (same_tup s3 hy2))) fun p6 H6 s6 h6 => cat_ok (same_tup s6 h5) h6 ?_ fun y7 H7 s7 h7 => ⟨_, _, rfl, x4, y7, b' ++ [u], c ++ [u], _, rfl, ((((s2.trans s3).trans s4).trans s5).trans s6).trans s7, ?_, ?_, ?_, ?_, by simp, ?_, ?_, ?_⟩⟩⟩⟩
    · rw [cut_to1, List.length_map, List.length_take, List.length_map]
      omega
    · rw [cut_to1, cut_from1, List.length_take, List.length_drop, List.length_map]
      omega
    · rw [cut_to1] at h4
      have : SqT K H4 x4 (b'.map V.int ++ [V.int u]) := h4
      rw [List.map_append]
      exact same_tup s7 (same_tup s6 (same_tup s5 this))
    · rw [cut_to1, cut_from1] at h7
      have : SqT K H7 y7 (c.map V.int ++ [V.int u]) := h7
      rw [List.map_append]
      exact this
    · intro w hw
      rcases List.mem_append.mp hw with hw | hw
      · exact wb2 w hw
      · rw [List.mem_singleton.mp hw]
        exact wa2 u List.mem_cons_self
    · intro w hw
      rcases List.mem_append.mp hw with hw | hw
      · exact wa2 w (List.mem_cons_of_mem _ hw)
      · rw [List.mem_singleton.mp hw]
        exact wa2 u List.mem_cons_self
    · rw [List.length_append, lb2] <;> rfl
    · rw [List.length_append, ← la2] <;> rfl
    · intro w
      rw [Rd.ltr_rot]
      exact hl2 w
  · rintro σ H2 ⟨x', y', b', a', z, rfl, s2, hx2, hy2, wb2, wa2, hne2, lb2, la2, hl2⟩
    refine ⟨_, rfl, _, rfl, _, rfl, d, 3, _, rfl, D1.same s2, by omega, by decide, by decide, fun r H3 r0 r1 k3 D3 => ⟨_, _, rfl, rfl, rep_ok (k3.tup hy2) (fun z => hne2 (List.map_eq_nil_iff.mp z)) (by omega) (by omega) (by rw [List.length_map]; omega) fun y4 H4 s4 h4 => ⟨by show 2 ≤ sizeLine; decide, fun p5 n5 => ?_⟩⟩⟩
    have s5 := same_new (o := .tup [.ref x', .ref y4]) n5
    have hr : 1 ≤ (1 + r).toNat := by omega
    rw [map_rep] at h4
    refine q (.ref p5) b' (Rd.rep (1 + r).toNat a') _ (((k1.trans (Kd.same s2)).trans k3).trans (Kd.same (s4.trans s5))) (((D3.same s4).same s5).more (by omega)) ⟨p5, x', y4, rfl, sT upd_same, same_tup s5 (same_tup s4 (k3.tup hx2)), same_tup s5 h4⟩ wb2 ?_ (Rd.rep_ne hne2 hr) (by omega) ?_ (fun i => ?_)
    · intro w hw
      unfold Rd.rep at hw
      obtain ⟨l, hl, hw'⟩ := List.mem_flatten.mp hw
      rw [(List.mem_replicate.mp hl).2] at hw'
      exact wa2 w hw'
    · rw [Rd.rep_len, la2]
      exact Nat.mul_le_mul_right _ (by omega)
    · rw [Rd.ltr_rep hne2 hr]
      exact hl2 i
end
end Br

namespace Br
open PySem PySem.Spec PyProof.Rows L2
local macro_rules | `(tactic| walk_at "up") => `(tactic| first | assumption | exact sT (by assumption) | exact sL (by assumption) | (with_reducible refine same_tup (by assumption) ?_; walk_at "up") | (with_reducible refine Kd.tup (by assumption) ?_; walk_at "up") | (with_reducible refine same_lst (by assumption) ?_; walk_at "up") | (with_reducible refine same_at (by assumption) ?_; walk_at "up"))
local macro_rules | `(tactic| walk_at "sm") => `(tactic| first | exact Same.refl _ | assumption | (refine Same.trans ?_ (by assumption); walk_at "sm"))
local macro_rules | `(tactic| walk_at "kd") => `(tactic| first | exact Kd.refl | assumption | exact Kd.same (by assumption) | (with_reducible refine Kd.trans ?_ (by assumption); walk_at "kd") | (with_reducible refine Kd.trans ?_ (Kd.same (by assumption)); walk_at "kd"))
section
variable {P : Program} {w : World} {K : PySem.W.Frag} {mg : Str → Option Value} {base : Heap}
theorem kn_at {H H' : Hp} {d : Addr} (k : Kd d H H') {v : V} (h : NoT H v) (n : ∀ a, v = .ref a → a ≠ d) : NoT H' v := h.keep fun a o e ho => k a o ho fun z => ((n a e) z).elim
/-- what is no round word -/
def OddR (K : PySem.W.Frag) (H : Hp) (k : Int) (v : V) : Prop := NoT H v ∨ (∃ (a : Addr) (xs : List V), v = .ref a ∧ SqT K H a xs ∧ xs.length ≠ 2) ∨
  ∃ (a : Addr) (x y : V) (bx b2 : Bool) (dy : PyData), v = .ref a ∧ SqT K H a [x, y] ∧ Wv K H k (.int 60) x bx ∧ Wv K H k (.int 60) y b2 ∧ Dp K H y dy ∧ SeqAt.shaped dy = true ∧ (!PyData.eqv dy (dI []) && (bx && b2)) = false
def sp_law_odd (K : PySem.W.Frag) : Sp := fun vs H Q _ => ∃ (d : Addr) (k : Int) (v : V) (b a : List Int) (n : Nat), vs = [.ref d, .int k, v] ∧ Dice H d n ∧ n < 2 ^ 58 ∧ 2 ≤ k ∧ k ≤ 5 ∧ PairT K H v b a ∧ inW k b ∧ inW k a ∧ a ≠ [] ∧ b.length ≤ 40 ∧ a.length ≤ 40 ∧
  ∀ v' H', Kd d H H' → Dice H' d (n + 1) → OddR K H' k v' → Q v' H'
def sp_law_right : Sp := fun vs H Q _ => ∃ (d : Addr) (n : Nat), vs = [.ref d] ∧ Dice H d n ∧ n < 2 ^ 57 ∧ ∀ H', Kd d H H' → Dice H' d (n + 1000) → Q (.bl true) H'
theorem rot_in {k : Int} : ∀ (m : Nat) (b a : List Int), b.length = m → a ≠ [] → inW k b → inW k a → inW k (Rd.rot b a).1 ∧ inW k (Rd.rot b a).2 := by
  intro m
  induction m with
  | zero =>
    intro b a h _ hb ha
    have : b = [] := List.eq_nil_of_length_eq_zero h
    subst this
    rw [Rd.rot_stop (fun z => z.1 rfl)]
    exact ⟨hb, ha⟩
  | succ m ih =>
    intro b a h hne hb ha
    by_cases hc : b ≠ [] ∧ b.getLast? = a.getLast?
    · obtain ⟨c, x, rfl⟩ := Rd.split_last hc.1
      obtain ⟨d, y, rfl⟩ := Rd.split_last hne
      have exy : x = y := by simpa using hc.2
      subst exy
      rw [Rd.rot_go]
      refine ih c (x :: d) (by simpa using h) (List.cons_ne_nil _ _) (fun z hz => hb z (List.mem_append_left _ hz)) fun z hz => ?_
      rcases List.mem_cons.mp hz with rfl | hz
      · exact hb z (List.mem_append_right _ List.mem_cons_self)
      · exact ha z (List.mem_append_left _ hz)
    · rw [Rd.rot_stop hc]
      exact ⟨hb, ha⟩
theorem least_in {k : Int} {b a : List Int} (hb : inW k b) (ha : inW k a) (hne : a ≠ []) : inW k (Rd.least b a).1 ∧ inW k (Rd.least b a).2 := rot_in _ b _ rfl (Rd.take_ne hne) hb (inW_take ha _)
theorem least900 : Rd.least ([] : List Int) (List.replicate 900 1) = ([], [1]) := by
  have h : Rd.leastS (List.replicate 900 (1 : Int)) = 1 := by
    refine Rd.leastS_eq (by decide) (by rw [List.length_replicate]; decide) ?_ fun u u1 u2 => by omega
    refine Rd.isRep_of (by decide) (by rw [List.length_replicate]; decide) (by rw [List.length_replicate]) fun i hi => ?_
    rw [List.length_replicate] at hi
    rw [Nat.mod_one, List.getElem?_replicate, List.getElem?_replicate, if_pos hi, if_pos (by decide)]
  unfold Rd.least
  rw [h, Rd.rot_stop (fun z => z.1 rfl)] <;> rfl
theorem word60 {H : Hp} {k : Int} {a : Addr} {ns : List Int} (h : SqT K H a (ns.map V.int)) (hl : ns.length ≤ 60) (hw : inW k ns) : Wv K H k (.int 60) (.ref a) true :=
  wv_word h (by omega) hw (by show (!decide ((60 : Int) < (ns.length : Int))) = true; rw [decide_eq_false (by omega)] <;> rfl)
/-- a word with one wrong letter behind -/
theorem bad_cat {H : Hp} {k i : Int} {a : Addr} {ns : List Int} (h : SqT K H a (ns.map V.int ++ [.int i])) (hl : ns.length ≤ 1000) (e : wn 0 (k - 1) (.int i) = false) : Wv K H k (.int 60) (.ref a) false :=
  .inr ⟨a, _, rfl, h, by rw [List.length_append, List.length_map]; show _ + 1 < _; omega, fun y hy => by
    rcases List.mem_append.mp hy with hy | hy
    · exact ints_kn y hy
    · rw [List.mem_singleton.mp hy]
      exact .int i, by rw [List.all_append, List.all_cons, e, Bool.false_and, Bool.and_false, Bool.and_false]⟩
theorem bad_one {H : Hp} {k : Int} {a : Addr} {x : V} (h : SqT K H a [x]) (kn : Kn K H x) (e : wn 0 (k - 1) x = false) : Wv K H k (.int 60) (.ref a) false :=
  .inr ⟨a, [x], rfl, h, by show 1 < 1000000; decide, fun y hy => by rw [List.mem_singleton.mp hy]; exact kn, by rw [List.all_cons, e, Bool.false_and, Bool.and_false]⟩
theorem rep61 : (List.replicate (61 : Int).toNat [V.int 0]).flatten = (List.replicate 61 (0 : Int)).map V.int := by decide
theorem bad_long {H : Hp} {k : Int} {a : Addr} (h : SqT K H a (List.replicate (61 : Int).toNat [V.int 0]).flatten) : Wv K H k (.int 60) (.ref a) false := by
  rw [rep61] at h
  refine .inr ⟨a, _, rfl, h, by decide, ints_kn, ?_⟩
  have : mostOk (.int 60) ((List.replicate 61 (0 : Int)).map V.int).length = false := by decide
  rw [this, Bool.false_and]
theorem ok_law_odd (B : Blt mg) (c_law_pick : Cl CX0 P w K mg base 2 "_law_pick" (sp_law_pick K) [])  {f : Addr} {fd : FuncData} (F : Dn K mg "_law_odd" s_law_odd ["dice", "width", "pair"] f fd) : FnOk P w K mg base CX0 3 f fd ["dice", "width", "pair"] (sp_law_odd K) := by
  refine F.ok sc_law_odd (fun vs H Q E h => by obtain ⟨d, k, v, b, a, n, rfl, _⟩ := h; rfl) (fun cdv A outer s H vs Q E hr h => ?_)
  obtain ⟨d, k, v, b, a, n, rfl, D0, hn, k2, k5, ⟨p, x, y, rfl, hT, hx, hy⟩, wb, wa, hne, lb, la, q⟩ := h
  have mb : (b.map V.int).length ≤ 40 := by rw [List.length_map]; exact lb
  have ma : (a.map V.int).length ≤ 40 := by rw [List.length_map]; exact la
  refine ⟨_, (pss_cons (ps_asg (pv 2) (pg_tup (by rfl) (pgs_cons (pg_name (i := 3) sc_law_odd.nd rfl (Or.inl rfl)) (pgs_cons (pg_name (i := 4) sc_law_odd.nd rfl (Or.inl rfl)) pgs_nil))))
      (pss_cons (ps_set (i := 5) sc_law_odd.nd rfl (Or.inl rfl) (pe_lstS (pa_cons (pe_tupS (pa_cons (pv 3) pa_nil)) (pa_cons (pe_tupS (pa_cons (pv 3) (pa_cons (pe_tupS pa_nil) pa_nil))) (pa_cons (pe_lstS (pa_cons (pv 3) (pa_cons (pv 4) pa_nil))) (pa_cons (pe_tupS (pa_cons (pv 3) (pa_cons (pv 4) (pa_cons (pe_tupS pa_nil) pa_nil)))) (pa_cons pe_non (pa_cons pe_str (pa_cons (pe_tupS (pa_cons (pv 3) (pa_cons (pe_callTy (call_lstS K rfl) (by rfl) B.list' (by decide +kernel) (pa_cons (pv 4) pa_nil)) pa_nil))) (pa_cons pe_dnewS (pa_cons pe_int pa_nil)))))))))))
      (pss_cons (ps_set (i := 5) sc_law_odd.nd rfl (Or.inl rfl) (pe_op op_catS (pv 5) (pe_lstS (pa_cons (pe_tupS (pa_cons (pe_op (op_catTS K rfl) (pv 3) (pe_tupS (pa_cons (pv 1) pa_nil))) (pa_cons (pv 4) pa_nil))) (pa_cons (pe_tupS (pa_cons (pv 3) (pa_cons (pe_op (op_catTS K rfl) (pv 4) (pe_tupS (pa_cons (pe_un un_neg pe_int) pa_nil))) pa_nil))) (pa_cons (pe_tupS (pa_cons (pe_op (op_repTS K rfl) (pe_tupS (pa_cons pe_int pa_nil)) pe_int) (pa_cons (pv 4) pa_nil))) (pa_cons (pe_tupS (pa_cons (pv 3) (pa_cons (pe_op (op_repTS K rfl) (pe_tupS (pa_cons pe_int pa_nil)) pe_int) pa_nil))) pa_nil)))))))
      (pss_one (ps_ret (pe_c c_law_pick hr (by decide) (by rfl) (pa_cons (pv 0) (pa_cons (pe_op op_catS (pv 5) (pe_lstS (pa_cons (pe_tupS (pa_cons (pv 3) (pa_cons (pe_tupS (pa_cons pe_bl pa_nil)) pa_nil))) (pa_cons (pe_tupS (pa_cons (pe_tupS (pa_cons pe_non pa_nil)) (pa_cons (pv 4) pa_nil))) pa_nil)))) pa_nil)))))))), ?_⟩
  -- before, around = pair; the first nine
  refine ⟨_, rfl, p, _, rfl, hT, rfl, _, _, rfl, _, _, rfl, rfl, ?_⟩
  refine ⟨_, rfl, by show 1 ≤ 1000000; decide, fun t0 H1 n1 s1 e1 => ⟨_, rfl, by show 0 ≤ 1000000; decide, fun u1 H2 n2 s2 e2 => ⟨by show 2 ≤ 1000000; decide, fun t1 H3 n3 s3 e3 => ⟨_, rfl, _, rfl, by show 2 ≤ 1000000; decide, fun l2 H4 n4 s4 e4 =>
    ⟨_, rfl, _, rfl, by show 0 ≤ 1000000; decide, fun u3 H5 n5 s5 e5 => ⟨by show 3 ≤ 1000000; decide, fun t3 H6 n6 s6 e6 => ⟨_, rfl, _, rfl, y, _, rfl, .inr (by walk_at "up"), fun l6 H7 n7 s7 e7 => ⟨by show 2 ≤ 1000000; decide, fun t6 H8 n8 s8 e8 => fun d7 H9 n9 s9 e9 => ⟨by show 9 ≤ 1000000; decide, fun L1 HA nA sA eA => ?_⟩⟩⟩⟩⟩⟩⟩⟩⟩
  -- the next four
  refine ⟨_, rfl, _, rfl, _, rfl, by show 1 ≤ 1000000; decide, fun u9 HB nB sB eB => ⟨x, u9, _, _, rfl, rfl, by walk_at "up", by walk_at "up", by show _ + 1 ≤ _; omega, fun c9 HC sC hC => ⟨_, rfl, by show 2 ≤ 1000000; decide, fun t9 HD nD sD eD => ?_⟩⟩⟩
  refine ⟨_, rfl, _, rfl, 1, rfl, by show 1 ≤ 1000000; decide, fun u10 HE nE sE eE => ⟨y, u10, _, _, rfl, rfl, by walk_at "up", by walk_at "up", by show _ + 1 ≤ _; omega, fun c10 HF sF hF => ⟨by show 2 ≤ 1000000; decide, fun t10 HG nG sG eG => ?_⟩⟩⟩
  refine ⟨by show 1 ≤ 1000000; decide, fun u11 HI nI sI eI => ⟨u11, 61, _, rfl, rfl, sT eI, by simp, by decide, by decide, by decide, fun c11 HJ sJ hJ => ⟨_, rfl, by show 2 ≤ 1000000; decide, fun t11 HK nK sK eK => ?_⟩⟩⟩
  refine ⟨_, rfl, by show 1 ≤ 1000000; decide, fun u12 HL nL sL' eL => ⟨u12, 61, _, rfl, rfl, sT eL, by simp, by decide, by decide, by decide, fun c12 HM sM hM => ⟨by show 2 ≤ 1000000; decide, fun t12 HN nN sN eN => ⟨by show 4 ≤ 1000000; decide, fun L2' HO' nO sO eO => ?_⟩⟩⟩⟩
  have cAO : Same HA HO' := by walk_at "sm"
  refine ⟨L1, L2', _, _, rfl, rfl, cAO _ _ eA, eO, by show 9 + 4 ≤ 1000000; decide, fun L3 HP nP sP eP => ?_⟩
  -- the last two
  refine ⟨_, rfl, _, rfl, _, rfl, by show 1 ≤ 1000000; decide, fun u13 HQ nQ sQ eQ => ⟨by show 2 ≤ 1000000; decide, fun t13 HR nR sR eR => ⟨by show 1 ≤ 1000000; decide, fun u14 HS nS sS eS => ⟨_, rfl, by show 2 ≤ 1000000; decide, fun t14 HT nT sT' eT => ⟨by show 2 ≤ 1000000; decide, fun L4 HU nU sU eU => ?_⟩⟩⟩⟩⟩
  have cPU : Same HP HU := by walk_at "sm"
  refine ⟨L3, L4, _, _, rfl, rfl, cPU _ _ eP, eU, by show 13 + 2 ≤ 1000000; decide, fun L5 HV nV sV eV => ?_⟩
  clear cAO cPU
  obtain ⟨c1, c2, c3, c4, c5, c6, c7, c8, c9, c0, cC, cD, cF, cG, cJ, cK, cM, cN, cQ, cR, cS, cT, f3, f6, f8, fU⟩ : Same H1 HV ∧ Same H2 HV ∧ Same H3 HV ∧ Same H4 HV ∧ Same H5 HV ∧ Same H6 HV ∧ Same H7 HV ∧ Same H8 HV ∧ Same H9 HV ∧ Same H HV ∧ Same HC HV ∧ Same HD HV ∧ Same HF HV ∧ Same HG HV ∧ Same HJ HV ∧ Same HK HV ∧ Same HM HV ∧ Same HN HV ∧ Same HQ HV ∧ Same HR HV ∧ Same HS HV ∧ Same HT HV ∧ Same H H3 ∧ Same H H6 ∧ Same H H8 ∧ Same H HU := ⟨by walk_at "sm", by walk_at "sm", by walk_at "sm", by walk_at "sm", by walk_at "sm", by walk_at "sm", by walk_at "sm", by walk_at "sm", by walk_at "sm", by walk_at "sm", by walk_at "sm", by walk_at "sm", by walk_at "sm", by walk_at "sm", by walk_at "sm", by walk_at "sm", by walk_at "sm", by walk_at "sm", by walk_at "sm", by walk_at "sm", by walk_at "sm", by walk_at "sm", by walk_at "sm", by walk_at "sm", by walk_at "sm", by walk_at "sm"⟩
  have DV := D0.same c0
  have nd : L5 ≠ d := (D0.same fU).ne nV
  refine ⟨d, L5, _, n, rfl, DV, by omega, sL eV, nd, by show 0 < 15; decide, by show 15 < 1000000; decide, fun i v' H' hi kd D1 => ?_⟩
  refine q v' H' ((Kd.same c0).trans kd) D1 ?_
  have KT : ∀ {a : Addr} {xs : List V}, SqT K HV a xs → SqT K H' a xs := fun h => kd.tup h
  have hxV := KT (same_tup c0 hx)
  have hyV := KT (same_tup c0 hy)
  have dn : ∀ {a : Addr} {Hz : Hp}, Same H Hz → Hz a = none → a ≠ d := fun s h => (D0.same s).ne h
  have NL : ∀ {a : Addr} {o : HO} {Hz : Hp}, Same H Hz → Hz a = none → HV a = some o → H' a = some o := fun s h e => kd _ _ e fun z => (dn s h z).elim
  have wx : Wv K H' k (.int 60) (.ref x) true := word60 hxV (by omega) wb
  have wy : Wv K H' k (.int 60) (.ref y) true := word60 hyV (by omega) wa
  have hi' : ([.ref t0, .ref t1, .ref l2, .ref t3, .non, .str "01", .ref t6, .ref d7, .int 0, .ref t9, .ref t10, .ref t11, .ref t12, .ref t13, .ref t14] : List V)[i]? = some v' := hi
  match i, hi' with
  | 0, h => cases h; exact .inr (.inl ⟨t0, _, rfl, KT (same_tup c1 (sT e1)), by show 1 ≠ 2; decide⟩)
  | 1, h => cases h; exact .inr (.inr ⟨t1, _, _, true, true, dI [], rfl, KT (same_tup c3 (sT e3)), wx, word60 (ns := []) (KT (same_tup c2 (sT e2))) (by decide) (fun _ h => by cases h), dpI (ns := []) (KT (same_tup c2 (sT e2))), shI _, by rw [eqvI]; rfl⟩)
  | 2, h => cases h; exact .inl (.lst (NL f3 n4 (c4 _ _ e4)))
  | 3, h => cases h; exact .inr (.inl ⟨t3, _, rfl, KT (same_tup c6 (sT e6)), by show 3 ≠ 2; decide⟩)
  | 4, h => cases h; exact .inl .non
  | 5, h => cases h; exact .inl (.str _)
  | 6, h =>
    cases h
    have hl := NL f6 n7 (c7 _ _ e7)
    exact .inr (.inr ⟨t6, _, _, true, false, dLi a, rfl, KT (same_tup c8 (sT e8)), wx, .inl ⟨.lst hl, rfl⟩, dpLi (sL hl), shLi _, by rw [Bool.and_false, Bool.and_false]⟩)
  | 7, h => cases h; exact .inl (.dK (NL f8 n9 (c9 _ _ e9)))
  | 8, h => cases h; exact .inl (.int 0)
  | 9, h => cases h; exact .inr (.inr ⟨t9, _, _, false, true, dI a, rfl, KT (same_tup cD (sT eD)), bad_cat (KT (same_tup cC hC)) (by omega) wn_big, wy, dpI hyV, shI _, by rw [Bool.false_and, Bool.and_false]⟩)
  | 10, h =>
    cases h
    have hc := KT (same_tup cF hF)
    have hc' : SqT K H' c10 ((a ++ [-1]).map V.int) := by rw [List.map_append]; exact hc
    exact .inr (.inr ⟨t10, _, _, true, false, dI (a ++ [-1]), rfl, KT (same_tup cG (sT eG)), wx, bad_cat hc (by omega) rfl, dpI hc', shI _, by rw [Bool.and_false, Bool.and_false]⟩)
  | 11, h => cases h; exact .inr (.inr ⟨t11, _, _, false, true, dI a, rfl, KT (same_tup cK (sT eK)), bad_long (KT (same_tup cJ hJ)), wy, dpI hyV, shI _, by rw [Bool.false_and, Bool.and_false]⟩)
  | 12, h =>
    cases h
    have hc := KT (same_tup cM hM)
    have hc' := hc
    rw [rep61] at hc'
    exact .inr (.inr ⟨t12, _, _, true, false, _, rfl, KT (same_tup cN (sT eN)), wx, bad_long hc, dpI hc', shI _, by rw [Bool.and_false, Bool.and_false]⟩)
  | 13, h =>
    cases h
    have hu := KT (same_tup cQ (sT eQ))
    exact .inr (.inr ⟨t13, _, _, true, false, .tuple [.bool true], rfl, KT (same_tup cR (sT eR)), wx, bad_one hu (.bl _) rfl, .tup hu (.cons (.bl _) .nil), by decide +kernel, by rw [Bool.and_false, Bool.and_false]⟩)
  | 14, h => cases h; exact .inr (.inr ⟨t14, _, _, false, true, dI a, rfl, KT (same_tup cT (sT eT)), bad_one (KT (same_tup cS (sT eS))) .non rfl, wy, dpI hyV, shI _, by rw [Bool.false_and, Bool.and_false]⟩)
  | i + 15, h => cases h
end
end Br

namespace Br
open PySem PySem.Spec PyProof.Rows L2
local macro_rules | `(tactic| walk_at "up") => `(tactic| first | assumption | exact sT (by assumption) | exact sL (by assumption) | (with_reducible refine same_tup (by assumption) ?_; walk_at "up") | (with_reducible refine Kd.tup (by assumption) ?_; walk_at "up") | (with_reducible refine same_lst (by assumption) ?_; walk_at "up") | (with_reducible refine same_at (by assumption) ?_; walk_at "up"))
local macro_rules | `(tactic| walk_at "sm") => `(tactic| first | exact Same.refl _ | assumption | (refine Same.trans ?_ (by assumption); walk_at "sm"))
local macro_rules | `(tactic| walk_at "kd") => `(tactic| first | exact Kd.refl | assumption | exact Kd.same (by assumption) | (with_reducible refine Kd.trans ?_ (by assumption); walk_at "kd") | (with_reducible refine Kd.trans ?_ (Kd.same (by assumption)); walk_at "kd"))
section
variable {P : Program} {w : World} {K : PySem.W.Frag} {mg : Str → Option Value} {base : Heap}
theorem ok_law_right (B : Blt mg) (c_law_rd_drawn : Cl CX0 P w K mg base 3 "_law_rd_drawn" (sp_law_rd_drawn K) []) (c_law_rd_least : Cl CX0 P w K mg base 1 "_law_rd_least" (sp_law_rd_least K) []) (c_law_pick : Cl CX0 P w K mg base 2 "_law_pick" (sp_law_pick K) []) (c_law_roll : Cl CX0 P w K mg base 1 "_law_roll" sp_law_roll []) (c_law_wider : Cl CX0 P w K mg base 2 "_law_wider" (sp_law_wider K) []) (c_letters_of : Cl CX0 P w K mg base 7 "letters_of" (sp_letters_of K) []) (c_law_rd_letters : Cl CX0 P w K mg base 1 "_law_rd_letters" (sp_law_rd_letters K) []) (c_least_round : Cl CX0 P w K mg base 7 "least_round" (sp_least_round K) []) (c_is_round : Cl CX0 P w K mg base 6 "is_round" (sp_is_round K) []) (c_law_odd : Cl CX0 P w K mg base 3 "_law_odd" (sp_law_odd K) [])  {f : Addr} {fd : FuncData} (F : Dn K mg "_law_right" s_law_right ["dice"] f fd) : FnOk P w K mg base CX0 8 f fd ["dice"] sp_law_right := by
  refine F.ok sc_law_right (fun vs H Q E h => by obtain ⟨d, n, rfl, _⟩ := h; rfl) (fun cdv A outer s H vs Q E hr h => ?_)
  obtain ⟨d, n, rfl, D0, hn, q⟩ := h
  refine ⟨_, (pss_cons (ps_set (i := 1) sc_law_right.nd rfl (Or.inl rfl) (pe_op op_add pe_int (pe_c c_law_roll hr (by decide) (by rfl) (pa_cons (pv 0) (pa_cons pe_int pa_nil)))))
      (pss_cons (ps_set (i := 2) sc_law_right.nd rfl (Or.inl rfl) (pe_c c_law_rd_drawn hr (by decide) (by rfl) (pa_cons (pv 0) (pa_cons (pv 1) (pa_cons (pe_c c_law_pick hr (by decide) (by rfl) (pa_cons (pv 0) (pa_cons (pe_lstS (pa_cons pe_int (pa_cons pe_int (pa_cons pe_int pa_nil)))) pa_nil))) pa_nil)))))
      (pss_cons (ps_par (i := 3) (j := 4) (by rfl) sc_law_right.nd rfl rfl (by decide) rfl rfl (pa_cons (pe_c c_law_wider hr (by decide) (by rfl) (pa_cons (pv 0) (pa_cons (pv 2) pa_nil))) (pa_cons (pe_c c_law_rd_drawn hr (by decide) (by rfl) (pa_cons (pv 0) (pa_cons (pv 1) (pa_cons pe_int pa_nil)))) pa_nil)) (by rfl))
      (pss_cons (ps_set (i := 5) sc_law_right.nd rfl (Or.inl rfl) (pe_c c_law_rd_least hr (by decide) (by rfl) (pa_cons (pe_ix (ix_tK K rfl) (pv 2) pe_int (fun _ _ => rfl)) (pa_cons (pe_ix (ix_tK K rfl) (pv 2) pe_int (fun _ _ => rfl)) pa_nil))))
      (pss_cons (ps_if (PW.pt (pw_or (pt_cmpR (op_neK K rfl hr.units) (pe_c c_least_round hr (by decide) (by rfl) (pa_cons (pv 1) (pa_cons (pv 2) pa_nil))) (pv 5) (nomark _)) (pw_or (pt_cmpR (op_neK K rfl hr.units) (pe_c c_least_round hr (by decide) (by rfl) (pa_cons (pv 1) (pa_cons (pv 3) pa_nil))) (pv 5) (nomark _)) (pw_or1 (pt_cmpR (op_neK K rfl hr.units) (pe_c c_least_round hr (by decide) (by rfl) (pa_cons (pv 1) (pa_cons (pv 5) pa_nil))) (pv 5) (nomark _)))))) (pss_one (ps_ret pe_bl)) pss_nil)
      (pss_cons (ps_set (i := 6) sc_law_right.nd rfl (Or.inl rfl) (pe_c c_law_pick hr (by decide) (by rfl) (pa_cons (pv 0) (pa_cons (pe_lstS (pa_cons pe_int (pa_cons pe_int (pa_cons pe_int (pa_cons pe_int (pa_cons pe_int pa_nil)))))) pa_nil))))
      (pss_cons (ps_if (pt_cmpR (op_neK K rfl hr.units) (pe_c c_letters_of hr (by decide) (by rfl) (pa_cons (pv 1) (pa_cons (pv 3) (pa_cons (pv 6) pa_nil)))) (pe_c c_law_rd_letters hr (by decide) (by rfl) (pa_cons (pv 2) (pa_cons (pv 6) pa_nil))) (nomark _)) (pss_one (ps_ret pe_bl)) pss_nil)
      (pss_cons (ps_if (pt_cmpR (op_neK K rfl hr.units) (pe_c c_letters_of hr (by decide) (by rfl) (pa_cons (pv 1) (pa_cons (pv 5) (pa_cons pe_int pa_nil)))) (pe_c c_letters_of hr (by decide) (by rfl) (pa_cons (pv 1) (pa_cons (pv 2) (pa_cons pe_int pa_nil)))) (nomark _)) (pss_one (ps_ret pe_bl)) pss_nil)
      (pss_cons (ps_set (i := 7) sc_law_right.nd rfl (Or.inl rfl) (pe_cmpR (op_eqK K rfl hr.units) (pe_c c_law_rd_letters hr (by decide) (by rfl) (pa_cons (pv 2) (pa_cons pe_int pa_nil))) (pe_c c_law_rd_letters hr (by decide) (by rfl) (pa_cons (pv 4) (pa_cons pe_int pa_nil))) (nomark _)))
      (pss_cons (ps_if (pt_cmpR op_ne (pe_cmpR (op_eqK K rfl hr.units) (pe_c c_least_round hr (by decide) (by rfl) (pa_cons (pv 1) (pa_cons (pv 4) pa_nil))) (pv 5) (nomark _)) (pv 7) (nomark _)) (pss_one (ps_ret pe_bl)) pss_nil)
      (pss_one (ps_ret (pe_and (pe_cmpR op_isBl (pe_c c_is_round hr (by decide) (by rfl) (pa_cons (pv 1) (pa_cons (pv 2) pa_nil))) pe_bl (nomark _)) (pe_one (pe_cmpR op_isBl (pe_c c_is_round hr (by decide) (by rfl) (pa_cons (pv 1) (pa_cons (pe_c c_law_odd hr (by decide) (by rfl) (pa_cons (pv 0) (pa_cons (pv 1) (pa_cons (pv 2) pa_nil)))) pa_nil))) pe_bl (nomark _)))))))))))))))), ?_⟩
  -- width, pair
  refine ⟨_, rfl, d, 4, n, rfl, D0, by omega, by decide, by decide, fun v H1 v0 v1 k1 D1 => ⟨_, _, rfl, rfl, ?_⟩⟩
  have i2 : 2 ≤ 2 + v := by omega
  have i5 : 2 + v ≤ 5 := by omega
  have ka : (2 + v).natAbs < 2 ^ 31 := by omega
  refine ⟨_, rfl, _, rfl, _, rfl, by show 3 ≤ 1000000; decide, fun l H2 n2 s2 e2 => ⟨d, l, _, n + 1, rfl, D1.same s2, by omega, sL e2, D1.ne n2, by show 0 < 3; decide, by show 3 < 1000000; decide, fun i u H3 hu k3 D3 => ?_⟩⟩
  have hm : ∃ m : Nat, u = .int m ∧ 1 ≤ m ∧ m ≤ 40 := by
    have hu' : ([.int 3, .int 8, .int 40] : List V)[i]? = some u := hu
    match i, hu' with
    | 0, h => cases h; exact ⟨3, rfl, by decide, by decide⟩
    | 1, h => cases h; exact ⟨8, rfl, by decide, by decide⟩
    | 2, h => cases h; exact ⟨40, rfl, by decide, by decide⟩
    | i + 3, h => cases h
  obtain ⟨m, rfl, m1, m2⟩ := hm
  refine ⟨d, 2 + v, m, n + 1 + 1, rfl, D3, by omega, m1, by omega, by omega, ka, fun pv b a H4 k4 D4 hP wb wa hne lb la => ?_⟩
  have kd4 : Kd d H H4 := ((k1.trans (Kd.same s2)).trans k3).trans k4
  -- wide, mate
  refine ⟨_, rfl, _, rfl, d, pv, 2 + v, b, a, _, rfl, D4, by omega, hP, wb, wa, hne, by omega, by omega, fun wv b1 a1 H5 k5 D5 hW wb1 wa1 hne1 lb1 la1 el1 => ⟨_, rfl, _, rfl, d, 2 + v, 3, _, rfl, D5, by omega, by decide, by decide, by omega, ka, fun mv b2 a2 H6 k6 D6 hM wb2 wa2 hne2 lb2 la2 => ⟨_, _, rfl, ?_⟩⟩⟩
  have hP6 := (hP.kd k5).kd k6
  have hW6 := hW.kd k6
  -- due
  obtain ⟨pp, px, py, rfl, pT, pX, pY⟩ := id hP6
  refine ⟨_, rfl, pp, _, _, .ref px, rfl, rfl, pT, rfl, _, rfl, pp, _, _, .ref py, rfl, rfl, pT, rfl, px, py, b, a, rfl, pX, pY, hne, by omega, by omega, fun due H7 s7 hdue => ?_⟩
  obtain ⟨ln, ll1, ll2⟩ := Rd.least_len (b := b) hne
  have hlw : ∀ (b' a' : List Int) (v' : V) (H' : Hp), PairT K H' v' b' a' → (∀ i, Rd.ltr b' a' i = Rd.ltr b a i) → True := fun _ _ _ _ _ _ => trivial
  have inLeast : inW (2 + v) (Rd.least b a).1 ∧ inW (2 + v) (Rd.least b a).2 := least_in wb wa hne
  have same1 : Rd.least b1 a1 = Rd.least b a := (Rd.least_iff hne1 hne).mpr el1
  have same2 : Rd.least (Rd.least b a).1 (Rd.least b a).2 = Rd.least b a := Rd.least_least hne
  have hP7 := hP6.same s7
  have hW7 := hW6.same s7
  -- least_round of three
  refine ⟨_, rfl, _, rfl, 2 + v, _, b, a, rfl, i2, i5, hP7, wb, wa, hne, by omega, by omega, fun r8 H8 s8 h8 => ⟨_, rfl, _, _, h8.dp, (hdue.same s8).dp, shP _ _, shP _ _, _, rfl, ?_⟩⟩
  rw [eqvP, decide_eq_true rfl]
  refine iteF ⟨_, rfl, _, rfl, 2 + v, _, b1, a1, rfl, i2, i5, hW7.same s8, wb1, wa1, hne1, by omega, by omega, fun r9 H9 s9 h9 => ⟨_, rfl, _, _, h9.dp, ((hdue.same s8).same s9).dp, shP _ _, shP _ _, _, rfl, ?_⟩⟩
  rw [eqvP, same1, decide_eq_true rfl]
  refine iteF ⟨_, rfl, _, rfl, 2 + v, _, _, _, rfl, i2, i5, (hdue.same s8).same s9, inLeast.1, inLeast.2, ln, by omega, by omega, fun r10 H10 s10 h10 => ⟨_, rfl, _, _, h10.dp, (((hdue.same s8).same s9).same s10).dp, shP _ _, shP _ _, _, rfl, ?_⟩⟩
  rw [eqvP, same2, decide_eq_true rfl]
  have s710 := (s8.trans s9).trans s10
  have s610 := s7.trans s710
  refine iteF ?_
  -- many
  refine ⟨_, rfl, by show 5 ≤ 1000000; decide, fun l11 H11 n11 s11 e11 => ⟨d, l11, _, _, rfl, (D6.same s610).same s11, by omega, sL e11, (D6.same s610).ne n11, by show 0 < 5; decide, by show 5 < 1000000; decide, fun j w H12 hw k12 D12 => ?_⟩⟩
  have hc : ∃ c : Nat, w = .int c ∧ c ≤ 2000 := by
    have hw' : ([.int 0, .int 1, .int 7, .int 150, .int 2000] : List V)[j]? = some w := hw
    match j, hw' with
    | 0, h => cases h; exact ⟨0, rfl, by decide⟩
    | 1, h => cases h; exact ⟨1, rfl, by decide⟩
    | 2, h => cases h; exact ⟨7, rfl, by decide⟩
    | 3, h => cases h; exact ⟨150, rfl, by decide⟩
    | 4, h => cases h; exact ⟨2000, rfl, by decide⟩
    | j + 5, h => cases h
  obtain ⟨c, rfl, c2⟩ := hc
  have TR : ∀ {v' : V} {b' a' : List Int}, PairT K H10 v' b' a' → PairT K H12 v' b' a' := fun h => (h.same s11).kd k12
  have hP12 := TR ((hP7.same s710))
  have hW12 := TR (hW7.same s710)
  have hD12 := TR (hdue.same s710)
  have hM12 := TR ((hM.same s610))
  have kd12 : Kd d H H12 := ((((kd4.trans k5).trans k6).trans (Kd.same s610)).trans (Kd.same s11)).trans k12
  -- letters
  refine ⟨_, rfl, _, rfl, _, rfl, 2 + v, _, b1, a1, c, rfl, i2, i5, hW12, wb1, wa1, hne1, by omega, by omega, c2, fun r13 H13 s13 h13 => ⟨_, rfl, _, rfl, _, b, a, c, rfl, hP12.same s13, hne, by omega, by omega, by omega, fun r14 H14 s14 h14 => ⟨_, _, dpI (same_tup s14 h13), dpI h14, shI _, shI _, _, rfl, ?_⟩⟩⟩
  rw [firstL_eq c (fun i _ => el1 i), eqvr (shI _)]
  have s1214 := s13.trans s14
  refine iteF ⟨_, rfl, _, rfl, 2 + v, _, _, _, 90, rfl, i2, i5, hD12.same s1214, inLeast.1, inLeast.2, ln, by omega, by omega, by decide, fun r15 H15 s15 h15 => ⟨_, rfl, _, rfl, 2 + v, _, b, a, 90, rfl, i2, i5, (hP12.same s1214).same s15, wb, wa, hne, by omega, by omega, by decide, fun r16 H16 s16 h16 => ⟨_, _, dpI (same_tup s16 h15), dpI h16, shI _, shI _, _, rfl, ?_⟩⟩⟩
  rw [firstL_eq 90 (fun i _ => Rd.ltr_least hne i), eqvr (shI _)]
  have s1216 := (s1214.trans s15).trans s16
  -- is_same
  refine iteF ⟨_, rfl, _, b, a, 200, rfl, hP12.same s1216, hne, by omega, by omega, by decide, fun r17 H17 s17 h17 => ⟨_, rfl, _, b2, a2, 200, rfl, (hM12.same s1216).same s17, hne2, by omega, by omega, by decide, fun r18 H18 s18 h18 => ⟨_, _, dpI (same_tup s18 h17), dpI h18, shI _, shI _, ?_⟩⟩⟩
  rw [eqvI]
  have s1218 := (s1216.trans s17).trans s18
  refine ⟨_, rfl, _, rfl, 2 + v, _, b2, a2, rfl, i2, i5, hM12.same s1218, wb2, wa2, hne2, by omega, by omega, fun r19 H19 s19 h19 => ⟨_, rfl, _, _, h19.dp, ((hD12.same s1218).same s19).dp, shP _ _, shP _ _, ?_⟩⟩
  rw [eqvP]
  have eb : decide ((Rd.least b2 a2) = (Rd.least b a)) = decide (firstL b a 200 = firstL b2 a2 200) := by
    refine decide_eq_decide.mpr ⟨fun e => ?_, fun e => ?_⟩
    · exact firstL_eq 200 fun i _ => ((Rd.least_iff hne2 hne).mp e i).symm
    · exact (Rd.least_iff hne2 hne).mpr fun i => (Rd.enough hne hne2 40 200 (by omega) (by omega) (by omega) (firstL_inj hne hne2 e) i).symm
  refine ⟨_, rfl, rfl, _, rfl, ?_⟩
  have eb' : (V.bl (decide (((Rd.least b2 a2).1, (Rd.least b2 a2).2) = ((Rd.least b a).1, (Rd.least b a).2)))) = V.bl (decide (firstL b a 200 = firstL b2 a2 200)) := congrArg V.bl eb
  rw [eb']
  refine iteNS rfl ?_
  have s1219 := s1218.trans s19
  -- is_round
  obtain ⟨qp, qx, qy, eq0, qT, qX, qY⟩ := hP12.same s1219
  cases eq0
  refine ⟨_, rfl, _, rfl, 2 + v, _, rfl, i2, i5, .inr (.inr ⟨pp, _, _, true, true, dI a, rfl, qT, word60 qX (by omega) wb, word60 qY (by omega) wa, dpI qY, shI _, fun H20 s20 => ⟨_, _, rfl, rfl, ?_⟩⟩)⟩
  rw [eqvI, decide_eq_false hne]
  refine ⟨_, rfl, iteT ⟨_, rfl, _, rfl, _, rfl, _, rfl, d, 2 + v, _, b, a, _, rfl, (D12.same s1219).same s20, by omega, i2, i5, PairT.same s20 ⟨pp, qx, qy, rfl, qT, qX, qY⟩, wb, wa, hne, by omega, by omega, fun ov H21 k21 D21 ho => ⟨2 + v, ov, rfl, i2, i5, ?_⟩⟩⟩
  have fin : ∀ H', Same H21 H' → Q (.bl true) H' := fun H' s' => q H' (((kd12.trans (Kd.same (s1219.trans s20))).trans k21).trans (Kd.same s')) ((D21.same s').more (by omega))
  rcases ho with nt | ⟨oa, xs, rfl, h1, h2⟩ | ⟨oa, x, y, bx, b2', dy, rfl, h1, h2, h3, h4, h5, h6⟩
  · exact .inl ⟨nt, false, false, rfl, rfl, fin _ (Same.refl _)⟩
  · exact .inr (.inl ⟨oa, xs, rfl, h1, h2, false, false, rfl, rfl, fin _ (Same.refl _)⟩)
  · refine .inr (.inr ⟨oa, x, y, bx, b2', dy, rfl, h1, h2, h3, h4, h5, fun H22 s22 => ⟨_, false, rfl, rfl, ?_⟩⟩)
    rw [h6]
    exact fin _ s22
theorem ok_law (B : Blt mg) (m_MAX_ROUND : ∃ u, mg "MAX_ROUND" = some u ∧ RelV (.int 60) u) (c_law_dice : Cl CX0 P w K mg base 1 "_law_dice" (sp_law_dice K) []) (c_is_round : Cl CX0 P w K mg base 6 "is_round" (sp_is_round K) []) (c_least_round : Cl CX0 P w K mg base 7 "least_round" (sp_least_round K) []) (c_law_right : Cl CX0 P w K mg base 8 "_law_right" sp_law_right [])  {f : Addr} {fd : FuncData} (F : Dn K mg "law" s_law ["script"] f fd) : FnOk P w K mg base CX0 9 f fd ["script"] (spLaw K) := by
  refine F.ok sc_law (fun vs H Q E h => by obtain ⟨a, ns, rfl, _⟩ := h; rfl) (fun cdv A outer s H vs Q E hr h => ?_)
  obtain ⟨a, ns, rfl, hS, hl, q⟩ := h
  refine ⟨_, (pss_cons (ps_for PassesOwn.never rfl (pi_range1 (by rfl) B.range' (pa_cons (pe_callB (call_max2 rfl) (by rfl) B.max' (by decide +kernel) (pa_cons pe_int (pa_cons (pe_callB (call_min2 rfl) (by rfl) B.min' (by decide +kernel) (pa_cons pe_int (pa_cons (pe_callB (call_lenK K rfl) (by rfl) B.len' PySem.boot_len (pa_cons (pv 0) pa_nil)) pa_nil))) pa_nil))) pa_nil)) (pg_name (i := 1) sc_law.nd rfl (Or.inl rfl)) (pss_cons (ps_set (i := 2) sc_law.nd rfl (Or.inl rfl) (pe_c c_law_dice hr (by decide) (by rfl) (pa_cons (pv 0) (pa_cons (pv 1) pa_nil))))
      (pss_one (ps_for PassesOwn.never rfl (pi_range1 (by rfl) B.range' (pa_cons pe_int pa_nil)) (pg_name (i := 3) sc_law.nd rfl (Or.inl rfl)) (pss_one (ps_if (pt_not (pt_val (pe_c c_law_right hr (by decide) (by rfl) (pa_cons (pv 2) pa_nil)))) (pss_one (ps_ret pe_bl)) pss_nil))))))
      (pss_one (ps_ret (pe_and (pe_cmpR op_eq (pe_gc (by rfl) m_MAX_ROUND) pe_int (nomark _)) (pe_and (pe_c c_is_round hr (by decide) (by rfl) (pa_cons pe_int (pa_cons (pe_tupS (pa_cons (pe_op (op_repTS K rfl) (pe_tupS (pa_cons pe_int pa_nil)) pe_int) (pa_cons (pe_op (op_repTS K rfl) (pe_tupS (pa_cons pe_int pa_nil)) pe_int) pa_nil))) pa_nil))) (pe_one (pe_cmpR (op_eqK K rfl hr.units) (pe_c c_least_round hr (by decide) (by rfl) (pa_cons pe_int (pa_cons (pe_tupS (pa_cons (pe_tupS pa_nil) (pa_cons (pe_op (op_repTS K rfl) (pe_tupS (pa_cons pe_int pa_nil)) pe_int) pa_nil))) pa_nil))) (pe_tupS (pa_cons (pe_tupS pa_nil) (pa_cons (pe_tupS (pa_cons pe_int pa_nil)) pa_nil))) (nomark _)))))))), ?_⟩
  obtain ⟨l1, l8⟩ := lim_le (m := 8) (by decide) (ns.map V.int).length
  refine ⟨_, rfl, a, _, rfl, .inl hS, 8, _, rfl, 1, _, rfl, lim 8 (ns.map V.int).length, rfl, by omega, by omega, for_range (lo := 0) (n := (lim 8 (ns.map V.int).length).toNat) (fun i σ H' => ∃ z1 z2 z3, σ = [some (.ref a), z1, z2, z3] ∧ Same H H') ⟨none, none, none, rfl, Same.refl H⟩ ?_ ?_⟩
  · rintro i σ H1 hi ⟨z1, z2, z3, rfl, s1⟩
    refine ⟨_, rfl, _, rfl, a, ns, i, by rw [Int.zero_add]; rfl, s1.seq hS, by omega, fun p H2 np s2 D2 => ?_⟩
    have np0 : H p = none := s1.free np
    refine ⟨3, rfl, by decide, by decide, for_range (lo := 0) (n := 3) (fun j σ H' => ∃ z, σ = [some (.ref a), some (.int (0 + (i : Int))), some (.ref p), z] ∧ Same H H' ∧ Dice H' p (1000 * j)) ⟨_, rfl, s1.trans s2, D2⟩ ?_ ?_⟩
    · rintro j σ H3 hj ⟨z, rfl, s3, D3⟩
      refine ⟨_, rfl, p, 1000 * j, rfl, D3, by omega, fun H4 k4 D4 => ⟨true, rfl, iteF ⟨_, rfl, fun b u e => k4 _ _ (s3 _ _ e) fun z => ((ne_of_none e np0) z).elim, D4⟩⟩⟩
    · rintro σ H3 ⟨z, rfl, s3, D3⟩
      exact ⟨_, _, _, rfl, s3⟩
  · rintro σ H1 ⟨z1, z2, z3, rfl, s1⟩
    refine ⟨rfl, _, rfl, iteT ?_⟩
    -- is_round(2, ((0,) * 60, (1,) * 60))
    refine ⟨by show 1 ≤ 1000000; decide, fun t2 H2 n2 s2 e2 => ⟨t2, 60, _, rfl, rfl, sT e2, by simp, by decide, by decide, by decide, fun x3 H3 s3 h3 => ⟨by show 1 ≤ 1000000; decide, fun t4 H4 n4 s4 e4 => ⟨t4, 60, _, rfl, rfl, sT e4, by simp, by decide, by decide, by decide, fun y5 H5 s5 h5 => ⟨by show 2 ≤ 1000000; decide, fun p6 H6 n6 s6 e6 => ?_⟩⟩⟩⟩⟩
    have r0 : (List.replicate (60 : Int).toNat [V.int 0]).flatten = (List.replicate 60 (0 : Int)).map V.int := by decide
    have r1 : (List.replicate (60 : Int).toNat [V.int 1]).flatten = (List.replicate 60 (1 : Int)).map V.int := by decide
    rw [r0] at h3
    rw [r1] at h5
    have w0 : inW 2 (List.replicate 60 (0 : Int)) := fun z hz => by rw [(List.mem_replicate.mp hz).2]; decide
    have w1 : inW 2 (List.replicate 60 (1 : Int)) := fun z hz => by rw [(List.mem_replicate.mp hz).2]; decide
    refine ⟨2, .ref p6, rfl, by decide, by decide, .inr (.inr ⟨p6, .ref x3, .ref y5, true, true, dI (List.replicate 60 1), rfl, sT e6, word60 (same_tup s6 (same_tup s5 (same_tup s4 h3))) (by decide) w0, word60 (same_tup s6 h5) (by decide) w1, dpI (same_tup s6 h5), shI _, fun H7 s7 => ⟨_, rfl, ?_⟩⟩)⟩
    rw [eqvI, decide_eq_false (by decide)]
    -- least_round(2, ((), (1,) * 900)) == ((), (1,))
    refine iteT ⟨by show 0 ≤ 1000000; decide, fun e8 H8 n8 s8 h8 => ⟨by show 1 ≤ 1000000; decide, fun t9 H9 n9 s9 h9 => ⟨t9, 900, _, rfl, rfl, sT h9, by simp, by decide, by decide, by decide, fun y10 H10 s10 h10 => ⟨by show 2 ≤ 1000000; decide, fun p11 H11 n11 s11 h11 => ?_⟩⟩⟩⟩
    have r9 : (List.replicate (900 : Int).toNat [V.int 1]).flatten = (List.replicate 900 (1 : Int)).map V.int := by decide +kernel
    rw [r9] at h10
    have w9 : inW 2 (List.replicate 900 (1 : Int)) := fun z hz => by rw [(List.mem_replicate.mp hz).2]; decide
    have ne9 : List.replicate 900 (1 : Int) ≠ [] := by decide
    refine ⟨2, .ref p11, [], List.replicate 900 1, rfl, by decide, by decide, ⟨p11, e8, y10, rfl, sT h11, same_tup s11 (same_tup s10 (same_tup s9 (sT h8))), same_tup s11 h10⟩, (fun _ h => by cases h), w9, ne9, by decide, by rw [List.length_replicate]; decide, fun v12 H12 s12 h12 => ⟨by show 0 ≤ 1000000; decide, fun e13 H13 n13 s13 h13 => ⟨by show 1 ≤ 1000000; decide, fun t14 H14 n14 s14 h14 => ⟨by show 2 ≤ 1000000; decide, fun p15 H15 n15 s15 h15 => ?_⟩⟩⟩⟩
    rw [least900] at h12
    have hR : PairT K H15 (.ref p15) [] [1] := ⟨p15, e13, t14, rfl, sT h15, same_tup s15 (same_tup s14 (sT h13)), same_tup s15 (sT h14)⟩
    refine ⟨_, _, (((h12.same s13).same s14).same s15).dp, hR.dp, shP _ _, shP _ _, ?_⟩
    rw [eqvP]
    exact q _
end
end Br

namespace Br
open PySem PySem.Spec PyProof.Rows L2
local macro_rules | `(tactic| walk_at "up") => `(tactic| first | assumption | exact sT (by assumption) | exact sL (by assumption) | (with_reducible refine same_tup (by assumption) ?_; walk_at "up") | (with_reducible refine Kd.tup (by assumption) ?_; walk_at "up") | (with_reducible refine same_lst (by assumption) ?_; walk_at "up") | (with_reducible refine same_at (by assumption) ?_; walk_at "up"))
local macro_rules | `(tactic| walk_at "sm") => `(tactic| first | exact Same.refl _ | assumption | (refine Same.trans ?_ (by assumption); walk_at "sm"))
local macro_rules | `(tactic| walk_at "kd") => `(tactic| first | exact Kd.refl | assumption | exact Kd.same (by assumption) | (with_reducible refine Kd.trans ?_ (by assumption); walk_at "kd") | (with_reducible refine Kd.trans ?_ (Kd.same (by assumption)); walk_at "kd"))
section
variable {P : Program} {w : World} {K : PySem.W.Frag} {mg : Str → Option Value} {base : Heap}
end
set_option maxHeartbeats 8000000 in
theorem all_mk {P : Program} {w : World} {K : PySem.W.Frag} {h : Heap} {mg : Str → Option Value} {fa : Addr} (X : K.In h) (G : h.Ns mainGlobals mg) (hfa : mg "law" = some (.ref fa))
    {f_is_integer : Addr} {od_is_integer an_is_integer : Option Addr} {sl_is_integer : Array (Option Value)} {oc_is_integer kV_is_integer dc_is_integer pm_is_integer cd_is_integer ct_is_integer : Value}
    (a_is_integer : PySem.W.nsIn K mainGlobals "is_integer" = some (some (.ref f_is_integer))) (l_is_integer : K.lookup f_is_integer = some ⟨oc_is_integer, od_is_integer, .func (PySem.W.fnOf "is_integer" "is_integer" (defArgs s_is_integer) (defBody s_is_integer) (defScope s_is_integer) .none kV_is_integer dc_is_integer pm_is_integer an_is_integer cd_is_integer ct_is_integer), sl_is_integer⟩) (c_is_integer : PySem.W.codeIn K cd_is_integer "is_integer" = true) (k_is_integer : PySem.W.keepIn K (.ref f_is_integer) = true)
    {f_is_within : Addr} {od_is_within an_is_within : Option Addr} {sl_is_within : Array (Option Value)} {oc_is_within kV_is_within dc_is_within pm_is_within cd_is_within ct_is_within : Value}
    (a_is_within : PySem.W.nsIn K mainGlobals "is_within" = some (some (.ref f_is_within))) (l_is_within : K.lookup f_is_within = some ⟨oc_is_within, od_is_within, .func (PySem.W.fnOf "is_within" "is_within" (defArgs s_is_within) (defBody s_is_within) (defScope s_is_within) .none kV_is_within dc_is_within pm_is_within an_is_within cd_is_within ct_is_within), sl_is_within⟩) (c_is_within : PySem.W.codeIn K cd_is_within "is_within" = true) (k_is_within : PySem.W.keepIn K (.ref f_is_within) = true)
    {f_require_within : Addr} {od_require_within an_require_within : Option Addr} {sl_require_within : Array (Option Value)} {oc_require_within kV_require_within dc_require_within pm_require_within cd_require_within ct_require_within : Value}
    (a_require_within : PySem.W.nsIn K mainGlobals "require_within" = some (some (.ref f_require_within))) (l_require_within : K.lookup f_require_within = some ⟨oc_require_within, od_require_within, .func (PySem.W.fnOf "require_within" "require_within" (defArgs s_require_within) (defBody s_require_within) (defScope s_require_within) .none kV_require_within dc_require_within pm_require_within an_require_within cd_require_within ct_require_within), sl_require_within⟩) (c_require_within : PySem.W.codeIn K cd_require_within "require_within" = true) (k_require_within : PySem.W.keepIn K (.ref f_require_within) = true)
    {f_is_width : Addr} {od_is_width an_is_width : Option Addr} {sl_is_width : Array (Option Value)} {oc_is_width kV_is_width dc_is_width pm_is_width cd_is_width ct_is_width : Value}
    (a_is_width : PySem.W.nsIn K mainGlobals "is_width" = some (some (.ref f_is_width))) (l_is_width : K.lookup f_is_width = some ⟨oc_is_width, od_is_width, .func (PySem.W.fnOf "is_width" "is_width" (defArgs s_is_width) (defBody s_is_width) (defScope s_is_width) .none kV_is_width dc_is_width pm_is_width an_is_width cd_is_width ct_is_width), sl_is_width⟩) (c_is_width : PySem.W.codeIn K cd_is_width "is_width" = true) (k_is_width : PySem.W.keepIn K (.ref f_is_width) = true)
    {f_require_width : Addr} {od_require_width an_require_width : Option Addr} {sl_require_width : Array (Option Value)} {oc_require_width kV_require_width dc_require_width pm_require_width cd_require_width ct_require_width : Value}
    (a_require_width : PySem.W.nsIn K mainGlobals "require_width" = some (some (.ref f_require_width))) (l_require_width : K.lookup f_require_width = some ⟨oc_require_width, od_require_width, .func (PySem.W.fnOf "require_width" "require_width" (defArgs s_require_width) (defBody s_require_width) (defScope s_require_width) .none kV_require_width dc_require_width pm_require_width an_require_width cd_require_width ct_require_width), sl_require_width⟩) (c_require_width : PySem.W.codeIn K cd_require_width "require_width" = true) (k_require_width : PySem.W.keepIn K (.ref f_require_width) = true)
    {f_is_letter : Addr} {od_is_letter an_is_letter : Option Addr} {sl_is_letter : Array (Option Value)} {oc_is_letter kV_is_letter dc_is_letter pm_is_letter cd_is_letter ct_is_letter : Value}
    (a_is_letter : PySem.W.nsIn K mainGlobals "is_letter" = some (some (.ref f_is_letter))) (l_is_letter : K.lookup f_is_letter = some ⟨oc_is_letter, od_is_letter, .func (PySem.W.fnOf "is_letter" "is_letter" (defArgs s_is_letter) (defBody s_is_letter) (defScope s_is_letter) .none kV_is_letter dc_is_letter pm_is_letter an_is_letter cd_is_letter ct_is_letter), sl_is_letter⟩) (c_is_letter : PySem.W.codeIn K cd_is_letter "is_letter" = true) (k_is_letter : PySem.W.keepIn K (.ref f_is_letter) = true)
    {f_is_word_in : Addr} {od_is_word_in an_is_word_in : Option Addr} {sl_is_word_in : Array (Option Value)} {oc_is_word_in kV_is_word_in dc_is_word_in pm_is_word_in cd_is_word_in ct_is_word_in : Value}
    {T_is_word_in : Addr} {tc_is_word_in : Value} {td_is_word_in : Option Addr} {tn_is_word_in : Nat} {tsl_is_word_in : Array (Option Value)}
    (a_is_word_in : PySem.W.nsIn K mainGlobals "is_word_in" = some (some (.ref f_is_word_in))) (l_is_word_in : K.lookup f_is_word_in = some ⟨oc_is_word_in, od_is_word_in, .func (PySem.W.fnOf "is_word_in" "is_word_in" (defArgs s_is_word_in) (defBody s_is_word_in) (defScope s_is_word_in) (.ref T_is_word_in) kV_is_word_in dc_is_word_in pm_is_word_in an_is_word_in cd_is_word_in ct_is_word_in), sl_is_word_in⟩) (c_is_word_in : PySem.W.codeIn K cd_is_word_in "is_word_in" = true) (k_is_word_in : PySem.W.keepIn K (.ref f_is_word_in) = true)
    (t_is_word_in : K.lookup T_is_word_in = some ⟨tc_is_word_in, td_is_word_in, .seq [.none].toArray tn_is_word_in, tsl_is_word_in⟩)
    {f_is_round_in : Addr} {od_is_round_in an_is_round_in : Option Addr} {sl_is_round_in : Array (Option Value)} {oc_is_round_in kV_is_round_in dc_is_round_in pm_is_round_in cd_is_round_in ct_is_round_in : Value}
    (a_is_round_in : PySem.W.nsIn K mainGlobals "is_round_in" = some (some (.ref f_is_round_in))) (l_is_round_in : K.lookup f_is_round_in = some ⟨oc_is_round_in, od_is_round_in, .func (PySem.W.fnOf "is_round_in" "is_round_in" (defArgs s_is_round_in) (defBody s_is_round_in) (defScope s_is_round_in) .none kV_is_round_in dc_is_round_in pm_is_round_in an_is_round_in cd_is_round_in ct_is_round_in), sl_is_round_in⟩) (c_is_round_in : PySem.W.codeIn K cd_is_round_in "is_round_in" = true) (k_is_round_in : PySem.W.keepIn K (.ref f_is_round_in) = true)
    {f_require_round : Addr} {od_require_round an_require_round : Option Addr} {sl_require_round : Array (Option Value)} {oc_require_round kV_require_round dc_require_round pm_require_round cd_require_round ct_require_round : Value}
    (a_require_round : PySem.W.nsIn K mainGlobals "require_round" = some (some (.ref f_require_round))) (l_require_round : K.lookup f_require_round = some ⟨oc_require_round, od_require_round, .func (PySem.W.fnOf "require_round" "require_round" (defArgs s_require_round) (defBody s_require_round) (defScope s_require_round) .none kV_require_round dc_require_round pm_require_round an_require_round cd_require_round ct_require_round), sl_require_round⟩) (c_require_round : PySem.W.codeIn K cd_require_round "require_round" = true) (k_require_round : PySem.W.keepIn K (.ref f_require_round) = true)
    {f_least_round_in : Addr} {od_least_round_in an_least_round_in : Option Addr} {sl_least_round_in : Array (Option Value)} {oc_least_round_in kV_least_round_in dc_least_round_in pm_least_round_in cd_least_round_in ct_least_round_in : Value}
    (a_least_round_in : PySem.W.nsIn K mainGlobals "least_round_in" = some (some (.ref f_least_round_in))) (l_least_round_in : K.lookup f_least_round_in = some ⟨oc_least_round_in, od_least_round_in, .func (PySem.W.fnOf "least_round_in" "least_round_in" (defArgs s_least_round_in) (defBody s_least_round_in) (defScope s_least_round_in) .none kV_least_round_in dc_least_round_in pm_least_round_in an_least_round_in cd_least_round_in ct_least_round_in), sl_least_round_in⟩) (c_least_round_in : PySem.W.codeIn K cd_least_round_in "least_round_in" = true) (k_least_round_in : PySem.W.keepIn K (.ref f_least_round_in) = true)
    {f_is_round : Addr} {od_is_round an_is_round : Option Addr} {sl_is_round : Array (Option Value)} {oc_is_round kV_is_round dc_is_round pm_is_round cd_is_round ct_is_round : Value}
    (a_is_round : PySem.W.nsIn K mainGlobals "is_round" = some (some (.ref f_is_round))) (l_is_round : K.lookup f_is_round = some ⟨oc_is_round, od_is_round, .func (PySem.W.fnOf "is_round" "is_round" (defArgs s_is_round) (defBody s_is_round) (defScope s_is_round) .none kV_is_round dc_is_round pm_is_round an_is_round cd_is_round ct_is_round), sl_is_round⟩) (c_is_round : PySem.W.codeIn K cd_is_round "is_round" = true) (k_is_round : PySem.W.keepIn K (.ref f_is_round) = true)
    {f_least_round : Addr} {od_least_round an_least_round : Option Addr} {sl_least_round : Array (Option Value)} {oc_least_round kV_least_round dc_least_round pm_least_round cd_least_round ct_least_round : Value}
    (a_least_round : PySem.W.nsIn K mainGlobals "least_round" = some (some (.ref f_least_round))) (l_least_round : K.lookup f_least_round = some ⟨oc_least_round, od_least_round, .func (PySem.W.fnOf "least_round" "least_round" (defArgs s_least_round) (defBody s_least_round) (defScope s_least_round) .none kV_least_round dc_least_round pm_least_round an_least_round cd_least_round ct_least_round), sl_least_round⟩) (c_least_round : PySem.W.codeIn K cd_least_round "least_round" = true) (k_least_round : PySem.W.keepIn K (.ref f_least_round) = true)
    {f_letters_of : Addr} {od_letters_of an_letters_of : Option Addr} {sl_letters_of : Array (Option Value)} {oc_letters_of kV_letters_of dc_letters_of pm_letters_of cd_letters_of ct_letters_of : Value}
    (a_letters_of : PySem.W.nsIn K mainGlobals "letters_of" = some (some (.ref f_letters_of))) (l_letters_of : K.lookup f_letters_of = some ⟨oc_letters_of, od_letters_of, .func (PySem.W.fnOf "letters_of" "letters_of" (defArgs s_letters_of) (defBody s_letters_of) (defScope s_letters_of) .none kV_letters_of dc_letters_of pm_letters_of an_letters_of cd_letters_of ct_letters_of), sl_letters_of⟩) (c_letters_of : PySem.W.codeIn K cd_letters_of "letters_of" = true) (k_letters_of : PySem.W.keepIn K (.ref f_letters_of) = true)
    {f_law_dice : Addr} {od_law_dice an_law_dice : Option Addr} {sl_law_dice : Array (Option Value)} {oc_law_dice kV_law_dice dc_law_dice pm_law_dice cd_law_dice ct_law_dice : Value}
    (a_law_dice : PySem.W.nsIn K mainGlobals "_law_dice" = some (some (.ref f_law_dice))) (l_law_dice : K.lookup f_law_dice = some ⟨oc_law_dice, od_law_dice, .func (PySem.W.fnOf "_law_dice" "_law_dice" (defArgs s_law_dice) (defBody s_law_dice) (defScope s_law_dice) .none kV_law_dice dc_law_dice pm_law_dice an_law_dice cd_law_dice ct_law_dice), sl_law_dice⟩) (c_law_dice : PySem.W.codeIn K cd_law_dice "_law_dice" = true) (k_law_dice : PySem.W.keepIn K (.ref f_law_dice) = true)
    {f_law_roll : Addr} {od_law_roll an_law_roll : Option Addr} {sl_law_roll : Array (Option Value)} {oc_law_roll kV_law_roll dc_law_roll pm_law_roll cd_law_roll ct_law_roll : Value}
    (a_law_roll : PySem.W.nsIn K mainGlobals "_law_roll" = some (some (.ref f_law_roll))) (l_law_roll : K.lookup f_law_roll = some ⟨oc_law_roll, od_law_roll, .func (PySem.W.fnOf "_law_roll" "_law_roll" (defArgs s_law_roll) (defBody s_law_roll) (defScope s_law_roll) .none kV_law_roll dc_law_roll pm_law_roll an_law_roll cd_law_roll ct_law_roll), sl_law_roll⟩) (c_law_roll : PySem.W.codeIn K cd_law_roll "_law_roll" = true) (k_law_roll : PySem.W.keepIn K (.ref f_law_roll) = true)
    {f_law_pick : Addr} {od_law_pick an_law_pick : Option Addr} {sl_law_pick : Array (Option Value)} {oc_law_pick kV_law_pick dc_law_pick pm_law_pick cd_law_pick ct_law_pick : Value}
    (a_law_pick : PySem.W.nsIn K mainGlobals "_law_pick" = some (some (.ref f_law_pick))) (l_law_pick : K.lookup f_law_pick = some ⟨oc_law_pick, od_law_pick, .func (PySem.W.fnOf "_law_pick" "_law_pick" (defArgs s_law_pick) (defBody s_law_pick) (defScope s_law_pick) .none kV_law_pick dc_law_pick pm_law_pick an_law_pick cd_law_pick ct_law_pick), sl_law_pick⟩) (c_law_pick : PySem.W.codeIn K cd_law_pick "_law_pick" = true) (k_law_pick : PySem.W.keepIn K (.ref f_law_pick) = true)
    {f_law_word : Addr} {od_law_word an_law_word : Option Addr} {sl_law_word : Array (Option Value)} {oc_law_word kV_law_word dc_law_word pm_law_word cd_law_word ct_law_word : Value}
    (a_law_word : PySem.W.nsIn K mainGlobals "_law_word" = some (some (.ref f_law_word))) (l_law_word : K.lookup f_law_word = some ⟨oc_law_word, od_law_word, .func (PySem.W.fnOf "_law_word" "_law_word" (defArgs s_law_word) (defBody s_law_word) (defScope s_law_word) .none kV_law_word dc_law_word pm_law_word an_law_word cd_law_word ct_law_word), sl_law_word⟩) (c_law_word : PySem.W.codeIn K cd_law_word "_law_word" = true) (k_law_word : PySem.W.keepIn K (.ref f_law_word) = true)
    {f_law_rd_least : Addr} {od_law_rd_least an_law_rd_least : Option Addr} {sl_law_rd_least : Array (Option Value)} {oc_law_rd_least kV_law_rd_least dc_law_rd_least pm_law_rd_least cd_law_rd_least ct_law_rd_least : Value}
    (a_law_rd_least : PySem.W.nsIn K mainGlobals "_law_rd_least" = some (some (.ref f_law_rd_least))) (l_law_rd_least : K.lookup f_law_rd_least = some ⟨oc_law_rd_least, od_law_rd_least, .func (PySem.W.fnOf "_law_rd_least" "_law_rd_least" (defArgs s_law_rd_least) (defBody s_law_rd_least) (defScope s_law_rd_least) .none kV_law_rd_least dc_law_rd_least pm_law_rd_least an_law_rd_least cd_law_rd_least ct_law_rd_least), sl_law_rd_least⟩) (c_law_rd_least : PySem.W.codeIn K cd_law_rd_least "_law_rd_least" = true) (k_law_rd_least : PySem.W.keepIn K (.ref f_law_rd_least) = true)
    {f_law_rd_letters : Addr} {od_law_rd_letters an_law_rd_letters : Option Addr} {sl_law_rd_letters : Array (Option Value)} {oc_law_rd_letters kV_law_rd_letters dc_law_rd_letters pm_law_rd_letters cd_law_rd_letters ct_law_rd_letters : Value}
    (a_law_rd_letters : PySem.W.nsIn K mainGlobals "_law_rd_letters" = some (some (.ref f_law_rd_letters))) (l_law_rd_letters : K.lookup f_law_rd_letters = some ⟨oc_law_rd_letters, od_law_rd_letters, .func (PySem.W.fnOf "_law_rd_letters" "_law_rd_letters" (defArgs s_law_rd_letters) (defBody s_law_rd_letters) (defScope s_law_rd_letters) .none kV_law_rd_letters dc_law_rd_letters pm_law_rd_letters an_law_rd_letters cd_law_rd_letters ct_law_rd_letters), sl_law_rd_letters⟩) (c_law_rd_letters : PySem.W.codeIn K cd_law_rd_letters "_law_rd_letters" = true) (k_law_rd_letters : PySem.W.keepIn K (.ref f_law_rd_letters) = true)
    {f_law_rd_drawn : Addr} {od_law_rd_drawn an_law_rd_drawn : Option Addr} {sl_law_rd_drawn : Array (Option Value)} {oc_law_rd_drawn kV_law_rd_drawn dc_law_rd_drawn pm_law_rd_drawn cd_law_rd_drawn ct_law_rd_drawn : Value}
    (a_law_rd_drawn : PySem.W.nsIn K mainGlobals "_law_rd_drawn" = some (some (.ref f_law_rd_drawn))) (l_law_rd_drawn : K.lookup f_law_rd_drawn = some ⟨oc_law_rd_drawn, od_law_rd_drawn, .func (PySem.W.fnOf "_law_rd_drawn" "_law_rd_drawn" (defArgs s_law_rd_drawn) (defBody s_law_rd_drawn) (defScope s_law_rd_drawn) .none kV_law_rd_drawn dc_law_rd_drawn pm_law_rd_drawn an_law_rd_drawn cd_law_rd_drawn ct_law_rd_drawn), sl_law_rd_drawn⟩) (c_law_rd_drawn : PySem.W.codeIn K cd_law_rd_drawn "_law_rd_drawn" = true) (k_law_rd_drawn : PySem.W.keepIn K (.ref f_law_rd_drawn) = true)
    {f_law_wider : Addr} {od_law_wider an_law_wider : Option Addr} {sl_law_wider : Array (Option Value)} {oc_law_wider kV_law_wider dc_law_wider pm_law_wider cd_law_wider ct_law_wider : Value}
    (a_law_wider : PySem.W.nsIn K mainGlobals "_law_wider" = some (some (.ref f_law_wider))) (l_law_wider : K.lookup f_law_wider = some ⟨oc_law_wider, od_law_wider, .func (PySem.W.fnOf "_law_wider" "_law_wider" (defArgs s_law_wider) (defBody s_law_wider) (defScope s_law_wider) .none kV_law_wider dc_law_wider pm_law_wider an_law_wider cd_law_wider ct_law_wider), sl_law_wider⟩) (c_law_wider : PySem.W.codeIn K cd_law_wider "_law_wider" = true) (k_law_wider : PySem.W.keepIn K (.ref f_law_wider) = true)
    {f_law_odd : Addr} {od_law_odd an_law_odd : Option Addr} {sl_law_odd : Array (Option Value)} {oc_law_odd kV_law_odd dc_law_odd pm_law_odd cd_law_odd ct_law_odd : Value}
    (a_law_odd : PySem.W.nsIn K mainGlobals "_law_odd" = some (some (.ref f_law_odd))) (l_law_odd : K.lookup f_law_odd = some ⟨oc_law_odd, od_law_odd, .func (PySem.W.fnOf "_law_odd" "_law_odd" (defArgs s_law_odd) (defBody s_law_odd) (defScope s_law_odd) .none kV_law_odd dc_law_odd pm_law_odd an_law_odd cd_law_odd ct_law_odd), sl_law_odd⟩) (c_law_odd : PySem.W.codeIn K cd_law_odd "_law_odd" = true) (k_law_odd : PySem.W.keepIn K (.ref f_law_odd) = true)
    {f_law_right : Addr} {od_law_right an_law_right : Option Addr} {sl_law_right : Array (Option Value)} {oc_law_right kV_law_right dc_law_right pm_law_right cd_law_right ct_law_right : Value}
    (a_law_right : PySem.W.nsIn K mainGlobals "_law_right" = some (some (.ref f_law_right))) (l_law_right : K.lookup f_law_right = some ⟨oc_law_right, od_law_right, .func (PySem.W.fnOf "_law_right" "_law_right" (defArgs s_law_right) (defBody s_law_right) (defScope s_law_right) .none kV_law_right dc_law_right pm_law_right an_law_right cd_law_right ct_law_right), sl_law_right⟩) (c_law_right : PySem.W.codeIn K cd_law_right "_law_right" = true) (k_law_right : PySem.W.keepIn K (.ref f_law_right) = true)
    {f_law : Addr} {od_law an_law : Option Addr} {sl_law : Array (Option Value)} {oc_law kV_law dc_law pm_law cd_law ct_law : Value}
    (a_law : PySem.W.nsIn K mainGlobals "law" = some (some (.ref f_law))) (l_law : K.lookup f_law = some ⟨oc_law, od_law, .func (PySem.W.fnOf "law" "law" (defArgs s_law) (defBody s_law) (defScope s_law) .none kV_law dc_law pm_law an_law cd_law ct_law), sl_law⟩) (c_law : PySem.W.codeIn K cd_law "law" = true) (k_law : PySem.W.keepIn K (.ref f_law) = true)
    {u_MAX_WIDTH : Value} (g_MAX_WIDTH : PySem.W.nsIn K mainGlobals "MAX_WIDTH" = some (some u_MAX_WIDTH)) (r_MAX_WIDTH : RelV (.int 5) u_MAX_WIDTH)
    {u_MAX_ROUND : Value} (g_MAX_ROUND : PySem.W.nsIn K mainGlobals "MAX_ROUND" = some (some u_MAX_ROUND)) (r_MAX_ROUND : RelV (.int 60) u_MAX_ROUND)
    {u_MOST_LETTERS : Value} (g_MOST_LETTERS : PySem.W.nsIn K mainGlobals "MOST_LETTERS" = some (some u_MOST_LETTERS)) (r_MOST_LETTERS : RelV (.int 2000) u_MOST_LETTERS)
    (z_len : PySem.W.nsIn K mainGlobals "len" = some none)
    (z_range : PySem.W.nsIn K mainGlobals "range" = some none)
    (z_isinstance : PySem.W.nsIn K mainGlobals "isinstance" = some none)
    (z_int : PySem.W.nsIn K mainGlobals "int" = some none)
    (z_bool : PySem.W.nsIn K mainGlobals "bool" = some none)
    (z_tuple : PySem.W.nsIn K mainGlobals "tuple" = some none)
    (z_list : PySem.W.nsIn K mainGlobals "list" = some none)
    (z_all : PySem.W.nsIn K mainGlobals "all" = some none)
    (z_abs : PySem.W.nsIn K mainGlobals "abs" = some none)
    (z_max : PySem.W.nsIn K mainGlobals "max" = some none)
    (z_min : PySem.W.nsIn K mainGlobals "min" = some none)
    : ∃ fd : FuncData, (∀ (s : Shared) (v : Value), BindsTo s fd ⟨[v], []⟩ [("script", v)]) ∧ ∀ base : Heap, K.In base → base.Ns mainGlobals mg → FnOk P w K mg base CX0 9 fa fd ["script"] (spLaw K) := by
  have e := hfa.symm.trans (PySem.W.mg_of X G a_law)
  cases e
  have B : Blt mg := ⟨PySem.W.mg_none_of X G z_len, PySem.W.mg_none_of X G z_range, PySem.W.mg_none_of X G z_isinstance, PySem.W.mg_none_of X G z_int, PySem.W.mg_none_of X G z_bool, PySem.W.mg_none_of X G z_tuple, PySem.W.mg_none_of X G z_list, PySem.W.mg_none_of X G z_all, PySem.W.mg_none_of X G z_abs, PySem.W.mg_none_of X G z_max, PySem.W.mg_none_of X G z_min⟩
  have m_MAX_WIDTH : ∃ u, mg "MAX_WIDTH" = some u ∧ RelV (.int 5) u := ⟨_, PySem.W.mg_of X G g_MAX_WIDTH, r_MAX_WIDTH⟩
  have m_MAX_ROUND : ∃ u, mg "MAX_ROUND" = some u ∧ RelV (.int 60) u := ⟨_, PySem.W.mg_of X G g_MAX_ROUND, r_MAX_ROUND⟩
  have m_MOST_LETTERS : ∃ u, mg "MOST_LETTERS" = some u ∧ RelV (.int 2000) u := ⟨_, PySem.W.mg_of X G g_MOST_LETTERS, r_MOST_LETTERS⟩
  refine ⟨PySem.W.fnOf "law" "law" (defArgs s_law) (defBody s_law) (defScope s_law) .none kV_law dc_law pm_law an_law cd_law ct_law, fun s v => .of_eq rfl, fun base KB GB => ?_⟩
  have F_is_integer : Dn K mg "is_integer" s_is_integer ["value"] _ _ := dn_mk l_is_integer c_is_integer k_is_integer (PySem.W.mg_of X G a_is_integer)
  have b_is_integer : Binds K _ ["value"] [] := bind_all l_is_integer fun us hl => match us, hl with | [_], _ => rfl
  have c_is_integer := F_is_integer.cl b_is_integer .nil (ok_is_integer (P := P) (w := w) (base := base) (B := B) (F := F_is_integer))
  have F_is_within : Dn K mg "is_within" s_is_within ["value", "low", "high"] _ _ := dn_mk l_is_within c_is_within k_is_within (PySem.W.mg_of X G a_is_within)
  have b_is_within : Binds K _ ["value", "low", "high"] [] := bind_all l_is_within fun us hl => match us, hl with | [_, _, _], _ => rfl
  have c_is_within := F_is_within.cl b_is_within .nil (ok_is_within (P := P) (w := w) (base := base) (B := B) (c_is_integer := c_is_integer) (F := F_is_within))
  have F_require_within : Dn K mg "require_within" s_require_within ["value", "low", "high"] _ _ := dn_mk l_require_within c_require_within k_require_within (PySem.W.mg_of X G a_require_within)
  have b_require_within : Binds K _ ["value", "low", "high"] [] := bind_all l_require_within fun us hl => match us, hl with | [_, _, _], _ => rfl
  have c_require_within := F_require_within.cl b_require_within .nil (ok_require_within (P := P) (w := w) (base := base) (B := B) (c_is_within := c_is_within) (F := F_require_within))
  have F_is_width : Dn K mg "is_width" s_is_width ["value"] _ _ := dn_mk l_is_width c_is_width k_is_width (PySem.W.mg_of X G a_is_width)
  have b_is_width : Binds K _ ["value"] [] := bind_all l_is_width fun us hl => match us, hl with | [_], _ => rfl
  have c_is_width := F_is_width.cl b_is_width .nil (ok_is_width (P := P) (w := w) (base := base) (B := B) (m_MAX_WIDTH := m_MAX_WIDTH) (c_is_within := c_is_within) (F := F_is_width))
  have F_require_width : Dn K mg "require_width" s_require_width ["value"] _ _ := dn_mk l_require_width c_require_width k_require_width (PySem.W.mg_of X G a_require_width)
  have b_require_width : Binds K _ ["value"] [] := bind_all l_require_width fun us hl => match us, hl with | [_], _ => rfl
  have c_require_width := F_require_width.cl b_require_width .nil (ok_require_width (P := P) (w := w) (base := base) (B := B) (c_is_width := c_is_width) (F := F_require_width))
  have F_is_letter : Dn K mg "is_letter" s_is_letter ["width", "value"] _ _ := dn_mk l_is_letter c_is_letter k_is_letter (PySem.W.mg_of X G a_is_letter)
  have b_is_letter : Binds K _ ["width", "value"] [] := bind_all l_is_letter fun us hl => match us, hl with | [_, _], _ => rfl
  have c_is_letter := F_is_letter.cl b_is_letter .nil (ok_is_letter (P := P) (w := w) (base := base) (B := B) (c_is_within := c_is_within) (F := F_is_letter))
  have F_is_word_in : Dn K mg "is_word_in" s_is_word_in ["width", "value", "most"] _ _ := dn_mk l_is_word_in c_is_word_in k_is_word_in (PySem.W.mg_of X G a_is_word_in)
  have FD_is_word_in := fund_mk (dvs := [.non]) (its := [.none]) l_is_word_in c_is_word_in k_is_word_in t_is_word_in (.cons rfl .nil)
  have o_is_word_in := ok_is_word_in (P := P) (w := w) (base := base) (B := B) (c_is_letter := c_is_letter) (F := F_is_word_in)
  obtain ⟨ds_is_word_in_2, vs_is_word_in_2, b_is_word_in_2⟩ := FD_is_word_in.binds1 (ps := ["width", "value", "most"]) 2 0 (by decide) (by decide) fun _ _ _ _ _ _ _ us its hl hi => match us, its, hl, hi with | [_, _], [_], _, _ => ⟨_, rfl, rfl⟩
  have c_is_word_in_2 := F_is_word_in.cl b_is_word_in_2 vs_is_word_in_2 o_is_word_in
  obtain ⟨ds_is_word_in, vs_is_word_in, b_is_word_in⟩ := FD_is_word_in.binds1 (ps := ["width", "value", "most"]) 3 1 (by decide) (by decide) fun _ _ _ _ _ _ _ us its hl hi => match us, its, hl, hi with | [_, _, _], [_], _, _ => ⟨_, rfl, rfl⟩
  have c_is_word_in := F_is_word_in.cl b_is_word_in vs_is_word_in o_is_word_in
  have F_is_round_in : Dn K mg "is_round_in" s_is_round_in ["width", "value", "most"] _ _ := dn_mk l_is_round_in c_is_round_in k_is_round_in (PySem.W.mg_of X G a_is_round_in)
  have b_is_round_in : Binds K _ ["width", "value", "most"] [] := bind_all l_is_round_in fun us hl => match us, hl with | [_, _, _], _ => rfl
  have c_is_round_in := F_is_round_in.cl b_is_round_in .nil (ok_is_round_in (P := P) (w := w) (base := base) (B := B) (c_is_word_in := c_is_word_in) (F := F_is_round_in))
  have F_require_round : Dn K mg "require_round" s_require_round ["width", "value"] _ _ := dn_mk l_require_round c_require_round k_require_round (PySem.W.mg_of X G a_require_round)
  have b_require_round : Binds K _ ["width", "value"] [] := bind_all l_require_round fun us hl => match us, hl with | [_, _], _ => rfl
  have c_require_round := F_require_round.cl b_require_round .nil (ok_require_round (P := P) (w := w) (base := base) (B := B) (c_is_round_in := c_is_round_in) (F := F_require_round))
  have F_least_round_in : Dn K mg "least_round_in" s_least_round_in ["word"] _ _ := dn_mk l_least_round_in c_least_round_in k_least_round_in (PySem.W.mg_of X G a_least_round_in)
  have b_least_round_in : Binds K _ ["word"] [] := bind_all l_least_round_in fun us hl => match us, hl with | [_], _ => rfl
  have c_least_round_in := F_least_round_in.cl b_least_round_in .nil (ok_least_round_in (P := P) (w := w) (base := base) (B := B) (F := F_least_round_in))
  have F_is_round : Dn K mg "is_round" s_is_round ["width", "value"] _ _ := dn_mk l_is_round c_is_round k_is_round (PySem.W.mg_of X G a_is_round)
  have b_is_round : Binds K _ ["width", "value"] [] := bind_all l_is_round fun us hl => match us, hl with | [_, _], _ => rfl
  have c_is_round := F_is_round.cl b_is_round .nil (ok_is_round (P := P) (w := w) (base := base) (B := B) (m_MAX_ROUND := m_MAX_ROUND) (c_require_width := c_require_width) (c_is_round_in := c_is_round_in) (F := F_is_round))
  have F_least_round : Dn K mg "least_round" s_least_round ["width", "value"] _ _ := dn_mk l_least_round c_least_round k_least_round (PySem.W.mg_of X G a_least_round)
  have b_least_round : Binds K _ ["width", "value"] [] := bind_all l_least_round fun us hl => match us, hl with | [_, _], _ => rfl
  have c_least_round := F_least_round.cl b_least_round .nil (ok_least_round (P := P) (w := w) (base := base) (B := B) (c_require_width := c_require_width) (c_require_round := c_require_round) (c_least_round_in := c_least_round_in) (F := F_least_round))
  have F_letters_of : Dn K mg "letters_of" s_letters_of ["width", "word", "many"] _ _ := dn_mk l_letters_of c_letters_of k_letters_of (PySem.W.mg_of X G a_letters_of)
  have b_letters_of : Binds K _ ["width", "word", "many"] [] := bind_all l_letters_of fun us hl => match us, hl with | [_, _, _], _ => rfl
  have c_letters_of := F_letters_of.cl b_letters_of .nil (ok_letters_of (P := P) (w := w) (base := base) (B := B) (m_MOST_LETTERS := m_MOST_LETTERS) (c_require_width := c_require_width) (c_require_round := c_require_round) (c_require_within := c_require_within) (F := F_letters_of))
  have F_law_dice : Dn K mg "_law_dice" s_law_dice ["script", "spot"] _ _ := dn_mk l_law_dice c_law_dice k_law_dice (PySem.W.mg_of X G a_law_dice)
  have b_law_dice : Binds K _ ["script", "spot"] [] := bind_all l_law_dice fun us hl => match us, hl with | [_, _], _ => rfl
  have c_law_dice := F_law_dice.cl b_law_dice .nil (ok_law_dice (P := P) (w := w) (base := base) (B := B) (F := F_law_dice))
  have F_law_roll : Dn K mg "_law_roll" s_law_roll ["dice", "total"] _ _ := dn_mk l_law_roll c_law_roll k_law_roll (PySem.W.mg_of X G a_law_roll)
  have b_law_roll : Binds K _ ["dice", "total"] [] := bind_all l_law_roll fun us hl => match us, hl with | [_, _], _ => rfl
  have c_law_roll := F_law_roll.cl b_law_roll .nil (ok_law_roll (P := P) (w := w) (base := base) (B := B) (F := F_law_roll))
  have F_law_pick : Dn K mg "_law_pick" s_law_pick ["dice", "items"] _ _ := dn_mk l_law_pick c_law_pick k_law_pick (PySem.W.mg_of X G a_law_pick)
  have b_law_pick : Binds K _ ["dice", "items"] [] := bind_all l_law_pick fun us hl => match us, hl with | [_, _], _ => rfl
  have c_law_pick := F_law_pick.cl b_law_pick .nil (ok_law_pick (P := P) (w := w) (base := base) (B := B) (c_law_roll := c_law_roll) (F := F_law_pick))
  have F_law_word : Dn K mg "_law_word" s_law_word ["dice", "width", "most"] _ _ := dn_mk l_law_word c_law_word k_law_word (PySem.W.mg_of X G a_law_word)
  have b_law_word : Binds K _ ["dice", "width", "most"] [] := bind_all l_law_word fun us hl => match us, hl with | [_, _, _], _ => rfl
  have c_law_word := F_law_word.cl b_law_word .nil (ok_law_word (P := P) (w := w) (base := base) (B := B) (c_law_roll := c_law_roll) (F := F_law_word))
  have F_law_rd_least : Dn K mg "_law_rd_least" s_law_rd_least ["before", "around"] _ _ := dn_mk l_law_rd_least c_law_rd_least k_law_rd_least (PySem.W.mg_of X G a_law_rd_least)
  have b_law_rd_least : Binds K _ ["before", "around"] [] := bind_all l_law_rd_least fun us hl => match us, hl with | [_, _], _ => rfl
  have c_law_rd_least := F_law_rd_least.cl b_law_rd_least .nil (ok_law_rd_least (P := P) (w := w) (base := base) (B := B) (F := F_law_rd_least))
  have F_law_rd_letters : Dn K mg "_law_rd_letters" s_law_rd_letters ["pair", "many"] _ _ := dn_mk l_law_rd_letters c_law_rd_letters k_law_rd_letters (PySem.W.mg_of X G a_law_rd_letters)
  have b_law_rd_letters : Binds K _ ["pair", "many"] [] := bind_all l_law_rd_letters fun us hl => match us, hl with | [_, _], _ => rfl
  have c_law_rd_letters := F_law_rd_letters.cl b_law_rd_letters .nil (ok_law_rd_letters (P := P) (w := w) (base := base) (B := B) (F := F_law_rd_letters))
  have F_law_rd_drawn : Dn K mg "_law_rd_drawn" s_law_rd_drawn ["dice", "width", "most"] _ _ := dn_mk l_law_rd_drawn c_law_rd_drawn k_law_rd_drawn (PySem.W.mg_of X G a_law_rd_drawn)
  have b_law_rd_drawn : Binds K _ ["dice", "width", "most"] [] := bind_all l_law_rd_drawn fun us hl => match us, hl with | [_, _, _], _ => rfl
  have c_law_rd_drawn := F_law_rd_drawn.cl b_law_rd_drawn .nil (ok_law_rd_drawn (P := P) (w := w) (base := base) (B := B) (c_law_word := c_law_word) (c_law_roll := c_law_roll) (F := F_law_rd_drawn))
  have F_law_wider : Dn K mg "_law_wider" s_law_wider ["dice", "pair"] _ _ := dn_mk l_law_wider c_law_wider k_law_wider (PySem.W.mg_of X G a_law_wider)
  have b_law_wider : Binds K _ ["dice", "pair"] [] := bind_all l_law_wider fun us hl => match us, hl with | [_, _], _ => rfl
  have c_law_wider := F_law_wider.cl b_law_wider .nil (ok_law_wider (P := P) (w := w) (base := base) (B := B) (c_law_roll := c_law_roll) (F := F_law_wider))
  have F_law_odd : Dn K mg "_law_odd" s_law_odd ["dice", "width", "pair"] _ _ := dn_mk l_law_odd c_law_odd k_law_odd (PySem.W.mg_of X G a_law_odd)
  have b_law_odd : Binds K _ ["dice", "width", "pair"] [] := bind_all l_law_odd fun us hl => match us, hl with | [_, _, _], _ => rfl
  have c_law_odd := F_law_odd.cl b_law_odd .nil (ok_law_odd (P := P) (w := w) (base := base) (B := B) (c_law_pick := c_law_pick) (F := F_law_odd))
  have F_law_right : Dn K mg "_law_right" s_law_right ["dice"] _ _ := dn_mk l_law_right c_law_right k_law_right (PySem.W.mg_of X G a_law_right)
  have b_law_right : Binds K _ ["dice"] [] := bind_all l_law_right fun us hl => match us, hl with | [_], _ => rfl
  have c_law_right := F_law_right.cl b_law_right .nil (ok_law_right (P := P) (w := w) (base := base) (B := B) (c_law_rd_drawn := c_law_rd_drawn) (c_law_rd_least := c_law_rd_least) (c_law_pick := c_law_pick) (c_law_roll := c_law_roll) (c_law_wider := c_law_wider) (c_letters_of := c_letters_of) (c_law_rd_letters := c_law_rd_letters) (c_least_round := c_least_round) (c_is_round := c_is_round) (c_law_odd := c_law_odd) (F := F_law_right))
  have F_law : Dn K mg "law" s_law ["script"] _ _ := dn_mk l_law c_law k_law (PySem.W.mg_of X G a_law)
  exact ok_law (P := P) (w := w) (base := base) (B := B) (m_MAX_ROUND := m_MAX_ROUND) (c_law_dice := c_law_dice) (c_is_round := c_is_round) (c_least_round := c_least_round) (c_law_right := c_law_right) (F := F_law)
end Br
open PySem PySem.W PyProof.Rows
set_option maxRecDepth 100000 in
set_option maxHeartbeats 0 in
theorem PySem.Challenge.cw_branchturns_k22_whole_round_words_holds : PySem.Challenge.rw_branchturns_k22_whole_round_words.Holds := by
  w_on; o_law; k_head; (case hw => w_witness2)
  k_fill
  refine L2.walk_of (l := PySem.Challenge.rw_branchturns_k22_whole_round_words) (n := 63) (k := 9) (x := "script") (CX := fun _ => L2.CX0) (sp := fun w => Br.spLaw _) rfl (by decide) rfl ⟨rfl, by decide, by decide⟩ (fun w h Y => PySem.W.kIn_of Y) ?F (fun _ _ a ns hl _ hS => ⟨a, ns, rfl, hS, hl, fun _ => rfl⟩) (fun _ _ _ _ _ h => h)
  case F =>
    intro w mg fa h KX G hmg
    refine' Br.all_mk KX G hmg ?a_is_integer ?l_is_integer ?c_is_integer ?k_is_integer ?a_is_within ?l_is_within ?c_is_within ?k_is_within ?a_require_within ?l_require_within ?c_require_within ?k_require_within ?a_is_width ?l_is_width ?c_is_width ?k_is_width ?a_require_width ?l_require_width ?c_require_width ?k_require_width ?a_is_letter ?l_is_letter ?c_is_letter ?k_is_letter ?a_is_word_in ?l_is_word_in ?c_is_word_in ?k_is_word_in ?t_is_word_in ?a_is_round_in ?l_is_round_in ?c_is_round_in ?k_is_round_in ?a_require_round ?l_require_round ?c_require_round ?k_require_round ?a_least_round_in ?l_least_round_in ?c_least_round_in ?k_least_round_in ?a_is_round ?l_is_round ?c_is_round ?k_is_round ?a_least_round ?l_least_round ?c_least_round ?k_least_round ?a_letters_of ?l_letters_of ?c_letters_of ?k_letters_of ?a_law_dice ?l_law_dice ?c_law_dice ?k_law_dice ?a_law_roll ?l_law_roll ?c_law_roll ?k_law_roll ?a_law_pick ?l_law_pick ?c_law_pick ?k_law_pick ?a_law_word ?l_law_word ?c_law_word ?k_law_word ?a_law_rd_least ?l_law_rd_least ?c_law_rd_least ?k_law_rd_least ?a_law_rd_letters ?l_law_rd_letters ?c_law_rd_letters ?k_law_rd_letters ?a_law_rd_drawn ?l_law_rd_drawn ?c_law_rd_drawn ?k_law_rd_drawn ?a_law_wider ?l_law_wider ?c_law_wider ?k_law_wider ?a_law_odd ?l_law_odd ?c_law_odd ?k_law_odd ?a_law_right ?l_law_right ?c_law_right ?k_law_right ?a_law ?l_law ?c_law ?k_law ?g_MAX_WIDTH ?r_MAX_WIDTH ?g_MAX_ROUND ?r_MAX_ROUND ?g_MOST_LETTERS ?r_MOST_LETTERS ?z_len ?z_range ?z_isinstance ?z_int ?z_bool ?z_tuple ?z_list ?z_all ?z_abs ?z_max ?z_min
    (case a_is_integer => k_is)
    (case l_is_integer => k_is)
    (case c_is_integer => k_is)
    (case k_is_integer => k_is)
    (case a_is_within => k_is)
    (case l_is_within => k_is)
    (case c_is_within => k_is)
    (case k_is_within => k_is)
    (case a_require_within => k_is)
    (case l_require_within => k_is)
    (case c_require_within => k_is)
    (case k_require_within => k_is)
    (case a_is_width => k_is)
    (case l_is_width => k_is)
    (case c_is_width => k_is)
    (case k_is_width => k_is)
    (case a_require_width => k_is)
    (case l_require_width => k_is)
    (case c_require_width => k_is)
    (case k_require_width => k_is)
    (case a_is_letter => k_is)
    (case l_is_letter => k_is)
    (case c_is_letter => k_is)
    (case k_is_letter => k_is)
    (case a_is_word_in => k_is)
    (case l_is_word_in => k_is)
    (case c_is_word_in => k_is)
    (case k_is_word_in => k_is)
    (case t_is_word_in => k_is)
    (case a_is_round_in => k_is)
    (case l_is_round_in => k_is)
    (case c_is_round_in => k_is)
    (case k_is_round_in => k_is)
    (case a_require_round => k_is)
    (case l_require_round => k_is)
    (case c_require_round => k_is)
    (case k_require_round => k_is)
    (case a_least_round_in => k_is)
    (case l_least_round_in => k_is)
    (case c_least_round_in => k_is)
    (case k_least_round_in => k_is)
    (case a_is_round => k_is)
    (case l_is_round => k_is)
    (case c_is_round => k_is)
    (case k_is_round => k_is)
    (case a_least_round => k_is)
    (case l_least_round => k_is)
    (case c_least_round => k_is)
    (case k_least_round => k_is)
    (case a_letters_of => k_is)
    (case l_letters_of => k_is)
    (case c_letters_of => k_is)
    (case k_letters_of => k_is)
    (case a_law_dice => k_is)
    (case l_law_dice => k_is)
    (case c_law_dice => k_is)
    (case k_law_dice => k_is)
    (case a_law_roll => k_is)
    (case l_law_roll => k_is)
    (case c_law_roll => k_is)
    (case k_law_roll => k_is)
    (case a_law_pick => k_is)
    (case l_law_pick => k_is)
    (case c_law_pick => k_is)
    (case k_law_pick => k_is)
    (case a_law_word => k_is)
    (case l_law_word => k_is)
    (case c_law_word => k_is)
    (case k_law_word => k_is)
    (case a_law_rd_least => k_is)
    (case l_law_rd_least => k_is)
    (case c_law_rd_least => k_is)
    (case k_law_rd_least => k_is)
    (case a_law_rd_letters => k_is)
    (case l_law_rd_letters => k_is)
    (case c_law_rd_letters => k_is)
    (case k_law_rd_letters => k_is)
    (case a_law_rd_drawn => k_is)
    (case l_law_rd_drawn => k_is)
    (case c_law_rd_drawn => k_is)
    (case k_law_rd_drawn => k_is)
    (case a_law_wider => k_is)
    (case l_law_wider => k_is)
    (case c_law_wider => k_is)
    (case k_law_wider => k_is)
    (case a_law_odd => k_is)
    (case l_law_odd => k_is)
    (case c_law_odd => k_is)
    (case k_law_odd => k_is)
    (case a_law_right => k_is)
    (case l_law_right => k_is)
    (case c_law_right => k_is)
    (case k_law_right => k_is)
    (case a_law => k_is)
    (case l_law => k_is)
    (case c_law => k_is)
    (case k_law => k_is)
    (case g_MAX_WIDTH => k_is)
    (case r_MAX_WIDTH => exact ⟨_, rfl⟩)
    (case g_MAX_ROUND => k_is)
    (case r_MAX_ROUND => exact ⟨_, rfl⟩)
    (case g_MOST_LETTERS => k_is)
    (case r_MOST_LETTERS => exact ⟨_, rfl⟩)
    (case z_len => k_is)
    (case z_range => k_is)
    (case z_isinstance => k_is)
    (case z_int => k_is)
    (case z_bool => k_is)
    (case z_tuple => k_is)
    (case z_list => k_is)
    (case z_all => k_is)
    (case z_abs => k_is)
    (case z_max => k_is)
    (case z_min => k_is)