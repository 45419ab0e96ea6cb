import PyProof.Rows.All
import Wide.All
import OpenK.AllK
import Wide.FinOn
import HandS.ForMost
import HandS.Wide
import HandS.IsInst
import HandS.TupAny
import HandS.TupMul
import HandS.Style
import HandS.Codes
import HandS.Zip
import HandS.Defaults
import PySem.Challenge.RW_branchturns_k11_whole_words
set_option Elab.async false
set_option linter.all false
set_option maxRecDepth 100000
set_option maxHeartbeats 4000000
/-! My own layer over HandS: heaps that keep all but one list, rules that lack, the dice of the laws. -/
namespace Br
open PySem PySem.Spec PyProof.Rows L2

/-! ### heaps -/
/-- all is kept but the list at d -/
def Kd (d : Addr) (H H' : Hp) : Prop := ∀ a o, H a = some o → (a = d → ∀ xs, o ≠ .lst xs) → H' a = some o
theorem Kd.refl {d : Addr} {H : Hp} : Kd d H H := fun _ _ h _ => h
theorem Kd.trans {d : Addr} {H H1 H2 : Hp} (a : Kd d H H1) (b : Kd d H1 H2) : Kd d H H2 := fun c o h n => b c o (a c o h n) n
theorem Kd.same {d : Addr} {H H' : Hp} (s : Same H H') : Kd d H H' := fun c o h _ => s c o h
theorem Kd.rd {d a : Addr} {H H' : Hp} {u : HO} (k : Kd d H H') (h : Rd H a u) (n : a = d → ∀ xs, u ≠ .lst xs) : Rd H' a u := by
  rcases h with h | ⟨o, h⟩
  · exact .inl (k _ _ h n)
  · exact .inr ⟨o, k _ _ h fun _ _ z => nomatch z⟩
theorem Kd.tup {d a : Addr} {K : PySem.W.Frag} {H H' : Hp} {xs : List V} (k : Kd d H H') (h : SqT K H a xs) : SqT K H' a xs := by
  rcases h with h | h
  · exact .inl (k.rd h fun _ _ z => nomatch z)
  · exact .inr h
theorem Kd.lst {d a : Addr} {K : PySem.W.Frag} {H H' : Hp} {xs : List V} (k : Kd d H H') (n : a ≠ d) (h : SqL K H a xs) : SqL K H' a xs := by
  rcases h with h | h
  · exact .inl (k.rd h fun z => (n z).elim)
  · exact .inr h
theorem Kd.free {d a : Addr} {H H' : Hp} (k : Kd d H H') (n : a ≠ d) (h : H' a = none) : H a = none := by
  cases e : H a with
  | none => rfl
  | some o =>
    rw [k a o e fun z => (n z).elim] at h
    cases h
theorem same_new {H : Hp} {p : Addr} {o : HO} (h : H p = none) : Same H (upd H p o) := fun a u e => by
  rw [upd_ne (ne_of_none e h)]
  exact e
theorem same_tup {K : PySem.W.Frag} {H H' : Hp} {a : Addr} {xs : List V} (e : Same H H') (h : SqT K H a xs) : SqT K H' a xs := Kd.tup (d := a) (Kd.same e) h
theorem kd_upd {d : Addr} {H : Hp} {o : HO} {xs : List V} (h : H d = some (.lst xs)) : Kd d H (upd H d o) := fun a u e n => by
  by_cases z : a = d
  · subst z
    rw [h] at e
    cases e
    exact absurd rfl (n rfl xs)
  · rw [upd_ne z]
    exact e
theorem sT {K : PySem.W.Frag} {H : Hp} {a : Addr} {xs : List V} (h : H a = some (.tup xs)) : SqT K H a xs := .inl (.inl h)
theorem sL {K : PySem.W.Frag} {H : Hp} {a : Addr} {xs : List V} (h : H a = some (.lst xs)) : SqL K H a xs := .inl (.inl h)
theorem sz {n : Nat} (h : n ≤ 1000000) : n ≤ sizeLine := Nat.le_trans h (by decide)
theorem szl {n : Nat} (h : n < 1000000) : n < sizeLine := Nat.lt_of_lt_of_le h (by decide)

/-! ### rules that lack -/
section
variable {X : Cx}
/-- ** of a great base -/
theorem op_powW : OpR X (binaryOp .Pow) (rI (fun i j => 0 ≤ j ∧ (Builtin.Int.intBits i : Int) * j ≤ 2 ^ 27) fun i j => .int (i ^ j.toNat)) := opI fun _ _ _ _ _ _ _ hc q => pow_int hc.1 hc.2 q
end
section
open HT
variable {prog : Program} {w : World} {A : Around} {E : Value → Shared → Prop} {s : Shared}
theorem rev_places (n : Nat) : Builtin.Slice.slicePlaces ((n : Int) - 1) (-1) (-1) = n := by
  unfold Builtin.Slice.slicePlaces
  rw [if_neg (by decide)]
  simp only [Int.neg_neg, Int.ediv_one]
  split <;> omega
theorem rev_adjust (n : Nat) : Builtin.Slice.sliceAdjust none none (-1) (n : Int) = ((n : Int) - 1, -1) := rfl
theorem rev_applied {sl : Addr} {vs : Value} {n : Nat} {Q : Int × Int × Nat → Shared → Prop} (hs : s.heap.IsSliceOf sl .none .none vs) (ps : IsPart vs (some (-1))) (h : Q ((n : Int) - 1, -1, n) s) :
    wpAny (model prog w) A (Builtin.Slice.sliceApplied (.ref sl) (pure (n : Int))) Q E s := by
  obtain ⟨os, hos, hcs, hds⟩ := id hs
  unfold Builtin.Slice.sliceApplied Builtin.Slice.sliceFields
  refine wpAny_bind (wpAny_bind (wpAny_field hos hds (x := .none) rfl (wpAny_bind (wpAny_field hos hds (x := .none) rfl (wpAny_bind (wpAny_field hos hds (x := vs) rfl (wpAny_pure ?_)))))))
  refine wpAny_bind (slicePart_ ps ?_)
  show wpAny _ _ (if ((-1 : Int) == 0) = true then _ else _) _ _ s
  rw [if_neg (by decide)]
  refine wpAny_bind (slicePart_ .none (wpAny_bind (slicePart_ .none (wpAny_bind (wpAny_pure ?_)))))
  show wpAny _ _ (match Builtin.Slice.sliceAdjust none none (-1) (n : Int) with | (lo, hi) => pure (lo, (-1 : Int), Builtin.Slice.slicePlaces lo hi (-1))) _ _ s
  rw [rev_adjust n]
  show wpAny _ _ (pure ((n : Int) - 1, (-1 : Int), Builtin.Slice.slicePlaces ((n : Int) - 1) (-1) (-1))) _ _ s
  rw [rev_places]
  exact wpAny_pure h
theorem rev_pick (xs : List Value) : ((List.range xs.length).filterMap fun (k : Nat) => xs.toArray[(((xs.length : Nat) : Int) - 1 + (k : Int) * -1).toNat]?) = xs.reverse := by
  have e : ∀ (n : Nat), n ≤ xs.length → ((List.range n).filterMap fun (k : Nat) => xs.toArray[(((xs.length : Nat) : Int) - 1 + (k : Int) * -1).toNat]?) = xs.reverse.take n := by
    intro n
    induction n with
    | zero => intro _; rfl
    | succ n ih =>
      intro h
      rw [List.range_succ, List.filterMap_append, ih (by omega), List.take_add_one]
      congr 1
      have e1 : (((xs.length : Nat) : Int) - 1 + (n : Int) * -1).toNat = xs.length - 1 - n := by omega
      have h2 : xs.reverse[n]? = xs[xs.length - 1 - n]? := by rw [List.getElem?_reverse (by omega)]
      rw [h2]
      simp only [List.filterMap_cons, List.filterMap_nil, e1, List.getElem?_toArray]
      cases xs[xs.length - 1 - n]? <;> rfl
  have := e xs.length (Nat.le_refl _)
  rw [this, List.take_of_length_le (by rw [List.length_reverse]; exact Nat.le_refl _)]
theorem getItem_tuple_rev {t sl : Addr} {its : List Value} {vs : Value} {Q : Value → Shared → Prop} (ht : IsTup s.heap t its.toArray) (hs : s.heap.IsSliceOf sl .none .none vs) (ps : IsPart vs (some (-1))) (hz : its.length ≤ sizeLine)
    (h : Q (.ref s.heap.objs.size) { s with heap := s.heap.push { cls := .type "tuple", data := .seq its.reverse.toArray } }) : wpAny (model prog w) A (getItem (.ref t) (.ref sl)) Q E s := by
  have htake : sizeOk (.seq its.reverse.toArray) := by
    show its.reverse.toArray.size ≤ sizeLine
    rw [List.size_toArray, List.length_reverse]
    exact hz
  obtain ⟨os, hos, hcs, hds⟩ := id hs
  have hTs : s.TypeIs (.ref sl) "slice" := ⟨os, hos, hcs⟩
  unfold getItem
  try with_reducible refine wpAny_holding ?_
  first | refine wpAny_bind (wpAny_pure ?_) | skip
  refine wpAny_bind (wpAny_sequenceKey ht.typeIs (by decide) ?_)
  refine wpAny_bind (wpAny_callSpecial?_slot (name := Str.ofString "__getitem__") ht.typeIs PyProof.Rows.slot_tuple_getitem
    (wpAny_call_entry PyProof.Rows.slot_tuple_getitem ht.typeIs entry_tuple_getitem ?_ (args_tuple_getitem _ _)))
  show wpAny _ _ (Builtin.Tuple.tupleItemsOf (.ref t) >>= _) _ _ s
  refine wpAny_bind (tupleItemsOf_ ht ?_)
  refine wpAny_bind (wpAny_typeOf hTs ?_)
  rw [if_pos (by decide)]
  refine wpAny_bind (rev_applied (n := its.toArray.size) hs ps ?_)
  have hno : ¬ ((((its.toArray.size : Nat) : Int) - 1 == 0 && (-1 : Int) == 1 && its.toArray.size == its.toArray.size) = true) := by
    intro q
    rw [Bool.and_eq_true, Bool.and_eq_true] at q
    exact absurd q.1.2 (by decide)
  show wpAny _ _ (if (((its.toArray.size : Nat) : Int) - 1 == 0 && (-1 : Int) == 1 && its.toArray.size == its.toArray.size) = true then _ else _) _ _ s
  rw [if_neg hno, List.size_toArray, rev_pick]
  first
    | exact wpAny_bind (m := Builtin.Tuple.tupleExact _) (wpAny_newObj_type (wpAny_pure ⟨_, rfl, wpAny_pure h⟩) htake)
    | exact wpAny_bind (m := Builtin.Tuple.tupleExact _) (wpAny_newObj_type (wpAny_bind (wpAny_pure (wpAny_pure ⟨_, rfl, wpAny_pure h⟩))) htake)
    | exact wpAny_bind (wpAny_bind (m := Builtin.Tuple.tupleExact _) (wpAny_newObj_type (wpAny_pure (wpAny_pure ⟨_, rfl, wpAny_pure h⟩)) htake))
    | exact wpAny_bind (wpAny_bind (m := Builtin.Tuple.tupleExact _) (wpAny_newObj_type (wpAny_pure ⟨_, rfl, wpAny_pure h⟩) htake))
end
section
variable {X : Cx}
/-- t[::-1], t a tuple -/
def tRevT (K : PySem.W.Frag) (te : TE) : TE := fun σ H Q => te σ H fun x H1 => ∃ a xs, x = .ref a ∧ SqT K H1 a xs ∧ ∀ p, H1 p = none → Q (.ref p) (upd H1 p (.tup xs.reverse))
theorem pe_revT {e : Expr} {te : TE} {k : Nat} {p1 p2 p3 pos : Pos} (he : PE X e te) : PE X (.Subscript e (.Slice none none (some (.UnaryOp .USub (.Constant (.int 1) k p1) p2)) p3) pos) (tRevT X.K te) := by
  refine ⟨fun pins s σ H Q I h => Subscript_ (thn (he.run pins s σ H _ I h) fun v s1 ⟨x, H1, I1, r1, a, xs, ex, hx, q⟩ => ?_)⟩
  subst ex
  cases r1
  have hst : PO X (some (.UnaryOp .USub (.Constant (.int 1) k p1) p2)) (tPart (tUn (rU fun i => .int (-i)) (tC (.int 1)))) := po_some (pe_un un_neg pe_int)
  refine wpAny_Slice (thn (po_none.run pins s1 σ H1 (fun o H2 => o = none ∧ H2 = H1) I1 ⟨rfl, rfl⟩) fun vl s2 ⟨l, H2, I2, pl, el, e2⟩ => ?_)
  subst el e2
  refine thn (po_none.run pins s2 σ H2 (fun o H3 => o = none ∧ H3 = H2) I2 ⟨rfl, rfl⟩) fun vu s3 ⟨u, H3, I3, pu, eu, e3⟩ => ?_
  subst eu e3
  refine thn (hst.run pins s3 σ H3 (fun o H4 => o = some (-1) ∧ H4 = H3) I3 ⟨1, rfl, -1, rfl, rfl, rfl⟩) fun vs s4 ⟨o, H4, I4, ps, eo, e4⟩ => ?_
  subst eo e4
  cases pl
  cases pu
  have I5 : Inv X pins σ H4 { s4 with heap := s4.heap.push { cls := .type "slice", data := .fields #[.none, .none, vs] } } := I4.kept (t' := s4.toks) fun b ob q => Heap.get?_push_of_some _ q
  obtain ⟨its, r, ht, hz⟩ := I5.tuple hx
  have hlen := r.length
  refine tail_any (ops := [.ref a, .ref s4.heap.objs.size]) ht.typeIs PyProof.Rows.slot_tuple_getitem.lookup ?_ (by with_unfolding_all rfl)
  refine getItem_tuple_rev ht (Heap.IsSliceOf.new _ .none .none vs) ps (by omega) ?_
  refine ⟨.ref _, _, I5.laid (t' := s4.toks) (o := .tup xs.reverse) (fun b ob q => Heap.get?_push_of_some _ q) (Nat.le_refl _) ?_, rfl, q _ (I5.hok.fresh (Nat.le_refl _))⟩
  exact ⟨by rw [List.length_reverse]; exact hz, _, r.reverse, IsTup.new _ _⟩
end
end Br

namespace Br
open PySem PySem.Spec PyProof.Rows L2
/-! ### defs by their names -/
/-- a def that may be called by its name, with these defaults; CX: what it may let out -/
structure Cl (CX : CXT) (P : Program) (w : World) (K : PySem.W.Frag) (mg : Str → Option Value) (base : Heap) (k : Nat) (x : Str) (sp : Sp) (dvs : List V) : Prop where
  ex : ∃ (f : Addr) (fd : FuncData) (ps : List Str) (ds : List Value), FnOk P w K mg base CX k f fd ps sp ∧ mg x = some (.ref f) ∧ PySem.W.keepIn K (.ref f) = true ∧ Binds K fd ps ds ∧ Vals dvs ds
/-- a def of the text as it stands behind the top -/
structure Dn (K : PySem.W.Frag) (mg : Str → Option Value) (x : Str) (st : Stmt) (ps : List Str) (f : Addr) (fd : FuncData) : Prop where
  ex : ∃ (oc : Value) (od : Option Addr) (dV kV doc pm : Value) (an : Option Addr) (cdv ct : Value) (osl : Array (Option Value)),
    fd = PySem.W.fnOf x x (defArgs st) (defBody st) (defScope st) dV kV doc pm an cdv ct ∧ K.lookup f = some ⟨oc, od, .func fd, osl⟩ ∧ PySem.W.codeIn K cdv x = true
  kp : PySem.W.keepIn K (.ref f) = true
  mgf : mg x = some (.ref f)
section
variable {P : Program} {w : World} {K : PySem.W.Frag} {mg : Str → Option Value} {base : Heap}
theorem Dn.ok {x : Str} {st : Stmt} {f : Addr} {fd : FuncData} {N ps : List Str} {k : Nat} {sp : Sp} (F : Dn K mg x st ps f fd) (S : FnScope N ps (defScope st)) (len : ∀ vs H Q E, sp vs H Q E → vs.length = ps.length)
    (hbody : ∀ (cdv : Value) (A : Around) (outer : List Env) (s : Shared) (H : Hp) (vs : List V) (Q : VK) (E : XK), Room k (A.deeper (envOfC x (defScope st) s.heap.objs.size f cdv)) → sp vs H Q E →
      ∃ t, PSs (cxOf CX0 P w K mg base N x (defScope st) f cdv A outer s H E).nox (defBody st) t ∧ t { nx := fun _ H' => Q .non H', rt := Q } (start N vs) H) : FnOk P w K mg base CX0 (k + 1) f fd ps sp := by
  obtain ⟨oc, od, dV, kV, doc, pm, an, cdv, ct, osl, rfl, lk, hcd⟩ := F.ex
  refine fn_of lk hcd S len fun A outer s H vs Q E hr hsp => ?_
  obtain ⟨t, h, q⟩ := hbody cdv A outer s H vs Q E hr hsp
  exact ⟨t, h.nox, q⟩
theorem Dn.cl {CX : CXT} {x : Str} {st : Stmt} {f : Addr} {fd : FuncData} {ps : List Str} {k : Nat} {sp : Sp} {ds : List Value} {dvs : List V} (F : Dn K mg x st ps f fd) (b : Binds K fd ps ds) (d : Vals dvs ds) (h : FnOk P w K mg base CX k f fd ps sp) :
    Cl CX P w K mg base k x sp dvs := ⟨f, fd, ps, ds, h, F.mgf, F.kp, b, d⟩
theorem dn_mk {x : Str} {st : Stmt} {ps : List Str} {f : Addr} {oc : Value} {od an : Option Addr} {osl : Array (Option Value)} {dV kV doc pm cdv ct : Value}
    (l : K.lookup f = some ⟨oc, od, .func (PySem.W.fnOf x x (defArgs st) (defBody st) (defScope st) dV kV doc pm an cdv ct), osl⟩)
    (c : PySem.W.codeIn K cdv x = true) (k : PySem.W.keepIn K (.ref f) = true) (m : mg x = some (.ref f)) : Dn K mg x st ps f (PySem.W.fnOf x x (defArgs st) (defBody st) (defScope st) dV kV doc pm an cdv ct) :=
  ⟨⟨oc, od, dV, kV, doc, pm, an, cdv, ct, osl, rfl, l, c⟩, k, m⟩
end
section
variable {X : Cx} {k j : Nat} {x : Str} {sp : Sp} {dvs : List V} {p pos : Pos} {e : Expr} {es : List Expr} {t : TA}
theorem pe_c (c : Cl CX0 X.prog X.w X.K X.mg X.base k x sp dvs) (hr : Room j X.A) (hk : k ≤ j) (hg : Gl X x) (ha : PA X (e :: es) t)
    (hdb : (x == ("__debug__" : Str)) = false := by decide) (he : starEach (e :: es) X.env = (false, eval e X.env) :: starEach es X.env := by rfl) (hpl : (backTo pos (starEach es X.env)).any (·.1) = false := by rfl) :
    PE X (.Call (.Name x p) (e :: es) [] pos) (tCall sp dvs E0 t) := by
  obtain ⟨f, fd, ps, ds, F, hm, kp, b, d⟩ := c.ex
  exact pe_call F (hr.mono hk) hg hm kp b d pass0 ha hdb he hpl
theorem pe_gc {v : V} (hg : Gl X x) (h : ∃ u, X.mg x = some u ∧ RelV v u) (hd : (x == ("__debug__" : Str)) = false := by decide) : PE X (.Name x pos) (tC v) := by
  obtain ⟨u, hm, r⟩ := h
  exact pe_glob hg hm r hd
end

/-! ### values of known kinds -/
/-- a value whose built-in type is known -/
inductive Kn (K : PySem.W.Frag) (H : Hp) : V → Prop where
  | non : Kn K H .non
  | bl (b : Bool) : Kn K H (.bl b)
  | int (i : Int) : Kn K H (.int i)
  | str (x : Str) : Kn K H (.str x)
  | lst {a : Addr} {xs : List V} (h : H a = some (.lst xs)) : Kn K H (.ref a)
  | tup {a : Addr} {xs : List V} (h : SqT K H a xs) : Kn K H (.ref a)
  | dK {a : Addr} {kvs : List (Key × V)} (h : H a = some (.dK kvs)) : Kn K H (.ref a)
/-- an int, but no bool -/
def isI : V → Bool
  | .int _ => true
  | _ => false
def isIB : V → Bool
  | .int _ => true
  | .bl _ => true
  | _ => false
def isB : V → Bool
  | .bl _ => true
  | _ => false
theorem tyT {K : PySem.W.Frag} {H : Hp} {a : Addr} {xs : List V} (h : SqT K H a xs) : TyX K H (.ref a) (.type "tuple") := by
  rcases h with (h | ⟨o, h⟩) | ⟨o, its, n, h1, h2, _⟩
  · exact .base (.tup h)
  · exact .fTuple h
  · exact .kTuple h1 h2
theorem kq {K : PySem.W.Frag} {a b : String} (r : Bool) {r' : Bool} (h : kitB a b = some r) (e : r = r') : PySem.W.kitOne K (.type a) (.type b) = some r' := by
  rw [← e]
  exact kit_ty h
theorem Kn.int_of {K : PySem.W.Frag} {H : Hp} {v : V} (k : Kn K H v) : ∃ t, TyX K H v t ∧ PySem.W.kitOne K t (.type "int") = some (isIB v) ∧ PySem.W.kitOne K t (.type "bool") = some (isB v) := by
  cases k with
  | non => exact ⟨_, .base .non, kq false (by decide +kernel) rfl, kq false (by decide +kernel) rfl⟩
  | bl b => exact ⟨_, .base (.bl b), kq true (by decide +kernel) rfl, kq true (by decide +kernel) rfl⟩
  | int i => exact ⟨_, .base (.int i), kq true (by decide +kernel) rfl, kq false (by decide +kernel) rfl⟩
  | str x => exact ⟨_, .base (.str x), kq false (by decide +kernel) rfl, kq false (by decide +kernel) rfl⟩
  | lst h => exact ⟨_, .base (.lst h), kq false (by decide +kernel) rfl, kq false (by decide +kernel) rfl⟩
  | tup h => exact ⟨_, tyT h, kq false (by decide +kernel) rfl, kq false (by decide +kernel) rfl⟩
  | dK h => exact ⟨_, .base (.dK h), kq false (by decide +kernel) rfl, kq false (by decide +kernel) rfl⟩
/-- no tuple -/
inductive NoT (H : Hp) : V → Prop where
  | non : NoT H .non
  | bl (b : Bool) : NoT H (.bl b)
  | int (i : Int) : NoT H (.int i)
  | str (x : Str) : NoT H (.str x)
  | lst {a : Addr} {xs : List V} (h : H a = some (.lst xs)) : NoT H (.ref a)
  | dK {a : Addr} {kvs : List (Key × V)} (h : H a = some (.dK kvs)) : NoT H (.ref a)
theorem NoT.kn {K : PySem.W.Frag} {H : Hp} {v : V} (k : NoT H v) : Kn K H v := by
  cases k with
  | non => exact .non
  | bl b => exact .bl b
  | int i => exact .int i
  | str x => exact .str x
  | lst h => exact .lst h
  | dK h => exact .dK h
theorem NoT.ty {K : PySem.W.Frag} {H : Hp} {v : V} (k : NoT H v) : ∃ t, TyX K H v t ∧ PySem.W.kitOne K t (.type "tuple") = some false := by
  cases k with
  | non => exact ⟨_, .base .non, kit_ty (by decide +kernel)⟩
  | bl b => exact ⟨_, .base (.bl b), kit_ty (by decide +kernel)⟩
  | int i => exact ⟨_, .base (.int i), kit_ty (by decide +kernel)⟩
  | str x => exact ⟨_, .base (.str x), kit_ty (by decide +kernel)⟩
  | lst h => exact ⟨_, .base (.lst h), kit_ty (by decide +kernel)⟩
  | dK h => exact ⟨_, .base (.dK h), kit_ty (by decide +kernel)⟩
theorem kit_tt {K : PySem.W.Frag} : PySem.W.kitOne K (.type "tuple") (.type "tuple") = some true := kit_ty (by decide +kernel)

/-! ### data: tuples of ints, tuples of those -/
def dI (ns : List Int) : PyData := .tuple (ns.map .int)
theorem dpAllI {K : PySem.W.Frag} {H : Hp} : ∀ ns : List Int, DpAll K H (ns.map V.int) (ns.map PyData.int)
  | [] => .nil
  | i :: r => .cons (.int i) (dpAllI r)
theorem dpI {K : PySem.W.Frag} {H : Hp} {a : Addr} {ns : List Int} (h : SqT K H a (ns.map V.int)) : Dp K H (.ref a) (dI ns) := .tup h (dpAllI ns)
theorem layI : ∀ ns : List Int, PyData.canLayAll0 (ns.map PyData.int) = true
  | [] => rfl
  | i :: r => by
    show (PyData.canLay0 (.int i) && PyData.canLayAll0 (r.map PyData.int)) = true
    rw [layI r] <;> rfl
theorem depI : ∀ ns : List Int, PyData.depthAll (ns.map PyData.int) ≤ 1
  | [] => by decide
  | i :: r => by
    show max (PyData.depth (.int i)) (PyData.depthAll (r.map PyData.int)) ≤ 1
    have := depI r
    have e : PyData.depth (.int i) ≤ 1 := by
      show _ ≤ _
      simp [PyData.depth]
    omega
theorem shI (ns : List Int) : SeqAt.shaped (dI ns) = true := by
  have h2 : PyData.depth (dI ns) ≤ 64 := by
    show PyData.depthAll (ns.map PyData.int) + 1 ≤ 64
    have := depI ns
    omega
  show (PyData.canLayAll0 (ns.map PyData.int) && decide (PyData.depth (dI ns) ≤ 64)) = true
  rw [layI, decide_eq_true h2] <;> rfl
def dII (wss : List (List Int)) : PyData := .tuple (wss.map dI)
theorem layII : ∀ wss : List (List Int), PyData.canLayAll0 (wss.map dI) = true
  | [] => rfl
  | i :: r => by
    show (PyData.canLayAll0 (i.map PyData.int) && PyData.canLayAll0 (r.map dI)) = true
    rw [layII r, layI] <;> rfl
theorem depII : ∀ wss : List (List Int), PyData.depthAll (wss.map dI) ≤ 2
  | [] => by decide
  | i :: r => by
    show max (PyData.depthAll (i.map PyData.int) + 1) (PyData.depthAll (r.map dI)) ≤ 2
    have := depII r
    have := depI i
    omega
theorem shII (wss : List (List Int)) : SeqAt.shaped (dII wss) = true := by
  have h2 : PyData.depth (dII wss) ≤ 64 := by
    show PyData.depthAll (wss.map dI) + 1 ≤ 64
    have := depII wss
    omega
  show (PyData.canLayAll0 (wss.map dI) && decide (PyData.depth (dII wss) ≤ 64)) = true
  rw [layII, decide_eq_true h2] <;> rfl
theorem eqvr {d : PyData} (h : SeqAt.shaped d = true) : PyData.eqv d d = true := SeqAt.eqv_refl d (SeqAt.canLay_of_shaped h)
/-- addresses of tuples of ints -/
inductive Tups (K : PySem.W.Frag) (H : Hp) : List V → List (List Int) → Prop where
  | nil : Tups K H [] []
  | cons {a : Addr} {ns : List Int} {vs : List V} {wss : List (List Int)} (h : SqT K H a (ns.map V.int)) (t : Tups K H vs wss) : Tups K H (.ref a :: vs) (ns :: wss)
theorem Tups.len {K : PySem.W.Frag} {H : Hp} {vs : List V} {wss : List (List Int)} (t : Tups K H vs wss) : vs.length = wss.length := by
  induction t with
  | nil => rfl
  | cons h t ih => simp [ih]
theorem Tups.mono {K : PySem.W.Frag} {H H' : Hp} {d : Addr} (k : Kd d H H') {vs : List V} {wss : List (List Int)} (t : Tups K H vs wss) : Tups K H' vs wss := by
  induction t with
  | nil => exact .nil
  | cons h t ih => exact .cons (k.tup h) ih
theorem Tups.app {K : PySem.W.Frag} {H : Hp} {vs us : List V} {wss xss : List (List Int)} (t : Tups K H vs wss) (u : Tups K H us xss) : Tups K H (vs ++ us) (wss ++ xss) := by
  induction t with
  | nil => exact u
  | cons h t ih => exact .cons h ih
theorem Tups.dp {K : PySem.W.Frag} {H : Hp} {vs : List V} {wss : List (List Int)} (t : Tups K H vs wss) : DpAll K H vs (wss.map dI) := by
  induction t with
  | nil => exact .nil
  | cons h t ih => exact .cons (dpI h) ih
theorem Tups.get {K : PySem.W.Frag} {H : Hp} {vs : List V} {wss : List (List Int)} (t : Tups K H vs wss) : ∀ {i : Nat} {ns : List Int}, wss[i]? = some ns → ∃ a, vs[i]? = some (.ref a) ∧ SqT K H a (ns.map V.int) := by
  induction t with
  | nil => intro i ns h; simp at h
  | @cons a ms vs wss h t ih =>
    intro i ns e
    cases i with
    | zero =>
      rw [List.getElem?_cons_zero] at e
      cases e
      exact ⟨a, rfl, h⟩
    | succ i => exact ih (by rw [List.getElem?_cons_succ] at e; exact e)
theorem dpII {K : PySem.W.Frag} {H : Hp} {a : Addr} {vs : List V} {wss : List (List Int)} (h : SqT K H a vs) (t : Tups K H vs wss) : Dp K H (.ref a) (dII wss) := .tup h t.dp

/-! ### the dice -/
/-- the dice stand at d; at most n rolls were mixed so far -/
def Dice (H : Hp) (d : Addr) (n : Nat) : Prop := ∃ g s c : Int, H d = some (.lst [.int g, .int s, .int c]) ∧ 0 ≤ g ∧ g.natAbs < 2 ^ 1100 ∧ 0 ≤ s ∧ s.natAbs < 2 ^ 72 ∧ 0 ≤ c ∧ c ≤ n
theorem Dice.more {H : Hp} {d : Addr} {n m : Nat} (h : Dice H d n) (l : n ≤ m) : Dice H d m := by
  obtain ⟨g, s, c, h1, h2, h3, h4, h5, h6, h7⟩ := h
  exact ⟨g, s, c, h1, h2, h3, h4, h5, h6, by omega⟩
theorem Dice.same {H H' : Hp} {d : Addr} {n : Nat} (h : Dice H d n) (e : Same H H') : Dice H' d n := by
  obtain ⟨g, s, c, h1, h2⟩ := h
  exact ⟨g, s, c, e _ _ h1, h2⟩
theorem Dice.ne {H : Hp} {d a : Addr} {n : Nat} (h : Dice H d n) (e : H a = none) : a ≠ d := by
  obtain ⟨g, s, c, h1, _⟩ := h
  intro z
  rw [z, h1] at e
  cases e
end Br

namespace Br
open PySem PySem.Spec PyProof.Rows L2
/-! ### readings of what makes tuples, in one way -/
section
variable {K : PySem.W.Frag} {H : Hp} {a b : Addr} {xs ys : List V} {Q : VK}
theorem cat_ok (ha : SqT K H a xs) (hb : SqT K H b ys) (hl : xs.length + ys.length ≤ 1000000) (q : ∀ p H', Same H H' → SqT K H' p (xs ++ ys) → Q (.ref p) H') : rCatA K (.ref a) (.ref b) H Q :=
  ⟨a, b, xs, ys, rfl, rfl, ha, hb, sz hl, fun e => q b H (Same.refl H) (by rw [e]; exact hb), fun _ e => q a H (Same.refl H) (by rw [e, List.append_nil]; exact ha), fun _ _ p np => q p _ (same_new np) (sT upd_same)⟩
theorem sl_ok {lo hi : Option Int} (ha : SqT K H a xs) (q : ∀ p H', Same H H' → SqT K H' p (cutV xs lo hi) → Q (.ref p) H') : rSlA K (.ref a) lo hi H Q := by
  refine ⟨a, xs, rfl, ha, fun e => q a H (Same.refl H) ?_, fun _ p np => q p _ (same_new np) (sT upd_same)⟩
  have z : cutV xs lo hi = xs := by
    unfold cutV
    rw [e.1, e.2, List.drop_zero, Nat.sub_zero, List.take_length]
  rw [z]
  exact ha
end
end Br

namespace Br
open PySem PySem.Spec PyProof.Rows L2
/-! ### the rules with the written part named (within a comprehension it cannot be found) -/
section
variable {X : Cx} (K : PySem.W.Frag)
theorem op_catK (h : X.K = K) : OpR X (binaryOp .Add) (rCatA K) := by
  subst h
  exact op_catA
theorem op_repK (h : X.K = K) : OpR X (binaryOp .Mult) (rRepT K) := by
  subst h
  exact op_repT
theorem op_eqK (h : X.K = K) (hu : X.A.units + 64 < cLine) : OpR X (compareOp .Eq) (rEqD K) := by
  subst h
  exact op_eqD hu
theorem op_neK (h : X.K = K) (hu : X.A.units + 64 < cLine) : OpR X (compareOp .NotEq) (rNeD K) := by
  subst h
  exact op_neD hu
theorem op_inK (h : X.K = K) : OpR X (compareOp .In) (rIn K false) := by
  subst h
  exact op_in_seq
theorem op_ninK (h : X.K = K) : OpR X (compareOp .NotIn) (rIn K true) := by
  subst h
  exact op_notIn_seq
theorem ix_lK (h : X.K = K) : IxR X (rIxL K) := by
  subst h
  exact ix_list
theorem ix_tK (h : X.K = K) : IxR X (rIxT K) := by
  subst h
  exact ix_tup
theorem sl_lK (h : X.K = K) : SlR X (rSlL K) := by
  subst h
  exact sl_list
theorem sl_tK (h : X.K = K) : SlR X (rSlA K) := by
  subst h
  exact sl_tupA
def rLenK (K : PySem.W.Frag) : List V → Hp → VK → Prop := fun xs H Q => ∃ p ys, xs = [.ref p] ∧ (SqL K H p ys ∨ SqT K H p ys) ∧ Q (.int ys.length) H
theorem call_lenK (h : X.K = K) : CallR X (.builtin "len") (rLenK K) := by
  subst h
  exact call_len_seq
def rTupK (K : PySem.W.Frag) : List V → Hp → VK → Prop := fun xs H Q => ∃ p ys, xs = [.ref p] ∧ ((SqL K H p ys ∧ ∀ l, H l = none → Q (.ref l) (upd H l (.tup ys))) ∨ (SqT K H p ys ∧ Q (.ref p) H))
theorem call_tupK (h : X.K = K) : CallR X (.type "tuple") (rTupK K) := by
  subst h
  exact call_tuple_of
def rLstK (K : PySem.W.Frag) : List V → Hp → VK → Prop := fun xs H Q => ∃ p ys, xs = [.ref p] ∧ (SqL K H p ys ∨ SqT K H p ys) ∧ ∀ l, H l = none → Q (.ref l) (upd H l (.lst ys))
theorem call_lstK (h : X.K = K) : CallR X (.type "list") (rLstK K) := by
  subst h
  exact call_list_of
theorem call_isK (h : X.K = K) : CallR X (.builtin "isinstance") (rIsi K) := by
  subst h
  exact call_isi
theorem cr_allK (h : X.K = K) (hc : X.calm = true) : CallR X (.builtin "all") (rAll K) := by
  subst h
  exact cr_all hc
theorem cr_anyK (h : X.K = K) (hc : X.calm = true) : CallR X (.builtin "any") (rAny K) := by
  subst h
  exact cr_any hc
theorem cr_sumK (h : X.K = K) (hc : X.calm = true) : CallR X (.builtin "sum") (rSum K) := by
  subst h
  exact cr_sum hc
theorem pi_lK {tg l : Expr} {tl : TE} (h : X.K = K) (hl : PE X l tl) : PI X tg l (iList K tl) := by
  subst h
  exact pi_list hl
theorem pi_tK {tg l : Expr} {tl : TE} (h : X.K = K) (hl : PE X l tl) : PI X tg l (iTup K tl) := by
  subst h
  exact pi_tup hl
theorem pe_revTK {e : Expr} {te : TE} {k : Nat} {p1 p2 p3 pos : Pos} (h : X.K = K) (he : PE X e te) : PE X (.Subscript e (.Slice none none (some (.UnaryOp .USub (.Constant (.int 1) k p1) p2)) p3) pos) (tRevT K te) := by
  subst h
  exact pe_revT he
theorem pe_revLK {e : Expr} {te : TE} {k : Nat} {p1 p2 p3 pos : Pos} (h : X.K = K) (he : PE X e te) : PE X (.Subscript e (.Slice none none (some (.UnaryOp .USub (.Constant (.int 1) k p1) p2)) p3) pos) (tRevL K te) := by
  subst h
  exact pe_revL he
end
end Br

namespace Br
open PySem PySem.Spec PyProof.Rows L2
/-! ### for the end: how arguments bind -/
section
variable {K : PySem.W.Frag} {x : Str} {st : Stmt} {f : Addr} {oc : Value} {od an : Option Addr} {osl : Array (Option Value)} {kV doc pm cdv ct : Value} {ps : List Str}
theorem bind_all {dV : Value} (_ : K.lookup f = some ⟨oc, od, .func (PySem.W.fnOf x x (defArgs st) (defBody st) (defScope st) dV kV doc pm an cdv ct), osl⟩)
    (h : ∀ us : List Value, us.length = ps.length → bindArgs (PySem.W.fnOf x x (defArgs st) (defBody st) (defScope st) dV kV doc pm an cdv ct) ⟨us, []⟩ = pure (ps.zip us)) : Binds K (PySem.W.fnOf x x (defArgs st) (defBody st) (defScope st) dV kV doc pm an cdv ct) ps [] := .all h
theorem fund_mk {dvs : List V} {its : List Value} {T : Addr} {tc : Value} {td : Option Addr} {tn : Nat} {tsl : Array (Option Value)} (l : K.lookup f = some ⟨oc, od, .func (PySem.W.fnOf x x (defArgs st) (defBody st) (defScope st) (.ref T) kV doc pm an cdv ct), osl⟩)
    (c : PySem.W.codeIn K cdv x = true) (k : PySem.W.keepIn K (.ref f) = true) (t : K.lookup T = some ⟨tc, td, .seq its.toArray tn, tsl⟩) (r : Vals dvs its) (hn : dvs ≠ [] := by decide) :
    FunD K x x (defArgs st) (defBody st) (defScope st) dvs [] f (PySem.W.fnOf x x (defArgs st) (defBody st) (defScope st) (.ref T) kV doc pm an cdv ct) :=
  ⟨⟨oc, od, _, kV, doc, pm, an, cdv, ct, osl, rfl, l, c, .inr ⟨hn, T, _, its, tn, rfl, t, rfl, r⟩, .inl rfl⟩, k⟩
end
end Br

/-! The plain law of words: places, low digits, all words of a length. -/
namespace Br
/-- the letters are of the width -/
def inW (k : Int) (ns : List Int) : Prop := ∀ x ∈ ns, 0 ≤ x ∧ x < k
/-- the index of a word -/
def place (k : Int) (ns : List Int) : Int := ns.foldl (fun f x => f * k + x) 0
/-- the low digits -/
def lows (k : Int) : Nat → Int → List Int
  | 0, _ => []
  | n + 1, p => p % k :: lows k n (p / k)
theorem place_app (k : Int) (ns : List Int) (x : Int) : place k (ns ++ [x]) = place k ns * k + x := by
  unfold place
  rw [List.foldl_append] <;> rfl
theorem inW_app {k : Int} {ns : List Int} {x : Int} (h : inW k (ns ++ [x])) : inW k ns ∧ 0 ≤ x ∧ x < k :=
  ⟨fun y hy => h y (List.mem_append_left _ hy), h x (List.mem_append_right _ List.mem_cons_self)⟩
theorem rev_ind {α : Type} {P : List α → Prop} (h0 : P []) (h1 : ∀ l x, P l → P (l ++ [x])) (l : List α) : P l := by
  rw [← List.reverse_reverse l]
  induction l.reverse with
  | nil => exact h0
  | cons x r ih =>
    rw [List.reverse_cons]
    exact h1 _ _ ih
theorem ipow_pos {k : Int} (h : 0 < k) (n : Nat) : 0 < k ^ n := by
  induction n with
  | zero =>
    rw [Int.pow_zero]
    decide
  | succ n ih =>
    rw [Int.pow_succ]
    exact Int.mul_pos ih h
theorem place_lt {k : Int} (hk : 0 < k) (ns : List Int) : inW k ns → 0 ≤ place k ns ∧ place k ns < k ^ ns.length := by
  refine rev_ind (P := fun ns => inW k ns → 0 ≤ place k ns ∧ place k ns < k ^ ns.length) (fun _ => ⟨Int.le_refl 0, by rw [List.length_nil, Int.pow_zero]; show (0 : Int) < 1; decide⟩) (fun l x ih h => ?_) ns
  obtain ⟨h1, h2, h3⟩ := inW_app h
  obtain ⟨a, b⟩ := ih h1
  rw [place_app, List.length_append, List.length_singleton, Int.pow_succ]
  have m : 0 ≤ place k l * k := Int.mul_nonneg a (Int.le_of_lt hk)
  have m2 : (place k l + 1) * k ≤ k ^ l.length * k := Int.mul_le_mul_of_nonneg_right (by omega) (Int.le_of_lt hk)
  rw [Int.add_mul, Int.one_mul] at m2
  omega
theorem lows_len (k : Int) : ∀ n p, (lows k n p).length = n
  | 0, _ => rfl
  | n + 1, p => congrArg (· + 1) (lows_len k n (p / k))
theorem lows_more (k : Int) (hk : 0 < k) : ∀ (n : Nat) (p : Int), lows k (n + 1) p = lows k n p ++ [p / k ^ n % k]
  | 0, p => by
    show [p % k] = [p / k ^ 0 % k]
    rw [Int.pow_zero, Int.ediv_one]
  | n + 1, p => by
    have ih := lows_more k hk n (p / k)
    show p % k :: lows k (n + 1) (p / k) = p % k :: (lows k n (p / k) ++ [p / k ^ (n + 1) % k])
    rw [ih, Int.pow_succ, Int.mul_comm (k ^ n) k, Int.ediv_ediv_of_nonneg (Int.le_of_lt hk)]
theorem lows_in {k : Int} (hk : 0 < k) : ∀ (n : Nat) (p : Int), inW k (lows k n p)
  | 0, _ => fun _ h => nomatch h
  | n + 1, p => fun x h => by
    rcases List.mem_cons.mp h with rfl | h
    · exact ⟨Int.emod_nonneg _ (by omega), Int.emod_lt_of_pos _ hk⟩
    · exact lows_in hk n _ x h
theorem inW_rev {k : Int} {ns : List Int} (h : inW k ns) : inW k ns.reverse := fun x hx => h x (List.mem_reverse.mp hx)
/-- the letters of the word of an index -/
theorem lows_place {k : Int} (hk : 0 < k) (ns : List Int) : inW k ns → lows k ns.length (place k ns) = ns.reverse := by
  refine rev_ind (P := fun ns => inW k ns → lows k ns.length (place k ns) = ns.reverse) (fun _ => rfl) (fun l x ih h => ?_) ns
  obtain ⟨h1, h2, h3⟩ := inW_app h
  rw [place_app, List.length_append, List.length_singleton, List.reverse_append]
  show (place k l * k + x) % k :: lows k l.length ((place k l * k + x) / k) = x :: l.reverse
  rw [Int.add_comm, Int.add_mul_emod_self_right, Int.emod_eq_of_lt h2 h3, Int.add_mul_ediv_right _ _ (by omega), Int.ediv_eq_zero_of_lt h2 h3, Int.zero_add, ih h1]
theorem place_lows {k : Int} (hk : 0 < k) : ∀ (n : Nat) (p : Int), 0 ≤ p → place k (lows k n p).reverse = p % k ^ n
  | 0, p, _ => by
    rw [Int.pow_zero, Int.emod_one] <;> rfl
  | n + 1, p, h => by
    have ih := place_lows hk n (p / k) (Int.ediv_nonneg h (Int.le_of_lt hk))
    show place k (p % k :: lows k n (p / k)).reverse = _
    rw [List.reverse_cons, place_app, ih]
    have e1 : p % k ^ (n + 1) = p - k ^ (n + 1) * (p / k ^ (n + 1)) := Int.emod_def _ _
    have e2 : p / k % k ^ n = p / k - k ^ n * (p / k / k ^ n) := Int.emod_def _ _
    have e3 : p % k = p - k * (p / k) := Int.emod_def _ _
    have e4 : p / k / k ^ n = p / k ^ (n + 1) := by rw [Int.ediv_ediv_of_nonneg (Int.le_of_lt hk), Int.pow_succ, Int.mul_comm]
    rw [e1, e2, e3, e4, Int.sub_mul, Int.pow_succ]
    have e5 : k ^ n * (p / (k ^ n * k)) * k = k ^ n * k * (p / (k ^ n * k)) := by rw [Int.mul_assoc, Int.mul_comm (p / (k ^ n * k)) k, ← Int.mul_assoc]
    rw [e5, Int.mul_comm (p / k) k]
    omega
/-- all words of a length, as the index tells them -/
def wordsI (k : Int) (n : Nat) : List (List Int) := (List.range (k ^ n).toNat).map fun p => (lows k n (p : Nat)).reverse
/-- .. as they grow -/
def wordsG (k : Nat) : Nat → List (List Int)
  | 0 => [[]]
  | n + 1 => (wordsG k n).flatMap fun w => (List.range k).map fun r => w ++ [((r : Nat) : Int)]
theorem range_mul (a k : Nat) : List.range (a * k) = (List.range a).flatMap fun q => (List.range k).map fun r => q * k + r := by
  induction a with
  | zero => simp
  | succ a ih =>
    rw [List.range_succ, List.flatMap_append, ← ih, Nat.succ_mul, List.range_add]
    simp
theorem words_eq (k : Nat) (hk : 0 < k) : ∀ n : Nat, wordsG k n = wordsI k n
  | 0 => by
    unfold wordsI
    rw [Int.pow_zero] <;> rfl
  | n + 1 => by
    have ih := words_eq k hk n
    unfold wordsI
    have e : ((k : Int) ^ (n + 1)).toNat = ((k : Int) ^ n).toNat * k := by
      rw [Int.pow_succ, Int.toNat_mul (Int.le_of_lt (ipow_pos (by omega) n)) (by omega)] <;> rfl
    rw [e, range_mul, List.map_flatMap]
    show (wordsG k n).flatMap _ = _
    rw [ih]
    unfold wordsI
    rw [List.flatMap_map]
    rw [List.flatMap_def, List.flatMap_def]
    refine congrArg List.flatten (List.map_congr_left fun q _ => ?_)
    rw [List.map_map]
    refine List.map_congr_left fun r hr => ?_
    have hr' : r < k := List.mem_range.mp hr
    show (lows k n (q : Nat)).reverse ++ [((r : Nat) : Int)] = (lows k (n + 1) ((q * k + r : Nat) : Int)).reverse
    have e1 : ((q * k + r : Nat) : Int) % (k : Int) = (r : Int) := by
      rw [Int.natCast_add, Int.natCast_mul, Int.add_comm, Int.add_mul_emod_self_right]
      exact Int.emod_eq_of_lt (by omega) (by omega)
    have e2 : ((q * k + r : Nat) : Int) / (k : Int) = (q : Int) := by
      rw [Int.natCast_add, Int.natCast_mul, Int.add_comm, Int.add_mul_ediv_right _ _ (by omega), Int.ediv_eq_zero_of_lt (by omega) (by omega), Int.zero_add]
    show _ = (((q * k + r : Nat) : Int) % (k : Int) :: lows k n (((q * k + r : Nat) : Int) / (k : Int))).reverse
    rw [e1, e2, List.reverse_cons]
end Br

namespace Br
open PySem PySem.Spec PyProof.Rows L2
/-! ### the text -/
def topS (i : Nat) : Stmt := PySem.Challenge.pw_branchturns_k11_whole_words.main.body.getD i (.Pass ⟨0, 0, 0, 0⟩)
abbrev s_power_of : Stmt := topS 6
theorem sc_power_of : FnScope ["number", "many", "found", "_"] ["number", "many"] (defScope s_power_of) := ⟨rfl, rfl, rfl, by decide +kernel, rfl, by decide +kernel, by decide +kernel⟩
abbrev s_is_integer : Stmt := topS 13
theorem sc_is_integer : FnScope ["value"] ["value"] (defScope s_is_integer) := ⟨rfl, rfl, rfl, by decide +kernel, rfl, by decide +kernel, by decide +kernel⟩
abbrev s_is_within : Stmt := topS 14
theorem sc_is_within : FnScope ["value", "low", "high"] ["value", "low", "high"] (defScope s_is_within) := ⟨rfl, rfl, rfl, by decide +kernel, rfl, by decide +kernel, by decide +kernel⟩
abbrev s_require_within : Stmt := topS 15
theorem sc_require_within : FnScope ["value", "low", "high"] ["value", "low", "high"] (defScope s_require_within) := ⟨rfl, rfl, rfl, by decide +kernel, rfl, by decide +kernel, by decide +kernel⟩
abbrev s_is_width : Stmt := topS 16
theorem sc_is_width : FnScope ["value"] ["value"] (defScope s_is_width) := ⟨rfl, rfl, rfl, by decide +kernel, rfl, by decide +kernel, by decide +kernel⟩
abbrev s_require_width : Stmt := topS 17
theorem sc_require_width : FnScope ["value"] ["value"] (defScope s_require_width) := ⟨rfl, rfl, rfl, by decide +kernel, rfl, by decide +kernel, by decide +kernel⟩
abbrev s_is_letter : Stmt := topS 18
theorem sc_is_letter : FnScope ["width", "value"] ["width", "value"] (defScope s_is_letter) := ⟨rfl, rfl, rfl, by decide +kernel, rfl, by decide +kernel, by decide +kernel⟩
abbrev s_is_word_in : Stmt := topS 19
theorem sc_is_word_in : FnScope ["width", "value", "most", "letter"] ["width", "value", "most"] (defScope s_is_word_in) := ⟨rfl, rfl, rfl, by decide +kernel, rfl, by decide +kernel, by decide +kernel⟩
abbrev s_require_word : Stmt := topS 20
theorem sc_require_word : FnScope ["width", "word"] ["width", "word"] (defScope s_require_word) := ⟨rfl, rfl, rfl, by decide +kernel, rfl, by decide +kernel, by decide +kernel⟩
abbrev s_place_in : Stmt := topS 21
theorem sc_place_in : FnScope ["width", "word", "found", "letter"] ["width", "word"] (defScope s_place_in) := ⟨rfl, rfl, rfl, by decide +kernel, rfl, by decide +kernel, by decide +kernel⟩
abbrev s_word_in : Stmt := topS 22
theorem sc_word_in : FnScope ["width", "length", "place", "found", "_"] ["width", "length", "place"] (defScope s_word_in) := ⟨rfl, rfl, rfl, by decide +kernel, rfl, by decide +kernel, by decide +kernel⟩
abbrev s_words_in : Stmt := topS 23
theorem sc_words_in : FnScope ["width", "length", "place"] ["width", "length"] (defScope s_words_in) := ⟨rfl, rfl, rfl, by decide +kernel, rfl, by decide +kernel, by decide +kernel⟩
abbrev s_is_word : Stmt := topS 24
theorem sc_is_word : FnScope ["width", "value"] ["width", "value"] (defScope s_is_word) := ⟨rfl, rfl, rfl, by decide +kernel, rfl, by decide +kernel, by decide +kernel⟩
abbrev s_words_of : Stmt := topS 25
theorem sc_words_of : FnScope ["width", "length"] ["width", "length"] (defScope s_words_of) := ⟨rfl, rfl, rfl, by decide +kernel, rfl, by decide +kernel, by decide +kernel⟩
abbrev s_place_of : Stmt := topS 26
theorem sc_place_of : FnScope ["width", "word"] ["width", "word"] (defScope s_place_of) := ⟨rfl, rfl, rfl, by decide +kernel, rfl, by decide +kernel, by decide +kernel⟩
abbrev s_word_at : Stmt := topS 27
theorem sc_word_at : FnScope ["width", "length", "place"] ["width", "length", "place"] (defScope s_word_at) := ⟨rfl, rfl, rfl, by decide +kernel, rfl, by decide +kernel, by decide +kernel⟩
abbrev s_low_number : Stmt := topS 28
theorem sc_low_number : FnScope ["width", "word"] ["width", "word"] (defScope s_low_number) := ⟨rfl, rfl, rfl, by decide +kernel, rfl, by decide +kernel, by decide +kernel⟩
abbrev s_low_word : Stmt := topS 29
theorem sc_low_word : FnScope ["width", "number", "length"] ["width", "number", "length"] (defScope s_low_word) := ⟨rfl, rfl, rfl, by decide +kernel, rfl, by decide +kernel, by decide +kernel⟩
abbrev s_law_dice : Stmt := topS 31
theorem sc_law_dice : FnScope ["script", "spot", "cell", "great", "seed"] ["script", "spot"] (defScope s_law_dice) := ⟨rfl, rfl, rfl, by decide +kernel, rfl, by decide +kernel, by decide +kernel⟩
abbrev s_law_roll : Stmt := topS 32
theorem sc_law_roll : FnScope ["dice", "total", "found", "one", "two"] ["dice", "total"] (defScope s_law_roll) := ⟨rfl, rfl, rfl, by decide +kernel, rfl, by decide +kernel, by decide +kernel⟩
abbrev s_law_pick : Stmt := topS 33
theorem sc_law_pick : FnScope ["dice", "items"] ["dice", "items"] (defScope s_law_pick) := ⟨rfl, rfl, rfl, by decide +kernel, rfl, by decide +kernel, by decide +kernel⟩
abbrev s_law_power : Stmt := topS 34
theorem sc_law_power : FnScope ["base", "many", "found", "turn"] ["base", "many"] (defScope s_law_power) := ⟨rfl, rfl, rfl, by decide +kernel, rfl, by decide +kernel, by decide +kernel⟩
abbrev s_law_words : Stmt := topS 35
theorem sc_law_words : FnScope ["width", "length", "found", "turn", "later", "word", "letter"] ["width", "length"] (defScope s_law_words) := ⟨rfl, rfl, rfl, by decide +kernel, rfl, by decide +kernel, by decide +kernel⟩
abbrev s_law_word : Stmt := topS 36
theorem sc_law_word : FnScope ["dice", "width", "most", "at"] ["dice", "width", "most"] (defScope s_law_word) := ⟨rfl, rfl, rfl, by decide +kernel, rfl, by decide +kernel, by decide +kernel⟩
abbrev s_law_value : Stmt := topS 37
theorem sc_law_value : FnScope ["width", "letters", "found", "letter"] ["width", "letters"] (defScope s_law_value) := ⟨rfl, rfl, rfl, by decide +kernel, rfl, by decide +kernel, by decide +kernel⟩
abbrev s_law_odd : Stmt := topS 38
theorem sc_law_odd : FnScope ["dice", "width", "word", "odd"] ["dice", "width", "word"] (defScope s_law_odd) := ⟨rfl, rfl, rfl, by decide +kernel, rfl, by decide +kernel, by decide +kernel⟩
abbrev s_law_right : Stmt := topS 39
theorem sc_law_right : FnScope ["dice", "width", "length", "words", "word", "place", "spot", "number", "many", "told"] ["dice"] (defScope s_law_right) := ⟨rfl, rfl, rfl, by decide +kernel, rfl, by decide +kernel, by decide +kernel⟩
abbrev s_law : Stmt := topS 40
theorem sc_law : FnScope ["script", "spot", "dice", "turn"] ["script"] (defScope s_law) := ⟨rfl, rfl, rfl, by decide +kernel, rfl, by decide +kernel, by decide +kernel⟩
structure Blt (mg : Str → Option Value) : Prop where
  len' : mg "len" = none
  range' : mg "range" = none
  isinstance' : mg "isinstance" = none
  int' : mg "int" = none
  bool' : mg "bool" = none
  tuple' : mg "tuple" = none
  list' : mg "list" = none
  all' : mg "all" = none
  abs' : mg "abs" = none
  max' : mg "max" = none
  min' : mg "min" = none
section
variable {P : Program} {w : World} {K : PySem.W.Frag} {mg : Str → Option Value} {base : Heap}
/-! ### power_of -/
def sp_power_of : Sp := fun vs H Q _ => ∃ (b : Int) (n : Nat), vs = [.int b, .int n] ∧ b.natAbs < 2 ^ 8 ∧ n ≤ 1000 ∧ Q (.int (b ^ n)) H
theorem pow_lt {b : Int} (h : b.natAbs < 2 ^ 8) : ∀ i : Nat, (b ^ i).natAbs < 2 ^ (8 * i + 1)
  | 0 => by
    rw [Int.pow_zero]
    decide
  | i + 1 => by
    rw [Int.pow_succ]
    have := wide_lt (pow_lt h i) h
    have e : 8 * i + 1 + 8 = 8 * (i + 1) + 1 := by omega
    rw [e] at this
    exact this
theorem ok_power_of (B : Blt mg) {f : Addr} {fd : FuncData} (F : Dn K mg "power_of" s_power_of ["number", "many"] f fd) : FnOk P w K mg base CX0 1 f fd ["number", "many"] sp_power_of := by
  refine F.ok sc_power_of (fun vs H Q E h => ?_) (fun cdv A outer s H vs Q E hr h => ?_)
  · obtain ⟨b, n, rfl, _⟩ := h
    rfl
  · obtain ⟨b, n, rfl, hb, hn, q⟩ := h
    refine ⟨_, (pss_cons (ps_set (i := 2) sc_power_of.nd rfl (Or.inl rfl) pe_int)
      (pss_cons (ps_for PassesOwn.never rfl (pi_range1 (by rfl) B.range' (pa_cons (pv 1) pa_nil)) (pg_name (i := 3) sc_power_of.nd rfl (Or.inl rfl)) (pss_one (ps_set (i := 2) sc_power_of.nd rfl (Or.inl rfl) (pe_op op_mulW (pv 2) (pv 0)))))
      (pss_one (ps_ret (pv 2))))), ?_⟩
    refine ⟨.int n, rfl, n, rfl, by omega, by omega, for_range (lo := 0) (n := n) (fun i σ H' => ∃ z, σ = [some (.int b), some (.int n), some (.int (b ^ i)), z] ∧ H' = H) ⟨none, by rw [Int.pow_zero] <;> rfl, rfl⟩ ?_ ?_⟩
    · rintro i σ H' hi ⟨z, rfl, rfl⟩
      refine ⟨_, rfl, _, rfl, _, _, rfl, rfl, wide_mul (pow_lt hb i) hb (by omega) (by omega) (by omega), some (.int (0 + (i : Int))), ?_, rfl⟩
      rw [Int.pow_succ] <;> rfl
    · rintro σ H' ⟨z, rfl, rfl⟩
      exact ⟨_, rfl, q⟩
/-! ### ints within bounds -/
def sp_is_integer (K : PySem.W.Frag) : Sp := fun vs H Q _ => ∃ v, vs = [v] ∧ Kn K H v ∧ Q (.bl (isI v)) H
theorem ok_is_integer (B : Blt mg) {f : Addr} {fd : FuncData} (F : Dn K mg "is_integer" s_is_integer ["value"] f fd) : FnOk P w K mg base CX0 1 f fd ["value"] (sp_is_integer K) := by
  refine F.ok sc_is_integer (fun vs H Q E h => ?_) (fun cdv A outer s H vs Q E hr h => ?_)
  · obtain ⟨v, rfl, _⟩ := h
    rfl
  · obtain ⟨v, rfl, kn, q⟩ := h
    obtain ⟨t, ht, h1, h2⟩ := kn.int_of
    refine ⟨_, (pss_one (ps_ret (pe_and (pe_callB (call_isK K rfl) (by rfl) B.isinstance' (by decide +kernel) (pa_cons (pv 0) (pa_cons (pe_bltn (v := .ty "int") (by rfl) B.int' (by decide +kernel) rfl) pa_nil))) (pe_one (pe_not (pe_callB (call_isK K rfl) (by rfl) B.isinstance' (by decide +kernel) (pa_cons (pv 0) (pa_cons (pe_bltn (v := .ty "bool") (by rfl) B.bool' (by decide +kernel) rfl) pa_nil)))))))), ?_⟩
    refine ⟨v, rfl, v, .ty "int", t, .type "int", isIB v, rfl, .ty "int", ht, h1, isIB v, rfl, ite2 (fun e => ?_) (fun e => ?_)⟩
    · refine ⟨v, rfl, v, .ty "bool", t, .type "bool", isB v, rfl, .ty "bool", ht, h2, isB v, rfl, ?_⟩
      have z : isI v = !isB v := by
        cases v <;> first | rfl | cases e
      rw [z] at q
      exact q
    · have z : isI v = false := by
        cases v <;> first | rfl | exact absurd rfl e
      rw [z] at q
      exact q
/-- an int within two bounds -/
def wn (lo hi : Int) : V → Bool
  | .int i => decide (lo ≤ i) && decide (i ≤ hi)
  | _ => false
def sp_is_within (K : PySem.W.Frag) : Sp := fun vs H Q _ => ∃ v lo hi, vs = [v, .int lo, .int hi] ∧ Kn K H v ∧ Q (.bl (wn lo hi v)) H
theorem ok_is_within (B : Blt mg) (c_is_integer : Cl CX0 P w K mg base 1 "is_integer" (sp_is_integer K) []) {f : Addr} {fd : FuncData} (F : Dn K mg "is_within" s_is_within ["value", "low", "high"] f fd) : FnOk P w K mg base CX0 2 f fd ["value", "low", "high"] (sp_is_within K) := by
  refine F.ok sc_is_within (fun vs H Q E h => ?_) (fun cdv A outer s H vs Q E hr h => ?_)
  · obtain ⟨v, lo, hi, rfl, _⟩ := h
    rfl
  · obtain ⟨v, lo, hi, rfl, kn, q⟩ := h
    refine ⟨_, (pss_one (ps_ret (pe_and (pe_c c_is_integer hr (by decide) (by rfl) (pa_cons (pv 0) pa_nil)) (pe_one (pe_chain op_le op_le (pv 1) (pv 0) (pv 2)))))), ?_⟩
    refine ⟨v, rfl, v, rfl, kn, isI v, rfl, ite2 (fun e => ?_) (fun e => ?_)⟩
    · obtain ⟨i, rfl⟩ : ∃ i, v = .int i := by
        cases v <;> first | exact ⟨_, rfl⟩ | cases e
      refine ⟨_, rfl, _, rfl, _, _, rfl, rfl, _, rfl, ite2 (fun e1 => ?_) (fun e1 => ?_)⟩
      · refine ⟨_, rfl, _, _, rfl, rfl, ?_⟩
        have z : wn lo hi (.int i) = decide (i ≤ hi) := by
          show (decide (lo ≤ i) && decide (i ≤ hi)) = _
          rw [e1, Bool.true_and]
        rw [z] at q
        exact q
      · have z : wn lo hi (.int i) = false := by
          show (decide (lo ≤ i) && decide (i ≤ hi)) = _
          rw [Bool.eq_false_iff.mpr e1, Bool.false_and]
        rw [z] at q
        exact q
    · have z : wn lo hi v = false := by
        cases v <;> first | rfl | exact absurd rfl e
      rw [z] at q
      exact q
def sp_require_within (K : PySem.W.Frag) : Sp := fun vs H Q _ => ∃ v lo hi, vs = [v, .int lo, .int hi] ∧ wn lo hi v = true ∧ Q .non H
theorem wn_int {lo hi : Int} {v : V} (h : wn lo hi v = true) : ∃ i, v = .int i ∧ lo ≤ i ∧ i ≤ hi := by
  cases v with
  | int i =>
    have h' : (decide (lo ≤ i) && decide (i ≤ hi)) = true := h
    rw [Bool.and_eq_true, decide_eq_true_eq, decide_eq_true_eq] at h'
    exact ⟨i, rfl, h'⟩
  | _ => cases h
theorem wn_kn {lo hi : Int} {v : V} {H : Hp} (h : wn lo hi v = true) : Kn K H v := by
  obtain ⟨i, rfl, _⟩ := wn_int h
  exact .int i
theorem wn_of {lo hi i : Int} (h1 : lo ≤ i) (h2 : i ≤ hi) : wn lo hi (.int i) = true := by
  show (decide (lo ≤ i) && decide (i ≤ hi)) = true
  rw [decide_eq_true h1, decide_eq_true h2] <;> rfl
theorem ok_require_within (B : Blt mg) (c_is_within : Cl CX0 P w K mg base 2 "is_within" (sp_is_within K) []) {f : Addr} {fd : FuncData} (F : Dn K mg "require_within" s_require_within ["value", "low", "high"] f fd) : FnOk P w K mg base CX0 3 f fd ["value", "low", "high"] (sp_require_within K) := by
  refine F.ok sc_require_within (fun vs H Q E h => ?_) (fun cdv A outer s H vs Q E hr h => ?_)
  · obtain ⟨v, lo, hi, rfl, _⟩ := h
    rfl
  · obtain ⟨v, lo, hi, rfl, wv, q⟩ := h
    refine ⟨_, (pss_one (ps_if (pt_not (pt_val (pe_c c_is_within hr (by decide) (by rfl) (pa_cons (pv 0) (pa_cons (pv 1) (pa_cons (pv 2) pa_nil)))))) (pss_one ps_never) pss_nil)), ?_⟩
    refine ⟨v, rfl, _, rfl, _, rfl, v, lo, hi, rfl, wn_kn wv, _, rfl, ?_⟩
    rw [wv]
    exact iteF q
def sp_is_width (K : PySem.W.Frag) : Sp := fun vs H Q _ => ∃ v, vs = [v] ∧ Kn K H v ∧ Q (.bl (wn 2 5 v)) H
theorem ok_is_width (B : Blt mg) (m_MAX_WIDTH : ∃ u, mg "MAX_WIDTH" = some u ∧ RelV (.int 5) u) (c_is_within : Cl CX0 P w K mg base 2 "is_within" (sp_is_within K) []) {f : Addr} {fd : FuncData} (F : Dn K mg "is_width" s_is_width ["value"] f fd) : FnOk P w K mg base CX0 3 f fd ["value"] (sp_is_width K) := by
  refine F.ok sc_is_width (fun vs H Q E h => ?_) (fun cdv A outer s H vs Q E hr h => ?_)
  · obtain ⟨v, rfl, _⟩ := h
    rfl
  · obtain ⟨v, rfl, kn, q⟩ := h
    refine ⟨_, (pss_one (ps_ret (pe_c c_is_within hr (by decide) (by rfl) (pa_cons (pv 0) (pa_cons pe_int (pa_cons (pe_gc (by rfl) m_MAX_WIDTH) pa_nil)))))), ?_⟩
    exact ⟨v, rfl, v, 2, 5, rfl, kn, q⟩
def sp_require_width (K : PySem.W.Frag) : Sp := fun vs H Q _ => ∃ k : Int, vs = [.int k] ∧ 2 ≤ k ∧ k ≤ 5 ∧ Q .non H
theorem ok_require_width (B : Blt mg) (c_is_width : Cl CX0 P w K mg base 3 "is_width" (sp_is_width K) []) {f : Addr} {fd : FuncData} (F : Dn K mg "require_width" s_require_width ["value"] f fd) : FnOk P w K mg base CX0 4 f fd ["value"] (sp_require_width K) := by
  refine F.ok sc_require_width (fun vs H Q E h => ?_) (fun cdv A outer s H vs Q E hr h => ?_)
  · obtain ⟨v, rfl, _⟩ := h
    rfl
  · obtain ⟨v, rfl, h1, h2, q⟩ := h
    refine ⟨_, (pss_one (ps_if (pt_not (pt_val (pe_c c_is_width hr (by decide) (by rfl) (pa_cons (pv 0) pa_nil)))) (pss_one ps_never) pss_nil)), ?_⟩
    refine ⟨_, rfl, _, rfl, .int v, _, rfl, ?_⟩
    rw [wn_of h1 h2]
    exact iteF q
def sp_is_letter (K : PySem.W.Frag) : Sp := fun vs H Q _ => ∃ (k : Int) (v : V), vs = [.int k, v] ∧ Kn K H v ∧ Q (.bl (wn 0 (k - 1) v)) H
theorem ok_is_letter (B : Blt mg) (c_is_within : Cl CX0 P w K mg base 2 "is_within" (sp_is_within K) []) {f : Addr} {fd : FuncData} (F : Dn K mg "is_letter" s_is_letter ["width", "value"] f fd) : FnOk P w K mg base CX0 3 f fd ["width", "value"] (sp_is_letter K) := by
  refine F.ok sc_is_letter (fun vs H Q E h => ?_) (fun cdv A outer s H vs Q E hr h => ?_)
  · obtain ⟨k, v, rfl, _⟩ := h
    rfl
  · obtain ⟨k, v, rfl, kn, q⟩ := h
    refine ⟨_, (pss_one (ps_ret (pe_c c_is_within hr (by decide) (by rfl) (pa_cons (pv 1) (pa_cons pe_int (pa_cons (pe_op op_sub (pv 0) pe_int) pa_nil)))))), ?_⟩
    exact ⟨v, rfl, .int k, rfl, k, 1, rfl, rfl, v, 0, k - 1, rfl, kn, q⟩
/-! ### words -/
theorem Kn.same {H H' : Hp} {v : V} (e : Same H H') (k : Kn K H v) : Kn K H' v := by
  cases k with
  | non => exact .non
  | bl b => exact .bl b
  | int i => exact .int i
  | str x => exact .str x
  | lst h => exact .lst (e _ _ h)
  | tup h => exact .tup (same_tup e h)
  | dK h => exact .dK (e _ _ h)
def mostOk : V → Nat → Bool
  | .int m, n => !decide (m < (n : Int))
  | _, _ => true
theorem take_map {α β : Type} {f : α → β} {l : List α} {i : Nat} {x : α} (h : l[i]? = some x) : (l.take (i + 1)).map f = (l.take i).map f ++ [f x] := by
  rw [List.take_add_one, h, List.map_append] <;> rfl
def sp_is_word_in (K : PySem.W.Frag) : Sp := fun vs H Q _ => ∃ (k : Int) (v m : V), vs = [.int k, v, m] ∧ (m = .non ∨ ∃ i, m = .int i) ∧
  ((NoT H v ∧ Q (.bl false) H) ∨ ∃ (a : Addr) (xs : List V), v = .ref a ∧ SqT K H a xs ∧ xs.length < 1000000 ∧ (∀ x ∈ xs, Kn K H x) ∧ ∀ H', Same H H' → Q (.bl (mostOk m xs.length && xs.all (wn 0 (k - 1)))) H')
theorem ok_is_word_in (B : Blt mg) (c_is_letter : Cl CX0 P w K mg base 3 "is_letter" (sp_is_letter K) []) {f : Addr} {fd : FuncData} (F : Dn K mg "is_word_in" s_is_word_in ["width", "value", "most"] f fd) : FnOk P w K mg base CX0 4 f fd ["width", "value", "most"] (sp_is_word_in K) := by
  refine F.ok sc_is_word_in (fun vs H Q E h => ?_) (fun cdv A outer s H vs Q E hr h => ?_)
  · obtain ⟨k, v, m, rfl, _⟩ := h
    rfl
  · obtain ⟨k, v, m, rfl, hm, hv⟩ := h
    refine ⟨_, (pss_cons (ps_if (PW.pt (pw_or (pt_not (pt_val (pe_callB (call_isK K rfl) (by rfl) B.isinstance' (by decide +kernel) (pa_cons (pv 1) (pa_cons (pe_bltn (v := .ty "tuple") (by rfl) B.tuple' (by decide +kernel) rfl) pa_nil))))) (pw_or1 (PW.pt (pw_and (pt_cmpR op_notN (pv 2) pe_non (nomark _)) (pw_and1 (pt_cmpR op_gt (pe_callB (call_lenK K rfl) (by rfl) B.len' PySem.boot_len (pa_cons (pv 1) pa_nil)) (pv 2) (nomark _)))))))) (pss_one (ps_ret pe_bl)) pss_nil)
      (pss_one (ps_ret (pe_callB (cr_allK K rfl rfl) (by rfl) B.all' (by decide +kernel) (pa_cons (pe_lc (own := [("letter", 3)]) (by rfl) sc_is_word_in.nd (pi_tK K rfl (pv 1)) (blkOk_by (own := [("letter", 3)]) (N := ["width", "value", "most", "letter"]) (sc := defScope s_is_word_in) (by decide +kernel)) (fun _ _ _ _ _ => (pg_name (i := 3) sc_is_word_in.nd rfl (Or.inl rfl))) (fun _ _ _ _ _ => pts_nil) (fun _ _ _ _ _ => (pe_c c_is_letter hr (by decide) (by rfl) (pa_cons (pv 0) (pa_cons (pv 3) pa_nil))))) pa_nil))))), ?_⟩
    rcases hv with ⟨nt, q⟩ | ⟨a, xs, rfl, hT, hl, hk, q⟩
    · obtain ⟨t, ht, h1⟩ := nt.ty (K := K)
      exact ⟨v, rfl, v, .ty "tuple", t, .type "tuple", false, rfl, .ty "tuple", ht, h1, false, rfl, iteT (iteT q)⟩
    · refine ⟨_, rfl, .ref a, .ty "tuple", _, .type "tuple", true, rfl, .ty "tuple", tyT hT, kit_tt, true, rfl, iteF ?_⟩
      have body : mostOk m xs.length = true → tRet (tCB (rAll K) (tCons (tLc (iTup K (tVar 1)) (gName 3) tYes (tCall (sp_is_letter K) [] E0 (tCons (tVar 0) (tCons (tVar 3) tNil))) [3]) tNil)) { nx := fun _ H' => Q .non H', rt := Q } (start ["width", "value", "most", "letter"] [.int k, .ref a, m]) H := fun e => by
        refine ⟨.ref a, rfl, a, rfl, ⟨_, hT⟩, fun D hD => lc_tup (K := K) (a := a) (xs := xs) (fun i H' => Same H H' ∧ H' D = some (.lst ((xs.take i).map fun x => .bl (wn 0 (k - 1) x)))) ⟨same_new hD, upd_same⟩ (fun i H' _ h => same_tup h.1 hT) ?_ ?_⟩
        · rintro i x H' hx ⟨s1, e1⟩
          have hi : i < xs.length := (List.getElem?_eq_some_iff.mp hx).1
          refine ⟨rfl, _, rfl, _, rfl, k, x, rfl, (hk x (List.mem_of_getElem? hx)).same s1, _, e1, szl (by rw [List.length_map, List.length_take]; omega), fun b o z => ?_, ?_⟩
          · rw [upd_ne (ne_of_none z hD)]
            exact s1 b o z
          · rw [upd_same, take_map hx]
        · rintro H' ⟨s1, e1⟩
          refine ⟨D, xs.map (wn 0 (k - 1)), rfl, sL ?_, ?_⟩
          · rw [e1, List.take_length, List.map_map] <;> rfl
          · have := q H' s1
            rw [e, Bool.true_and] at this
            rw [List.all_map]
            exact this
      rcases hm with rfl | ⟨i, rfl⟩
      · exact ⟨.non, rfl, rfl, false, rfl, iteF (iteF (body rfl))⟩
      · refine ⟨.int i, rfl, rfl, true, rfl, iteT ⟨_, rfl, a, xs, rfl, .inr hT, _, rfl, _, _, rfl, rfl, _, rfl, ite2 (fun e => ?_) (fun e => ?_)⟩⟩
        · have := q H (Same.refl H)
          have e2 : mostOk (.int i) xs.length = false := by
            show (!decide (i < (xs.length : Int))) = false
            rw [e] <;> rfl
          rw [e2, Bool.false_and] at this
          exact this
        · refine body ?_
          show (!decide (i < (xs.length : Int))) = true
          rw [Bool.eq_false_iff.mpr e] <;> rfl

theorem iT {H : Hp} {K : PySem.W.Frag} {a : Addr} {xs : List V} (h : SqT K H a xs) : SqT K H a xs := h
theorem inW_wn {k : Int} {ns : List Int} (h : inW k ns) : (ns.map V.int).all (wn 0 (k - 1)) = true := by
  rw [List.all_eq_true]
  intro x hx
  obtain ⟨i, hi, rfl⟩ := List.mem_map.mp hx
  obtain ⟨h1, h2⟩ := h i hi
  exact wn_of h1 (by omega)
theorem ints_kn {K : PySem.W.Frag} {H : Hp} {ns : List Int} : ∀ x ∈ ns.map V.int, Kn K H x := fun x hx => by
  obtain ⟨i, _, rfl⟩ := List.mem_map.mp hx
  exact .int i
def sp_require_word (K : PySem.W.Frag) : Sp := fun vs H Q _ => ∃ (k : Int) (a : Addr) (ns : List Int), vs = [.int k, .ref a] ∧ SqT K H a (ns.map V.int) ∧ inW k ns ∧ ns.length ≤ 200 ∧ ∀ H', Same H H' → Q .non H'
theorem ok_require_word (B : Blt mg) (m_MAX_LENGTH : ∃ u, mg "MAX_LENGTH" = some u ∧ RelV (.int 200) u) (c_is_word_in : Cl CX0 P w K mg base 4 "is_word_in" (sp_is_word_in K) []) {f : Addr} {fd : FuncData} (F : Dn K mg "require_word" s_require_word ["width", "word"] f fd) : FnOk P w K mg base CX0 5 f fd ["width", "word"] (sp_require_word K) := by
  refine F.ok sc_require_word (fun vs H Q E h => ?_) (fun cdv A outer s H vs Q E hr h => ?_)
  · obtain ⟨k, a, ns, rfl, _⟩ := h
    rfl
  · obtain ⟨k, a, ns, rfl, hT, hw, hl, q⟩ := h
    refine ⟨_, (pss_one (ps_if (pt_not (pt_val (pe_c c_is_word_in hr (by decide) (by rfl) (pa_cons (pv 0) (pa_cons (pv 1) (pa_cons (pe_gc (by rfl) m_MAX_LENGTH) pa_nil)))))) (pss_one ps_never) pss_nil)), ?_⟩
    refine ⟨_, rfl, _, rfl, k, .ref a, .int 200, rfl, .inr ⟨200, rfl⟩, .inr ⟨a, _, rfl, hT, by rw [List.length_map]; omega, ints_kn, fun H' s1 => ⟨_, rfl, ?_⟩⟩⟩
    have e : mostOk (.int 200) (ns.map V.int).length = true := by
      show (!decide ((200 : Int) < ((ns.map V.int).length : Nat))) = true
      rw [List.length_map, decide_eq_false (by omega)] <;> rfl
    rw [inW_wn hw, e]
    exact iteF (q H' s1)
/-! ### places and words -/
theorem abs_le {i j : Int} {n : Nat} (h0 : 0 ≤ i) (h : i ≤ j) (hj : j.natAbs < 2 ^ n) : i.natAbs < 2 ^ n := Nat.lt_of_le_of_lt (by omega) hj
theorem k8 {k : Int} (h1 : 2 ≤ k) (h2 : k ≤ 5) : k.natAbs < 2 ^ 8 := by omega
theorem inW_take {k : Int} {ns : List Int} (h : inW k ns) (i : Nat) : inW k (ns.take i) := fun x hx => h x (List.mem_of_mem_take hx)
theorem place_abs {k : Int} (h1 : 2 ≤ k) (h2 : k ≤ 5) {ns : List Int} (h : inW k ns) : (place k ns).natAbs < 2 ^ (8 * ns.length + 1) := by
  obtain ⟨a, b⟩ := place_lt (by omega) ns h
  exact abs_le a (Int.le_of_lt b) (pow_lt (k8 h1 h2) _)
def sp_place_in (K : PySem.W.Frag) : Sp := fun vs H Q _ => ∃ (k : Int) (a : Addr) (ns : List Int), vs = [.int k, .ref a] ∧ SqT K H a (ns.map V.int) ∧ inW k ns ∧ 2 ≤ k ∧ k ≤ 5 ∧ ns.length ≤ 1000 ∧ Q (.int (place k ns)) H
theorem getI {ns : List Int} {i : Nat} {x : V} (h : (ns.map V.int)[i]? = some x) : ∃ j, x = .int j ∧ ns[i]? = some j := by
  rw [List.getElem?_map] at h
  cases e : ns[i]? with
  | none =>
    rw [e] at h
    cases h
  | some j =>
    rw [e] at h
    exact ⟨j, (Option.some.inj h).symm, rfl⟩
theorem take_more {α : Type} {l : List α} {i : Nat} {x : α} (h : l[i]? = some x) : l.take (i + 1) = l.take i ++ [x] := by
  rw [List.take_add_one, h] <;> rfl
theorem ok_place_in (B : Blt mg) {f : Addr} {fd : FuncData} (F : Dn K mg "place_in" s_place_in ["width", "word"] f fd) : FnOk P w K mg base CX0 1 f fd ["width", "word"] (sp_place_in K) := by
  refine F.ok sc_place_in (fun vs H Q E h => ?_) (fun cdv A outer s H vs Q E hr h => ?_)
  · obtain ⟨k, a, ns, rfl, _⟩ := h
    rfl
  · obtain ⟨k, a, ns, rfl, hT, hw, h1, h2, hl, q⟩ := h
    refine ⟨_, (pss_cons (ps_set (i := 2) sc_place_in.nd rfl (Or.inl rfl) pe_int)
      (pss_cons (ps_for PassesOwn.never rfl (pi_tK K rfl (pv 1)) (pg_name (i := 3) sc_place_in.nd rfl (Or.inl rfl)) (pss_one (ps_set (i := 2) sc_place_in.nd rfl (Or.inl rfl) (pe_op op_add (pe_op op_mulW (pv 2) (pv 0)) (pv 3)))))
      (pss_one (ps_ret (pv 2))))), ?_⟩
    refine ⟨_, rfl, a, rfl, ⟨_, hT⟩, for_tup (K := K) (a := a) (xs := ns.map V.int) (fun i σ H' => ∃ z, σ = [some (.int k), some (.ref a), some (.int (place k (ns.take i))), z] ∧ H' = H) ⟨none, rfl, rfl⟩ (fun i σ H' _ ⟨_, _, e⟩ => e ▸ hT) ?_ ?_⟩
    · rintro i x σ H' hx ⟨z, rfl, rfl⟩
      obtain ⟨j, rfl, hj⟩ := getI hx
      have hb := place_abs h1 h2 (inW_take hw i)
      have hi : (ns.take i).length ≤ 1000 := by rw [List.length_take]; omega
      refine ⟨_, rfl, _, rfl, _, _, rfl, rfl, wide_mul hb (k8 h1 h2) (by omega) (by omega) (by omega), _, rfl, _, _, rfl, rfl, some (.int j), ?_, rfl⟩
      rw [take_more hj, place_app] <;> rfl
    · rintro σ H' ⟨z, rfl, rfl⟩
      rw [List.length_map, List.take_length]
      exact ⟨_, rfl, q⟩
def sp_word_in (K : PySem.W.Frag) : Sp := fun vs H Q _ => ∃ (k : Int) (n : Nat) (p : Int), vs = [.int k, .int n, .int p] ∧ 2 ≤ k ∧ k ≤ 5 ∧ n ≤ 1000 ∧
  ∀ a H', Same H H' → SqT K H' a ((lows k n p).reverse.map V.int) → Q (.ref a) H'
theorem ok_word_in (B : Blt mg) {f : Addr} {fd : FuncData} (F : Dn K mg "word_in" s_word_in ["width", "length", "place"] f fd) : FnOk P w K mg base CX0 1 f fd ["width", "length", "place"] (sp_word_in K) := by
  refine F.ok sc_word_in (fun vs H Q E h => ?_) (fun cdv A outer s H vs Q E hr h => ?_)
  · obtain ⟨k, n, p, rfl, _⟩ := h
    rfl
  · obtain ⟨k, n, p, rfl, h1, h2, hn, q⟩ := h
    refine ⟨_, (pss_cons (ps_set (i := 3) sc_word_in.nd rfl (Or.inl rfl) (pe_lst pa_nil))
      (pss_cons (ps_for PassesOwn.never rfl (pi_range1 (by rfl) B.range' (pa_cons (pv 1) pa_nil)) (pg_name (i := 4) sc_word_in.nd rfl (Or.inl rfl)) (pss_cons (ps_expr (pe_bm PySem.F.plainAttrs_list PySem.F.slot_list_append PySem.F.type_list_append mt_append (pv 3) (pa_cons (pe_op op_mod (pv 2) (pv 0)) pa_nil)))
      (pss_one (ps_set (i := 2) sc_word_in.nd rfl (Or.inl rfl) (pe_op op_fdivW (pv 2) (pv 0))))))
      (pss_one (ps_ret (pe_callTy (call_tupK K rfl) (by rfl) B.tuple' (by decide +kernel) (pa_cons (pe_revLK K rfl (pv 3)) pa_nil)))))), ?_⟩
    refine ⟨Nat.zero_le _, fun o no => ⟨_, rfl, n, rfl, by omega, by omega, for_range (lo := 0) (n := n) (fun i σ H' => ∃ z, σ = [some (.int k), some (.int n), some (.int (p / k ^ i)), some (.ref o), z] ∧ Same H H' ∧ H' o = some (.lst ((lows k i p).map V.int))) ⟨none, by rw [Int.pow_zero, Int.ediv_one] <;> rfl, same_new no, upd_same⟩ ?_ ?_⟩⟩
    · rintro i σ H' hi ⟨z, rfl, s1, e1⟩
      refine ⟨_, rfl, .inl ⟨rfl, _, sL e1⟩, _, rfl, _, rfl, _, _, rfl, rfl, (by show (0 : Int) < k; omega), o, _, _, rfl, rfl, e1, szl (by rw [List.length_map, lows_len]; omega), _, rfl, _, rfl, _, _, rfl, rfl, ⟨by omega, by
        have : k.natAbs.log2 ≤ 2 := by
          have hh : k = 2 ∨ k = 3 ∨ k = 4 ∨ k = 5 := by omega
          rcases hh with rfl | rfl | rfl | rfl <;> decide
        omega⟩, some (.int (0 + (i : Int))), ?_, fun b u e => ?_, ?_⟩
      · rw [Int.pow_succ, ← Int.ediv_ediv_of_nonneg (Int.le_of_lt (ipow_pos (by omega) i))] <;> rfl
      · rw [upd_ne (ne_of_none e no)]
        exact s1 b u e
      · rw [upd_same, lows_more k (by omega), List.map_append] <;> rfl
    · rintro σ H' ⟨z, rfl, s1, e1⟩
      refine ⟨_, rfl, o, _, rfl, sL e1, fun r nr => ⟨r, _, rfl, .inl ⟨sL upd_same, fun t nt => ?_⟩⟩⟩
      refine q t _ (s1.trans ((same_new nr).trans (same_new nt))) (sT ?_)
      rw [upd_same, List.map_reverse]

theorem Tups.same {H H' : Hp} (s : Same H H') {vs : List V} {wss : List (List Int)} (t : Tups K H vs wss) : Tups K H' vs wss := t.mono (d := 0) (Kd.same s)
theorem Tups.one {H : Hp} {a : Addr} {ns : List Int} {vs : List V} {wss : List (List Int)} (t : Tups K H vs wss) (h : SqT K H a (ns.map V.int)) : Tups K H (vs ++ [.ref a]) (wss ++ [ns]) := t.app (.cons h .nil)
def sp_words_in (K : PySem.W.Frag) : Sp := fun vs H Q _ => ∃ (k : Int) (n : Nat), vs = [.int k, .int n] ∧ 2 ≤ k ∧ k ≤ 5 ∧ n ≤ 1000 ∧ k ^ n ≤ 5000 ∧
  ∀ a us H', Same H H' → SqT K H' a us → Tups K H' us (wordsI k n) → Q (.ref a) H'
theorem ok_words_in (B : Blt mg) (c_power_of : Cl CX0 P w K mg base 1 "power_of" sp_power_of []) (c_word_in : Cl CX0 P w K mg base 1 "word_in" (sp_word_in K) []) {f : Addr} {fd : FuncData} (F : Dn K mg "words_in" s_words_in ["width", "length"] f fd) : FnOk P w K mg base CX0 2 f fd ["width", "length"] (sp_words_in K) := by
  refine F.ok sc_words_in (fun vs H Q E h => ?_) (fun cdv A outer s H vs Q E hr h => ?_)
  · obtain ⟨k, n, rfl, _⟩ := h
    rfl
  · obtain ⟨k, n, rfl, h1, h2, hn, hp, q⟩ := h
    have hpos : 0 < k ^ n := ipow_pos (by omega) n
    refine ⟨_, (pss_one (ps_ret (pe_callTy (call_tupK K rfl) (by rfl) B.tuple' (by decide +kernel) (pa_cons (pe_lc (own := [("place", 2)]) (by rfl) sc_words_in.nd (pi_range1 (by rfl) B.range' (pa_cons (pe_c c_power_of hr (by decide) (by rfl) (pa_cons (pv 0) (pa_cons (pv 1) pa_nil))) pa_nil)) (blkOk_by (own := [("place", 2)]) (N := ["width", "length", "place"]) (sc := defScope s_words_in) (by decide +kernel)) (fun _ _ _ _ _ => (pg_name (i := 2) sc_words_in.nd rfl (Or.inl rfl))) (fun _ _ _ _ _ => pts_nil) (fun _ _ _ _ _ => (pe_c c_word_in hr (by decide) (by rfl) (pa_cons (pv 0) (pa_cons (pv 1) (pa_cons (pv 2) pa_nil)))))) pa_nil)))), ?_⟩
    refine ⟨_, rfl, _, rfl, k, n, rfl, k8 h1 h2, hn, k ^ n, rfl, by omega, by omega, fun D hD => lc_range (lo := 0) (n := (k ^ n).toNat) (fun i H' => Same H H' ∧ ∃ us, H' D = some (.lst us) ∧ Tups K H' us ((List.range i).map fun p => (lows k n (p : Nat)).reverse)) ⟨same_new hD, [], upd_same, .nil⟩ ?_ ?_⟩
    · rintro i H' hi ⟨s1, us, e1, tu⟩
      refine ⟨rfl, _, rfl, _, rfl, _, rfl, k, n, (0 + (i : Int)), rfl, h1, h2, hn, fun a H2 s2 hT => ⟨us, s2 _ _ e1, szl ?_, fun b u e => ?_, us ++ [.ref a], upd_same, ?_⟩⟩
      · rw [tu.len, List.length_map, List.length_range]
        omega
      · rw [upd_ne (ne_of_none e hD)]
        exact s2 _ _ (s1 _ _ e)
      · rw [List.range_succ, List.map_append]
        have k3 : Kd D H2 (upd H2 D (.lst (us ++ [.ref a]))) := kd_upd (s2 _ _ e1)
        rw [Int.zero_add] at hT
        exact ((tu.same s2).mono k3).one (k3.tup hT)
    · rintro H' ⟨s1, us, e1, tu⟩
      refine ⟨D, us, rfl, .inl ⟨sL e1, fun t nt => ?_⟩⟩
      exact q t us _ (s1.trans (same_new nt)) (sT upd_same) (tu.same (same_new nt))
/-! ### the interface -/
theorem kn_k {k : Int} {H : Hp} : Kn K H (.int k) := .int k
def sp_is_word (K : PySem.W.Frag) : Sp := fun vs H Q _ => ∃ (k : Int) (v : V), vs = [.int k, v] ∧ 2 ≤ k ∧ k ≤ 5 ∧
  ((NoT H v ∧ Q (.bl false) H) ∨ ∃ (a : Addr) (xs : List V), v = .ref a ∧ SqT K H a xs ∧ xs.length < 1000000 ∧ (∀ x ∈ xs, Kn K H x) ∧ ∀ H', Same H H' → Q (.bl (xs.all (wn 0 (k - 1)))) H')
theorem ok_is_word (B : Blt mg) (c_require_width : Cl CX0 P w K mg base 4 "require_width" (sp_require_width K) []) (c_is_word_in_2 : Cl CX0 P w K mg base 4 "is_word_in" (sp_is_word_in K) [.non]) {f : Addr} {fd : FuncData} (F : Dn K mg "is_word" s_is_word ["width", "value"] f fd) : FnOk P w K mg base CX0 5 f fd ["width", "value"] (sp_is_word K) := by
  refine F.ok sc_is_word (fun vs H Q E h => ?_) (fun cdv A outer s H vs Q E hr h => ?_)
  · obtain ⟨k, v, rfl, _⟩ := h
    rfl
  · obtain ⟨k, v, rfl, h1, h2, hv⟩ := h
    refine ⟨_, (pss_cons (ps_expr (pe_c c_require_width hr (by decide) (by rfl) (pa_cons (pv 0) pa_nil)))
      (pss_one (ps_ret (pe_c c_is_word_in_2 hr (by decide) (by rfl) (pa_cons (pv 0) (pa_cons (pv 1) pa_nil)))))), ?_⟩
    refine ⟨_, rfl, k, rfl, h1, h2, _, rfl, _, rfl, k, v, .non, rfl, .inl rfl, ?_⟩
    exact hv
def sp_words_of (K : PySem.W.Frag) : Sp := fun vs H Q _ => ∃ (k : Int) (n : Nat), vs = [.int k, .int n] ∧ 2 ≤ k ∧ k ≤ 5 ∧ n ≤ 12 ∧ k ^ n ≤ 5000 ∧
  ∀ a us H', Same H H' → SqT K H' a us → Tups K H' us (wordsI k n) → Q (.ref a) H'
theorem ok_words_of (B : Blt mg) (m_MOST_LISTED : ∃ u, mg "MOST_LISTED" = some u ∧ RelV (.int 12) u) (m_MAX_LEVEL : ∃ u, mg "MAX_LEVEL" = some u ∧ RelV (.int 5000) u) (c_require_width : Cl CX0 P w K mg base 4 "require_width" (sp_require_width K) []) (c_require_within : Cl CX0 P w K mg base 3 "require_within" (sp_require_within K) [])
    (c_power_of : Cl CX0 P w K mg base 1 "power_of" sp_power_of []) (c_words_in : Cl CX0 P w K mg base 2 "words_in" (sp_words_in K) []) {f : Addr} {fd : FuncData} (F : Dn K mg "words_of" s_words_of ["width", "length"] f fd) : FnOk P w K mg base CX0 5 f fd ["width", "length"] (sp_words_of K) := by
  refine F.ok sc_words_of (fun vs H Q E h => ?_) (fun cdv A outer s H vs Q E hr h => ?_)
  · obtain ⟨k, n, rfl, _⟩ := h
    rfl
  · obtain ⟨k, n, rfl, h1, h2, hn, hp, q⟩ := h
    refine ⟨_, (pss_cons (ps_expr (pe_c c_require_width hr (by decide) (by rfl) (pa_cons (pv 0) pa_nil)))
      (pss_cons (ps_expr (pe_c c_require_within hr (by decide) (by rfl) (pa_cons (pv 1) (pa_cons pe_int (pa_cons (pe_gc (by rfl) m_MOST_LISTED) pa_nil)))))
      (pss_cons (ps_if (pt_cmpR op_gt (pe_c c_power_of hr (by decide) (by rfl) (pa_cons (pv 0) (pa_cons (pv 1) pa_nil))) (pe_gc (by rfl) m_MAX_LEVEL) (nomark _)) (pss_one ps_never) pss_nil)
      (pss_one (ps_ret (pe_c c_words_in hr (by decide) (by rfl) (pa_cons (pv 0) (pa_cons (pv 1) pa_nil)))))))), ?_⟩
    refine ⟨_, rfl, k, rfl, h1, h2, _, rfl, _, 0, 12, rfl, wn_of (by omega) (by omega), _, rfl, _, rfl, k, n, rfl, k8 h1 h2, by omega, _, _, rfl, rfl, _, rfl, ?_⟩
    rw [decide_eq_false (by omega)]
    exact iteF ⟨_, rfl, _, rfl, k, n, rfl, h1, h2, by omega, hp, q⟩
def sp_place_of (K : PySem.W.Frag) : Sp := fun vs H Q _ => ∃ (k : Int) (a : Addr) (ns : List Int), vs = [.int k, .ref a] ∧ SqT K H a (ns.map V.int) ∧ inW k ns ∧ 2 ≤ k ∧ k ≤ 5 ∧ ns.length ≤ 200 ∧ ∀ H', Same H H' → Q (.int (place k ns)) H'
theorem ok_place_of (B : Blt mg) (c_require_width : Cl CX0 P w K mg base 4 "require_width" (sp_require_width K) []) (c_require_word : Cl CX0 P w K mg base 5 "require_word" (sp_require_word K) []) (c_place_in : Cl CX0 P w K mg base 1 "place_in" (sp_place_in K) [])
    {f : Addr} {fd : FuncData} (F : Dn K mg "place_of" s_place_of ["width", "word"] f fd) : FnOk P w K mg base CX0 6 f fd ["width", "word"] (sp_place_of K) := by
  refine F.ok sc_place_of (fun vs H Q E h => ?_) (fun cdv A outer s H vs Q E hr h => ?_)
  · obtain ⟨k, a, ns, rfl, _⟩ := h
    rfl
  · obtain ⟨k, a, ns, rfl, hT, hw, h1, h2, hl, q⟩ := h
    refine ⟨_, (pss_cons (ps_expr (pe_c c_require_width hr (by decide) (by rfl) (pa_cons (pv 0) pa_nil)))
      (pss_cons (ps_expr (pe_c c_require_word hr (by decide) (by rfl) (pa_cons (pv 0) (pa_cons (pv 1) pa_nil))))
      (pss_one (ps_ret (pe_c c_place_in hr (by decide) (by rfl) (pa_cons (pv 0) (pa_cons (pv 1) pa_nil))))))), ?_⟩
    exact ⟨_, rfl, k, rfl, h1, h2, _, rfl, _, rfl, k, a, ns, rfl, hT, hw, hl, fun H' s1 => ⟨_, rfl, _, rfl, k, a, ns, rfl, same_tup s1 hT, hw, h1, h2, by omega, q H' s1⟩⟩
def sp_word_at (K : PySem.W.Frag) : Sp := fun vs H Q _ => ∃ (k : Int) (n : Nat) (p : Int), vs = [.int k, .int n, .int p] ∧ 2 ≤ k ∧ k ≤ 5 ∧ n ≤ 200 ∧ 0 ≤ p ∧ p < k ^ n ∧
  ∀ a H', Same H H' → SqT K H' a ((lows k n p).reverse.map V.int) → Q (.ref a) H'
theorem ok_word_at (B : Blt mg) (m_MAX_LENGTH : ∃ u, mg "MAX_LENGTH" = some u ∧ RelV (.int 200) u) (c_require_width : Cl CX0 P w K mg base 4 "require_width" (sp_require_width K) []) (c_require_within : Cl CX0 P w K mg base 3 "require_within" (sp_require_within K) [])
    (c_power_of : Cl CX0 P w K mg base 1 "power_of" sp_power_of []) (c_word_in : Cl CX0 P w K mg base 1 "word_in" (sp_word_in K) []) {f : Addr} {fd : FuncData} (F : Dn K mg "word_at" s_word_at ["width", "length", "place"] f fd) : FnOk P w K mg base CX0 5 f fd ["width", "length", "place"] (sp_word_at K) := by
  refine F.ok sc_word_at (fun vs H Q E h => ?_) (fun cdv A outer s H vs Q E hr h => ?_)
  · obtain ⟨k, n, p, rfl, _⟩ := h
    rfl
  · obtain ⟨k, n, p, rfl, h1, h2, hn, p0, p1, q⟩ := h
    refine ⟨_, (pss_cons (ps_expr (pe_c c_require_width hr (by decide) (by rfl) (pa_cons (pv 0) pa_nil)))
      (pss_cons (ps_expr (pe_c c_require_within hr (by decide) (by rfl) (pa_cons (pv 1) (pa_cons pe_int (pa_cons (pe_gc (by rfl) m_MAX_LENGTH) pa_nil)))))
      (pss_cons (ps_expr (pe_c c_require_within hr (by decide) (by rfl) (pa_cons (pv 2) (pa_cons pe_int (pa_cons (pe_op op_sub (pe_c c_power_of hr (by decide) (by rfl) (pa_cons (pv 0) (pa_cons (pv 1) pa_nil))) pe_int) pa_nil)))))
      (pss_one (ps_ret (pe_c c_word_in hr (by decide) (by rfl) (pa_cons (pv 0) (pa_cons (pv 1) (pa_cons (pv 2) pa_nil))))))))), ?_⟩
    exact ⟨_, rfl, k, rfl, h1, h2, _, rfl, _, 0, 200, rfl, wn_of (by omega) (by omega), _, rfl, _, rfl, _, rfl, k, n, rfl, k8 h1 h2, by omega, _, _, rfl, rfl, _, 0, k ^ n - 1, rfl, wn_of p0 (by omega), _, rfl, _, rfl, _, rfl, k, n, p, rfl, h1, h2, by omega, q⟩
def sp_low_number (K : PySem.W.Frag) : Sp := fun vs H Q _ => ∃ (k : Int) (a : Addr) (ns : List Int), vs = [.int k, .ref a] ∧ SqT K H a (ns.map V.int) ∧ inW k ns ∧ 2 ≤ k ∧ k ≤ 5 ∧ ns.length ≤ 200 ∧ ∀ H', Same H H' → Q (.int (place k ns.reverse)) H'
theorem ok_low_number (B : Blt mg) (c_require_width : Cl CX0 P w K mg base 4 "require_width" (sp_require_width K) []) (c_require_word : Cl CX0 P w K mg base 5 "require_word" (sp_require_word K) []) (c_place_in : Cl CX0 P w K mg base 1 "place_in" (sp_place_in K) [])
    {f : Addr} {fd : FuncData} (F : Dn K mg "low_number" s_low_number ["width", "word"] f fd) : FnOk P w K mg base CX0 6 f fd ["width", "word"] (sp_low_number K) := by
  refine F.ok sc_low_number (fun vs H Q E h => ?_) (fun cdv A outer s H vs Q E hr h => ?_)
  · obtain ⟨k, a, ns, rfl, _⟩ := h
    rfl
  · obtain ⟨k, a, ns, rfl, hT, hw, h1, h2, hl, q⟩ := h
    refine ⟨_, (pss_cons (ps_expr (pe_c c_require_width hr (by decide) (by rfl) (pa_cons (pv 0) pa_nil)))
      (pss_cons (ps_expr (pe_c c_require_word hr (by decide) (by rfl) (pa_cons (pv 0) (pa_cons (pv 1) pa_nil))))
      (pss_one (ps_ret (pe_c c_place_in hr (by decide) (by rfl) (pa_cons (pv 0) (pa_cons (pe_revTK K rfl (pv 1)) pa_nil))))))), ?_⟩
    refine ⟨_, rfl, k, rfl, h1, h2, _, rfl, _, rfl, k, a, ns, rfl, hT, hw, hl, fun H' s1 => ⟨_, rfl, _, rfl, a, _, rfl, same_tup s1 hT, fun r nr => ⟨k, r, ns.reverse, rfl, sT ?_, inW_rev hw, h1, h2, by rw [List.length_reverse]; omega, q _ (s1.trans (same_new nr))⟩⟩⟩
    rw [upd_same, List.map_reverse]
def sp_low_word (K : PySem.W.Frag) : Sp := fun vs H Q _ => ∃ (k : Int) (p : Int) (n : Nat), vs = [.int k, .int p, .int n] ∧ 2 ≤ k ∧ k ≤ 5 ∧ n ≤ 200 ∧ 0 ≤ p ∧ p < 10 ^ 60 ∧
  ∀ a H', Same H H' → SqT K H' a ((lows k n p).map V.int) → Q (.ref a) H'
theorem ok_low_word (B : Blt mg) (m_GREAT : ∃ u, mg "GREAT" = some u ∧ RelV (.int (10 ^ 60)) u) (m_MAX_LENGTH : ∃ u, mg "MAX_LENGTH" = some u ∧ RelV (.int 200) u) (c_require_width : Cl CX0 P w K mg base 4 "require_width" (sp_require_width K) []) (c_require_within : Cl CX0 P w K mg base 3 "require_within" (sp_require_within K) [])
    (c_word_in : Cl CX0 P w K mg base 1 "word_in" (sp_word_in K) []) {f : Addr} {fd : FuncData} (F : Dn K mg "low_word" s_low_word ["width", "number", "length"] f fd) : FnOk P w K mg base CX0 5 f fd ["width", "number", "length"] (sp_low_word K) := by
  refine F.ok sc_low_word (fun vs H Q E h => ?_) (fun cdv A outer s H vs Q E hr h => ?_)
  · obtain ⟨k, p, n, rfl, _⟩ := h
    rfl
  · obtain ⟨k, p, n, rfl, h1, h2, hn, p0, p1, q⟩ := h
    refine ⟨_, (pss_cons (ps_expr (pe_c c_require_width hr (by decide) (by rfl) (pa_cons (pv 0) pa_nil)))
      (pss_cons (ps_expr (pe_c c_require_within hr (by decide) (by rfl) (pa_cons (pv 1) (pa_cons pe_int (pa_cons (pe_op op_sub (pe_gc (by rfl) m_GREAT) pe_int) pa_nil)))))
      (pss_cons (ps_expr (pe_c c_require_within hr (by decide) (by rfl) (pa_cons (pv 2) (pa_cons pe_int (pa_cons (pe_gc (by rfl) m_MAX_LENGTH) pa_nil)))))
      (pss_one (ps_ret (pe_revTK K rfl (pe_c c_word_in hr (by decide) (by rfl) (pa_cons (pv 0) (pa_cons (pv 2) (pa_cons (pv 1) pa_nil)))))))))), ?_⟩
    refine ⟨_, rfl, k, rfl, h1, h2, _, rfl, _, _, rfl, rfl, _, 0, 10 ^ 60 - 1, rfl, wn_of p0 (by omega), _, rfl, _, 0, 200, rfl, wn_of (by omega) (by omega), _, rfl, _, rfl, _, rfl, k, n, p, rfl, h1, h2, by omega, fun a H' s1 hT => ⟨a, _, rfl, hT, fun r nr => q r _ (s1.trans (same_new nr)) (sT ?_)⟩⟩
    rw [upd_same, List.map_reverse, List.reverse_reverse]
end
end Br

namespace Br
open PySem PySem.Spec PyProof.Rows L2
section
variable {P : Program} {w : World} {K : PySem.W.Frag} {mg : Str → Option Value} {base : Heap}
/-! ### the dice -/
def bigM : Int := (10 ^ 54) ^ 6
theorem bigM_pos : 0 < bigM := by decide +kernel
theorem bigM_lt : bigM.natAbs < 2 ^ 1100 := by decide +kernel
def sp_law_dice (K : PySem.W.Frag) : Sp := fun vs H Q _ => ∃ (a : Addr) (ns : List Int) (i : Nat), vs = [.ref a, .int i] ∧ SqL K H a (ns.map V.int) ∧ i ≤ 1000 ∧ ∀ p H', H p = none → Same H H' → Dice H' p 0 → Q (.ref p) H'
theorem ok_law_dice (B : Blt mg) {f : Addr} {fd : FuncData} (F : Dn K mg "_law_dice" s_law_dice ["script", "spot"] f fd) : FnOk P w K mg base CX0 1 f fd ["script", "spot"] (sp_law_dice K) := by
  refine F.ok sc_law_dice (fun vs H Q E h => ?_) (fun cdv A outer s H vs Q E hr h => ?_)
  · obtain ⟨a, ns, i, rfl, _⟩ := h
    rfl
  · obtain ⟨a, ns, i, rfl, hS, hi, q⟩ := h
    refine ⟨_, (C8.pss_cut (ps_set (i := 2) sc_law_dice.nd rfl (Or.inl rfl) (pe_ifExp (pt_cmpR op_lt (pv 1) (pe_callB (call_lenK K rfl) (by rfl) B.len' PySem.boot_len (pa_cons (pv 0) pa_nil)) (nomark _)) (pe_callTy call_int1 (by rfl) B.int' (by decide +kernel) (pa_cons (pe_ix (ix_lK K rfl) (pv 0) (pv 1) (fun _ _ => rfl)) pa_nil)) (pe_op op_add (pe_op op_mulW pe_int (pv 1)) pe_int)))
      (pss_cons (ps_set (i := 3) sc_law_dice.nd rfl (Or.inl rfl) (pe_op op_mod (pe_callTy call_int1 (by rfl) B.int' (by decide +kernel) (pa_cons (pe_callB call_abs (by rfl) B.abs' (by decide +kernel) (pa_cons (pv 2) pa_nil)) pa_nil)) (pe_op op_powW (pe_op op_powW pe_int pe_int) pe_int)))
      (pss_cons (ps_set (i := 4) sc_law_dice.nd rfl (Or.inl rfl) (pe_op op_add (pe_op op_add (pe_op op_add (pe_op op_mulW (pe_op op_mod (pv 3) pe_int) pe_int) (pe_op op_mulW pe_int (pv 1))) (pe_op op_mulW pe_int (pe_callTy call_int1 (by rfl) B.int' (by decide +kernel) (pa_cons (pe_cmpR op_lt (pv 2) pe_int (nomark _)) pa_nil)))) pe_int))
      (pss_one (ps_ret (pe_lst (pa_cons (pe_callB (call_max2 rfl) (by rfl) B.max' (by decide +kernel) (pa_cons pe_int (pa_cons (pe_op op_sub (pv 3) (pe_op op_powW pe_int pe_int)) pa_nil))) (pa_cons (pv 4) (pa_cons pe_int pa_nil))))))))), ?_⟩
    refine ⟨fun σ H' => ∃ c : Int, σ = [some (.ref a), some (.int i), some (.int c), none, none] ∧ H' = H, ?_, ?_⟩
    · refine ⟨_, rfl, _, rfl, a, _, rfl, .inl hS, _, _, rfl, rfl, _, rfl, ite2 (fun e => ?_) (fun e => ?_)⟩
      · have hlt : i < ns.length := by
          have := of_decide_eq_true e
          rw [List.length_map] at this
          omega
        exact ⟨_, rfl, _, rfl, a, _, _, .int ns[i], rfl, rfl, hS, atI_nat (j := i) (by rw [List.getElem?_map, List.getElem?_eq_getElem hlt] <;> rfl), .inl ⟨_, rfl, _, rfl, rfl⟩⟩
      · exact ⟨_, rfl, _, _, rfl, rfl, wide_mul (a := 64) (b := 64) (by decide) (by omega) (by omega) (by omega) (by omega), _, _, rfl, rfl, _, rfl, rfl⟩
    · rintro σ H' ⟨c, rfl, rfl⟩
      refine ⟨_, rfl, _, rfl, .inl ⟨_, rfl, _, _, rfl, rfl, ⟨by decide, by decide +kernel⟩, _, _, rfl, rfl, ⟨by decide, by decide +kernel⟩, _, _, rfl, rfl, bigM_pos, ?_⟩⟩
      show tSeq _ _ _ [some (.ref a), some (.int i), some (.int c), some (.int ((if c < 0 then -c else c) % bigM)), none] H'
      generalize hg : (if c < 0 then -c else c) % bigM = g
      have g0 : 0 ≤ g := by rw [← hg]; exact Int.emod_nonneg _ (by have := bigM_pos; omega)
      have g1 : g < bigM := by rw [← hg]; exact Int.emod_lt_of_pos _ bigM_pos
      have gl : g.natAbs < 2 ^ 1100 := abs_le g0 (Int.le_of_lt g1) bigM_lt
      have r0 : 0 ≤ g % 2305843009213693921 := Int.emod_nonneg _ (by decide)
      have r1 : g % 2305843009213693921 < 2305843009213693921 := Int.emod_lt_of_pos _ (by decide)
      refine ⟨_, rfl, _, _, rfl, rfl, (by show (0 : Int) < 2305843009213693921; decide), ?_⟩
      refine ⟨_, _, rfl, rfl, wide_mul (a := 64) (b := 64) (by omega) (by decide) (by omega) (by omega) (by omega), _, rfl, _, _, rfl, rfl, wide_mul (a := 64) (b := 64) (by decide) (by omega) (by omega) (by omega) (by omega), _, _, rfl, rfl, _, rfl, _, _, rfl, rfl, .inr ⟨_, rfl, _, _, rfl, rfl, wide_mul (a := 64) (b := 64) (by decide) (by split <;> omega) (by omega) (by omega) (by omega), _, _, rfl, rfl, _, _, rfl, rfl, ?_⟩⟩
      refine ⟨_, rfl, _, _, rfl, rfl, ⟨by decide, by decide +kernel⟩, _, _, rfl, rfl, _, _, rfl, _, rfl, by show 3 ≤ sizeLine; decide, fun p np => ?_⟩
      have t16 : (0 : Int) ≤ 10 ^ Int.toNat 16 := by decide
      refine q p _ np (same_new np) ⟨_, _, _, upd_same, ?_, ?_, ?_, ?_, Int.le_refl 0, by decide⟩
      · split <;> omega
      · refine Nat.lt_of_le_of_lt ?_ gl
        split <;> omega
      · split <;> omega
      · split <;> omega

/-- one roll -/
def sp_law_roll : Sp := fun vs H Q _ => ∃ (d : Addr) (t : Int) (n : Nat), vs = [.ref d, .int t] ∧ Dice H d n ∧ n < 2 ^ 60 ∧ 0 < t ∧ t.natAbs < 2 ^ 64 ∧ ∀ v H', 0 ≤ v → v < t → Kd d H H' → Dice H' d (n + 1) → Q (.int v) H'
theorem ok_law_roll (B : Blt mg) {f : Addr} {fd : FuncData} (F : Dn K mg "_law_roll" s_law_roll ["dice", "total"] f fd) : FnOk P w K mg base CX0 1 f fd ["dice", "total"] sp_law_roll := by
  refine F.ok sc_law_roll (fun vs H Q E h => ?_) (fun cdv A outer s H vs Q E hr h => ?_)
  · obtain ⟨d, t, n, rfl, _⟩ := h
    rfl
  · obtain ⟨d, t, n, rfl, ⟨g, s, c, hD, g0, g1, s0, s1, c0, c1⟩, hn, t0, t1, q⟩ := h
    refine ⟨_, (pss_cons (ps_if (pt_cmpR op_gt (pe_ix (ix_lK K rfl) (pv 0) pe_int (fun _ _ => rfl)) pe_int (nomark _)) (pss_cons (ps_set (i := 2) sc_law_roll.nd rfl (Or.inl rfl) (pe_op op_mod (pe_ix (ix_lK K rfl) (pv 0) pe_int (fun _ _ => rfl)) (pv 1)))
      (pss_cons (ps_asg (pe_op op_fdivW (pe_ix (ix_lK K rfl) (pv 0) pe_int (fun _ _ => rfl)) (pv 1)) (pg_sub (pv 0) pe_int set_list))
      (pss_one (ps_ret (pe_callTy call_int1 (by rfl) B.int' (by decide +kernel) (pa_cons (pv 2) pa_nil)))))) pss_nil)
      (pss_cons (ps_asg (pe_op op_add (pe_ix (ix_lK K rfl) (pv 0) pe_int (fun _ _ => rfl)) pe_int) (pg_sub (pv 0) pe_int set_list))
      (pss_cons (ps_set (i := 3) sc_law_roll.nd rfl (Or.inl rfl) (pe_op op_mod (pe_op op_add (pe_ix (ix_lK K rfl) (pv 0) pe_int (fun _ _ => rfl)) (pe_op op_mulW pe_int (pe_ix (ix_lK K rfl) (pv 0) pe_int (fun _ _ => rfl)))) pe_int))
      (pss_cons (ps_set (i := 4) sc_law_roll.nd rfl (Or.inl rfl) (pe_op op_add (pe_op op_mulW (pe_op op_mod (pe_op op_add (pe_op op_mulW (pv 3) (pv 3)) (pe_op op_mulW pe_int (pe_ix (ix_lK K rfl) (pv 0) pe_int (fun _ _ => rfl)))) pe_int) pe_int) (pv 3)))
      (pss_one (ps_ret (pe_op op_mod (pe_callTy call_int1 (by rfl) B.int' (by decide +kernel) (pa_cons (pe_op op_fdivW (pv 4) pe_int) pa_nil)) (pv 1)))))))), ?_⟩
    refine ⟨_, rfl, d, _, _, .int g, rfl, rfl, sL hD, rfl, _, _, rfl, rfl, _, rfl, ite2 (fun e => ?_) (fun e => ?_)⟩
    · have m0 : 0 ≤ g / t := Int.ediv_nonneg g0 (Int.le_of_lt t0)
      have m1 : g / t ≤ g := Int.ediv_le_self _ g0
      refine ⟨_, rfl, d, _, _, .int g, rfl, rfl, sL hD, rfl, _, rfl, _, _, rfl, rfl, t0, _, rfl, d, _, _, .int g, rfl, rfl, sL hD, rfl, _, rfl, _, _, rfl, rfl, wide_div t0 t1 (by decide) (by decide), _, rfl, d, _, _, 0, rfl, rfl, hD, rfl, _, rfl, .inl ⟨_, rfl, ?_⟩⟩
      exact q _ _ (Int.emod_nonneg _ (by omega)) (Int.emod_lt_of_pos _ t0) (kd_upd hD) ⟨g / t, s, c, upd_same, m0, Nat.lt_of_le_of_lt (by omega) g1, s0, s1, c0, by omega⟩
    · have hD1 : ∀ o, (upd H d o) d = some o := fun o => upd_same
      refine ⟨_, rfl, d, _, _, .int c, rfl, rfl, sL hD, rfl, _, _, rfl, rfl, _, rfl, d, _, _, 2, rfl, rfl, hD, rfl, ?_⟩
      show tSeq _ _ _ _ (upd H d (.lst [.int g, .int s, .int (c + 1)]))
      have hE : (upd H d (.lst [.int g, .int s, .int (c + 1)])) d = some (.lst [.int g, .int s, .int (c + 1)]) := upd_same
      have kE : Kd d H (upd H d (.lst [.int g, .int s, .int (c + 1)])) := kd_upd hD
      generalize upd H d (.lst [.int g, .int s, .int (c + 1)]) = H1 at hE kE
      have c62 : (c + 1).natAbs < 2 ^ 62 := by omega
      refine ⟨_, rfl, d, _, _, .int s, rfl, rfl, sL hE, rfl, _, rfl, d, _, _, .int (c + 1), rfl, rfl, sL hE, rfl, _, _, rfl, rfl, wide_mul (a := 64) (b := 62) (by decide) c62 (by omega) (by omega) (by omega), _, _, rfl, rfl, _, _, rfl, rfl, (by show (0 : Int) < 2305843009213693951; decide), ?_⟩
      have o0 : 0 ≤ (s + 86028157 * (c + 1)) % 2305843009213693951 := Int.emod_nonneg _ (by decide)
      have o1 : (s + 86028157 * (c + 1)) % 2305843009213693951 < 2305843009213693951 := Int.emod_lt_of_pos _ (by decide)
      show tSeq _ _ _ [some (.ref d), some (.int t), none, some (.int ((s + 86028157 * (c + 1)) % 2305843009213693951)), none] H1
      generalize (s + 86028157 * (c + 1)) % 2305843009213693951 = o at o0 o1
      refine ⟨_, rfl, _, rfl, _, _, rfl, rfl, wide_mul (a := 64) (b := 64) (by omega) (by omega) (by omega) (by omega) (by omega), _, rfl, d, _, _, .int (c + 1), rfl, rfl, sL hE, rfl, _, _, rfl, rfl, wide_mul (a := 64) (b := 62) (by decide) c62 (by omega) (by omega) (by omega), _, _, rfl, rfl, _, _, rfl, rfl, (by show (0 : Int) < 2305843009213693907; decide), ?_⟩
      have u0 : 0 ≤ (o * o + 179 * (c + 1)) % 2305843009213693907 := Int.emod_nonneg _ (by decide)
      have u1 : (o * o + 179 * (c + 1)) % 2305843009213693907 < 2305843009213693907 := Int.emod_lt_of_pos _ (by decide)
      generalize (o * o + 179 * (c + 1)) % 2305843009213693907 = u at u0 u1
      refine ⟨_, _, rfl, rfl, wide_mul (a := 64) (b := 64) (by omega) (by decide) (by omega) (by omega) (by omega), _, rfl, _, _, rfl, rfl, _, rfl, _, _, rfl, rfl, wide_div (b := 64) (by decide) (by decide) (by decide) (by decide), .inl ⟨_, rfl, _, rfl, _, _, rfl, rfl, t0, ?_⟩⟩
      exact q _ _ (Int.emod_nonneg _ (by omega)) (Int.emod_lt_of_pos _ t0) kE ⟨g, s, c + 1, hE, g0, g1, s0, s1, by omega, by omega⟩
/-- one of some items -/
def sp_law_pick (K : PySem.W.Frag) : Sp := fun vs H Q _ => ∃ (d a : Addr) (xs : List V) (n : Nat), vs = [.ref d, .ref a] ∧ Dice H d n ∧ n < 2 ^ 60 ∧ SqL K H a xs ∧ a ≠ d ∧ 0 < xs.length ∧ xs.length < 1000000 ∧
  ∀ (i : Nat) v H', xs[i]? = some v → Kd d H H' → Dice H' d (n + 1) → Q v H'
theorem ok_law_pick (B : Blt mg) (c_law_roll : Cl CX0 P w K mg base 1 "_law_roll" sp_law_roll []) {f : Addr} {fd : FuncData} (F : Dn K mg "_law_pick" s_law_pick ["dice", "items"] f fd) : FnOk P w K mg base CX0 2 f fd ["dice", "items"] (sp_law_pick K) := by
  refine F.ok sc_law_pick (fun vs H Q E h => ?_) (fun cdv A outer s H vs Q E hr h => ?_)
  · obtain ⟨d, a, xs, n, rfl, _⟩ := h
    rfl
  · obtain ⟨d, a, xs, n, rfl, hD, hn, hS, ne, h0, hl, q⟩ := h
    refine ⟨_, (pss_one (ps_ret (pe_ix (ix_lK K rfl) (pv 1) (pe_c c_law_roll hr (by decide) (by rfl) (pa_cons (pv 0) (pa_cons (pe_callB (call_lenK K rfl) (by rfl) B.len' PySem.boot_len (pa_cons (pv 1) pa_nil)) pa_nil))) (fun _ _ => rfl)))), ?_⟩
    refine ⟨_, rfl, _, rfl, _, rfl, a, _, rfl, .inl hS, d, xs.length, n, rfl, hD, hn, by omega, by omega, fun v H' v0 v1 k1 D1 => ?_⟩
    obtain ⟨i, rfl⟩ : ∃ i : Nat, v = i := ⟨v.toNat, by omega⟩
    have hi : i < xs.length := by omega
    exact ⟨a, xs, i, xs[i], rfl, rfl, k1.lst ne hS, atI_nat (List.getElem?_eq_getElem hi), q i _ H' (List.getElem?_eq_getElem hi) k1 D1⟩

theorem ok_law_power (B : Blt mg) {f : Addr} {fd : FuncData} (F : Dn K mg "_law_power" s_law_power ["base", "many"] f fd) : FnOk P w K mg base CX0 1 f fd ["base", "many"] sp_power_of := by
  refine F.ok sc_law_power (fun vs H Q E h => ?_) (fun cdv A outer s H vs Q E hr h => ?_)
  · obtain ⟨b, n, rfl, _⟩ := h
    rfl
  · obtain ⟨b, n, rfl, hb, hn, q⟩ := h
    refine ⟨_, (pss_cons (ps_set (i := 2) sc_law_power.nd rfl (Or.inl rfl) pe_int)
      (pss_cons (ps_for PassesOwn.never rfl (pi_range1 (by rfl) B.range' (pa_cons (pv 1) pa_nil)) (pg_name (i := 3) sc_law_power.nd rfl (Or.inl rfl)) (pss_one (ps_set (i := 2) sc_law_power.nd rfl (Or.inl rfl) (pe_op op_mulW (pv 2) (pv 0)))))
      (pss_one (ps_ret (pv 2))))), ?_⟩
    refine ⟨.int n, rfl, n, rfl, by omega, by omega, for_range (lo := 0) (n := n) (fun i σ H' => ∃ z, σ = [some (.int b), some (.int n), some (.int (b ^ i)), z] ∧ H' = H) ⟨none, by rw [Int.pow_zero] <;> rfl, rfl⟩ ?_ ?_⟩
    · rintro i σ H' hi ⟨z, rfl, rfl⟩
      refine ⟨_, rfl, _, rfl, _, _, rfl, rfl, wide_mul (pow_lt hb i) hb (by omega) (by omega) (by omega), some (.int (0 + (i : Int))), ?_, rfl⟩
      rw [Int.pow_succ] <;> rfl
    · rintro σ H' ⟨z, rfl, rfl⟩
      exact ⟨_, rfl, q⟩
theorem ok_law_value (B : Blt mg) {f : Addr} {fd : FuncData} (F : Dn K mg "_law_value" s_law_value ["width", "letters"] f fd) : FnOk P w K mg base CX0 1 f fd ["width", "letters"] (sp_place_in K) := by
  refine F.ok sc_law_value (fun vs H Q E h => ?_) (fun cdv A outer s H vs Q E hr h => ?_)
  · obtain ⟨k, a, ns, rfl, _⟩ := h
    rfl
  · obtain ⟨k, a, ns, rfl, hT, hw, h1, h2, hl, q⟩ := h
    refine ⟨_, (pss_cons (ps_set (i := 2) sc_law_value.nd rfl (Or.inl rfl) pe_int)
      (pss_cons (ps_for PassesOwn.never rfl (pi_tK K rfl (pv 1)) (pg_name (i := 3) sc_law_value.nd rfl (Or.inl rfl)) (pss_one (ps_set (i := 2) sc_law_value.nd rfl (Or.inl rfl) (pe_op op_add (pe_op op_mulW (pv 2) (pv 0)) (pv 3)))))
      (pss_one (ps_ret (pv 2))))), ?_⟩
    refine ⟨_, rfl, a, rfl, ⟨_, hT⟩, for_tup (K := K) (a := a) (xs := ns.map V.int) (fun i σ H' => ∃ z, σ = [some (.int k), some (.ref a), some (.int (place k (ns.take i))), z] ∧ H' = H) ⟨none, rfl, rfl⟩ (fun i σ H' _ ⟨_, _, e⟩ => e ▸ hT) ?_ ?_⟩
    · rintro i x σ H' hx ⟨z, rfl, rfl⟩
      obtain ⟨j, rfl, hj⟩ := getI hx
      have hb := place_abs h1 h2 (inW_take hw i)
      have hi : (ns.take i).length ≤ 1000 := by rw [List.length_take]; omega
      refine ⟨_, rfl, _, rfl, _, _, rfl, rfl, wide_mul hb (k8 h1 h2) (by omega) (by omega) (by omega), _, rfl, _, _, rfl, rfl, some (.int j), ?_, rfl⟩
      rw [take_more hj, place_app] <;> rfl
    · rintro σ H' ⟨z, rfl, rfl⟩
      rw [List.length_map, List.take_length]
      exact ⟨_, rfl, q⟩
/-- all words, as they grow -/
def oneMore (k : Nat) (ws : List (List Int)) : List (List Int) := ws.flatMap fun w => (List.range k).map fun r => w ++ [((r : Nat) : Int)]
theorem oneMore_len (k : Nat) (ws : List (List Int)) : (oneMore k ws).length = ws.length * k := by
  unfold oneMore
  induction ws with
  | nil => simp
  | cons a r ih => rw [List.flatMap_cons, List.length_append, ih, List.length_map, List.length_range, List.length_cons, Nat.succ_mul, Nat.add_comm]
theorem oneMore_app (k : Nat) (ws : List (List Int)) (x : List Int) : oneMore k (ws ++ [x]) = oneMore k ws ++ (List.range k).map fun r => x ++ [((r : Nat) : Int)] := by
  unfold oneMore
  rw [List.flatMap_append, List.flatMap_singleton]
theorem wordsG_len (k : Nat) : ∀ n, (wordsG k n).length = k ^ n
  | 0 => rfl
  | n + 1 => by
    show (oneMore k (wordsG k n)).length = _
    rw [oneMore_len, wordsG_len k n, Nat.pow_succ]
theorem words_short (k : Nat) : ∀ n, ∀ w ∈ wordsG k n, w.length = n
  | 0, w, h => by
    have : w = [] := by simpa [wordsG] using h
    rw [this] <;> rfl
  | n + 1, w, h => by
    have h' : w ∈ (wordsG k n).flatMap fun w => (List.range k).map fun r => w ++ [((r : Nat) : Int)] := h
    obtain ⟨v, hv, hw⟩ := List.mem_flatMap.mp h'
    obtain ⟨r, _, rfl⟩ := List.mem_map.mp hw
    rw [List.length_append, words_short k n v hv] <;> rfl
def sp_law_words (K : PySem.W.Frag) : Sp := fun vs H Q _ => ∃ (k n : Nat), vs = [.int k, .int n] ∧ 2 ≤ k ∧ k ≤ 5 ∧ n ≤ 4 ∧
  ∀ l us H', H l = none → Same H H' → H' l = some (.lst us) → Tups K H' us (wordsG k n) → Q (.ref l) H'
theorem pow5 {k n : Nat} (hk : k ≤ 5) (hn : n ≤ 4) : k ^ n ≤ 625 := Nat.le_trans (Nat.pow_le_pow_left hk n) (Nat.le_trans (Nat.pow_le_pow_right (by decide) hn) (by decide))
theorem ok_law_words (B : Blt mg) {f : Addr} {fd : FuncData} (F : Dn K mg "_law_words" s_law_words ["width", "length"] f fd) : FnOk P w K mg base CX0 1 f fd ["width", "length"] (sp_law_words K) := by
  refine F.ok sc_law_words (fun vs H Q E h => ?_) (fun cdv A outer s H vs Q E hr h => ?_)
  · obtain ⟨k, n, rfl, _⟩ := h
    rfl
  · obtain ⟨k, n, rfl, h1, h2, hn, q⟩ := h
    refine ⟨_, (pss_cons (ps_set (i := 2) sc_law_words.nd rfl (Or.inl rfl) (pe_lst (pa_cons (pe_tup pa_nil) pa_nil)))
      (pss_cons (ps_for PassesOwn.never rfl (pi_range1 (by rfl) B.range' (pa_cons (pv 1) pa_nil)) (pg_name (i := 3) sc_law_words.nd rfl (Or.inl rfl)) (pss_cons (ps_set (i := 4) sc_law_words.nd rfl (Or.inl rfl) (pe_lst pa_nil))
      (pss_cons (ps_for PassesOwn.never rfl (pi_lK K rfl (pe_callTy (call_lstK K rfl) (by rfl) B.list' (by decide +kernel) (pa_cons (pv 2) pa_nil))) (pg_name (i := 5) sc_law_words.nd rfl (Or.inr rfl)) (pss_one (ps_expr (pe_bm PySem.F.plainAttrs_list PySem.F.slot_list_extend PySem.F.type_list_extend mt_extend (pv 4) (pa_cons (pe_lc (own := [("letter", 6)]) (by rfl) sc_law_words.nd (pi_range1 (by rfl) B.range' (pa_cons (pv 0) pa_nil)) (blkOk_by (own := [("letter", 6)]) (N := ["width", "length", "found", "turn", "later", "word", "letter"]) (sc := defScope s_law_words) (by decide +kernel)) (fun _ _ _ _ _ => (pg_name (i := 6) sc_law_words.nd rfl (Or.inl rfl))) (fun _ _ _ _ _ => pts_nil) (fun _ _ _ _ _ => (pe_op (op_catK K rfl) (pv 5) (pe_tup (pa_cons (pv 6) pa_nil))))) pa_nil)))))
      (pss_one (ps_set (i := 2) sc_law_words.nd rfl (Or.inl rfl) (pv 4))))))
      (pss_one (ps_ret (pv 2))))), ?_⟩
    refine ⟨by show 0 ≤ sizeLine; decide, fun e ne => ⟨by show 1 ≤ sizeLine; decide, fun l nl => ⟨_, rfl, n, rfl, by omega, by omega, for_range (lo := 0) (n := n) (fun i σ H' => ∃ l us z4 z5 z6 z7, σ = [some (.int k), some (.int n), some (.ref l), z4, z5, z6, z7] ∧ H l = none ∧ Same H H' ∧ H' l = some (.lst us) ∧ Tups K H' us (wordsG k i)) ?_ ?_ ?_⟩⟩⟩
    · exact ⟨l, [.ref e], none, none, none, none, rfl, (same_new ne).free nl, (same_new ne).trans (same_new nl), upd_same, .cons (ns := []) (sT (by rw [upd_ne (ne_of_none upd_same nl), upd_same] <;> rfl)) .nil⟩
    · rintro i σ H1 hi ⟨l, us, z4, z5, z6, z7, rfl, nl0, s1, e1, tu⟩
      have hus : us.length ≤ 625 := by
        rw [tu.len, wordsG_len]
        exact pow5 h2 (by omega)
      refine ⟨by show 0 ≤ sizeLine; decide, fun r nr => ⟨_, rfl, l, us, rfl, .inl (sL (same_new nr _ _ e1)), fun c nc => ⟨c, rfl, ⟨us, sL upd_same⟩, ?_⟩⟩⟩
      have nr0 : H r = none := s1.free nr
      have nc0 : H1 c = none := (same_new nr).free nc
      have ncr : c ≠ r := fun z => by
        rw [z, upd_same] at nc
        cases nc
      refine for_list (K := K) (a := c) (xs := us) (fun j σ H2 => ∃ acc z6 z7, σ = [some (.int k), some (.int n), some (.ref l), some (.int (0 + (i : Int))), some (.ref r), z6, z7] ∧ Same H1 H2 ∧ H2 c = some (.lst us) ∧ H2 r = some (.lst acc) ∧ Tups K H2 acc (oneMore k ((wordsG k i).take j))) ?_ (fun j σ H2 _ ⟨_, _, _, _, _, e, _⟩ => sL e) ?_ ?_
      · exact ⟨[], z6, z7, rfl, (same_new nr).trans (same_new nc), upd_same, by rw [upd_ne (Ne.symm ncr), upd_same], .nil⟩
      · rintro j x σ H2 hx ⟨acc, z6, z7, rfl, s2, ec, er, ta⟩
        have hj : j < us.length := (List.getElem?_eq_some_iff.mp hx).1
        have hj2 : j < (wordsG k i).length := by rw [← tu.len]; exact hj
        obtain ⟨xa, hxa, hxT⟩ := tu.get (List.getElem?_eq_getElem hj2)
        rw [hx] at hxa
        cases hxa
        have hxT2 : SqT K H2 xa ((wordsG k i)[j].map V.int) := same_tup s2 hxT
        have hwl : (wordsG k i)[j].length ≤ 4 := by
          rw [words_short k i _ (List.getElem_mem hj2)]
          omega
        have hacc : acc.length ≤ 3125 := by
          rw [ta.len, oneMore_len, List.length_take]
          have a1 : min j (wordsG k i).length * k ≤ 625 * 5 := Nat.mul_le_mul (by rw [tu.len] at hus; omega) h2
          omega
        refine ⟨_, rfl, .inl ⟨rfl, _, sL er⟩, _, rfl, k, rfl, by omega, by omega, fun D hD => lc_range (lo := 0) (n := k) (fun y H3 => Same H2 H3 ∧ ∃ vs, H3 D = some (.lst vs) ∧ Tups K H3 vs ((List.range y).map fun t => (wordsG k i)[j] ++ [((t : Nat) : Int)])) ⟨same_new hD, [], upd_same, .nil⟩ ?_ ?_⟩
        · rintro y H3 hy ⟨s3, vs, eD, tv⟩
          refine ⟨rfl, _, rfl, _, rfl, by show 1 ≤ sizeLine; decide, fun t nt => cat_ok (same_tup (same_new nt) (same_tup s3 hxT2)) (sT upd_same) (by rw [List.length_map]; show _ + 1 ≤ _; omega) fun p H4 s4 hp => ⟨vs, s4 _ _ (same_new nt _ _ eD), szl ?_, fun b u e => ?_, vs ++ [.ref p], upd_same, ?_⟩⟩
          · rw [tv.len, List.length_map, List.length_range]
            omega
          · rw [upd_ne (ne_of_none e hD)]
            exact s4 _ _ (same_new nt _ _ (s3 _ _ e))
          · have k4 : Kd D H4 (upd H4 D (.lst (vs ++ [.ref p]))) := kd_upd (s4 _ _ (same_new nt _ _ eD))
            rw [List.range_succ, List.map_append]
            refine (((tv.same (same_new nt)).same s4).mono k4).one (ns := (wordsG k i)[j] ++ [((y : Nat) : Int)]) (k4.tup ?_)
            rw [List.map_append]
            rw [Int.zero_add] at hp
            exact hp
        · rintro H3 ⟨s3, vs, eD, tv⟩
          have erD : r ≠ D := ne_of_none er hD
          refine ⟨r, D, acc, vs, rfl, rfl, s3 _ _ er, eD, sz ?_, acc ++ vs, _, _, rfl, fun b u e => ?_, ?_, upd_same, ?_⟩
          · rw [tv.len, List.length_map, List.length_range]
            omega
          · rw [upd_ne (ne_of_none e nr)]
            exact s3 _ _ (s2 _ _ e)
          · rw [upd_ne ncr]
            exact s3 _ _ ec
          · have k4 : Kd r H3 (upd H3 r (.lst (acc ++ vs))) := kd_upd (s3 _ _ er)
            rw [List.take_add_one, List.getElem?_eq_getElem hj2]
            show Tups K _ (acc ++ vs) (oneMore k ((wordsG k i).take j ++ [(wordsG k i)[j]]))
            rw [oneMore_app]
            exact ((ta.same s3).mono k4).app (tv.mono k4)
      · rintro σ H2 ⟨acc, z6, z7, rfl, s2, ec, er, ta⟩
        refine ⟨_, rfl, r, acc, _, _, _, _, rfl, nr0, s1.trans s2, er, ?_⟩
        have e : us.length = (wordsG k i).length := tu.len
        rw [e, List.take_length] at ta
        exact ta
    · rintro σ H1 ⟨l, us, z4, z5, z6, z7, rfl, nl0, s1, e1, tu⟩
      exact ⟨_, rfl, q l us H1 nl0 s1 e1 tu⟩
end
end Br

namespace Br
open PySem PySem.Spec PyProof.Rows L2
section
variable {P : Program} {w : World} {K : PySem.W.Frag} {mg : Str → Option Value} {base : Heap}
/-! ### a drawn word -/
def sp_law_word (K : PySem.W.Frag) : Sp := fun vs H Q _ => ∃ (d : Addr) (k : Int) (m n : Nat), vs = [.ref d, .int k, .int m] ∧ Dice H d n ∧ n < 2 ^ 59 ∧ m ≤ 1000 ∧ 0 < k ∧ k.natAbs < 2 ^ 31 ∧
  ∀ a ns H', Kd d H H' → Dice H' d (n + m + 1) → SqT K H' a (ns.map V.int) → inW k ns → ns.length ≤ m → Q (.ref a) H'
theorem kd_mut {d D : Addr} {H H' : Hp} {o : HO} (k : Kd d H H') (h : H D = none) : Kd d H (upd H' D o) := fun b u e z => by
  rw [upd_ne (ne_of_none e h)]
  exact k b u e z
theorem Dice.at {H H' : Hp} {d : Addr} {n : Nat} (h : Dice H d n) (e : H' d = H d) : Dice H' d n := by
  obtain ⟨g, s, c, h1, h2⟩ := h
  exact ⟨g, s, c, e.trans h1, h2⟩
theorem ok_law_word (B : Blt mg) (c_law_roll : Cl CX0 P w K mg base 1 "_law_roll" sp_law_roll []) {f : Addr} {fd : FuncData} (F : Dn K mg "_law_word" s_law_word ["dice", "width", "most"] f fd) : FnOk P w K mg base CX0 2 f fd ["dice", "width", "most"] (sp_law_word K) := by
  refine F.ok sc_law_word (fun vs H Q E h => ?_) (fun cdv A outer s H vs Q E hr h => ?_)
  · obtain ⟨d, k, m, n, rfl, _⟩ := h
    rfl
  · obtain ⟨d, k, m, n, rfl, D0, hn, hm, k0, k1, q⟩ := h
    refine ⟨_, (pss_one (ps_ret (pe_callTy (call_tupK K rfl) (by rfl) B.tuple' (by decide +kernel) (pa_cons (pe_lc (own := [("at", 3)]) (by rfl) sc_law_word.nd (pi_range1 (by rfl) B.range' (pa_cons (pe_c c_law_roll hr (by decide) (by rfl) (pa_cons (pv 0) (pa_cons (pe_op op_add (pv 2) pe_int) pa_nil))) pa_nil)) (blkOk_by (own := [("at", 3)]) (N := ["dice", "width", "most", "at"]) (sc := defScope s_law_word) (by decide +kernel)) (fun _ _ _ _ _ => (pg_name (i := 3) sc_law_word.nd rfl (Or.inl rfl))) (fun _ _ _ _ _ => pts_nil) (fun _ _ _ _ _ => (pe_c c_law_roll hr (by decide) (by rfl) (pa_cons (pv 0) (pa_cons (pv 1) pa_nil))))) pa_nil)))), ?_⟩
    refine ⟨_, rfl, _, rfl, _, _, rfl, rfl, d, (m : Int) + 1, n, rfl, D0, by omega, by omega, by omega, fun v H1 v0 v1 kd1 D1 => ?_⟩
    obtain ⟨z, rfl⟩ : ∃ z : Nat, v = z := ⟨v.toNat, by omega⟩
    refine ⟨z, rfl, by omega, by omega, fun C hC => ?_⟩
    have nCd : C ≠ d := D1.ne hC
    have hC0 : H C = none := kd1.free nCd hC
    refine lc_range (lo := 0) (n := z) (fun i H' => Kd d H H' ∧ ∃ ns : List Int, H' C = some (.lst (ns.map V.int)) ∧ ns.length = i ∧ inW k ns ∧ Dice H' d (n + 1 + i)) ⟨kd_mut kd1 hC0, [], upd_same, rfl, (fun _ h => by cases h), D1.at (upd_ne (Ne.symm nCd))⟩ ?_ ?_
    · rintro i H' hi ⟨kd, ns, eC, hl, hw, Di⟩
      refine ⟨rfl, _, rfl, _, rfl, d, k, n + 1 + i, rfl, Di, by omega, k0, by omega, fun x H2 x0 x1 kd2 D2 => ⟨ns.map V.int, kd2 _ _ eC (fun z => (nCd z).elim), szl (by rw [List.length_map]; omega), kd_mut (kd.trans kd2) hC0, ns ++ [x], ?_, ?_, ?_, ?_⟩⟩
      · rw [upd_same, List.map_append] <;> rfl
      · rw [List.length_append, hl] <;> rfl
      · intro y hy
        rcases List.mem_append.mp hy with hy | hy
        · exact hw y hy
        · rw [List.mem_singleton.mp hy]
          exact ⟨x0, x1⟩
      · exact D2.at (upd_ne (Ne.symm nCd))
    · rintro H' ⟨kd, ns, eC, hl, hw, Di⟩
      refine ⟨C, _, rfl, .inl ⟨sL eC, fun t nt => ?_⟩⟩
      exact q t ns _ (kd.trans (Kd.same (same_new nt))) ((Di.same (same_new nt)).more (by omega)) (sT upd_same) hw (by omega)
/-! ### a value that is no word -/
theorem NoT.keep {H H' : Hp} {v : V} (k : NoT H v) (e : ∀ a o, v = .ref a → H a = some o → H' a = some o) : NoT H' v := by
  cases k with
  | non => exact .non
  | bl b => exact .bl b
  | int i => exact .int i
  | str x => exact .str x
  | lst h => exact .lst (e _ _ rfl h)
  | dK h => exact .dK (e _ _ rfl h)
/-- what is no word of the width -/
def Odd (K : PySem.W.Frag) (H : Hp) (k : Int) (v : V) : Prop := NoT H v ∨ ∃ (a : Addr) (xs : List V), v = .ref a ∧ SqT K H a xs ∧ xs.length < 1000000 ∧ (∀ x ∈ xs, Kn K H x) ∧ xs.all (wn 0 (k - 1)) = false
theorem odd_one {H : Hp} {k : Int} {a : Addr} {x : V} (h : SqT K H a [x]) (kn : Kn K H x) (e : wn 0 (k - 1) x = false) : Odd K H k (.ref a) :=
  .inr ⟨a, [x], rfl, h, by show 1 < 1000000; decide, fun y hy => by rw [List.mem_singleton.mp hy]; exact kn, by rw [List.all_cons, e] <;> rfl⟩
theorem odd_cat {H : Hp} {k : Int} {a : Addr} {ns : List Int} {x : V} (h : SqT K H a (ns.map V.int ++ [x])) (hl : ns.length ≤ 1000) (kn : Kn K H x) (e : wn 0 (k - 1) x = false) : Odd K H k (.ref a) :=
  .inr ⟨a, _, rfl, h, by rw [List.length_append, List.length_map]; show _ + 1 < _; omega, fun y hy => by
    rcases List.mem_append.mp hy with hy | hy
    · exact ints_kn y hy
    · rw [List.mem_singleton.mp hy]
      exact kn, by rw [List.all_append, List.all_cons, e, Bool.false_and, Bool.and_false]⟩
theorem wn_big {k : Int} : wn 0 (k - 1) (.int k) = false := by
  show (decide ((0 : Int) ≤ k) && decide (k ≤ k - 1)) = false
  rw [decide_eq_false (show ¬ k ≤ k - 1 by omega), Bool.and_false]
def sp_law_odd (K : PySem.W.Frag) : Sp := fun vs H Q _ => ∃ (d a : Addr) (k : Int) (ns : List Int) (n : Nat), vs = [.ref d, .int k, .ref a] ∧ Dice H d n ∧ n < 2 ^ 60 ∧ SqT K H a (ns.map V.int) ∧ ns.length ≤ 1000 ∧
  ∀ v H', Kd d H H' → Dice H' d (n + 1) → Odd K H' k v → Q v H'
theorem one_sz {x : V} : [x].length ≤ sizeLine := by
  show 1 ≤ sizeLine
  decide
theorem ok_law_odd (B : Blt mg) (c_law_pick : Cl CX0 P w K mg base 2 "_law_pick" (sp_law_pick K) []) {f : Addr} {fd : FuncData} (F : Dn K mg "_law_odd" s_law_odd ["dice", "width", "word"] f fd) : FnOk P w K mg base CX0 3 f fd ["dice", "width", "word"] (sp_law_odd K) := by
  refine F.ok sc_law_odd (fun vs H Q E h => ?_) (fun cdv A outer s H vs Q E hr h => ?_)
  · obtain ⟨d, a, k, ns, n, rfl, _⟩ := h
    rfl
  · obtain ⟨d, a, k, ns, n, rfl, D0, hn, hT, hl, q⟩ := h
    have hlm : (ns.map V.int).length + 1 ≤ 1000000 := by rw [List.length_map]; omega
    refine ⟨_, (pss_cons (ps_set (i := 3) sc_law_odd.nd rfl (Or.inl rfl) (pe_lst (pa_cons (pe_callTy (call_lstK K rfl) (by rfl) B.list' (by decide +kernel) (pa_cons (pv 2) pa_nil)) (pa_cons pe_non (pa_cons pe_int (pa_cons pe_str (pa_cons (pe_tup (pa_cons (pv 1) pa_nil)) (pa_cons (pe_tup (pa_cons (pe_un un_neg pe_int) pa_nil)) (pa_cons (pe_tup (pa_cons pe_bl pa_nil)) (pa_cons (pe_op (op_catK K rfl) (pv 2) (pe_tup (pa_cons (pv 1) pa_nil))) (pa_cons (pe_op (op_catK K rfl) (pv 2) (pe_tup (pa_cons pe_non pa_nil))) (pa_cons pe_dnewK (pa_cons (pe_tup (pa_cons pe_str pa_nil)) (pa_cons (pe_tup (pa_cons (pe_tup (pa_cons pe_int pa_nil)) pa_nil)) pa_nil))))))))))))))
      (pss_one (ps_ret (pe_c c_law_pick hr (by decide) (by rfl) (pa_cons (pv 0) (pa_cons (pv 3) pa_nil)))))), ?_⟩
    refine ⟨_, rfl, a, _, rfl, .inr hT, fun l0 n0 => ?_⟩
    have s0 := same_new (o := .lst (ns.map V.int)) n0
    refine ⟨_, rfl, one_sz, fun t4 n4 => ⟨1, rfl, one_sz, fun t5 n5 => ⟨one_sz, fun t6 n6 => ⟨_, rfl, _, rfl, one_sz, fun t7 n7 => ?_⟩⟩⟩⟩
    have s4 := same_new (o := .tup [.int k]) n4
    have s5 := same_new (o := .tup [.int (-1)]) n5
    have s6 := same_new (o := .tup [.bl true]) n6
    have s7 := same_new (o := .tup [.int k]) n7
    refine cat_ok (same_tup s7 (same_tup s6 (same_tup s5 (same_tup s4 (same_tup s0 hT))))) (sT upd_same) hlm fun p7 H7 r7 h7 => ⟨_, rfl, one_sz, fun t8 n8 => ?_⟩
    have s8 := same_new (o := .tup [.non]) n8
    refine cat_ok (same_tup s8 (same_tup r7 (same_tup s7 (same_tup s6 (same_tup s5 (same_tup s4 (same_tup s0 hT))))))) (sT upd_same) hlm fun p8 H8 r8 h8 => fun d9 n9 => ⟨one_sz, fun t10 n10 => ⟨one_sz, fun ti ni => ⟨one_sz, fun t11 n11 => ⟨by show 12 ≤ sizeLine; decide, fun L nL => ?_⟩⟩⟩⟩
    have s9 := same_new (o := .dK []) n9
    have s10 := same_new (o := .tup [.str "0"]) n10
    have si := same_new (o := .tup [.int 0]) ni
    have s11 := same_new (o := .tup [.ref ti]) n11
    have sL' := same_new (o := .lst [.ref l0, .non, .int 0, .str "", .ref t4, .ref t5, .ref t6, .ref p7, .ref p8, .ref d9, .ref t10, .ref t11]) nL
    have c11 := s11.trans sL'
    have ci := si.trans c11
    have c10 := s10.trans ci
    have c9 := s9.trans c10
    have c8 := (s8.trans r8).trans c9
    have c7 := (s7.trans r7).trans c8
    have c6 := s6.trans c7
    have c5 := s5.trans c6
    have c4 := s4.trans c5
    have c0 := s0.trans c4
    have DL := D0.same c0
    have nLd : L ≠ d := (D0.same (s0.trans (s4.trans (s5.trans (s6.trans ((s7.trans r7).trans ((s8.trans r8).trans (s9.trans (s10.trans (si.trans s11)))))))))).ne nL
    refine ⟨_, rfl, _, rfl, d, L, _, n, rfl, DL, hn, sL upd_same, nLd, by show 0 < 12; decide, by show 12 < 1000000; decide, fun i v H' hi k1 D1 => ?_⟩
    have KD := (Kd.same (d := d) c0).trans k1
    have ndl : l0 ≠ d := D0.ne n0
    have nd9 : d9 ≠ d := (D0.same (s0.trans (s4.trans (s5.trans (s6.trans ((s7.trans r7).trans (s8.trans r8))))))).ne n9
    refine q v H' KD D1 ?_
    have hi' : ([.ref l0, .non, .int 0, .str "", .ref t4, .ref t5, .ref t6, .ref p7, .ref p8, .ref d9, .ref t10, .ref t11] : List V)[i]? = some v := hi
    match i, hi' with
    | 0, h => cases h; exact .inl (.lst (k1 _ _ (c4 _ _ upd_same) fun z => (ndl z).elim))
    | 1, h => cases h; exact .inl .non
    | 2, h => cases h; exact .inl (.int 0)
    | 3, h => cases h; exact .inl (.str _)
    | 4, h => cases h; exact odd_one (k1.tup (same_tup c5 (sT upd_same))) (.int k) wn_big
    | 5, h => cases h; exact odd_one (k1.tup (same_tup c6 (sT upd_same))) (.int _) rfl
    | 6, h => cases h; exact odd_one (k1.tup (same_tup c7 (sT upd_same))) (.bl _) rfl
    | 7, h => cases h; exact odd_cat (k1.tup (same_tup c8 h7)) hl (.int k) wn_big
    | 8, h => cases h; exact odd_cat (k1.tup (same_tup c9 h8)) hl .non rfl
    | 9, h => cases h; exact .inl (.dK (k1 _ _ (c10 _ _ upd_same) fun z => (nd9 z).elim))
    | 10, h => cases h; exact odd_one (k1.tup (same_tup ci (sT upd_same))) (.str _) rfl
    | 11, h => cases h; exact odd_one (k1.tup (same_tup sL' (sT upd_same))) (.tup (k1.tup (same_tup c11 (sT upd_same)))) rfl
    | i + 12, h => cases h
end
end Br

namespace Br
open PySem PySem.Spec PyProof.Rows L2
section
variable {P : Program} {w : World} {K : PySem.W.Frag} {mg : Str → Option Value} {base : Heap}
def sp_law_right : Sp := fun vs H Q _ => ∃ (d : Addr) (n : Nat), vs = [.ref d] ∧ Dice H d n ∧ n < 2 ^ 58 ∧ ∀ H', Kd d H H' → Dice H' d (n + 1000) → Q (.bl true) H'
theorem num_ok {p : Int} (h0 : 0 ≤ p) (h1 : p < 99) : 0 ≤ (10 : Int) ^ 60 - 1 - p ∧ (10 : Int) ^ 60 - 1 - p < 10 ^ 60 := by
  have : (99 : Int) < 10 ^ 60 := by decide
  omega
theorem ok_law_right (B : Blt mg) (c_law_roll : Cl CX0 P w K mg base 1 "_law_roll" sp_law_roll []) (c_law_pick : Cl CX0 P w K mg base 2 "_law_pick" (sp_law_pick K) []) (c_law_power : Cl CX0 P w K mg base 1 "_law_power" sp_power_of []) (c_law_words : Cl CX0 P w K mg base 1 "_law_words" (sp_law_words K) [])
    (c_law_word : Cl CX0 P w K mg base 2 "_law_word" (sp_law_word K) []) (c_law_value : Cl CX0 P w K mg base 1 "_law_value" (sp_place_in K) []) (c_law_odd : Cl CX0 P w K mg base 3 "_law_odd" (sp_law_odd K) [])
    (c_words_of : Cl CX0 P w K mg base 5 "words_of" (sp_words_of K) []) (c_place_of : Cl CX0 P w K mg base 6 "place_of" (sp_place_of K) []) (c_word_at : Cl CX0 P w K mg base 5 "word_at" (sp_word_at K) []) (c_low_number : Cl CX0 P w K mg base 6 "low_number" (sp_low_number K) [])
    (c_low_word : Cl CX0 P w K mg base 5 "low_word" (sp_low_word K) []) (c_is_word : Cl CX0 P w K mg base 5 "is_word" (sp_is_word K) [])
    {f : Addr} {fd : FuncData} (F : Dn K mg "_law_right" s_law_right ["dice"] f fd) : FnOk P w K mg base CX0 7 f fd ["dice"] sp_law_right := by
  refine F.ok sc_law_right (fun vs H Q E h => ?_) (fun cdv A outer s H vs Q E hr h => ?_)
  · obtain ⟨d, n, rfl, _⟩ := h
    rfl
  · obtain ⟨d, n, rfl, D0, hn, q⟩ := h
    refine ⟨_, (C8.pss_cut (ps_par (i := 1) (j := 2) (by rfl) sc_law_right.nd rfl rfl (by decide) rfl rfl (pa_cons (pe_op op_add pe_int (pe_c c_law_roll hr (by decide) (by rfl) (pa_cons (pv 0) (pa_cons pe_int pa_nil)))) (pa_cons (pe_c c_law_roll hr (by decide) (by rfl) (pa_cons (pv 0) (pa_cons pe_int pa_nil))) pa_nil)) (by rfl))
      (pss_cons (ps_set (i := 3) sc_law_right.nd rfl (Or.inl rfl) (pe_c c_law_words hr (by decide) (by rfl) (pa_cons (pv 1) (pa_cons (pv 2) pa_nil))))
      (pss_cons (ps_if (pt_cmpR (op_neK K rfl hr.units) (pe_c c_words_of hr (by decide) (by rfl) (pa_cons (pv 1) (pa_cons (pv 2) pa_nil))) (pe_callTy (call_tupK K rfl) (by rfl) B.tuple' (by decide +kernel) (pa_cons (pv 3) pa_nil)) (nomark _)) (pss_one (ps_ret pe_bl)) pss_nil)
      (pss_cons (ps_set (i := 4) sc_law_right.nd rfl (Or.inl rfl) (pe_c c_law_word hr (by decide) (by rfl) (pa_cons (pv 0) (pa_cons (pv 1) (pa_cons pe_int pa_nil)))))
      (pss_cons (ps_set (i := 5) sc_law_right.nd rfl (Or.inl rfl) (pe_c c_law_value hr (by decide) (by rfl) (pa_cons (pv 1) (pa_cons (pv 4) pa_nil))))
      (pss_cons (ps_if (PW.pt (pw_or (pt_cmpR op_ne (pe_c c_place_of hr (by decide) (by rfl) (pa_cons (pv 1) (pa_cons (pv 4) pa_nil))) (pv 5) (nomark _)) (pw_or1 (pt_cmpR (op_neK K rfl hr.units) (pe_c c_word_at hr (by decide) (by rfl) (pa_cons (pv 1) (pa_cons (pe_callB (call_lenK K rfl) (by rfl) B.len' PySem.boot_len (pa_cons (pv 4) pa_nil)) (pa_cons (pv 5) pa_nil)))) (pv 4) (nomark _))))) (pss_one (ps_ret pe_bl)) pss_nil)
      (pss_cons (ps_set (i := 6) sc_law_right.nd rfl (Or.inl rfl) (pe_c c_law_roll hr (by decide) (by rfl) (pa_cons (pv 0) (pa_cons (pe_callB (call_lenK K rfl) (by rfl) B.len' PySem.boot_len (pa_cons (pv 3) pa_nil)) pa_nil))))
      (pss_cons (ps_if (PW.pt (pw_or (pt_cmpR (op_neK K rfl hr.units) (pe_c c_word_at hr (by decide) (by rfl) (pa_cons (pv 1) (pa_cons (pv 2) (pa_cons (pv 6) pa_nil)))) (pe_ix (ix_lK K rfl) (pv 3) (pv 6) (fun _ _ => rfl)) (nomark _)) (pw_or1 (pt_cmpR op_ne (pe_c c_place_of hr (by decide) (by rfl) (pa_cons (pv 1) (pa_cons (pe_ix (ix_lK K rfl) (pv 3) (pv 6) (fun _ _ => rfl)) pa_nil))) (pv 6) (nomark _))))) (pss_one (ps_ret pe_bl)) pss_nil)
      (pss_cons (ps_if (pt_cmpR op_ne (pe_c c_low_number hr (by decide) (by rfl) (pa_cons (pv 1) (pa_cons (pv 4) pa_nil))) (pe_c c_law_value hr (by decide) (by rfl) (pa_cons (pv 1) (pa_cons (pe_revTK K rfl (pv 4)) pa_nil))) (nomark _)) (pss_one (ps_ret pe_bl)) pss_nil)
      (C8.pss_cut (ps_par (i := 7) (j := 8) (by rfl) sc_law_right.nd rfl rfl (by decide) rfl rfl (pa_cons (pe_c c_law_pick hr (by decide) (by rfl) (pa_cons (pv 0) (pa_cons (pe_lst (pa_cons (pe_c c_law_roll hr (by decide) (by rfl) (pa_cons (pv 0) (pa_cons pe_int pa_nil))) (pa_cons (pe_op op_sub (pe_op op_sub (pe_op op_powW pe_int pe_int) pe_int) (pe_c c_law_roll hr (by decide) (by rfl) (pa_cons (pv 0) (pa_cons pe_int pa_nil)))) pa_nil))) pa_nil))) (pa_cons (pe_c c_law_roll hr (by decide) (by rfl) (pa_cons (pv 0) (pa_cons pe_int pa_nil))) pa_nil)) (by rfl))
      (pss_cons (ps_set (i := 9) sc_law_right.nd rfl (Or.inl rfl) (pe_c c_low_word hr (by decide) (by rfl) (pa_cons (pv 1) (pa_cons (pv 7) (pa_cons (pv 8) pa_nil)))))
      (pss_cons (ps_if (PW.pt (pw_or (pt_cmpR op_ne (pe_callB (call_lenK K rfl) (by rfl) B.len' PySem.boot_len (pa_cons (pv 9) pa_nil)) (pv 8) (nomark _)) (pw_or1 (pt_cmpR op_ne (pe_c c_low_number hr (by decide) (by rfl) (pa_cons (pv 1) (pa_cons (pv 9) pa_nil))) (pe_op op_mod (pv 7) (pe_c c_law_power hr (by decide) (by rfl) (pa_cons (pv 1) (pa_cons (pv 8) pa_nil)))) (nomark _))))) (pss_one (ps_ret pe_bl)) pss_nil)
      (pss_cons (ps_if (PW.pt (pw_or (pt_cmpR op_notBl (pe_c c_is_word hr (by decide) (by rfl) (pa_cons (pv 1) (pa_cons (pv 4) pa_nil))) pe_bl (nomark _)) (pw_or1 (pt_cmpR op_notBl (pe_c c_is_word hr (by decide) (by rfl) (pa_cons (pv 1) (pa_cons (pe_op (op_repK K rfl) (pe_tup (pa_cons pe_int pa_nil)) pe_int) pa_nil))) pe_bl (nomark _))))) (pss_one (ps_ret pe_bl)) pss_nil)
      (pss_one (ps_ret (pe_cmpR op_isBl (pe_c c_is_word hr (by decide) (by rfl) (pa_cons (pv 1) (pa_cons (pe_c c_law_odd hr (by decide) (by rfl) (pa_cons (pv 0) (pa_cons (pv 1) (pa_cons (pv 4) pa_nil)))) pa_nil))) pe_bl (nomark _))))))))))))))))), ?_⟩
    -- width, length
    refine ⟨fun σ H' => ∃ k m : Nat, σ = [some (.ref d), some (.int k), some (.int m), none, none, none, none, none, none, none] ∧ 2 ≤ k ∧ k ≤ 5 ∧ m ≤ 4 ∧ Kd d H H' ∧ Dice H' d (n + 2), ?_, ?_⟩
    · refine ⟨_, rfl, d, 4, n, rfl, D0, by omega, by decide, by decide, fun v H1 v0 v1 k1 D1 => ⟨_, _, rfl, rfl, _, rfl, d, 5, n + 1, rfl, D1, by omega, by decide, by decide, fun l H2 l0 l1 k2 D2 => ⟨_, _, rfl, (2 + v).toNat, l.toNat, ?_, by omega, by omega, by omega, k1.trans k2, D2⟩⟩⟩
      rw [Int.toNat_of_nonneg (show 0 ≤ 2 + v by omega), Int.toNat_of_nonneg l0] <;> rfl
    rintro σ H1 ⟨k, m, rfl, k2, k5, hm, kd1, D1⟩
    have i2 : (2 : Int) ≤ (k : Int) := by omega
    have i5 : (k : Int) ≤ 5 := by omega
    have hpm : (k : Int) ^ m ≤ 5000 := by
      have := pow5 k5 hm
      rw [← Int.natCast_pow]
      omega
    -- words; words_of
    refine ⟨_, rfl, _, rfl, k, m, rfl, k2, k5, hm, fun L us H2 nL s2 eL tu => ?_⟩
    rw [words_eq k (by omega) m] at tu
    have nLd : L ≠ d := D1.ne nL
    refine ⟨_, rfl, _, rfl, k, m, rfl, i2, i5, by omega, hpm, fun a3 us3 H3 s3 hT3 tu3 => ⟨_, rfl, L, us, rfl, .inl ⟨sL (s3 _ _ eL), fun t nt => ?_⟩⟩⟩
    have st := same_new (o := .tup us) nt
    refine ⟨dII (wordsI k m), dII (wordsI k m), dpII (same_tup st hT3) (tu3.same st), dpII (sT upd_same) ((tu.same s3).same st), shII _, shII _, _, rfl, ?_⟩
    rw [eqvr (shII _)]
    refine iteF ?_
    have hL := st _ _ (s3 _ _ eL)
    have tuL := (tu.same s3).same st
    have kd2 := kd1.trans (Kd.same (s2.trans (s3.trans st)))
    have D2 := D1.same (s2.trans (s3.trans st))
    clear tu tu3 hT3 eL
    generalize upd H3 t (.tup us) = H4 at hL tuL kd2 D2 ⊢
    have hlen : us.length = k ^ m := by rw [tuL.len, ← words_eq k (by omega) m, wordsG_len]
    have hus : us.length ≤ 625 := by rw [hlen]; exact pow5 k5 hm
    have hpos : 0 < us.length := by rw [hlen]; exact Nat.pow_pos (by omega)
    -- word, place
    refine ⟨_, rfl, _, rfl, d, k, 200, n + 2, rfl, D2, by omega, by omega, by omega, by omega, fun a ns H5 k5' D5 hT hw hl => ?_⟩
    have hL5 := k5' _ _ hL fun z => (nLd z).elim
    have tu5 := tuL.mono k5'
    have kd5 := kd2.trans k5'
    have hpl := place_lt (by omega) ns hw
    refine ⟨_, rfl, _, rfl, k, a, ns, rfl, hT, hw, i2, i5, by omega, ?_⟩
    -- place_of, word_at
    refine ⟨_, rfl, _, rfl, k, a, ns, rfl, hT, hw, i2, i5, hl, fun H6 s6 => ⟨_, rfl, rfl, _, rfl, iteNS rfl ⟨_, rfl, _, rfl, a, _, rfl, .inr (same_tup s6 hT), _, rfl, k, ns.length, place k ns, by rw [List.length_map]; rfl, i2, i5, hl, hpl.1, hpl.2, fun a6 H7 s7 hT7 => ⟨_, rfl, dI ns, dI ns, ?_, dpI (same_tup s7 (same_tup s6 hT)), shI _, shI _, _, rfl, ?_⟩⟩⟩⟩
    · rw [lows_place (by omega) ns hw, List.reverse_reverse] at hT7
      exact dpI hT7
    rw [eqvr (shI _)]
    refine iteF ?_
    have s67 := s6.trans s7
    -- spot
    refine ⟨_, rfl, _, rfl, L, us, rfl, .inl (sL (s67 _ _ hL5)), d, us.length, n + 2 + 200 + 1, rfl, D5.same s67, by omega, by omega, by omega, fun v H8 v0 v1 k8' D8 => ?_⟩
    obtain ⟨i, rfl⟩ : ∃ i : Nat, v = i := ⟨v.toNat, by omega⟩
    have hL8 := k8' _ _ (s67 _ _ hL5) fun z => (nLd z).elim
    have tu8 := (tu5.same s67).mono k8'
    have hT8 := k8'.tup (same_tup s67 hT)
    have kd8 := (kd5.trans (Kd.same s67)).trans k8'
    have hi : i < us.length := by omega
    have hki : (i : Int) < (k : Int) ^ m := by
      rw [← Int.natCast_pow, ← hlen]
      omega
    have gi : (wordsI k m)[i]? = some (lows k m (i : Nat)).reverse := by
      unfold wordsI
      rw [List.getElem?_map, List.getElem?_range (by rw [← Int.natCast_pow, ← hlen]; exact hi)] <;> rfl
    obtain ⟨xa, hxa, hxT⟩ := tu8.get gi
    -- word_at(.., spot), place_of(words[spot])
    refine ⟨_, rfl, _, rfl, _, rfl, k, m, i, rfl, i2, i5, by omega, by omega, hki, fun a9 H9 s9 hT9 => ⟨_, rfl, _, rfl, L, us, i, .ref xa, rfl, rfl, sL (s9 _ _ hL8), atI_nat hxa, dI _, dI _, dpI hT9, dpI (same_tup s9 hxT), shI _, shI _, _, rfl, ?_⟩⟩
    rw [eqvr (shI _)]
    refine iteF ⟨_, rfl, _, rfl, _, rfl, L, us, i, .ref xa, rfl, rfl, sL (s9 _ _ hL8), atI_nat hxa, k, xa, _, rfl, same_tup s9 hxT, inW_rev (lows_in (by omega) _ _), i2, i5, by rw [List.length_reverse, lows_len]; omega, fun H10 s10 => ⟨_, rfl, rfl, _, rfl, ?_⟩⟩
    rw [place_lows (by omega) m _ (by omega), Int.emod_eq_of_lt (by omega) hki]
    refine iteNS rfl ?_
    have s90 := s9.trans s10
    -- low_number(width, word)
    refine ⟨_, rfl, _, rfl, k, a, ns, rfl, same_tup s90 hT8, hw, i2, i5, hl, fun H11 s11 => ⟨_, rfl, _, rfl, a, _, rfl, same_tup s11 (same_tup s90 hT8), fun r nr => ⟨k, r, ns.reverse, rfl, sT (by rw [upd_same, List.map_reverse]), inW_rev hw, i2, i5, by rw [List.length_reverse]; omega, rfl, _, rfl, iteNS rfl ?_⟩⟩⟩
    have s12 := (s90.trans s11).trans (same_new (o := .tup (ns.map V.int).reverse) nr)
    have kd12 := kd8.trans (Kd.same s12)
    have hT12 := same_tup s12 hT8
    have D12 := D8.same s12
    generalize upd H11 r (.tup (ns.map V.int).reverse) = H12 at s12 kd12 hT12 D12 ⊢
    -- number, many
    refine ⟨fun σ H' => ∃ (p : Int) (c : Nat), σ = [some (.ref d), some (.int k), some (.int m), some (.ref L), some (.ref a), some (.int (place k ns)), some (.int i), some (.int p), some (.int c), none] ∧ 0 ≤ p ∧ p < 10 ^ 60 ∧ c ≤ 200 ∧ Kd d H12 H' ∧ Dice H' d (n + 300), ?_, ?_⟩
    · refine ⟨_, rfl, _, rfl, d, 100, _, rfl, D12, by omega, by decide, by decide, fun x H13 x0 x1 k13 D13 => ⟨_, _, rfl, rfl, ⟨by decide, by decide +kernel⟩, _, _, rfl, rfl, _, rfl, d, 99, _, rfl, D13, by omega, by decide, by decide, fun y H14 y0 y1 k14 D14 => ⟨_, _, rfl, rfl, by show 2 ≤ sizeLine; decide, fun l nl => ?_⟩⟩⟩
      have sl := same_new (o := .lst [.int x, .int (10 ^ (60 : Int).toNat - 1 - y)]) nl
      refine ⟨d, l, _, _, rfl, D14.same sl, by omega, sL upd_same, D14.ne nl, by show 0 < 2; decide, by show 2 < 1000000; decide, fun j u H15 hj k15 D15 => ⟨_, rfl, d, 201, _, rfl, D15, by omega, by decide, by decide, fun c H16 c0 c1 k16 D16 => ?_⟩⟩
      have hu : ∃ p : Int, u = .int p ∧ 0 ≤ p ∧ p < 10 ^ 60 := by
        have hj' : ([.int x, .int (10 ^ (60 : Int).toNat - 1 - y)] : List V)[j]? = some u := hj
        have b60 : (100 : Int) < 10 ^ 60 := by decide
        match j, hj' with
        | 0, h => cases h; exact ⟨_, rfl, x0, by omega⟩
        | 1, h => cases h; exact ⟨_, rfl, num_ok y0 y1⟩
        | j + 2, h => cases h
      obtain ⟨p, rfl, p0, p1⟩ := hu
      refine ⟨_, _, rfl, p, c.toNat, ?_, p0, p1, by omega, (((k13.trans k14).trans (Kd.same sl)).trans k15).trans k16, D16.more (by omega)⟩
      rw [Int.toNat_of_nonneg c0] <;> rfl
    rintro σ H16 ⟨p, c, rfl, p0, p1, hc, k16, D16⟩
    have hT16 := k16.tup hT12
    have kd16 := kd12.trans k16
    -- told
    refine ⟨_, rfl, _, rfl, _, rfl, k, p, c, rfl, i2, i5, hc, p0, p1, fun b H17 s17 hb => ?_⟩
    have hlen17 : ((lows k c p).map V.int).length = c := by rw [List.length_map, lows_len]
    refine ⟨_, rfl, b, _, rfl, .inr hb, _, rfl, rfl, _, rfl, ?_⟩
    rw [hlen17]
    refine iteNS rfl ⟨_, rfl, _, rfl, k, b, lows k c p, rfl, hb, lows_in (by omega) _ _, i2, i5, by rw [lows_len]; omega, fun H18 s18 => ⟨_, rfl, _, rfl, _, rfl, k, c, rfl, k8 i2 i5, by omega, _, _, rfl, rfl, ipow_pos (by omega) c, rfl, _, rfl, ?_⟩⟩
    rw [place_lows (by omega) c p p0]
    refine iteNS rfl ?_
    have hT18 := same_tup s18 (same_tup s17 hT16)
    -- is_word
    refine ⟨_, rfl, _, rfl, k, .ref a, rfl, i2, i5, .inr ⟨a, _, rfl, hT18, by rw [List.length_map]; omega, ints_kn, fun H19 s19 => ⟨_, _, rfl, rfl, _, rfl, ?_⟩⟩⟩
    rw [inW_wn hw]
    refine iteF ⟨_, rfl, by show 1 ≤ sizeLine; decide, fun t1 n1 => ⟨t1, 300, [.int 0], rfl, rfl, sT upd_same, by simp, by decide, by decide, by decide, fun t2 n2 => ⟨k, .ref t2, rfl, i2, i5, .inr ⟨t2, _, rfl, sT upd_same, ?_, ?_, fun H20 s20 => ⟨_, _, rfl, rfl, _, rfl, ?_⟩⟩⟩⟩⟩
    · show (List.replicate 300 [V.int 0]).flatten.length < 1000000
      decide
    · intro x hx
      have e : x = .int 0 := by
        obtain ⟨l, hl1, hl2⟩ := List.mem_flatten.mp hx
        rw [(List.mem_replicate.mp hl1).2] at hl2
        exact List.mem_singleton.mp hl2
      rw [e]
      exact .int 0
    have eall : ((List.replicate (300 : Int).toNat [V.int 0]).flatten.all (wn 0 ((k : Int) - 1))) = true := by
      rw [List.all_eq_true]
      intro x hx
      obtain ⟨l, hl1, hl2⟩ := List.mem_flatten.mp hx
      rw [(List.mem_replicate.mp hl1).2] at hl2
      rw [List.mem_singleton.mp hl2]
      exact wn_of (by omega) (by omega)
    rw [eall]
    have s20' := (s19.trans ((same_new (o := .tup [.int 0]) n1).trans (same_new (o := .tup (List.replicate (300 : Int).toNat [V.int 0]).flatten) n2))).trans s20
    have s21 := (s17.trans s18).trans s20'
    refine iteF ⟨_, rfl, _, rfl, _, rfl, _, rfl, d, a, k, ns, _, rfl, D16.same s21, by omega, same_tup s20' hT18, by omega, fun v H22 k22 D22 hv => ⟨k, v, rfl, i2, i5, ?_⟩⟩
    have fin : ∀ H', Kd d H22 H' → Dice H' d (n + 300 + 1) → Q (.bl true) H' := fun H' z zd => q H' (((kd16.trans (Kd.same s21)).trans k22).trans z) (zd.more (by omega))
    rcases hv with nt | ⟨b2, xs, rfl, hb2, hl2, hk2, he2⟩
    · exact .inl ⟨nt, false, false, rfl, rfl, fin _ Kd.refl D22⟩
    · refine .inr ⟨b2, xs, rfl, hb2, hl2, hk2, fun H23 s23 => ⟨_, false, rfl, rfl, ?_⟩⟩
      rw [he2]
      exact fin _ (Kd.same s23) (D22.same s23)
def spLaw (K : PySem.W.Frag) : Sp := fun vs H Q _ => ∃ (a : Addr) (ns : List Int), vs = [.ref a] ∧ SqL K H a (ns.map V.int) ∧ ns.length ≤ 63 ∧ ∀ H', Q (.bl true) H'
/-- how many cells are looked at -/
def lim (m : Int) (n : Nat) : Int := if (if (n : Int) < m then (n : Int) else m) > 1 then (if (n : Int) < m then (n : Int) else m) else 1
theorem lim_le {m : Int} (h : 1 ≤ m) (n : Nat) : 1 ≤ lim m n ∧ lim m n ≤ m := by
  unfold lim
  split <;> split at * <;> omega
theorem ok_law (B : Blt mg) (m_MAX_WIDTH : ∃ u, mg "MAX_WIDTH" = some u ∧ RelV (.int 5) u) (m_MAX_LENGTH : ∃ u, mg "MAX_LENGTH" = some u ∧ RelV (.int 200) u) (m_MAX_LEVEL : ∃ u, mg "MAX_LEVEL" = some u ∧ RelV (.int 5000) u)
    (c_law_dice : Cl CX0 P w K mg base 1 "_law_dice" (sp_law_dice K) []) (c_law_right : Cl CX0 P w K mg base 7 "_law_right" sp_law_right []) (c_words_of : Cl CX0 P w K mg base 5 "words_of" (sp_words_of K) [])
    {f : Addr} {fd : FuncData} (F : Dn K mg "law" s_law ["script"] f fd) : FnOk P w K mg base CX0 8 f fd ["script"] (spLaw K) := by
  refine F.ok sc_law (fun vs H Q E h => ?_) (fun cdv A outer s H vs Q E hr h => ?_)
  · obtain ⟨a, ns, rfl, _⟩ := h
    rfl
  · obtain ⟨a, ns, rfl, hS, hl, q⟩ := h
    refine ⟨_, (pss_cons (ps_for PassesOwn.never rfl (pi_range1 (by rfl) B.range' (pa_cons (pe_callB (call_max2 rfl) (by rfl) B.max' (by decide +kernel) (pa_cons pe_int (pa_cons (pe_callB (call_min2 rfl) (by rfl) B.min' (by decide +kernel) (pa_cons pe_int (pa_cons (pe_callB (call_lenK K rfl) (by rfl) B.len' PySem.boot_len (pa_cons (pv 0) pa_nil)) pa_nil))) pa_nil))) pa_nil)) (pg_name (i := 1) sc_law.nd rfl (Or.inl rfl)) (pss_cons (ps_set (i := 2) sc_law.nd rfl (Or.inl rfl) (pe_c c_law_dice hr (by decide) (by rfl) (pa_cons (pv 0) (pa_cons (pv 1) pa_nil))))
      (pss_one (ps_for PassesOwn.never rfl (pi_range1 (by rfl) B.range' (pa_cons pe_int pa_nil)) (pg_name (i := 3) sc_law.nd rfl (Or.inl rfl)) (pss_one (ps_if (pt_not (pt_val (pe_c c_law_right hr (by decide) (by rfl) (pa_cons (pv 2) pa_nil)))) (pss_one (ps_ret pe_bl)) pss_nil))))))
      (pss_one (ps_ret (pe_cmpR (op_eqK K rfl hr.units) (pe_tup (pa_cons (pe_gc (by rfl) m_MAX_WIDTH) (pa_cons (pe_gc (by rfl) m_MAX_LENGTH) (pa_cons (pe_gc (by rfl) m_MAX_LEVEL) (pa_cons (pe_c c_words_of hr (by decide) (by rfl) (pa_cons pe_int (pa_cons pe_int pa_nil))) pa_nil))))) (pe_tup (pa_cons pe_int (pa_cons pe_int (pa_cons pe_int (pa_cons (pe_tup (pa_cons (pe_tup pa_nil) pa_nil)) pa_nil))))) (nomark _))))), ?_⟩
    obtain ⟨l1, l8⟩ := lim_le (m := 8) (by decide) (ns.map V.int).length
    refine ⟨_, rfl, a, _, rfl, .inl hS, 8, _, rfl, 1, _, rfl, lim 8 (ns.map V.int).length, rfl, by omega, by omega, for_range (lo := 0) (n := (lim 8 (ns.map V.int).length).toNat) (fun i σ H' => ∃ z1 z2 z3, σ = [some (.ref a), z1, z2, z3] ∧ Same H H') ⟨none, none, none, rfl, Same.refl H⟩ ?_ ?_⟩
    · rintro i σ H1 hi ⟨z1, z2, z3, rfl, s1⟩
      refine ⟨_, rfl, _, rfl, a, ns, i, by rw [Int.zero_add]; rfl, s1.seq hS, by omega, fun p H2 np s2 D2 => ?_⟩
      have np0 : H p = none := s1.free np
      refine ⟨3, rfl, by decide, by decide, for_range (lo := 0) (n := 3) (fun j σ H' => ∃ z, σ = [some (.ref a), some (.int (0 + (i : Int))), some (.ref p), z] ∧ Same H H' ∧ Dice H' p (1000 * j)) ⟨_, rfl, s1.trans s2, D2⟩ ?_ ?_⟩
      · rintro j σ H3 hj ⟨z, rfl, s3, D3⟩
        refine ⟨_, rfl, p, 1000 * j, rfl, D3, by omega, fun H4 k4 D4 => ⟨true, rfl, iteF ⟨_, rfl, fun b u e => k4 _ _ (s3 _ _ e) fun z => ((ne_of_none e np0) z).elim, D4⟩⟩⟩
      · rintro σ H3 ⟨z, rfl, s3, D3⟩
        exact ⟨_, _, _, rfl, s3⟩
    · rintro σ H1 ⟨z1, z2, z3, rfl, s1⟩
      refine ⟨(5 : Int), 0, rfl, by decide, by decide, by decide, by decide, fun b us H2 s2 hb tu => ⟨by show 4 ≤ sizeLine; decide, fun t nt => ⟨by show 0 ≤ sizeLine; decide, fun e ne => ⟨by show 1 ≤ sizeLine; decide, fun e1 ne1 => ⟨by show 4 ≤ sizeLine; decide, fun u nu => ?_⟩⟩⟩⟩⟩
      have st := same_new (o := .tup [.int 5, .int 200, .int 5000, .ref b]) nt
      have se := same_new (o := .tup []) ne
      have s1' := same_new (o := .tup [.ref e]) ne1
      have su := same_new (o := .tup [.int 5, .int 200, .int 5000, .ref e1]) nu
      have c1 := s1'.trans su
      have ce := se.trans c1
      have ct := st.trans ce
      have hw : wordsI 5 0 = [[]] := rfl
      rw [hw] at tu
      refine ⟨.tuple [.int 5, .int 200, .int 5000, dII [[]]], .tuple [.int 5, .int 200, .int 5000, dII [[]]], ?_, ?_, by decide +kernel, by decide +kernel, ?_⟩
      · exact .tup (same_tup ce (sT upd_same)) (.cons (.int 5) (.cons (.int 200) (.cons (.int 5000) (.cons (dpII (same_tup ct hb) (tu.same ct)) .nil))))
      · exact .tup (sT upd_same) (.cons (.int 5) (.cons (.int 200) (.cons (.int 5000) (.cons (dpII (vs := [.ref e]) (same_tup su (sT upd_same)) (.cons (ns := []) (same_tup c1 (sT upd_same)) .nil)) .nil))))
      · rw [eqvr (by decide +kernel)]
        exact q _
end
end Br

namespace Br
open PySem PySem.Spec PyProof.Rows L2
set_option maxHeartbeats 8000000 in
theorem all_mk {P : Program} {w : World} {K : PySem.W.Frag} {h : Heap} {mg : Str → Option Value} {fa : Addr} (X : K.In h) (G : h.Ns mainGlobals mg) (hfa : mg "law" = some (.ref fa))
    {f_power_of : Addr} {od_power_of an_power_of : Option Addr} {sl_power_of : Array (Option Value)} {oc_power_of kV_power_of dc_power_of pm_power_of cd_power_of ct_power_of : Value}
    (a_power_of : PySem.W.nsIn K mainGlobals "power_of" = some (some (.ref f_power_of))) (l_power_of : K.lookup f_power_of = some ⟨oc_power_of, od_power_of, .func (PySem.W.fnOf "power_of" "power_of" (defArgs s_power_of) (defBody s_power_of) (defScope s_power_of) .none kV_power_of dc_power_of pm_power_of an_power_of cd_power_of ct_power_of), sl_power_of⟩) (c_power_of : PySem.W.codeIn K cd_power_of "power_of" = true) (k_power_of : PySem.W.keepIn K (.ref f_power_of) = true)
    {f_is_integer : Addr} {od_is_integer an_is_integer : Option Addr} {sl_is_integer : Array (Option Value)} {oc_is_integer kV_is_integer dc_is_integer pm_is_integer cd_is_integer ct_is_integer : Value}
    (a_is_integer : PySem.W.nsIn K mainGlobals "is_integer" = some (some (.ref f_is_integer))) (l_is_integer : K.lookup f_is_integer = some ⟨oc_is_integer, od_is_integer, .func (PySem.W.fnOf "is_integer" "is_integer" (defArgs s_is_integer) (defBody s_is_integer) (defScope s_is_integer) .none kV_is_integer dc_is_integer pm_is_integer an_is_integer cd_is_integer ct_is_integer), sl_is_integer⟩) (c_is_integer : PySem.W.codeIn K cd_is_integer "is_integer" = true) (k_is_integer : PySem.W.keepIn K (.ref f_is_integer) = true)
    {f_is_within : Addr} {od_is_within an_is_within : Option Addr} {sl_is_within : Array (Option Value)} {oc_is_within kV_is_within dc_is_within pm_is_within cd_is_within ct_is_within : Value}
    (a_is_within : PySem.W.nsIn K mainGlobals "is_within" = some (some (.ref f_is_within))) (l_is_within : K.lookup f_is_within = some ⟨oc_is_within, od_is_within, .func (PySem.W.fnOf "is_within" "is_within" (defArgs s_is_within) (defBody s_is_within) (defScope s_is_within) .none kV_is_within dc_is_within pm_is_within an_is_within cd_is_within ct_is_within), sl_is_within⟩) (c_is_within : PySem.W.codeIn K cd_is_within "is_within" = true) (k_is_within : PySem.W.keepIn K (.ref f_is_within) = true)
    {f_require_within : Addr} {od_require_within an_require_within : Option Addr} {sl_require_within : Array (Option Value)} {oc_require_within kV_require_within dc_require_within pm_require_within cd_require_within ct_require_within : Value}
    (a_require_within : PySem.W.nsIn K mainGlobals "require_within" = some (some (.ref f_require_within))) (l_require_within : K.lookup f_require_within = some ⟨oc_require_within, od_require_within, .func (PySem.W.fnOf "require_within" "require_within" (defArgs s_require_within) (defBody s_require_within) (defScope s_require_within) .none kV_require_within dc_require_within pm_require_within an_require_within cd_require_within ct_require_within), sl_require_within⟩) (c_require_within : PySem.W.codeIn K cd_require_within "require_within" = true) (k_require_within : PySem.W.keepIn K (.ref f_require_within) = true)
    {f_is_width : Addr} {od_is_width an_is_width : Option Addr} {sl_is_width : Array (Option Value)} {oc_is_width kV_is_width dc_is_width pm_is_width cd_is_width ct_is_width : Value}
    (a_is_width : PySem.W.nsIn K mainGlobals "is_width" = some (some (.ref f_is_width))) (l_is_width : K.lookup f_is_width = some ⟨oc_is_width, od_is_width, .func (PySem.W.fnOf "is_width" "is_width" (defArgs s_is_width) (defBody s_is_width) (defScope s_is_width) .none kV_is_width dc_is_width pm_is_width an_is_width cd_is_width ct_is_width), sl_is_width⟩) (c_is_width : PySem.W.codeIn K cd_is_width "is_width" = true) (k_is_width : PySem.W.keepIn K (.ref f_is_width) = true)
    {f_require_width : Addr} {od_require_width an_require_width : Option Addr} {sl_require_width : Array (Option Value)} {oc_require_width kV_require_width dc_require_width pm_require_width cd_require_width ct_require_width : Value}
    (a_require_width : PySem.W.nsIn K mainGlobals "require_width" = some (some (.ref f_require_width))) (l_require_width : K.lookup f_require_width = some ⟨oc_require_width, od_require_width, .func (PySem.W.fnOf "require_width" "require_width" (defArgs s_require_width) (defBody s_require_width) (defScope s_require_width) .none kV_require_width dc_require_width pm_require_width an_require_width cd_require_width ct_require_width), sl_require_width⟩) (c_require_width : PySem.W.codeIn K cd_require_width "require_width" = true) (k_require_width : PySem.W.keepIn K (.ref f_require_width) = true)
    {f_is_letter : Addr} {od_is_letter an_is_letter : Option Addr} {sl_is_letter : Array (Option Value)} {oc_is_letter kV_is_letter dc_is_letter pm_is_letter cd_is_letter ct_is_letter : Value}
    (a_is_letter : PySem.W.nsIn K mainGlobals "is_letter" = some (some (.ref f_is_letter))) (l_is_letter : K.lookup f_is_letter = some ⟨oc_is_letter, od_is_letter, .func (PySem.W.fnOf "is_letter" "is_letter" (defArgs s_is_letter) (defBody s_is_letter) (defScope s_is_letter) .none kV_is_letter dc_is_letter pm_is_letter an_is_letter cd_is_letter ct_is_letter), sl_is_letter⟩) (c_is_letter : PySem.W.codeIn K cd_is_letter "is_letter" = true) (k_is_letter : PySem.W.keepIn K (.ref f_is_letter) = true)
    {f_is_word_in : Addr} {od_is_word_in an_is_word_in : Option Addr} {sl_is_word_in : Array (Option Value)} {oc_is_word_in kV_is_word_in dc_is_word_in pm_is_word_in cd_is_word_in ct_is_word_in : Value}
    {T_is_word_in : Addr} {tc_is_word_in : Value} {td_is_word_in : Option Addr} {tn_is_word_in : Nat} {tsl_is_word_in : Array (Option Value)}
    (a_is_word_in : PySem.W.nsIn K mainGlobals "is_word_in" = some (some (.ref f_is_word_in))) (l_is_word_in : K.lookup f_is_word_in = some ⟨oc_is_word_in, od_is_word_in, .func (PySem.W.fnOf "is_word_in" "is_word_in" (defArgs s_is_word_in) (defBody s_is_word_in) (defScope s_is_word_in) (.ref T_is_word_in) kV_is_word_in dc_is_word_in pm_is_word_in an_is_word_in cd_is_word_in ct_is_word_in), sl_is_word_in⟩) (c_is_word_in : PySem.W.codeIn K cd_is_word_in "is_word_in" = true) (k_is_word_in : PySem.W.keepIn K (.ref f_is_word_in) = true)
    (t_is_word_in : K.lookup T_is_word_in = some ⟨tc_is_word_in, td_is_word_in, .seq [.none].toArray tn_is_word_in, tsl_is_word_in⟩)
    {f_require_word : Addr} {od_require_word an_require_word : Option Addr} {sl_require_word : Array (Option Value)} {oc_require_word kV_require_word dc_require_word pm_require_word cd_require_word ct_require_word : Value}
    (a_require_word : PySem.W.nsIn K mainGlobals "require_word" = some (some (.ref f_require_word))) (l_require_word : K.lookup f_require_word = some ⟨oc_require_word, od_require_word, .func (PySem.W.fnOf "require_word" "require_word" (defArgs s_require_word) (defBody s_require_word) (defScope s_require_word) .none kV_require_word dc_require_word pm_require_word an_require_word cd_require_word ct_require_word), sl_require_word⟩) (c_require_word : PySem.W.codeIn K cd_require_word "require_word" = true) (k_require_word : PySem.W.keepIn K (.ref f_require_word) = true)
    {f_place_in : Addr} {od_place_in an_place_in : Option Addr} {sl_place_in : Array (Option Value)} {oc_place_in kV_place_in dc_place_in pm_place_in cd_place_in ct_place_in : Value}
    (a_place_in : PySem.W.nsIn K mainGlobals "place_in" = some (some (.ref f_place_in))) (l_place_in : K.lookup f_place_in = some ⟨oc_place_in, od_place_in, .func (PySem.W.fnOf "place_in" "place_in" (defArgs s_place_in) (defBody s_place_in) (defScope s_place_in) .none kV_place_in dc_place_in pm_place_in an_place_in cd_place_in ct_place_in), sl_place_in⟩) (c_place_in : PySem.W.codeIn K cd_place_in "place_in" = true) (k_place_in : PySem.W.keepIn K (.ref f_place_in) = true)
    {f_word_in : Addr} {od_word_in an_word_in : Option Addr} {sl_word_in : Array (Option Value)} {oc_word_in kV_word_in dc_word_in pm_word_in cd_word_in ct_word_in : Value}
    (a_word_in : PySem.W.nsIn K mainGlobals "word_in" = some (some (.ref f_word_in))) (l_word_in : K.lookup f_word_in = some ⟨oc_word_in, od_word_in, .func (PySem.W.fnOf "word_in" "word_in" (defArgs s_word_in) (defBody s_word_in) (defScope s_word_in) .none kV_word_in dc_word_in pm_word_in an_word_in cd_word_in ct_word_in), sl_word_in⟩) (c_word_in : PySem.W.codeIn K cd_word_in "word_in" = true) (k_word_in : PySem.W.keepIn K (.ref f_word_in) = true)
    {f_words_in : Addr} {od_words_in an_words_in : Option Addr} {sl_words_in : Array (Option Value)} {oc_words_in kV_words_in dc_words_in pm_words_in cd_words_in ct_words_in : Value}
    (a_words_in : PySem.W.nsIn K mainGlobals "words_in" = some (some (.ref f_words_in))) (l_words_in : K.lookup f_words_in = some ⟨oc_words_in, od_words_in, .func (PySem.W.fnOf "words_in" "words_in" (defArgs s_words_in) (defBody s_words_in) (defScope s_words_in) .none kV_words_in dc_words_in pm_words_in an_words_in cd_words_in ct_words_in), sl_words_in⟩) (c_words_in : PySem.W.codeIn K cd_words_in "words_in" = true) (k_words_in : PySem.W.keepIn K (.ref f_words_in) = true)
    {f_is_word : Addr} {od_is_word an_is_word : Option Addr} {sl_is_word : Array (Option Value)} {oc_is_word kV_is_word dc_is_word pm_is_word cd_is_word ct_is_word : Value}
    (a_is_word : PySem.W.nsIn K mainGlobals "is_word" = some (some (.ref f_is_word))) (l_is_word : K.lookup f_is_word = some ⟨oc_is_word, od_is_word, .func (PySem.W.fnOf "is_word" "is_word" (defArgs s_is_word) (defBody s_is_word) (defScope s_is_word) .none kV_is_word dc_is_word pm_is_word an_is_word cd_is_word ct_is_word), sl_is_word⟩) (c_is_word : PySem.W.codeIn K cd_is_word "is_word" = true) (k_is_word : PySem.W.keepIn K (.ref f_is_word) = true)
    {f_words_of : Addr} {od_words_of an_words_of : Option Addr} {sl_words_of : Array (Option Value)} {oc_words_of kV_words_of dc_words_of pm_words_of cd_words_of ct_words_of : Value}
    (a_words_of : PySem.W.nsIn K mainGlobals "words_of" = some (some (.ref f_words_of))) (l_words_of : K.lookup f_words_of = some ⟨oc_words_of, od_words_of, .func (PySem.W.fnOf "words_of" "words_of" (defArgs s_words_of) (defBody s_words_of) (defScope s_words_of) .none kV_words_of dc_words_of pm_words_of an_words_of cd_words_of ct_words_of), sl_words_of⟩) (c_words_of : PySem.W.codeIn K cd_words_of "words_of" = true) (k_words_of : PySem.W.keepIn K (.ref f_words_of) = true)
    {f_place_of : Addr} {od_place_of an_place_of : Option Addr} {sl_place_of : Array (Option Value)} {oc_place_of kV_place_of dc_place_of pm_place_of cd_place_of ct_place_of : Value}
    (a_place_of : PySem.W.nsIn K mainGlobals "place_of" = some (some (.ref f_place_of))) (l_place_of : K.lookup f_place_of = some ⟨oc_place_of, od_place_of, .func (PySem.W.fnOf "place_of" "place_of" (defArgs s_place_of) (defBody s_place_of) (defScope s_place_of) .none kV_place_of dc_place_of pm_place_of an_place_of cd_place_of ct_place_of), sl_place_of⟩) (c_place_of : PySem.W.codeIn K cd_place_of "place_of" = true) (k_place_of : PySem.W.keepIn K (.ref f_place_of) = true)
    {f_word_at : Addr} {od_word_at an_word_at : Option Addr} {sl_word_at : Array (Option Value)} {oc_word_at kV_word_at dc_word_at pm_word_at cd_word_at ct_word_at : Value}
    (a_word_at : PySem.W.nsIn K mainGlobals "word_at" = some (some (.ref f_word_at))) (l_word_at : K.lookup f_word_at = some ⟨oc_word_at, od_word_at, .func (PySem.W.fnOf "word_at" "word_at" (defArgs s_word_at) (defBody s_word_at) (defScope s_word_at) .none kV_word_at dc_word_at pm_word_at an_word_at cd_word_at ct_word_at), sl_word_at⟩) (c_word_at : PySem.W.codeIn K cd_word_at "word_at" = true) (k_word_at : PySem.W.keepIn K (.ref f_word_at) = true)
    {f_low_number : Addr} {od_low_number an_low_number : Option Addr} {sl_low_number : Array (Option Value)} {oc_low_number kV_low_number dc_low_number pm_low_number cd_low_number ct_low_number : Value}
    (a_low_number : PySem.W.nsIn K mainGlobals "low_number" = some (some (.ref f_low_number))) (l_low_number : K.lookup f_low_number = some ⟨oc_low_number, od_low_number, .func (PySem.W.fnOf "low_number" "low_number" (defArgs s_low_number) (defBody s_low_number) (defScope s_low_number) .none kV_low_number dc_low_number pm_low_number an_low_number cd_low_number ct_low_number), sl_low_number⟩) (c_low_number : PySem.W.codeIn K cd_low_number "low_number" = true) (k_low_number : PySem.W.keepIn K (.ref f_low_number) = true)
    {f_low_word : Addr} {od_low_word an_low_word : Option Addr} {sl_low_word : Array (Option Value)} {oc_low_word kV_low_word dc_low_word pm_low_word cd_low_word ct_low_word : Value}
    (a_low_word : PySem.W.nsIn K mainGlobals "low_word" = some (some (.ref f_low_word))) (l_low_word : K.lookup f_low_word = some ⟨oc_low_word, od_low_word, .func (PySem.W.fnOf "low_word" "low_word" (defArgs s_low_word) (defBody s_low_word) (defScope s_low_word) .none kV_low_word dc_low_word pm_low_word an_low_word cd_low_word ct_low_word), sl_low_word⟩) (c_low_word : PySem.W.codeIn K cd_low_word "low_word" = true) (k_low_word : PySem.W.keepIn K (.ref f_low_word) = true)
    {f_law_dice : Addr} {od_law_dice an_law_dice : Option Addr} {sl_law_dice : Array (Option Value)} {oc_law_dice kV_law_dice dc_law_dice pm_law_dice cd_law_dice ct_law_dice : Value}
    (a_law_dice : PySem.W.nsIn K mainGlobals "_law_dice" = some (some (.ref f_law_dice))) (l_law_dice : K.lookup f_law_dice = some ⟨oc_law_dice, od_law_dice, .func (PySem.W.fnOf "_law_dice" "_law_dice" (defArgs s_law_dice) (defBody s_law_dice) (defScope s_law_dice) .none kV_law_dice dc_law_dice pm_law_dice an_law_dice cd_law_dice ct_law_dice), sl_law_dice⟩) (c_law_dice : PySem.W.codeIn K cd_law_dice "_law_dice" = true) (k_law_dice : PySem.W.keepIn K (.ref f_law_dice) = true)
    {f_law_roll : Addr} {od_law_roll an_law_roll : Option Addr} {sl_law_roll : Array (Option Value)} {oc_law_roll kV_law_roll dc_law_roll pm_law_roll cd_law_roll ct_law_roll : Value}
    (a_law_roll : PySem.W.nsIn K mainGlobals "_law_roll" = some (some (.ref f_law_roll))) (l_law_roll : K.lookup f_law_roll = some ⟨oc_law_roll, od_law_roll, .func (PySem.W.fnOf "_law_roll" "_law_roll" (defArgs s_law_roll) (defBody s_law_roll) (defScope s_law_roll) .none kV_law_roll dc_law_roll pm_law_roll an_law_roll cd_law_roll ct_law_roll), sl_law_roll⟩) (c_law_roll : PySem.W.codeIn K cd_law_roll "_law_roll" = true) (k_law_roll : PySem.W.keepIn K (.ref f_law_roll) = true)
    {f_law_pick : Addr} {od_law_pick an_law_pick : Option Addr} {sl_law_pick : Array (Option Value)} {oc_law_pick kV_law_pick dc_law_pick pm_law_pick cd_law_pick ct_law_pick : Value}
    (a_law_pick : PySem.W.nsIn K mainGlobals "_law_pick" = some (some (.ref f_law_pick))) (l_law_pick : K.lookup f_law_pick = some ⟨oc_law_pick, od_law_pick, .func (PySem.W.fnOf "_law_pick" "_law_pick" (defArgs s_law_pick) (defBody s_law_pick) (defScope s_law_pick) .none kV_law_pick dc_law_pick pm_law_pick an_law_pick cd_law_pick ct_law_pick), sl_law_pick⟩) (c_law_pick : PySem.W.codeIn K cd_law_pick "_law_pick" = true) (k_law_pick : PySem.W.keepIn K (.ref f_law_pick) = true)
    {f_law_power : Addr} {od_law_power an_law_power : Option Addr} {sl_law_power : Array (Option Value)} {oc_law_power kV_law_power dc_law_power pm_law_power cd_law_power ct_law_power : Value}
    (a_law_power : PySem.W.nsIn K mainGlobals "_law_power" = some (some (.ref f_law_power))) (l_law_power : K.lookup f_law_power = some ⟨oc_law_power, od_law_power, .func (PySem.W.fnOf "_law_power" "_law_power" (defArgs s_law_power) (defBody s_law_power) (defScope s_law_power) .none kV_law_power dc_law_power pm_law_power an_law_power cd_law_power ct_law_power), sl_law_power⟩) (c_law_power : PySem.W.codeIn K cd_law_power "_law_power" = true) (k_law_power : PySem.W.keepIn K (.ref f_law_power) = true)
    {f_law_words : Addr} {od_law_words an_law_words : Option Addr} {sl_law_words : Array (Option Value)} {oc_law_words kV_law_words dc_law_words pm_law_words cd_law_words ct_law_words : Value}
    (a_law_words : PySem.W.nsIn K mainGlobals "_law_words" = some (some (.ref f_law_words))) (l_law_words : K.lookup f_law_words = some ⟨oc_law_words, od_law_words, .func (PySem.W.fnOf "_law_words" "_law_words" (defArgs s_law_words) (defBody s_law_words) (defScope s_law_words) .none kV_law_words dc_law_words pm_law_words an_law_words cd_law_words ct_law_words), sl_law_words⟩) (c_law_words : PySem.W.codeIn K cd_law_words "_law_words" = true) (k_law_words : PySem.W.keepIn K (.ref f_law_words) = true)
    {f_law_word : Addr} {od_law_word an_law_word : Option Addr} {sl_law_word : Array (Option Value)} {oc_law_word kV_law_word dc_law_word pm_law_word cd_law_word ct_law_word : Value}
    (a_law_word : PySem.W.nsIn K mainGlobals "_law_word" = some (some (.ref f_law_word))) (l_law_word : K.lookup f_law_word = some ⟨oc_law_word, od_law_word, .func (PySem.W.fnOf "_law_word" "_law_word" (defArgs s_law_word) (defBody s_law_word) (defScope s_law_word) .none kV_law_word dc_law_word pm_law_word an_law_word cd_law_word ct_law_word), sl_law_word⟩) (c_law_word : PySem.W.codeIn K cd_law_word "_law_word" = true) (k_law_word : PySem.W.keepIn K (.ref f_law_word) = true)
    {f_law_value : Addr} {od_law_value an_law_value : Option Addr} {sl_law_value : Array (Option Value)} {oc_law_value kV_law_value dc_law_value pm_law_value cd_law_value ct_law_value : Value}
    (a_law_value : PySem.W.nsIn K mainGlobals "_law_value" = some (some (.ref f_law_value))) (l_law_value : K.lookup f_law_value = some ⟨oc_law_value, od_law_value, .func (PySem.W.fnOf "_law_value" "_law_value" (defArgs s_law_value) (defBody s_law_value) (defScope s_law_value) .none kV_law_value dc_law_value pm_law_value an_law_value cd_law_value ct_law_value), sl_law_value⟩) (c_law_value : PySem.W.codeIn K cd_law_value "_law_value" = true) (k_law_value : PySem.W.keepIn K (.ref f_law_value) = true)
    {f_law_odd : Addr} {od_law_odd an_law_odd : Option Addr} {sl_law_odd : Array (Option Value)} {oc_law_odd kV_law_odd dc_law_odd pm_law_odd cd_law_odd ct_law_odd : Value}
    (a_law_odd : PySem.W.nsIn K mainGlobals "_law_odd" = some (some (.ref f_law_odd))) (l_law_odd : K.lookup f_law_odd = some ⟨oc_law_odd, od_law_odd, .func (PySem.W.fnOf "_law_odd" "_law_odd" (defArgs s_law_odd) (defBody s_law_odd) (defScope s_law_odd) .none kV_law_odd dc_law_odd pm_law_odd an_law_odd cd_law_odd ct_law_odd), sl_law_odd⟩) (c_law_odd : PySem.W.codeIn K cd_law_odd "_law_odd" = true) (k_law_odd : PySem.W.keepIn K (.ref f_law_odd) = true)
    {f_law_right : Addr} {od_law_right an_law_right : Option Addr} {sl_law_right : Array (Option Value)} {oc_law_right kV_law_right dc_law_right pm_law_right cd_law_right ct_law_right : Value}
    (a_law_right : PySem.W.nsIn K mainGlobals "_law_right" = some (some (.ref f_law_right))) (l_law_right : K.lookup f_law_right = some ⟨oc_law_right, od_law_right, .func (PySem.W.fnOf "_law_right" "_law_right" (defArgs s_law_right) (defBody s_law_right) (defScope s_law_right) .none kV_law_right dc_law_right pm_law_right an_law_right cd_law_right ct_law_right), sl_law_right⟩) (c_law_right : PySem.W.codeIn K cd_law_right "_law_right" = true) (k_law_right : PySem.W.keepIn K (.ref f_law_right) = true)
    {f_law : Addr} {od_law an_law : Option Addr} {sl_law : Array (Option Value)} {oc_law kV_law dc_law pm_law cd_law ct_law : Value}
    (a_law : PySem.W.nsIn K mainGlobals "law" = some (some (.ref f_law))) (l_law : K.lookup f_law = some ⟨oc_law, od_law, .func (PySem.W.fnOf "law" "law" (defArgs s_law) (defBody s_law) (defScope s_law) .none kV_law dc_law pm_law an_law cd_law ct_law), sl_law⟩) (c_law : PySem.W.codeIn K cd_law "law" = true) (k_law : PySem.W.keepIn K (.ref f_law) = true)
    {u_MAX_WIDTH : Value} (g_MAX_WIDTH : PySem.W.nsIn K mainGlobals "MAX_WIDTH" = some (some u_MAX_WIDTH)) (r_MAX_WIDTH : RelV (.int 5) u_MAX_WIDTH)
    {u_MAX_LENGTH : Value} (g_MAX_LENGTH : PySem.W.nsIn K mainGlobals "MAX_LENGTH" = some (some u_MAX_LENGTH)) (r_MAX_LENGTH : RelV (.int 200) u_MAX_LENGTH)
    {u_MAX_LEVEL : Value} (g_MAX_LEVEL : PySem.W.nsIn K mainGlobals "MAX_LEVEL" = some (some u_MAX_LEVEL)) (r_MAX_LEVEL : RelV (.int 5000) u_MAX_LEVEL)
    {u_MOST_LISTED : Value} (g_MOST_LISTED : PySem.W.nsIn K mainGlobals "MOST_LISTED" = some (some u_MOST_LISTED)) (r_MOST_LISTED : RelV (.int 12) u_MOST_LISTED)
    {u_GREAT : Value} (g_GREAT : PySem.W.nsIn K mainGlobals "GREAT" = some (some u_GREAT)) (r_GREAT : RelV (.int (10 ^ 60)) u_GREAT)
    (z_len : PySem.W.nsIn K mainGlobals "len" = some none)
    (z_range : PySem.W.nsIn K mainGlobals "range" = some none)
    (z_isinstance : PySem.W.nsIn K mainGlobals "isinstance" = some none)
    (z_int : PySem.W.nsIn K mainGlobals "int" = some none)
    (z_bool : PySem.W.nsIn K mainGlobals "bool" = some none)
    (z_tuple : PySem.W.nsIn K mainGlobals "tuple" = some none)
    (z_list : PySem.W.nsIn K mainGlobals "list" = some none)
    (z_all : PySem.W.nsIn K mainGlobals "all" = some none)
    (z_abs : PySem.W.nsIn K mainGlobals "abs" = some none)
    (z_max : PySem.W.nsIn K mainGlobals "max" = some none)
    (z_min : PySem.W.nsIn K mainGlobals "min" = some none)
    : ∃ fd : FuncData, (∀ (s : Shared) (v : Value), BindsTo s fd ⟨[v], []⟩ [("script", v)]) ∧ ∀ base : Heap, K.In base → base.Ns mainGlobals mg → FnOk P w K mg base CX0 8 fa fd ["script"] (spLaw K) := by
  have e := hfa.symm.trans (PySem.W.mg_of X G a_law)
  cases e
  have B : Blt mg := ⟨PySem.W.mg_none_of X G z_len, PySem.W.mg_none_of X G z_range, PySem.W.mg_none_of X G z_isinstance, PySem.W.mg_none_of X G z_int, PySem.W.mg_none_of X G z_bool, PySem.W.mg_none_of X G z_tuple, PySem.W.mg_none_of X G z_list, PySem.W.mg_none_of X G z_all, PySem.W.mg_none_of X G z_abs, PySem.W.mg_none_of X G z_max, PySem.W.mg_none_of X G z_min⟩
  have m_MAX_WIDTH : ∃ u, mg "MAX_WIDTH" = some u ∧ RelV (.int 5) u := ⟨_, PySem.W.mg_of X G g_MAX_WIDTH, r_MAX_WIDTH⟩
  have m_MAX_LENGTH : ∃ u, mg "MAX_LENGTH" = some u ∧ RelV (.int 200) u := ⟨_, PySem.W.mg_of X G g_MAX_LENGTH, r_MAX_LENGTH⟩
  have m_MAX_LEVEL : ∃ u, mg "MAX_LEVEL" = some u ∧ RelV (.int 5000) u := ⟨_, PySem.W.mg_of X G g_MAX_LEVEL, r_MAX_LEVEL⟩
  have m_MOST_LISTED : ∃ u, mg "MOST_LISTED" = some u ∧ RelV (.int 12) u := ⟨_, PySem.W.mg_of X G g_MOST_LISTED, r_MOST_LISTED⟩
  have m_GREAT : ∃ u, mg "GREAT" = some u ∧ RelV (.int (10 ^ 60)) u := ⟨_, PySem.W.mg_of X G g_GREAT, r_GREAT⟩
  refine ⟨PySem.W.fnOf "law" "law" (defArgs s_law) (defBody s_law) (defScope s_law) .none kV_law dc_law pm_law an_law cd_law ct_law, fun s v => .of_eq rfl, fun base KB GB => ?_⟩
  have F_power_of : Dn K mg "power_of" s_power_of ["number", "many"] _ _ := dn_mk l_power_of c_power_of k_power_of (PySem.W.mg_of X G a_power_of)
  have b_power_of : Binds K _ ["number", "many"] [] := bind_all l_power_of fun us hl => match us, hl with | [_, _], _ => rfl
  have c_power_of := F_power_of.cl b_power_of .nil (ok_power_of (P := P) (w := w) (base := base) (B := B) (F := F_power_of))
  have F_is_integer : Dn K mg "is_integer" s_is_integer ["value"] _ _ := dn_mk l_is_integer c_is_integer k_is_integer (PySem.W.mg_of X G a_is_integer)
  have b_is_integer : Binds K _ ["value"] [] := bind_all l_is_integer fun us hl => match us, hl with | [_], _ => rfl
  have c_is_integer := F_is_integer.cl b_is_integer .nil (ok_is_integer (P := P) (w := w) (base := base) (B := B) (F := F_is_integer))
  have F_is_within : Dn K mg "is_within" s_is_within ["value", "low", "high"] _ _ := dn_mk l_is_within c_is_within k_is_within (PySem.W.mg_of X G a_is_within)
  have b_is_within : Binds K _ ["value", "low", "high"] [] := bind_all l_is_within fun us hl => match us, hl with | [_, _, _], _ => rfl
  have c_is_within := F_is_within.cl b_is_within .nil (ok_is_within (P := P) (w := w) (base := base) (B := B) (c_is_integer := c_is_integer) (F := F_is_within))
  have F_require_within : Dn K mg "require_within" s_require_within ["value", "low", "high"] _ _ := dn_mk l_require_within c_require_within k_require_within (PySem.W.mg_of X G a_require_within)
  have b_require_within : Binds K _ ["value", "low", "high"] [] := bind_all l_require_within fun us hl => match us, hl with | [_, _, _], _ => rfl
  have c_require_within := F_require_within.cl b_require_within .nil (ok_require_within (P := P) (w := w) (base := base) (B := B) (c_is_within := c_is_within) (F := F_require_within))
  have F_is_width : Dn K mg "is_width" s_is_width ["value"] _ _ := dn_mk l_is_width c_is_width k_is_width (PySem.W.mg_of X G a_is_width)
  have b_is_width : Binds K _ ["value"] [] := bind_all l_is_width fun us hl => match us, hl with | [_], _ => rfl
  have c_is_width := F_is_width.cl b_is_width .nil (ok_is_width (P := P) (w := w) (base := base) (B := B) (m_MAX_WIDTH := m_MAX_WIDTH) (c_is_within := c_is_within) (F := F_is_width))
  have F_require_width : Dn K mg "require_width" s_require_width ["value"] _ _ := dn_mk l_require_width c_require_width k_require_width (PySem.W.mg_of X G a_require_width)
  have b_require_width : Binds K _ ["value"] [] := bind_all l_require_width fun us hl => match us, hl with | [_], _ => rfl
  have c_require_width := F_require_width.cl b_require_width .nil (ok_require_width (P := P) (w := w) (base := base) (B := B) (c_is_width := c_is_width) (F := F_require_width))
  have F_is_letter : Dn K mg "is_letter" s_is_letter ["width", "value"] _ _ := dn_mk l_is_letter c_is_letter k_is_letter (PySem.W.mg_of X G a_is_letter)
  have b_is_letter : Binds K _ ["width", "value"] [] := bind_all l_is_letter fun us hl => match us, hl with | [_, _], _ => rfl
  have c_is_letter := F_is_letter.cl b_is_letter .nil (ok_is_letter (P := P) (w := w) (base := base) (B := B) (c_is_within := c_is_within) (F := F_is_letter))
  have F_is_word_in : Dn K mg "is_word_in" s_is_word_in ["width", "value", "most"] _ _ := dn_mk l_is_word_in c_is_word_in k_is_word_in (PySem.W.mg_of X G a_is_word_in)
  have FD_is_word_in := fund_mk (dvs := [.non]) (its := [.none]) l_is_word_in c_is_word_in k_is_word_in t_is_word_in (.cons rfl .nil)
  have o_is_word_in := ok_is_word_in (P := P) (w := w) (base := base) (B := B) (c_is_letter := c_is_letter) (F := F_is_word_in)
  obtain ⟨ds_is_word_in_2, vs_is_word_in_2, b_is_word_in_2⟩ := FD_is_word_in.binds1 (ps := ["width", "value", "most"]) 2 0 (by decide) (by decide) fun _ _ _ _ _ _ _ us its hl hi => match us, its, hl, hi with | [_, _], [_], _, _ => ⟨_, rfl, rfl⟩
  have c_is_word_in_2 := F_is_word_in.cl b_is_word_in_2 vs_is_word_in_2 o_is_word_in
  obtain ⟨ds_is_word_in, vs_is_word_in, b_is_word_in⟩ := FD_is_word_in.binds1 (ps := ["width", "value", "most"]) 3 1 (by decide) (by decide) fun _ _ _ _ _ _ _ us its hl hi => match us, its, hl, hi with | [_, _, _], [_], _, _ => ⟨_, rfl, rfl⟩
  have c_is_word_in := F_is_word_in.cl b_is_word_in vs_is_word_in o_is_word_in
  have F_require_word : Dn K mg "require_word" s_require_word ["width", "word"] _ _ := dn_mk l_require_word c_require_word k_require_word (PySem.W.mg_of X G a_require_word)
  have b_require_word : Binds K _ ["width", "word"] [] := bind_all l_require_word fun us hl => match us, hl with | [_, _], _ => rfl
  have c_require_word := F_require_word.cl b_require_word .nil (ok_require_word (P := P) (w := w) (base := base) (B := B) (m_MAX_LENGTH := m_MAX_LENGTH) (c_is_word_in := c_is_word_in) (F := F_require_word))
  have F_place_in : Dn K mg "place_in" s_place_in ["width", "word"] _ _ := dn_mk l_place_in c_place_in k_place_in (PySem.W.mg_of X G a_place_in)
  have b_place_in : Binds K _ ["width", "word"] [] := bind_all l_place_in fun us hl => match us, hl with | [_, _], _ => rfl
  have c_place_in := F_place_in.cl b_place_in .nil (ok_place_in (P := P) (w := w) (base := base) (B := B) (F := F_place_in))
  have F_word_in : Dn K mg "word_in" s_word_in ["width", "length", "place"] _ _ := dn_mk l_word_in c_word_in k_word_in (PySem.W.mg_of X G a_word_in)
  have b_word_in : Binds K _ ["width", "length", "place"] [] := bind_all l_word_in fun us hl => match us, hl with | [_, _, _], _ => rfl
  have c_word_in := F_word_in.cl b_word_in .nil (ok_word_in (P := P) (w := w) (base := base) (B := B) (F := F_word_in))
  have F_words_in : Dn K mg "words_in" s_words_in ["width", "length"] _ _ := dn_mk l_words_in c_words_in k_words_in (PySem.W.mg_of X G a_words_in)
  have b_words_in : Binds K _ ["width", "length"] [] := bind_all l_words_in fun us hl => match us, hl with | [_, _], _ => rfl
  have c_words_in := F_words_in.cl b_words_in .nil (ok_words_in (P := P) (w := w) (base := base) (B := B) (c_word_in := c_word_in) (c_power_of := c_power_of) (F := F_words_in))
  have F_is_word : Dn K mg "is_word" s_is_word ["width", "value"] _ _ := dn_mk l_is_word c_is_word k_is_word (PySem.W.mg_of X G a_is_word)
  have b_is_word : Binds K _ ["width", "value"] [] := bind_all l_is_word fun us hl => match us, hl with | [_, _], _ => rfl
  have c_is_word := F_is_word.cl b_is_word .nil (ok_is_word (P := P) (w := w) (base := base) (B := B) (c_require_width := c_require_width) (c_is_word_in_2 := c_is_word_in_2) (F := F_is_word))
  have F_words_of : Dn K mg "words_of" s_words_of ["width", "length"] _ _ := dn_mk l_words_of c_words_of k_words_of (PySem.W.mg_of X G a_words_of)
  have b_words_of : Binds K _ ["width", "length"] [] := bind_all l_words_of fun us hl => match us, hl with | [_, _], _ => rfl
  have c_words_of := F_words_of.cl b_words_of .nil (ok_words_of (P := P) (w := w) (base := base) (B := B) (m_MOST_LISTED := m_MOST_LISTED) (m_MAX_LEVEL := m_MAX_LEVEL) (c_require_width := c_require_width) (c_require_within := c_require_within) (c_words_in := c_words_in) (c_power_of := c_power_of) (F := F_words_of))
  have F_place_of : Dn K mg "place_of" s_place_of ["width", "word"] _ _ := dn_mk l_place_of c_place_of k_place_of (PySem.W.mg_of X G a_place_of)
  have b_place_of : Binds K _ ["width", "word"] [] := bind_all l_place_of fun us hl => match us, hl with | [_, _], _ => rfl
  have c_place_of := F_place_of.cl b_place_of .nil (ok_place_of (P := P) (w := w) (base := base) (B := B) (c_require_width := c_require_width) (c_require_word := c_require_word) (c_place_in := c_place_in) (F := F_place_of))
  have F_word_at : Dn K mg "word_at" s_word_at ["width", "length", "place"] _ _ := dn_mk l_word_at c_word_at k_word_at (PySem.W.mg_of X G a_word_at)
  have b_word_at : Binds K _ ["width", "length", "place"] [] := bind_all l_word_at fun us hl => match us, hl with | [_, _, _], _ => rfl
  have c_word_at := F_word_at.cl b_word_at .nil (ok_word_at (P := P) (w := w) (base := base) (B := B) (m_MAX_LENGTH := m_MAX_LENGTH) (c_require_width := c_require_width) (c_require_within := c_require_within) (c_word_in := c_word_in) (c_power_of := c_power_of) (F := F_word_at))
  have F_low_number : Dn K mg "low_number" s_low_number ["width", "word"] _ _ := dn_mk l_low_number c_low_number k_low_number (PySem.W.mg_of X G a_low_number)
  have b_low_number : Binds K _ ["width", "word"] [] := bind_all l_low_number fun us hl => match us, hl with | [_, _], _ => rfl
  have c_low_number := F_low_number.cl b_low_number .nil (ok_low_number (P := P) (w := w) (base := base) (B := B) (c_require_width := c_require_width) (c_require_word := c_require_word) (c_place_in := c_place_in) (F := F_low_number))
  have F_low_word : Dn K mg "low_word" s_low_word ["width", "number", "length"] _ _ := dn_mk l_low_word c_low_word k_low_word (PySem.W.mg_of X G a_low_word)
  have b_low_word : Binds K _ ["width", "number", "length"] [] := bind_all l_low_word fun us hl => match us, hl with | [_, _, _], _ => rfl
  have c_low_word := F_low_word.cl b_low_word .nil (ok_low_word (P := P) (w := w) (base := base) (B := B) (m_MAX_LENGTH := m_MAX_LENGTH) (m_GREAT := m_GREAT) (c_require_width := c_require_width) (c_require_within := c_require_within) (c_word_in := c_word_in) (F := F_low_word))
  have F_law_dice : Dn K mg "_law_dice" s_law_dice ["script", "spot"] _ _ := dn_mk l_law_dice c_law_dice k_law_dice (PySem.W.mg_of X G a_law_dice)
  have b_law_dice : Binds K _ ["script", "spot"] [] := bind_all l_law_dice fun us hl => match us, hl with | [_, _], _ => rfl
  have c_law_dice := F_law_dice.cl b_law_dice .nil (ok_law_dice (P := P) (w := w) (base := base) (B := B) (F := F_law_dice))
  have F_law_roll : Dn K mg "_law_roll" s_law_roll ["dice", "total"] _ _ := dn_mk l_law_roll c_law_roll k_law_roll (PySem.W.mg_of X G a_law_roll)
  have b_law_roll : Binds K _ ["dice", "total"] [] := bind_all l_law_roll fun us hl => match us, hl with | [_, _], _ => rfl
  have c_law_roll := F_law_roll.cl b_law_roll .nil (ok_law_roll (P := P) (w := w) (base := base) (B := B) (F := F_law_roll))
  have F_law_pick : Dn K mg "_law_pick" s_law_pick ["dice", "items"] _ _ := dn_mk l_law_pick c_law_pick k_law_pick (PySem.W.mg_of X G a_law_pick)
  have b_law_pick : Binds K _ ["dice", "items"] [] := bind_all l_law_pick fun us hl => match us, hl with | [_, _], _ => rfl
  have c_law_pick := F_law_pick.cl b_law_pick .nil (ok_law_pick (P := P) (w := w) (base := base) (B := B) (c_law_roll := c_law_roll) (F := F_law_pick))
  have F_law_power : Dn K mg "_law_power" s_law_power ["base", "many"] _ _ := dn_mk l_law_power c_law_power k_law_power (PySem.W.mg_of X G a_law_power)
  have b_law_power : Binds K _ ["base", "many"] [] := bind_all l_law_power fun us hl => match us, hl with | [_, _], _ => rfl
  have c_law_power := F_law_power.cl b_law_power .nil (ok_law_power (P := P) (w := w) (base := base) (B := B) (F := F_law_power))
  have F_law_words : Dn K mg "_law_words" s_law_words ["width", "length"] _ _ := dn_mk l_law_words c_law_words k_law_words (PySem.W.mg_of X G a_law_words)
  have b_law_words : Binds K _ ["width", "length"] [] := bind_all l_law_words fun us hl => match us, hl with | [_, _], _ => rfl
  have c_law_words := F_law_words.cl b_law_words .nil (ok_law_words (P := P) (w := w) (base := base) (B := B) (F := F_law_words))
  have F_law_word : Dn K mg "_law_word" s_law_word ["dice", "width", "most"] _ _ := dn_mk l_law_word c_law_word k_law_word (PySem.W.mg_of X G a_law_word)
  have b_law_word : Binds K _ ["dice", "width", "most"] [] := bind_all l_law_word fun us hl => match us, hl with | [_, _, _], _ => rfl
  have c_law_word := F_law_word.cl b_law_word .nil (ok_law_word (P := P) (w := w) (base := base) (B := B) (c_law_roll := c_law_roll) (F := F_law_word))
  have F_law_value : Dn K mg "_law_value" s_law_value ["width", "letters"] _ _ := dn_mk l_law_value c_law_value k_law_value (PySem.W.mg_of X G a_law_value)
  have b_law_value : Binds K _ ["width", "letters"] [] := bind_all l_law_value fun us hl => match us, hl with | [_, _], _ => rfl
  have c_law_value := F_law_value.cl b_law_value .nil (ok_law_value (P := P) (w := w) (base := base) (B := B) (F := F_law_value))
  have F_law_odd : Dn K mg "_law_odd" s_law_odd ["dice", "width", "word"] _ _ := dn_mk l_law_odd c_law_odd k_law_odd (PySem.W.mg_of X G a_law_odd)
  have b_law_odd : Binds K _ ["dice", "width", "word"] [] := bind_all l_law_odd fun us hl => match us, hl with | [_, _, _], _ => rfl
  have c_law_odd := F_law_odd.cl b_law_odd .nil (ok_law_odd (P := P) (w := w) (base := base) (B := B) (c_law_pick := c_law_pick) (F := F_law_odd))
  have F_law_right : Dn K mg "_law_right" s_law_right ["dice"] _ _ := dn_mk l_law_right c_law_right k_law_right (PySem.W.mg_of X G a_law_right)
  have b_law_right : Binds K _ ["dice"] [] := bind_all l_law_right fun us hl => match us, hl with | [_], _ => rfl
  have c_law_right := F_law_right.cl b_law_right .nil (ok_law_right (P := P) (w := w) (base := base) (B := B) (c_law_words := c_law_words) (c_law_word := c_law_word) (c_law_value := c_law_value) (c_law_roll := c_law_roll) (c_low_word := c_low_word) (c_words_of := c_words_of) (c_low_number := c_low_number) (c_law_pick := c_law_pick) (c_is_word := c_is_word) (c_place_of := c_place_of) (c_word_at := c_word_at) (c_law_odd := c_law_odd) (c_law_power := c_law_power) (F := F_law_right))
  have F_law : Dn K mg "law" s_law ["script"] _ _ := dn_mk l_law c_law k_law (PySem.W.mg_of X G a_law)
  exact ok_law (P := P) (w := w) (base := base) (B := B) (m_MAX_WIDTH := m_MAX_WIDTH) (m_MAX_LENGTH := m_MAX_LENGTH) (m_MAX_LEVEL := m_MAX_LEVEL) (c_law_dice := c_law_dice) (c_words_of := c_words_of) (c_law_right := c_law_right) (F := F_law)
end Br
open PySem PySem.W PyProof.Rows
set_option maxRecDepth 100000 in
set_option maxHeartbeats 0 in
theorem PySem.Challenge.cw_branchturns_k11_whole_words_holds : PySem.Challenge.rw_branchturns_k11_whole_words.Holds := by
  w_on; o_law; k_head; (case hw => w_witness2)
  k_fill
  refine L2.walk_of (l := PySem.Challenge.rw_branchturns_k11_whole_words) (n := 63) (k := 8) (x := "script") (CX := fun _ => L2.CX0) (sp := fun w => Br.spLaw _) rfl (by decide) rfl ⟨rfl, by decide, by decide⟩ (fun w h Y => PySem.W.kIn_of Y) ?F (fun _ _ a ns hl _ hS => ⟨a, ns, rfl, hS, hl, fun _ => rfl⟩) (fun _ _ _ _ _ h => h)
  case F =>
    intro w mg fa h KX G hmg
    refine' Br.all_mk KX G hmg ?a_power_of ?l_power_of ?c_power_of ?k_power_of ?a_is_integer ?l_is_integer ?c_is_integer ?k_is_integer ?a_is_within ?l_is_within ?c_is_within ?k_is_within ?a_require_within ?l_require_within ?c_require_within ?k_require_within ?a_is_width ?l_is_width ?c_is_width ?k_is_width ?a_require_width ?l_require_width ?c_require_width ?k_require_width ?a_is_letter ?l_is_letter ?c_is_letter ?k_is_letter ?a_is_word_in ?l_is_word_in ?c_is_word_in ?k_is_word_in ?t_is_word_in ?a_require_word ?l_require_word ?c_require_word ?k_require_word ?a_place_in ?l_place_in ?c_place_in ?k_place_in ?a_word_in ?l_word_in ?c_word_in ?k_word_in ?a_words_in ?l_words_in ?c_words_in ?k_words_in ?a_is_word ?l_is_word ?c_is_word ?k_is_word ?a_words_of ?l_words_of ?c_words_of ?k_words_of ?a_place_of ?l_place_of ?c_place_of ?k_place_of ?a_word_at ?l_word_at ?c_word_at ?k_word_at ?a_low_number ?l_low_number ?c_low_number ?k_low_number ?a_low_word ?l_low_word ?c_low_word ?k_low_word ?a_law_dice ?l_law_dice ?c_law_dice ?k_law_dice ?a_law_roll ?l_law_roll ?c_law_roll ?k_law_roll ?a_law_pick ?l_law_pick ?c_law_pick ?k_law_pick ?a_law_power ?l_law_power ?c_law_power ?k_law_power ?a_law_words ?l_law_words ?c_law_words ?k_law_words ?a_law_word ?l_law_word ?c_law_word ?k_law_word ?a_law_value ?l_law_value ?c_law_value ?k_law_value ?a_law_odd ?l_law_odd ?c_law_odd ?k_law_odd ?a_law_right ?l_law_right ?c_law_right ?k_law_right ?a_law ?l_law ?c_law ?k_law ?g_MAX_WIDTH ?r_MAX_WIDTH ?g_MAX_LENGTH ?r_MAX_LENGTH ?g_MAX_LEVEL ?r_MAX_LEVEL ?g_MOST_LISTED ?r_MOST_LISTED ?g_GREAT ?r_GREAT ?z_len ?z_range ?z_isinstance ?z_int ?z_bool ?z_tuple ?z_list ?z_all ?z_abs ?z_max ?z_min
    (case a_power_of => k_is)
    (case l_power_of => k_is)
    (case c_power_of => k_is)
    (case k_power_of => k_is)
    (case a_is_integer => k_is)
    (case l_is_integer => k_is)
    (case c_is_integer => k_is)
    (case k_is_integer => k_is)
    (case a_is_within => k_is)
    (case l_is_within => k_is)
    (case c_is_within => k_is)
    (case k_is_within => k_is)
    (case a_require_within => k_is)
    (case l_require_within => k_is)
    (case c_require_within => k_is)
    (case k_require_within => k_is)
    (case a_is_width => k_is)
    (case l_is_width => k_is)
    (case c_is_width => k_is)
    (case k_is_width => k_is)
    (case a_require_width => k_is)
    (case l_require_width => k_is)
    (case c_require_width => k_is)
    (case k_require_width => k_is)
    (case a_is_letter => k_is)
    (case l_is_letter => k_is)
    (case c_is_letter => k_is)
    (case k_is_letter => k_is)
    (case a_is_word_in => k_is)
    (case l_is_word_in => k_is)
    (case c_is_word_in => k_is)
    (case k_is_word_in => k_is)
    (case t_is_word_in => k_is)
    (case a_require_word => k_is)
    (case l_require_word => k_is)
    (case c_require_word => k_is)
    (case k_require_word => k_is)
    (case a_place_in => k_is)
    (case l_place_in => k_is)
    (case c_place_in => k_is)
    (case k_place_in => k_is)
    (case a_word_in => k_is)
    (case l_word_in => k_is)
    (case c_word_in => k_is)
    (case k_word_in => k_is)
    (case a_words_in => k_is)
    (case l_words_in => k_is)
    (case c_words_in => k_is)
    (case k_words_in => k_is)
    (case a_is_word => k_is)
    (case l_is_word => k_is)
    (case c_is_word => k_is)
    (case k_is_word => k_is)
    (case a_words_of => k_is)
    (case l_words_of => k_is)
    (case c_words_of => k_is)
    (case k_words_of => k_is)
    (case a_place_of => k_is)
    (case l_place_of => k_is)
    (case c_place_of => k_is)
    (case k_place_of => k_is)
    (case a_word_at => k_is)
    (case l_word_at => k_is)
    (case c_word_at => k_is)
    (case k_word_at => k_is)
    (case a_low_number => k_is)
    (case l_low_number => k_is)
    (case c_low_number => k_is)
    (case k_low_number => k_is)
    (case a_low_word => k_is)
    (case l_low_word => k_is)
    (case c_low_word => k_is)
    (case k_low_word => k_is)
    (case a_law_dice => k_is)
    (case l_law_dice => k_is)
    (case c_law_dice => k_is)
    (case k_law_dice => k_is)
    (case a_law_roll => k_is)
    (case l_law_roll => k_is)
    (case c_law_roll => k_is)
    (case k_law_roll => k_is)
    (case a_law_pick => k_is)
    (case l_law_pick => k_is)
    (case c_law_pick => k_is)
    (case k_law_pick => k_is)
    (case a_law_power => k_is)
    (case l_law_power => k_is)
    (case c_law_power => k_is)
    (case k_law_power => k_is)
    (case a_law_words => k_is)
    (case l_law_words => k_is)
    (case c_law_words => k_is)
    (case k_law_words => k_is)
    (case a_law_word => k_is)
    (case l_law_word => k_is)
    (case c_law_word => k_is)
    (case k_law_word => k_is)
    (case a_law_value => k_is)
    (case l_law_value => k_is)
    (case c_law_value => k_is)
    (case k_law_value => k_is)
    (case a_law_odd => k_is)
    (case l_law_odd => k_is)
    (case c_law_odd => k_is)
    (case k_law_odd => k_is)
    (case a_law_right => k_is)
    (case l_law_right => k_is)
    (case c_law_right => k_is)
    (case k_law_right => k_is)
    (case a_law => k_is)
    (case l_law => k_is)
    (case c_law => k_is)
    (case k_law => k_is)
    (case g_MAX_WIDTH => k_is)
    (case r_MAX_WIDTH => exact ⟨_, rfl⟩)
    (case g_MAX_LENGTH => k_is)
    (case r_MAX_LENGTH => exact ⟨_, rfl⟩)
    (case g_MAX_LEVEL => k_is)
    (case r_MAX_LEVEL => exact ⟨_, rfl⟩)
    (case g_MOST_LISTED => k_is)
    (case r_MOST_LISTED => exact ⟨_, rfl⟩)
    (case g_GREAT => k_is)
    (case r_GREAT => exact ⟨_, rfl⟩)
    (case z_len => k_is)
    (case z_range => k_is)
    (case z_isinstance => k_is)
    (case z_int => k_is)
    (case z_bool => k_is)
    (case z_tuple => k_is)
    (case z_list => k_is)
    (case z_all => k_is)
    (case z_abs => k_is)
    (case z_max => k_is)
    (case z_min => k_is)
