import PyProof.Rows.All
import Wide.All
import OpenK.AllK
import Wide.FinOn
import HandS.ForMost
import HandS.Wide
import HandS.IsInst
import HandS.TupAny
import HandS.TupMul
import HandS.Style
import HandS.Codes
import HandS.Zip
import HandS.Defaults
import HandS.DictComp
import HandS.Conv
import HandS.Star
import HandS.DictTup
import HandS.TupLen
import KE.KDictDisplayH
import HandS.Iter
import HandS.Slots
import HandS.SlotsOwn
import HandS.FStr
import HandS.SortRule
import HandS.TupSets
import PyProof.CallStr
import HandS.WordsDict
import PySem.Challenge.RW_branchturns_k29_whole_numbers_as_round_w
set_option Elab.async false
set_option linter.all false
set_option maxRecDepth 100000
set_option maxHeartbeats 4000000
/-! My own layer over HandS: heaps that keep all but one list, rules that lack, the dice of the laws. -/
namespace Br
open PySem PySem.Spec PyProof.Rows L2

/-! ### heaps -/
/-- all is kept but the list at d -/
def Kd (d : Addr) (H H' : Hp) : Prop := ∀ a o, H a = some o → (a = d → ∀ xs, o ≠ .lst xs) → H' a = some o
theorem Kd.refl {d : Addr} {H : Hp} : Kd d H H := fun _ _ h _ => h
theorem Kd.trans {d : Addr} {H H1 H2 : Hp} (a : Kd d H H1) (b : Kd d H1 H2) : Kd d H H2 := fun c o h n => b c o (a c o h n) n
theorem Kd.same {d : Addr} {H H' : Hp} (s : Same H H') : Kd d H H' := fun c o h _ => s c o h
theorem Kd.rd {d a : Addr} {H H' : Hp} {u : HO} (k : Kd d H H') (h : Rd H a u) (n : a = d → ∀ xs, u ≠ .lst xs) : Rd H' a u := by
  rcases h with h | ⟨o, h⟩
  · exact .inl (k _ _ h n)
  · exact .inr ⟨o, k _ _ h fun _ _ z => nomatch z⟩
theorem Kd.tup {d a : Addr} {K : PySem.W.Frag} {H H' : Hp} {xs : List V} (k : Kd d H H') (h : SqT K H a xs) : SqT K H' a xs := by
  rcases h with h | h
  · exact .inl (k.rd h fun _ _ z => nomatch z)
  · exact .inr h
theorem Kd.lst {d a : Addr} {K : PySem.W.Frag} {H H' : Hp} {xs : List V} (k : Kd d H H') (n : a ≠ d) (h : SqL K H a xs) : SqL K H' a xs := by
  rcases h with h | h
  · exact .inl (k.rd h fun z => (n z).elim)
  · exact .inr h
theorem Kd.free {d a : Addr} {H H' : Hp} (k : Kd d H H') (n : a ≠ d) (h : H' a = none) : H a = none := by
  cases e : H a with
  | none => rfl
  | some o =>
    rw [k a o e fun z => (n z).elim] at h
    cases h
theorem same_new {H : Hp} {p : Addr} {o : HO} (h : H p = none) : Same H (upd H p o) := fun a u e => by
  rw [upd_ne (ne_of_none e h)]
  exact e
theorem same_tup {K : PySem.W.Frag} {H H' : Hp} {a : Addr} {xs : List V} (e : Same H H') (h : SqT K H a xs) : SqT K H' a xs := Kd.tup (d := a) (Kd.same e) h
theorem kd_upd {d : Addr} {H : Hp} {o : HO} {xs : List V} (h : H d = some (.lst xs)) : Kd d H (upd H d o) := fun a u e n => by
  by_cases z : a = d
  · subst z
    rw [h] at e
    cases e
    exact absurd rfl (n rfl xs)
  · rw [upd_ne z]
    exact e
theorem sT {K : PySem.W.Frag} {H : Hp} {a : Addr} {xs : List V} (h : H a = some (.tup xs)) : SqT K H a xs := .inl (.inl h)
theorem sL {K : PySem.W.Frag} {H : Hp} {a : Addr} {xs : List V} (h : H a = some (.lst xs)) : SqL K H a xs := .inl (.inl h)
theorem sz {n : Nat} (h : n ≤ 1000000) : n ≤ sizeLine := Nat.le_trans h (by decide)
theorem szl {n : Nat} (h : n < 1000000) : n < sizeLine := Nat.lt_of_lt_of_le h (by decide)

/-! ### rules that lack -/
section
variable {X : Cx}
/-- ** of a great base -/
theorem op_powW : OpR X (binaryOp .Pow) (rI (fun i j => 0 ≤ j ∧ (Builtin.Int.intBits i : Int) * j ≤ 2 ^ 27) fun i j => .int (i ^ j.toNat)) := opI fun _ _ _ _ _ _ _ hc q => pow_int hc.1 hc.2 q
end
section
open HT
variable {prog : Program} {w : World} {A : Around} {E : Value → Shared → Prop} {s : Shared}
theorem rev_places (n : Nat) : Builtin.Slice.slicePlaces ((n : Int) - 1) (-1) (-1) = n := by
  unfold Builtin.Slice.slicePlaces
  rw [if_neg (by decide)]
  simp only [Int.neg_neg, Int.ediv_one]
  split <;> omega
theorem rev_adjust (n : Nat) : Builtin.Slice.sliceAdjust none none (-1) (n : Int) = ((n : Int) - 1, -1) := rfl
theorem rev_applied {sl : Addr} {vs : Value} {n : Nat} {Q : Int × Int × Nat → Shared → Prop} (hs : s.heap.IsSliceOf sl .none .none vs) (ps : IsPart vs (some (-1))) (h : Q ((n : Int) - 1, -1, n) s) :
    wpAny (model prog w) A (Builtin.Slice.sliceApplied (.ref sl) (pure (n : Int))) Q E s := by
  obtain ⟨os, hos, hcs, hds⟩ := id hs
  unfold Builtin.Slice.sliceApplied Builtin.Slice.sliceFields
  refine wpAny_bind (wpAny_bind (wpAny_field hos hds (x := .none) rfl (wpAny_bind (wpAny_field hos hds (x := .none) rfl (wpAny_bind (wpAny_field hos hds (x := vs) rfl (wpAny_pure ?_)))))))
  refine wpAny_bind (slicePart_ ps ?_)
  show wpAny _ _ (if ((-1 : Int) == 0) = true then _ else _) _ _ s
  rw [if_neg (by decide)]
  refine wpAny_bind (slicePart_ .none (wpAny_bind (slicePart_ .none (wpAny_bind (wpAny_pure ?_)))))
  show wpAny _ _ (match Builtin.Slice.sliceAdjust none none (-1) (n : Int) with | (lo, hi) => pure (lo, (-1 : Int), Builtin.Slice.slicePlaces lo hi (-1))) _ _ s
  rw [rev_adjust n]
  show wpAny _ _ (pure ((n : Int) - 1, (-1 : Int), Builtin.Slice.slicePlaces ((n : Int) - 1) (-1) (-1))) _ _ s
  rw [rev_places]
  exact wpAny_pure h
theorem rev_pick (xs : List Value) : ((List.range xs.length).filterMap fun (k : Nat) => xs.toArray[(((xs.length : Nat) : Int) - 1 + (k : Int) * -1).toNat]?) = xs.reverse := by
  have e : ∀ (n : Nat), n ≤ xs.length → ((List.range n).filterMap fun (k : Nat) => xs.toArray[(((xs.length : Nat) : Int) - 1 + (k : Int) * -1).toNat]?) = xs.reverse.take n := by
    intro n
    induction n with
    | zero => intro _; rfl
    | succ n ih =>
      intro h
      rw [List.range_succ, List.filterMap_append, ih (by omega), List.take_add_one]
      congr 1
      have e1 : (((xs.length : Nat) : Int) - 1 + (n : Int) * -1).toNat = xs.length - 1 - n := by omega
      have h2 : xs.reverse[n]? = xs[xs.length - 1 - n]? := by rw [List.getElem?_reverse (by omega)]
      rw [h2]
      simp only [List.filterMap_cons, List.filterMap_nil, e1, List.getElem?_toArray]
      cases xs[xs.length - 1 - n]? <;> rfl
  have := e xs.length (Nat.le_refl _)
  rw [this, List.take_of_length_le (by rw [List.length_reverse]; exact Nat.le_refl _)]
theorem getItem_tuple_rev {t sl : Addr} {its : List Value} {vs : Value} {Q : Value → Shared → Prop} (ht : IsTup s.heap t its.toArray) (hs : s.heap.IsSliceOf sl .none .none vs) (ps : IsPart vs (some (-1))) (hz : its.length ≤ sizeLine)
    (h : Q (.ref s.heap.objs.size) { s with heap := s.heap.push { cls := .type "tuple", data := .seq its.reverse.toArray } }) : wpAny (model prog w) A (getItem (.ref t) (.ref sl)) Q E s := by
  have htake : sizeOk (.seq its.reverse.toArray) := by
    show its.reverse.toArray.size ≤ sizeLine
    rw [List.size_toArray, List.length_reverse]
    exact hz
  obtain ⟨os, hos, hcs, hds⟩ := id hs
  have hTs : s.TypeIs (.ref sl) "slice" := ⟨os, hos, hcs⟩
  unfold getItem
  try with_reducible refine wpAny_holding ?_
  first | refine wpAny_bind (wpAny_pure ?_) | skip
  refine wpAny_bind (wpAny_sequenceKey ht.typeIs (by decide) ?_)
  refine wpAny_bind (wpAny_callSpecial?_slot (name := Str.ofString "__getitem__") ht.typeIs PyProof.Rows.slot_tuple_getitem
    (wpAny_call_entry PyProof.Rows.slot_tuple_getitem ht.typeIs entry_tuple_getitem ?_ (args_tuple_getitem _ _)))
  show wpAny _ _ (Builtin.Tuple.tupleItemsOf (.ref t) >>= _) _ _ s
  refine wpAny_bind (tupleItemsOf_ ht ?_)
  refine wpAny_bind (wpAny_typeOf hTs ?_)
  rw [if_pos (by decide)]
  refine wpAny_bind (rev_applied (n := its.toArray.size) hs ps ?_)
  have hno : ¬ ((((its.toArray.size : Nat) : Int) - 1 == 0 && (-1 : Int) == 1 && its.toArray.size == its.toArray.size) = true) := by
    intro q
    rw [Bool.and_eq_true, Bool.and_eq_true] at q
    exact absurd q.1.2 (by decide)
  show wpAny _ _ (if (((its.toArray.size : Nat) : Int) - 1 == 0 && (-1 : Int) == 1 && its.toArray.size == its.toArray.size) = true then _ else _) _ _ s
  rw [if_neg hno, List.size_toArray, rev_pick]
  first
    | exact wpAny_bind (m := Builtin.Tuple.tupleExact _) (wpAny_newObj_type (wpAny_pure ⟨_, rfl, wpAny_pure h⟩) htake)
    | exact wpAny_bind (m := Builtin.Tuple.tupleExact _) (wpAny_newObj_type (wpAny_bind (wpAny_pure (wpAny_pure ⟨_, rfl, wpAny_pure h⟩))) htake)
    | exact wpAny_bind (wpAny_bind (m := Builtin.Tuple.tupleExact _) (wpAny_newObj_type (wpAny_pure (wpAny_pure ⟨_, rfl, wpAny_pure h⟩)) htake))
    | exact wpAny_bind (wpAny_bind (m := Builtin.Tuple.tupleExact _) (wpAny_newObj_type (wpAny_pure ⟨_, rfl, wpAny_pure h⟩) htake))
end
section
variable {X : Cx}
/-- t[::-1], t a tuple -/
def tRevT (K : PySem.W.Frag) (te : TE) : TE := fun σ H Q => te σ H fun x H1 => ∃ a xs, x = .ref a ∧ SqT K H1 a xs ∧ ∀ p, H1 p = none → Q (.ref p) (upd H1 p (.tup xs.reverse))
theorem pe_revT {e : Expr} {te : TE} {k : Nat} {p1 p2 p3 pos : Pos} (he : PE X e te) : PE X (.Subscript e (.Slice none none (some (.UnaryOp .USub (.Constant (.int 1) k p1) p2)) p3) pos) (tRevT X.K te) := by
  refine ⟨fun pins s σ H Q I h => Subscript_ (thn (he.run pins s σ H _ I h) fun v s1 ⟨x, H1, I1, r1, a, xs, ex, hx, q⟩ => ?_)⟩
  subst ex
  cases r1
  have hst : PO X (some (.UnaryOp .USub (.Constant (.int 1) k p1) p2)) (tPart (tUn (rU fun i => .int (-i)) (tC (.int 1)))) := po_some (pe_un un_neg pe_int)
  refine wpAny_Slice (thn (po_none.run pins s1 σ H1 (fun o H2 => o = none ∧ H2 = H1) I1 ⟨rfl, rfl⟩) fun vl s2 ⟨l, H2, I2, pl, el, e2⟩ => ?_)
  subst el e2
  refine thn (po_none.run pins s2 σ H2 (fun o H3 => o = none ∧ H3 = H2) I2 ⟨rfl, rfl⟩) fun vu s3 ⟨u, H3, I3, pu, eu, e3⟩ => ?_
  subst eu e3
  refine thn (hst.run pins s3 σ H3 (fun o H4 => o = some (-1) ∧ H4 = H3) I3 ⟨1, rfl, -1, rfl, rfl, rfl⟩) fun vs s4 ⟨o, H4, I4, ps, eo, e4⟩ => ?_
  subst eo e4
  cases pl
  cases pu
  have I5 : Inv X pins σ H4 { s4 with heap := s4.heap.push { cls := .type "slice", data := .fields #[.none, .none, vs] } } := I4.kept (t' := s4.toks) fun b ob q => Heap.get?_push_of_some _ q
  obtain ⟨its, r, ht, hz⟩ := I5.tuple hx
  have hlen := r.length
  refine tail_any (ops := [.ref a, .ref s4.heap.objs.size]) ht.typeIs PyProof.Rows.slot_tuple_getitem.lookup ?_ (by with_unfolding_all rfl)
  refine getItem_tuple_rev ht (Heap.IsSliceOf.new _ .none .none vs) ps (by omega) ?_
  refine ⟨.ref _, _, I5.laid (t' := s4.toks) (o := .tup xs.reverse) (fun b ob q => Heap.get?_push_of_some _ q) (Nat.le_refl _) ?_, rfl, q _ (I5.hok.fresh (Nat.le_refl _))⟩
  exact ⟨by rw [List.length_reverse]; exact hz, _, r.reverse, IsTup.new _ _⟩
end
end Br

namespace Br
open PySem PySem.Spec PyProof.Rows L2
/-! ### defs by their names -/
/-- a def that may be called by its name, with these defaults; CX: what it may let out -/
structure Cl (CX : CXT) (P : Program) (w : World) (K : PySem.W.Frag) (mg : Str → Option Value) (base : Heap) (k : Nat) (x : Str) (sp : Sp) (dvs : List V) : Prop where
  ex : ∃ (f : Addr) (fd : FuncData) (ps : List Str) (ds : List Value), FnOk P w K mg base CX k f fd ps sp ∧ mg x = some (.ref f) ∧ PySem.W.keepIn K (.ref f) = true ∧ Binds K fd ps ds ∧ Vals dvs ds
/-- a def of the text as it stands behind the top -/
structure Dn (K : PySem.W.Frag) (mg : Str → Option Value) (x : Str) (st : Stmt) (ps : List Str) (f : Addr) (fd : FuncData) : Prop where
  ex : ∃ (oc : Value) (od : Option Addr) (dV kV doc pm : Value) (an : Option Addr) (cdv ct : Value) (osl : Array (Option Value)),
    fd = PySem.W.fnOf x x (defArgs st) (defBody st) (defScope st) dV kV doc pm an cdv ct ∧ K.lookup f = some ⟨oc, od, .func fd, osl⟩ ∧ PySem.W.codeIn K cdv x = true
  kp : PySem.W.keepIn K (.ref f) = true
  mgf : mg x = some (.ref f)
section
variable {P : Program} {w : World} {K : PySem.W.Frag} {mg : Str → Option Value} {base : Heap}
theorem Dn.ok {x : Str} {st : Stmt} {f : Addr} {fd : FuncData} {N ps : List Str} {k : Nat} {sp : Sp} (F : Dn K mg x st ps f fd) (S : FnScope N ps (defScope st)) (len : ∀ vs H Q E, sp vs H Q E → vs.length = ps.length)
    (hbody : ∀ (cdv : Value) (A : Around) (outer : List Env) (s : Shared) (H : Hp) (vs : List V) (Q : VK) (E : XK), Room k (A.deeper (envOfC x (defScope st) s.heap.objs.size f cdv)) → sp vs H Q E →
      ∃ t, PSs (cxOf CX0 P w K mg base N x (defScope st) f cdv A outer s H E).nox (defBody st) t ∧ t { nx := fun _ H' => Q .non H', rt := Q } (start N vs) H) : FnOk P w K mg base CX0 (k + 1) f fd ps sp := by
  obtain ⟨oc, od, dV, kV, doc, pm, an, cdv, ct, osl, rfl, lk, hcd⟩ := F.ex
  refine fn_of lk hcd S len fun A outer s H vs Q E hr hsp => ?_
  obtain ⟨t, h, q⟩ := hbody cdv A outer s H vs Q E hr hsp
  exact ⟨t, h.nox, q⟩
theorem Dn.cl {CX : CXT} {x : Str} {st : Stmt} {f : Addr} {fd : FuncData} {ps : List Str} {k : Nat} {sp : Sp} {ds : List Value} {dvs : List V} (F : Dn K mg x st ps f fd) (b : Binds K fd ps ds) (d : Vals dvs ds) (h : FnOk P w K mg base CX k f fd ps sp) :
    Cl CX P w K mg base k x sp dvs := ⟨f, fd, ps, ds, h, F.mgf, F.kp, b, d⟩
theorem dn_mk {x : Str} {st : Stmt} {ps : List Str} {f : Addr} {oc : Value} {od an : Option Addr} {osl : Array (Option Value)} {dV kV doc pm cdv ct : Value}
    (l : K.lookup f = some ⟨oc, od, .func (PySem.W.fnOf x x (defArgs st) (defBody st) (defScope st) dV kV doc pm an cdv ct), osl⟩)
    (c : PySem.W.codeIn K cdv x = true) (k : PySem.W.keepIn K (.ref f) = true) (m : mg x = some (.ref f)) : Dn K mg x st ps f (PySem.W.fnOf x x (defArgs st) (defBody st) (defScope st) dV kV doc pm an cdv ct) :=
  ⟨⟨oc, od, dV, kV, doc, pm, an, cdv, ct, osl, rfl, l, c⟩, k, m⟩
end
section
variable {X : Cx} {k j : Nat} {x : Str} {sp : Sp} {dvs : List V} {p pos : Pos} {e : Expr} {es : List Expr} {t : TA}
theorem pe_c (c : Cl CX0 X.prog X.w X.K X.mg X.base k x sp dvs) (hr : Room j X.A) (hk : k ≤ j) (hg : Gl X x) (ha : PA X (e :: es) t)
    (hdb : (x == ("__debug__" : Str)) = false := by decide) (he : starEach (e :: es) X.env = (false, eval e X.env) :: starEach es X.env := by rfl) (hpl : (backTo pos (starEach es X.env)).any (·.1) = false := by rfl) :
    PE X (.Call (.Name x p) (e :: es) [] pos) (tCall sp dvs E0 t) := by
  obtain ⟨f, fd, ps, ds, F, hm, kp, b, d⟩ := c.ex
  exact pe_call F (hr.mono hk) hg hm kp b d pass0 ha hdb he hpl
theorem pe_gc {v : V} (hg : Gl X x) (h : ∃ u, X.mg x = some u ∧ RelV v u) (hd : (x == ("__debug__" : Str)) = false := by decide) : PE X (.Name x pos) (tC v) := by
  obtain ⟨u, hm, r⟩ := h
  exact pe_glob hg hm r hd
end

/-! ### values of known kinds -/
/-- a value whose built-in type is known -/
inductive Kn (K : PySem.W.Frag) (H : Hp) : V → Prop where
  | non : Kn K H .non
  | bl (b : Bool) : Kn K H (.bl b)
  | int (i : Int) : Kn K H (.int i)
  | str (x : Str) : Kn K H (.str x)
  | lst {a : Addr} {xs : List V} (h : H a = some (.lst xs)) : Kn K H (.ref a)
  | tup {a : Addr} {xs : List V} (h : SqT K H a xs) : Kn K H (.ref a)
  | dK {a : Addr} {kvs : List (Key × V)} (h : H a = some (.dK kvs)) : Kn K H (.ref a)
/-- an int, but no bool -/
def isI : V → Bool
  | .int _ => true
  | _ => false
def isIB : V → Bool
  | .int _ => true
  | .bl _ => true
  | _ => false
def isB : V → Bool
  | .bl _ => true
  | _ => false
theorem tyT {K : PySem.W.Frag} {H : Hp} {a : Addr} {xs : List V} (h : SqT K H a xs) : TyX K H (.ref a) (.type "tuple") := by
  rcases h with (h | ⟨o, h⟩) | ⟨o, its, n, h1, h2, _⟩
  · exact .base (.tup h)
  · exact .fTuple h
  · exact .kTuple h1 h2
theorem kq {K : PySem.W.Frag} {a b : String} (r : Bool) {r' : Bool} (h : kitB a b = some r) (e : r = r') : PySem.W.kitOne K (.type a) (.type b) = some r' := by
  rw [← e]
  exact kit_ty h
theorem Kn.int_of {K : PySem.W.Frag} {H : Hp} {v : V} (k : Kn K H v) : ∃ t, TyX K H v t ∧ PySem.W.kitOne K t (.type "int") = some (isIB v) ∧ PySem.W.kitOne K t (.type "bool") = some (isB v) := by
  cases k with
  | non => exact ⟨_, .base .non, kq false (by decide +kernel) rfl, kq false (by decide +kernel) rfl⟩
  | bl b => exact ⟨_, .base (.bl b), kq true (by decide +kernel) rfl, kq true (by decide +kernel) rfl⟩
  | int i => exact ⟨_, .base (.int i), kq true (by decide +kernel) rfl, kq false (by decide +kernel) rfl⟩
  | str x => exact ⟨_, .base (.str x), kq false (by decide +kernel) rfl, kq false (by decide +kernel) rfl⟩
  | lst h => exact ⟨_, .base (.lst h), kq false (by decide +kernel) rfl, kq false (by decide +kernel) rfl⟩
  | tup h => exact ⟨_, tyT h, kq false (by decide +kernel) rfl, kq false (by decide +kernel) rfl⟩
  | dK h => exact ⟨_, .base (.dK h), kq false (by decide +kernel) rfl, kq false (by decide +kernel) rfl⟩
/-- no tuple -/
inductive NoT (H : Hp) : V → Prop where
  | non : NoT H .non
  | bl (b : Bool) : NoT H (.bl b)
  | int (i : Int) : NoT H (.int i)
  | str (x : Str) : NoT H (.str x)
  | lst {a : Addr} {xs : List V} (h : H a = some (.lst xs)) : NoT H (.ref a)
  | dK {a : Addr} {kvs : List (Key × V)} (h : H a = some (.dK kvs)) : NoT H (.ref a)
theorem NoT.kn {K : PySem.W.Frag} {H : Hp} {v : V} (k : NoT H v) : Kn K H v := by
  cases k with
  | non => exact .non
  | bl b => exact .bl b
  | int i => exact .int i
  | str x => exact .str x
  | lst h => exact .lst h
  | dK h => exact .dK h
theorem NoT.ty {K : PySem.W.Frag} {H : Hp} {v : V} (k : NoT H v) : ∃ t, TyX K H v t ∧ PySem.W.kitOne K t (.type "tuple") = some false := by
  cases k with
  | non => exact ⟨_, .base .non, kit_ty (by decide +kernel)⟩
  | bl b => exact ⟨_, .base (.bl b), kit_ty (by decide +kernel)⟩
  | int i => exact ⟨_, .base (.int i), kit_ty (by decide +kernel)⟩
  | str x => exact ⟨_, .base (.str x), kit_ty (by decide +kernel)⟩
  | lst h => exact ⟨_, .base (.lst h), kit_ty (by decide +kernel)⟩
  | dK h => exact ⟨_, .base (.dK h), kit_ty (by decide +kernel)⟩
theorem kit_tt {K : PySem.W.Frag} : PySem.W.kitOne K (.type "tuple") (.type "tuple") = some true := kit_ty (by decide +kernel)

/-! ### data: tuples of ints, tuples of those -/
def dI (ns : List Int) : PyData := .tuple (ns.map .int)
theorem dpAllI {K : PySem.W.Frag} {H : Hp} : ∀ ns : List Int, DpAll K H (ns.map V.int) (ns.map PyData.int)
  | [] => .nil
  | i :: r => .cons (.int i) (dpAllI r)
theorem dpI {K : PySem.W.Frag} {H : Hp} {a : Addr} {ns : List Int} (h : SqT K H a (ns.map V.int)) : Dp K H (.ref a) (dI ns) := .tup h (dpAllI ns)
theorem layI : ∀ ns : List Int, PyData.canLayAll0 (ns.map PyData.int) = true
  | [] => rfl
  | i :: r => by
    show (PyData.canLay0 (.int i) && PyData.canLayAll0 (r.map PyData.int)) = true
    rw [layI r] <;> rfl
theorem depI : ∀ ns : List Int, PyData.depthAll (ns.map PyData.int) ≤ 1
  | [] => by decide
  | i :: r => by
    show max (PyData.depth (.int i)) (PyData.depthAll (r.map PyData.int)) ≤ 1
    have := depI r
    have e : PyData.depth (.int i) ≤ 1 := by
      show _ ≤ _
      simp [PyData.depth]
    omega
theorem shI (ns : List Int) : SeqAt.shaped (dI ns) = true := by
  have h2 : PyData.depth (dI ns) ≤ 64 := by
    show PyData.depthAll (ns.map PyData.int) + 1 ≤ 64
    have := depI ns
    omega
  show (PyData.canLayAll0 (ns.map PyData.int) && decide (PyData.depth (dI ns) ≤ 64)) = true
  rw [layI, decide_eq_true h2] <;> rfl
def dII (wss : List (List Int)) : PyData := .tuple (wss.map dI)
theorem layII : ∀ wss : List (List Int), PyData.canLayAll0 (wss.map dI) = true
  | [] => rfl
  | i :: r => by
    show (PyData.canLayAll0 (i.map PyData.int) && PyData.canLayAll0 (r.map dI)) = true
    rw [layII r, layI] <;> rfl
theorem depII : ∀ wss : List (List Int), PyData.depthAll (wss.map dI) ≤ 2
  | [] => by decide
  | i :: r => by
    show max (PyData.depthAll (i.map PyData.int) + 1) (PyData.depthAll (r.map dI)) ≤ 2
    have := depII r
    have := depI i
    omega
theorem shII (wss : List (List Int)) : SeqAt.shaped (dII wss) = true := by
  have h2 : PyData.depth (dII wss) ≤ 64 := by
    show PyData.depthAll (wss.map dI) + 1 ≤ 64
    have := depII wss
    omega
  show (PyData.canLayAll0 (wss.map dI) && decide (PyData.depth (dII wss) ≤ 64)) = true
  rw [layII, decide_eq_true h2] <;> rfl
theorem eqvr {d : PyData} (h : SeqAt.shaped d = true) : PyData.eqv d d = true := SeqAt.eqv_refl d (SeqAt.canLay_of_shaped h)
/-- addresses of tuples of ints -/
inductive Tups (K : PySem.W.Frag) (H : Hp) : List V → List (List Int) → Prop where
  | nil : Tups K H [] []
  | cons {a : Addr} {ns : List Int} {vs : List V} {wss : List (List Int)} (h : SqT K H a (ns.map V.int)) (t : Tups K H vs wss) : Tups K H (.ref a :: vs) (ns :: wss)
theorem Tups.len {K : PySem.W.Frag} {H : Hp} {vs : List V} {wss : List (List Int)} (t : Tups K H vs wss) : vs.length = wss.length := by
  induction t with
  | nil => rfl
  | cons h t ih => simp [ih]
theorem Tups.mono {K : PySem.W.Frag} {H H' : Hp} {d : Addr} (k : Kd d H H') {vs : List V} {wss : List (List Int)} (t : Tups K H vs wss) : Tups K H' vs wss := by
  induction t with
  | nil => exact .nil
  | cons h t ih => exact .cons (k.tup h) ih
theorem Tups.app {K : PySem.W.Frag} {H : Hp} {vs us : List V} {wss xss : List (List Int)} (t : Tups K H vs wss) (u : Tups K H us xss) : Tups K H (vs ++ us) (wss ++ xss) := by
  induction t with
  | nil => exact u
  | cons h t ih => exact .cons h ih
theorem Tups.dp {K : PySem.W.Frag} {H : Hp} {vs : List V} {wss : List (List Int)} (t : Tups K H vs wss) : DpAll K H vs (wss.map dI) := by
  induction t with
  | nil => exact .nil
  | cons h t ih => exact .cons (dpI h) ih
theorem Tups.get {K : PySem.W.Frag} {H : Hp} {vs : List V} {wss : List (List Int)} (t : Tups K H vs wss) : ∀ {i : Nat} {ns : List Int}, wss[i]? = some ns → ∃ a, vs[i]? = some (.ref a) ∧ SqT K H a (ns.map V.int) := by
  induction t with
  | nil => intro i ns h; simp at h
  | @cons a ms vs wss h t ih =>
    intro i ns e
    cases i with
    | zero =>
      rw [List.getElem?_cons_zero] at e
      cases e
      exact ⟨a, rfl, h⟩
    | succ i => exact ih (by rw [List.getElem?_cons_succ] at e; exact e)
theorem dpII {K : PySem.W.Frag} {H : Hp} {a : Addr} {vs : List V} {wss : List (List Int)} (h : SqT K H a vs) (t : Tups K H vs wss) : Dp K H (.ref a) (dII wss) := .tup h t.dp

/-! ### the dice -/
/-- the dice stand at d; at most n rolls were mixed so far -/
def Dice (H : Hp) (d : Addr) (n : Nat) : Prop := ∃ g s c : Int, H d = some (.lst [.int g, .int s, .int c]) ∧ 0 ≤ g ∧ g.natAbs < 2 ^ 1100 ∧ 0 ≤ s ∧ s.natAbs < 2 ^ 72 ∧ 0 ≤ c ∧ c ≤ n
theorem Dice.more {H : Hp} {d : Addr} {n m : Nat} (h : Dice H d n) (l : n ≤ m) : Dice H d m := by
  obtain ⟨g, s, c, h1, h2, h3, h4, h5, h6, h7⟩ := h
  exact ⟨g, s, c, h1, h2, h3, h4, h5, h6, by omega⟩
theorem Dice.same {H H' : Hp} {d : Addr} {n : Nat} (h : Dice H d n) (e : Same H H') : Dice H' d n := by
  obtain ⟨g, s, c, h1, h2⟩ := h
  exact ⟨g, s, c, e _ _ h1, h2⟩
theorem Dice.ne {H : Hp} {d a : Addr} {n : Nat} (h : Dice H d n) (e : H a = none) : a ≠ d := by
  obtain ⟨g, s, c, h1, _⟩ := h
  intro z
  rw [z, h1] at e
  cases e
end Br

namespace Br
open PySem PySem.Spec PyProof.Rows L2
/-! ### readings of what makes tuples, in one way -/
section
variable {K : PySem.W.Frag} {H : Hp} {a b : Addr} {xs ys : List V} {Q : VK}
theorem cat_ok (ha : SqT K H a xs) (hb : SqT K H b ys) (hl : xs.length + ys.length ≤ 1000000) (q : ∀ p H', Same H H' → SqT K H' p (xs ++ ys) → Q (.ref p) H') : rCatA K (.ref a) (.ref b) H Q :=
  ⟨a, b, xs, ys, rfl, rfl, ha, hb, sz hl, fun e => q b H (Same.refl H) (by rw [e]; exact hb), fun _ e => q a H (Same.refl H) (by rw [e, List.append_nil]; exact ha), fun _ _ p np => q p _ (same_new np) (sT upd_same)⟩
theorem sl_ok {lo hi : Option Int} (ha : SqT K H a xs) (q : ∀ p H', Same H H' → SqT K H' p (cutV xs lo hi) → Q (.ref p) H') : rSlA K (.ref a) lo hi H Q := by
  refine ⟨a, xs, rfl, ha, fun e => q a H (Same.refl H) ?_, fun _ p np => q p _ (same_new np) (sT upd_same)⟩
  have z : cutV xs lo hi = xs := by
    unfold cutV
    rw [e.1, e.2, List.drop_zero, Nat.sub_zero, List.take_length]
  rw [z]
  exact ha
end
end Br

namespace Br
open PySem PySem.Spec PyProof.Rows L2
/-! ### the rules with the written part named (within a comprehension it cannot be found) -/
section
variable {X : Cx} (K : PySem.W.Frag)
theorem op_catK (h : X.K = K) : OpR X (binaryOp .Add) (rCatA K) := by
  subst h
  exact op_catA
theorem op_repK (h : X.K = K) : OpR X (binaryOp .Mult) (rRepT K) := by
  subst h
  exact op_repT
theorem op_eqK (h : X.K = K) (hu : X.A.units + 64 < cLine) : OpR X (compareOp .Eq) (rEqD K) := by
  subst h
  exact op_eqD hu
theorem op_neK (h : X.K = K) (hu : X.A.units + 64 < cLine) : OpR X (compareOp .NotEq) (rNeD K) := by
  subst h
  exact op_neD hu
theorem op_inK (h : X.K = K) : OpR X (compareOp .In) (rIn K false) := by
  subst h
  exact op_in_seq
theorem op_ninK (h : X.K = K) : OpR X (compareOp .NotIn) (rIn K true) := by
  subst h
  exact op_notIn_seq
theorem ix_lK (h : X.K = K) : IxR X (rIxL K) := by
  subst h
  exact ix_list
theorem ix_tK (h : X.K = K) : IxR X (rIxT K) := by
  subst h
  exact ix_tup
theorem sl_lK (h : X.K = K) : SlR X (rSlL K) := by
  subst h
  exact sl_list
theorem sl_tK (h : X.K = K) : SlR X (rSlA K) := by
  subst h
  exact sl_tupA
def rLenK (K : PySem.W.Frag) : List V → Hp → VK → Prop := fun xs H Q => ∃ p ys, xs = [.ref p] ∧ (SqL K H p ys ∨ SqT K H p ys) ∧ Q (.int ys.length) H
theorem call_lenK (h : X.K = K) : CallR X (.builtin "len") (rLenK K) := by
  subst h
  exact call_len_seq
def rTupK (K : PySem.W.Frag) : List V → Hp → VK → Prop := fun xs H Q => ∃ p ys, xs = [.ref p] ∧ ((SqL K H p ys ∧ ∀ l, H l = none → Q (.ref l) (upd H l (.tup ys))) ∨ (SqT K H p ys ∧ Q (.ref p) H))
theorem call_tupK (h : X.K = K) : CallR X (.type "tuple") (rTupK K) := by
  subst h
  exact call_tuple_of
def rLstK (K : PySem.W.Frag) : List V → Hp → VK → Prop := fun xs H Q => ∃ p ys, xs = [.ref p] ∧ (SqL K H p ys ∨ SqT K H p ys) ∧ ∀ l, H l = none → Q (.ref l) (upd H l (.lst ys))
theorem call_lstK (h : X.K = K) : CallR X (.type "list") (rLstK K) := by
  subst h
  exact call_list_of
theorem call_isK (h : X.K = K) : CallR X (.builtin "isinstance") (rIsi K) := by
  subst h
  exact call_isi
theorem cr_allK (h : X.K = K) (hc : X.calm = true) : CallR X (.builtin "all") (rAll K) := by
  subst h
  exact cr_all hc
theorem cr_anyK (h : X.K = K) (hc : X.calm = true) : CallR X (.builtin "any") (rAny K) := by
  subst h
  exact cr_any hc
theorem cr_sumK (h : X.K = K) (hc : X.calm = true) : CallR X (.builtin "sum") (rSum K) := by
  subst h
  exact cr_sum hc
theorem pi_lK {tg l : Expr} {tl : TE} (h : X.K = K) (hl : PE X l tl) : PI X tg l (iList K tl) := by
  subst h
  exact pi_list hl
theorem pi_tK {tg l : Expr} {tl : TE} (h : X.K = K) (hl : PE X l tl) : PI X tg l (iTup K tl) := by
  subst h
  exact pi_tup hl
theorem pe_revTK {e : Expr} {te : TE} {k : Nat} {p1 p2 p3 pos : Pos} (h : X.K = K) (he : PE X e te) : PE X (.Subscript e (.Slice none none (some (.UnaryOp .USub (.Constant (.int 1) k p1) p2)) p3) pos) (tRevT K te) := by
  subst h
  exact pe_revT he
theorem pe_revLK {e : Expr} {te : TE} {k : Nat} {p1 p2 p3 pos : Pos} (h : X.K = K) (he : PE X e te) : PE X (.Subscript e (.Slice none none (some (.UnaryOp .USub (.Constant (.int 1) k p1) p2)) p3) pos) (tRevL K te) := by
  subst h
  exact pe_revL he
end
end Br

namespace Br
open PySem PySem.Spec PyProof.Rows L2
/-! ### for the end: how arguments bind -/
section
variable {K : PySem.W.Frag} {x : Str} {st : Stmt} {f : Addr} {oc : Value} {od an : Option Addr} {osl : Array (Option Value)} {kV doc pm cdv ct : Value} {ps : List Str}
theorem bind_all {dV : Value} (_ : K.lookup f = some ⟨oc, od, .func (PySem.W.fnOf x x (defArgs st) (defBody st) (defScope st) dV kV doc pm an cdv ct), osl⟩)
    (h : ∀ us : List Value, us.length = ps.length → bindArgs (PySem.W.fnOf x x (defArgs st) (defBody st) (defScope st) dV kV doc pm an cdv ct) ⟨us, []⟩ = pure (ps.zip us)) : Binds K (PySem.W.fnOf x x (defArgs st) (defBody st) (defScope st) dV kV doc pm an cdv ct) ps [] := .all h
theorem fund_mk {dvs : List V} {its : List Value} {T : Addr} {tc : Value} {td : Option Addr} {tn : Nat} {tsl : Array (Option Value)} (l : K.lookup f = some ⟨oc, od, .func (PySem.W.fnOf x x (defArgs st) (defBody st) (defScope st) (.ref T) kV doc pm an cdv ct), osl⟩)
    (c : PySem.W.codeIn K cdv x = true) (k : PySem.W.keepIn K (.ref f) = true) (t : K.lookup T = some ⟨tc, td, .seq its.toArray tn, tsl⟩) (r : Vals dvs its) (hn : dvs ≠ [] := by decide) :
    FunD K x x (defArgs st) (defBody st) (defScope st) dvs [] f (PySem.W.fnOf x x (defArgs st) (defBody st) (defScope st) (.ref T) kV doc pm an cdv ct) :=
  ⟨⟨oc, od, _, kV, doc, pm, an, cdv, ct, osl, rfl, l, c, .inr ⟨hn, T, _, its, tn, rfl, t, rfl, r⟩, .inl rfl⟩, k⟩
end
end Br

namespace Br
open PySem PySem.Spec PyProof.Rows L2
/-! ### tuple * int, once or more -/
theorem tuple_mul1 (l : Addr) (items : Array Value) (n : Nat) (dd : Option Addr) (sl : Array (Option Value)) (u : Tok) :
    Meets (Builtin.«tuple.__mul__» ⟨[.ref l, .int 1 u], []⟩) (fun _ R s => s.heap.get? l = some { cls := .type "tuple", dict := dd, data := .seq items n, slots := sl } ∧ R (.ok (.ret (Value.ref l))) s) :=
  .of_wp fun prog w A R s h => by
    obtain ⟨hp, g, d, tk, os⟩ := s
    obtain ⟨hl, h⟩ := h
    have f1 := AutoSeq1.idx_int
    have c1 : (items.isEmpty || (1 : Int) == 1) = true := by simp
    wp_walk using wpAny_loadPart' hl
    all_goals first | exact ⟨_, rfl, h⟩ | skip
end Br

namespace Br
open PySem PySem.Spec PyProof.Rows L2
def rRepA (K : PySem.W.Frag) : R2 := fun x y H Q => ∃ l k xs, x = .ref l ∧ y = .int k ∧ SqT K H l xs ∧ xs ≠ [] ∧ 1 ≤ k ∧ k ≤ 1000 ∧ xs.length ≤ 1000 ∧
  (k = 1 → Q (.ref l) H) ∧ (2 ≤ k → ∀ p, H p = none → Q (.ref p) (upd H p (.tup (List.replicate k.toNat xs).flatten)))
section
variable {X : Cx}
theorem op_repA0 : OpR X (binaryOp .Mult) (rRepA X.K) := by
  intro pins s σ H x y v u Q I rx ry h
  obtain ⟨l, k, xs, ex, ey, hT, hne, h1, h2, hz, q1, q2⟩ := h
  by_cases hk : 2 ≤ k
  · exact op_repT pins s σ H x y v u Q I rx ry ⟨l, k, xs, ex, ey, hT, hne, hk, h2, hz, q2 hk⟩
  · obtain rfl : k = 1 := by omega
    subst ex ey
    cases rx
    obtain ⟨t, rfl⟩ := ry
    obtain ⟨its, r, ⟨⟨cls, dd, data, sl⟩, ho, hc, n, hd⟩, hs⟩ := I.tuple hT
    simp only at hc hd
    subst hc hd
    exact wpAny_binaryOp_repeat_ref (T := "tuple") (U := "int") (by decide) ⟨_, ho, rfl⟩ (fun s' => typeIs_int s' 1 t) noFill_tuple_mul F.fills_int_mul F.slot_int_rmul repeat_tuple F.slot_int_index.lookup
      (call_meets F.slot_int_rmul (typeIs_int s 1 t) F.entry_int_rmul (F.args_int_rmul_2 _ _) (int_rmul_tuple 1 t l its.toArray n dd sl)
        ⟨ho, rfl, ⟨_, ho, rfl⟩, call_meets F.slot_tuple_mul ⟨_, ho, rfl⟩ F.entry_tuple_mul (F.args_tuple_mul_2 _ _) (tuple_mul1 l its.toArray n dd sl t) ⟨ho, ⟨.ref l, H, I, rfl, q1 rfl⟩⟩⟩)
theorem op_repA (K : PySem.W.Frag) (h : X.K = K) : OpR X (binaryOp .Mult) (rRepA K) := by
  subst h
  exact op_repA0
end
theorem rep_ok {K : PySem.W.Frag} {H : Hp} {a : Addr} {xs : List V} {k : Int} {Q : VK} (ha : SqT K H a xs) (hne : xs ≠ []) (h1 : 1 ≤ k) (h2 : k ≤ 1000) (hl : xs.length ≤ 1000) (q : ∀ p H', Same H H' → SqT K H' p (List.replicate k.toNat xs).flatten → Q (.ref p) H') :
    rRepA K (.ref a) (.int k) H Q :=
  ⟨a, k, xs, rfl, rfl, ha, hne, h1, h2, hl, fun e => q a H (Same.refl H) (by
    subst e
    show SqT K H a (List.replicate 1 xs).flatten
    rw [List.replicate_one, List.flatten_singleton]
    exact ha), fun _ p np => q p _ (same_new np) (sT upd_same)⟩
end Br

namespace Br
open PySem PySem.Spec PyProof.Rows L2
theorem sl_okF {K : PySem.W.Frag} {H : Hp} {a : Addr} {xs : List V} {Q : VK} {lo : Option Int} {σ : L2.St} (ha : SqT K H a xs) (q : ∀ p H', Same H H' → SqT K H' p (cutV xs lo none) → Q (.ref p) H') : tNoPart σ H fun u H3 => rSlA K (.ref a) lo u H3 Q := sl_ok ha q
end Br

namespace Br
open PySem PySem.Spec PyProof.Rows L2
theorem same_at {H H' : Hp} {a : Addr} {o : HO} (s : Same H H') (h : H a = some o) : H' a = some o := s _ _ h
/-! ### readings that hand on a new heap by a letter, with what stands there -/
section
variable {X : Cx}
theorem pe_imp {e : Expr} {t t' : TE} (h : PE X e t) (m : ∀ σ H Q, t' σ H Q → t σ H Q) : PE X e t' := ⟨fun pins s σ H Q I k => h.run pins s σ H Q I (m σ H Q k)⟩
theorem pa_wide {es : List Expr} {ta : TA} (ha : PA X es ta) : PA X es (fun σ H k => ∃ k', (∀ xs H1, k' xs H1 → k xs H1) ∧ ta σ H k') := ⟨fun pos pins s σ H Q I h => by
  obtain ⟨k', m, h⟩ := h
  exact thn (ha.run pos pins s σ H k' I h) fun us s1 ⟨vs, H1, I1, r, q⟩ => ⟨vs, H1, I1, r, m _ _ q⟩⟩
theorem pe_wide {e : Expr} {te : TE} (he : PE X e te) : PE X e (fun σ H k => ∃ k', (∀ x H1, k' x H1 → k x H1) ∧ te σ H k') := ⟨fun pins s σ H Q I h => by
  obtain ⟨k', m, h⟩ := h
  exact thn (he.run pins s σ H k' I h) fun us s1 ⟨vs, H1, I1, r, q⟩ => ⟨vs, H1, I1, r, m _ _ q⟩⟩
/-- a new object o somewhere -/
def New (o : HO) (H : Hp) (Q : VK) : Prop := ∀ p H', H p = none → Same H H' → H' p = some o → Q (.ref p) H'
theorem New.old {o : HO} {H : Hp} {Q : VK} (h : New o H Q) : ∀ p, H p = none → Q (.ref p) (upd H p o) := fun p n => h p _ n (same_new n) upd_same
def tTupS (ta : TA) : TE := fun σ H Q => ta σ H fun xs H1 => xs.length ≤ 1000000 ∧ New (.tup xs) H1 Q
def tLstS (ta : TA) : TE := fun σ H Q => ta σ H fun xs H1 => xs.length ≤ 1000000 ∧ New (.lst xs) H1 Q
variable {es : List Expr} {ta : TA} {x1 : Nat} {pos : Pos} {e : Expr} {te : TE}
theorem pe_tupS (ha : PA X es ta) : PE X (.Tuple es x1 pos) (tTupS ta) := pe_imp (pe_tup (pa_wide ha)) fun σ H Q h => ⟨_, fun xs H1 k => ⟨sz k.1, k.2.old⟩, h⟩
theorem pe_lstS (ha : PA X es ta) : PE X (.List es pos) (tLstS ta) := pe_imp (pe_lst (pa_wide ha)) fun σ H Q h => ⟨_, fun xs H1 k => ⟨sz k.1, k.2.old⟩, h⟩
theorem pe_dnewS : PE X (.Dict [] [] pos) (fun _ H Q => New (.dK []) H Q) := pe_imp pe_dnewK fun σ H Q h => h.old
theorem pe_dnewTS : PE X (.Dict [] [] pos) (fun _ H Q => New (.dT []) H Q) := pe_imp pe_dnewT fun σ H Q h => h.old
def tRevTS (K : PySem.W.Frag) (te : TE) : TE := fun σ H Q => te σ H fun x H1 => ∃ a xs, x = .ref a ∧ SqT K H1 a xs ∧ New (.tup xs.reverse) H1 Q
theorem pe_revTS {k : Nat} {p1 p2 p3 : Pos} (K : PySem.W.Frag) (h : X.K = K) (he : PE X e te) : PE X (.Subscript e (.Slice none none (some (.UnaryOp .USub (.Constant (.int 1) k p1) p2)) p3) pos) (tRevTS K te) := by
  subst h
  exact pe_imp (pe_revT (pe_wide he)) fun σ H Q h => ⟨_, fun x H1 ⟨a, xs, e, h, k⟩ => ⟨a, xs, e, h, k.old⟩, h⟩
def tRevLS (K : PySem.W.Frag) (te : TE) : TE := fun σ H Q => te σ H fun x H1 => ∃ a xs, x = .ref a ∧ SqL K H1 a xs ∧ New (.lst xs.reverse) H1 Q
theorem pe_revLS {k : Nat} {p1 p2 p3 : Pos} (K : PySem.W.Frag) (h : X.K = K) (he : PE X e te) : PE X (.Subscript e (.Slice none none (some (.UnaryOp .USub (.Constant (.int 1) k p1) p2)) p3) pos) (tRevLS K te) := by
  subst h
  exact pe_imp (pe_revL (pe_wide he)) fun σ H Q h => ⟨_, fun x H1 ⟨a, xs, e, h, k⟩ => ⟨a, xs, e, h, k.old⟩, h⟩
theorem CallR.imp {f : Value} {r r' : List V → Hp → VK → Prop} (h : CallR X f r) (m : ∀ xs H Q, r' xs H Q → r xs H Q) : CallR X f r' := fun pins s σ H xs us Q I rv k => h pins s σ H xs us Q I rv (m _ _ _ k)
def rTupS (K : PySem.W.Frag) : List V → Hp → VK → Prop := fun xs H Q => ∃ p ys, xs = [.ref p] ∧ ((SqL K H p ys ∧ New (.tup ys) H Q) ∨ (SqT K H p ys ∧ Q (.ref p) H))
theorem call_tupS (K : PySem.W.Frag) (h : X.K = K) : CallR X (.type "tuple") (rTupS K) := CallR.imp (call_tupK K h) fun xs H Q ⟨p, ys, e, k⟩ => ⟨p, ys, e, k.imp (fun z => ⟨z.1, z.2.old⟩) id⟩
def rLstS (K : PySem.W.Frag) : List V → Hp → VK → Prop := fun xs H Q => ∃ p ys, xs = [.ref p] ∧ (SqL K H p ys ∨ SqT K H p ys) ∧ New (.lst ys) H Q
theorem call_lstS (K : PySem.W.Frag) (h : X.K = K) : CallR X (.type "list") (rLstS K) := CallR.imp (call_lstK K h) fun xs H Q ⟨p, ys, e, k, n⟩ => ⟨p, ys, e, k, n.old⟩
theorem OpR.imp {f : Value → Value → Sem Value} {r r' : R2} (h : OpR X f r) (m : ∀ x y H Q, r' x y H Q → r x y H Q) : OpR X f r' := fun pins s σ H x y v u Q I rx ry k => h pins s σ H x y v u Q I rx ry (m _ _ _ _ k)
def rCatS : R2 := fun x y H Q => ∃ l b xs zs, x = .ref l ∧ y = .ref b ∧ H l = some (.lst xs) ∧ H b = some (.lst zs) ∧ xs.length + zs.length ≤ 1000000 ∧ New (.lst (xs ++ zs)) H Q
theorem op_catS : OpR X (binaryOp .Add) rCatS := OpR.imp op_cat fun x y H Q ⟨l, b, xs, zs, e1, e2, h1, h2, hl, n⟩ => ⟨l, b, xs, zs, e1, e2, h1, h2, sz hl, n.old⟩
def rCatTS (K : PySem.W.Frag) : R2 := fun x y H Q => ∃ a b xs ys, x = .ref a ∧ y = .ref b ∧ SqT K H a xs ∧ SqT K H b ys ∧ xs.length + ys.length ≤ 1000000 ∧ ∀ p H', Same H H' → SqT K H' p (xs ++ ys) → Q (.ref p) H'
theorem op_catTS (K : PySem.W.Frag) (h : X.K = K) : OpR X (binaryOp .Add) (rCatTS K) := OpR.imp (op_catK K h) fun x y H Q ⟨a, b, xs, ys, e1, e2, h1, h2, hl, n⟩ => by
  subst e1 e2
  exact cat_ok h1 h2 hl n
def rRepTS (K : PySem.W.Frag) : R2 := fun x y H Q => ∃ a k xs, x = .ref a ∧ y = .int k ∧ SqT K H a xs ∧ xs ≠ [] ∧ 1 ≤ k ∧ k ≤ 1000 ∧ xs.length ≤ 1000 ∧ ∀ p H', Same H H' → SqT K H' p (List.replicate k.toNat xs).flatten → Q (.ref p) H'
theorem op_repTS (K : PySem.W.Frag) (h : X.K = K) : OpR X (binaryOp .Mult) (rRepTS K) := OpR.imp (op_repA K h) fun x y H Q ⟨a, k, xs, e1, e2, h1, h2, h3, h4, h5, n⟩ => by
  subst e1 e2
  exact rep_ok h1 h2 h3 h4 h5 n
theorem SlR.imp {r r' : V → Option Int → Option Int → Hp → VK → Prop} (h : SlR X r) (m : ∀ x lo hi H Q, r' x lo hi H Q → r x lo hi H Q) : SlR X r' := fun pins s σ H x v vl vu lo hi sl Q I rx hs pl pu k => h pins s σ H x v vl vu lo hi sl Q I rx hs pl pu (m _ _ _ _ _ k)
def rSlTS (K : PySem.W.Frag) : V → Option Int → Option Int → Hp → VK → Prop := fun x lo hi H Q => ∃ a xs, x = .ref a ∧ SqT K H a xs ∧ ∀ p H', Same H H' → SqT K H' p (cutV xs lo hi) → Q (.ref p) H'
theorem sl_tS (K : PySem.W.Frag) (h : X.K = K) : SlR X (rSlTS K) := SlR.imp (sl_tK K h) fun x lo hi H Q ⟨a, xs, e, h, n⟩ => by
  subst e
  exact sl_ok h n
def rSlLS (K : PySem.W.Frag) : V → Option Int → Option Int → Hp → VK → Prop := fun x lo hi H Q => ∃ a xs, x = .ref a ∧ SqL K H a xs ∧ New (.lst (cutV xs lo hi)) H Q
theorem sl_lS (K : PySem.W.Frag) (h : X.K = K) : SlR X (rSlLS K) := SlR.imp (sl_lK K h) fun x lo hi H Q ⟨a, xs, e, h, n⟩ => ⟨a, xs, e, h, n.old⟩
end
end Br

/-! The plain law of words: places, low digits, all words of a length. -/
namespace Br
/-- the letters are of the width -/
def inW (k : Int) (ns : List Int) : Prop := ∀ x ∈ ns, 0 ≤ x ∧ x < k
/-- the index of a word -/
def place (k : Int) (ns : List Int) : Int := ns.foldl (fun f x => f * k + x) 0
/-- the low digits -/
def lows (k : Int) : Nat → Int → List Int
  | 0, _ => []
  | n + 1, p => p % k :: lows k n (p / k)
theorem place_app (k : Int) (ns : List Int) (x : Int) : place k (ns ++ [x]) = place k ns * k + x := by
  unfold place
  rw [List.foldl_append] <;> rfl
theorem inW_app {k : Int} {ns : List Int} {x : Int} (h : inW k (ns ++ [x])) : inW k ns ∧ 0 ≤ x ∧ x < k :=
  ⟨fun y hy => h y (List.mem_append_left _ hy), h x (List.mem_append_right _ List.mem_cons_self)⟩
theorem rev_ind {α : Type} {P : List α → Prop} (h0 : P []) (h1 : ∀ l x, P l → P (l ++ [x])) (l : List α) : P l := by
  rw [← List.reverse_reverse l]
  induction l.reverse with
  | nil => exact h0
  | cons x r ih =>
    rw [List.reverse_cons]
    exact h1 _ _ ih
theorem ipow_pos {k : Int} (h : 0 < k) (n : Nat) : 0 < k ^ n := by
  induction n with
  | zero =>
    rw [Int.pow_zero]
    decide
  | succ n ih =>
    rw [Int.pow_succ]
    exact Int.mul_pos ih h
theorem place_lt {k : Int} (hk : 0 < k) (ns : List Int) : inW k ns → 0 ≤ place k ns ∧ place k ns < k ^ ns.length := by
  refine rev_ind (P := fun ns => inW k ns → 0 ≤ place k ns ∧ place k ns < k ^ ns.length) (fun _ => ⟨Int.le_refl 0, by rw [List.length_nil, Int.pow_zero]; show (0 : Int) < 1; decide⟩) (fun l x ih h => ?_) ns
  obtain ⟨h1, h2, h3⟩ := inW_app h
  obtain ⟨a, b⟩ := ih h1
  rw [place_app, List.length_append, List.length_singleton, Int.pow_succ]
  have m : 0 ≤ place k l * k := Int.mul_nonneg a (Int.le_of_lt hk)
  have m2 : (place k l + 1) * k ≤ k ^ l.length * k := Int.mul_le_mul_of_nonneg_right (by omega) (Int.le_of_lt hk)
  rw [Int.add_mul, Int.one_mul] at m2
  omega
theorem lows_len (k : Int) : ∀ n p, (lows k n p).length = n
  | 0, _ => rfl
  | n + 1, p => congrArg (· + 1) (lows_len k n (p / k))
theorem lows_more (k : Int) (hk : 0 < k) : ∀ (n : Nat) (p : Int), lows k (n + 1) p = lows k n p ++ [p / k ^ n % k]
  | 0, p => by
    show [p % k] = [p / k ^ 0 % k]
    rw [Int.pow_zero, Int.ediv_one]
  | n + 1, p => by
    have ih := lows_more k hk n (p / k)
    show p % k :: lows k (n + 1) (p / k) = p % k :: (lows k n (p / k) ++ [p / k ^ (n + 1) % k])
    rw [ih, Int.pow_succ, Int.mul_comm (k ^ n) k, Int.ediv_ediv_of_nonneg (Int.le_of_lt hk)]
theorem lows_in {k : Int} (hk : 0 < k) : ∀ (n : Nat) (p : Int), inW k (lows k n p)
  | 0, _ => fun _ h => nomatch h
  | n + 1, p => fun x h => by
    rcases List.mem_cons.mp h with rfl | h
    · exact ⟨Int.emod_nonneg _ (by omega), Int.emod_lt_of_pos _ hk⟩
    · exact lows_in hk n _ x h
theorem inW_rev {k : Int} {ns : List Int} (h : inW k ns) : inW k ns.reverse := fun x hx => h x (List.mem_reverse.mp hx)
/-- the letters of the word of an index -/
theorem lows_place {k : Int} (hk : 0 < k) (ns : List Int) : inW k ns → lows k ns.length (place k ns) = ns.reverse := by
  refine rev_ind (P := fun ns => inW k ns → lows k ns.length (place k ns) = ns.reverse) (fun _ => rfl) (fun l x ih h => ?_) ns
  obtain ⟨h1, h2, h3⟩ := inW_app h
  rw [place_app, List.length_append, List.length_singleton, List.reverse_append]
  show (place k l * k + x) % k :: lows k l.length ((place k l * k + x) / k) = x :: l.reverse
  rw [Int.add_comm, Int.add_mul_emod_self_right, Int.emod_eq_of_lt h2 h3, Int.add_mul_ediv_right _ _ (by omega), Int.ediv_eq_zero_of_lt h2 h3, Int.zero_add, ih h1]
theorem place_lows {k : Int} (hk : 0 < k) : ∀ (n : Nat) (p : Int), 0 ≤ p → place k (lows k n p).reverse = p % k ^ n
  | 0, p, _ => by
    rw [Int.pow_zero, Int.emod_one] <;> rfl
  | n + 1, p, h => by
    have ih := place_lows hk n (p / k) (Int.ediv_nonneg h (Int.le_of_lt hk))
    show place k (p % k :: lows k n (p / k)).reverse = _
    rw [List.reverse_cons, place_app, ih]
    have e1 : p % k ^ (n + 1) = p - k ^ (n + 1) * (p / k ^ (n + 1)) := Int.emod_def _ _
    have e2 : p / k % k ^ n = p / k - k ^ n * (p / k / k ^ n) := Int.emod_def _ _
    have e3 : p % k = p - k * (p / k) := Int.emod_def _ _
    have e4 : p / k / k ^ n = p / k ^ (n + 1) := by rw [Int.ediv_ediv_of_nonneg (Int.le_of_lt hk), Int.pow_succ, Int.mul_comm]
    rw [e1, e2, e3, e4, Int.sub_mul, Int.pow_succ]
    have e5 : k ^ n * (p / (k ^ n * k)) * k = k ^ n * k * (p / (k ^ n * k)) := by rw [Int.mul_assoc, Int.mul_comm (p / (k ^ n * k)) k, ← Int.mul_assoc]
    rw [e5, Int.mul_comm (p / k) k]
    omega
/-- all words of a length, as the index tells them -/
def wordsI (k : Int) (n : Nat) : List (List Int) := (List.range (k ^ n).toNat).map fun p => (lows k n (p : Nat)).reverse
/-- .. as they grow -/
def wordsG (k : Nat) : Nat → List (List Int)
  | 0 => [[]]
  | n + 1 => (wordsG k n).flatMap fun w => (List.range k).map fun r => w ++ [((r : Nat) : Int)]
theorem range_mul (a k : Nat) : List.range (a * k) = (List.range a).flatMap fun q => (List.range k).map fun r => q * k + r := by
  induction a with
  | zero => simp
  | succ a ih =>
    rw [List.range_succ, List.flatMap_append, ← ih, Nat.succ_mul, List.range_add]
    simp
theorem words_eq (k : Nat) (hk : 0 < k) : ∀ n : Nat, wordsG k n = wordsI k n
  | 0 => by
    unfold wordsI
    rw [Int.pow_zero] <;> rfl
  | n + 1 => by
    have ih := words_eq k hk n
    unfold wordsI
    have e : ((k : Int) ^ (n + 1)).toNat = ((k : Int) ^ n).toNat * k := by
      rw [Int.pow_succ, Int.toNat_mul (Int.le_of_lt (ipow_pos (by omega) n)) (by omega)] <;> rfl
    rw [e, range_mul, List.map_flatMap]
    show (wordsG k n).flatMap _ = _
    rw [ih]
    unfold wordsI
    rw [List.flatMap_map]
    rw [List.flatMap_def, List.flatMap_def]
    refine congrArg List.flatten (List.map_congr_left fun q _ => ?_)
    rw [List.map_map]
    refine List.map_congr_left fun r hr => ?_
    have hr' : r < k := List.mem_range.mp hr
    show (lows k n (q : Nat)).reverse ++ [((r : Nat) : Int)] = (lows k (n + 1) ((q * k + r : Nat) : Int)).reverse
    have e1 : ((q * k + r : Nat) : Int) % (k : Int) = (r : Int) := by
      rw [Int.natCast_add, Int.natCast_mul, Int.add_comm, Int.add_mul_emod_self_right]
      exact Int.emod_eq_of_lt (by omega) (by omega)
    have e2 : ((q * k + r : Nat) : Int) / (k : Int) = (q : Int) := by
      rw [Int.natCast_add, Int.natCast_mul, Int.add_comm, Int.add_mul_ediv_right _ _ (by omega), Int.ediv_eq_zero_of_lt (by omega) (by omega), Int.zero_add]
    show _ = (((q * k + r : Nat) : Int) % (k : Int) :: lows k n (((q * k + r : Nat) : Int) / (k : Int))).reverse
    rw [e1, e2, List.reverse_cons]
end Br

/-! Words: what their defs promise, and lemmas; the dice of the laws. No text of a law here. -/
namespace Br
open PySem PySem.Spec PyProof.Rows L2
section
variable {K : PySem.W.Frag}
/-! ### power_of -/
def sp_power_of : Sp := fun vs H Q _ => ∃ (b : Int) (n : Nat), vs = [.int b, .int n] ∧ b.natAbs < 2 ^ 8 ∧ n ≤ 1000 ∧ Q (.int (b ^ n)) H
theorem pow_lt {b : Int} (h : b.natAbs < 2 ^ 8) : ∀ i : Nat, (b ^ i).natAbs < 2 ^ (8 * i + 1)
  | 0 => by
    rw [Int.pow_zero]
    decide
  | i + 1 => by
    rw [Int.pow_succ]
    have := wide_lt (pow_lt h i) h
    have e : 8 * i + 1 + 8 = 8 * (i + 1) + 1 := by omega
    rw [e] at this
    exact this
/-! ### ints within bounds -/
def sp_is_integer (K : PySem.W.Frag) : Sp := fun vs H Q _ => ∃ v, vs = [v] ∧ Kn K H v ∧ Q (.bl (isI v)) H
/-- an int within two bounds -/
def wn (lo hi : Int) : V → Bool
  | .int i => decide (lo ≤ i) && decide (i ≤ hi)
  | _ => false
def sp_is_within (K : PySem.W.Frag) : Sp := fun vs H Q _ => ∃ v lo hi, vs = [v, .int lo, .int hi] ∧ Kn K H v ∧ Q (.bl (wn lo hi v)) H
def sp_require_within (K : PySem.W.Frag) : Sp := fun vs H Q _ => ∃ v lo hi, vs = [v, .int lo, .int hi] ∧ wn lo hi v = true ∧ Q .non H
theorem wn_int {lo hi : Int} {v : V} (h : wn lo hi v = true) : ∃ i, v = .int i ∧ lo ≤ i ∧ i ≤ hi := by
  cases v with
  | int i =>
    have h' : (decide (lo ≤ i) && decide (i ≤ hi)) = true := h
    rw [Bool.and_eq_true, decide_eq_true_eq, decide_eq_true_eq] at h'
    exact ⟨i, rfl, h'⟩
  | _ => cases h
theorem wn_kn {lo hi : Int} {v : V} {H : Hp} (h : wn lo hi v = true) : Kn K H v := by
  obtain ⟨i, rfl, _⟩ := wn_int h
  exact .int i
theorem wn_of {lo hi i : Int} (h1 : lo ≤ i) (h2 : i ≤ hi) : wn lo hi (.int i) = true := by
  show (decide (lo ≤ i) && decide (i ≤ hi)) = true
  rw [decide_eq_true h1, decide_eq_true h2] <;> rfl
def sp_is_width (K : PySem.W.Frag) : Sp := fun vs H Q _ => ∃ v, vs = [v] ∧ Kn K H v ∧ Q (.bl (wn 2 5 v)) H
def sp_require_width (K : PySem.W.Frag) : Sp := fun vs H Q _ => ∃ k : Int, vs = [.int k] ∧ 2 ≤ k ∧ k ≤ 5 ∧ Q .non H
def sp_is_letter (K : PySem.W.Frag) : Sp := fun vs H Q _ => ∃ (k : Int) (v : V), vs = [.int k, v] ∧ Kn K H v ∧ Q (.bl (wn 0 (k - 1) v)) H
/-! ### words -/
theorem Kn.same {H H' : Hp} {v : V} (e : Same H H') (k : Kn K H v) : Kn K H' v := by
  cases k with
  | non => exact .non
  | bl b => exact .bl b
  | int i => exact .int i
  | str x => exact .str x
  | lst h => exact .lst (e _ _ h)
  | tup h => exact .tup (same_tup e h)
  | dK h => exact .dK (e _ _ h)
def mostOk : V → Nat → Bool
  | .int m, n => !decide (m < (n : Int))
  | _, _ => true
theorem take_map {α β : Type} {f : α → β} {l : List α} {i : Nat} {x : α} (h : l[i]? = some x) : (l.take (i + 1)).map f = (l.take i).map f ++ [f x] := by
  rw [List.take_add_one, h, List.map_append] <;> rfl
def sp_is_word_in (K : PySem.W.Frag) : Sp := fun vs H Q _ => ∃ (k : Int) (v m : V), vs = [.int k, v, m] ∧ (m = .non ∨ ∃ i, m = .int i) ∧
  ((NoT H v ∧ Q (.bl false) H) ∨ ∃ (a : Addr) (xs : List V), v = .ref a ∧ SqT K H a xs ∧ xs.length < 1000000 ∧ (∀ x ∈ xs, Kn K H x) ∧ ∀ H', Same H H' → Q (.bl (mostOk m xs.length && xs.all (wn 0 (k - 1)))) H')
theorem iT {H : Hp} {K : PySem.W.Frag} {a : Addr} {xs : List V} (h : SqT K H a xs) : SqT K H a xs := h
theorem inW_wn {k : Int} {ns : List Int} (h : inW k ns) : (ns.map V.int).all (wn 0 (k - 1)) = true := by
  rw [List.all_eq_true]
  intro x hx
  obtain ⟨i, hi, rfl⟩ := List.mem_map.mp hx
  obtain ⟨h1, h2⟩ := h i hi
  exact wn_of h1 (by omega)
theorem ints_kn {K : PySem.W.Frag} {H : Hp} {ns : List Int} : ∀ x ∈ ns.map V.int, Kn K H x := fun x hx => by
  obtain ⟨i, _, rfl⟩ := List.mem_map.mp hx
  exact .int i
def sp_require_word (K : PySem.W.Frag) : Sp := fun vs H Q _ => ∃ (k : Int) (a : Addr) (ns : List Int), vs = [.int k, .ref a] ∧ SqT K H a (ns.map V.int) ∧ inW k ns ∧ ns.length ≤ 200 ∧ ∀ H', Same H H' → Q .non H'
/-! ### places and words -/
theorem abs_le {i j : Int} {n : Nat} (h0 : 0 ≤ i) (h : i ≤ j) (hj : j.natAbs < 2 ^ n) : i.natAbs < 2 ^ n := Nat.lt_of_le_of_lt (by omega) hj
theorem k8 {k : Int} (h1 : 2 ≤ k) (h2 : k ≤ 5) : k.natAbs < 2 ^ 8 := by omega
theorem inW_take {k : Int} {ns : List Int} (h : inW k ns) (i : Nat) : inW k (ns.take i) := fun x hx => h x (List.mem_of_mem_take hx)
theorem place_abs {k : Int} (h1 : 2 ≤ k) (h2 : k ≤ 5) {ns : List Int} (h : inW k ns) : (place k ns).natAbs < 2 ^ (8 * ns.length + 1) := by
  obtain ⟨a, b⟩ := place_lt (by omega) ns h
  exact abs_le a (Int.le_of_lt b) (pow_lt (k8 h1 h2) _)
def sp_place_in (K : PySem.W.Frag) : Sp := fun vs H Q _ => ∃ (k : Int) (a : Addr) (ns : List Int), vs = [.int k, .ref a] ∧ SqT K H a (ns.map V.int) ∧ inW k ns ∧ 2 ≤ k ∧ k ≤ 5 ∧ ns.length ≤ 1000 ∧ Q (.int (place k ns)) H
theorem getI {ns : List Int} {i : Nat} {x : V} (h : (ns.map V.int)[i]? = some x) : ∃ j, x = .int j ∧ ns[i]? = some j := by
  rw [List.getElem?_map] at h
  cases e : ns[i]? with
  | none =>
    rw [e] at h
    cases h
  | some j =>
    rw [e] at h
    exact ⟨j, (Option.some.inj h).symm, rfl⟩
theorem take_more {α : Type} {l : List α} {i : Nat} {x : α} (h : l[i]? = some x) : l.take (i + 1) = l.take i ++ [x] := by
  rw [List.take_add_one, h] <;> rfl
def sp_word_in (K : PySem.W.Frag) : Sp := fun vs H Q _ => ∃ (k : Int) (n : Nat) (p : Int), vs = [.int k, .int n, .int p] ∧ 2 ≤ k ∧ k ≤ 5 ∧ n ≤ 1000 ∧
  ∀ a H', Same H H' → SqT K H' a ((lows k n p).reverse.map V.int) → Q (.ref a) H'
theorem Tups.same {H H' : Hp} (s : Same H H') {vs : List V} {wss : List (List Int)} (t : Tups K H vs wss) : Tups K H' vs wss := t.mono (d := 0) (Kd.same s)
theorem Tups.one {H : Hp} {a : Addr} {ns : List Int} {vs : List V} {wss : List (List Int)} (t : Tups K H vs wss) (h : SqT K H a (ns.map V.int)) : Tups K H (vs ++ [.ref a]) (wss ++ [ns]) := t.app (.cons h .nil)
def sp_words_in (K : PySem.W.Frag) : Sp := fun vs H Q _ => ∃ (k : Int) (n : Nat), vs = [.int k, .int n] ∧ 2 ≤ k ∧ k ≤ 5 ∧ n ≤ 1000 ∧ k ^ n ≤ 5000 ∧
  ∀ a us H', Same H H' → SqT K H' a us → Tups K H' us (wordsI k n) → Q (.ref a) H'
/-! ### the interface -/
theorem kn_k {k : Int} {H : Hp} : Kn K H (.int k) := .int k
def sp_is_word (K : PySem.W.Frag) : Sp := fun vs H Q _ => ∃ (k : Int) (v : V), vs = [.int k, v] ∧ 2 ≤ k ∧ k ≤ 5 ∧
  ((NoT H v ∧ Q (.bl false) H) ∨ ∃ (a : Addr) (xs : List V), v = .ref a ∧ SqT K H a xs ∧ xs.length < 1000000 ∧ (∀ x ∈ xs, Kn K H x) ∧ ∀ H', Same H H' → Q (.bl (xs.all (wn 0 (k - 1)))) H')
def sp_words_of (K : PySem.W.Frag) : Sp := fun vs H Q _ => ∃ (k : Int) (n : Nat), vs = [.int k, .int n] ∧ 2 ≤ k ∧ k ≤ 5 ∧ n ≤ 12 ∧ k ^ n ≤ 5000 ∧
  ∀ a us H', Same H H' → SqT K H' a us → Tups K H' us (wordsI k n) → Q (.ref a) H'
def sp_place_of (K : PySem.W.Frag) : Sp := fun vs H Q _ => ∃ (k : Int) (a : Addr) (ns : List Int), vs = [.int k, .ref a] ∧ SqT K H a (ns.map V.int) ∧ inW k ns ∧ 2 ≤ k ∧ k ≤ 5 ∧ ns.length ≤ 200 ∧ ∀ H', Same H H' → Q (.int (place k ns)) H'
def sp_word_at (K : PySem.W.Frag) : Sp := fun vs H Q _ => ∃ (k : Int) (n : Nat) (p : Int), vs = [.int k, .int n, .int p] ∧ 2 ≤ k ∧ k ≤ 5 ∧ n ≤ 200 ∧ 0 ≤ p ∧ p < k ^ n ∧
  ∀ a H', Same H H' → SqT K H' a ((lows k n p).reverse.map V.int) → Q (.ref a) H'
def sp_low_number (K : PySem.W.Frag) : Sp := fun vs H Q _ => ∃ (k : Int) (a : Addr) (ns : List Int), vs = [.int k, .ref a] ∧ SqT K H a (ns.map V.int) ∧ inW k ns ∧ 2 ≤ k ∧ k ≤ 5 ∧ ns.length ≤ 200 ∧ ∀ H', Same H H' → Q (.int (place k ns.reverse)) H'
def sp_low_word (K : PySem.W.Frag) : Sp := fun vs H Q _ => ∃ (k : Int) (p : Int) (n : Nat), vs = [.int k, .int p, .int n] ∧ 2 ≤ k ∧ k ≤ 5 ∧ n ≤ 200 ∧ 0 ≤ p ∧ p < 10 ^ 60 ∧
  ∀ a H', Same H H' → SqT K H' a ((lows k n p).map V.int) → Q (.ref a) H'
/-! ### the dice -/
def bigM : Int := (10 ^ 54) ^ 6
theorem bigM_pos : 0 < bigM := by decide +kernel
theorem bigM_lt : bigM.natAbs < 2 ^ 1100 := by decide +kernel
def sp_law_dice (K : PySem.W.Frag) : Sp := fun vs H Q _ => ∃ (a : Addr) (ns : List Int) (i : Nat), vs = [.ref a, .int i] ∧ SqL K H a (ns.map V.int) ∧ i ≤ 1000 ∧ ∀ p H', H p = none → Same H H' → Dice H' p 0 → Q (.ref p) H'
/-- one roll -/
def sp_law_roll : Sp := fun vs H Q _ => ∃ (d : Addr) (t : Int) (n : Nat), vs = [.ref d, .int t] ∧ Dice H d n ∧ n < 2 ^ 60 ∧ 0 < t ∧ t.natAbs < 2 ^ 64 ∧ ∀ v H', 0 ≤ v → v < t → Kd d H H' → Dice H' d (n + 1) → Q (.int v) H'
/-- one of some items -/
def sp_law_pick (K : PySem.W.Frag) : Sp := fun vs H Q _ => ∃ (d a : Addr) (xs : List V) (n : Nat), vs = [.ref d, .ref a] ∧ Dice H d n ∧ n < 2 ^ 60 ∧ SqL K H a xs ∧ a ≠ d ∧ 0 < xs.length ∧ xs.length < 1000000 ∧
  ∀ (i : Nat) v H', xs[i]? = some v → Kd d H H' → Dice H' d (n + 1) → Q v H'
/-- all words, as they grow -/
def oneMore (k : Nat) (ws : List (List Int)) : List (List Int) := ws.flatMap fun w => (List.range k).map fun r => w ++ [((r : Nat) : Int)]
theorem oneMore_len (k : Nat) (ws : List (List Int)) : (oneMore k ws).length = ws.length * k := by
  unfold oneMore
  induction ws with
  | nil => simp
  | cons a r ih => rw [List.flatMap_cons, List.length_append, ih, List.length_map, List.length_range, List.length_cons, Nat.succ_mul, Nat.add_comm]
theorem oneMore_app (k : Nat) (ws : List (List Int)) (x : List Int) : oneMore k (ws ++ [x]) = oneMore k ws ++ (List.range k).map fun r => x ++ [((r : Nat) : Int)] := by
  unfold oneMore
  rw [List.flatMap_append, List.flatMap_singleton]
theorem wordsG_len (k : Nat) : ∀ n, (wordsG k n).length = k ^ n
  | 0 => rfl
  | n + 1 => by
    show (oneMore k (wordsG k n)).length = _
    rw [oneMore_len, wordsG_len k n, Nat.pow_succ]
theorem words_short (k : Nat) : ∀ n, ∀ w ∈ wordsG k n, w.length = n
  | 0, w, h => by
    have : w = [] := by simpa [wordsG] using h
    rw [this] <;> rfl
  | n + 1, w, h => by
    have h' : w ∈ (wordsG k n).flatMap fun w => (List.range k).map fun r => w ++ [((r : Nat) : Int)] := h
    obtain ⟨v, hv, hw⟩ := List.mem_flatMap.mp h'
    obtain ⟨r, _, rfl⟩ := List.mem_map.mp hw
    rw [List.length_append, words_short k n v hv] <;> rfl
def sp_law_words (K : PySem.W.Frag) : Sp := fun vs H Q _ => ∃ (k n : Nat), vs = [.int k, .int n] ∧ 2 ≤ k ∧ k ≤ 5 ∧ n ≤ 4 ∧
  ∀ l us H', H l = none → Same H H' → H' l = some (.lst us) → Tups K H' us (wordsG k n) → Q (.ref l) H'
theorem pow5 {k n : Nat} (hk : k ≤ 5) (hn : n ≤ 4) : k ^ n ≤ 625 := Nat.le_trans (Nat.pow_le_pow_left hk n) (Nat.le_trans (Nat.pow_le_pow_right (by decide) hn) (by decide))
/-! ### a drawn word -/
def sp_law_word (K : PySem.W.Frag) : Sp := fun vs H Q _ => ∃ (d : Addr) (k : Int) (m n : Nat), vs = [.ref d, .int k, .int m] ∧ Dice H d n ∧ n < 2 ^ 59 ∧ m ≤ 1000 ∧ 0 < k ∧ k.natAbs < 2 ^ 31 ∧
  ∀ a ns H', Kd d H H' → Dice H' d (n + m + 1) → SqT K H' a (ns.map V.int) → inW k ns → ns.length ≤ m → Q (.ref a) H'
theorem kd_mut {d D : Addr} {H H' : Hp} {o : HO} (k : Kd d H H') (h : H D = none) : Kd d H (upd H' D o) := fun b u e z => by
  rw [upd_ne (ne_of_none e h)]
  exact k b u e z
theorem Dice.at {H H' : Hp} {d : Addr} {n : Nat} (h : Dice H d n) (e : H' d = H d) : Dice H' d n := by
  obtain ⟨g, s, c, h1, h2⟩ := h
  exact ⟨g, s, c, e.trans h1, h2⟩
/-! ### a value that is no word -/
theorem NoT.keep {H H' : Hp} {v : V} (k : NoT H v) (e : ∀ a o, v = .ref a → H a = some o → H' a = some o) : NoT H' v := by
  cases k with
  | non => exact .non
  | bl b => exact .bl b
  | int i => exact .int i
  | str x => exact .str x
  | lst h => exact .lst (e _ _ rfl h)
  | dK h => exact .dK (e _ _ rfl h)
theorem wn_big {k : Int} : wn 0 (k - 1) (.int k) = false := by
  show (decide ((0 : Int) ≤ k) && decide (k ≤ k - 1)) = false
  rw [decide_eq_false (show ¬ k ≤ k - 1 by omega), Bool.and_false]
theorem one_sz {x : V} : [x].length ≤ sizeLine := by
  show 1 ≤ sizeLine
  decide
def spLaw (K : PySem.W.Frag) : Sp := fun vs H Q _ => ∃ (a : Addr) (ns : List Int), vs = [.ref a] ∧ SqL K H a (ns.map V.int) ∧ ns.length ≤ 63 ∧ ∀ H', Q (.bl true) H'
/-- how many cells are looked at -/
def lim (m : Int) (n : Nat) : Int := if (if (n : Int) < m then (n : Int) else m) > 1 then (if (n : Int) < m then (n : Int) else m) else 1
theorem lim_le {m : Int} (h : 1 ≤ m) (n : Nat) : 1 ≤ lim m n ∧ lim m n ≤ m := by
  unfold lim
  split <;> split at * <;> omega
end
end Br
namespace Br
open PySem PySem.Spec PyProof.Rows L2
theorem eqvAllI : ∀ xs ys : List Int, PyData.eqvAll (xs.map .int) (ys.map .int) = decide (xs = ys)
  | [], [] => rfl
  | [], _ :: _ => rfl
  | _ :: _, [] => rfl
  | x :: xs, y :: ys => by
    show ((x == y) && PyData.eqvAll (xs.map .int) (ys.map .int)) = _
    rw [eqvAllI xs ys]
    by_cases h : x = y
    · subst h
      by_cases h2 : xs = ys
      · subst h2
        simp
      · simp [h2]
    · simp [h]
theorem eqvI (xs ys : List Int) : PyData.eqv (dI xs) (dI ys) = decide (xs = ys) := eqvAllI xs ys
/-! ### slices in short -/
theorem cut_to {xs : List V} {n : Nat} : cutV xs none (some (n : Int)) = xs.take n := by
  unfold cutV
  rw [HT.sIx_nat, HT.sIx_none, List.drop_zero, Nat.sub_zero]
  by_cases h : n ≤ xs.length
  · rw [Nat.min_eq_left h]
  · rw [Nat.min_eq_right (by omega), List.take_of_length_le (Nat.le_refl _), List.take_of_length_le (by omega)]
theorem cut_from {xs : List V} {n : Nat} : cutV xs (some (n : Int)) none = xs.drop n := by
  unfold cutV
  rw [HT.sIx_nat, HT.sIx_none]
  by_cases h : n ≤ xs.length
  · rw [Nat.min_eq_left h, List.take_of_length_le (by rw [List.length_drop]; exact Nat.le_refl _)]
  · rw [Nat.min_eq_right (by omega), List.drop_eq_nil_of_le (Nat.le_refl _), List.drop_eq_nil_of_le (by omega)]
    simp
theorem cut_to1 {xs : List V} : cutV xs none (some 1) = xs.take 1 := cut_to (n := 1)
theorem cut_from1 {xs : List V} : cutV xs (some 1) none = xs.drop 1 := cut_from (n := 1)
theorem cut_init {xs : List V} : cutV xs none (some (-1)) = xs.dropLast := by
  unfold cutV
  rw [HT.sIx_none, List.drop_zero, Nat.sub_zero]
  have e : HT.sIx xs.length xs.length (some (-1)) = xs.length - 1 := by
    show (if (-1 : Int) < 0 then ((-1 : Int) + (xs.length : Int)).toNat else min (-1 : Int).toNat xs.length) = _
    rw [if_pos (by decide)]
    omega
  rw [e, List.dropLast_eq_take]
theorem cut_last {xs : List V} {x : V} : cutV (xs ++ [x]) (some (-1)) none = [x] := by
  unfold cutV
  rw [HT.sIx_none]
  have e : HT.sIx (xs ++ [x]).length 0 (some (-1)) = xs.length := by
    show (if (-1 : Int) < 0 then ((-1 : Int) + ((xs ++ [x]).length : Int)).toNat else min (-1 : Int).toNat (xs ++ [x]).length) = _
    rw [if_pos (by decide), List.length_append]
    show ((-1 : Int) + ((xs.length + 1 : Nat) : Int)).toNat = _
    omega
  rw [e, List.drop_left, List.length_append]
  exact List.take_of_length_le (by simp)
end Br
namespace Br
open PySem PySem.Spec PyProof.Rows L2
theorem same_lst {K : PySem.W.Frag} {H H' : Hp} {a : Addr} {xs : List V} (e : Same H H') (h : SqL K H a xs) : SqL K H' a xs := e.seq h
mutual
theorem dpSame {K : PySem.W.Frag} {H H' : Hp} (s : Same H H') : ∀ {d : PyData} {v : V}, Dp K H v d → Dp K H' v d
  | _, _, .non => .non
  | _, _, .bl b => .bl b
  | _, _, .int i => .int i
  | _, _, .str x => .str x
  | _, _, .lst h t => .lst (same_lst s h) (dpAllSame s t)
  | _, _, .tup h t => .tup (same_tup s h) (dpAllSame s t)
theorem dpAllSame {K : PySem.W.Frag} {H H' : Hp} (s : Same H H') : ∀ {ds : List PyData} {vs : List V}, DpAll K H vs ds → DpAll K H' vs ds
  | _, _, .nil => .nil
  | _, _, .cons h t => .cons (dpSame s h) (dpAllSame s t)
end
end Br

/-! The plain law of round words: least pairs, endless words, letters. -/
namespace Br
namespace Rd
variable {α : Type} [DecidableEq α]
/-- a word so many times -/
def rep (n : Nat) (a : List α) : List α := (List.replicate n a).flatten
theorem rep_len (n : Nat) (a : List α) : (rep n a).length = n * a.length := by
  unfold rep
  induction n with
  | zero => simp
  | succ n ih => rw [List.replicate_succ, List.flatten_cons, List.length_append, ih, Nat.succ_mul, Nat.add_comm]
theorem rep_succ (n : Nat) (a : List α) : rep (n + 1) a = rep n a ++ a := by
  unfold rep
  rw [List.replicate_succ', List.flatten_append, List.flatten_singleton]
theorem rep_one (a : List α) : rep 1 a = a := by
  unfold rep
  rw [List.replicate_one, List.flatten_singleton]
theorem rep_get (n : Nat) (a : List α) (i : Nat) (h : i < n * a.length) : (rep n a)[i]? = a[i % a.length]? := by
  induction n generalizing i with
  | zero => simp at h
  | succ n ih =>
    unfold rep
    rw [List.replicate_succ, List.flatten_cons]
    have hp : 0 < a.length := Nat.pos_of_ne_zero fun z => by rw [z, Nat.mul_zero] at h; omega
    by_cases hi : i < a.length
    · rw [List.getElem?_append_left hi, Nat.mod_eq_of_lt hi]
    · rw [List.getElem?_append_right (by omega)]
      have := ih (i - a.length) (by rw [Nat.succ_mul] at h; omega)
      unfold rep at this
      rw [this]
      congr 1
      have e : i = (i - a.length) + a.length := by omega
      conv => rhs; rw [e]
      rw [Nat.add_mod_right]
/-- is the word its first t letters again and again? -/
def isRep (a : List α) (t : Nat) : Bool := decide (rep (a.length / t) (a.take t) = a)
def sizes (a : List α) : List Nat := ((List.range a.length).map (· + 1)).filter (isRep a)
/-- the least length of such a beginning -/
def leastS (a : List α) : Nat := (sizes a).headD 0
theorem isRep_len {a : List α} {t : Nat} (h1 : 1 ≤ t) (h2 : t ≤ a.length) (h : isRep a t = true) : a.length % t = 0 := by
  have e := congrArg List.length (of_decide_eq_true h)
  rw [rep_len, List.length_take, Nat.min_eq_left h2] at e
  rw [← e]
  exact Nat.mul_mod_left _ _
theorem isRep_get {a : List α} {t : Nat} (h1 : 1 ≤ t) (h2 : t ≤ a.length) (h : isRep a t = true) (i : Nat) (hi : i < a.length) : a[i]? = a[i % t]? := by
  have e := of_decide_eq_true h
  have el := congrArg List.length e
  rw [rep_len, List.length_take, Nat.min_eq_left h2] at el
  have := rep_get (a.length / t) (a.take t) i (by rw [List.length_take, Nat.min_eq_left h2]; omega)
  rw [e, List.length_take, Nat.min_eq_left h2, List.getElem?_take_of_lt (Nat.mod_lt _ h1)] at this
  exact this
theorem isRep_of {a : List α} {t : Nat} (h1 : 1 ≤ t) (h2 : t ≤ a.length) (h0 : a.length % t = 0) (h : ∀ i, i < a.length → a[i]? = a[i % t]?) : isRep a t = true := by
  refine decide_eq_true (List.ext_getElem? fun i => ?_)
  have hl : (rep (a.length / t) (a.take t)).length = a.length := by
    rw [rep_len, List.length_take, Nat.min_eq_left h2]
    exact Nat.div_mul_cancel (Nat.dvd_of_mod_eq_zero h0)
  by_cases hi : i < a.length
  · rw [rep_get _ _ _ (by rw [← rep_len, hl]; exact hi), List.length_take, Nat.min_eq_left h2, List.getElem?_take_of_lt (Nat.mod_lt _ h1), h i hi]
  · rw [List.getElem?_eq_none (by omega), List.getElem?_eq_none (by omega)]
theorem isRep_self {a : List α} (h : a ≠ []) : isRep a a.length = true := by
  have : 0 < a.length := List.length_pos_iff.mpr h
  refine decide_eq_true ?_
  rw [Nat.div_self this, rep_one, List.take_length]
theorem mem_sizes {a : List α} {t : Nat} : t ∈ sizes a ↔ 1 ≤ t ∧ t ≤ a.length ∧ isRep a t = true := by
  unfold sizes
  rw [List.mem_filter, List.mem_map]
  constructor
  · rintro ⟨⟨i, hi, rfl⟩, h⟩
    have := List.mem_range.mp hi
    exact ⟨by omega, by omega, h⟩
  · rintro ⟨h1, h2, h⟩
    exact ⟨⟨t - 1, List.mem_range.mpr (by omega), by omega⟩, h⟩
theorem sizes_ne {a : List α} (h : a ≠ []) : sizes a ≠ [] := fun e => by
  have : a.length ∈ sizes a := mem_sizes.mpr ⟨List.length_pos_iff.mpr h, Nat.le_refl _, isRep_self h⟩
  rw [e] at this
  cases this
theorem sizes_sorted (a : List α) : (sizes a).Pairwise (· < ·) := by
  unfold sizes
  refine List.Pairwise.filter _ ?_
  rw [List.pairwise_map]
  exact List.Pairwise.imp (fun h => by omega) List.pairwise_lt_range
theorem leastS_mem {a : List α} (h : a ≠ []) : 1 ≤ leastS a ∧ leastS a ≤ a.length ∧ isRep a (leastS a) = true := by
  unfold leastS
  cases e : sizes a with
  | nil => exact absurd e (sizes_ne h)
  | cons t r =>
    refine mem_sizes.mp ?_
    rw [e]
    exact List.mem_cons_self
theorem leastS_le {a : List α} {t : Nat} (h1 : 1 ≤ t) (h2 : t ≤ a.length) (h : isRep a t = true) : leastS a ≤ t := by
  have hm := mem_sizes.mpr ⟨h1, h2, h⟩
  have hs := sizes_sorted a
  unfold leastS
  cases e : sizes a with
  | nil =>
    rw [e] at hm
    cases hm
  | cons u r =>
    rw [e] at hm hs
    rcases List.mem_cons.mp hm with rfl | hm
    · exact Nat.le_refl _
    · exact Nat.le_of_lt ((List.pairwise_cons.mp hs).1 t hm)
theorem leastS_eq {a : List α} {t : Nat} (h1 : 1 ≤ t) (h2 : t ≤ a.length) (h : isRep a t = true) (hl : ∀ u, 1 ≤ u → u < t → isRep a u = false) : leastS a = t := by
  have hne : a ≠ [] := fun z => by subst z; exact absurd h2 (by show ¬ t ≤ 0; omega)
  have := leastS_le h1 h2 h
  obtain ⟨a1, a2, a3⟩ := leastS_mem hne
  by_cases hlt : leastS a < t
  · rw [hl _ a1 hlt] at a3
    cases a3
  · omega
/-- the last letters of both, if equal, go to the front of the ring -/
def rot : List α → List α → List α × List α
  | b, a => if h : b ≠ [] ∧ b.getLast? = a.getLast? then rot b.dropLast (b.getLast h.1 :: a.dropLast) else (b, a)
termination_by b _ => b.length
decreasing_by
  have : 0 < b.length := List.length_pos_iff.mpr h.1
  rw [List.length_dropLast]
  omega
def least (b a : List α) : List α × List α := rot b (a.take (leastS a))
theorem rot_go {b a : List α} {x : α} : rot (b ++ [x]) (a ++ [x]) = rot b (x :: a) := by
  rw [rot]
  have h : b ++ [x] ≠ [] ∧ (b ++ [x]).getLast? = (a ++ [x]).getLast? := ⟨by simp, by simp⟩
  rw [dif_pos h]
  simp
theorem rot_stop {b a : List α} (h : ¬ (b ≠ [] ∧ b.getLast? = a.getLast?)) : rot b a = (b, a) := by
  rw [rot, dif_neg h]

/-! ### the endless word -/
def ltr (b a : List α) (n : Nat) : Option α := if n < b.length then b[n]? else a[(n - b.length) % a.length]?
theorem ltr_lt {b a : List α} {n : Nat} (h : n < b.length) : ltr b a n = b[n]? := if_pos h
theorem ltr_ge {b a : List α} {n : Nat} (h : b.length ≤ n) : ltr b a n = a[(n - b.length) % a.length]? := if_neg (by omega)
theorem ltr_per {b a : List α} {n : Nat} (h : b.length ≤ n) : ltr b a (n + a.length) = ltr b a n := by
  rw [ltr_ge h, ltr_ge (by omega)]
  congr 1
  have e : n + a.length - b.length = (n - b.length) + a.length := by omega
  rw [e, Nat.add_mod_right]
theorem ltr_some {b a : List α} (ha : a ≠ []) (n : Nat) : ∃ x, ltr b a n = some x := by
  have hp : 0 < a.length := List.length_pos_iff.mpr ha
  by_cases h : n < b.length
  · exact ⟨_, by rw [ltr_lt h, List.getElem?_eq_getElem h]⟩
  · exact ⟨_, by rw [ltr_ge (by omega), List.getElem?_eq_getElem (Nat.mod_lt _ hp)]⟩
/-- a rotation tells the same -/
theorem ltr_rot (b a : List α) (x : α) (n : Nat) : ltr (b ++ [x]) (a ++ [x]) n = ltr b (x :: a) n := by
  by_cases h1 : n < b.length
  · rw [ltr_lt (by rw [List.length_append]; omega), ltr_lt h1, List.getElem?_append_left h1]
  · by_cases h2 : n = b.length
    · subst h2
      rw [ltr_lt (by rw [List.length_append]; show _ < _ + 1; omega), ltr_ge (Nat.le_refl _), Nat.sub_self, Nat.zero_mod]
      simp
    · rw [ltr_ge (by rw [List.length_append]; show _ + 1 ≤ _; omega), ltr_ge (by omega)]
      have e1 : (b ++ [x]).length = b.length + 1 := by simp
      have e2 : (a ++ [x]).length = a.length + 1 := by simp
      have e3 : (x :: a).length = a.length + 1 := rfl
      rw [e1, e2, e3]
      obtain ⟨m, hm⟩ : ∃ m, n = b.length + 1 + m := ⟨n - (b.length + 1), by omega⟩
      have e4 : n - (b.length + 1) = m := by omega
      have e5 : n - b.length = m + 1 := by omega
      rw [e4, e5]
      by_cases hl : m % (a.length + 1) = a.length
      · have z : (m + 1) % (a.length + 1) = 0 := by
          rw [Nat.add_mod, hl]
          by_cases h0 : a.length = 0
          · rw [h0]
          · rw [Nat.mod_eq_of_lt (show 1 < a.length + 1 by omega), Nat.mod_self]
        rw [hl, z]
        simp
      · have hlt : m % (a.length + 1) < a.length := by
          have := Nat.mod_lt m (show 0 < a.length + 1 by omega)
          omega
        have z : (m + 1) % (a.length + 1) = m % (a.length + 1) + 1 := by
          rw [Nat.add_mod, Nat.mod_eq_of_lt (show 1 < a.length + 1 by omega), Nat.mod_eq_of_lt (by omega)]
        rw [z, List.getElem?_append_left hlt, List.getElem?_cons_succ]
theorem split_last {b : List α} (h : b ≠ []) : ∃ c x, b = c ++ [x] := ⟨b.dropLast, b.getLast h, (List.dropLast_concat_getLast h).symm⟩
theorem ltr_rotAll : ∀ (m : Nat) (b a : List α), b.length = m → a ≠ [] → ∀ n, ltr (rot b a).1 (rot b a).2 n = ltr b a n := by
  intro m
  induction m with
  | zero =>
    intro b a h _ n
    have : b = [] := List.eq_nil_of_length_eq_zero h
    subst this
    rw [rot_stop (fun z => z.1 rfl)]
  | succ m ih =>
    intro b a h ha n
    by_cases hc : b ≠ [] ∧ b.getLast? = a.getLast?
    · obtain ⟨c, x, rfl⟩ := split_last hc.1
      obtain ⟨d, y, rfl⟩ := split_last ha
      have exy : x = y := by simpa using hc.2
      subst exy
      rw [rot_go, ih c (x :: d) (by simpa using h) (List.cons_ne_nil _ _) n, ltr_rot]
    · rw [rot_stop hc]
theorem rot_ne : ∀ (m : Nat) (b a : List α), b.length = m → a ≠ [] → (rot b a).2 ≠ [] ∧ (rot b a).2.length = a.length ∧ (rot b a).1.length ≤ b.length ∧ ¬ ((rot b a).1 ≠ [] ∧ (rot b a).1.getLast? = (rot b a).2.getLast?) := by
  intro m
  induction m with
  | zero =>
    intro b a h ha
    have : b = [] := List.eq_nil_of_length_eq_zero h
    subst this
    rw [rot_stop (fun z => z.1 rfl)]
    exact ⟨ha, rfl, Nat.le_refl _, fun z => z.1 rfl⟩
  | succ m ih =>
    intro b a h ha
    by_cases hc : b ≠ [] ∧ b.getLast? = a.getLast?
    · obtain ⟨c, x, rfl⟩ := split_last hc.1
      obtain ⟨d, y, rfl⟩ := split_last ha
      have exy : x = y := by simpa using hc.2
      subst exy
      obtain ⟨i1, i2, i3, i4⟩ := ih c (x :: d) (by simpa using h) (List.cons_ne_nil _ _)
      rw [rot_go]
      exact ⟨i1, by rw [i2]; simp, by rw [List.length_append]; omega, i4⟩
    · rw [rot_stop hc]
      exact ⟨ha, rfl, Nat.le_refl _, hc⟩
/-- the first size's letters tell the same ring -/
theorem ltr_take {b a : List α} (ha : a ≠ []) (n : Nat) : ltr b (a.take (leastS a)) n = ltr b a n := by
  obtain ⟨h1, h2, h3⟩ := leastS_mem ha
  have hp : 0 < a.length := List.length_pos_iff.mpr ha
  by_cases h : n < b.length
  · rw [ltr_lt h, ltr_lt h]
  · rw [ltr_ge (by omega), ltr_ge (by omega), List.length_take, Nat.min_eq_left h2, List.getElem?_take_of_lt (Nat.mod_lt _ h1)]
    rw [isRep_get h1 h2 h3 _ (Nat.mod_lt _ hp)]
    congr 1
    have hd := isRep_len h1 h2 h3
    rw [Nat.mod_mod_of_dvd _ (Nat.dvd_of_mod_eq_zero hd)]
theorem take_ne {a : List α} (ha : a ≠ []) : a.take (leastS a) ≠ [] := by
  obtain ⟨h1, h2, _⟩ := leastS_mem ha
  intro z
  have := congrArg List.length z
  rw [List.length_take, Nat.min_eq_left h2] at this
  simp at this
  omega
theorem ltr_least {b a : List α} (ha : a ≠ []) (n : Nat) : ltr (least b a).1 (least b a).2 n = ltr b a n := by
  unfold least
  rw [ltr_rotAll _ _ _ rfl (take_ne ha), ltr_take ha]
/-- least pairs -/
structure IsLeast (b a : List α) : Prop where
  ne : a ≠ []
  size : leastS a = a.length
  last : ¬ (b ≠ [] ∧ b.getLast? = a.getLast?)
/-- a shorter period of the ring, by the endless word -/
theorem per_back {b a : List α} {g N : Nat} (ha : a ≠ []) (hg : ∀ n, N ≤ n → ltr b a (n + g) = ltr b a n) : ∀ n, b.length ≤ n → ltr b a (n + g) = ltr b a n := by
  intro n hn
  have hp : 0 < a.length := List.length_pos_iff.mpr ha
  have many : ∀ k m, b.length ≤ m → ltr b a (m + k * a.length) = ltr b a m := by
    intro k
    induction k with
    | zero => intro m _; rw [Nat.zero_mul, Nat.add_zero]
    | succ k ih =>
      intro m hm
      rw [Nat.succ_mul, ← Nat.add_assoc, ltr_per (by omega), ih m hm]
  have hN : N ≤ n + N * a.length := by
    have : N * 1 ≤ N * a.length := Nat.mul_le_mul_left N hp
    omega
  rw [← many N n hn, ← hg _ hN, ← many N (n + g) (by omega)]
  congr 1
  omega
theorem isRep_of_per {b a : List α} {g : Nat} (ha : a ≠ []) (h1 : 1 ≤ g) (hd : a.length % g = 0) (hg : ∀ n, b.length ≤ n → ltr b a (n + g) = ltr b a n) : isRep a g = true := by
  have hp : 0 < a.length := List.length_pos_iff.mpr ha
  have hle : g ≤ a.length := Nat.le_of_dvd hp (Nat.dvd_of_mod_eq_zero hd)
  refine isRep_of h1 hle hd fun i hi => ?_
  have at_ : ∀ j, j < a.length → ltr b a (b.length + j) = a[j]? := fun j hj => by
    rw [ltr_ge (by omega), Nat.add_sub_cancel_left, Nat.mod_eq_of_lt hj]
  have many : ∀ k m, b.length ≤ m → ltr b a (m + k * g) = ltr b a m := by
    intro k
    induction k with
    | zero => intro m _; rw [Nat.zero_mul, Nat.add_zero]
    | succ k ih =>
      intro m hm
      rw [Nat.succ_mul, ← Nat.add_assoc, hg _ (by omega), ih m hm]
  have e := many (i / g) (b.length + i % g) (by omega)
  have e2 : b.length + i % g + i / g * g = b.length + i := by
    have := Nat.mod_add_div i g
    rw [Nat.mul_comm] at this
    omega
  rw [e2, at_ i hi, at_ _ (Nat.lt_of_le_of_lt (Nat.mod_le _ _) hi)] at e
  exact e
/-- two periods behind some place give their greatest common divisor -/
theorem gcd_per {f : Nat → Option α} {N : Nat} : ∀ (p q : Nat), (∀ n, N ≤ n → f (n + p) = f n) → (∀ n, N ≤ n → f (n + q) = f n) → ∀ n, N ≤ n → f (n + Nat.gcd p q) = f n := by
  intro p q
  induction p, q using Nat.gcd.induction with
  | H0 q => intro _ hq; rw [Nat.gcd_zero_left]; exact hq
  | H1 p q hpos ih =>
    intro hp hq
    rw [Nat.gcd_rec]
    refine ih ?_ hp
    intro n hn
    have many : ∀ k m, N ≤ m → f (m + k * p) = f m := by
      intro k
      induction k with
      | zero => intro m _; rw [Nat.zero_mul, Nat.add_zero]
      | succ k ih => intro m hm; rw [Nat.succ_mul, ← Nat.add_assoc, hp _ (by omega), ih m hm]
    rw [← many (q / p) (n + q % p) (by omega), ← hq n hn]
    congr 1
    have := Nat.mod_add_div q p
    rw [Nat.mul_comm] at this
    omega
theorem least_unique0 {b a b' a' : List α} (h : IsLeast b a) (h' : IsLeast b' a') (e : ∀ n, ltr b a n = ltr b' a' n) (hl : b.length ≤ b'.length) : b = b' ∧ a = a' := by
  have p1 := List.length_pos_iff.mpr h.ne
  have p2 := List.length_pos_iff.mpr h'.ne
  have gp : 1 ≤ Nat.gcd a.length a'.length := Nat.gcd_pos_of_pos_left _ p1
  have per : ∀ n, b'.length ≤ n → ltr b a (n + Nat.gcd a.length a'.length) = ltr b a n := gcd_per a.length a'.length (fun n hn => ltr_per (by omega)) (fun n hn => by rw [e, e, ltr_per hn])
  have per1 := per_back h.ne per
  have per2 : ∀ n, b'.length ≤ n → ltr b' a' (n + Nat.gcd a.length a'.length) = ltr b' a' n := fun n hn => by rw [← e, ← e, per n hn]
  have d1 : a.length % Nat.gcd a.length a'.length = 0 := Nat.mod_eq_zero_of_dvd (Nat.gcd_dvd_left _ _)
  have d2 : a'.length % Nat.gcd a.length a'.length = 0 := Nat.mod_eq_zero_of_dvd (Nat.gcd_dvd_right _ _)
  have i1 := isRep_of_per h.ne gp d1 per1
  have i2 := isRep_of_per h'.ne gp d2 per2
  have l1 := leastS_le gp (Nat.le_of_dvd p1 (Nat.gcd_dvd_left _ _)) i1
  have l2 := leastS_le gp (Nat.le_of_dvd p2 (Nat.gcd_dvd_right _ _)) i2
  rw [h.size] at l1
  rw [h'.size] at l2
  have g1 := Nat.le_of_dvd p1 (Nat.gcd_dvd_left a.length a'.length)
  have g2 := Nat.le_of_dvd p2 (Nat.gcd_dvd_right a.length a'.length)
  have hlen : a.length = a'.length := by omega
  have hb : b.length = b'.length := by
    by_cases hlt : b.length < b'.length
    · exfalso
      have hne : b' ≠ [] := fun z => by rw [z] at hlt; simp at hlt
      refine h'.last ⟨hne, ?_⟩
      have hp' : 0 < b'.length := by omega
      rw [List.getLast?_eq_getElem?, List.getLast?_eq_getElem?]
      have x1 : ltr b' a' (b'.length - 1) = b'[b'.length - 1]? := ltr_lt (by omega)
      have x2 : ltr b' a' (b'.length - 1 + a'.length) = a'[a'.length - 1]? := by
        rw [ltr_ge (by omega)]
        have z : b'.length - 1 + a'.length - b'.length = a'.length - 1 := by omega
        rw [z, Nat.mod_eq_of_lt (by omega)]
      rw [← x1, ← x2, ← e, ← e, ← hlen, ltr_per (by omega)]
    · omega
  constructor
  · refine List.ext_getElem? fun i => ?_
    by_cases hi : i < b.length
    · have := e i
      rw [ltr_lt hi, ltr_lt (by omega)] at this
      exact this
    · rw [List.getElem?_eq_none (by omega), List.getElem?_eq_none (by omega)]
  · refine List.ext_getElem? fun i => ?_
    by_cases hi : i < a.length
    · have := e (b.length + i)
      rw [ltr_ge (by omega), ltr_ge (by omega), hb, Nat.add_sub_cancel_left, Nat.mod_eq_of_lt hi, Nat.mod_eq_of_lt (by omega)] at this
      exact this
    · rw [List.getElem?_eq_none (by omega), List.getElem?_eq_none (by omega)]
theorem least_unique {b a b' a' : List α} (h : IsLeast b a) (h' : IsLeast b' a') (e : ∀ n, ltr b a n = ltr b' a' n) : (b, a) = (b', a') := by
  by_cases hl : b.length ≤ b'.length
  · obtain ⟨rfl, rfl⟩ := least_unique0 h h' e hl
    rfl
  · obtain ⟨rfl, rfl⟩ := least_unique0 h' h (fun n => (e n).symm) (by omega)
    rfl
/-- the period of a turned ring is the ring's -/
theorem rot_size : ∀ (m : Nat) (b a : List α), b.length = m → a ≠ [] → leastS a = a.length → leastS (rot b a).2 = (rot b a).2.length := by
  intro m b a hm ha hs
  obtain ⟨r1, r2, r3, r4⟩ := rot_ne m b a hm ha
  have hl := ltr_rotAll m b a hm ha
  obtain ⟨q1, q2, q3⟩ := leastS_mem r1
  have pp : ∀ n, (rot b a).1.length ≤ n → ltr (rot b a).1 (rot b a).2 (n + leastS (rot b a).2) = ltr (rot b a).1 (rot b a).2 n := fun n hn => by
    have p1 := List.length_pos_iff.mpr r1
    rw [ltr_ge hn, ltr_ge (by omega), isRep_get q1 q2 q3 _ (Nat.mod_lt _ p1), isRep_get q1 q2 q3 ((n - (rot b a).1.length) % (rot b a).2.length) (Nat.mod_lt _ p1)]
    have hd := Nat.dvd_of_mod_eq_zero (isRep_len q1 q2 q3)
    congr 1
    rw [Nat.mod_mod_of_dvd _ hd, Nat.mod_mod_of_dvd _ hd]
    have z : n + leastS (rot b a).2 - (rot b a).1.length = (n - (rot b a).1.length) + leastS (rot b a).2 := by omega
    rw [z, Nat.add_mod_right]
  have pq : ∀ n, (rot b a).1.length ≤ n → ltr b a (n + leastS (rot b a).2) = ltr b a n := fun n hn => by rw [← hl, ← hl, pp n hn]
  have hd : a.length % leastS (rot b a).2 = 0 := by rw [← r2]; exact isRep_len q1 q2 q3
  have := isRep_of_per ha q1 hd (per_back ha pq)
  have := leastS_le q1 (by rw [← r2]; exact q2) this
  rw [hs] at this
  omega
theorem take_size {a : List α} (ha : a ≠ []) : leastS (a.take (leastS a)) = (a.take (leastS a)).length := by
  obtain ⟨h1, h2, h3⟩ := leastS_mem ha
  have hl : (a.take (leastS a)).length = leastS a := by rw [List.length_take, Nat.min_eq_left h2]
  have hne := take_ne ha
  obtain ⟨q1, q2, q3⟩ := leastS_mem hne
  rw [hl] at q2 ⊢
  have hdq := isRep_len q1 (by rw [hl]; exact q2) q3
  rw [hl] at hdq
  have hd := isRep_len h1 h2 h3
  have : isRep a (leastS (a.take (leastS a))) = true := by
    refine isRep_of q1 (by omega) (Nat.mod_eq_zero_of_dvd (Nat.dvd_trans (Nat.dvd_of_mod_eq_zero hdq) (Nat.dvd_of_mod_eq_zero hd))) fun i hi => ?_
    rw [isRep_get h1 h2 h3 i hi]
    have hm : i % leastS a < leastS a := Nat.mod_lt _ h1
    have := isRep_get q1 (by rw [hl]; exact q2) q3 (i % leastS a) (by rw [hl]; exact hm)
    rw [List.getElem?_take_of_lt hm, List.getElem?_take_of_lt (Nat.lt_of_lt_of_le (Nat.mod_lt _ q1) q2), Nat.mod_mod_of_dvd _ (Nat.dvd_of_mod_eq_zero hdq)] at this
    exact this
  have := leastS_le q1 (by omega) this
  omega
theorem least_is {b a : List α} (ha : a ≠ []) : IsLeast (least b a).1 (least b a).2 := by
  have hne := take_ne ha
  obtain ⟨r1, r2, r3, r4⟩ := rot_ne _ b _ rfl hne
  exact ⟨r1, rot_size _ b _ rfl hne (take_size ha), r4⟩
theorem least_len {b a : List α} (ha : a ≠ []) : (least b a).2 ≠ [] ∧ (least b a).2.length ≤ a.length ∧ (least b a).1.length ≤ b.length := by
  have hne := take_ne ha
  obtain ⟨r1, r2, r3, r4⟩ := rot_ne _ b _ rfl hne
  exact ⟨r1, by unfold least; rw [r2, List.length_take]; omega, r3⟩
/-- equal endless words have one least pair -/
theorem least_iff {b a b' a' : List α} (ha : a ≠ []) (ha' : a' ≠ []) : least b a = least b' a' ↔ ∀ n, ltr b a n = ltr b' a' n := by
  constructor
  · intro e n
    rw [← ltr_least ha, ← ltr_least ha', e]
  · intro e
    have z := least_unique (least_is (b := b) ha) (least_is (b := b') ha') fun n => by rw [ltr_least ha, ltr_least ha', e]
    exact z
theorem least_least {b a : List α} (ha : a ≠ []) : least (least b a).1 (least b a).2 = least b a := by
  have e := (least_iff (b := (least b a).1) (b' := b) (least_len ha).1 ha).mpr fun n => ltr_least ha n
  exact e
/-- enough equal letters make equal endless words -/
theorem enough {b a b' a' : List α} (ha : a ≠ []) (ha' : a' ≠ []) (N M : Nat) (hb : b.length ≤ N) (hb' : b'.length ≤ N) (hM : N + a.length + a'.length ≤ M) (e : ∀ n, n < M → ltr b a n = ltr b' a' n) : ∀ n, ltr b a n = ltr b' a' n := by
  have p1 := List.length_pos_iff.mpr ha
  have p2 := List.length_pos_iff.mpr ha'
  intro n
  induction n using Nat.strongRecOn with
  | ind n ih =>
    by_cases h : n < M
    · exact e n h
    · have x1 : ltr b a n = ltr b a (n - a.length) := by
        have := ltr_per (b := b) (a := a) (n := n - a.length) (by omega)
        rw [Nat.sub_add_cancel (by omega)] at this
        exact this
      have x2 : ltr b' a' n = ltr b' a' (n - a'.length) := by
        have := ltr_per (b := b') (a := a') (n := n - a'.length) (by omega)
        rw [Nat.sub_add_cancel (by omega)] at this
        exact this
      have x3 : ltr b' a' (n - a.length) = ltr b' a' (n - a.length - a'.length) := by
        have := ltr_per (b := b') (a := a') (n := n - a.length - a'.length) (by omega)
        rw [Nat.sub_add_cancel (by omega)] at this
        exact this
      have x4 : ltr b a (n - a'.length) = ltr b a (n - a'.length - a.length) := by
        have := ltr_per (b := b) (a := a) (n := n - a'.length - a.length) (by omega)
        rw [Nat.sub_add_cancel (by omega)] at this
        exact this
      have y := ih (n - a'.length) (by omega)
      rw [x1, ih _ (by omega), x3, x2, ← y, x4]
      have z : n - a'.length - a.length = n - a.length - a'.length := by omega
      rw [z]
      exact (ih _ (by omega)).symm
end Rd
end Br
namespace Br
namespace Rd
variable {α : Type} [DecidableEq α]
theorem ltr_rep {b a : List α} {k : Nat} (ha : a ≠ []) (hk : 1 ≤ k) (n : Nat) : ltr b (rep k a) n = ltr b a n := by
  have hp : 0 < a.length := List.length_pos_iff.mpr ha
  by_cases h : n < b.length
  · rw [ltr_lt h, ltr_lt h]
  · rw [ltr_ge (by omega), ltr_ge (by omega), rep_len]
    have hkl : 0 < k * a.length := Nat.mul_pos hk hp
    rw [rep_get _ _ _ (Nat.mod_lt _ hkl)]
    congr 1
    rw [Nat.mod_mod_of_dvd _ (Nat.dvd_mul_left _ _)]
theorem rep_ne {a : List α} {k : Nat} (ha : a ≠ []) (hk : 1 ≤ k) : rep k a ≠ [] := fun z => by
  have := congrArg List.length z
  rw [rep_len] at this
  have hp : 0 < a.length := List.length_pos_iff.mpr ha
  have := Nat.mul_pos hk hp
  simp at *
  omega
theorem app_get {b a : List α} (j i : Nat) (h : i < (b ++ rep j a).length) : (b ++ rep j a)[i]? = ltr b a i := by
  rw [List.length_append, rep_len] at h
  by_cases hb : i < b.length
  · rw [List.getElem?_append_left hb, ltr_lt hb]
  · rw [List.getElem?_append_right (by omega), ltr_ge (by omega), rep_get _ _ _ (by omega)]
theorem sizes_at (a : List α) (i : Nat) : ((List.range (i + 1)).map (· + 1)).filter (isRep a) = ((List.range i).map (· + 1)).filter (isRep a) ++ (if isRep a (i + 1) = true then [i + 1] else []) := by
  rw [List.range_succ, List.map_append, List.filter_append]
  congr 1
  show List.filter (isRep a) [i + 1] = _
  cases h : isRep a (i + 1) <;> simp [h]
theorem sizes_hd {a : List α} (ha : a ≠ []) : (sizes a)[0]? = some (leastS a) := by
  unfold leastS
  cases e : sizes a with
  | nil => exact absurd e (sizes_ne ha)
  | cons t r => rfl
end Rd
end Br

/-! Round words: what their defs promise. -/
namespace Br
open PySem PySem.Spec PyProof.Rows L2
/-- a pair of words stands at v -/
def PairT (K : PySem.W.Frag) (H : Hp) (v : V) (b a : List Int) : Prop := ∃ p x y, v = .ref p ∧ SqT K H p [.ref x, .ref y] ∧ SqT K H x (b.map V.int) ∧ SqT K H y (a.map V.int)
theorem PairT.kd {K : PySem.W.Frag} {H H' : Hp} {d : Addr} {v : V} {b a : List Int} (k : Kd d H H') (h : PairT K H v b a) : PairT K H' v b a := by
  obtain ⟨p, x, y, e, h1, h2, h3⟩ := h
  exact ⟨p, x, y, e, k.tup h1, k.tup h2, k.tup h3⟩
theorem PairT.same {K : PySem.W.Frag} {H H' : Hp} {v : V} {b a : List Int} (k : Same H H') (h : PairT K H v b a) : PairT K H' v b a := h.kd (d := 0) (Kd.same k)
def dP (b a : List Int) : PyData := .tuple [dI b, dI a]
theorem PairT.dp {K : PySem.W.Frag} {H : Hp} {v : V} {b a : List Int} (h : PairT K H v b a) : Dp K H v (dP b a) := by
  obtain ⟨p, x, y, rfl, h1, h2, h3⟩ := h
  exact .tup h1 (.cons (dpI h2) (.cons (dpI h3) .nil))
theorem shP (b a : List Int) : SeqAt.shaped (dP b a) = true := by
  have h2 : PyData.depth (dP b a) ≤ 64 := by
    show max (PyData.depthAll (b.map PyData.int) + 1) (max (PyData.depthAll (a.map PyData.int) + 1) (PyData.depthAll [])) + 1 ≤ 64
    have := depI b
    have := depI a
    have : PyData.depthAll [] = 0 := by simp [PyData.depthAll]
    omega
  show (((PyData.canLayAll0 (b.map PyData.int)) && ((PyData.canLayAll0 (a.map PyData.int)) && true)) && decide (PyData.depth (dP b a) ≤ 64)) = true
  rw [layI, layI, decide_eq_true h2] <;> rfl
theorem eqvP (b a b' a' : List Int) : PyData.eqv (dP b a) (dP b' a') = decide ((b, a) = (b', a')) := by
  show (PyData.eqv (dI b) (dI b') && (PyData.eqv (dI a) (dI a') && true)) = _
  rw [eqvI, eqvI, Bool.and_true]
  by_cases h : b = b'
  · subst h
    by_cases h2 : a = a'
    · subst h2
      simp
    · simp [h2]
  · simp [h]
/-- as an argument of is_word_in the value gives b -/
def Wv (K : PySem.W.Frag) (H : Hp) (k : Int) (m x : V) (b : Bool) : Prop := (NoT H x ∧ b = false) ∨ ∃ (a : Addr) (xs : List V), x = .ref a ∧ SqT K H a xs ∧ xs.length < 1000000 ∧ (∀ y ∈ xs, Kn K H y) ∧ b = (mostOk m xs.length && xs.all (wn 0 (k - 1)))
theorem NoT.same {H H' : Hp} {v : V} (e : Same H H') (k : NoT H v) : NoT H' v := k.keep fun a o _ h => e a o h
theorem Wv.same {K : PySem.W.Frag} {H H' : Hp} {k : Int} {m x : V} {b : Bool} (s : Same H H') (h : Wv K H k m x b) : Wv K H' k m x b := by
  rcases h with ⟨h, e⟩ | ⟨a, xs, e, h1, h2, h3, h4⟩
  · exact .inl ⟨h.same s, e⟩
  · exact .inr ⟨a, xs, e, same_tup s h1, h2, fun y hy => (h3 y hy).same s, h4⟩
theorem wv_word {K : PySem.W.Frag} {H : Hp} {k : Int} {m : V} {a : Addr} {ns : List Int} (h : SqT K H a (ns.map V.int)) (hl : ns.length < 1000000) (hw : inW k ns) (hm : mostOk m ns.length = true) : Wv K H k m (.ref a) true :=
  .inr ⟨a, _, rfl, h, by rw [List.length_map]; exact hl, ints_kn, by rw [inW_wn hw, List.length_map, hm] <;> rfl⟩
def sp_is_round_in (K : PySem.W.Frag) : Sp := fun vs H Q _ => ∃ (k : Int) (v m : V), vs = [.int k, v, m] ∧ (m = .non ∨ ∃ i, m = .int i) ∧
  ((NoT H v ∧ Q (.bl false) H) ∨ (∃ (a : Addr) (xs : List V), v = .ref a ∧ SqT K H a xs ∧ xs.length ≠ 2 ∧ Q (.bl false) H) ∨
   ∃ (a : Addr) (x y : V) (bx b2 : Bool) (dy : PyData), v = .ref a ∧ SqT K H a [x, y] ∧ Wv K H k m x bx ∧ Wv K H k m y b2 ∧ Dp K H y dy ∧ SeqAt.shaped dy = true ∧ ∀ H', Same H H' → Q (.bl (!PyData.eqv dy (dI []) && (bx && b2))) H')
def sp_require_round (K : PySem.W.Frag) : Sp := fun vs H Q _ => ∃ (k : Int) (v : V) (b a : List Int), vs = [.int k, v] ∧ PairT K H v b a ∧ inW k b ∧ inW k a ∧ a ≠ [] ∧ b.length < 1000000 ∧ a.length < 1000000 ∧ ∀ H', Same H H' → Q .non H'
def sp_least_round_in (K : PySem.W.Frag) : Sp := fun vs H Q _ => ∃ (v : V) (b a : List Int), vs = [v] ∧ PairT K H v b a ∧ a ≠ [] ∧ b.length ≤ 1000 ∧ a.length ≤ 1000 ∧ ∀ v' H', Same H H' → PairT K H' v' (Rd.least b a).1 (Rd.least b a).2 → Q v' H'
def sp_is_round (K : PySem.W.Frag) : Sp := fun vs H Q _ => ∃ (k : Int) (v : V), vs = [.int k, v] ∧ 2 ≤ k ∧ k ≤ 5 ∧
  ((NoT H v ∧ Q (.bl false) H) ∨ (∃ (a : Addr) (xs : List V), v = .ref a ∧ SqT K H a xs ∧ xs.length ≠ 2 ∧ Q (.bl false) H) ∨
   ∃ (a : Addr) (x y : V) (bx b2 : Bool) (dy : PyData), v = .ref a ∧ SqT K H a [x, y] ∧ Wv K H k (.int 60) x bx ∧ Wv K H k (.int 60) y b2 ∧ Dp K H y dy ∧ SeqAt.shaped dy = true ∧ ∀ H', Same H H' → Q (.bl (!PyData.eqv dy (dI []) && (bx && b2))) H')
def sp_least_round (K : PySem.W.Frag) : Sp := fun vs H Q _ => ∃ (k : Int) (v : V) (b a : List Int), vs = [.int k, v] ∧ 2 ≤ k ∧ k ≤ 5 ∧ PairT K H v b a ∧ inW k b ∧ inW k a ∧ a ≠ [] ∧ b.length ≤ 1000 ∧ a.length ≤ 1000 ∧
  ∀ v' H', Same H H' → PairT K H' v' (Rd.least b a).1 (Rd.least b a).2 → Q v' H'
/-- the first letters of the endless word -/
def firstL (b a : List Int) (n : Nat) : List Int := (List.range n).map fun i => (Rd.ltr b a i).getD 0
def sp_letters_of (K : PySem.W.Frag) : Sp := fun vs H Q _ => ∃ (k : Int) (v : V) (b a : List Int) (n : Nat), vs = [.int k, v, .int n] ∧ 2 ≤ k ∧ k ≤ 5 ∧ PairT K H v b a ∧ inW k b ∧ inW k a ∧ a ≠ [] ∧ b.length ≤ 1000 ∧ a.length ≤ 1000 ∧ n ≤ 2000 ∧
  ∀ p H', Same H H' → SqT K H' p ((firstL b a n).map V.int) → Q (.ref p) H'
end Br
namespace Br
open PySem PySem.Spec PyProof.Rows L2
theorem map_take {f : Int → V} {n : Nat} {xs : List Int} : (xs.map f).take n = (xs.take n).map f := by rw [List.map_take]
theorem map_rep {n : Nat} {xs : List Int} : (List.replicate n (xs.map V.int)).flatten = (Rd.rep n xs).map V.int := by
  unfold Rd.rep
  rw [List.map_flatten, List.map_replicate]
theorem k_of {n : Int} (h0 : 0 ≤ n) (h : n < 100000) : n.natAbs < 2 ^ 64 := by omega
/-- the test of a size -/
def okS (a : List Int) (t : Nat) : Bool := decide (a.length % t = 0) && Rd.isRep a t
theorem okS_rep {a : List Int} {t : Nat} (h1 : 1 ≤ t) (h2 : t ≤ a.length) : okS a t = Rd.isRep a t := by
  unfold okS
  cases h : Rd.isRep a t with
  | true => rw [decide_eq_true (Rd.isRep_len h1 h2 h)] <;> rfl
  | false => rw [Bool.and_false]
theorem leastS_of {a : List Int} {t : Nat} (h1 : 1 ≤ t) (h2 : t ≤ a.length) (h : okS a t = true) (hl : ∀ u, 1 ≤ u → u < t → okS a u = false) : Rd.leastS a = t :=
  Rd.leastS_eq h1 h2 (by rw [← okS_rep h1 h2]; exact h) fun u u1 u2 => by rw [← okS_rep u1 (by omega)]; exact hl u u1 u2
theorem atLast {xs : List V} {x : V} (h : xs.getLast? = some x) : atI xs (-1) = some x := by
  obtain ⟨c, rfl⟩ : ∃ c, xs = c ++ [x] := by
    have hne : xs ≠ [] := fun z => by rw [z] at h; cases h
    refine ⟨xs.dropLast, ?_⟩
    rw [List.getLast?_eq_getLast hne] at h
    have := List.dropLast_concat_getLast hne
    rw [Option.some.inj h] at this
    exact this.symm
  exact atI_last _ _
end Br
namespace Br
open PySem PySem.Spec PyProof.Rows L2
/-! ### the laws' helpers -/
def dLi (ns : List Int) : PyData := .list (ns.map .int)
theorem dpLi {K : PySem.W.Frag} {H : Hp} {a : Addr} {ns : List Int} (h : SqL K H a (ns.map V.int)) : Dp K H (.ref a) (dLi ns) := .lst h (dpAllI ns)
theorem shLi (ns : List Int) : SeqAt.shaped (dLi ns) = true := shI ns
theorem eqvLi (xs ys : List Int) : PyData.eqv (dLi xs) (dLi ys) = decide (xs = ys) := eqvAllI xs ys
theorem firstL_of {b a : List Int} {j n : Nat} (h : n ≤ (b ++ Rd.rep j a).length) : (b ++ Rd.rep j a).take n = firstL b a n := by
  refine List.ext_getElem? fun i => ?_
  unfold firstL
  by_cases hi : i < n
  · rw [List.getElem?_take_of_lt hi, Rd.app_get j i (by omega), List.getElem?_map, List.getElem?_range hi]
    have := Rd.app_get (b := b) (a := a) j i (by omega)
    rw [List.getElem?_eq_getElem (by omega)] at this
    rw [Option.map_some, ← this] <;> rfl
  · rw [List.getElem?_eq_none (by rw [List.length_take]; omega), List.getElem?_eq_none (by rw [List.length_map, List.length_range]; omega)]
theorem firstL_eq {b a b' a' : List Int} (n : Nat) (h : ∀ i, i < n → Rd.ltr b a i = Rd.ltr b' a' i) : firstL b a n = firstL b' a' n := by
  unfold firstL
  refine List.map_congr_left fun i hi => ?_
  rw [h i (List.mem_range.mp hi)]
theorem firstL_inj {b a b' a' : List Int} (ha : a ≠ []) (ha' : a' ≠ []) {n : Nat} (h : firstL b a n = firstL b' a' n) : ∀ i, i < n → Rd.ltr b a i = Rd.ltr b' a' i := fun i hi => by
  have := congrArg (fun l => l[i]?) h
  unfold firstL at this
  simp only [List.getElem?_map, List.getElem?_range hi, Option.map_some] at this
  obtain ⟨x, hx⟩ := Rd.ltr_some (b := b) ha i
  obtain ⟨y, hy⟩ := Rd.ltr_some (b := b') ha' i
  rw [hx, hy] at this ⊢
  have := Option.some.inj this
  simp at this
  rw [this]
def sp_law_rd_least (K : PySem.W.Frag) : Sp := fun vs H Q _ => ∃ (x y : Addr) (b a : List Int), vs = [.ref x, .ref y] ∧ SqT K H x (b.map V.int) ∧ SqT K H y (a.map V.int) ∧ a ≠ [] ∧ b.length ≤ 1000 ∧ a.length ≤ 1000 ∧ ∀ v' H', Same H H' → PairT K H' v' (Rd.least b a).1 (Rd.least b a).2 → Q v' H'
def sp_law_rd_letters (K : PySem.W.Frag) : Sp := fun vs H Q _ => ∃ (v : V) (b a : List Int) (n : Nat), vs = [v, .int n] ∧ PairT K H v b a ∧ a ≠ [] ∧ b.length ≤ 1000 ∧ a.length ≤ 1000 ∧ n ≤ 5000 ∧ ∀ p H', Same H H' → SqT K H' p ((firstL b a n).map V.int) → Q (.ref p) H'
def sp_law_rd_drawn (K : PySem.W.Frag) : Sp := fun vs H Q _ => ∃ (d : Addr) (k : Int) (m n : Nat), vs = [.ref d, .int k, .int m] ∧ Dice H d n ∧ n < 2 ^ 58 ∧ 1 ≤ m ∧ m ≤ 100 ∧ 0 < k ∧ k.natAbs < 2 ^ 31 ∧
  ∀ v b a H', Kd d H H' → Dice H' d (n + 300) → PairT K H' v b a → inW k b → inW k a → a ≠ [] → b.length ≤ m → a.length ≤ m → Q v H'
def sp_law_wider (K : PySem.W.Frag) : Sp := fun vs H Q _ => ∃ (d : Addr) (v : V) (k : Int) (b a : List Int) (n : Nat), vs = [.ref d, v] ∧ Dice H d n ∧ n < 2 ^ 58 ∧ PairT K H v b a ∧ inW k b ∧ inW k a ∧ a ≠ [] ∧ b.length ≤ 200 ∧ a.length ≤ 200 ∧
  ∀ v' b' a' H', Kd d H H' → Dice H' d (n + 10) → PairT K H' v' b' a' → inW k b' → inW k a' → a' ≠ [] → b'.length ≤ b.length + 3 → a'.length ≤ 3 * a.length → (∀ i, Rd.ltr b' a' i = Rd.ltr b a i) → Q v' H'
end Br

/-! Dicts of mine whose keys are tuples of ints, texts and tuples, as deep as wanted. -/
namespace Br
open PySem PySem.Spec PyProof.Rows L2

/-- two lists, item by item -/
def F2 {α β : Type} (R : α → β → Prop) : List α → List β → Prop
  | [], [] => True
  | a :: l, b :: m => R a b ∧ F2 R l m
  | _, _ => False
theorem F2.length {α β : Type} {R : α → β → Prop} : ∀ {l : List α} {m : List β}, F2 R l m → l.length = m.length
  | [], [], _ => rfl
  | _ :: _, _ :: _, h => by rw [List.length_cons, List.length_cons, F2.length h.2]
theorem F2.imp {α β : Type} {R S : α → β → Prop} (i : ∀ a b, R a b → S a b) : ∀ {l : List α} {m : List β}, F2 R l m → F2 S l m
  | [], [], _ => trivial
  | _ :: _, _ :: _, h => ⟨i _ _ h.1, F2.imp i h.2⟩
theorem F2.get {α β : Type} {R : α → β → Prop} : ∀ {l : List α} {m : List β} {i : Nat} {a : α}, F2 R l m → l[i]? = some a → ∃ b, m[i]? = some b ∧ R a b := by
  intro l
  induction l with
  | nil => intro m i a _ e; simp at e
  | cons x l ih =>
    intro m i a h e
    cases m with
    | nil => exact False.elim h
    | cons y m =>
      cases i with
      | zero => exact ⟨y, rfl, by cases e; exact h.1⟩
      | succ i =>
        obtain ⟨b, p, q⟩ := ih (i := i) h.2 e
        exact ⟨b, p, q⟩
theorem F2.append {α β : Type} {R : α → β → Prop} : ∀ {l l' : List α} {m m' : List β}, F2 R l m → F2 R l' m' → F2 R (l ++ l') (m ++ m')
  | [], _, [], _, _, h => h
  | _ :: _, _, _ :: _, _, g, h => ⟨g.1, F2.append g.2 h⟩
theorem F2.of {α β : Type} {R : α → β → Prop} : ∀ {l : List α} {m : List β}, l.length = m.length → (∀ (i : Nat) a b, l[i]? = some a → m[i]? = some b → R a b) → F2 R l m
  | [], [], _, _ => trivial
  | a :: l, b :: m, e, h => ⟨h 0 a b rfl rfl, F2.of (Nat.succ.inj e) fun i x y p q => h (i + 1) x y p q⟩

/-! ### kinds of key -/
structure VKd (P : Program) (w : World) (κ : Type) [DecidableEq κ] where
  is : Heap → κ → Value → Prop
  hash : κ → Int
  draws : κ → Nat
  deep : Nat
  inj : ∀ {h : Heap} {v : Value} {x y : κ}, is h x v → is h y v → x = y
  keeps : ∀ {h h' : Heap} {k : κ} {v : Value} {d : Addr} {o : Obj} {es ep}, is h k v → h.get? d = some o → o.data = .dict es ep → Heap.SameBut d h h' → is h' k v
  pyHash : ∀ {A : Around} {E : Value → Shared → Prop} {s : Shared} {k : κ} {v : Value} {Q : Int → Shared → Prop}, A.units + deep < cLine → is s.heap k v → Q (hash k) { s with toks := s.toks + draws k } →
    wpAny (model P w) A (PySem.pyHash v) Q E s
  eqBool : ∀ {A : Around} {E : Value → Shared → Prop} {s : Shared} {x y : κ} {u v : Value} {Q : Bool → Shared → Prop}, A.units + deep < cLine → is s.heap x u → is s.heap y v → Q (decide (x = y)) s →
    wpAny (model P w) A (PySem.eqBool u v) Q E s
  quiet : ∀ {A : Around} {E : Value → Shared → Prop} {s : Shared} {n : Nat} {k : κ} {v : Value} {Q : Bool → Shared → Prop}, deep ≤ n → is s.heap k v → Q true s → wpAny (model P w) A (eqIsQuiet n v) Q E s

section
variable {P : Program} {w : World}
def vk0 (P : Program) (w : World) : VKd P w Key where
  is := fun _ k v => (mixKind P w).is k v = true
  hash := (mixKind P w).hash
  draws := fun _ => 1
  deep := 0
  inj := fun hx hy => (mixKind P w).inj _ _ _ hx hy
  keeps := fun h _ _ _ => h
  pyHash := fun _ h q => (mixKind P w).pyHash h q
  eqBool := fun _ hx hy q => (mixKind P w).eqBool hx hy q
  quiet := fun _ h q => by
    rw [eqIsQuiet_byValue _ ((mixKind P w).byValue _ _ h)]
    exact wpAny_pure q
end
section
variable {P : Program} {w : World} {κ : Type} [DecidableEq κ] (kd : VKd P w κ)
/-- the tuple at a has the items ks -/
def TupIs (h : Heap) (ks : List κ) (a : Addr) : Prop := ∃ o items n, h.get? a = some o ∧ o.cls = .type "tuple" ∧ o.data = .seq items n ∧ F2 (kd.is h) ks items.toList
variable {kd}
theorem f2_inj {h : Heap} : ∀ {x y : List κ} {vs : List Value}, F2 (kd.is h) x vs → F2 (kd.is h) y vs → x = y
  | [], [], [], _, _ => rfl
  | _ :: _, _ :: _, _ :: _, p, q => by rw [kd.inj p.1 q.1, f2_inj p.2 q.2]
  | [], _ :: _, [], _, q => False.elim q
  | _ :: _, [], [], p, _ => False.elim p
theorem TupIs.typeIs {s : Shared} {ks : List κ} {a : Addr} (x : TupIs kd s.heap ks a) : s.TypeIs (.ref a) "tuple" := let ⟨o, _, _, e, c, _⟩ := x; ⟨o, e, c⟩
theorem TupIs.inj {h : Heap} {a : Addr} {x y : List κ} (p : TupIs kd h x a) (q : TupIs kd h y a) : x = y := by
  obtain ⟨o, its, n, e, _, d, f⟩ := p
  obtain ⟨o', its', n', e', _, d', f'⟩ := q
  rw [e] at e'
  cases e'
  rw [d] at d'
  cases d'
  exact f2_inj f f'
theorem TupIs.keeps {h h' : Heap} {ks : List κ} {a d : Addr} {o : Obj} {es ep} (x : TupIs kd h ks a) (ho : h.get? d = some o) (hd : o.data = .dict es ep) (hs : Heap.SameBut d h h') : TupIs kd h' ks a := by
  obtain ⟨o', its, n, e, c, dd, f⟩ := x
  refine ⟨o', its, n, (hs.2 a fun z => ?_).trans e, c, dd, f.imp fun k v q => kd.keeps q ho hd hs⟩
  subst z
  rw [e] at ho
  cases ho
  rw [dd] at hd
  cases hd
def tupH (kd : VKd P w κ) (ks : List κ) : Int := reduceHash (Builtin.Tuple.tupleHashOf (ks.map kd.hash))
def tupD (kd : VKd P w κ) (ks : List κ) : Nat := (ks.map kd.draws).sum + 1
variable {A : Around} {E : Value → Shared → Prop} {s : Shared}
theorem hash_tup {ks : List κ} {a : Addr} {Q : Int → Shared → Prop} (hu : A.units + (kd.deep + 1) < cLine) (hk : TupIs kd s.heap ks a) (h : Q (tupH kd ks) { s with toks := s.toks + tupD kd ks }) :
    wpAny (model P w) A (pyHash (.ref a)) Q E s := by
  have hT := hk.typeIs
  obtain ⟨o, items, n, ho, _, hd, hi⟩ := hk
  unfold pyHash
  first | unfold pyHashByItsType | skip
  first | refine wpAny_bind (wpAny_cRoomFor_or (.inr (by omega)) ?_) | skip
  refine wpAny_bind (wpAny_specialOf hT PySem.F.slot_tuple_hash.lookup ?_)
  rw [if_neg (by rw [beq_builtin_none]; exact Bool.false_ne_true)]
  refine wpAny_bind (wpAny_specialOf hT PySem.F.slot_tuple_hash.lookup ?_)
  show wpAny _ _ (callSpecialIfBoundUnlessNone? (.ref a) "__hash__" _ >>= _) Q E s
  refine wpAny_bind (wpAny_callSpecialIfBoundUnlessNone?_slot hT PySem.F.slot_tuple_hash (wpAny_call_entry PySem.F.slot_tuple_hash hT PySem.F.entry_tuple_hash ?_ (PySem.F.args_tuple_hash_1 _)))
  show wpAny _ _ (Builtin.Tuple.tupleItemsOf (.ref a) >>= _) _ _ s
  refine wpAny_bind (wpAny_tupleItemsOf ho hd ?_)
  refine wpAny_bind ?_
  rw [← Array.forIn_toList]
  refine wpAny_forIn_list _ (fun rest (b : Array Int) s' => ∃ done left, ks = done ++ left ∧ F2 (kd.is s.heap) left rest ∧ b.toList = done.map kd.hash ∧ s' = { s with toks := s.toks + (done.map kd.draws).sum }) _ ?_ ?_ _ _
    ⟨[], ks, rfl, hi, rfl, rfl⟩
  · rintro x rest b s' ⟨done, left, rfl, hl, hb, rfl⟩
    cases left with
    | nil => exact False.elim hl
    | cons k left =>
      refine wpAny_bind (kd.pyHash (by show A.units + 1 + kd.deep < cLine; omega) hl.1 ?_)
      have nx : (done ++ k :: left) = (done ++ [k]) ++ left ∧ F2 (kd.is s.heap) left rest ∧ (b.push (kd.hash k)).toList = (done ++ [k]).map kd.hash ∧ ({ s with toks := s.toks + (done.map kd.draws).sum + kd.draws k } : Shared) = { s with toks := s.toks + ((done ++ [k]).map kd.draws).sum } := by
        refine ⟨by simp, hl.2, by simp [hb], ?_⟩
        have e : s.toks + (done.map kd.draws).sum + kd.draws k = s.toks + ((done ++ [k]).map kd.draws).sum := by simp [Nat.add_assoc]
        rw [e]
      first
        | exact wpAny_pure ⟨done ++ [k], left, nx⟩
        | exact wpAny_bind (wpAny_pure (wpAny_pure ⟨done ++ [k], left, nx⟩))
  · rintro b s' ⟨done, left, rfl, hl, hb, rfl⟩
    cases left with
    | cons k left => exact False.elim hl
    | nil =>
      rw [List.append_nil] at h
      show wpAny _ _ (retInt (Builtin.Tuple.tupleHashOf b.toList)) _ _ _
      rw [hb]
      refine wpAny_ret_mkInt ?_
      have et : s.toks + (done.map kd.draws).sum + 1 = s.toks + tupD kd done := by unfold tupD; omega
      rw [← et] at h
      show wpAny _ _ (if (decide (-(2 : Int) ^ 63 ≤ Builtin.Tuple.tupleHashOf (done.map kd.hash)) && decide (Builtin.Tuple.tupleHashOf (done.map kd.hash) < 2 ^ 63)) = true then _ else _) Q E _
      unfold tupH reduceHash at h
      split at h
      · rename_i hr
        rw [if_pos hr]
        exact wpAny_pure h
      · rename_i hr
        rw [if_neg hr]
        exact wpAny_bind (wpAny_rule (wpAny_pure h))
theorem F2.quietL {R : Value → Prop} : ∀ {ks : List κ} {vs : List Value}, F2 (kd.is s.heap) ks vs → ∀ v ∈ vs, ∃ k, kd.is s.heap k v := by
  intro ks
  induction ks with
  | nil =>
    intro vs h v hv
    cases vs with
    | nil => simp at hv
    | cons _ _ => exact False.elim h
  | cons k ks ih =>
    intro vs h v hv
    cases vs with
    | nil => exact False.elim h
    | cons x vs =>
      rcases List.mem_cons.mp hv with rfl | hv
      · exact ⟨k, h.1⟩
      · exact ih h.2 v hv
theorem quiet_tup {n : Nat} {ks : List κ} {a : Addr} {Q : Bool → Shared → Prop} (hn : kd.deep + 1 ≤ n) (hk : TupIs kd s.heap ks a) (h : Q true s) : wpAny (model P w) A (eqIsQuiet n (.ref a)) Q E s := by
  have hT := hk.typeIs
  obtain ⟨o, items, m, ho, _, hd, hi⟩ := hk
  cases n with
  | zero => omega
  | succ n =>
    unfold eqIsQuiet
    refine wpAny_bind (wpAny_specialOf hT PySem.F.slot_tuple_eq.lookup ?_)
    show wpAny _ _ (isInstance (.ref a) (.type "tuple") >>= _) _ _ s
    refine wpAny_bind (wpAny_isInstance hT isSubtype_tuple_tuple ?_)
    simp only [Bool.not_true, Bool.false_eq_true, if_false]
    refine wpAny_bind (wpAny_seqItems ho hd ?_)
    refine wpAny_bind ?_
    show wpAny _ _ (forIn items _ _) _ _ s
    rw [← Array.forIn_toList]
    refine wpAny_forIn_list _ (fun rest r s' => r.1 = none ∧ s' = s ∧ ∀ v ∈ rest, ∃ k, kd.is s.heap k v) _ ?_ ?_ _ _ ⟨rfl, rfl, F2.quietL (R := fun _ => True) hi⟩
    · rintro v rest r s' ⟨hr, rfl, hall⟩
      obtain ⟨k, hk⟩ := hall v List.mem_cons_self
      refine wpAny_bind (kd.quiet (by omega) hk ?_)
      simp only [Bool.not_true, Bool.false_eq_true, if_false]
      exact wpAny_pure ⟨rfl, rfl, fun u hu' => hall u (List.mem_cons_of_mem _ hu')⟩
    · rintro ⟨r1, r2⟩ s' ⟨hr, rfl, _⟩
      simp only at hr
      subst hr
      exact wpAny_pure h
theorem eqtree_tup {x y : List κ} {a b : Addr} {Q : Fin → Shared → Prop} (hu : A.units + kd.deep < cLine) (hx : TupIs kd s.heap x a) (hy : TupIs kd s.heap y b) (h : Q (.done (.ret (.bool (decide (x = y))))) s) :
    wpAny (model P w) A (Builtin.«tuple.__eq__» ⟨[.ref a, .ref b], []⟩) Q E s := by
  have hTb := hy.typeIs
  obtain ⟨oa, xs, na, hoa, _, hda, hia⟩ := hx
  obtain ⟨ob, ys, nb, hob, _, hdb, hib⟩ := hy
  show wpAny _ _ (isInstance (.ref b) (.type "tuple") >>= _) _ _ s
  refine wpAny_bind (wpAny_isInstance hTb isSubtype_tuple_tuple ?_)
  simp only [Bool.not_true, Bool.false_eq_true, if_false]
  refine wpAny_bind (wpAny_tupleItemsOf hoa hda (wpAny_bind (wpAny_tupleItemsOf hob hdb (wpAny_bind ?_))))
  refine wpAny_forIn_list _ (fun rest r s' => r.1 = none ∧ s' = s ∧ ∃ x' y' xs' ys', rest = List.zip xs' ys' ∧ F2 (kd.is s.heap) x' xs' ∧ F2 (kd.is s.heap) y' ys' ∧ decide (x' = y') = decide (x = y) ∧ (xs'.length == ys'.length) = (xs.size == ys.size)) _ ?_ ?_ _ _
    ⟨rfl, rfl, x, y, xs.toList, ys.toList, rfl, hia, hib, rfl, by simp⟩
  · rintro ⟨u, v⟩ rest r s' ⟨hr, rfl, x', y', xs', ys', hz, hx', hy', hdec, hlen⟩
    cases xs' with
    | nil => simp at hz
    | cons u' xs'' =>
    cases ys' with
    | nil => simp at hz
    | cons v' ys'' =>
    cases x' with
    | nil => exact False.elim hx'
    | cons k1 x'' =>
    cases y' with
    | nil => exact False.elim hy'
    | cons k2 y'' =>
      simp only [List.zip_cons_cons, List.cons.injEq, Prod.mk.injEq] at hz
      obtain ⟨⟨rfl, rfl⟩, rfl⟩ := hz
      refine wpAny_bind (kd.eqBool (x := k1) (y := k2) hu hx'.1 hy'.1 ?_)
      by_cases hk : k1 = k2
      · subst hk
        rw [decide_eq_true rfl]
        simp only [Bool.not_true, Bool.false_eq_true, if_false]
        refine wpAny_pure ⟨rfl, rfl, x'', y'', xs'', ys'', rfl, hx'.2, hy'.2, ?_, by simpa using hlen⟩
        rw [← hdec]
        by_cases hxy : x'' = y'' <;> simp [hxy]
      · rw [decide_eq_false hk]
        simp only [Bool.not_false, if_true]
        have hf : decide (x = y) = false := by rw [← hdec]; simp [hk]
        rw [hf] at h
        exact wpAny_bind (wpAny_pure (wpAny_pure (wpAny_pure h)))
  · rintro ⟨r1, r2⟩ s' ⟨hr, rfl, x', y', xs', ys', hz, hx', hy', hdec, hlen⟩
    simp only at hr
    subst hr
    refine wpAny_pure ?_
    have hfin : (xs.size == ys.size) = decide (x = y) := by
      rw [← hdec, ← hlen]
      cases xs' with
      | nil =>
        cases x' with
        | cons _ _ => exact False.elim hx'
        | nil =>
        cases ys' with
        | nil =>
          cases y' with
          | nil => simp
          | cons _ _ => exact False.elim hy'
        | cons _ _ =>
          cases y' with
          | nil => exact False.elim hy'
          | cons _ _ => simp
      | cons _ _ =>
        cases x' with
        | nil => exact False.elim hx'
        | cons _ _ =>
        cases ys' with
        | nil =>
          cases y' with
          | nil => simp
          | cons _ _ => exact False.elim hy'
        | cons _ _ => simp at hz
    show Q (.done (.ret (.bool (xs.size == ys.size)))) s'
    rw [hfin]
    exact h
theorem eq_tup {x y : List κ} {a b : Addr} {Q : Bool → Shared → Prop} (hu : A.units + (kd.deep + 1) < cLine) (hx : TupIs kd s.heap x a) (hy : TupIs kd s.heap y b) (h : Q (decide (x = y)) s) : wpAny (model P w) A (eqBool (.ref a) (.ref b)) Q E s := by
  unfold eqBool
  try with_reducible refine wpAny_holding ?_
  show wpAny _ _ (if (Value.ref a == Value.ref b) = true then _ else _) Q E s
  by_cases hab : (Value.ref a == Value.ref b) = true
  · rw [if_pos hab]
    have e : a = b := by
      have := eq_of_beq hab
      injection this
    subst e
    obtain rfl := hx.inj hy
    exact wpAny_bind (wpAny_rule (wpAny_pure (by simpa using h)))
  · rw [if_neg hab]
    refine wpAny_bind (wpAny_richCompare_same_room (op := .Eq) hx.typeIs hy.typeIs PySem.F.slot_tuple_eq (wpAny_call_entry PySem.F.slot_tuple_eq hx.typeIs PySem.F.entry_tuple_eq (eqtree_tup ?_ hx hy ⟨_, rfl, (fun e => nomatch e), wpAny_truthy_bool h⟩) (PySem.F.args_tuple_eq_2 _ _)) (by omega))
    show A.units + 1 + kd.deep < cLine
    omega
end
/-- tuples of such as keys of a dict -/
def hkd {P : Program} {w : World} {κ : Type} [DecidableEq κ] (kd : VKd P w κ) (hd : kd.deep + 1 ≤ 8) : HeapKind P w (List κ) where
  is := TupIs kd
  hash := tupH kd
  draws := tupD kd
  room := fun A => A.units + (kd.deep + 1) < cLine
  inj := fun p q => p.inj q
  keeps := fun p a b c => p.keeps a b c
  pyHash := fun hu hk h => hash_tup hu hk h
  eqBool := fun hu hx hy h => eq_tup hu hx hy h
  quiet := fun hk h => quiet_tup hd hk h
/-- one step deeper: what it was, or a tuple of such -/
def vkS {P : Program} {w : World} {κ : Type} [DecidableEq κ] (kd : VKd P w κ) : VKd P w (Key ⊕ List κ) where
  is := fun h k v => match k with
    | .inl k => (mixKind P w).is k v = true
    | .inr ks => ∃ a, v = .ref a ∧ TupIs kd h ks a
  hash := fun k => match k with
    | .inl k => (mixKind P w).hash k
    | .inr ks => tupH kd ks
  draws := fun k => match k with
    | .inl _ => 1
    | .inr ks => tupD kd ks
  deep := kd.deep + 1
  inj := fun {h v x y} p q => by
    cases x with
    | inl x =>
      cases y with
      | inl y => rw [(mixKind P w).inj _ _ _ p q]
      | inr y =>
        obtain ⟨a, rfl, _⟩ := q
        exact absurd ((mixKind P w).byValue _ _ p) (by simp [carriedByValue])
    | inr x =>
      obtain ⟨a, rfl, p⟩ := p
      cases y with
      | inl y => exact absurd ((mixKind P w).byValue _ _ q) (by simp [carriedByValue])
      | inr y =>
        obtain ⟨b, e, q⟩ := q
        cases e
        rw [p.inj q]
  keeps := fun {h h' k v d o es ep} p a b c => by
    cases k with
    | inl k => exact p
    | inr k =>
      obtain ⟨x, e, p⟩ := p
      exact ⟨x, e, p.keeps a b c⟩
  pyHash := fun {A E s k v Q} hu p q => by
    cases k with
    | inl k => exact (mixKind P w).pyHash p q
    | inr k =>
      obtain ⟨x, rfl, p⟩ := p
      exact hash_tup hu p q
  eqBool := fun {A E s x y u v Q} hu p q h => by
    cases x with
    | inl x =>
      cases y with
      | inl y => exact (mixKind P w).eqBool p q (by rw [show decide (x = y) = decide ((Sum.inl x : Key ⊕ List κ) = Sum.inl y) by simp]; exact h)
      | inr y =>
        obtain ⟨b, rfl, o, its, n, e, c, dd, _⟩ := q
        have hl : s.heap.IsTuple b its := ⟨o, e, c, n, dd⟩
        have hn : decide ((Sum.inl x : Key ⊕ List κ) = Sum.inr y) = false := decide_eq_false fun z => nomatch z
        rw [hn] at h
        rcases keyIs_shape p with ⟨i, t, _, rfl⟩ | ⟨z, t, _, rfl⟩
        · exact SeqAt.EqAt.int_tuple i t hl (by omega) P w E _ h
        · exact SeqAt.EqAt.str_tuple z t hl (by omega) P w E _ h
    | inr x =>
      obtain ⟨a, rfl, p⟩ := p
      cases y with
      | inl y =>
        obtain ⟨o, its, n, e, c, dd, _⟩ := p
        have hl : s.heap.IsTuple a its := ⟨o, e, c, n, dd⟩
        have hn : decide ((Sum.inr x : Key ⊕ List κ) = Sum.inl y) = false := decide_eq_false fun z => nomatch z
        rw [hn] at h
        rcases keyIs_shape q with ⟨i, t, _, rfl⟩ | ⟨z, t, _, rfl⟩
        · exact SeqAt.EqAt.tuple_int i t hl (by omega) P w E _ h
        · exact SeqAt.EqAt.tuple_str z t hl (by omega) P w E _ h
      | inr y =>
        obtain ⟨b, rfl, q⟩ := q
        exact eq_tup hu p q (by rw [show decide (x = y) = decide ((Sum.inr x : Key ⊕ List κ) = Sum.inr y) by simp]; exact h)
  quiet := fun {A E s n k v Q} hn p q => by
    cases k with
    | inl k =>
      rw [eqIsQuiet_byValue _ ((mixKind P w).byValue _ _ p)]
      exact wpAny_pure q
    | inr k =>
      obtain ⟨x, rfl, p⟩ := p
      exact quiet_tup (by omega) p q
end Br

namespace Br
open PySem PySem.Spec PyProof.Rows L2
/-! ### what a key is in the abstract heap -/
abbrev D1 : Type := Key ⊕ List Key
abbrev D2 : Type := Key ⊕ List D1
abbrev D3 : Type := Key ⊕ List D2
set_option synthInstance.maxSize 2000
set_option synthInstance.maxHeartbeats 400000
@[reducible] def dec1 : DecidableEq D1 := inferInstance
@[reducible] def dec2 : DecidableEq D2 := @instDecidableEqSum Key (List D1) inferInstance (@instDecidableEqList D1 dec1)
@[reducible] def dec3 : DecidableEq D3 := @instDecidableEqSum Key (List D2) inferInstance (@instDecidableEqList D2 dec2)
instance : DecidableEq D3 := dec3
def ki0 : Hp → Key → V → Prop := fun _ k x => x = kV k
def kiS {κ : Type} (ki : Hp → κ → V → Prop) : Hp → (Key ⊕ List κ) → V → Prop
  | _, .inl k, x => x = kV k
  | H, .inr ks, x => ∃ b xs, x = .ref b ∧ Rd H b (.tup xs) ∧ F2 (ki H) ks xs
abbrev ki3 : Hp → D3 → V → Prop := kiS (kiS (kiS ki0))
/-- the tuple at b, as a key -/
def KeyT (H : Hp) (ks : List D3) (b : Addr) : Prop := ∃ xs, Rd H b (.tup xs) ∧ F2 (ki3 H) ks xs
abbrev vk3 (P : Program) (w : World) : VKd P w D3 := vkS (vkS (vkS (vk0 P w)))
def hk3 (P : Program) (w : World) : HeapKind P w (List D3) := hkd (vk3 P w) (by show 0 + 1 + 1 + 1 + 1 ≤ 8; decide)
/-- the tuples that are kept -/
def TupK (H H' : Hp) : Prop := ∀ b u, (∃ xs, u = .tup xs ∨ ∃ o, u = .frz o (.tup xs)) → H b = some u → H' b = some u
theorem TupK.ex {H H' : Hp} (t : TupK H H') {b : Addr} {xs : List V} (e : H b = some (.tup xs)) : H' b = some (.tup xs) := t b _ ⟨xs, .inl rfl⟩ e
theorem TupK.rd {H H' : Hp} (t : TupK H H') {b : Addr} {xs : List V} (e : Rd H b (.tup xs)) : Rd H' b (.tup xs) := e.imp t.ex fun ⟨o, e⟩ => ⟨o, t b _ ⟨xs, .inr ⟨o, rfl⟩⟩ e⟩
theorem kiS_keep {κ : Type} {ki : Hp → κ → V → Prop} {H H' : Hp} (t : TupK H H') (h : ∀ k x, ki H k x → ki H' k x) : ∀ k x, kiS ki H k x → kiS ki H' k x
  | .inl _, _, e => e
  | .inr _, _, ⟨b, xs, e, hb, f⟩ => ⟨b, xs, e, t.rd hb, f.imp h⟩
theorem KeyT.keep {H H' : Hp} (t : TupK H H') {ks : List D3} {b : Addr} (h : KeyT H ks b) : KeyT H' ks b := by
  obtain ⟨xs, e, f⟩ := h
  exact ⟨xs, t.rd e, f.imp (kiS_keep t (kiS_keep t (kiS_keep t fun _ _ z => z)))⟩
theorem TupK.same {H H' : Hp} (s : Same H H') : TupK H H' := fun b u _ e => s b _ e
theorem TupK.kd {d : Addr} {H H' : Hp} (s : Kd d H H') : TupK H H' := fun b u ⟨xs, h⟩ e => s b _ e fun _ ys z => by
  rcases h with h | ⟨o, h⟩
  · rw [h] at z
    cases z
  · rw [h] at z
    cases z
/-- a store into what is no tuple -/
theorem tupK_upd {H : Hp} {a : Addr} {o : HO} (h : ∀ xs, ¬ Rd H a (.tup xs)) : TupK H (upd H a o) := fun b u ⟨xs, hu⟩ e => by
  have n : b ≠ a := fun z => by
    subst z
    rcases hu with rfl | ⟨o, rfl⟩
    · exact h xs (.inl e)
    · exact h xs (.inr ⟨o, e⟩)
  rw [upd_ne n]
  exact e
section
variable {P : Program} {w : World} {H : Hp} {h : Heap} {κ : Type} [DecidableEq κ] {kd : VKd P w κ} {ki : Hp → κ → V → Prop}
/-- the reading of a kind -/
def Sound (kd : VKd P w κ) (ki : Hp → κ → V → Prop) : Prop := ∀ H h k x u, HOk P w H h → ki H k x → RelV x u → kd.is h k u
theorem sound0 : Sound (vk0 P w) ki0 := fun H h k x u ok e r => by
  cases (show x = kV k from e)
  exact kV_is r
theorem sound_f2 (so : Sound kd ki) (ok : HOk P w H h) : ∀ {ks : List κ} {xs : List V} {vs : List Value}, F2 (ki H) ks xs → Vals xs vs → F2 (kd.is h) ks vs := by
  intro ks
  induction ks with
  | nil =>
    intro xs vs f r
    cases xs with
    | nil => cases r; trivial
    | cons _ _ => exact False.elim f
  | cons k ks ih =>
    intro xs vs f r
    cases xs with
    | nil => exact False.elim f
    | cons x xs =>
      cases r with
      | cons r1 r2 => exact ⟨so _ _ _ _ _ ok f.1 r1, ih f.2 r2⟩
theorem sound_tup (so : Sound kd ki) (ok : HOk P w H h) {ks : List κ} {b : Addr} {xs : List V} (e : Rd H b (.tup xs)) (f : F2 (ki H) ks xs) : TupIs kd h ks b := by
  obtain ⟨_, its, r, o, h1, h2, n, h3⟩ := (show ObjOk P w H h b (.tup xs) from e.ok ok)
  exact ⟨o, its.toArray, n, h1, h2, h3, by rw [List.toList_toArray]; exact sound_f2 so ok f r⟩
theorem soundS (so : Sound kd ki) : Sound (vkS kd) (kiS ki) := fun H h k x u ok e r => by
  cases k with
  | inl k =>
    cases (show x = kV k from e)
    exact kV_is r
  | inr ks =>
    obtain ⟨b, xs, rfl, hb, f⟩ := e
    cases (show u = Value.ref b from r)
    exact ⟨b, rfl, sound_tup so ok hb f⟩
theorem sound3 : Sound (vk3 P w) ki3 := soundS (soundS (soundS sound0))
theorem keyT_is (ok : HOk P w H h) {ks : List D3} {b : Addr} (k : KeyT H ks b) : (hk3 P w).is h ks b := let ⟨_, e, f⟩ := k; sound_tup sound3 ok e f
end
/-! ### the dict -/
def relX (e : List D3 × V) (x : List D3 × Addr × Value) : Prop := e.1 = x.1 ∧ RelV e.2 x.2.2
def dnO (P : Program) (w : World) (a : Addr) (kvs : List (List D3 × V)) (bs : List Addr) : HO := .ext fun h => kvs.length ≤ sizeLine ∧ (a == sysModules) = false ∧ ∃ xs : List (List D3 × Addr × Value), F2 relX kvs xs ∧ xs.map (fun x => x.2.1) = bs ∧
  ∃ o es ep, h.get? a = some o ∧ o.ExactDict ∧ o.data = .dict es ep ∧ es.toList = xs.map (entryOfKey (hk3 P w)) ∧ (xs.map (·.1)).Nodup
def DN (P : Program) (w : World) (H : Hp) (a : Addr) (kvs : List (List D3 × V)) : Prop := ∃ bs, H a = some (dnO P w a kvs bs) ∧ F2 (fun kv b => KeyT H kv.1 b) kvs bs
section
variable {P : Program} {w : World} {H H' : Hp} {h : Heap} {a : Addr} {kvs : List (List D3 × V)}
theorem DN.keep (t : TupK H H') (e : H' a = H a) (d : DN P w H a kvs) : DN P w H' a kvs := by
  obtain ⟨bs, q, f⟩ := d
  exact ⟨bs, e.trans q, f.imp fun _ _ k => k.keep t⟩
theorem DN.same (s : Same H H') (d : DN P w H a kvs) : DN P w H' a kvs := by
  obtain ⟨bs, q, f⟩ := d
  exact ⟨bs, s _ _ q, f.imp fun _ _ k => k.keep (TupK.same s)⟩
theorem DN.not_tup (d : DN P w H a kvs) {xs : List V} (e : Rd H a (.tup xs)) : False := by
  obtain ⟨bs, q, _⟩ := d
  rcases e with e | ⟨u, e⟩
  · rw [q] at e
    unfold dnO at e
    cases e
  · rw [q] at e
    unfold dnO at e
    cases e
theorem DN.some (d : DN P w H a kvs) : ∃ o, H a = some o := let ⟨_, q, _⟩ := d; ⟨_, q⟩
theorem dn_at (ok : HOk P w H h) (d : DN P w H a kvs) : kvs.length ≤ sizeLine ∧ (a == sysModules) = false ∧ ∃ xs : List (List D3 × Addr × Value), F2 relX kvs xs ∧ H a = some (dnO P w a kvs (xs.map fun x => x.2.1)) ∧ F2 (fun kv b => KeyT H kv.1 b) kvs (xs.map fun x => x.2.1) ∧ h.DictOfH (hk3 P w) a xs := by
  obtain ⟨bs, q, f⟩ := d
  obtain ⟨⟨z, y, xs, r, eb, o, es, ep, h1, h2, h3, h4, h5⟩, _⟩ := (show ObjOk P w H h a (dnO P w a kvs bs) from ok a _ q)
  subst eb
  refine ⟨z, y, xs, r, q, f, o, es, ep, h1, h2, h3, h4, ?_, h5⟩
  have all : ∀ (l : List (List D3 × V)) (m : List (List D3 × Addr × Value)), F2 relX l m → F2 (fun (kv : List D3 × V) b => KeyT H kv.1 b) l (m.map fun x => x.2.1) → ∀ x ∈ m, (hk3 P w).is h x.1 x.2.1 := by
    intro l
    induction l with
    | nil =>
      intro m p1 _ x hx
      cases m with
      | nil => simp at hx
      | cons _ _ => exact False.elim p1
    | cons kv l ih =>
      intro m p1 p2 x hx
      cases m with
      | nil => exact False.elim p1
      | cons y m =>
        rcases List.mem_cons.mp hx with rfl | hx
        · rw [← p1.1.1]
          exact keyT_is ok p2.1
        · exact ih m p1.2 p2.2 x hx
  exact all kvs xs r f
/-- what the dict has at k -/
theorem relX_val : ∀ {kvs : List (List D3 × V)} {xs : List (List D3 × Addr × Value)} (k : List D3), F2 relX kvs xs → RelO (valV kvs k) ((atKey xs k).map (·.2)) := by
  intro kvs
  induction kvs with
  | nil =>
    intro xs k f
    cases xs with
    | nil => exact trivial
    | cons _ _ => exact False.elim f
  | cons e kvs ih =>
    intro xs k f
    cases xs with
    | nil => exact False.elim f
    | cons x xs =>
      obtain ⟨⟨e1, r1⟩, f2⟩ := f
      by_cases hk : e.1 = k
      · rw [valV_pos hk]
        have : atKey (x :: xs) k = some x.2 := by
          unfold atKey
          rw [List.find?_cons_of_pos (by rw [← e1]; exact decide_eq_true hk)]
          rfl
        rw [this]
        exact r1
      · rw [valV_neg hk]
        have : atKey (x :: xs) k = atKey xs k := by
          unfold atKey
          rw [List.find?_cons_of_neg (by rw [← e1, decide_eq_false hk]; exact Bool.false_ne_true)]
        rw [this]
        exact ih k f2
end
end Br

namespace Br
open PySem PySem.Spec PyProof.Rows L2
theorem lenN_put {κ : Type} [DecidableEq κ] (kvs : List (κ × V)) (k : κ) (v : V) : (putK kvs k v).length ≤ kvs.length + 1 := length_putK kvs k v
section
variable {kvs : List (List D3 × V)} {xs : List (List D3 × Addr × Value)} {H : Hp}
theorem relX_mapPut {k : List D3} {v : V} {u : Value} (rv : RelV v u) : ∀ {kvs : List (List D3 × V)} {xs : List (List D3 × Addr × Value)}, F2 relX kvs xs → F2 relX (kvs.map fun kv => if kv.1 = k then (kv.1, v) else kv) (xs.map (putAt k u)) := by
  intro kvs
  induction kvs with
  | nil =>
    intro xs f
    cases xs with
    | nil => exact trivial
    | cons _ _ => exact False.elim f
  | cons e kvs ih =>
    intro xs f
    cases xs with
    | nil => exact False.elim f
    | cons x xs =>
      obtain ⟨⟨e1, r1⟩, f2⟩ := f
      refine ⟨?_, ih f2⟩
      unfold putAt
      show relX (if e.1 = k then (e.1, v) else e) (if x.1 = k then (x.1, x.2.1, u) else x)
      by_cases hk : e.1 = k
      · rw [if_pos hk, if_pos (by rw [← e1]; exact hk)]
        exact ⟨e1, rv⟩
      · rw [if_neg hk, if_neg (by rw [← e1]; exact hk)]
        exact ⟨e1, r1⟩
theorem key_mapPut {k : List D3} {v : V} {R : List D3 → Addr → Prop} : ∀ {kvs : List (List D3 × V)} {bs : List Addr}, F2 (fun kv b => R kv.1 b) kvs bs → F2 (fun (kv : List D3 × V) b => R kv.1 b) (kvs.map fun kv => if kv.1 = k then (kv.1, v) else kv) bs := by
  intro kvs
  induction kvs with
  | nil =>
    intro bs f
    cases bs with
    | nil => exact trivial
    | cons _ _ => exact False.elim f
  | cons e kvs ih =>
    intro bs f
    cases bs with
    | nil => exact False.elim f
    | cons x xs =>
      refine ⟨?_, ih f.2⟩
      have q : R e.1 x := f.1
      show R (if e.1 = k then (e.1, v) else e).1 x
      by_cases hk : e.1 = k
      · rw [if_pos hk]
        exact q
      · rw [if_neg hk]
        exact q
end
section
variable {X : Cx} {pins : List (Addr × Obj)} {σ : L2.St} {H : Hp} {s : Shared} {a b : Addr} {k : List D3} {kvs : List (List D3 × V)} {v : V} {r : Value} {A : Around} {E : Value → Shared → Prop}
theorem hk3_room (hu : X.A.units + 64 < cLine) : (hk3 X.prog X.w).room X.A.in1 := by
  show X.A.units + 1 + _ < cLine
  have : (vk3 X.prog X.w).deep + 1 ≤ 20 := by show 0 + 1 + 1 + 1 + 1 ≤ 20; decide
  omega
theorem hk3_room0 (hu : X.A.units + 64 < cLine) : (hk3 X.prog X.w).room X.A := by
  show X.A.units + _ < cLine
  have : (vk3 X.prog X.w).deep + 1 ≤ 20 := by show 0 + 1 + 1 + 1 + 1 ≤ 20; decide
  omega
theorem n_type (I : Inv X pins σ H s) (d : DN X.prog X.w H a kvs) : s.TypeIs (.ref a) "dict" ∧ ∀ b, Value.ref a = .ref b → ∃ ob, s.heap.get? b = some ob ∧ ob.dict = none := by
  obtain ⟨_, hd, xs, _, _, _, dd⟩ := dn_at I.hok d
  refine ⟨dd.typeIs, fun b q => ?_⟩
  cases q
  obtain ⟨ob, _, _, h1, h2, _⟩ := dd
  exact ⟨ob, h1, h2.2.1⟩
theorem n_getItem {Q : Value → Shared → Prop} (hu : X.A.units + 64 < cLine) (I : Inv X pins σ H s) (d : DN X.prog X.w H a kvs) (hk : KeyT H k b) (l : valV kvs k = some v) (h : ∀ w' s', Inv X pins σ H s' → RelV v w' → Q w' s') :
    wpAny (model X.prog X.w) X.A (getItem (.ref a) (.ref b)) Q E s := by
  obtain ⟨_, hd, xs, rel, _, _, dd⟩ := dn_at I.hok d
  obtain ⟨w', hw, rw'⟩ := RelO.some_of (v := v) (o := (atKey xs k).map (·.2)) (by rw [← l]; exact relX_val k rel)
  obtain ⟨p, hp, hp2⟩ := Option.map_eq_some_iff.mp hw
  refine wpAny_getItem_heap (hk3_room hu) (keyT_is I.hok hk) dd hp ?_
  rw [hp2]
  exact h w' _ (I.tok _) rw'
theorem n_in {Q : Value → Shared → Prop} (hu : X.A.units + 64 < cLine) (I : Inv X pins σ H s) (d : DN X.prog X.w H a kvs) (hk : KeyT H k b) (h : ∀ s', Inv X pins σ H s' → Q (.bool (valV kvs k).isSome) s') : wpAny (model X.prog X.w) X.A (compareOp .In (.ref b) (.ref a)) Q E s := by
  obtain ⟨_, hd, xs, rel, _, _, dd⟩ := dn_at I.hok d
  refine wpAny_in_heap (hk3_room hu) (keyT_is I.hok hk) hd dd ?_
  have q := (relX_val k rel).isSome_eq
  rw [Option.isSome_map] at q
  rw [← q]
  exact h _ (I.tok _)
theorem n_notIn {Q : Value → Shared → Prop} (hu : X.A.units + 64 < cLine) (I : Inv X pins σ H s) (d : DN X.prog X.w H a kvs) (hk : KeyT H k b) (h : ∀ s', Inv X pins σ H s' → Q (.bool (!(valV kvs k).isSome)) s') : wpAny (model X.prog X.w) X.A (compareOp .NotIn (.ref b) (.ref a)) Q E s := by
  obtain ⟨_, hd, xs, rel, _, _, dd⟩ := dn_at I.hok d
  refine wpAny_notIn_heap (hk3_room hu) (keyT_is I.hok hk) hd dd ?_
  have q := (relX_val k rel).isSome_eq
  rw [Option.isSome_map] at q
  rw [← q]
  exact h _ (I.tok _)
theorem n_get2 {d' : V} {Q : Value → Shared → Prop} (hu : X.A.units + 64 < cLine) (I : Inv X pins σ H s) (d : DN X.prog X.w H a kvs) (hk : KeyT H k b) (rd : RelV d' r) (h : ∀ w' s', Inv X pins σ H s' → RelV ((valV kvs k).getD d') w' → Q w' s') :
    wpAny (model X.prog X.w) X.A (call (.builtin "dict.get") [.ref a, .ref b, r]) Q E s := by
  obtain ⟨_, hd, xs, rel, _, _, dd⟩ := dn_at I.hok d
  exact call_meetsIn PySem.F.slot_dict_get dd.typeIs PySem.F.entry_dict_get (PySem.F.args_dict_get_3 _ _ _) (meetsH_dict_get_default (hk3 X.prog X.w) a b hd r) ⟨hk3_room hu, k, xs, keyT_is I.hok hk, dd, h _ _ (I.tok _) ((relX_val k rel).getD rd)⟩
/-- the heap behind a[b] = v -/
def PutN (P : Program) (w : World) (a : Addr) (kvs : List (List D3 × V)) (k : List D3) (v : V) (H : Hp) (N : Hp → Prop) : Prop := ∀ o, DN P w (upd H a o) a (putK kvs k v) → N (upd H a o)
theorem n_stored {N : Hp → Prop} {xs : List (List D3 × Addr × Value)} {h' : Heap} {t' : Nat} (I : Inv X pins σ H s) (d : DN X.prog X.w H a kvs) (hk : KeyT H k b) (hz : kvs.length < 1000000) (rv : RelV v r) (n : PutN X.prog X.w a kvs k v H N) (hd : (a == sysModules) = false) (rel : F2 relX kvs xs)
    (eH : H a = some (dnO X.prog X.w a kvs (xs.map fun x => x.2.1))) (fk : F2 (fun (kv : List D3 × V) c => KeyT H kv.1 c) kvs (xs.map fun x => x.2.1)) (dd' : h'.DictOfH (hk3 X.prog X.w) a (storedH xs k b r)) (hs : Heap.SameBut a s.heap h') :
    ∃ H', Inv X pins σ H' { s with heap := h', toks := t' } ∧ N H' := by
  have hl : (putK kvs k v).length ≤ sizeLine := by
    have h1 := length_putK kvs k v
    have h2 : kvs.length + 1 ≤ sizeLine := sz hz
    omega
  obtain ⟨q, es, ep, hq, h2, h3, h4, _, h5⟩ := dd'
  -- the keys' places behind it
  have tk : ∀ o, TupK H (upd H a o) := fun o => tupK_upd fun xs e => d.not_tup e
  have both : F2 relX (putK kvs k v) (storedH xs k b r) ∧ F2 (fun (kv : List D3 × V) c => KeyT H kv.1 c) (putK kvs k v) ((storedH xs k b r).map fun x => x.2.1) := by
    have rv0 := relX_val k rel
    cases e : valV kvs k with
    | none =>
      have ea : atKey xs k = none := by
        rw [e] at rv0
        cases ea : atKey xs k with
        | none => rfl
        | some p =>
          rw [ea] at rv0
          exact False.elim rv0
      rw [putK_new v e, storedH_new ea]
      refine ⟨rel.append ⟨⟨rfl, rv⟩, trivial⟩, ?_⟩
      rw [List.map_append]
      exact fk.append ⟨hk, trivial⟩
    | some v0 =>
      obtain ⟨p, ea⟩ : ∃ p, atKey xs k = some p := by
        rw [e] at rv0
        cases ea : atKey xs k with
        | none =>
          rw [ea] at rv0
          exact False.elim rv0
        | some p => exact ⟨p, rfl⟩
      have ep : putK kvs k v = kvs.map fun kv => if kv.1 = k then (kv.1, v) else kv := by
        unfold putK
        rw [if_pos (by rw [valV_any, e]; rfl)]
      rw [ep, storedH_old ea]
      refine ⟨relX_mapPut rv rel, ?_⟩
      have em : (xs.map (putAt k r)).map (fun x => x.2.1) = xs.map fun x => x.2.1 := by
        rw [List.map_map]
        refine List.map_congr_left fun x _ => ?_
        show (putAt k r x).2.1 = x.2.1
        unfold putAt
        split <;> rfl
      rw [em]
      exact key_mapPut (R := KeyT H) fk
  let bs := (storedH xs k b r).map fun x => x.2.1
  have new : ObjOk X.prog X.w (upd H a (dnO X.prog X.w a (putK kvs k v) bs)) h' a (dnO X.prog X.w a (putK kvs k v) bs) :=
    ⟨⟨hl, hd, _, both.1, rfl, q, es, ep, hq, h2, h3, h4, h5⟩, ⟨q, hq⟩, fun h1 h2' ⟨y1, y2, ys, y3, y4, q', es', ep', g1, g2, g3, g4, g5⟩ st => ⟨y1, y2, ys, y3, y4, q', es', ep', st _ g1, g2, g3, g4, g5⟩⟩
  have I' : Inv X pins σ (upd H a (dnO X.prog X.w a (putK kvs k v) bs)) { s with heap := h', toks := t' } := d_write I (by rw [eH]; exact True.intro) hs ⟨q, hq⟩ new
  exact ⟨_, I', n _ ⟨bs, upd_same, both.2.imp fun kv c hkc => hkc.keep (tk _)⟩⟩
theorem n_setItem {N : Hp → Prop} {Q : Unit → Shared → Prop} (hu : X.A.units + 64 < cLine) (I : Inv X pins σ H s) (d : DN X.prog X.w H a kvs) (hk : KeyT H k b) (hz : kvs.length < 1000000) (rv : RelV v r) (n : PutN X.prog X.w a kvs k v H N) (h : ∀ H' s', Inv X pins σ H' s' → N H' → Q () s') :
    wpAny (model X.prog X.w) X.A (setItem (.ref a) (.ref b) r) Q E s := by
  obtain ⟨z, hd, xs, rel, eH, fk, dd⟩ := dn_at I.hok d
  have hzx : xs.length ≤ sizeLine := by rw [← rel.length]; exact z
  refine wpAny_setItem_heap (hsz := hzx) (hk3_room hu) (keyT_is I.hok hk) dd fun h' dd' hs => ?_
  obtain ⟨H', I', n'⟩ := n_stored I d hk hz rv n hd rel eH fk dd' hs
  exact h H' _ I' n'
/-- the dict of a comprehension is stored into -/
theorem n_dictSet {N : Hp → Prop} {Q : Unit → Shared → Prop} (hu : X.A.units + 64 < cLine) (I : Inv X pins σ H s) (d : DN X.prog X.w H a kvs) (hk : KeyT H k b) (hz : kvs.length < 1000000) (rv : RelV v r) (n : PutN X.prog X.w a kvs k v H N) (h : ∀ H' s', Inv X pins σ H' s' → N H' → Q () s') :
    wpAny (model X.prog X.w) X.A (dictSet a (.ref b) r) Q E s := by
  obtain ⟨z, hd, xs, rel, eH, fk, dd⟩ := dn_at I.hok d
  have hzx : xs.length ≤ sizeLine := by rw [← rel.length]; exact z
  refine wpAny_dictSet_heap (hsz := hzx) (hk3_room0 hu) (keyT_is I.hok hk) dd fun h' dd' hs => ?_
  obtain ⟨H', I', n'⟩ := n_stored I d hk hz rv n hd rel eH fk dd' hs
  exact h H' _ I' n'
end
/-! ### readings -/
def tNGet (P : Program) (w : World) (td ty : TE) : TE := fun σ H Q => td σ H fun x H1 => ty σ H1 fun y H2 => ∃ a kvs k b v, x = .ref a ∧ y = .ref b ∧ DN P w H2 a kvs ∧ KeyT H2 k b ∧ valV kvs k = some v ∧ Q v H2
def tNIn (P : Program) (w : World) (neg : Bool) (ty td : TE) : TE := fun σ H Q => ty σ H fun y H1 => td σ H1 fun x H2 => ∃ a kvs k b, x = .ref a ∧ y = .ref b ∧ DN P w H2 a kvs ∧ KeyT H2 k b ∧ Q (.bl (if neg then !(valV kvs k).isSome else (valV kvs k).isSome)) H2
def tNGet2 (P : Program) (w : World) (td ty tx : TE) : TE := fun σ H Q => td σ H fun x H1 => ∃ a kvs, x = .ref a ∧ DN P w H1 a kvs ∧ ty σ H1 fun y H2 => tx σ H2 fun z H3 => ∃ k b, y = .ref b ∧ DN P w H3 a kvs ∧ KeyT H3 k b ∧ Q ((valV kvs k).getD z) H3
def sNPut (P : Program) (w : World) (td ty tv : TE) : TS := fun D σ H => tv σ H fun v H1 => td σ H1 fun x H2 => ty σ H2 fun y H3 => ∃ a kvs k b, x = .ref a ∧ y = .ref b ∧ DN P w H3 a kvs ∧ KeyT H3 k b ∧ kvs.length < 1000000 ∧ PutN P w a kvs k v H3 (D.nx σ)
section
variable {X : Cx} {o i e f value : Expr} {pos pos' apos cpos : Pos} {td ty tv tx : TE}
theorem pe_nnew : PE X (.Dict [] [] pos) (fun _ H Q => ∀ p H', H p = none → Same H H' → DN X.prog X.w H' p [] → Q (.ref p) H') := ⟨fun pins s σ H Q I h =>
  have hn := I.hok.fresh (Nat.le_refl s.heap.objs.size)
  wpAny_Dict_empty ⟨.ref s.heap.objs.size, _, I.laid (a := s.heap.objs.size) (o := dnO X.prog X.w s.heap.objs.size [] []) (t' := s.toks) (fun _ _ q => Heap.get?_push_of_some _ q) (Nat.le_refl _)
    ⟨⟨Nat.zero_le _, beq_eq_false_iff_ne.mpr (Ne.symm (Nat.ne_of_lt I.big)), [], trivial, rfl, _, #[], 0, Heap.get?_push_size _ rfl, ⟨rfl, rfl, rfl⟩, rfl, rfl, List.nodup_nil⟩, ⟨_, Heap.get?_push_size _ rfl⟩,
      fun h1 h2' ⟨y1, y2, ys, y3, y4, q', es', ep', g1, g2, g3, g4, g5⟩ st => ⟨y1, y2, ys, y3, y4, q', es', ep', st _ g1, g2, g3, g4, g5⟩⟩, rfl,
    h _ _ hn (same_new hn) ⟨[], upd_same, trivial⟩⟩⟩
theorem pe_ngot (hu : X.A.units + 64 < cLine) (ho : PE X o td) (hi : PE X i ty) (hs : NoSl i) : PE X (.Subscript o i pos) (tNGet X.prog X.w td ty) := by
  refine ⟨fun pins s σ H Q I h => ?_⟩
  refine subD_of PySem.F.slot_dict_getitem.lookup hs (thn (ho.run pins s σ H _ I h) fun u s1 ⟨x, H1, I1, rx, q1⟩ => thn (hi.run pins s1 σ H1 _ I1 q1) fun iv s2 ⟨y, H2, I2, ry, a, kvs, k, b, v, ex, ey, d, hk, l, q2⟩ => ?_)
  subst ex ey
  cases (show u = Value.ref a from rx)
  cases (show iv = Value.ref b from ry)
  exact ⟨(n_type I2 d).1, n_getItem hu I2 d hk l fun w' s3 I3 rw' => ⟨v, H2, I3, rw', q2⟩⟩
theorem pc_nin (hu : X.A.units + 64 < cLine) (hi : PE X i ty) (ho : PE X o td) : PC X .In i o (tNIn X.prog X.w false ty td) := by
  refine ⟨fun pins s σ H Q I h => ?_⟩
  refine thn (hi.run pins s σ H _ I h) fun iv s1 ⟨y, H1, I1, ry, q1⟩ => thn (ho.run pins s1 σ H1 _ I1 q1) fun u s2 ⟨x, H2, I2, rx, a, kvs, k, b, ex, ey, d, hk, q2⟩ => ?_
  subst ex ey
  cases (show u = Value.ref a from rx)
  cases (show iv = Value.ref b from ry)
  exact n_in hu I2 d hk fun s3 I3 => ⟨.bl _, H2, I3, rfl, q2⟩
theorem pc_nnotin (hu : X.A.units + 64 < cLine) (hi : PE X i ty) (ho : PE X o td) : PC X .NotIn i o (tNIn X.prog X.w true ty td) := by
  refine ⟨fun pins s σ H Q I h => ?_⟩
  refine thn (hi.run pins s σ H _ I h) fun iv s1 ⟨y, H1, I1, ry, q1⟩ => thn (ho.run pins s1 σ H1 _ I1 q1) fun u s2 ⟨x, H2, I2, rx, a, kvs, k, b, ex, ey, d, hk, q2⟩ => ?_
  subst ex ey
  cases (show u = Value.ref a from rx)
  cases (show iv = Value.ref b from ry)
  exact n_notIn hu I2 d hk fun s3 I3 => ⟨.bl _, H2, I3, rfl, q2⟩
theorem pe_nget2 (hu : X.A.units + 64 < cLine) (ho : PE X o td) (he : PE X e ty) (hf : PE X f tx) (m : M2 X o "get" apos e f cpos) : PE X (.Call (.Attribute o "get" apos) [e, f] [] cpos) (tNGet2 X.prog X.w td ty tx) := by
  refine ⟨fun pins s σ H Q I h => ?_⟩
  refine wpAny_Call_method m.base m.few m.line PySem.F.plainAttrs_dict PySem.F.slot_dict_get PySem.F.type_dict_get (thn (ho.run pins s σ H _ I h) fun u s1 ⟨x, H1, I1, rx, a, kvs, ex, d, q1⟩ => ?_)
  subst ex
  cases (show u = Value.ref a from rx)
  obtain ⟨t1, t2⟩ := n_type I1 d
  refine ⟨t1, t2, ?_⟩
  rw [m.trees]
  refine Calls.callWith_builtin rfl (Calls.evalArgs_plain (Calls.spliced_cons (thn (he.run pins s1 σ H1 _ I1 q1) fun iv s2 ⟨y, H2, I2, ry, q2⟩ =>
    Calls.spliced_cons (thn (hf.run pins s2 σ H2 _ I2 q2) fun fv s3 ⟨z, H3, I3, rz, k, b, ey, d3, hk, q3⟩ => Calls.spliced_nil ?_))))
  subst ey
  cases (show iv = Value.ref b from ry)
  exact n_get2 hu I3 d3 hk rz fun w' s4 I4 rw' => ⟨_, H3, I4, rw', q3⟩
theorem ps_nput (hu : X.A.units + 64 < cLine) (ho : PE X o td) (hi : PE X i ty) (hv : PE X value tv) (hs : swapsWith value (some (.Subscript o i pos')) pos.line X.env = pure false) :
    PS X (.Assign [.Subscript o i pos'] value pos) (sNPut X.prog X.w td ty tv) := by
  refine ⟨fun pins s σ H D I h => ?_⟩
  refine wpAny_Assign_Subscript (thn (hv.run pins s σ H _ I h) fun r s1 ⟨v, H1, I1, rv, q1⟩ => thn (ho.run pins s1 σ H1 _ I1 q1) fun u s2 ⟨x, H2, I2, rx, q2⟩ => thn (hi.run pins s2 σ H2 _ I2 q2) fun iv s3 ⟨y, H3, I3, ry, a, kvs, k, b, ex, ey, d, hk, hz, q3⟩ => ?_) hs
  subst ex ey
  cases (show u = Value.ref a from rx)
  cases (show iv = Value.ref b from ry)
  exact n_setItem hu I3 d hk hz rv q3 fun H' s4 I4 n => ⟨σ, H', I4, n⟩
def rLenN (P : Program) (w : World) : List V → Hp → VK → Prop := fun xs H Q => ∃ a kvs, xs = [.ref a] ∧ DN P w H a kvs ∧ kvs.length < 1000000 ∧ Q (.int ((kvs.length : Nat) : Int)) H
theorem call_lenN : CallR X (.builtin "len") (rLenN X.prog X.w) := by
  intro pins s σ H xs us Q I r h
  obtain ⟨p, kvs, rfl, hp, hz, q⟩ := h
  obtain ⟨u, rfl, rx⟩ := r.one
  cases (show u = Value.ref p from rx)
  obtain ⟨z, hd, ys, rel, _, _, dd⟩ := dn_at I.hok hp
  have hl : kvs.length = ys.length := rel.length
  refine PySem.call_len_dictH hd dd (by omega) ?_
  rw [← hl]
  exact ⟨.int _, H, I.tok _, ⟨_, rfl⟩, q⟩
def rListN (P : Program) (w : World) : List V → Hp → VK → Prop := fun xs H Q => ∃ a kvs, xs = [.ref a] ∧ DN P w H a kvs ∧ ∀ bs, F2 (fun (kv : List D3 × V) b => KeyT H kv.1 b) kvs bs → New (.lst (bs.map V.ref)) H Q
theorem call_listN (hc : X.calm = true) : CallR X (.type "list") (rListN X.prog X.w) := by
  intro pins s σ H xs us Q I r h
  obtain ⟨d, kvs, rfl, hd, q⟩ := h
  obtain ⟨u, rfl, rx⟩ := r.one
  cases (show u = Value.ref d from rx)
  obtain ⟨z, hs, ks, rel, _, fk, o, es, ep, ho, hx, hdt, he, _, hn⟩ := dn_at I.hok hd
  have l1 : es.size = ks.length := size_of_entries he
  have l2 : kvs.length = ks.length := rel.length
  refine PySem.W.kdl_call (kdl_raw hs hx hdt) (I.ok.hd hc) ho (by omega) fun h' tk acc' c' kp e it => ?_
  have eb : acc'.toList = (ks.map fun x => x.2.1).map Value.ref := by
    have hl : acc'.toList.length = ks.length := by
      rw [Array.length_toList, it.1]
      exact l1
    refine List.ext_getElem? fun j => ?_
    rw [List.getElem?_map, List.getElem?_map]
    cases hj : acc'.toList[j]? with
    | none =>
      have h1 := List.getElem?_eq_none_iff.mp hj
      rw [List.getElem?_eq_none (by omega)]
      rfl
    | some v =>
      obtain ⟨en, hen, hv⟩ := it.2 j v (by rw [← Array.getElem?_toList]; exact hj)
      have qe := entry_at he j
      rw [hen] at qe
      cases hb : ks[j]? with
      | none =>
        rw [hb] at qe
        cases qe
      | some y =>
        rw [hb] at qe
        cases qe
        rw [hv]
        rfl
  have rv : Vals ((ks.map fun x => x.2.1).map V.ref) acc'.toList := by
    rw [eb]
    exact vals_refs _
  have hz : ((ks.map fun x => x.2.1).map V.ref).length ≤ sizeLine := by
    rw [List.length_map, List.length_map]
    omega
  have hf : H s.heap.objs.size = none := I.hok.fresh (Nat.le_refl _)
  refine ⟨.ref s.heap.objs.size, _, I.laid (t' := tk) (o := .lst ((ks.map fun x => x.2.1).map V.ref)) kp (Nat.le_refl _) ?_, rfl, (q _ fk) _ _ hf (same_new hf) upd_same⟩
  exact ⟨hz, acc'.toList, c', rv, by rw [Array.toArray_toList]; exact e⟩
end
end Br

namespace Br
open PySem PySem.Spec PyProof.Rows L2
/-! ### {k: v for ..} with such keys -/
/-- the comprehension's turns: i done, m left, D the dict -/
def tNc (P : Program) (w : World) (wi : TI) (g : TG) (tt : TT) (tk tv : TE) (vs : List Nat) : TE := fun σ H Q => wi σ H fun J H1 => ∀ D H0, H1 D = none → Same H1 H0 → DN P w H0 D [] → ∃ W : Nat → Nat → Hp → Prop, (∃ m, W 0 m H0) ∧ ∀ i m H, W i m H →
  (J.stop i H ∧ Q (.ref D) H) ∨ (J.go i H ∧ ∃ Nx : Hp → Prop, (∀ H', Nx H' → ∃ m', m' < m ∧ W (i + 1) m' H') ∧ ∀ x H', J.yld i H x H' → g x (wipe σ vs) H' fun σ2 H2 => wipe σ2 vs = wipe σ vs ∧ tt σ2 H2 fun b H3 =>
    if b = true then tk σ2 H3 fun y H4 => tv σ2 H4 fun z H5 => ∃ kvs k b, y = .ref b ∧ DN P w H5 D kvs ∧ KeyT H5 k b ∧ kvs.length < 1000000 ∧ PutN P w D kvs k z H5 Nx else Nx H3)
variable {X : Cx}
theorem nc_core {pins : List (Addr × Obj)} {s : Shared} {σ : L2.St} {H : Hp} {Q : VK} {kx vx tg iter : Expr} {ifs : List Expr} {scope : Scope} {own : List (Str × Nat)} {pos pos' : Pos} {wi : TI} {g : TG} {tt : TT} {tk tv : TE} {use : Option (Value → Sem Unit)} {Qf : Value → Shared → Prop}
    (hc : X.calm = true) (hu : X.A.units + 64 < cLine) (hN : X.N.Nodup) (I : Inv X pins σ H s) (hi : PI X tg iter wi) (ok : BlkOk X.N X.env.scope scope own)
    (hg : ∀ (s : Shared) (H : Hp) (C : Addr) (cl : List (Str × Addr)) (fp : List Addr), PG (X.blk s H scope (compEnvC scope cl C X.env) fp) tg g) (ht : ∀ (s : Shared) (H : Hp) (C : Addr) (cl : List (Str × Addr)) (fp : List Addr), PTs (X.blk s H scope (compEnvC scope cl C X.env) fp) ifs tt)
    (hk : ∀ (s : Shared) (H : Hp) (C : Addr) (cl : List (Str × Addr)) (fp : List Addr), PE (X.blk s H scope (compEnvC scope cl C X.env) fp) kx tk)
    (he : ∀ (s : Shared) (H : Hp) (C : Addr) (cl : List (Str × Addr)) (fp : List Addr), PE (X.blk s H scope (compEnvC scope cl C X.env) fp) vx tv) (hs : ∀ x, foldedSetIterable iter X.env x = pure x)
    (h : tNc X.prog X.w wi g tt tk tv (own.map (·.2)) σ H Q)
    (hRR : ∀ D C s' m H', Inv X pins σ H' s' → Q (.ref D) H' → s'.heap.Ns C m → FpOk X pins H' C → compPost (model X.prog X.w) X.A X.xe use Qf (.ref D) C (.ok .next) s') :
    wpAny (model X.prog X.w) X.A (comprehension (.DictComp kx vx [⟨tg, iter, ifs, 0⟩] scope pos) scope X.env pos' newDict false (eval iter X.env) use) Qf X.xe s := by
  have free : ∀ y ∈ scope.names, y.2 = .free → ∃ c, X.env.cells.lookup y.1 = some c := fun y hy e => (ok.free y hy e).elim (fun k => I.ok.has _ (.inl k)) fun k => I.ok.has _ (.inr k)
  refine wpAny_comprehension_free (use := use) rfl hs (closure_ok free) ok.kind (fun y hy e => by rw [ok.uniq y hy, e]) (thn (hi.run pins s σ H _ I h) fun xv s1 hx => thn hx fun itv s2 h2 => ?_)
  obtain ⟨it, fp, tn, J, H2, e, I2, T, st2, f2, q⟩ := h2
  subst e
  refine wpAny_newObj_type (newEnv_comp ?_)
  generalize hD : s2.heap.objs.size = D
  have hDn : H2 D = none := I2.hok.fresh (Nat.le_of_eq hD)
  -- the dict
  generalize hs3 : ({ s2 with heap := s2.heap.push { cls := .type "dict", data := .dict #[] } } : Shared) = s3
  have hDe : (s2.heap.push { cls := .type "dict", data := .dict #[] }).get? D = some { cls := .type "dict", data := .dict #[] } := by
    rw [← hD]
    exact Heap.get?_push_size _ rfl
  have I3 : Inv X pins σ (upd H2 D (dnO X.prog X.w D [] [])) s3 := by
    rw [← hs3]
    refine I2.laid (t' := s2.toks) (fun b o e => Heap.get?_push_of_some _ e) (Nat.le_of_eq hD) ?_
    exact ⟨⟨Nat.zero_le _, beq_eq_false_iff_ne.mpr (by rw [← hD]; exact Ne.symm (Nat.ne_of_lt I2.big)), [], trivial, rfl, _, #[], 0, hDe, ⟨rfl, rfl, rfl⟩, rfl, rfl, List.nodup_nil⟩, ⟨_, hDe⟩,
      fun h1 h2' ⟨y1, y2, ys, y3, y4, q', es', ep', g1, g2, g3, g4, g5⟩ st => ⟨y1, y2, ys, y3, y4, q', es', ep', st _ g1, g2, g3, g4, g5⟩⟩
  obtain ⟨W, ⟨m0, w0⟩, turn⟩ := q D (upd H2 D (dnO X.prog X.w D [] [])) hDn (same_new hDn) ⟨[], upd_same, trivial⟩
  generalize hu3 : dnO X.prog X.w D [] [] = u3 at *
  have h3 : s3.heap = s2.heap.push { cls := .type "dict", data := .dict #[] } := by rw [← hs3]
  have lt2 : ∀ b ∈ fp, b < s2.heap.objs.size := fun b hb => by
    obtain ⟨o, e, _⟩ := T.obj _ _ st2 b hb
    exact Heap.lt_size e
  have f3 : ∀ b ∈ fp, FpOk X pins (upd H2 D u3) b ∧ b < s3.heap.objs.size := fun b hb => by
    have hlt := lt2 b hb
    refine ⟨⟨?_, (f2 b hb).2⟩, by rw [h3, Heap.size_push]; exact Nat.lt_succ_of_lt hlt⟩
    rw [upd_ne (by rw [← hD]; exact Nat.ne_of_lt hlt)]
    exact (f2 b hb).1
  have st3 : tn 0 s3.heap := T.keep _ _ _ st2 fun b _ o e => by rw [h3]; exact Heap.get?_push_of_some _ e
  have I4 := block_start I3 ok hN f3
  have pg := hg s3 (upd H2 D u3) s3.heap.objs.size (cellsFrom (s3.heap.objs.size + 1) scope.names (cloFrom X.env.cells scope.names [])) fp
  have pt := ht s3 (upd H2 D u3) s3.heap.objs.size (cellsFrom (s3.heap.objs.size + 1) scope.names (cloFrom X.env.cells scope.names [])) fp
  have pk := hk s3 (upd H2 D u3) s3.heap.objs.size (cellsFrom (s3.heap.objs.size + 1) scope.names (cloFrom X.env.cells scope.names [])) fp
  have pe := he s3 (upd H2 D u3) s3.heap.objs.size (cellsFrom (s3.heap.objs.size + 1) scope.names (cloFrom X.env.cells scope.names [])) fp
  show codeAny _ _ (.compStart (.DictComp kx vx [⟨tg, iter, ifs, 0⟩] scope pos) 0 (.ref it) (.ref D) (compEnvC scope (cellsFrom (s3.heap.objs.size + 1) scope.names (cloFrom X.env.cells scope.names [])) s3.heap.objs.size X.env)) (compPost (model X.prog X.w) X.A X.xe use Qf (.ref D) s3.heap.objs.size) { s3 with heap := pushCells (s3.heap.push { cls := .type "dict", data := .dict #[] }) scope.names }
  have nfp : ∀ b ∈ fp, (upd H2 D u3) b = none := fun b hb => (f3 b hb).1.1
  generalize hce : compEnvC scope (cellsFrom (s3.heap.objs.size + 1) scope.names (cloFrom X.env.cells scope.names [])) s3.heap.objs.size X.env = ce at I4 pg pt pk pe ⊢
  have cL : ce.locals = s3.heap.objs.size := by subst hce; rfl
  generalize hH3 : upd H2 D u3 = H3 at I3 I4 pg pt pk pe w0 nfp f3
  generalize hs4 : ({ s3 with heap := pushCells (s3.heap.push { cls := .type "dict", data := .dict #[] }) scope.names } : Shared) = s4 at I4 ⊢
  have st4 : tn 0 s4.heap := T.keep _ _ _ st3 fun b _ o e => by rw [← hs4]; exact pushCells_keeps _ _ _ _ (Heap.get?_push_of_some _ e)
  have stat : ∀ {σ' : L2.St} {H' : Hp} {s' : Shared}, Inv (X.blk s3 H3 scope ce fp) [] σ' H' s' → (∀ b ∈ fp, H' b = none) → ∀ b ∈ fp, FpOk (X.blk s3 H3 scope ce fp) [] H' b := fun {σ' H' s'} I' hn b hb =>
    ⟨hn b hb, (I'.ok.exf b hb).1, I'.ok.exfs b hb, .inl hb, fun x c e => (I'.ok.exf b hb).2 x c e, fun p hp => absurd (show p ∈ ([] : List (Addr × Obj)) ++ [] from hp) (by simp)⟩
  have loop : codeAny (model X.prog X.w) X.A (.compLoop (.DictComp kx vx [⟨tg, iter, ifs, 0⟩] scope pos) 0 (.ref it) (.ref D) ce) (compPost (model X.prog X.w) X.A X.xe use Qf (.ref D) s3.heap.objs.size) s4 := by
    refine compLoop_anyD (fun n s' => ∃ i H', Inv (X.blk s3 H3 scope ce fp) [] (wipe σ (own.map (·.2))) H' s' ∧ tn i s'.heap ∧ (∀ b ∈ fp, H' b = none) ∧ W i n H') ?_ m0 ⟨0, H3, I4, st4, nfp, w0⟩
    rintro n s5 ⟨i, H5, I5, st5, n5, w5⟩
    rcases turn i n H5 w5 with ⟨stop, qq⟩ | ⟨go, Nx, hNx, step⟩
    · refine thnF (T.done (X.blk s3 H3 scope ce fp) rfl rfl rfl hc i [] s5 _ H5 (fun _ _ => False) I5 (stat I5 n5) st5 stop) fun r s6 ⟨hr, I6⟩ => ?_
      subst hr
      have I7 : Inv X pins σ H5 s6 := I3.call' (ch := fp) I6.os I6.base I6.hok I6.bare fun b hb => ⟨(f3 b hb).1.2.2.2.1, (f3 b hb).1.2.1, (f3 b hb).1.2.2.2.2.1, (f3 b hb).1.2.2.2.2.2⟩
      have nC : H5 s3.heap.objs.size = none := by
        have z : H5 ce.locals = none := I6.free
        rw [cL] at z
        exact z
      obtain ⟨m, hn, _⟩ := I6.loc
      have hn : s6.heap.Ns ce.locals m := hn
      rw [cL] at hn
      exact hRR D s3.heap.objs.size s6 m H5 I7 qq hn (I3.fpOk (Nat.le_refl _) nC)
    · refine thnF (T.item (X.blk s3 H3 scope ce fp) rfl rfl rfl hc i [] s5 _ H5 (fun _ _ => False) I5 (stat I5 n5) st5 go) fun r s6 ⟨u, hr, h6⟩ => ?_
      subst hr
      refine thnF h6 fun _ s7 ⟨x, H7, I7, r7, y7, st7, n7⟩ => ?_
      have I7' := I7.pinned (stat I7 n7) (T.obj _ _ st7)
      refine thnF (pg.run _ s7 _ H7 x u _ I7' r7 (step x H7 y7)) fun _ s8 ⟨σ8, H8, I8, hw8, q8⟩ => thnF (pt.run _ s8 σ8 H8 _ I8 q8) fun b s9 ⟨H9, I9, q9⟩ => ?_
      have fin : ∀ {s' : Shared} {H' : Hp}, Inv (X.blk s3 H3 scope ce fp) ([] ++ pinsAt fp s7.heap) σ8 H' s' → Nx H' → ∃ m, m < n ∧ ∃ i H', Inv (X.blk s3 H3 scope ce fp) [] (wipe σ (own.map (·.2))) H' s' ∧ tn i s'.heap ∧ (∀ b ∈ fp, H' b = none) ∧ W i m H' := fun {s' H'} I' nx => by
        obtain ⟨m', hm, w'⟩ := hNx H' nx
        have pin' : ∀ b ∈ fp, ∀ o, s7.heap.get? b = some o → s'.heap.get? b = some o ∧ H' b = none := fun b hb o e =>
          let z := I'.pin (b, o) (List.mem_append_right _ (List.mem_append_right _ (mem_pinsAt hb e)))
          ⟨z.1, z.2.1⟩
        refine ⟨m', hm, i + 1, H', (I'.unpinned (pins := [])).weak (by rw [← hw8, wipe_length]) (fun j v e => ?_), T.keep _ _ _ st7 fun b hb o e => (pin' b hb o e).1, fun b hb => ?_, w'⟩
        · rw [← hw8] at e
          exact (wipe_some e).1
        · obtain ⟨o, e, _⟩ := T.obj _ _ st7 b hb
          exact (pin' b hb o e).2
      cases b with
      | false =>
        simp only [Bool.false_eq_true, if_false] at q9 ⊢
        exact fin I9 q9
      | true =>
        simp only [if_true] at q9 ⊢
        refine thnF (pk.run _ s9 σ8 H9 _ I9 q9) fun z s10 ⟨yk, H10, I10, r10, q10⟩ => thnF (pe.run _ s10 σ8 H10 _ I10 q10) fun z2 s11 ⟨yv, H11, I11, r11, kvs, k, b, ek, dD, hkT, hz11, nx⟩ => ?_
        subst ek
        cases (show z = Value.ref b from r10)
        exact n_dictSet (X := X.blk s3 H3 scope ce fp) hu I11 dD hkT hz11 r11 nx fun H12 s12 I12 nn => fin I12 nn
  exact codeAny_compStart_dict loop (T.self X.A 0 _ _ _ st4 loop)
theorem pe_nc {kx vx tg iter : Expr} {ifs : List Expr} {scope : Scope} {own : List (Str × Nat)} {pos : Pos} {wi : TI} {g : TG} {tt : TT} {tk tv : TE} (hc : X.calm = true) (hu : X.A.units + 64 < cLine) (hN : X.N.Nodup) (hi : PI X tg iter wi) (ok : BlkOk X.N X.env.scope scope own)
    (hg : ∀ (s : Shared) (H : Hp) (C : Addr) (cl : List (Str × Addr)) (fp : List Addr), PG (X.blk s H scope (compEnvC scope cl C X.env) fp) tg g) (ht : ∀ (s : Shared) (H : Hp) (C : Addr) (cl : List (Str × Addr)) (fp : List Addr), PTs (X.blk s H scope (compEnvC scope cl C X.env) fp) ifs tt)
    (hk : ∀ (s : Shared) (H : Hp) (C : Addr) (cl : List (Str × Addr)) (fp : List Addr), PE (X.blk s H scope (compEnvC scope cl C X.env) fp) kx tk)
    (he : ∀ (s : Shared) (H : Hp) (C : Addr) (cl : List (Str × Addr)) (fp : List Addr), PE (X.blk s H scope (compEnvC scope cl C X.env) fp) vx tv) (hs : ∀ x, foldedSetIterable iter X.env x = pure x := by intro _; rfl) :
    PE X (.DictComp kx vx [⟨tg, iter, ifs, 0⟩] scope pos) (tNc X.prog X.w wi g tt tk tv (own.map (·.2))) := by
  refine ⟨fun pins s σ H Q I h => ?_⟩
  rw [arm_eval_DictComp]
  refine nc_core hc hu hN I hi ok hg ht hk he hs h fun D C s' m H' I' q hn f => ⟨m, hn, fun h'' sb => ?_⟩
  obtain ⟨f0, f1, f2, f3, f4, f5⟩ := f
  exact ⟨.ref D, H', I'.turned (t' := s'.toks) (fun b o hb e => (sb.2 b hb).trans e) f0 f1 f3 f4 f5, rfl, q⟩
end Br

namespace Br
open PySem PySem.Spec PyProof.Rows L2
section
variable {X : Cx}
/-- name = {..} on one line, the name a local -/
theorem ps_setNc {i : Nat} {y : Str} {py : Pos} {kx vx tg iter : Expr} {ifs : List Expr} {scope : Scope} {own : List (Str × Nat)} {pos spos : Pos} {wi : TI} {g : TG} {tt : TT} {tk tv : TE} (hc : X.calm = true) (hu : X.A.units + 64 < cLine) (hN : X.N.Nodup) (hy : X.N[i]? = some y) (hyl : X.env.scope.names.lookup y = some .local)
    (hsw : swapsWith (.DictComp kx vx [⟨tg, iter, ifs, 0⟩] scope pos) (some (.Name y py)) spos.line X.env = pure true) (hi : PI X tg iter wi) (ok : BlkOk X.N X.env.scope scope own)
    (hg : ∀ (s : Shared) (H : Hp) (C : Addr) (cl : List (Str × Addr)) (fp : List Addr), PG (X.blk s H scope (compEnvC scope cl C X.env) fp) tg g) (ht : ∀ (s : Shared) (H : Hp) (C : Addr) (cl : List (Str × Addr)) (fp : List Addr), PTs (X.blk s H scope (compEnvC scope cl C X.env) fp) ifs tt)
    (hk : ∀ (s : Shared) (H : Hp) (C : Addr) (cl : List (Str × Addr)) (fp : List Addr), PE (X.blk s H scope (compEnvC scope cl C X.env) fp) kx tk)
    (he : ∀ (s : Shared) (H : Hp) (C : Addr) (cl : List (Str × Addr)) (fp : List Addr), PE (X.blk s H scope (compEnvC scope cl C X.env) fp) vx tv) (hs : ∀ x, foldedSetIterable iter X.env x = pure x := by intro _; rfl) :
    PS X (.Assign [.Name y py] (.DictComp kx vx [⟨tg, iter, ifs, 0⟩] scope pos) spos) (tAsg (tNc X.prog X.w wi g tt tk tv (own.map (·.2))) (gName i)) := by
  refine ⟨fun pins s σ H D I h => ?_⟩
  rw [exec_Assign_Name_used _ _ _ _ hsw]
  refine wpAny_bind (wpAny_standAt (wpAny_bind ?_))
  show wpAny _ X.A (do let _ ← comprehension (.DictComp kx vx [⟨tg, iter, ifs, 0⟩] scope pos) scope X.env (firstIterPos [⟨tg, iter, ifs, 0⟩] pos) newDict false (eval iter X.env) (some (assign (.Name y py) X.env))) _ _ s
  have h : tNc X.prog X.w wi g tt tk tv (own.map (·.2)) σ H (fun x H1 => gName i x σ H1 D.nx) := h
  refine wpAny_bind (thn (nc_core (Qf := fun _ s' => SP X pins D .next s') hc hu hN I hi ok hg ht hk he hs h fun L C s' m H' I' q hn f => ?_) fun _ s' hq => wpAny_pure (wpAny_pure hq))
  show wpAny _ _ (assign (.Name y py) X.env (.ref L)) _ _ _
  refine wpAny_assign_Name (store_ok2 (v := V.ref L) I' hN hy (.inl hyl) rfl (fun s2 I2 ⟨a, sb, ha⟩ => ?_) (.inr hyl))
  obtain ⟨f0, f1, f2, f3, f4, f5⟩ := f
  have haC : C ≠ a := by
    rcases ha with z | z
    · rw [z]; exact f1
    · exact fun e => f4 y a z e.symm
  exact ⟨m, hn.sameBut sb haC, fun h3 sb3 => ⟨_, H', I2.turned (t' := s2.toks) (fun b o hb e => (sb3.2 b hb).trans e) f0 f1 f3 f4 f5, q⟩⟩
theorem swN_true {kx vx : Expr} {gs : List Comprehension} {scope : Scope} {pos py : Pos} {y : Str} {l : Nat} {env : Env} (hk : env.scope.kind = .function) (hy : env.scope.names.lookup y = some .local) (hl : (py.line == pos.line) = true)
    (ha : (scope.names.any fun (n, k) => n == y && (k == .local || k == .cell)) = false) : swapsWith (.DictComp kx vx gs scope pos) (some (.Name y py)) l env = pure true := by
  have ky : env.kindOf y = some .local := hy
  have hb : env.blockKind = .function := by unfold Env.blockKind; rw [hk]; rfl
  unfold swapsWith
  simp only [hb, ky, ha, Expr.pos, hl]
  rfl
end
/-! ### room -/
theorem hu1 {k : Nat} {A : Around} (r : Room k A) : A.units + 1 < cLine := by have := r.units; omega
theorem nosl_name {x : Str} {p : Pos} : NoSl (.Name x p) := fun _ _ => rfl
end Br

namespace Br
open PySem PySem.Spec PyProof.Rows L2
/-- {k: v}, one pair -/
def tNdisp (P : Program) (w : World) (tk tv : TE) : TE := fun σ H Q => ∀ p H0, H p = none → Same H H0 → DN P w H0 p [] → tk σ H0 fun y H1 => tv σ H1 fun z H2 => ∃ b ks, y = .ref b ∧ DN P w H2 p [] ∧ KeyT H2 ks b ∧ PutN P w p [] ks z H2 (Q (.ref p))
theorem pe_ndisp1 {X : Cx} {k v : Expr} {pos : Pos} {tk tv : TE} (hu : X.A.units + 64 < cLine) (hk : PE X k tk) (hv : PE X v tv) : PE X (.Dict [some k] [v] pos) (tNdisp X.prog X.w tk tv) := by
  refine ⟨fun pins s σ H Q I q => ?_⟩
  have hn := I.hok.fresh (Nat.le_refl s.heap.objs.size)
  have I1 := I.laid (a := s.heap.objs.size) (o := dnO X.prog X.w s.heap.objs.size [] []) (h' := s.heap.push { cls := .type "dict", data := .dict #[] }) (t' := s.toks) (fun _ _ q => Heap.get?_push_of_some _ q) (Nat.le_refl _)
    ⟨⟨Nat.zero_le _, beq_eq_false_iff_ne.mpr (Ne.symm (Nat.ne_of_lt I.big)), [], trivial, rfl, _, #[], 0, Heap.get?_push_size _ rfl, ⟨rfl, rfl, rfl⟩, rfl, rfl, List.nodup_nil⟩, ⟨_, Heap.get?_push_size _ rfl⟩,
      fun h1 h2' ⟨y1, y2, ys, y3, y4, q', es', ep', g1, g2, g3, g4, g5⟩ st => ⟨y1, y2, ys, y3, y4, q', es', ep', st _ g1, g2, g3, g4, g5⟩⟩
  have q1 := q _ _ hn (same_new hn) ⟨[], upd_same, trivial⟩
  have h0 : pairTrees [some k] [v] X.env pos ≠ [] := fun z => by
    have := pairTrees_length [some k] [v] X.env pos rfl rfl
    rw [z] at this
    cases this
  have hl : (pairTrees [some k] [v] X.env pos).length ≤ 15 := by
    rw [pairTrees_length [some k] [v] X.env pos rfl rfl]
    show 1 ≤ 15
    decide
  rw [arm_eval_Dict, zip_pairTrees [some k] [v] X.env pos rfl rfl, dictDisplay_pairs _ h0 (by omega)]
  refine wpAny_bind (wpAny_standAt (wpAny_bind (wpAny_subDictH (knd := hk3 X.prog X.w) (Q := fun d s' => wpAny (model X.prog X.w) X.A (pure (Value.ref d)) (EP X pins σ Q) X.xe s') (hk3_room0 hu) hl ?_)))
  refine pairTrees_cons_walk (thn (hk.run pins _ σ _ _ I1 q1) fun u s1 ⟨x, H1, I2, rx, q2⟩ => thn (hv.run pins s1 σ H1 _ I2 q2) fun w2 s2 ⟨z, H2, I3, rz, b, ks, ex, d, hkT, put⟩ => pairTrees_nil_walk ?_)
  subst ex
  cases (show u = Value.ref b from rx)
  obtain ⟨_, hd, xs, rel, eH, fk, dd⟩ := dn_at I3.hok d
  cases xs with
  | cons _ _ => exact False.elim rel
  | nil =>
    refine ⟨[(ks, b, w2)], ⟨rfl, rfl, keyT_is I3.hok hkT, trivial⟩, dd, fun h' tk dd' hs => wpAny_pure ?_⟩
    have dd2 : h'.DictOfH (hk3 X.prog X.w) s.heap.objs.size (storedH [] ks b w2) := dd'
    obtain ⟨H', I', n'⟩ := n_stored (t' := tk) I3 d hkT (by show 0 < 1000000; decide) rz put hd rel eH fk dd2 hs
    exact ⟨.ref s.heap.objs.size, H', I', rfl, n'⟩
end Br

namespace Br
open PySem PySem.Spec PyProof.Rows L2
/-! ### with the program and the world named (within a comprehension they cannot be found) -/
section
variable {X : Cx} (P : Program) (w : World) {o i e f : Expr} {pos apos cpos : Pos} {td ty tx : TE}
theorem pe_ngotK (hP : X.prog = P) (hw : X.w = w) (hu : X.A.units + 64 < cLine) (ho : PE X o td) (hi : PE X i ty) (hs : NoSl i) : PE X (.Subscript o i pos) (tNGet P w td ty) := by
  subst hP hw
  exact pe_ngot hu ho hi hs
theorem pc_ninK (hP : X.prog = P) (hw : X.w = w) (hu : X.A.units + 64 < cLine) (hi : PE X i ty) (ho : PE X o td) : PC X .In i o (tNIn P w false ty td) := by
  subst hP hw
  exact pc_nin hu hi ho
theorem pc_nnotinK (hP : X.prog = P) (hw : X.w = w) (hu : X.A.units + 64 < cLine) (hi : PE X i ty) (ho : PE X o td) : PC X .NotIn i o (tNIn P w true ty td) := by
  subst hP hw
  exact pc_nnotin hu hi ho
theorem pe_nget2K (hP : X.prog = P) (hw : X.w = w) (hu : X.A.units + 64 < cLine) (ho : PE X o td) (he : PE X e ty) (hf : PE X f tx) (m : M2 X o "get" apos e f cpos) : PE X (.Call (.Attribute o "get" apos) [e, f] [] cpos) (tNGet2 P w td ty tx) := by
  subst hP hw
  exact pe_nget2 hu ho he hf m
end
end Br

set_option maxHeartbeats 1000000
/-! Machines in plain Lean: what is reached, classes of states, the least machine, led words. No program in sight. -/
namespace Mm

/-! ### two lists side by side -/
def P2 {α β : Type} (R : α → β → Prop) : List α → List β → Prop
  | [], [] => True
  | a :: l, b :: m => R a b ∧ P2 R l m
  | _, _ => False
theorem P2.length {α β : Type} {R : α → β → Prop} : ∀ {l : List α} {m : List β}, P2 R l m → l.length = m.length := by
  intro l
  induction l with
  | nil => intro m h; cases m with | nil => rfl | cons _ _ => exact False.elim h
  | cons a l ih => intro m h; cases m with | nil => exact False.elim h | cons b m => rw [List.length_cons, List.length_cons, ih h.2]
theorem P2.of {α β : Type} {R : α → β → Prop} : ∀ {l : List α} {m : List β}, l.length = m.length → (∀ (i : Nat) a b, l[i]? = some a → m[i]? = some b → R a b) → P2 R l m := by
  intro l
  induction l with
  | nil => intro m e h; cases m with | nil => trivial | cons _ _ => cases e
  | cons a l ih => intro m e h; cases m with
    | nil => cases e
    | cons b m => exact ⟨h 0 a b rfl rfl, ih (Nat.succ.inj e) fun i x y p q => h (i + 1) x y p q⟩
theorem P2.append {α β : Type} {R : α → β → Prop} : ∀ {l l' : List α} {m m' : List β}, P2 R l m → P2 R l' m' → P2 R (l ++ l') (m ++ m') := by
  intro l
  induction l with
  | nil => intro l' m m' g h; cases m with | nil => exact h | cons _ _ => exact False.elim g
  | cons a l ih => intro l' m m' g h; cases m with | nil => exact False.elim g | cons b m => exact ⟨g.1, ih g.2 h⟩
theorem P2.map_eq {α β γ : Type} {R : α → β → Prop} {f : α → γ} {g : β → γ} (h : ∀ a b, R a b → f a = g b) : ∀ {l : List α} {m : List β}, P2 R l m → l.map f = m.map g := by
  intro l
  induction l with
  | nil => intro m p; cases m with | nil => rfl | cons _ _ => exact False.elim p
  | cons a l ih => intro m p; cases m with | nil => exact False.elim p | cons b m => rw [List.map_cons, List.map_cons, h a b p.1, ih p.2]

/-! ### what is new is put behind -/
section
variable {α : Type} [DecidableEq α]
def addU (o : List α) (x : α) : List α := if x ∈ o then o else o ++ [x]
def addAll (o xs : List α) : List α := xs.foldl addU o
def uniq (xs : List α) : List α := addAll [] xs
abbrev ix (o : List α) (x : α) : Nat := o.idxOf x
theorem addAll_nil (o : List α) : addAll o [] = o := rfl
theorem addAll_cons (o : List α) (x : α) (xs : List α) : addAll o (x :: xs) = addAll (addU o x) xs := rfl
theorem addAll_snoc (o : List α) (xs : List α) (x : α) : addAll o (xs ++ [x]) = addU (addAll o xs) x := by unfold addAll; rw [List.foldl_append]; rfl
theorem addAll_append (o xs ys : List α) : addAll o (xs ++ ys) = addAll (addAll o xs) ys := by unfold addAll; rw [List.foldl_append]
theorem mem_addU {o : List α} {x y : α} : y ∈ addU o x ↔ y ∈ o ∨ y = x := by
  unfold addU
  split
  · rename_i h
    exact ⟨.inl, fun z => z.elim id fun e => e ▸ h⟩
  · rw [List.mem_append, List.mem_singleton]
theorem mem_addAll {y : α} : ∀ {xs o : List α}, y ∈ addAll o xs ↔ y ∈ o ∨ y ∈ xs := by
  intro xs
  induction xs with
  | nil => intro o; rw [addAll_nil]; simp
  | cons x xs ih => intro o; rw [addAll_cons, ih, mem_addU, List.mem_cons]; exact or_assoc
theorem nodup_addU {o : List α} {x : α} (h : o.Nodup) : (addU o x).Nodup := by
  unfold addU
  split
  · exact h
  · rename_i hx
    rw [List.nodup_append]
    exact ⟨h, (by simp), fun a ha b hb e => hx (by rw [← List.mem_singleton.mp hb, ← e]; exact ha)⟩
theorem nodup_addAll : ∀ {xs o : List α}, o.Nodup → (addAll o xs).Nodup := by
  intro xs
  induction xs with
  | nil => intro o h; exact h
  | cons x xs ih => intro o h; exact ih (nodup_addU h)
theorem pre_addU (o : List α) (x : α) : ∃ t, addU o x = o ++ t := by
  unfold addU
  split
  · exact ⟨[], by simp⟩
  · exact ⟨[x], rfl⟩
theorem pre_addAll : ∀ (xs o : List α), ∃ t, addAll o xs = o ++ t := by
  intro xs
  induction xs with
  | nil => intro o; exact ⟨[], by simp [addAll_nil]⟩
  | cons x xs ih =>
    intro o
    obtain ⟨t, e⟩ := pre_addU o x
    obtain ⟨u, f⟩ := ih (addU o x)
    exact ⟨t ++ u, by rw [addAll_cons, f, e, List.append_assoc]⟩
theorem idx_pre {o t : List α} {x : α} (h : x ∈ o) : (o ++ t).idxOf x = o.idxOf x := by rw [List.idxOf_append, if_pos h]
theorem idx_new {o : List α} {x : α} (h : x ∉ o) : (o ++ [x]).idxOf x = o.length := by
  rw [List.idxOf_append, if_neg h]
  simp
theorem get_idx {o : List α} {x : α} (h : x ∈ o) : o[o.idxOf x]? = some x := by
  have hl := List.idxOf_lt_length_iff.mpr h
  rw [List.getElem?_eq_getElem hl, List.getElem_idxOf hl]
theorem idx_get {o : List α} (hn : o.Nodup) {i : Nat} {x : α} (h : o[i]? = some x) : o.idxOf x = i := by
  obtain ⟨hi, e⟩ := List.getElem?_eq_some_iff.mp h
  have hm : x ∈ o := e ▸ List.getElem_mem hi
  have hl := List.idxOf_lt_length_iff.mpr hm
  exact (List.getElem_inj hn).mp ((List.getElem_idxOf hl).trans e.symm)
theorem idx_inj {o : List α} {x y : α} (hx : x ∈ o) (hy : y ∈ o) (e : o.idxOf x = o.idxOf y) : x = y := by
  have h1 := get_idx hx
  rw [e, get_idx hy] at h1
  exact (Option.some.inj h1).symm
end
theorem nodup_lt {n : Nat} : ∀ {l : List Nat}, l.Nodup → (∀ x ∈ l, x < n) → l.length ≤ n := by
  induction n with
  | zero =>
    intro l _ h
    cases l with
    | nil => exact Nat.le_refl _
    | cons a l => exact absurd (h a List.mem_cons_self) (Nat.not_lt_zero _)
  | succ n ih =>
    intro l hn h
    have h1 := ih (l := l.erase n) (hn.erase n) fun x hx => by
      have hx' := (List.Nodup.mem_erase_iff hn).mp hx
      have := h x hx'.2
      omega
    have h2 : l.length ≤ (l.erase n).length + 1 := by
      rw [List.length_erase]
      split <;> omega
    omega

/-! ### what is reached -/
section
variable {α : Type} [DecidableEq α]
def gord (nx : α → List α) (s : α) : Nat → List α
  | 0 => [s]
  | i + 1 => match (gord nx s i)[i]? with
    | some t => addAll (gord nx s i) (nx t)
    | none => gord nx s i
variable {nx : α → List α} {s : α}
theorem gord_some {i : Nat} {t : α} (h : (gord nx s i)[i]? = some t) : gord nx s (i + 1) = addAll (gord nx s i) (nx t) := by
  show (match (gord nx s i)[i]? with | some t => addAll (gord nx s i) (nx t) | none => gord nx s i) = _
  rw [h]
theorem gord_none {i : Nat} (h : (gord nx s i).length ≤ i) : gord nx s (i + 1) = gord nx s i := by
  show (match (gord nx s i)[i]? with | some t => addAll (gord nx s i) (nx t) | none => gord nx s i) = _
  rw [List.getElem?_eq_none h]
theorem gord_pre1 (i : Nat) : ∃ t, gord nx s (i + 1) = gord nx s i ++ t := by
  cases h : (gord nx s i)[i]? with
  | some t => rw [gord_some h]; exact pre_addAll _ _
  | none => rw [gord_none (List.getElem?_eq_none_iff.mp h)]; exact ⟨[], by simp⟩
theorem gord_pre {i : Nat} : ∀ j, ∃ t, gord nx s (i + j) = gord nx s i ++ t := by
  intro j
  induction j with
  | zero => exact ⟨[], by simp⟩
  | succ j ih =>
    obtain ⟨t, e⟩ := ih
    obtain ⟨u, f⟩ := gord_pre1 (nx := nx) (s := s) (i + j)
    exact ⟨t ++ u, by rw [← Nat.add_assoc, f, e, List.append_assoc]⟩
theorem gord_stay {i : Nat} (h : (gord nx s i).length ≤ i) : ∀ j, gord nx s (i + j) = gord nx s i := by
  intro j
  induction j with
  | zero => rfl
  | succ j ih => rw [← Nat.add_assoc, gord_none (by rw [ih]; omega), ih]
theorem gord_nodup (i : Nat) : (gord nx s i).Nodup := by
  induction i with
  | zero => exact (by simp [gord])
  | succ i ih =>
    cases h : (gord nx s i)[i]? with
    | some t => rw [gord_some h]; exact nodup_addAll ih
    | none => rw [gord_none (List.getElem?_eq_none_iff.mp h)]; exact ih
inductive Reach (nx : α → List α) (s : α) : α → Prop
  | refl : Reach nx s s
  | step {a b : α} : Reach nx s a → b ∈ nx a → Reach nx s b
theorem gord_reach : ∀ (i : Nat), ∀ x ∈ gord nx s i, Reach nx s x := by
  intro i
  induction i with
  | zero => intro x hx; rw [List.mem_singleton.mp hx]; exact .refl
  | succ i ih =>
    intro x hx
    cases h : (gord nx s i)[i]? with
    | some t =>
      rw [gord_some h] at hx
      rcases mem_addAll.mp hx with hx | hx
      · exact ih x hx
      · exact .step (ih t (List.mem_of_getElem? h)) hx
    | none =>
      rw [gord_none (List.getElem?_eq_none_iff.mp h)] at hx
      exact ih x hx
theorem gord_start (i : Nat) : ∃ t, gord nx s i = s :: t := by
  obtain ⟨t, e⟩ := gord_pre (nx := nx) (s := s) (i := 0) i
  rw [Nat.zero_add] at e
  exact ⟨t, by rw [e]; rfl⟩
theorem gord_mem (i : Nat) : s ∈ gord nx s i := by
  obtain ⟨t, e⟩ := gord_start (nx := nx) (s := s) i
  rw [e]
  exact List.mem_cons_self
theorem gord_idx (i : Nat) : (gord nx s i).idxOf s = 0 := by
  obtain ⟨t, e⟩ := gord_start (nx := nx) (s := s) i
  rw [e, List.idxOf_cons_self]
theorem gord_pos (i : Nat) : 0 < (gord nx s i).length := by
  obtain ⟨t, e⟩ := gord_start (nx := nx) (s := s) i
  rw [e]
  exact Nat.succ_pos _
/-- at the end -/
theorem gord_closed {N : Nat} (h : (gord nx s N).length ≤ N) : ∀ x ∈ gord nx s N, ∀ y ∈ nx x, y ∈ gord nx s N := by
  intro x hx y hy
  obtain ⟨i, hi, e⟩ := List.getElem_of_mem hx
  have hiN : i < N := by omega
  have hlen : i < (gord nx s i).length := by
    refine Nat.lt_of_not_le fun hle => ?_
    have := gord_stay hle (N - i)
    rw [Nat.add_sub_cancel' (Nat.le_of_lt hiN)] at this
    rw [this] at hi
    omega
  obtain ⟨t, et⟩ := gord_pre (nx := nx) (s := s) (i := i) (N - i)
  rw [Nat.add_sub_cancel' (Nat.le_of_lt hiN)] at et
  have h1 : (gord nx s i)[i]? = some x := by
    have h2 : (gord nx s N)[i]? = some x := by rw [List.getElem?_eq_getElem hi, e]
    rw [et, List.getElem?_append_left hlen] at h2
    exact h2
  obtain ⟨u, eu⟩ := gord_pre (nx := nx) (s := s) (i := i + 1) (N - (i + 1))
  rw [Nat.add_sub_cancel' hiN] at eu
  rw [eu, gord_some h1]
  exact List.mem_append_left _ (mem_addAll.mpr (.inr hy))
theorem gord_all {N : Nat} (h : (gord nx s N).length ≤ N) {x : α} : x ∈ gord nx s N ↔ Reach nx s x := by
  refine ⟨gord_reach N x, fun r => ?_⟩
  induction r with
  | refl => exact gord_mem N
  | step _ hb ih => exact gord_closed h _ ih _ hb
/-- two ends are one -/
theorem gord_end {i j : Nat} (hi : (gord nx s i).length ≤ i) (hj : (gord nx s j).length ≤ j) : gord nx s i = gord nx s j := by
  rcases Nat.le_total i j with h | h
  · have := gord_stay hi (j - i)
    rw [Nat.add_sub_cancel' h] at this
    exact this.symm
  · have := gord_stay hj (i - j)
    rw [Nat.add_sub_cancel' h] at this
    exact this
end
section
variable {α β : Type} [DecidableEq α] [DecidableEq β] {E : α → β → Prop}
def Inj2 (E : α → β → Prop) : Prop := ∀ a b a' b', E a b → E a' b' → (a = a' ↔ b = b')
theorem p2_mem (inj : Inj2 E) {x : α} {y : β} (h : E x y) : ∀ {o : List α} {p : List β}, P2 E o p → (x ∈ o ↔ y ∈ p) := by
  intro o
  induction o with
  | nil => intro p f; cases p with | nil => simp | cons _ _ => exact False.elim f
  | cons a o ih => intro p f; cases p with
    | nil => exact False.elim f
    | cons b p => rw [List.mem_cons, List.mem_cons, ih f.2, inj x y a b h f.1]
theorem p2_idx (inj : Inj2 E) {x : α} {y : β} (h : E x y) : ∀ {o : List α} {p : List β}, P2 E o p → o.idxOf x = p.idxOf y := by
  intro o
  induction o with
  | nil => intro p f; cases p with | nil => rfl | cons _ _ => exact False.elim f
  | cons a o ih => intro p f; cases p with
    | nil => exact False.elim f
    | cons b p =>
      rw [List.idxOf_cons, List.idxOf_cons, ih f.2]
      have e := inj a b x y f.1 h
      by_cases hab : a = x
      · rw [beq_iff_eq.mpr hab, beq_iff_eq.mpr (e.mp hab)]
      · rw [beq_eq_false_iff_ne.mpr hab, beq_eq_false_iff_ne.mpr fun z => hab (e.mpr z)]
theorem p2_addU (inj : Inj2 E) {x : α} {y : β} (h : E x y) {o : List α} {p : List β} (f : P2 E o p) : P2 E (addU o x) (addU p y) := by
  unfold addU
  by_cases hx : x ∈ o
  · rw [if_pos hx, if_pos ((p2_mem inj h f).mp hx)]
    exact f
  · rw [if_neg hx, if_neg fun z => hx ((p2_mem inj h f).mpr z)]
    exact f.append ⟨h, trivial⟩
theorem p2_addAll (inj : Inj2 E) : ∀ {xs : List α} {ys : List β} {o : List α} {p : List β}, P2 E xs ys → P2 E o p → P2 E (addAll o xs) (addAll p ys) := by
  intro xs
  induction xs with
  | nil => intro ys o p g f; cases ys with | nil => exact f | cons _ _ => exact False.elim g
  | cons x xs ih => intro ys o p g f; cases ys with | nil => exact False.elim g | cons y ys =>
    rw [addAll_cons, addAll_cons]
    exact ih g.2 (p2_addU inj g.1 f)
theorem p2_get {o : List α} : ∀ {p : List β} {i : Nat} {a : α}, P2 E o p → o[i]? = some a → ∃ b, p[i]? = some b ∧ E a b := by
  induction o with
  | nil => intro p i a _ e; simp at e
  | cons x o ih => intro p i a f e; cases p with
    | nil => exact False.elim f
    | cons y p =>
      cases i with
      | zero => exact ⟨y, rfl, by cases e; exact f.1⟩
      | succ i =>
        obtain ⟨b, h1, h2⟩ := ih (i := i) f.2 e
        exact ⟨b, h1, h2⟩
theorem p2_gord (inj : Inj2 E) {nx : α → List α} {ny : β → List β} {s : α} {t : β} (h0 : E s t) (step : ∀ a b, E a b → P2 E (nx a) (ny b)) : ∀ i, P2 E (gord nx s i) (gord ny t i) := by
  intro i
  induction i with
  | zero => exact ⟨h0, trivial⟩
  | succ i ih =>
    cases h : (gord nx s i)[i]? with
    | some a =>
      obtain ⟨b, hb, hE⟩ := p2_get ih h
      rw [gord_some h, gord_some hb]
      exact p2_addAll inj (step a b hE) ih
    | none =>
      have h1 := List.getElem?_eq_none_iff.mp h
      rw [gord_none h1, gord_none (by rw [← ih.length]; exact h1)]
      exact ih
end

/-! ### machines -/
abbrev Rows := List (List Nat)
def rw' (R : Rows) (s : Nat) : List Nat := R.getD s []
def stp (R : Rows) (s l : Nat) : Nat := (rw' R s).getD l 0
def run (R : Rows) (s : Nat) (w : List Nat) : Nat := w.foldl (stp R) s
def OkR (k n : Nat) (R : Rows) : Prop := R.length = n ∧ ∀ r ∈ R, r.length = k ∧ ∀ x ∈ r, x < n
def inK (k : Nat) (w : List Nat) : Prop := ∀ l ∈ w, l < k
def beh {μ : Type} [Inhabited μ] (R : Rows) (m : List μ) (s : Nat) (w : List Nat) : μ := m.getD (run R s w) default
theorem run_nil (R : Rows) (s : Nat) : run R s [] = s := rfl
theorem run_cons (R : Rows) (s l : Nat) (w : List Nat) : run R s (l :: w) = run R (stp R s l) w := rfl
theorem run_append (R : Rows) (s : Nat) (v w : List Nat) : run R s (v ++ w) = run R (run R s v) w := by unfold run; rw [List.foldl_append]
theorem inK_nil {k : Nat} : inK k [] := fun _ h => by simp at h
theorem inK_cons {k l : Nat} {w : List Nat} : inK k (l :: w) ↔ l < k ∧ inK k w := ⟨fun h => ⟨h l List.mem_cons_self, fun x hx => h x (List.mem_cons_of_mem _ hx)⟩, fun h x hx => (List.mem_cons.mp hx).elim (fun e => e ▸ h.1) (h.2 x)⟩
theorem inK_append {k : Nat} {v w : List Nat} : inK k (v ++ w) ↔ inK k v ∧ inK k w := ⟨fun h => ⟨fun x hx => h x (List.mem_append_left _ hx), fun x hx => h x (List.mem_append_right _ hx)⟩, fun h x hx => (List.mem_append.mp hx).elim (h.1 x) (h.2 x)⟩
section
variable {k n : Nat} {R : Rows}
theorem OkR.row (h : OkR k n R) {s : Nat} (hs : s < n) : R[s]? = some (rw' R s) := by
  unfold rw'
  rw [List.getD_eq_getElem?_getD, List.getElem?_eq_getElem (by rw [h.1]; exact hs)]
  rfl
theorem OkR.mem (h : OkR k n R) {s : Nat} (hs : s < n) : rw' R s ∈ R := List.mem_of_getElem? (h.row hs)
theorem OkR.len (h : OkR k n R) {s : Nat} (hs : s < n) : (rw' R s).length = k := (h.2 _ (h.mem hs)).1
theorem OkR.lt (h : OkR k n R) {s : Nat} (hs : s < n) : ∀ x ∈ rw' R s, x < n := (h.2 _ (h.mem hs)).2
theorem OkR.get (h : OkR k n R) {s l : Nat} (hs : s < n) (hl : l < k) : (rw' R s)[l]? = some (stp R s l) := by
  unfold stp
  rw [List.getD_eq_getElem?_getD, List.getElem?_eq_getElem (by rw [h.len hs]; exact hl)]
  rfl
theorem OkR.stp_mem (h : OkR k n R) {s l : Nat} (hs : s < n) (hl : l < k) : stp R s l ∈ rw' R s := List.mem_of_getElem? (h.get hs hl)
theorem OkR.stp (h : OkR k n R) {s l : Nat} (hs : s < n) (hl : l < k) : Mm.stp R s l < n := h.lt hs _ (h.stp_mem hs hl)
theorem OkR.run (h : OkR k n R) : ∀ {w : List Nat} {s : Nat}, s < n → inK k w → Mm.run R s w < n := by
  intro w
  induction w with
  | nil => intro s hs _; exact hs
  | cons l w ih => intro s hs hw; exact ih (h.stp hs (inK_cons.mp hw).1) (inK_cons.mp hw).2
theorem OkR.mem_row (h : OkR k n R) {s x : Nat} (hs : s < n) (hx : x ∈ rw' R s) : ∃ l, l < k ∧ x = Mm.stp R s l := by
  obtain ⟨l, hl, e⟩ := List.getElem_of_mem hx
  have hk : l < k := by rw [← h.len hs]; exact hl
  refine ⟨l, hk, ?_⟩
  have := h.get hs hk
  rw [List.getElem?_eq_getElem hl, e] at this
  exact Option.some.inj this
/-- what is reached, by words -/
theorem reach_run (h : OkR k n R) {s x : Nat} (hs : s < n) : Reach (rw' R) s x ↔ ∃ w, inK k w ∧ run R s w = x := by
  constructor
  · intro r
    induction r with
    | refl => exact ⟨[], inK_nil, rfl⟩
    | step _ hb ih =>
      obtain ⟨w, hw, e⟩ := ih
      have ha := h.run hs hw
      rw [e] at ha
      obtain ⟨l, hl, e2⟩ := h.mem_row ha hb
      refine ⟨w ++ [l], inK_append.mpr ⟨hw, inK_cons.mpr ⟨hl, inK_nil⟩⟩, ?_⟩
      rw [run_append, e, e2]
      rfl
  · rintro ⟨w, hw, rfl⟩
    have go : ∀ (v : List Nat) (a : Nat), a < n → Reach (rw' R) s a → inK k v → Reach (rw' R) s (run R a v) := by
      intro v
      induction v with
      | nil => intro a _ r _; exact r
      | cons l v ih =>
        intro a ha r hv
        exact ih _ (h.stp ha (inK_cons.mp hv).1) (.step r (h.stp_mem ha (inK_cons.mp hv).1)) (inK_cons.mp hv).2
    exact go w s hs .refl hw
abbrev ordR (R : Rows) (s n : Nat) : List Nat := gord (rw' R) s n
theorem ord_lt (h : OkR k n R) {s : Nat} (hs : s < n) (i : Nat) : ∀ x ∈ ordR R s i, x < n := by
  intro x hx
  obtain ⟨w, hw, e⟩ := (reach_run h hs).mp (gord_reach i x hx)
  rw [← e]
  exact h.run hs hw
theorem ord_len (h : OkR k n R) {s : Nat} (hs : s < n) (i : Nat) : (ordR R s i).length ≤ n := nodup_lt (gord_nodup i) (ord_lt h hs i)
end

/-- renumbered by an order -/
def rowsOf (R : Rows) (o : List Nat) : Rows := o.map fun t => (rw' R t).map fun x => o.idxOf x
def marksOf {μ : Type} [Inhabited μ] (m : List μ) (o : List Nat) : List μ := o.map fun t => m.getD t default
section
variable {μ : Type} [Inhabited μ] {k n : Nat} {R : Rows} {m : List μ} {s : Nat}
theorem rw_map {f : Nat → List Nat} {o : List Nat} {i : Nat} {t : Nat} (h : o[i]? = some t) : rw' (o.map f) i = f t := by
  unfold rw'
  rw [List.getD_eq_getElem?_getD, List.getElem?_map, h]
  rfl
theorem rowsOf_ok (h : OkR k n R) (hs : s < n) : OkR k (ordR R s n).length (rowsOf R (ordR R s n)) := by
  refine ⟨by unfold rowsOf; rw [List.length_map], fun r hr => ?_⟩
  obtain ⟨t, ht, rfl⟩ := List.mem_map.mp hr
  have htn := ord_lt h hs n t ht
  refine ⟨by rw [List.length_map, h.len htn], fun x hx => ?_⟩
  obtain ⟨y, hy, rfl⟩ := List.mem_map.mp hx
  exact List.idxOf_lt_length_iff.mpr (gord_closed (ord_len h hs n) t ht y hy)
theorem rowsOf_stp (h : OkR k n R) (hs : s < n) {a l : Nat} (ha : a ∈ ordR R s n) (hl : l < k) : stp (rowsOf R (ordR R s n)) ((ordR R s n).idxOf a) l = (ordR R s n).idxOf (stp R a l) := by
  have e : rw' (rowsOf R (ordR R s n)) ((ordR R s n).idxOf a) = (rw' R a).map fun x => (ordR R s n).idxOf x := rw_map (get_idx ha)
  unfold stp
  rw [e, List.getD_eq_getElem?_getD, List.getElem?_map, h.get (ord_lt h hs n a ha) hl]
  rfl
theorem rowsOf_run (h : OkR k n R) (hs : s < n) : ∀ (w : List Nat) {a : Nat}, a ∈ ordR R s n → inK k w → run (rowsOf R (ordR R s n)) ((ordR R s n).idxOf a) w = (ordR R s n).idxOf (run R a w) ∧ run R a w ∈ ordR R s n := by
  intro w
  induction w with
  | nil => intro a ha _; exact ⟨rfl, ha⟩
  | cons l w ih =>
    intro a ha hw
    have hl := (inK_cons.mp hw).1
    rw [run_cons, run_cons, rowsOf_stp h hs ha hl]
    exact ih (gord_closed (ord_len h hs n) a ha _ (h.stp_mem (ord_lt h hs n a ha) hl)) (inK_cons.mp hw).2
theorem marksOf_get {o : List Nat} {a : Nat} (ha : a ∈ o) : (marksOf m o).getD (o.idxOf a) default = m.getD a default := by
  unfold marksOf
  rw [List.getD_eq_getElem?_getD, List.getElem?_map, get_idx ha]
  rfl
theorem rowsOf_beh (h : OkR k n R) (hs : s < n) {w : List Nat} {a : Nat} (ha : a ∈ ordR R s n) (hw : inK k w) : beh (rowsOf R (ordR R s n)) (marksOf m (ordR R s n)) ((ordR R s n).idxOf a) w = beh R m a w := by
  obtain ⟨e, hm⟩ := rowsOf_run h hs w ha hw
  unfold beh
  rw [e, marksOf_get hm]
theorem rowsOf_beh0 (h : OkR k n R) (hs : s < n) {w : List Nat} (hw : inK k w) : beh (rowsOf R (ordR R s n)) (marksOf m (ordR R s n)) 0 w = beh R m s w := by
  have := rowsOf_beh (m := m) h hs (gord_mem (nx := rw' R) n) hw
  rw [gord_idx] at this
  exact this
end

/-! ### the least machine -/
def Eqv {μ : Type} [Inhabited μ] (k : Nat) (R : Rows) (m : List μ) (a c : Nat) : Prop := ∀ w, inK k w → beh R m a w = beh R m c w
/-- what a least machine is made of -/
structure Src {μ : Type} [Inhabited μ] (k : Nat) (b : List Nat → μ) (R : Rows) (m : List μ) (n s : Nat) (G : Nat → Prop) : Prop where
  ok : OkR k n R
  lm : m.length = n
  hs : G s
  lt : ∀ a, G a → a < n
  on : ∀ a, G a → ∀ x ∈ rw' R a, G x
  mini : ∀ a c, G a → G c → Eqv k R m a c → a = c
  bh : ∀ w, inK k w → beh R m s w = b w
def IsLeast {μ : Type} [Inhabited μ] (k : Nat) (b : List Nat → μ) (R' : Rows) (m' : List μ) : Prop := ∃ R m n s G, Src k b R m n s G ∧ R' = rowsOf R (ordR R s n) ∧ m' = marksOf m (ordR R s n)
section
variable {μ : Type} [Inhabited μ] {k : Nat} {b : List Nat → μ}
theorem beh_cons (R : Rows) (m : List μ) (s l : Nat) (w : List Nat) : beh R m s (l :: w) = beh R m (stp R s l) w := rfl
theorem IsLeast.unique {R1 R2 : Rows} {m1 m2 : List μ} (h1 : IsLeast k b R1 m1) (h2 : IsLeast k b R2 m2) : R1 = R2 ∧ m1 = m2 := by
  obtain ⟨A, ma, n, s, G, a, rfl, rfl⟩ := h1
  obtain ⟨B, mb, n', t, G', b', rfl, rfl⟩ := h2
  let E : Nat → Nat → Prop := fun x y => G x ∧ G' y ∧ ∀ w, inK k w → beh A ma x w = beh B mb y w
  have inj : Inj2 E := fun x y x' y' h h' => by
    constructor
    · intro e
      subst e
      exact b'.mini _ _ h.2.1 h'.2.1 fun w hw => (h.2.2 w hw).symm.trans (h'.2.2 w hw)
    · intro e
      subst e
      exact a.mini _ _ h.1 h'.1 fun w hw => (h.2.2 w hw).trans (h'.2.2 w hw).symm
  have h0 : E s t := ⟨a.hs, b'.hs, fun w hw => (a.bh w hw).trans (b'.bh w hw).symm⟩
  have step : ∀ x y, E x y → P2 E (rw' A x) (rw' B y) := fun x y h => by
    have hx := a.lt x h.1
    have hy := b'.lt y h.2.1
    refine P2.of (by rw [a.ok.len hx, b'.ok.len hy]) fun i p q hp hq => ?_
    have hi : i < k := by
      obtain ⟨z, _⟩ := List.getElem?_eq_some_iff.mp hp
      rw [a.ok.len hx] at z
      exact z
    rw [a.ok.get hx hi] at hp
    rw [b'.ok.get hy hi] at hq
    cases hp
    cases hq
    exact ⟨a.on x h.1 _ (a.ok.stp_mem hx hi), b'.on y h.2.1 _ (b'.ok.stp_mem hy hi), fun w hw => h.2.2 (i :: w) (inK_cons.mpr ⟨hi, hw⟩)⟩
  have p := p2_gord inj h0 step (n + n')
  have e1 : gord (rw' A) s (n + n') = ordR A s n := gord_stay (ord_len a.ok (a.lt s a.hs) n) n'
  have e2 : gord (rw' B) t (n + n') = ordR B t n' := by
    rw [Nat.add_comm]
    exact gord_stay (ord_len b'.ok (b'.lt t b'.hs) n') n
  rw [e1, e2] at p
  constructor
  · refine P2.map_eq (fun x y h => ?_) p
    exact P2.map_eq (R := E) (f := fun z => (ordR A s n).idxOf z) (g := fun z => (ordR B t n').idxOf z) (fun u v g => p2_idx inj g p) (step x y h)
  · refine P2.map_eq (fun x y h => ?_) p
    exact h.2.2 [] inK_nil
theorem IsLeast.congr {b' : List Nat → μ} {R : Rows} {m : List μ} (h : IsLeast k b R m) (e : ∀ w, inK k w → b w = b' w) : IsLeast k b' R m := by
  obtain ⟨A, ma, n, s, G, a, h1, h2⟩ := h
  exact ⟨A, ma, n, s, G, ⟨a.ok, a.lm, a.hs, a.lt, a.on, a.mini, fun w hw => (a.bh w hw).trans (e w hw)⟩, h1, h2⟩
theorem Src.len_le {R : Rows} {m : List μ} {n s : Nat} {G : Nat → Prop} (a : Src k b R m n s G) : (ordR R s n).length ≤ n := ord_len a.ok (a.lt s a.hs) n
theorem Src.reach {R : Rows} {m : List μ} {n s : Nat} {G : Nat → Prop} (a : Src k b R m n s G) : ∀ x ∈ ordR R s n, G x := fun x hx => by
  have r := gord_reach n x hx
  induction r with
  | refl => exact a.hs
  | step r hb ih => exact a.on _ (ih ((gord_all a.len_le).mpr r)) _ hb
/-- what is known of a least machine -/
structure Lst (k : Nat) (b : List Nat → μ) (R : Rows) (m : List μ) : Prop where
  ok : OkR k R.length R
  len : m.length = R.length
  pos : 0 < R.length
  bh : ∀ w, inK k w → beh R m 0 w = b w
  mini : ∀ a c, a < R.length → c < R.length → Eqv k R m a c → a = c
theorem IsLeast.lst {R : Rows} {m : List μ} (h : IsLeast k b R m) : Lst k b R m := by
  obtain ⟨A, ma, n, s, G, a, rfl, rfl⟩ := h
  have hs := a.lt s a.hs
  have hl : (rowsOf A (ordR A s n)).length = (ordR A s n).length := List.length_map _
  refine ⟨by rw [hl]; exact rowsOf_ok a.ok hs, ?_, by rw [hl]; exact gord_pos n, fun w hw => (rowsOf_beh0 a.ok hs hw).trans (a.bh w hw), fun x y hx hy e => ?_⟩
  · rw [hl]
    exact List.length_map _
  · rw [hl] at hx hy
    have ex : (ordR A s n)[x]? = some (ordR A s n)[x] := List.getElem?_eq_getElem hx
    have ey : (ordR A s n)[y]? = some (ordR A s n)[y] := List.getElem?_eq_getElem hy
    have mx := List.mem_of_getElem? ex
    have my := List.mem_of_getElem? ey
    have ix := idx_get (gord_nodup n) ex
    have iy := idx_get (gord_nodup n) ey
    have z : (ordR A s n)[x] = (ordR A s n)[y] := a.mini _ _ (a.reach _ mx) (a.reach _ my) fun w hw => by
      have h1 := rowsOf_beh (m := ma) a.ok hs mx hw
      have h2 := rowsOf_beh (m := ma) a.ok hs my hw
      rw [ix] at h1
      rw [iy] at h2
      rw [← h1, ← h2]
      exact e w hw
    rw [← ix, ← iy, z]
end
end Mm

/-! Classes of states by rounds; quotients; pairs of states; led words. Plain Lean. -/
namespace Mm
section
variable {μ : Type} [Inhabited μ] {k n : Nat} {R : Rows} {m : List μ}
/-- alike by words of at most j letters -/
def EqD (k : Nat) (R : Rows) (m : List μ) (j a c : Nat) : Prop := ∀ w, inK k w → w.length ≤ j → beh R m a w = beh R m c w
theorem EqD.refl (j a : Nat) : EqD k R m j a a := fun _ _ _ => rfl
theorem EqD.symm {j a c : Nat} (h : EqD k R m j a c) : EqD k R m j c a := fun w hw hl => (h w hw hl).symm
theorem EqD.trans {j a c d : Nat} (h : EqD k R m j a c) (g : EqD k R m j c d) : EqD k R m j a d := fun w hw hl => (h w hw hl).trans (g w hw hl)
theorem eqD_zero {a c : Nat} : EqD k R m 0 a c ↔ m.getD a default = m.getD c default :=
  ⟨fun h => h [] inK_nil (Nat.le_refl _), fun h w _ hl => by
    have : w = [] := List.eq_nil_of_length_eq_zero (Nat.le_zero.mp hl)
    subst this
    exact h⟩
theorem eqD_succ {j a c : Nat} : EqD k R m (j + 1) a c ↔ EqD k R m j a c ∧ ∀ l, l < k → EqD k R m j (stp R a l) (stp R c l) := by
  constructor
  · exact fun h => ⟨fun w hw hl => h w hw (Nat.le_succ_of_le hl), fun l hl w hw hlw => h (l :: w) (inK_cons.mpr ⟨hl, hw⟩) (Nat.succ_le_succ hlw)⟩
  · rintro ⟨h1, h2⟩ w hw hl
    cases w with
    | nil => exact h1 [] hw (Nat.zero_le _)
    | cons l w => exact h2 l (inK_cons.mp hw).1 w (inK_cons.mp hw).2 (Nat.le_of_succ_le_succ hl)
theorem eqv_eqD {a c : Nat} (h : Eqv k R m a c) (j : Nat) : EqD k R m j a c := fun w hw _ => h w hw
/-- no more classes: alike by all words -/
theorem eqD_fix (ok : OkR k n R) {j : Nat} (h : ∀ a c, a < n → c < n → EqD k R m j a c → EqD k R m (j + 1) a c) {a c : Nat} (ha : a < n) (hc : c < n) (e : EqD k R m j a c) : Eqv k R m a c := by
  have go : ∀ (w : List Nat) (a c : Nat), a < n → c < n → EqD k R m j a c → inK k w → beh R m a w = beh R m c w := by
    intro w
    induction w with
    | nil => intro a c _ _ e hw; exact e [] hw (Nat.zero_le _)
    | cons l w ih =>
      intro a c ha hc e hw
      have hl := (inK_cons.mp hw).1
      exact ih _ _ (ok.stp ha hl) (ok.stp hc hl) ((eqD_succ.mp (h a c ha hc e)).2 l hl) (inK_cons.mp hw).2
  exact fun w hw => go w a c ha hc e hw
end
/-! ### how many classes -/
section
open Classical
noncomputable def fst' (E : Nat → Nat → Prop) (a : Nat) : Bool := @decide (∀ c, c < a → ¬ E c a) (propDecidable _)
theorem fst'_iff {E : Nat → Nat → Prop} {a : Nat} : fst' E a = true ↔ ∀ c, c < a → ¬ E c a := by
  unfold fst'
  exact ⟨fun h => @of_decide_eq_true _ (propDecidable _) h, fun h => @decide_eq_true _ (propDecidable _) h⟩
noncomputable def nf (E : Nat → Nat → Prop) (n : Nat) : Nat := ((List.range n).filter (fst' E)).length
theorem nf_le (E : Nat → Nat → Prop) (n : Nat) : nf E n ≤ n := by
  unfold nf
  refine Nat.le_trans (List.length_filter_le _ _) ?_
  rw [List.length_range]
  exact Nat.le_refl _
theorem filter_mono {α : Type} (p q : α → Bool) : ∀ (l : List α), (∀ x ∈ l, p x = true → q x = true) → (l.filter p).length ≤ (l.filter q).length := by
  intro l
  induction l with
  | nil => intro _; exact Nat.le_refl _
  | cons x l ih =>
    intro h
    have ih' := ih fun y hy => h y (List.mem_cons_of_mem _ hy)
    by_cases hp : p x = true
    · rw [List.filter_cons_of_pos hp, List.filter_cons_of_pos (h x List.mem_cons_self hp)]
      exact Nat.succ_le_succ ih'
    · rw [List.filter_cons_of_neg hp]
      by_cases hq : q x = true
      · rw [List.filter_cons_of_pos hq]
        exact Nat.le_succ_of_le ih'
      · rw [List.filter_cons_of_neg hq]
        exact ih'
theorem filter_same {α : Type} (p q : α → Bool) : ∀ (l : List α), (∀ x ∈ l, p x = true → q x = true) → (l.filter p).length = (l.filter q).length → ∀ x ∈ l, q x = true → p x = true := by
  intro l
  induction l with
  | nil => intro _ _ x hx; simp at hx
  | cons y l ih =>
    intro h e x hx hq
    have hr : ∀ z ∈ l, p z = true → q z = true := fun z hz => h z (List.mem_cons_of_mem _ hz)
    have hm := filter_mono p q l hr
    by_cases hp : p y = true
    · rw [List.filter_cons_of_pos hp, List.filter_cons_of_pos (h y List.mem_cons_self hp)] at e
      rcases List.mem_cons.mp hx with rfl | hx
      · exact hp
      · exact ih hr (Nat.succ.inj e) x hx hq
    · rw [List.filter_cons_of_neg hp] at e
      by_cases hy : q y = true
      · rw [List.filter_cons_of_pos hy, List.length_cons] at e
        omega
      · rw [List.filter_cons_of_neg hy] at e
        rcases List.mem_cons.mp hx with rfl | hx
        · exact absurd hq hy
        · exact ih hr e x hx hq
section
variable {E E' : Nat → Nat → Prop} {n : Nat}
theorem nf_mono (h : ∀ a c, a < n → c < n → E' a c → E a c) : nf E n ≤ nf E' n := by
  refine filter_mono _ _ _ fun a ha q => ?_
  have han := List.mem_range.mp ha
  exact fst'_iff.mpr fun c hc z => fst'_iff.mp q c hc (h c a (Nat.lt_trans hc han) han z)
/-- the same number of classes: the same classes -/
theorem nf_same (h : ∀ a c, a < n → c < n → E' a c → E a c) (e : nf E n = nf E' n) (sy : ∀ a c, E a c → E c a) (tr : ∀ a c d, E a c → E c d → E a d) (re' : ∀ a, E' a a) (sy' : ∀ a c, E' a c → E' c a) (tr' : ∀ a c d, E' a c → E' c d → E' a d)
    {a c : Nat} (ha : a < n) (hc : c < n) (q : E a c) : E' a c := by
  have key : ∀ x, x < n → (∀ y, y < x → ¬ E' y x) → ∀ y, y < x → ¬ E y x := fun x hx q' => by
    have := filter_same (fst' E) (fst' E') (List.range n) (fun x hx q => by
      have han := List.mem_range.mp hx
      exact fst'_iff.mpr fun c hc z => fst'_iff.mp q c hc (h c x (Nat.lt_trans hc han) han z)) e x (List.mem_range.mpr hx) (fst'_iff.mpr q')
    exact fst'_iff.mp this
  have first : ∀ x, x < n → ∃ y, y ≤ x ∧ E' y x ∧ ∀ z, z < y → ¬ E' z y := by
    intro x
    induction x using Nat.strongRecOn with
    | _ x ih =>
      intro hx
      by_cases hz : ∃ y, y < x ∧ E' y x
      · obtain ⟨y, hy, ey⟩ := hz
        obtain ⟨z, h1, h2, h3⟩ := ih y hy (Nat.lt_trans hy hx)
        exact ⟨z, Nat.le_trans h1 (Nat.le_of_lt hy), tr' _ _ _ h2 ey, h3⟩
      · exact ⟨x, Nat.le_refl _, re' x, fun z hz' ez => hz ⟨z, hz', ez⟩⟩
  obtain ⟨a0, a1, a2, a3⟩ := first a ha
  obtain ⟨c0, c1, c2, c3⟩ := first c hc
  have ha0 : a0 < n := Nat.lt_of_le_of_lt a1 ha
  have hc0 : c0 < n := Nat.lt_of_le_of_lt c1 hc
  have e0 : E a0 c0 := tr _ _ _ (h _ _ ha0 ha a2) (tr _ _ _ q (sy _ _ (h _ _ hc0 hc c2)))
  have : a0 = c0 := by
    rcases Nat.lt_trichotomy a0 c0 with hlt | he | hlt
    · exact absurd e0 (key c0 hc0 c3 a0 hlt)
    · exact he
    · exact absurd (sy _ _ e0) (key a0 ha0 a3 c0 hlt)
  subst this
  exact tr' _ _ _ (sy' _ _ a2) c2
end
section
variable {μ : Type} [Inhabited μ] {k n : Nat} {R : Rows} {m : List μ}
theorem eqD_same (ok : OkR k n R) {j : Nat} (e : nf (EqD k R m j) n = nf (EqD k R m (j + 1)) n) {a c : Nat} (ha : a < n) (hc : c < n) (q : EqD k R m j a c) : Eqv k R m a c := by
  refine eqD_fix ok (fun a c ha hc q => ?_) ha hc q
  exact nf_same (E := EqD k R m j) (E' := EqD k R m (j + 1)) (fun a c _ _ h => (eqD_succ.mp h).1) e (fun _ _ h => h.symm) (fun _ _ _ h g => h.trans g) (fun a => EqD.refl _ a) (fun _ _ h => h.symm) (fun _ _ _ h g => h.trans g) ha hc q
theorem nf_eqD_mono (j : Nat) : nf (EqD k R m j) n ≤ nf (EqD k R m (j + 1)) n := nf_mono fun _ _ _ _ h => (eqD_succ.mp h).1
/-- as many rounds as there are states do -/
theorem eqD_all (ok : OkR k n R) (hn : 0 < n) {a c : Nat} (ha : a < n) (hc : c < n) (q : EqD k R m n a c) : Eqv k R m a c := by
  have go : ∀ j, (∀ a c, a < n → c < n → EqD k R m j a c → Eqv k R m a c) ∨ j + 1 ≤ nf (EqD k R m j) n := by
    intro j
    induction j with
    | zero =>
      refine .inr ?_
      unfold nf
      refine List.length_pos_iff.mpr fun z => ?_
      have : (0 : Nat) ∈ (List.range n).filter (fst' (EqD k R m 0)) := List.mem_filter.mpr ⟨List.mem_range.mpr hn, fst'_iff.mpr fun c hc => absurd hc (Nat.not_lt_zero _)⟩
      rw [z] at this
      simp at this
    | succ j ih =>
      rcases ih with h | h
      · exact .inl fun a c ha hc q => h a c ha hc (eqD_succ.mp q).1
      · have h1 := nf_eqD_mono (k := k) (R := R) (m := m) (n := n) j
        by_cases he : nf (EqD k R m j) n = nf (EqD k R m (j + 1)) n
        · exact .inl fun a c ha hc q => eqD_same ok he ha hc (eqD_succ.mp q).1
        · exact .inr (by omega)
  rcases go n with h | h
  · exact h a c ha hc q
  · have := nf_le (EqD k R m n) n
    omega
end
/-- distinct keys are as many as first ones -/
theorem nf_uniq {κ : Type} [DecidableEq κ] (f : Nat → κ) : ∀ n, (uniq ((List.range n).map f)).length = nf (fun a c => f a = f c) n := by
  intro n
  induction n with
  | zero => rfl
  | succ n ih =>
    unfold nf at ih ⊢
    rw [List.range_succ, List.map_append, List.filter_append, List.length_append, ← ih]
    show (addAll [] ((List.range n).map f ++ [f n])).length = _
    rw [addAll_snoc]
    show (addU (uniq ((List.range n).map f)) (f n)).length = _
    have hm : f n ∈ uniq ((List.range n).map f) ↔ ∃ c, c < n ∧ f c = f n := by
      unfold uniq
      rw [mem_addAll]
      simp only [List.not_mem_nil, false_or, List.mem_map, List.mem_range]
    unfold addU
    by_cases h : ∃ c, c < n ∧ f c = f n
    · rw [if_pos (hm.mpr h), List.filter_cons_of_neg, List.filter_nil, List.length_nil, Nat.add_zero]
      intro z
      obtain ⟨c, hc, e⟩ := h
      exact fst'_iff.mp z c hc e
    · rw [if_neg fun z => h (hm.mp z), List.length_append, List.filter_cons_of_pos, List.filter_nil]
      · rfl
      · exact fst'_iff.mpr fun c hc e => h ⟨c, hc, e⟩
theorem nf_congr {E E' : Nat → Nat → Prop} {n : Nat} (h : ∀ a c, a < n → c < n → (E a c ↔ E' a c)) : nf E n = nf E' n := Nat.le_antisymm (nf_mono fun a c ha hc => (h a c ha hc).mpr) (nf_mono fun a c ha hc => (h a c ha hc).mp)
end

/-! ### quotients -/
section
variable {μ : Type} [Inhabited μ] {k n : Nat} {R : Rows} {m : List μ}
theorem Eqv.stp {a c l : Nat} (h : Eqv k R m a c) (hl : l < k) : Eqv k R m (stp R a l) (stp R c l) := fun w hw => h (l :: w) (inK_cons.mpr ⟨hl, hw⟩)
/-- states are the numbers of classes -/
theorem src_quot (ok : OkR k n R) (lm : m.length = n) {cl f : Nat → Nat} {c s : Nat} (hcl : ∀ a, a < n → cl a < c) (hf : ∀ q, q < c → f q < n ∧ cl (f q) = q) (he : ∀ a b, a < n → b < n → (cl a = cl b ↔ Eqv k R m a b)) (hs : s < n) :
    Src k (fun w => beh R m s w) ((List.range c).map fun q => (rw' R (f q)).map cl) ((List.range c).map fun q => m.getD (f q) default) c (cl s) (fun q => q < c) := by
  have row : ∀ q, q < c → rw' ((List.range c).map fun q => (rw' R (f q)).map cl) q = (rw' R (f q)).map cl := fun q hq => rw_map (f := fun q => (rw' R (f q)).map cl) (by rw [List.getElem?_range hq])
  have mk : ∀ q, q < c → ((List.range c).map fun q => m.getD (f q) default).getD q default = m.getD (f q) default := fun q hq => by
    rw [List.getD_eq_getElem?_getD, List.getElem?_map, List.getElem?_range hq]
    rfl
  have st : ∀ a l, a < n → l < k → Mm.stp ((List.range c).map fun q => (rw' R (f q)).map cl) (cl a) l = cl (Mm.stp R a l) := fun a l ha hl => by
    have hq := hcl a ha
    obtain ⟨f1, f2⟩ := hf _ hq
    show (rw' _ (cl a)).getD l 0 = _
    rw [row _ hq, List.getD_eq_getElem?_getD, List.getElem?_map, ok.get f1 hl]
    show cl (Mm.stp R (f (cl a)) l) = _
    exact (he _ _ (ok.stp f1 hl) (ok.stp ha hl)).mpr (((he _ _ f1 ha).mp f2).stp hl)
  have rn : ∀ w a, a < n → inK k w → Mm.run ((List.range c).map fun q => (rw' R (f q)).map cl) (cl a) w = cl (Mm.run R a w) := by
    intro w
    induction w with
    | nil => intro a _ _; rfl
    | cons l w ih =>
      intro a ha hw
      have hl := (inK_cons.mp hw).1
      rw [run_cons, run_cons, st a l ha hl]
      exact ih _ (ok.stp ha hl) (inK_cons.mp hw).2
  have bh : ∀ w a, a < n → inK k w → beh ((List.range c).map fun q => (rw' R (f q)).map cl) ((List.range c).map fun q => m.getD (f q) default) (cl a) w = beh R m a w := fun w a ha hw => by
    have hr := ok.run ha hw
    unfold beh
    rw [rn w a ha hw, mk _ (hcl _ hr)]
    obtain ⟨f1, f2⟩ := hf _ (hcl _ hr)
    exact ((he _ _ f1 hr).mp f2) [] inK_nil
  have ok' : OkR k c ((List.range c).map fun q => (rw' R (f q)).map cl) := by
    refine ⟨by rw [List.length_map, List.length_range], fun r hr => ?_⟩
    obtain ⟨q, hq, rfl⟩ := List.mem_map.mp hr
    have hq' := List.mem_range.mp hq
    refine ⟨by rw [List.length_map, ok.len (hf q hq').1], fun x hx => ?_⟩
    obtain ⟨y, hy, rfl⟩ := List.mem_map.mp hx
    exact hcl y (ok.lt (hf q hq').1 y hy)
  refine ⟨ok', by rw [List.length_map, List.length_range], hcl s hs, fun a h => h, fun a ha x hx => ok'.lt ha x hx, fun a d ha hd e => ?_, fun w hw => bh w s hs hw⟩
  obtain ⟨a1, a2⟩ := hf a ha
  obtain ⟨d1, d2⟩ := hf d hd
  rw [← a2, ← d2]
  refine (he _ _ a1 d1).mpr fun w hw => ?_
  rw [← bh w _ a1 hw, ← bh w _ d1 hw, a2, d2]
  exact e w hw
/-- states are chosen ones of each class -/
theorem src_reps (ok : OkR k n R) (lm : m.length = n) {ch : Nat → Nat} {s : Nat} (hch : ∀ a, a < n → ch a < n ∧ Eqv k R m (ch a) a) (he : ∀ a b, a < n → b < n → Eqv k R m a b → ch a = ch b) (hs : s < n) :
    Src k (fun w => beh R m s w) (R.map fun r => r.map ch) m n (ch s) (fun a => a < n ∧ ch a = a) := by
  have row : ∀ a, a < n → rw' (R.map fun r => r.map ch) a = (rw' R a).map ch := fun a ha => by
    show (R.map fun r => r.map ch).getD a [] = _
    rw [List.getD_eq_getElem?_getD, List.getElem?_map, ok.row ha]
    rfl
  have st : ∀ a l, a < n → l < k → Mm.stp (R.map fun r => r.map ch) a l = ch (Mm.stp R a l) := fun a l ha hl => by
    show (rw' _ a).getD l 0 = _
    rw [row a ha, List.getD_eq_getElem?_getD, List.getElem?_map, ok.get ha hl]
    rfl
  have idem : ∀ a, a < n → ch (ch a) = ch a := fun a ha => he _ _ (hch a ha).1 ha (hch a ha).2
  have ok' : OkR k n (R.map fun r => r.map ch) := by
    refine ⟨by rw [List.length_map, ok.1], fun r hr => ?_⟩
    obtain ⟨r0, h0, rfl⟩ := List.mem_map.mp hr
    refine ⟨by rw [List.length_map, (ok.2 r0 h0).1], fun x hx => ?_⟩
    obtain ⟨y, hy, rfl⟩ := List.mem_map.mp hx
    exact (hch y ((ok.2 r0 h0).2 y hy)).1
  have bh : ∀ w a b, a < n → b < n → Eqv k R m a b → inK k w → beh (R.map fun r => r.map ch) m a w = beh R m b w := by
    intro w
    induction w with
    | nil => intro a b _ _ e _; exact e [] inK_nil
    | cons l w ih =>
      intro a b ha hb e hw
      have hl := (inK_cons.mp hw).1
      rw [beh_cons, beh_cons, st a l ha hl]
      have h1 := ok.stp ha hl
      refine ih _ _ (hch _ h1).1 (ok.stp hb hl) (fun v hv => ?_) (inK_cons.mp hw).2
      rw [(hch _ h1).2 v hv]
      exact e.stp hl v hv
  refine ⟨ok', lm, ⟨(hch s hs).1, idem s hs⟩, fun a h => h.1, fun a ha x hx => ?_, fun a d ha hd e => ?_, fun w hw => bh w _ _ (hch s hs).1 hs (hch s hs).2 hw⟩
  · rw [row a ha.1] at hx
    obtain ⟨y, hy, rfl⟩ := List.mem_map.mp hx
    have hy' := ok.lt ha.1 y hy
    exact ⟨(hch y hy').1, idem y hy'⟩
  · rw [← ha.2, ← hd.2]
    refine he _ _ ha.1 hd.1 fun w hw => ?_
    rw [← bh w a a ha.1 ha.1 (fun _ _ => rfl) hw, ← bh w d d hd.1 hd.1 (fun _ _ => rfl) hw]
    exact e w hw
end

/-! ### pairs of states -/
theorem nodup_map {α β : Type} {f : α → β} : ∀ {l : List α}, (∀ x ∈ l, ∀ y ∈ l, f x = f y → x = y) → l.Nodup → (l.map f).Nodup := by
  intro l
  induction l with
  | nil => intro _ _; exact List.nodup_nil
  | cons a l ih =>
    intro h n
    rw [List.nodup_cons] at n
    rw [List.map_cons, List.nodup_cons]
    refine ⟨fun z => ?_, ih (fun x hx y hy => h x (List.mem_cons_of_mem _ hx) y (List.mem_cons_of_mem _ hy)) n.2⟩
    obtain ⟨b, hb, e⟩ := List.mem_map.mp z
    have := h b (List.mem_cons_of_mem _ hb) a List.mem_cons_self e
    subst this
    exact n.1 hb
def nxP (R1 R2 : Rows) : Nat × Nat → List (Nat × Nat) := fun p => (rw' R1 p.1).zip (rw' R2 p.2)
abbrev ordP (R1 R2 : Rows) (i : Nat) : List (Nat × Nat) := gord (nxP R1 R2) (0, 0) i
section
variable {k n1 n2 : Nat} {R1 R2 : Rows}
theorem nxP_get (h1 : OkR k n1 R1) (h2 : OkR k n2 R2) {p : Nat × Nat} (hp : p.1 < n1 ∧ p.2 < n2) {q : Nat × Nat} : q ∈ nxP R1 R2 p ↔ ∃ l, l < k ∧ q = (stp R1 p.1 l, stp R2 p.2 l) := by
  constructor
  · intro hq
    obtain ⟨i, hi, e⟩ := List.getElem_of_mem hq
    unfold nxP at hi e
    rw [List.length_zip, h1.len hp.1, h2.len hp.2, Nat.min_self] at hi
    refine ⟨i, hi, ?_⟩
    have : ((rw' R1 p.1).zip (rw' R2 p.2))[i]? = some (stp R1 p.1 i, stp R2 p.2 i) := by
      rw [List.getElem?_zip_eq_some]
      exact ⟨h1.get hp.1 hi, h2.get hp.2 hi⟩
    rw [List.getElem?_eq_getElem (by rw [List.length_zip, h1.len hp.1, h2.len hp.2, Nat.min_self]; exact hi), e] at this
    exact Option.some.inj this
  · rintro ⟨l, hl, rfl⟩
    refine List.mem_of_getElem? (i := l) ?_
    unfold nxP
    rw [List.getElem?_zip_eq_some]
    exact ⟨h1.get hp.1 hl, h2.get hp.2 hl⟩
theorem reachP (h1 : OkR k n1 R1) (h2 : OkR k n2 R2) (p1 : 0 < n1) (p2 : 0 < n2) {q : Nat × Nat} : Reach (nxP R1 R2) (0, 0) q ↔ ∃ w, inK k w ∧ q = (run R1 0 w, run R2 0 w) := by
  constructor
  · intro r
    induction r with
    | refl => exact ⟨[], inK_nil, rfl⟩
    | step _ hb ih =>
      obtain ⟨w, hw, rfl⟩ := ih
      obtain ⟨l, hl, rfl⟩ := (nxP_get h1 h2 (p := (run R1 0 w, run R2 0 w)) ⟨h1.run p1 hw, h2.run p2 hw⟩).mp hb
      refine ⟨w ++ [l], inK_append.mpr ⟨hw, inK_cons.mpr ⟨hl, inK_nil⟩⟩, ?_⟩
      rw [run_append, run_append]
      rfl
  · rintro ⟨w, hw, rfl⟩
    have go : ∀ (v : List Nat) (p : Nat × Nat), p.1 < n1 ∧ p.2 < n2 → Reach (nxP R1 R2) (0, 0) p → inK k v → Reach (nxP R1 R2) (0, 0) (run R1 p.1 v, run R2 p.2 v) := by
      intro v
      induction v with
      | nil => intro p _ r _; exact r
      | cons l v ih =>
        intro p hp r hv
        have hl := (inK_cons.mp hv).1
        exact ih (stp R1 p.1 l, stp R2 p.2 l) ⟨h1.stp hp.1 hl, h2.stp hp.2 hl⟩ (.step r ((nxP_get h1 h2 hp).mpr ⟨l, hl, rfl⟩)) (inK_cons.mp hv).2
    exact go w (0, 0) ⟨p1, p2⟩ .refl hw
theorem ordP_lt (h1 : OkR k n1 R1) (h2 : OkR k n2 R2) (p1 : 0 < n1) (p2 : 0 < n2) (i : Nat) : ∀ q ∈ ordP R1 R2 i, q.1 < n1 ∧ q.2 < n2 := by
  intro q hq
  obtain ⟨w, hw, rfl⟩ := (reachP h1 h2 p1 p2).mp (gord_reach i q hq)
  exact ⟨h1.run p1 hw, h2.run p2 hw⟩
theorem ordP_len (h1 : OkR k n1 R1) (h2 : OkR k n2 R2) (p1 : 0 < n1) (p2 : 0 < n2) (i : Nat) : (ordP R1 R2 i).length ≤ n1 * n2 := by
  have e : ((ordP R1 R2 i).map fun q => q.1 * n2 + q.2).length = (ordP R1 R2 i).length := List.length_map _
  rw [← e]
  refine nodup_lt ?_ ?_
  · refine nodup_map (fun q hq q' hq' z => ?_) (gord_nodup i)
    obtain ⟨a1, a2⟩ := ordP_lt h1 h2 p1 p2 i q hq
    obtain ⟨b1, b2⟩ := ordP_lt h1 h2 p1 p2 i q' hq'
    have e1 : q.1 = q'.1 := by
      have x1 : (q.1 * n2 + q.2) / n2 = q.1 := by rw [Nat.mul_comm, Nat.mul_add_div p2, Nat.div_eq_of_lt a2, Nat.add_zero]
      have x2 : (q'.1 * n2 + q'.2) / n2 = q'.1 := by rw [Nat.mul_comm, Nat.mul_add_div p2, Nat.div_eq_of_lt b2, Nat.add_zero]
      rw [← x1, ← x2, z]
    have e2 : q.2 = q'.2 := by
      rw [e1] at z
      exact Nat.add_left_cancel z
    exact Prod.ext e1 e2
  · intro x hx
    obtain ⟨q, hq, rfl⟩ := List.mem_map.mp hx
    obtain ⟨a1, a2⟩ := ordP_lt h1 h2 p1 p2 i q hq
    calc q.1 * n2 + q.2 < q.1 * n2 + n2 := Nat.add_lt_add_left a2 _
      _ = (q.1 + 1) * n2 := (Nat.succ_mul _ _).symm
      _ ≤ n1 * n2 := Nat.mul_le_mul_right _ a1
/-- alike exactly if the pairs' marks are alike -/
theorem alike_pairs {μ : Type} [Inhabited μ] {m1 m2 : List μ} (h1 : OkR k n1 R1) (h2 : OkR k n2 R2) (p1 : 0 < n1) (p2 : 0 < n2) {N : Nat} (hN : (ordP R1 R2 N).length ≤ N) :
    (∀ q ∈ ordP R1 R2 N, m1.getD q.1 default = m2.getD q.2 default) ↔ ∀ w, inK k w → beh R1 m1 0 w = beh R2 m2 0 w := by
  constructor
  · intro h w hw
    exact h (run R1 0 w, run R2 0 w) ((gord_all hN).mpr ((reachP h1 h2 p1 p2).mpr ⟨w, hw, rfl⟩))
  · intro h q hq
    obtain ⟨w, hw, rfl⟩ := (reachP h1 h2 p1 p2).mp (gord_reach N q hq)
    exact h w hw
end

/-! ### led words -/
def ledW (R O : Rows) (s : Nat) : List Nat → List Nat
  | [] => []
  | l :: w => stp O s l :: ledW R O (stp R s l) w
def backW (R O : Rows) (s : Nat) : List Nat → List Nat
  | [] => []
  | l :: w => (rw' O s).idxOf l :: backW R O (stp R s ((rw' O s).idxOf l)) w
/-- an out -/
def isOut (k : Nat) (o : List Nat) : Prop := o.length = k ∧ (∀ x ∈ o, x < k) ∧ ∀ x, x < k → x ∈ o
section
variable {k n : Nat} {R O : Rows}
theorem led_length : ∀ (w : List Nat) (s : Nat), (ledW R O s w).length = w.length := by
  intro w
  induction w with
  | nil => intro s; rfl
  | cons l w ih => intro s; show _ + 1 = _ + 1; rw [ih]
theorem led_append : ∀ (v w : List Nat) (s : Nat), ledW R O s (v ++ w) = ledW R O s v ++ ledW R O (run R s v) w := by
  intro v
  induction v with
  | nil => intro w s; rfl
  | cons l v ih =>
    intro w s
    show stp O s l :: ledW R O (stp R s l) (v ++ w) = stp O s l :: (ledW R O (stp R s l) v ++ ledW R O (run R (stp R s l) v) w)
    rw [ih]
theorem led_beh {n' : Nat} {R' O' : Rows} : ∀ (w : List Nat) (s s' : Nat), (∀ w, inK k w → beh R O s w = beh R' O' s' w) → inK k w → ledW R O s w = ledW R' O' s' w := by
  intro w
  induction w with
  | nil => intro s s' _ _; rfl
  | cons l w ih =>
    intro s s' h hw
    have e0 : rw' O s = rw' O' s' := h [] inK_nil
    show stp O s l :: _ = stp O' s' l :: _
    rw [ih (stp R s l) (stp R' s' l) (fun v hv => h (l :: v) (inK_cons.mpr ⟨(inK_cons.mp hw).1, hv⟩)) (inK_cons.mp hw).2]
    unfold stp
    rw [e0]
end
end Mm

namespace Mm
section
variable {μ : Type} [Inhabited μ] {k n : Nat} {R : Rows} {m : List μ}
/-- the keys of the next round -/
theorem key_iff {κ : Type} (ok : OkR k n R) {ls : Nat → κ} {j : Nat} (h : ∀ a c, a < n → c < n → (ls a = ls c ↔ EqD k R m j a c)) {a c : Nat} (ha : a < n) (hc : c < n) : (ls a :: (rw' R a).map ls = ls c :: (rw' R c).map ls) ↔ EqD k R m (j + 1) a c := by
  rw [eqD_succ]
  constructor
  · intro e
    injection e with e1 e2
    refine ⟨(h a c ha hc).mp e1, fun l hl => (h _ _ (ok.stp ha hl) (ok.stp hc hl)).mp ?_⟩
    have := congrArg (·[l]?) e2
    simp only [List.getElem?_map, ok.get ha hl, ok.get hc hl, Option.map_some] at this
    exact Option.some.inj this
  · rintro ⟨e1, e2⟩
    rw [(h a c ha hc).mpr e1]
    congr 1
    refine List.ext_getElem? fun l => ?_
    rw [List.getElem?_map, List.getElem?_map]
    by_cases hl : l < k
    · rw [ok.get ha hl, ok.get hc hl]
      show some (ls (stp R a l)) = some (ls (stp R c l))
      rw [(h _ _ (ok.stp ha hl) (ok.stp hc hl)).mpr (e2 l hl)]
    · rw [List.getElem?_eq_none (by rw [ok.len ha]; omega), List.getElem?_eq_none (by rw [ok.len hc]; omega)]
end
theorem uniq_take {κ : Type} [DecidableEq κ] (ks : List κ) (i : Nat) : ∃ u, uniq ks = uniq (ks.take i) ++ u := by
  obtain ⟨u, e⟩ := pre_addAll (ks.drop i) (addAll [] (ks.take i))
  rw [← addAll_append, List.take_append_drop] at e
  exact ⟨u, e⟩
theorem mem_uniq {κ : Type} [DecidableEq κ] {ks : List κ} {x : κ} : x ∈ uniq ks ↔ x ∈ ks := by
  unfold uniq
  rw [mem_addAll]
  simp
theorem uniq_nodup {κ : Type} [DecidableEq κ] (ks : List κ) : (uniq ks).Nodup := nodup_addAll List.nodup_nil
theorem uniq_len {κ : Type} [DecidableEq κ] (ks : List κ) : (uniq ks).length ≤ ks.length := by
  have go : ∀ (xs o : List κ), (addAll o xs).length ≤ o.length + xs.length := by
    intro xs
    induction xs with
    | nil => intro o; exact Nat.le_refl _
    | cons x xs ih =>
      intro o
      rw [addAll_cons]
      have h1 := ih (addU o x)
      have h2 : (addU o x).length ≤ o.length + 1 := by
        unfold addU
        split
        · omega
        · rw [List.length_append]
          exact Nat.le_refl _
      rw [List.length_cons]
      omega
  have := go ks []
  rw [List.length_nil, Nat.zero_add] at this
  exact this
/-- numbers by first coming come in their order -/
theorem uniq_num {κ : Type} [DecidableEq κ] (ks : List κ) : uniq (ks.map fun x => (uniq ks).idxOf x) = List.range (uniq ks).length := by
  have go : ∀ i, i ≤ ks.length → uniq ((ks.take i).map fun x => (uniq ks).idxOf x) = List.range (uniq (ks.take i)).length := by
    intro i
    induction i with
    | zero => intro _; rfl
    | succ i ih =>
      intro hi
      have hlt : i < ks.length := hi
      have e : ks[i]? = some ks[i] := List.getElem?_eq_getElem hlt
      have tk : ks.take (i + 1) = ks.take i ++ [ks[i]] := by
        rw [List.take_add_one, e]
        rfl
      have ih' := ih (Nat.le_of_lt hlt)
      have nx : uniq (ks.take (i + 1)) = addU (uniq (ks.take i)) ks[i] := by
        unfold uniq
        rw [tk, addAll_snoc]
      rw [tk, List.map_append]
      show addAll [] ((ks.take i).map (fun x => (uniq ks).idxOf x) ++ [(uniq ks).idxOf ks[i]]) = _
      rw [addAll_snoc]
      show addU (uniq ((ks.take i).map fun x => (uniq ks).idxOf x)) ((uniq ks).idxOf ks[i]) = _
      rw [ih', ← tk, nx]
      obtain ⟨u, eu⟩ := uniq_take ks (i + 1)
      by_cases hx : ks[i] ∈ uniq (ks.take i)
      · have e1 : addU (uniq (ks.take i)) ks[i] = uniq (ks.take i) := if_pos hx
        have e2 : (uniq ks).idxOf ks[i] = (uniq (ks.take i)).idxOf ks[i] := by
          rw [eu, nx, e1]
          exact idx_pre hx
        rw [e1, e2]
        unfold addU
        rw [if_pos]
        exact List.mem_range.mpr (List.idxOf_lt_length_iff.mpr hx)
      · have e1 : addU (uniq (ks.take i)) ks[i] = uniq (ks.take i) ++ [ks[i]] := if_neg hx
        have e2 : (uniq ks).idxOf ks[i] = (uniq (ks.take i)).length := by
          rw [eu, nx, e1, idx_pre (List.mem_append_right _ (List.mem_singleton.mpr rfl))]
          exact idx_new hx
        rw [e1, e2, List.length_append]
        unfold addU
        rw [if_neg (fun z => Nat.lt_irrefl _ (List.mem_range.mp z))]
        show List.range _ ++ [_] = List.range (_ + 1)
        rw [List.range_succ]
  have := go ks.length (Nat.le_refl _)
  rw [List.take_length] at this
  exact this
end Mm

namespace Mm
section
variable {k n : Nat} {R O : Rows}
theorem back_append : ∀ (v w : List Nat) (s : Nat), backW R O s (v ++ w) = backW R O s v ++ backW R O (run R s (backW R O s v)) w := by
  intro v
  induction v with
  | nil => intro w s; rfl
  | cons l v ih =>
    intro w s
    show (rw' O s).idxOf l :: backW R O (stp R s ((rw' O s).idxOf l)) (v ++ w) = (rw' O s).idxOf l :: (backW R O (stp R s ((rw' O s).idxOf l)) v ++ backW R O (run R (stp R s ((rw' O s).idxOf l)) (backW R O (stp R s ((rw' O s).idxOf l)) v)) w)
    rw [ih]
theorem back_length : ∀ (w : List Nat) (s : Nat), (backW R O s w).length = w.length := by
  intro w
  induction w with
  | nil => intro s; rfl
  | cons l w ih => intro s; show _ + 1 = _ + 1; rw [ih]
theorem isOut.idx {o : List Nat} (h : isOut k o) {l : Nat} (hl : l < k) : o.idxOf l < k := by
  have := List.idxOf_lt_length_iff.mpr (h.2.2 l hl)
  rw [h.1] at this
  exact this
theorem back_in (ok : OkR k n R) (ho : ∀ s, s < n → isOut k (rw' O s)) : ∀ (w : List Nat) (s : Nat), s < n → inK k w → inK k (backW R O s w) := by
  intro w
  induction w with
  | nil => intro s _ _; exact inK_nil
  | cons l w ih =>
    intro s hs hw
    have h1 := (ho s hs).idx (inK_cons.mp hw).1
    exact inK_cons.mpr ⟨h1, ih _ (ok.stp hs h1) (inK_cons.mp hw).2⟩
theorem idx_le {α : Type} [DecidableEq α] {x : α} : ∀ {o : List α} {m : Nat}, o[m]? = some x → o.idxOf x ≤ m := by
  intro o
  induction o with
  | nil => intro m h; simp at h
  | cons a o ih =>
    intro m h
    rw [List.idxOf_cons]
    by_cases e : a = x
    · rw [beq_iff_eq.mpr e]
      exact Nat.zero_le _
    · rw [beq_eq_false_iff_ne.mpr e]
      cases m with
      | zero => cases h; exact absurd rfl e
      | succ m => exact Nat.succ_le_succ (ih (m := m) h)
/-! ### begun elsewhere -/
def swp (s x : Nat) : Nat := if x = 0 then s else if x = s then 0 else x
theorem swp_swp (s x : Nat) : swp s (swp s x) = x := by
  unfold swp
  split
  · rename_i h
    subst h
    by_cases e : s = 0
    · rw [if_pos e, e]
    · rw [if_neg e, if_pos rfl]
  · split
    · rename_i h1 h2
      rw [if_pos rfl, h2]
    · rename_i h1 h2
      first
        | rfl
        | rw [if_neg h1, if_neg h2]
theorem swp_lt {s x : Nat} (hs : s < n) (hx : x < n) : swp s x < n := by
  unfold swp
  split
  · exact hs
  · split
    · omega
    · exact hx
def swpR (R : Rows) (s n : Nat) : Rows := (List.range n).map fun i => (rw' R (swp s i)).map (swp s)
def swpM {μ : Type} [Inhabited μ] (m : List μ) (s n : Nat) : List μ := (List.range n).map fun i => m.getD (swp s i) default
variable {μ : Type} [Inhabited μ] {m : List μ} {s : Nat}
theorem swp_ok (ok : OkR k n R) (hs : s < n) : OkR k n (swpR R s n) := by
  refine ⟨by unfold swpR; rw [List.length_map, List.length_range], fun r hr => ?_⟩
  obtain ⟨i, hi, rfl⟩ := List.mem_map.mp hr
  have h1 := swp_lt (n := n) hs (List.mem_range.mp hi)
  refine ⟨by rw [List.length_map, ok.len h1], fun x hx => ?_⟩
  obtain ⟨y, hy, rfl⟩ := List.mem_map.mp hx
  exact swp_lt hs (ok.lt h1 y hy)
theorem swp_beh (ok : OkR k n R) (hs : s < n) : ∀ (w : List Nat) (a : Nat), a < n → inK k w → beh (swpR R s n) (swpM m s n) (swp s a) w = beh R m a w := by
  intro w
  induction w with
  | nil =>
    intro a ha _
    show (swpM m s n).getD (swp s a) default = m.getD a default
    have h1 := swp_lt (n := n) hs ha
    unfold swpM
    rw [List.getD_eq_getElem?_getD, List.getElem?_map, List.getElem?_range h1]
    show m.getD (swp s (swp s a)) default = _
    rw [swp_swp]
  | cons l w ih =>
    intro a ha hw
    have hl := (inK_cons.mp hw).1
    have e : stp (swpR R s n) (swp s a) l = swp s (stp R a l) := by
      have h1 := swp_lt (n := n) hs ha
      show (rw' (swpR R s n) (swp s a)).getD l 0 = _
      have e1 : rw' (swpR R s n) (swp s a) = (rw' R (swp s (swp s a))).map (swp s) := rw_map (f := fun i => (rw' R (swp s i)).map (swp s)) (by rw [List.getElem?_range h1])
      rw [e1, swp_swp, List.getD_eq_getElem?_getD, List.getElem?_map, ok.get ha hl]
      rfl
    rw [beh_cons, beh_cons, e]
    exact ih _ (ok.stp ha hl) (inK_cons.mp hw).2
theorem swp_beh0 (ok : OkR k n R) (hs : s < n) {w : List Nat} (hw : inK k w) : beh (swpR R s n) (swpM m s n) 0 w = beh R m s w := by
  have := swp_beh (m := m) ok hs w s hs hw
  have e : swp s s = 0 := by
    unfold swp
    by_cases h : s = 0
    · rw [if_pos h, h]
    · rw [if_neg h, if_pos rfl]
  rw [e] at this
  exact this
end
end Mm

/-! zip of two tuples into one name (its pair may still be out); enumerate of a tuple. -/
namespace Br
open PySem PySem.Spec PyProof.Rows L2 RZ

/-- a zip, its first two fields told -/
abbrev ZipAt (h : Heap) (z TI TO : Addr) (v : Value) (f : Bool) : Prop := h.get? z = some { cls := .type "zip", dict := none, data := .fields #[v, .bool f, .bool false, .ref TI, .ref TO], slots := #[] }
def OutV (v : Value) : Prop := v = .none ∨ ∃ T : Nat, v = rawInt T
section
variable {prog : Program} {w : World} {A : Around} {E : Value → Shared → Prop} {s : Shared} {z TI TO i1 i2 l1 l2 : Addr} {k1 k2 : Nat} {xs ys : Array Value} {v : Value} {f : Bool}
theorem alive_any {T : Addr} {Q : Option Obj → Shared → Prop} (h : Q (s.heap.get? T) s) : wpAny (model prog w) A (loadIfAlive T) Q E s := fun _ _ _ => h
theorem zip_free {Q : Bool → Shared → Prop} (hz : ZipAt s.heap z TI TO v f) (hv : OutV v) (h : ∀ h' f' b, ZipAt h' z TI TO v f' → Heap.SameBut z s.heap h' → Q b { s with heap := h' }) : wpAny (model prog w) A (Builtin.SmallTypes.ownedTupleIsFree (.ref z)) Q E s := by
  unfold Builtin.SmallTypes.ownedTupleIsFree
  rcases hv with rfl | ⟨T, rfl⟩
  · exact wpAny_bind (wpAny_field hz rfl (x := .none) rfl (wpAny_pure (h s.heap f true hz (Heap.SameBut.refl _ _))))
  · refine wpAny_bind (wpAny_field hz rfl (x := rawInt T) rfl ?_)
    show wpAny _ _ (loadIfAlive ((T : Int).toNat) >>= _) _ _ _
    rw [Int.toNat_natCast]
    refine wpAny_bind (alive_any ?_)
    cases s.heap.get? T with
    | none => exact wpAny_pure (h s.heap f true hz (Heap.SameBut.refl _ _))
    | some o =>
      show wpAny _ _ (field (.ref z) 1 >>= _) _ _ _
      refine wpAny_bind (wpAny_field hz rfl (x := .bool f) rfl ?_)
      cases f with
      | true => exact wpAny_pure (h s.heap true false hz (Heap.SameBut.refl _ _))
      | false => exact wpAny_bind (wpAny_setField_rec hz (by simp) fun h₁ hz₁ hs₁ => wpAny_pure (h h₁ true false hz₁ hs₁))
theorem zip_item {x y : Value} {Q : Value → Shared → Prop} (D : ZipApart z TI TO i1 i2 l1 l2) (hz : ZipAt s.heap z TI TO v f) (hv : OutV v) (hTI : IsPair s.heap TI (.ref i1) (.ref i2)) (hTO : ∃ a b, IsPair s.heap TO a b)
    (h1 : s.heap.IsTupleIter i1 l1 k1) (h2 : s.heap.IsTupleIter i2 l2 k2) (hl1 : s.heap.IsTuple l1 xs) (hl2 : s.heap.IsTuple l2 ys) (hx : xs[k1]? = some x) (hy : ys[k2]? = some y)
    (hQ : ∀ h' v' f', ZipAt h' z TI TO v' f' → OutV v' → (∃ a b, IsPair h' TO a b) → h'.IsTupleIter i1 l1 (k1 + 1) → h'.IsTupleIter i2 l2 (k2 + 1) → IsPair h' s.heap.objs.size x y → h'.objs.size = s.heap.objs.size + 1 →
      (∀ c o, c ≠ z → c ≠ TO → c ≠ i1 → c ≠ i2 → s.heap.get? c = some o → h'.get? c = some o) → Q (.ref s.heap.objs.size) { s with heap := h' }) :
    wpAny (model prog w) A (Builtin.«zip.__next__» ⟨[.ref z], []⟩) (fun fin s' => ∃ v, fin = .done (.ret v) ∧ Q v s') E s := by
  obtain ⟨a, b, hTO⟩ := hTO
  show wpAny _ _ (field (.ref z) 2 >>= _) _ _ _
  refine wpAny_bind (wpAny_field hz rfl (x := .bool false) rfl ?_)
  show wpAny _ _ (field (.ref z) 3 >>= _) _ _ _
  refine wpAny_bind (wpAny_field hz rfl (x := .ref TI) rfl (wpAny_bind (wpAny_seqItems hTI rfl ?_)))
  show wpAny _ _ (Builtin.SmallTypes.ownedTupleIsFree (.ref z) >>= _) _ _ _
  refine wpAny_bind (zip_free hz hv fun h₀ f₀ fr hz₀ hs₀ => ?_)
  have hTO₀ : IsPair h₀ TO a b := hs₀.extBut _ _ D.TOz hTO
  have h1₀ := h1.extBut hs₀.extBut D.i1z
  have h2₀ := h2.extBut hs₀.extBut D.i2z
  have hl1₀ := hl1.extBut hs₀.extBut D.l1z
  have hl2₀ := hl2.extBut hs₀.extBut D.l2z
  have sz0 : h₀.objs.size = s.heap.objs.size := hs₀.1
  cases fr with
  | false =>
    simp only [Bool.false_eq_true, if_false]
    refine wpAny_bind ?_
    rw [← Array.forIn_toList]
    simp only [List.forIn_cons, List.forIn_nil]
    refine wpAny_bind (wpAny_bind (wpAny_holding ?_))
    show wpAny _ _ (Builtin.SmallTypes.nextOf (.ref i1) >>= _) _ _ _
    refine wpAny_bind (nextOf_tuple_item (s := { s with heap := h₀ }) h1₀ hl1₀ hx fun h₂ h1₂ hs₂ => wpAny_pure (wpAny_pure ?_))
    refine wpAny_bind (wpAny_bind (wpAny_holding ?_))
    show wpAny _ _ (Builtin.SmallTypes.nextOf (.ref i2) >>= _) _ _ _
    refine wpAny_bind (nextOf_tuple_item (s := { s with heap := h₂ }) (h2₀.extBut hs₂.extBut D.i12.symm) (hl2₀.extBut hs₂.extBut D.l2i1) hy fun h₃ h2₃ hs₃ => wpAny_pure (wpAny_pure (wpAny_pure ?_)))
    show wpAny _ _ (newTuple [x, y] >>= _) _ _ _
    refine wpAny_bind (wpAny_newTuple ?_)
    have hsz : h₃.objs.size = s.heap.objs.size := by rw [hs₃.1, hs₂.1, sz0]
    have hz₃ : ZipAt h₃ z TI TO v f₀ := hs₃.extBut _ _ D.i2z.symm (hs₂.extBut _ _ D.i1z.symm hz₀)
    have hTO₃ : IsPair h₃ TO a b := hs₃.extBut _ _ D.TOi2 (hs₂.extBut _ _ D.TOi1 hTO₀)
    have h1₃ : h₃.IsTupleIter i1 l1 (k1 + 1) := h1₂.extBut hs₃.extBut D.i12
    refine wpAny_pure ⟨_, rfl, ?_⟩
    show Q (.ref h₃.objs.size) _
    have hp : IsPair (h₃.push { cls := .type "tuple", data := .seq #[x, y] }) h₃.objs.size x y := Heap.get?_push_size _ rfl
    have hz4 : (h₃.push { cls := .type "tuple", data := .seq #[x, y] }).objs.size = h₃.objs.size + 1 := Heap.size_push ..
    rw [hsz] at hp hz4 ⊢
    exact hQ _ v f₀ (Heap.get?_push_of_some _ hz₃) hv ⟨a, b, Heap.get?_push_of_some _ hTO₃⟩ (h1₃.at fun o e => Heap.get?_push_of_some _ e) (h2₃.at fun o e => Heap.get?_push_of_some _ e) hp hz4
      fun c o c1 _ c2 c3 e => Heap.get?_push_of_some _ (hs₃.extBut _ _ c3 (hs₂.extBut _ _ c2 (hs₀.extBut _ _ c1 e)))
  | true =>
    simp only [if_true]
    refine wpAny_bind (wpAny_rule ?_)
    refine wpAny_bind (wpAny_field hz₀ rfl (x := .ref TO) rfl ?_)
    refine wpAny_bind (wpAny_setField_rec (s := { s with heap := h₀ }) hz₀ (by simp) fun h₁ hz₁ hs₁ => ?_)
    replace hz₁ : ZipAt h₁ z TI TO .ellipsis f₀ := hz₁
    refine wpAny_bind ?_
    simp only [List.zipIdx_cons, List.zipIdx_nil, List.forIn_cons, List.forIn_nil]
    refine wpAny_bind (wpAny_bind (wpAny_onRaise ?_))
    show wpAny _ _ (Builtin.SmallTypes.nextOf (.ref i1) >>= _) _ _ _
    refine wpAny_bind (nextOf_tuple_item (s := { s with heap := h₁ }) (h1₀.extBut hs₁.extBut D.i1z) (hl1₀.extBut hs₁.extBut D.l1z) hx fun h₂ h1₂ hs₂ => wpAny_pure ?_)
    have hTO₂ : IsPair h₂ TO a b := hs₂.extBut _ _ D.TOi1 (hs₁.extBut _ _ D.TOz hTO₀)
    refine wpAny_bind (wpAny_seqItems hTO₂ rfl (wpAny_bind (wpAny_updateSeq_pair (s := { s with heap := h₂ }) hTO₂ fun h₃ hTO₃ hs₃ => ?_)))
    replace hTO₃ : IsPair h₃ TO x b := hTO₃
    refine wpAny_bind (wpAny_letGo (wpAny_pure ?_))
    refine wpAny_bind (wpAny_bind (wpAny_onRaise ?_))
    show wpAny _ _ (Builtin.SmallTypes.nextOf (.ref i2) >>= _) _ _ _
    refine wpAny_bind (nextOf_tuple_item (s := { s with heap := h₃ }) (((h2₀.extBut hs₁.extBut D.i2z).extBut hs₂.extBut D.i12.symm).extBut hs₃.extBut D.TOi2.symm) (((hl2₀.extBut hs₁.extBut D.l2z).extBut hs₂.extBut D.l2i1).extBut hs₃.extBut D.l2TO) hy fun h₄ h2₄ hs₄ => wpAny_pure ?_)
    have hTO₄ : IsPair h₄ TO x b := hs₄.extBut _ _ D.TOi2 hTO₃
    refine wpAny_bind (wpAny_seqItems hTO₄ rfl (wpAny_bind (wpAny_updateSeq_pair (s := { s with heap := h₄ }) hTO₄ fun h₅ hTO₅ hs₅ => ?_)))
    replace hTO₅ : IsPair h₅ TO x y := hTO₅
    refine wpAny_bind (wpAny_letGo (wpAny_pure (wpAny_pure ?_)))
    refine wpAny_bind (wpAny_seqItems hTO₅ rfl (wpAny_bind (wpAny_newTuple ?_)))
    have hsz : h₅.objs.size = s.heap.objs.size := by rw [hs₅.1, hs₄.1, hs₃.1, hs₂.1, hs₁.1, sz0]
    have hz₅ : ZipAt h₅ z TI TO .ellipsis f₀ := hs₅.extBut _ _ D.TOz.symm (hs₄.extBut _ _ D.i2z.symm (hs₃.extBut _ _ D.TOz.symm (hs₂.extBut _ _ D.i1z.symm hz₁)))
    have hk₅ : ∀ c o, c ≠ z → c ≠ TO → c ≠ i1 → c ≠ i2 → s.heap.get? c = some o → h₅.get? c = some o := fun c o c1 c2 c3 c4 e =>
      hs₅.extBut _ _ c2 (hs₄.extBut _ _ c4 (hs₃.extBut _ _ c2 (hs₂.extBut _ _ c3 (hs₁.extBut _ _ c1 (hs₀.extBut _ _ c1 e)))))
    have h1₅ : h₅.IsTupleIter i1 l1 (k1 + 1) := ((h1₂.extBut hs₃.extBut D.TOi1.symm).extBut hs₄.extBut D.i12).extBut hs₅.extBut D.TOi1.symm
    have h2₅ : h₅.IsTupleIter i2 l2 (k2 + 1) := h2₄.extBut hs₅.extBut D.TOi2.symm
    have hzlt : z < h₅.objs.size := Heap.lt_size hz₅
    show wpAny _ _ (Builtin.SmallTypes.ownedTupleHandOut (.ref z) (.ref h₅.objs.size) >>= _) _ _ _
    refine wpAny_bind ?_
    unfold Builtin.SmallTypes.ownedTupleHandOut
    have hz₆ : ZipAt (h₅.push { cls := .type "tuple", data := .seq #[x, y] }) z TI TO .ellipsis f₀ := Heap.get?_push_of_some _ hz₅
    refine wpAny_bind (wpAny_setField_rec (s := { s with heap := h₅.push { cls := .type "tuple", data := .seq #[x, y] } }) hz₆ (by simp) fun h₇ hz₇ hs₇ => ?_)
    replace hz₇ : ZipAt h₇ z TI TO (rawInt h₅.objs.size) f₀ := hz₇
    refine wpAny_setField_rec (s := { s with heap := h₇ }) hz₇ (by simp) fun h₈ hz₈ hs₈ => ?_
    replace hz₈ : ZipAt h₈ z TI TO (rawInt h₅.objs.size) false := hz₈
    have up : ∀ c o, c ≠ z → h₅.get? c = some o → h₈.get? c = some o := fun c o c1 e => hs₈.extBut _ _ c1 (hs₇.extBut _ _ c1 (Heap.get?_push_of_some _ e))
    have hT₈ : IsPair h₈ h₅.objs.size x y := hs₈.extBut _ _ (Nat.ne_of_gt hzlt) (hs₇.extBut _ _ (Nat.ne_of_gt hzlt) (Heap.get?_push_size _ rfl))
    have hz8 : h₈.objs.size = h₅.objs.size + 1 := by rw [hs₈.1, hs₇.1, Heap.size_push]
    refine wpAny_pure ⟨_, rfl, ?_⟩
    show Q (.ref h₅.objs.size) _
    rw [hsz] at hT₈ hz8 ⊢
    exact hQ h₈ _ false hz₈ (.inr ⟨_, rfl⟩) ⟨x, y, up _ _ D.TOz hTO₅⟩ (h1₅.at fun o e => up _ o D.i1z e) (h2₅.at fun o e => up _ o D.i2z e) hT₈ hz8 fun c o c1 c2 c3 c4 e => up c o c1 (hk₅ c o c1 c2 c3 c4 e)
theorem zip_end {Q : Fin → Shared → Prop} (hh : A.handled = none) (D : ZipApart z TI TO i1 i2 l1 l2) (hz : ZipAt s.heap z TI TO v f) (hv : OutV v) (hTI : IsPair s.heap TI (.ref i1) (.ref i2)) (hTO : ∃ a b, IsPair s.heap TO a b)
    (h1 : s.heap.IsTupleIter i1 l1 k1) (h2 : s.heap.IsTupleIter i2 l2 k2) (hl1 : s.heap.IsTuple l1 xs) (hl2 : s.heap.IsTuple l2 ys) (hend : xs[k1]? = none ∨ ys[k2]? = none)
    (hE : ∀ h' e, (∀ c o, c ≠ z → c ≠ TO → c ≠ i1 → c ≠ i2 → s.heap.get? c = some o → h'.get? c = some o) → (∃ o, h'.get? e = some o ∧ o.cls = .type "StopIteration") → E (.ref e) { s with heap := h' }) :
    wpAny (model prog w) A (Builtin.«zip.__next__» ⟨[.ref z], []⟩) Q E s := by
  obtain ⟨a, b, hTO⟩ := hTO
  show wpAny _ _ (field (.ref z) 2 >>= _) _ _ _
  refine wpAny_bind (wpAny_field hz rfl (x := .bool false) rfl ?_)
  show wpAny _ _ (field (.ref z) 3 >>= _) _ _ _
  refine wpAny_bind (wpAny_field hz rfl (x := .ref TI) rfl (wpAny_bind (wpAny_seqItems hTI rfl ?_)))
  show wpAny _ _ (Builtin.SmallTypes.ownedTupleIsFree (.ref z) >>= _) _ _ _
  refine wpAny_bind (zip_free hz hv fun h₀ f₀ fr hz₀ hs₀ => ?_)
  have hTO₀ : IsPair h₀ TO a b := hs₀.extBut _ _ D.TOz hTO
  have h1₀ := h1.extBut hs₀.extBut D.i1z
  have h2₀ := h2.extBut hs₀.extBut D.i2z
  have hl1₀ := hl1.extBut hs₀.extBut D.l1z
  have hl2₀ := hl2.extBut hs₀.extBut D.l2z
  cases fr with
  | false =>
    simp only [Bool.false_eq_true, if_false]
    refine wpAny_bind ?_
    rw [← Array.forIn_toList]
    simp only [List.forIn_cons, List.forIn_nil]
    refine wpAny_bind (wpAny_bind (wpAny_holding ?_))
    show wpAny _ _ (Builtin.SmallTypes.nextOf (.ref i1) >>= _) _ _ _
    cases hx : xs[k1]? with
    | none =>
      refine wpAny_bind (nextOf_tuple_end (s := { s with heap := h₀ }) hh h1₀ hl1₀ hx fun h₂ e hs₂ he => ?_)
      exact hE h₂ e (fun c o c1 _ c2 _ x => hs₂ _ _ c2 (hs₀.extBut _ _ c1 x)) he
    | some x =>
      have hy : ys[k2]? = none := by
        rcases hend with h | h
        · rw [hx] at h
          cases h
        · exact h
      refine wpAny_bind (nextOf_tuple_item (s := { s with heap := h₀ }) h1₀ hl1₀ hx fun h₂ h1₂ hs₂ => wpAny_pure (wpAny_pure ?_))
      refine wpAny_bind (wpAny_bind (wpAny_holding ?_))
      show wpAny _ _ (Builtin.SmallTypes.nextOf (.ref i2) >>= _) _ _ _
      refine wpAny_bind (nextOf_tuple_end (s := { s with heap := h₂ }) hh (h2₀.extBut hs₂.extBut D.i12.symm) (hl2₀.extBut hs₂.extBut D.l2i1) hy fun h₃ e hs₃ he => ?_)
      exact hE h₃ e (fun c o c1 _ c2 c3 x => hs₃ _ _ c3 (hs₂.extBut _ _ c2 (hs₀.extBut _ _ c1 x))) he
  | true =>
    simp only [if_true]
    refine wpAny_bind (wpAny_rule ?_)
    refine wpAny_bind (wpAny_field hz₀ rfl (x := .ref TO) rfl ?_)
    refine wpAny_bind (wpAny_setField_rec (s := { s with heap := h₀ }) hz₀ (by simp) fun h₁ hz₁ hs₁ => ?_)
    replace hz₁ : ZipAt h₁ z TI TO .ellipsis f₀ := hz₁
    refine wpAny_bind ?_
    simp only [List.zipIdx_cons, List.zipIdx_nil, List.forIn_cons, List.forIn_nil]
    refine wpAny_bind (wpAny_bind (wpAny_onRaise ?_))
    show wpAny _ _ (Builtin.SmallTypes.nextOf (.ref i1) >>= _) _ _ _
    cases hx : xs[k1]? with
    | none =>
      refine wpAny_bind (nextOf_tuple_end (s := { s with heap := h₁ }) hh (h1₀.extBut hs₁.extBut D.i1z) (hl1₀.extBut hs₁.extBut D.l1z) hx fun h₂ e hs₂ he => ?_)
      obtain ⟨oe, hoe, hce⟩ := he
      have hz₂ : ZipAt h₂ z TI TO .ellipsis f₀ := hs₂ _ _ D.i1z.symm hz₁
      have hez : e ≠ z := fun x => by
        subst x
        rw [hz₂] at hoe
        cases hoe
        simp at hce
      refine wpAny_setField_rec (s := { s with heap := h₂ }) hz₂ (by simp) fun h₃ _ hs₃ => hE h₃ e (fun c o c1 _ c3 _ x => hs₃.extBut _ _ c1 (hs₂ _ _ c3 (hs₁.extBut _ _ c1 (hs₀.extBut _ _ c1 x)))) ⟨oe, hs₃.extBut _ _ hez hoe, hce⟩
    | some x =>
      have hy : ys[k2]? = none := by
        rcases hend with h | h
        · rw [hx] at h
          cases h
        · exact h
      refine wpAny_bind (nextOf_tuple_item (s := { s with heap := h₁ }) (h1₀.extBut hs₁.extBut D.i1z) (hl1₀.extBut hs₁.extBut D.l1z) hx fun h₂ h1₂ hs₂ => wpAny_pure ?_)
      have hTO₂ : IsPair h₂ TO a b := hs₂.extBut _ _ D.TOi1 (hs₁.extBut _ _ D.TOz hTO₀)
      refine wpAny_bind (wpAny_seqItems hTO₂ rfl (wpAny_bind (wpAny_updateSeq_pair (s := { s with heap := h₂ }) hTO₂ fun h₃ hTO₃ hs₃ => ?_)))
      refine wpAny_bind (wpAny_letGo (wpAny_pure ?_))
      refine wpAny_bind (wpAny_bind (wpAny_onRaise ?_))
      show wpAny _ _ (Builtin.SmallTypes.nextOf (.ref i2) >>= _) _ _ _
      refine wpAny_bind (nextOf_tuple_end (s := { s with heap := h₃ }) hh (((h2₀.extBut hs₁.extBut D.i2z).extBut hs₂.extBut D.i12.symm).extBut hs₃.extBut D.TOi2.symm) (((hl2₀.extBut hs₁.extBut D.l2z).extBut hs₂.extBut D.l2i1).extBut hs₃.extBut D.l2TO) hy fun h₄ e hs₄ he => ?_)
      obtain ⟨oe, hoe, hce⟩ := he
      have hz₄ : ZipAt h₄ z TI TO .ellipsis f₀ := hs₄ _ _ D.i2z.symm (hs₃.extBut _ _ D.TOz.symm (hs₂.extBut _ _ D.i1z.symm hz₁))
      have hez : e ≠ z := fun x => by
        subst x
        rw [hz₄] at hoe
        cases hoe
        simp at hce
      refine wpAny_setField_rec (s := { s with heap := h₄ }) hz₄ (by simp) fun h₅ _ hs₅ => hE h₅ e (fun c o c1 c2 c3 c4 x => hs₅.extBut _ _ c1 (hs₄ _ _ c4 (hs₃.extBut _ _ c2 (hs₂.extBut _ _ c3 (hs₁.extBut _ _ c1 (hs₀.extBut _ _ c1 x)))))) ⟨oe, hs₅.extBut _ _ hez hoe, hce⟩
theorem next_zip {x y : Value} {Q : Option Value → Shared → Prop} (D : ZipApart z TI TO i1 i2 l1 l2) (hz : ZipAt s.heap z TI TO v f) (hv : OutV v) (hTI : IsPair s.heap TI (.ref i1) (.ref i2)) (hTO : ∃ a b, IsPair s.heap TO a b)
    (h1 : s.heap.IsTupleIter i1 l1 k1) (h2 : s.heap.IsTupleIter i2 l2 k2) (hl1 : s.heap.IsTuple l1 xs) (hl2 : s.heap.IsTuple l2 ys) (hx : xs[k1]? = some x) (hy : ys[k2]? = some y)
    (hQ : ∀ h' v' f', ZipAt h' z TI TO v' f' → OutV v' → (∃ a b, IsPair h' TO a b) → h'.IsTupleIter i1 l1 (k1 + 1) → h'.IsTupleIter i2 l2 (k2 + 1) → IsPair h' s.heap.objs.size x y → h'.objs.size = s.heap.objs.size + 1 →
      (∀ c o, c ≠ z → c ≠ TO → c ≠ i1 → c ≠ i2 → s.heap.get? c = some o → h'.get? c = some o) → Q (some (.ref s.heap.objs.size)) { s with heap := h' }) : wpAny (model prog w) A (pyNext (.ref z)) Q E s := by
  have hT : s.TypeIs (.ref z) "zip" := ⟨_, hz, rfl⟩
  unfold pyNext
  exact wpAny_bind (wpAny_attempt (wpAny_callSpecial?_slot (name := Str.ofString "__next__") hT PySem.F.slot_zip_next (wpAny_call_entry PySem.F.slot_zip_next hT PySem.F.entry_zip_next
    (zip_item D hz hv hTI hTO h1 h2 hl1 hl2 hx hy fun h' v' f' a1 a2 a3 a4 a5 a6 a7 a8 => wpAny_pure (hQ h' v' f' a1 a2 a3 a4 a5 a6 a7 a8)) (PySem.F.args_zip_next_1 _))))
theorem next_zip_end {Q : Option Value → Shared → Prop} (hh : A.handled = none) (D : ZipApart z TI TO i1 i2 l1 l2) (hz : ZipAt s.heap z TI TO v f) (hv : OutV v) (hTI : IsPair s.heap TI (.ref i1) (.ref i2)) (hTO : ∃ a b, IsPair s.heap TO a b)
    (h1 : s.heap.IsTupleIter i1 l1 k1) (h2 : s.heap.IsTupleIter i2 l2 k2) (hl1 : s.heap.IsTuple l1 xs) (hl2 : s.heap.IsTuple l2 ys) (hend : xs[k1]? = none ∨ ys[k2]? = none)
    (hQ : ∀ h', (∀ c o, c ≠ z → c ≠ TO → c ≠ i1 → c ≠ i2 → s.heap.get? c = some o → h'.get? c = some o) → Q none { s with heap := h' }) : wpAny (model prog w) A (pyNext (.ref z)) Q E s := by
  have hT : s.TypeIs (.ref z) "zip" := ⟨_, hz, rfl⟩
  unfold pyNext
  refine wpAny_bind (wpAny_attempt (wpAny_callSpecial?_slot (name := Str.ofString "__next__") hT PySem.F.slot_zip_next (wpAny_call_entry PySem.F.slot_zip_next hT PySem.F.entry_zip_next
    (zip_end hh D hz hv hTI hTO h1 h2 hl1 hl2 hend fun h' e hk he => ?_) (PySem.F.args_zip_next_1 _))))
  obtain ⟨o, ho, hc⟩ := he
  refine wpAny_bind (wpAny_isInstance (T := "StopIteration") (b := true) ⟨o, ho, hc⟩ isSubtype_stop ?_)
  exact wpAny_pure (hQ _ hk)
end
theorem turn_zipN {P : Program} {w : World} {K : PySem.W.Frag} {x : Str} {np : Pos} {a b z TI TO i1 i2 : Addr} (D : ZipApart z TI TO i1 i2 a b) :
    Turn P w K (.Name x np) (ItzT K a b) [z, TI, TO, i1, i2] z (fun i h => (∃ v f, ZipAt h z TI TO v f ∧ OutV v) ∧ IsPair h TI (.ref i1) (.ref i2) ∧ (∃ x y, IsPair h TO x y) ∧ h.IsTupleIter i1 a i ∧ h.IsTupleIter i2 b i) where
  mem := by simp
  obj := fun i h st c hc => by
    obtain ⟨⟨v, f, hz, _⟩, hTI, ⟨x, y, hTO⟩, ⟨o1, e1, _, d1⟩, ⟨o2, e2, _, d2⟩⟩ := st
    have e' : c = z ∨ c = TI ∨ c = TO ∨ c = i1 ∨ c = i2 := by simpa using hc
    rcases e' with rfl | rfl | rfl | rfl | rfl
    · exact ⟨_, hz, fun v q => nomatch q⟩
    · exact ⟨_, hTI, fun v q => nomatch q⟩
    · exact ⟨_, hTO, fun v q => nomatch q⟩
    · exact ⟨o1, e1, fun v q => by rw [d1] at q; cases q⟩
    · exact ⟨o2, e2, fun v q => by rw [d2] at q; cases q⟩
  keep := fun i h h' st k => by
    obtain ⟨⟨v, f, hz, hv⟩, hTI, ⟨x, y, hTO⟩, h1, h2⟩ := st
    exact ⟨⟨v, f, k z (by simp) _ hz, hv⟩, k TI (by simp) _ hTI, ⟨x, y, k TO (by simp) _ hTO⟩, h1.at fun o q => k i1 (by simp) o q, h2.at fun o q => k i2 (by simp) o q⟩
  item := by
    intro X hP hw hK hc i pins s σ H E I hf st hg
    subst hP hw hK
    obtain ⟨⟨v, f, hz, hv⟩, hTI, hTO, h1, h2⟩ := st
    obtain ⟨xs, ys, x, y, hqx, hqy, hx, hy⟩ := hg
    obtain ⟨its, rv, p, _⟩ := I.tuple hqx
    obtain ⟨its2, rv2, p2, _⟩ := I.tuple hqy
    obtain ⟨u, hu, ru⟩ := rv.get hx
    obtain ⟨u2, hu2, ru2⟩ := rv2.get hy
    obtain ⟨oT, oU, hTO'⟩ := id hTO
    refine next_zip D hz hv hTI hTO h1 h2 p p2 (x := u) (y := u2) (by simpa using hu) (by simpa using hu2) fun h' v' f' z' hv' TO' h1' h2' hT hsz hk => ?_
    have new : ObjOk X.prog X.w (upd H s.heap.objs.size (.tup [x, y])) h' s.heap.objs.size (.tup [x, y]) := ⟨by show 2 ≤ sizeLine; decide, [u, u2], .cons ru (.cons ru2 .nil), ⟨_, hT, rfl, _, rfl⟩⟩
    have I1 : Inv X pins σ (upd H s.heap.objs.size (.tup [x, y])) { s with heap := h' } :=
      I.turnedNew (t' := s.toks) (ch := [z, TI, TO, i1, i2]) (fun c o hb q => hk c o (fun q' => hb (by simp [q'])) (fun q' => hb (by simp [q'])) (fun q' => hb (by simp [q'])) (fun q' => hb (by simp [q'])) q) hf (Nat.le_refl _) new
    refine ⟨_, rfl, ?_⟩
    show wpAny _ _ (pure ()) _ _ _
    refine wpAny_pure ⟨.ref s.heap.objs.size, _, I1, rfl, ⟨_, x, y, rfl, I.hok.fresh (Nat.le_refl _), rfl, fun l hl => by rw [I.tuple_inj hl hqx]; exact hx, fun l hl => by rw [I.tuple_inj hl hqy]; exact hy⟩, ⟨⟨v', f', z', hv'⟩, ?_, TO', h1', h2'⟩, fun c hcm => ?_⟩
    · exact hk _ _ D.TIz D.TITO D.TIi1 D.TIi2 hTI
    · have hlt : c < s.heap.objs.size := by
        have e' : c = z ∨ c = TI ∨ c = TO ∨ c = i1 ∨ c = i2 := by simpa using hcm
        rcases e' with rfl | rfl | rfl | rfl | rfl
        · exact Heap.lt_size hz
        · exact Heap.lt_size hTI
        · exact Heap.lt_size hTO'
        · obtain ⟨_, e1, _⟩ := h1; exact Heap.lt_size e1
        · obtain ⟨_, e2, _⟩ := h2; exact Heap.lt_size e2
      rw [upd_ne (Nat.ne_of_lt hlt)]
      exact (hf c hcm).1
  done := by
    intro X hP hw hK hc i pins s σ H E I hf st hg
    subst hP hw hK
    obtain ⟨⟨v, f, hz, hv⟩, hTI, hTO, h1, h2⟩ := st
    obtain ⟨xs, ys, hqx, hqy, hend⟩ := hg
    obtain ⟨its, rv, p, _⟩ := I.tuple hqx
    obtain ⟨its2, rv2, p2, _⟩ := I.tuple hqy
    have l1 := rv.length
    have l2 := rv2.length
    have he : its.toArray[i]? = none ∨ its2.toArray[i]? = none := by
      rcases hend with q | q
      · exact .inl (by simp; omega)
      · exact .inr (by simp; omega)
    exact next_zip_end (I.ok.hd hc) D hz hv hTI hTO h1 h2 p p2 he fun h' hk => ⟨rfl, I.turnedL (t' := s.toks) (ch := [z, TI, TO, i1, i2]) (fun c o hb q =>
      hk c o (fun q' => hb (by simp [q'])) (fun q' => hb (by simp [q'])) (fun q' => hb (by simp [q'])) (fun q' => hb (by simp [q'])) q) hf⟩
  self := fun A i s Q E st h => by
    obtain ⟨⟨v, f, hz, _⟩, _⟩ := st
    have hT : s.TypeIs (.ref z) "zip" := ⟨_, hz, rfl⟩
    refine wpAny_pyIter_slot hT PySem.F.slot_zip_iter (wpAny_call_entry PySem.F.slot_zip_iter hT PySem.F.entry_zip_iter ?_ (PySem.F.args_zip_iter_1 _))
    show wpAny _ _ (ret (.ref z)) _ _ s
    exact wpAny_pure ⟨_, rfl, "zip", _, hT, PySem.F.slot_zip_next.lookup, h⟩
/-- for x in zip(a, b), a and b tuples -/
def iZipN (K : PySem.W.Frag) (ta : TA) : TI := fun σ H R => ta σ H fun vs H1 => ∃ a b xs ys, vs = [.ref a, .ref b] ∧ SqT K H1 a xs ∧ SqT K H1 b ys ∧ R (ItzT K a b) H1
theorem pi_zipN {X : Cx} {e e2 : Expr} {ta : TA} {p pos np : Pos} {x : Str} (hg : Gl X "zip") (hm : X.mg "zip" = none) (ha : PA X [e, e2] ta)
    (hs : starEach [e, e2] X.env = (false, eval e X.env) :: starEach [e2] X.env := by rfl) (hpl : (backTo pos (starEach [e2] X.env)).any (·.1) = false := by rfl) : PI X (.Name x np) (.Call (.Name "zip" p) [e, e2] [] pos) (iZipN X.K ta) := by
  refine ⟨fun pins s σ H R I h => ?_⟩
  refine Call_ (ld_blt I hg hm PyProof.Rows.boot_zip (PyProof.Rows.callWith_type1 (thn (ha.run pos pins s σ H _ I h) fun us s1 ⟨vs, H1, I1, r1, q1⟩ => ?_) hs hpl))
  obtain ⟨a, b, xs, ys, ex, hqx, hqy, q⟩ := q1
  subst ex
  obtain ⟨u1, u2, rfl, ru1, ru2⟩ := r1.two
  cases (show u1 = Value.ref a from ru1)
  cases (show u2 = Value.ref b from ru2)
  have fresh5 : ∀ c, c ∈ [s1.heap.objs.size + 4, s1.heap.objs.size + 2, s1.heap.objs.size + 3, s1.heap.objs.size, s1.heap.objs.size + 1] → FpOk X pins H1 c := fun c hcm => by
    have hle : s1.heap.objs.size ≤ c := by
      simp only [List.mem_cons, List.not_mem_nil, or_false] at hcm
      omega
    exact I1.fpOk hle (I1.hok.fresh hle)
  obtain ⟨its, rv, p1, _⟩ := I1.tuple hqx
  obtain ⟨its2, rv2, p2, _⟩ := I1.tuple hqy
  obtain ⟨o1, ho1, _⟩ := id p1
  obtain ⟨o2, ho2, _⟩ := id p2
  refine call_zipT (show s1.heap.IsTuple a its.toArray from p1) (show s1.heap.IsTuple b its2.toArray from p2) fun h' hz hTI hTO h1 h2 hsz hk => wpAny_pyIter_zip hz ?_
  have I2 : Inv X pins σ H1 { s1 with heap := h' } := I1.kept (t' := s1.toks) hk
  exact ⟨s1.heap.objs.size + 4, [s1.heap.objs.size + 4, s1.heap.objs.size + 2, s1.heap.objs.size + 3, s1.heap.objs.size, s1.heap.objs.size + 1], _, _, H1, rfl, I2, turn_zipN (PySem.W.ktu_apart s1.heap.objs.size a b (Heap.lt_size ho1) (Heap.lt_size ho2)), ⟨⟨.none, false, hz, .inl rfl⟩, hTI, ⟨_, _, hTO⟩, h1, h2⟩, fresh5, q⟩
end Br

namespace Br
open PySem PySem.Spec PyProof.Rows L2 RZ AutoSeq1
/-! ### enumerate of a tuple -/
theorem meets_enum_tuple (l : Addr) (items : Array Value) (n : Nat) (dct : Option Addr) (sl : Array (Option Value)) :
    Meets (Builtin.«enumerate.__new__» ⟨[.type "enumerate", .ref l], []⟩) (fun _ R s => s.heap.get? l = some { cls := .type "tuple", dict := dct, data := .seq items n, slots := sl } ∧
      R (.ok (.ret (.ref (s.heap.push { cls := .type "tuple_iterator", data := .fields #[.ref l, .int 0 0] }).objs.size)))
        { s with heap := (s.heap.push { cls := .type "tuple_iterator", data := .fields #[.ref l, .int 0 0] }).push { cls := .type "enumerate", data := .fields #[.none, .bool false, .ref s.heap.objs.size, rawInt 0, .none, .none] } }) :=
  .of_wp fun prog w A R s h => by
    obtain ⟨hp, g, d, tk, os⟩ := s
    obtain ⟨hl, h⟩ := h
    have hsub := sub_enumerate
    have hL : Heap.IsTuple (Shared.heap ⟨hp, g, d, tk, os⟩) l items := ⟨_, hl, rfl, n, rfl⟩
    wp_walk using wpAny_loadPart' hl
    refine wpAny_stack_any fun st => wpAny_pure ?_
    split
    · rename_i c _ _ _ _ _
      cases (c == Value.type "enumerate")
      · wp_walk using wpAny_loadPart' hl, wpAny_pyIter_tuple hL
        exact ⟨_, rfl, h⟩
      · wp_walk using wpAny_loadPart' hl, wpAny_pyIter_tuple hL
        exact ⟨_, rfl, h⟩
    · wp_walk using wpAny_loadPart' hl, wpAny_pyIter_tuple hL
      exact ⟨_, rfl, h⟩
section
variable {prog : Program} {w : World} {A : Around} {E : Value → Shared → Prop} {s : Shared}
theorem call_enum_tuple {l : Addr} {items : Array Value} {Q : Value → Shared → Prop} (hL : s.heap.IsTuple l items)
    (h : ∀ h', IsEnum h' (s.heap.objs.size + 1) s.heap.objs.size 0 .none → h'.IsTupleIter s.heap.objs.size l 0 → h'.objs.size = s.heap.objs.size + 2 →
      (∀ b o, s.heap.get? b = some o → h'.get? b = some o) → Q (.ref (s.heap.objs.size + 1)) { s with heap := h' }) : wpAny (model prog w) A (call (.type "enumerate") [.ref l]) Q E s := by
  obtain ⟨⟨c, dct, dt, sl⟩, hl, hc, n, hd⟩ := hL
  replace hc : c = .type "tuple" := hc
  replace hd : dt = .seq items n := hd
  subst hc hd
  refine callType_new PySem.F.called_enumerate (by decide) (PySem.F.typeCall_enumerate_1 _) (PySem.F.newCall_enumerate_1 _) (fun obj => PySem.F.args_object_init_2 obj _) PySem.F.entry_enumerate_new (meets_enum_tuple l items n dct sl) ⟨hl, ?_⟩
  have hz : (s.heap.push { cls := .type "tuple_iterator", data := .fields #[.ref l, .int 0 0] }).objs.size = s.heap.objs.size + 1 := Heap.size_push ..
  show _ ∧ _
  rw [hz]
  have he : IsEnum ((s.heap.push { cls := .type "tuple_iterator", data := .fields #[.ref l, .int 0 0] }).push { cls := .type "enumerate", data := .fields #[.none, .bool false, .ref s.heap.objs.size, rawInt 0, .none, .none] }) (s.heap.objs.size + 1) s.heap.objs.size 0 .none := by
    have := Heap.get?_push_size (s.heap.push { cls := .type "tuple_iterator", data := .fields #[.ref l, .int 0 0] }) (o := { cls := .type "enumerate", data := .fields #[.none, .bool false, .ref s.heap.objs.size, rawInt 0, .none, .none] }) rfl
    rw [hz] at this
    exact this
  exact ⟨⟨_, he, rfl⟩, h _ he ⟨_, Heap.get?_push_of_some _ (Heap.get?_push_size _ rfl), rfl, rfl⟩ (by rw [Heap.size_push, hz]) fun b o x => Heap.get?_push_of_some _ (Heap.get?_push_of_some _ x)⟩
theorem enum_item {e it l : Addr} {i : Nat} {items : Array Value} {x old : Value} {Q : Value → Shared → Prop} (he : IsEnum s.heap e it i old) (hit : s.heap.IsTupleIter it l i) (hl : s.heap.IsTuple l items) (hx : items[i]? = some x) (hne : e ≠ it)
    (hQ : ∀ h', IsEnumOut h' e it ((i : Int) + 1) x s.heap.objs.size → h'.IsTupleIter it l (i + 1) → h'.get? s.heap.objs.size = some { cls := .type "tuple", data := .seq #[.int i s.toks, x] } → h'.objs.size = s.heap.objs.size + 1 →
      (∀ b o, b ≠ e → b ≠ it → s.heap.get? b = some o → h'.get? b = some o) → Q (.ref s.heap.objs.size) { s with heap := h', toks := s.toks + 1 }) :
    wpAny (model prog w) A (Builtin.«enumerate.__next__» ⟨[.ref e], []⟩) (fun fin s' => ∃ v, fin = .done (.ret v) ∧ Q v s') E s := by
  obtain ⟨hp, g, d, tk, os⟩ := s
  show wpAny _ _ (field (.ref e) 2 >>= _) _ _ _
  refine wpAny_bind (wpAny_field he rfl (x := .ref it) rfl (wpAny_bind (nextOf_tuple_item hit hl hx fun h₁ hit₁ hs₁ => ?_)))
  replace hs₁ : Heap.SameBut it hp h₁ := hs₁
  have he₁ : IsEnum h₁ e it i old := (hs₁.2 e hne).trans he
  show wpAny _ _ (field (.ref e) 3 >>= _) _ _ ⟨h₁, g, d, tk, os⟩
  refine wpAny_bind (wpAny_field he₁ rfl (x := rawInt i) rfl ?_)
  show wpAny _ _ (field (.ref e) 4 >>= _) _ _ ⟨h₁, g, d, tk, os⟩
  refine wpAny_bind (wpAny_field he₁ rfl (x := .none) rfl ?_)
  show wpAny _ _ (mkInt i >>= _) _ _ ⟨h₁, g, d, tk, os⟩
  refine wpAny_bind (wpAny_mkInt ?_)
  show wpAny _ _ (setField (.ref e) 3 (rawInt ((i : Int) + 1)) >>= _) _ _ ⟨h₁, g, d, tk + 1, os⟩
  refine wpAny_bind (wpAny_setField_rec he₁ (by simp) fun h₂ he₂ hs₂ => ?_)
  replace hs₂ : Heap.SameBut e h₁ h₂ := hs₂
  replace he₂ : IsEnum h₂ e it ((i : Int) + 1) old := he₂
  show wpAny _ _ (setField (.ref e) 4 .none >>= _) _ _ ⟨h₂, g, d, tk + 1, os⟩
  refine wpAny_bind (wpAny_setField_rec he₂ (by simp) fun h₃ he₃ hs₃ => ?_)
  replace hs₃ : Heap.SameBut e h₂ h₃ := hs₃
  replace he₃ : IsEnum h₃ e it ((i : Int) + 1) old := he₃
  show wpAny _ _ (newTuple [.int i tk, x] >>= _) _ _ ⟨h₃, g, d, tk + 1, os⟩
  refine wpAny_bind (wpAny_newTuple ?_)
  have he₄ : IsEnum (h₃.push { cls := .type "tuple", data := .seq #[.int i tk, x] }) e it ((i : Int) + 1) old := Heap.get?_push_of_some _ he₃
  generalize hh₄ : h₃.push { cls := .type "tuple", data := .seq #[.int i tk, x] } = h₄ at he₄
  have hsz : h₃.objs.size = hp.objs.size := by rw [hs₃.1, hs₂.1, hs₁.1]
  have hel : e < hp.objs.size := Heap.lt_size he
  have ht₄ : h₄.get? hp.objs.size = some { cls := .type "tuple", data := .seq #[.int i tk, x] } := by
    rw [← hh₄, ← hsz]
    exact Heap.get?_push_size _ rfl
  have hz₄ : h₄.objs.size = hp.objs.size + 1 := by rw [← hh₄, Heap.size_push, hsz]
  have hk₄ : ∀ b o, b ≠ e → b ≠ it → hp.get? b = some o → h₄.get? b = some o := fun b o hbe hbi hb => by
    rw [← hh₄]
    exact Heap.get?_push_of_some _ (hs₃.extBut b o hbe (hs₂.extBut b o hbe (hs₁.extBut b o hbi hb)))
  have hit₄ : h₄.IsTupleIter it l (i + 1) := by
    rw [← hh₄]
    obtain ⟨o, ho, r⟩ := (hit₁.extBut hs₂.extBut (Ne.symm hne)).extBut hs₃.extBut (Ne.symm hne)
    exact ⟨o, Heap.get?_push_of_some _ ho, r⟩
  show wpAny _ _ (Builtin.SmallTypes.ownedTupleIsFree (.ref e) >>= _) _ _ ⟨h₄, g, d, tk + 1, os⟩
  rw [hsz]
  clear hh₄ he₃ hs₃ he₂ hs₂ he₁ hs₁ hit₁ hsz h₃ h₂ h₁
  refine wpAny_bind ?_
  unfold Builtin.SmallTypes.ownedTupleIsFree
  refine wpAny_bind (wpAny_field he₄ rfl (x := .none) rfl (wpAny_pure ?_))
  simp only [if_true]
  refine wpAny_bind (wpAny_rule (wpAny_bind (wpAny_field he₄ rfl (x := old) rfl ?_)))
  refine wpAny_bind (wpAny_setField_rec he₄ (by simp) fun h₅ he₅ hs₅ => ?_)
  replace hs₅ : Heap.SameBut e h₄ h₅ := hs₅
  replace he₅ : IsEnum h₅ e it ((i : Int) + 1) x := he₅
  show wpAny _ _ (Builtin.SmallTypes.ownedTupleHandOut (.ref e) (.ref hp.objs.size) >>= _) _ _ ⟨h₅, g, d, tk + 1, os⟩
  refine wpAny_bind ?_
  unfold Builtin.SmallTypes.ownedTupleHandOut
  refine wpAny_bind (wpAny_setField_rec he₅ (by simp) fun h₆ he₆ hs₆ => ?_)
  replace hs₆ : Heap.SameBut e h₅ h₆ := hs₆
  replace he₆ : IsEnumOut h₆ e it ((i : Int) + 1) x hp.objs.size := he₆
  refine wpAny_setField_rec he₆ (by simp) fun h₇ he₇ hs₇ => ?_
  replace hs₇ : Heap.SameBut e h₆ h₇ := hs₇
  replace he₇ : IsEnumOut h₇ e it ((i : Int) + 1) x hp.objs.size := he₇
  refine wpAny_bind (wpAny_letGo (wpAny_pure ⟨_, rfl, hQ h₇ he₇ ?_ ?_ ?_ ?_⟩))
  · exact ((hit₄.extBut hs₅.extBut (Ne.symm hne)).extBut hs₆.extBut (Ne.symm hne)).extBut hs₇.extBut (Ne.symm hne)
  · exact hs₇.extBut _ _ (Nat.ne_of_gt hel) (hs₆.extBut _ _ (Nat.ne_of_gt hel) (hs₅.extBut _ _ (Nat.ne_of_gt hel) ht₄))
  · rw [hs₇.1, hs₆.1, hs₅.1, hz₄]
  · exact fun b o hbe hbi hb => hs₇.extBut b o hbe (hs₆.extBut b o hbe (hs₅.extBut b o hbe (hk₄ b o hbe hbi hb)))
theorem next_enum {e it l : Addr} {i : Nat} {items : Array Value} {x old : Value} {Q : Option Value → Shared → Prop} (he : IsEnum s.heap e it i old) (hit : s.heap.IsTupleIter it l i) (hl : s.heap.IsTuple l items) (hx : items[i]? = some x) (hne : e ≠ it)
    (hQ : ∀ h', IsEnumOut h' e it ((i : Int) + 1) x s.heap.objs.size → h'.IsTupleIter it l (i + 1) → h'.get? s.heap.objs.size = some { cls := .type "tuple", data := .seq #[.int i s.toks, x] } → h'.objs.size = s.heap.objs.size + 1 →
      (∀ b o, b ≠ e → b ≠ it → s.heap.get? b = some o → h'.get? b = some o) → Q (some (.ref s.heap.objs.size)) { s with heap := h', toks := s.toks + 1 }) : wpAny (model prog w) A (pyNext (.ref e)) Q E s := by
  have hT : s.TypeIs (.ref e) "enumerate" := ⟨_, he, rfl⟩
  unfold pyNext
  exact wpAny_bind (wpAny_attempt (wpAny_callSpecial?_slot (name := Str.ofString "__next__") hT PySem.F.slot_enumerate_next (wpAny_call_entry PySem.F.slot_enumerate_next hT PySem.F.entry_enumerate_next
    (enum_item he hit hl hx hne fun h' a b c d k => wpAny_pure (hQ h' a b c d k)) (PySem.F.args_enumerate_next_1 _))))
theorem next_enum_end {e it l : Addr} {i : Nat} {items : Array Value} {old : Value} {Q : Option Value → Shared → Prop} (hh : A.handled = none) (he : IsEnum s.heap e it i old) (hit : s.heap.IsTupleIter it l i) (hl : s.heap.IsTuple l items) (hx : items[i]? = none)
    (hQ : ∀ h', Heap.ExtBut it s.heap h' → Q none { s with heap := h' }) : wpAny (model prog w) A (pyNext (.ref e)) Q E s := by
  have hT : s.TypeIs (.ref e) "enumerate" := ⟨_, he, rfl⟩
  unfold pyNext
  refine wpAny_bind (wpAny_attempt (wpAny_callSpecial?_slot (name := Str.ofString "__next__") hT PySem.F.slot_enumerate_next (wpAny_call_entry PySem.F.slot_enumerate_next hT PySem.F.entry_enumerate_next ?_ (PySem.F.args_enumerate_next_1 _))))
  show wpAny _ _ (field (.ref e) 2 >>= _) _ _ _
  refine wpAny_bind (wpAny_field he rfl (x := .ref it) rfl (wpAny_bind (nextOf_tuple_end hh hit hl hx fun h' x he' hx' => ?_)))
  obtain ⟨o, ho, hc⟩ := hx'
  exact wpAny_bind (wpAny_isInstance (T := "StopIteration") (b := true) ⟨o, ho, hc⟩ isSubtype_stop (wpAny_pure (hQ _ he')))
end
/-- a tuple's items with their places, in new pairs -/
def IteT (K : PySem.W.Frag) (a : Addr) : It :=
  ⟨fun i H => ∃ (xs : List V) (x : V), SqT K H a xs ∧ xs[i]? = some x, fun i H v H' => ∃ T x, v = .ref T ∧ H T = none ∧ H' = upd H T (.tup [.int (i : Nat), x]) ∧ ∀ xs, SqT K H a xs → xs[i]? = some x, fun i H => ∃ xs : List V, SqT K H a xs ∧ xs.length ≤ i⟩
theorem turn_enumT {P : Program} {w : World} {K : PySem.W.Frag} {elts : List Expr} {kk : Nat} {tpos : Pos} (a e it : Addr) :
    Turn P w K (.Tuple elts kk tpos) (IteT K a) [e, it] e (fun i h => (∃ old, IsEnum h e it (i : Nat) old) ∧ h.IsTupleIter it a i ∧ e ≠ it) where
  mem := by simp
  obj := fun i h st b hb => by
    obtain ⟨⟨old, he⟩, ⟨o, ho, hc, hd⟩, _⟩ := st
    have e' : b = e ∨ b = it := by simpa using hb
    rcases e' with rfl | rfl
    · exact ⟨_, he, fun v q => nomatch q⟩
    · exact ⟨o, ho, fun v q => by rw [hd] at q; cases q⟩
  keep := fun i h h' st k => let ⟨⟨old, he⟩, hi, hne⟩ := st; ⟨⟨old, k e (by simp) _ he⟩, hi.at fun o q => k it (by simp) o q, hne⟩
  item := by
    intro X hP hw hK hc i pins s σ H E I hf st hg
    subst hP hw hK
    obtain ⟨⟨old, he⟩, hit, hne⟩ := st
    obtain ⟨xs, x, hq, hx⟩ := hg
    obtain ⟨its, rv, p, hz⟩ := I.tuple hq
    obtain ⟨u, hu, ru⟩ := rv.get hx
    have hel : e < s.heap.objs.size := Heap.lt_size he
    have hil : it < s.heap.objs.size := by
      obtain ⟨_, q, _⟩ := hit
      exact Heap.lt_size q
    refine next_enum he hit p (x := u) (by simpa using hu) hne fun h' ho hit' hT hsz hk => ⟨_, rfl, wpAny_letOwnedTupleGo_enum (s := { s with heap := h', toks := s.toks + 1 }) ho fun h'' he' sb => ?_⟩
    have hT2 : h''.get? s.heap.objs.size = some { cls := .type "tuple", data := .seq #[.int i s.toks, u] } := (sb.2 _ (Nat.ne_of_gt hel)).trans hT
    have new : ObjOk X.prog X.w (upd H s.heap.objs.size (.tup [.int (i : Nat), x])) h'' s.heap.objs.size (.tup [.int (i : Nat), x]) := ⟨by show 2 ≤ sizeLine; decide, [.int i s.toks, u], .cons ⟨_, rfl⟩ (.cons ru .nil), ⟨_, hT2, rfl, _, rfl⟩⟩
    have I1 : Inv X pins σ (upd H s.heap.objs.size (.tup [.int (i : Nat), x])) { s with heap := h'', toks := s.toks + 1 } :=
      I.turnedNew (ch := [e, it]) (fun b ob hb q => (sb.2 b (fun z => hb (by simp [z]))).trans (hk b ob (fun z => hb (by simp [z])) (fun z => hb (by simp [z])) q)) hf (Nat.le_refl _) new
    refine ⟨.ref s.heap.objs.size, _, I1, rfl, ⟨_, x, rfl, I.hok.fresh (Nat.le_refl _), rfl, fun ys hy => by rw [I.tuple_inj hy hq]; exact hx⟩, ⟨⟨u, ?_⟩, hit'.at fun o q => (sb.2 it (Ne.symm hne)).trans q, hne⟩, fun b hb => ?_⟩
    · have e1 : ((i + 1 : Nat) : Int) = (i : Int) + 1 := by omega
      rw [e1]
      exact he'
    · have hb' : b < s.heap.objs.size := by
        have e' : b = e ∨ b = it := by simpa using hb
        rcases e' with rfl | rfl
        · exact hel
        · exact hil
      rw [upd_ne (Nat.ne_of_lt hb')]
      exact (hf b hb).1
  done := by
    intro X hP hw hK hc i pins s σ H E I hf st hg
    subst hP hw hK
    obtain ⟨⟨old, he⟩, hit, hne⟩ := st
    obtain ⟨xs, hq, hx⟩ := hg
    obtain ⟨its, rv, p, hz⟩ := I.tuple hq
    obtain ⟨f0, f1, f2, f3, f4, f5⟩ := hf it (by simp)
    have hl := rv.length
    exact next_enum_end (I.ok.hd hc) he hit p (by simp; omega) fun h' eb => ⟨rfl, I.turned (t' := s.toks) (fun b o hb q => eb b o hb q) f0 f1 f3 f4 f5⟩
  self := fun A i s Q E st h => let ⟨⟨_, he⟩, _⟩ := st; wpAny_pyIter_enum he h
def iEnumT (K : PySem.W.Frag) (ta : TA) : TI := fun σ H R => ta σ H fun vs H1 => ∃ a xs, vs = [.ref a] ∧ SqT K H1 a xs ∧ R (IteT K a) H1
theorem pi_enumT {X : Cx} {e : Expr} {ta : TA} {p pos tpos : Pos} {elts : List Expr} {kk : Nat} (hg : Gl X "enumerate") (hm : X.mg "enumerate" = none) (ha : PA X [e] ta) (hs : starEach [e] X.env = [(false, eval e X.env)] := by rfl) :
    PI X (.Tuple elts kk tpos) (.Call (.Name "enumerate" p) [e] [] pos) (iEnumT X.K ta) := by
  refine ⟨fun pins s σ H R I h => ?_⟩
  refine Call_ (ld_blt I hg hm boot_enumerate (PyProof.Rows.callWith_type1 (thn (ha.run pos pins s σ H _ I h) fun us s1 ⟨vs, H1, I1, r1, q1⟩ => ?_) hs rfl))
  obtain ⟨a, xs, ex, hq, q⟩ := q1
  subst ex
  obtain ⟨u, rfl, ru⟩ := r1.one
  cases (show u = Value.ref a from ru)
  obtain ⟨its, rv, p', hz⟩ := I1.tuple hq
  refine call_enum_tuple (show s1.heap.IsTuple a its.toArray from p') fun h' he hit hsz hk => wpAny_pyIter_enum he ?_
  have I2 : Inv X pins σ H1 { s1 with heap := h' } := I1.kept (t' := s1.toks) hk
  refine ⟨s1.heap.objs.size + 1, [s1.heap.objs.size + 1, s1.heap.objs.size], _, _, H1, rfl, I2, turn_enumT a (s1.heap.objs.size + 1) s1.heap.objs.size, ⟨⟨.none, he⟩, hit, Nat.succ_ne_self _⟩, fun b hb => ?_, q⟩
  have hle : s1.heap.objs.size ≤ b := by
    have e' : b = s1.heap.objs.size + 1 ∨ b = s1.heap.objs.size := by simpa using hb
    rcases e' with rfl | rfl
    · exact Nat.le_succ _
    · exact Nat.le_refl _
  exact I1.fpOk hle (I1.hok.fresh hle)
end Br

/-! Objects of classes with slots: own == with any value, len, str, stores out of a pair; readings either way; loops over enumerate. -/
namespace Br
open PySem PySem.Spec PyProof.Rows L2 SlX

/-! ### one reading or the other -/
section
variable {X : Cx}
theorem CallR.or {f : Value} {r r' : List V → Hp → VK → Prop} (h : CallR X f r) (h' : CallR X f r') : CallR X f (fun xs H Q => r xs H Q ∨ r' xs H Q) := fun pins s σ H xs us Q I rv k => k.elim (h pins s σ H xs us Q I rv) (h' pins s σ H xs us Q I rv)
theorem OpR.or {f : Value → Value → Sem Value} {r r' : R2} (h : OpR X f r) (h' : OpR X f r') : OpR X f (fun x y H Q => r x y H Q ∨ r' x y H Q) := fun pins s σ H x y v u Q I rx ry k => k.elim (h pins s σ H x y v u Q I rx ry) (h' pins s σ H x y v u Q I rx ry)
theorem pe_or {e : Expr} {t t' : TE} (h : PE X e t) (h' : PE X e t') : PE X e (fun σ H Q => t σ H Q ∨ t' σ H Q) := ⟨fun pins s σ H Q I k => k.elim (h.run pins s σ H Q I) (h'.run pins s σ H Q I)⟩
end

/-! ### own ==, != with any value on the right -/
/-- the type of a value that is told by its letters -/
def TyOf (K : PySem.W.Frag) (H : Hp) : V → Value → Prop
  | .non, t => t = .type "NoneType"
  | .bl _, t => t = .type "bool"
  | .int _, t => t = .type "int"
  | .str _, t => t = .type "str"
  | .ref a, t => (t = .type "list" ∧ ∃ xs, SqL K H a xs) ∨ (t = .type "tuple" ∧ ∃ xs, SqT K H a xs) ∨ (t = .type "dict" ∧ ((∃ kvs, H a = some (.dK kvs)) ∨ ∃ kvs, H a = some (.dT kvs))) ∨ ∃ C dx vs, t = .ref C ∧ Slt H a C dx vs
  | _, _ => False
section
variable {X : Cx} {pins : List (Addr × Obj)} {σ : L2.St} {H : Hp} {s : Shared} {CX : CXT} {C g : Addr} {n : Nat} {sp : Sp} {E : XK}
theorem looks_at {M : Model} {s : Shared} {a : Addr} {t : Value} (h : ∃ o, s.heap.get? a = some o ∧ o.cls = t) : PySem.W.Looks M s.heap (typeOf (.ref a)) t := by
  obtain ⟨o, ho, hc⟩ := h
  rw [← hc]
  exact (PySem.W.Looks.ld ho).andThen .now
theorem tyOf_looks (I : Inv X pins σ H s) {y : V} {u t : Value} (r : RelV y u) (h : TyOf X.K H y t) : PySem.W.Looks (model X.prog X.w) s.heap (typeOf u) t := by
  cases y with
  | non => cases (show u = Value.none from r); cases (show t = _ from h); exact .of_pure rfl
  | bl b => cases (show u = Value.bool b from r); cases (show t = _ from h); exact .of_pure rfl
  | int i => obtain ⟨k, rfl⟩ := (show ∃ k, u = Value.int i k from r); cases (show t = _ from h); exact .of_pure rfl
  | str x => obtain ⟨k, rfl⟩ := (show ∃ k, u = Value.str x k from r); cases (show t = _ from h); exact .of_pure rfl
  | byt b => exact False.elim h
  | flt b => exact False.elim h
  | ty n => exact False.elim h
  | ref a =>
    cases (show u = Value.ref a from r)
    refine looks_at ?_
    rcases h with ⟨rfl, xs, h⟩ | ⟨rfl, xs, h⟩ | ⟨rfl, h⟩ | ⟨C, dx, vs, rfl, h⟩
    · obtain ⟨its, _, p, _⟩ := I.list h
      exact p.isList.typeIs
    · obtain ⟨its, _, p, _⟩ := I.tuple h
      obtain ⟨o, ho, hc, _⟩ := (show s.heap.IsTuple a its.toArray from p)
      exact ⟨o, ho, hc⟩
    · rcases h with ⟨kvs, h⟩ | ⟨kvs, h⟩
      · exact (isD_at I (.inl ⟨kvs, .inl h⟩)).1
      · exact (isD_at I (.inr ⟨kvs, .inl h⟩)).1
    · obtain ⟨sl, od, _, J, _⟩ := slt_inst I h
      exact ⟨_, J.at_, J.cls⟩
def rOwnA (K : PySem.W.Frag) (C : Addr) (sp : Sp) (E : XK) : R2 := fun x y H Q => ∃ a dx vs t, x = .ref a ∧ Slt H a C dx vs ∧ TyOf K H y t ∧ PySem.W.notFirst K C t = true ∧ sp [x, y] H Q E
theorem op_ownA {op : CmpOp} (hop : ∀ a b, compareOp op a b = richCompare op a b) (hs : PySem.W.findIn X.K (.ref C) (cmpInfo op).2.1 = some (some (.ref g))) (hf : PySem.W.isFn X.K (.ref g) = true) (F : FnR X.prog X.w X.K X.mg X.base CX n g sp)
    (hr : Room n X.A) (hx : Passes CX X E) : OpR X (compareOp op) (rOwnA X.K C sp E) := by
  intro pins s σ H x y v u Q I rx ry h
  obtain ⟨a, dx, vs, t, rfl, ha, hy, hn, q⟩ := h
  cases (show v = Value.ref a from rx)
  obtain ⟨sl, od, _, J, _⟩ := slt_inst I ha
  obtain ⟨m, hF⟩ := I.fr
  rw [hop]
  refine PySem.W.cmp_K (op := op) (tb := t) hr.units0 hF I.ok.mod.kin J (tyOf_looks I ry hy) hn hs hf ?_
  refine wpAny_mono (wpAny_call (run_fnR (us := [.ref a, u]) (vs := [.ref a, y]) F hr hx I (.cons rfl (.cons ry .nil)) q)) (fun w s' z => ?_) fun _ _ x => x
  obtain ⟨z', H', I', rz, qz⟩ := z
  exact cmpback rz ⟨z', H', I', rz, qz⟩
/-! ### len, str -/
def rLenOwn (C : Addr) (sp : Sp) (E : XK) : List V → Hp → VK → Prop := fun xs H Q => ∃ a dx vs, xs = [.ref a] ∧ Slt H a C dx vs ∧ sp xs H (fun z H' => ∃ i : Int, z = .int i ∧ 0 ≤ i ∧ i < 2 ^ 63 ∧ Q (.int i) H') E
theorem call_lenOwn (hs : PySem.W.findIn X.K (.ref C) "__len__" = some (some (.ref g))) (hf : PySem.W.isFn X.K (.ref g) = true) (F : FnR X.prog X.w X.K X.mg X.base CX n g sp) (hr : Room (n + 1) X.A) (hx : Passes CX X E) : CallR X (.builtin "len") (rLenOwn C sp E) := by
  intro pins s σ H xs us Q I r h
  obtain ⟨a, dx, vs, rfl, ha, q⟩ := h
  obtain ⟨u, rfl, ru⟩ := r.one
  cases (show u = Value.ref a from ru)
  obtain ⟨sl, od, _, J, _⟩ := slt_inst I ha
  refine Calls.call_function_entry kind_len plain_len entry_len (args_len1 _) ?_
  unfold Builtin.«len»
  refine wpAny_bind (m := oneArg "len" _) (wpAny_pure ?_)
  refine wpAny_bind (m := callSpecial? (.ref a) (Str.ofString "__len__")) (PySem.W.special_fn (args := []) I.kIn J hs (beq_iff_eq.mp hf) (wpAny_mono (wpAny_call (run_at (us := [.ref a]) (ws := [.ref a]) F hr.in1 I.env0.in1 hx I (.cons rfl .nil) q)) (fun r s' z => ?_) fun _ _ y => y))
  obtain ⟨z', H', I', rz, i, ei, h0, h1, qz⟩ := z
  subst ei
  obtain ⟨t, rfl⟩ := (show ∃ t, r = Value.int i t from rz)
  refine wpAny_bind (wpAny_holding (wpAny_pure (wpAny_bind (wpAny_letGo ?_))))
  show wpAny _ _ (if i < 0 then _ else _) _ _ _
  rw [if_neg (by omega)]
  show wpAny _ _ (if i ≥ 2 ^ 63 then _ else _) _ _ _
  rw [if_neg (by omega)]
  exact wpAny_bind (wpAny_mkInt (wpAny_pure ⟨_, rfl, .int i, H', I'.tok _, ⟨_, rfl⟩, qz⟩))
def rStrOwn (C : Addr) (sp : Sp) (E : XK) : List V → Hp → VK → Prop := fun xs H Q => ∃ a dx vs, xs = [.ref a] ∧ Slt H a C dx vs ∧ sp xs H (fun z H' => ∃ x : Str, z = .str x ∧ Q (.str x) H') E
theorem call_strOwn (hs : PySem.W.findIn X.K (.ref C) "__str__" = some (some (.ref g))) (hf : PySem.W.isFn X.K (.ref g) = true) (F : FnR X.prog X.w X.K X.mg X.base CX n g sp) (hr : Room (n + 2) X.A) (hx : Passes CX X E) : CallR X (.type "str") (rStrOwn C sp E) := by
  intro pins s σ H xs us Q I r h
  obtain ⟨a, dx, vs, rfl, ha, q⟩ := h
  obtain ⟨u, rfl, ru⟩ := r.one
  cases (show u = Value.ref a from ru)
  obtain ⟨sl, od, _, J, _⟩ := slt_inst I ha
  have hr2 : Room n X.A.in1.in1 := (show Room (n + 1) X.A.in1 from Room.in1 hr).in1
  refine callType_codes (T := "str") (Bi := Builtin.«object.__init__») (Q₁ := fun r s₁ => ∃ x t, r = Value.str x t ∧ EP X pins σ Q r s₁) PySem.F.called_str (PySem.F.typeCall_str_1 _) PySem.F.entry_object_init ?_ ?_
  · refine codeAny_of_tree ?_
    show wpAny _ X.A.in1.in1 (do checkBuiltinCall "str.__new__" ⟨[.type "str", .ref a], []⟩; again (.builtin "str.__new__" ⟨[.type "str", .ref a], []⟩)) _ _ s
    refine wpAny_bind (wpAny_of_eq (PySem.F.newCall_str_1 _) (wpAny_pure ⟨plainId_quiet (by decide +kernel) _, codeAny_builtin PySem.F.entry_str_new ?_⟩))
    rw [Around.under_plainId (by decide +kernel) _, str_new_tree]
    refine wpAny_bind (wpAny_pure ?_)
    refine wpAny_bind (wpAny_of_eq isSubtype_str_str ?_)
    refine wpAny_bind ?_
    show wpAny _ _ (Builtin.Str.strOf (.ref a)) _ _ s
    unfold Builtin.Str.strOf
    refine wpAny_bind (wpAny_cRoomFor hr2.units0 ?_)
    refine wpAny_bind (m := callSpecial? (.ref a) (Str.ofString "__str__")) (PySem.W.special_fn (args := []) I.kIn J hs (beq_iff_eq.mp hf) (wpAny_mono (wpAny_call (run_at (us := [.ref a]) (ws := [.ref a]) F hr2 I.env0.in1.in1 hx I (.cons rfl .nil) q)) (fun r s' z => ?_) fun _ _ y => y))
    obtain ⟨z', H', I', rz, x, ex, qz⟩ := z
    subst ex
    obtain ⟨t, rfl⟩ := (show ∃ t, r = Value.str x t from rz)
    exact wpAny_pure (wpAny_pure ⟨x, t, rfl, .str x, H', I', ⟨t, rfl⟩, qz⟩)
  · rintro obj s₁ ⟨x, t, rfl, hq⟩
    exact ⟨typeIs_str _ _ _, PySem.F.args_object_init_2 _ _, object_init_meets PySem.F.called_str.init.lookup PySem.F.called_str.made (by decide) X.prog X.w X.A.in1 _ s₁ ⟨typeIs_str _ _ _, rfl, hq⟩⟩
/-- o.f = .., out of a pair -/
def gSl (K : PySem.W.Frag) (to : TE) (f : Str) : TG := fun v σ H Q => to σ H fun x H1 => ∃ a C dx p vs i, x = .ref a ∧ Slt H1 a C dx vs ∧ SCls K C ∧ Slot1 K C f p i ∧ Q σ (slH H1 a C dx (putS i v vs))
theorem pg_sl {o : Expr} {f : Str} {pos : Pos} {to : TE} (ho : PE X o to)
    (ha : ∀ v, assign (.Attribute o f pos) X.env v = (do
      let ov ← holding [v] (eval o X.env)
      standAt pos.atName
      holding [v, ov] (setAttr ov f v)
      release [v, ov] []) := by intro _; rfl) : PG X (.Attribute o f pos) (gSl X.K to f) := by
  refine ⟨fun pins s σ H v u Q I r h => ?_⟩
  rw [ha]
  refine wpAny_bind (wpAny_holding (thn (ho.run pins s σ H _ I h) fun ov s1 ⟨x, H1, I1, r1, a, C, dx, p, vs, i, ex, hsl, c, t, q1⟩ => ?_))
  subst ex
  cases (show ov = Value.ref a from r1)
  exact wpAny_bind (wpAny_standAt (wpAny_bind (wpAny_holding (setslot_ok I1 hsl c t r fun s3 I3 => wpAny_release ⟨σ, _, I3, q1⟩))))
end
end Br

/-! Comprehensions over what stays, told once; loops over enumerate. -/
namespace Br
open PySem PySem.Spec PyProof.Rows L2 RZ

theorem same_lstC {K : PySem.W.Frag} {H H' : Hp} {a : Addr} {xs : List V} (s : Same H H') (h : SqL K H a xs) : SqL K H' a xs := by
  rcases h with h | h
  · rcases h with h | ⟨o, h⟩
    · exact .inl (.inl (s _ _ h))
    · exact .inl (.inr ⟨o, s _ _ h⟩)
  · exact .inr h
/-- what is walked does not change: n items -/
structure Steady (J : It) (H1 : Hp) (n : Nat) (item : Nat → V → Hp → Prop) : Prop where
  go : ∀ i H, Same H1 H → i < n → J.go i H
  stop : ∀ H, Same H1 H → J.stop n H
  yld : ∀ i H x H', Same H1 H → i < n → J.yld i H x H' → Same H H' ∧ item i x H'
section
variable {K : PySem.W.Frag} {H1 : Hp} {a b : Addr} {xs ys : List V}
theorem steadyT (h : SqT K H1 a xs) : Steady (Itt K a) H1 xs.length (fun i x _ => xs[i]? = some x) where
  go := fun i H s hi => ⟨xs, xs[i], same_tup s h, by simp [hi]⟩
  stop := fun H s => ⟨xs, same_tup s h, Nat.le_refl _⟩
  yld := fun i H x H' s hi y => by
    obtain ⟨e, y⟩ := y
    subst e
    exact ⟨Same.refl _, y xs (same_tup s h)⟩
theorem steadyL (h : SqL K H1 a xs) : Steady (Itl K a) H1 xs.length (fun i x _ => xs[i]? = some x) where
  go := fun i H s hi => ⟨xs, xs[i], same_lstC s h, by simp [hi]⟩
  stop := fun H s => ⟨xs, same_lstC s h, Nat.le_refl _⟩
  yld := fun i H x H' s hi y => by
    obtain ⟨e, y⟩ := y
    subst e
    exact ⟨Same.refl _, y xs (same_lstC s h)⟩
theorem steadyR {lo : Int} {n : Nat} : Steady (Itr lo n) H1 n (fun i x _ => x = .int (lo + i)) where
  go := fun i H s hi => hi
  stop := fun H s => Nat.le_refl _
  yld := fun i H x H' s hi y => by
    obtain ⟨e, y⟩ := y
    subst e
    exact ⟨Same.refl _, y⟩
theorem steadyE (h : SqL K H1 a xs) : Steady (Ite K a) H1 xs.length (fun i x H' => ∃ T v, x = .ref T ∧ H' T = some (.tup [.int (i : Nat), v]) ∧ xs[i]? = some v) where
  go := fun i H s hi => ⟨xs, xs[i], same_lstC s h, by simp [hi]⟩
  stop := fun H s => ⟨xs, same_lstC s h, Nat.le_refl _⟩
  yld := fun i H x H' s hi y => by
    obtain ⟨T, v, rfl, hT, rfl, f⟩ := y
    exact ⟨same_new hT, T, v, rfl, upd_same, f xs (same_lstC s h)⟩
theorem steadyET (h : SqT K H1 a xs) : Steady (IteT K a) H1 xs.length (fun i x H' => ∃ T v, x = .ref T ∧ H' T = some (.tup [.int (i : Nat), v]) ∧ xs[i]? = some v) where
  go := fun i H s hi => ⟨xs, xs[i], same_tup s h, by simp [hi]⟩
  stop := fun H s => ⟨xs, same_tup s h, Nat.le_refl _⟩
  yld := fun i H x H' s hi y => by
    obtain ⟨T, v, rfl, hT, rfl, f⟩ := y
    exact ⟨same_new hT, T, v, rfl, upd_same, f xs (same_tup s h)⟩
theorem steadyZ (h : SqT K H1 a xs) (h' : SqT K H1 b ys) (hl : xs.length = ys.length) : Steady (ItzT K a b) H1 xs.length (fun i x H' => ∃ T u v, x = .ref T ∧ H' T = some (.tup [u, v]) ∧ xs[i]? = some u ∧ ys[i]? = some v) where
  go := fun i H s hi => ⟨xs, ys, xs[i], ys[i], same_tup s h, same_tup s h', by simp [hi], by simp [← hl, hi]⟩
  stop := fun H s => ⟨xs, ys, same_tup s h, same_tup s h', .inl (Nat.le_refl _)⟩
  yld := fun i H x H' s hi y => by
    obtain ⟨T, u, v, rfl, hT, rfl, f1, f2⟩ := y
    exact ⟨same_new hT, T, u, v, rfl, upd_same, f1 xs (same_tup s h), f2 ys (same_tup s h')⟩
end
/-- [e for x in ..], nothing left out: ys, each as R tells -/
theorem lc_map {J : It} {n : Nat} {item : Nat → V → Hp → Prop} {g : TG} {tt : TT} {te : TE} {vs : List Nat} {σ : L2.St} {H1 : Hp} {D : Addr} {Qd : Hp → Prop} (st : Steady J H1 n item) (hD : H1 D = none) (R : Nat → V → Hp → Prop)
    (hR : ∀ i y H H', Kd D H H' → R i y H → R i y H') (hn : n ≤ 1000000)
    (hs : ∀ i x H (N : V → Hp → Prop) (Pe : Hp → Prop), i < n → Same H1 H → item i x H → (∀ y H4, Same H H4 → R i y H4 → N y H4) → g x (wipe σ vs) H fun σ2 H2 => wipe σ2 vs = wipe σ vs ∧ tt σ2 H2 fun b H3 => if b = true then te σ2 H3 fun y H4 => N y H4 else Pe H3)
    (hd : ∀ H ys, Same H1 H → H D = some (.lst ys) → ys.length = n → (∀ i y, ys[i]? = some y → R i y H) → Qd H) :
    ∃ W : Nat → Nat → Hp → Prop, (∃ m, W 0 m (upd H1 D (.lst []))) ∧ ∀ i m H, W i m H →
      (J.stop i H ∧ Qd H) ∨ (J.go i H ∧ ∃ Nx : Hp → Prop, (∀ H', Nx H' → ∃ m', m' < m ∧ W (i + 1) m' H') ∧ ∀ x H', J.yld i H x H' → g x (wipe σ vs) H' fun σ2 H2 => wipe σ2 vs = wipe σ vs ∧ tt σ2 H2 fun b H3 =>
        if b = true then te σ2 H3 fun y H4 => ∃ acc, H4 D = some (.lst acc) ∧ acc.length < sizeLine ∧ Nx (upd H4 D (.lst (acc ++ [y]))) else Nx H3) := by
  let Pv : Nat → Hp → Prop := fun i H => Same H1 H ∧ ∃ ys, H D = some (.lst ys) ∧ ys.length = i ∧ ∀ j y, ys[j]? = some y → R j y H
  refine ⟨fun i m H => m = n - i ∧ i ≤ n ∧ Pv i H, ⟨n, rfl, Nat.zero_le _, same_new hD, [], upd_same, rfl, fun j y h => by simp at h⟩, ?_⟩
  rintro i m H ⟨rfl, hi, s1, ys, eD, hl, hr⟩
  by_cases hlt : i < n
  · refine .inr ⟨st.go i H s1 hlt, Pv (i + 1), fun H' p => ⟨n - (i + 1), by omega, rfl, hlt, p⟩, fun x H' y => ?_⟩
    obtain ⟨s2, it⟩ := st.yld i H x H' s1 hlt y
    refine hs i x H' _ _ hlt (s1.trans s2) it fun y H4 s4 r4 => ⟨ys, s4 _ _ (s2 _ _ eD), by have := sz hn; omega, ?_, ys ++ [y], upd_same, by rw [List.length_append, hl]; rfl, ?_⟩
    · intro c o hc
      rw [upd_ne (ne_of_none hc hD)]
      exact s4 _ _ (s2 _ _ (s1 _ _ hc))
    · intro j z hj
      have e4 := s4 _ _ (s2 _ _ eD)
      rcases Nat.lt_or_ge j ys.length with hjl | hjl
      · rw [List.getElem?_append_left hjl] at hj
        exact hR j z _ _ ((Kd.same (s2.trans s4)).trans (kd_upd e4)) (hr j z hj)
      · rw [List.getElem?_append_right hjl] at hj
        have hj0 : j - ys.length = 0 := by
          obtain ⟨q, _⟩ := List.getElem?_eq_some_iff.mp hj
          have : [y].length = 1 := rfl
          omega
        rw [hj0] at hj
        cases hj
        have : j = i := by omega
        subst this
        exact hR j _ _ _ (kd_upd e4) r4
  · have e : i = n := by omega
    subst e
    exact .inl ⟨st.stop H s1, hd H ys s1 eD hl hr⟩
/-- {k: v for x in ..}, keys tuples -/
def accK (ks : Nat → List D3) (zs : Nat → V) (n : Nat) : List (List D3 × V) := (List.range n).foldl (fun kvs j => putK kvs (ks j) (zs j)) []
theorem accK_succ (ks : Nat → List D3) (zs : Nat → V) (n : Nat) : accK ks zs (n + 1) = putK (accK ks zs n) (ks n) (zs n) := by
  unfold accK
  rw [List.range_succ, List.foldl_append]
  rfl
theorem accK_len (ks : Nat → List D3) (zs : Nat → V) : ∀ n, (accK ks zs n).length ≤ n := by
  intro n
  induction n with
  | zero => exact Nat.le_refl _
  | succ n ih =>
    rw [accK_succ]
    have := length_putK (accK ks zs n) (ks n) (zs n)
    omega
theorem nc_map {P : Program} {w : World} {J : It} {n : Nat} {item : Nat → V → Hp → Prop} {g : TG} {tt : TT} {tk tv : TE} {vs : List Nat} {σ : L2.St} {H1 H0 : Hp} {D : Addr} {Qd : Hp → Prop} (st : Steady J H1 n item) (hD : H1 D = none) (s0 : Same H1 H0) (d0 : DN P w H0 D []) (ks : Nat → List D3) (zs : Nat → V) (hn : n ≤ 1000000)
    (hs : ∀ i x H (N : V → V → Hp → Prop) (Pe : Hp → Prop), i < n → Same H1 H → item i x H → (∀ b H5, Same H H5 → KeyT H5 (ks i) b → N (.ref b) (zs i) H5) → g x (wipe σ vs) H fun σ2 H2 => wipe σ2 vs = wipe σ vs ∧ tt σ2 H2 fun b H3 => if b = true then tk σ2 H3 fun y H4 => tv σ2 H4 fun z H5 => N y z H5 else Pe H3)
    (hd : ∀ H, Same H1 H → DN P w H D (accK ks zs n) → Qd H) :
    ∃ W : Nat → Nat → Hp → Prop, (∃ m, W 0 m H0) ∧ ∀ i m H, W i m H →
      (J.stop i H ∧ Qd H) ∨ (J.go i H ∧ ∃ Nx : Hp → Prop, (∀ H', Nx H' → ∃ m', m' < m ∧ W (i + 1) m' H') ∧ ∀ x H', J.yld i H x H' → g x (wipe σ vs) H' fun σ2 H2 => wipe σ2 vs = wipe σ vs ∧ tt σ2 H2 fun b H3 =>
        if b = true then tk σ2 H3 fun y H4 => tv σ2 H4 fun z H5 => ∃ kvs k b, y = .ref b ∧ DN P w H5 D kvs ∧ KeyT H5 k b ∧ kvs.length < 1000000 ∧ PutN P w D kvs k z H5 Nx else Nx H3) := by
  let Pv : Nat → Hp → Prop := fun i H => Same H1 H ∧ DN P w H D (accK ks zs i)
  refine ⟨fun i m H => m = n - i ∧ i ≤ n ∧ Pv i H, ⟨n, rfl, Nat.zero_le _, s0, d0⟩, ?_⟩
  rintro i m H ⟨rfl, hi, s1, dD⟩
  by_cases hlt : i < n
  · refine .inr ⟨st.go i H s1 hlt, Pv (i + 1), fun H' p => ⟨n - (i + 1), by omega, rfl, hlt, p⟩, fun x H' y => ?_⟩
    obtain ⟨s2, it⟩ := st.yld i H x H' s1 hlt y
    refine hs i x H' _ _ hlt (s1.trans s2) it fun b H5 s5 hk => ⟨_, _, _, rfl, dD.same (s2.trans s5), hk, by have := accK_len ks zs i; omega, fun o d => ⟨fun c u hc => ?_, ?_⟩⟩
    · rw [upd_ne (ne_of_none hc hD)]
      exact s5 _ _ (s2 _ _ (s1 _ _ hc))
    · rw [accK_succ]
      exact d
  · have e : i = n := by omega
    subst e
    exact .inl ⟨st.stop H s1, hd H s1 dD⟩
/-- for x in .., by a word: the heap grows -/
theorem for_map {J : It} {n : Nat} {item : Nat → V → Hp → Prop} {g : TG} {tb : TS} {D : Ends} {σ : L2.St} {H : Hp} (Pv : Nat → L2.St → Hp → Prop) (h0 : Pv 0 σ H) (st : ∀ i σ H, i ≤ n → Pv i σ H → Steady J H n item)
    (hs : ∀ i x σ H H', i < n → Pv i σ H → Same H H' → item i x H' → g x σ H' fun σ2 H2 => tb { D with nx := Pv (i + 1), ct := Pv (i + 1), bk := D.nx } σ2 H2) (hd : ∀ σ H, Pv n σ H → D.nx σ H) :
    ∃ W : Nat → Nat → L2.St → Hp → Prop, (∃ m, W 0 m σ H) ∧ ∀ i m σ H, W i m σ H →
      (J.stop i H ∧ D.nx σ H) ∨ (J.go i H ∧ ∃ N : L2.St → Hp → Prop, (∀ σ' H', N σ' H' → ∃ m', m' < m ∧ W (i + 1) m' σ' H') ∧ ∀ x H', J.yld i H x H' → g x σ H' fun σ2 H2 => tb { D with nx := N, ct := N, bk := D.nx } σ2 H2) := by
  refine ⟨fun i m σ H => m = n - i ∧ i ≤ n ∧ Pv i σ H, ⟨n, rfl, Nat.zero_le _, h0⟩, ?_⟩
  rintro i m σ H ⟨rfl, hi, p⟩
  have S := st i σ H hi p
  by_cases hlt : i < n
  · refine .inr ⟨S.go i H (Same.refl _) hlt, Pv (i + 1), fun σ' H' p' => ⟨n - (i + 1), by omega, rfl, hlt, p'⟩, fun x H' y => ?_⟩
    obtain ⟨s2, it⟩ := S.yld i H x H' (Same.refl _) hlt y
    exact hs i x σ H H' hlt p s2 it
  · have e : i = n := by omega
    subst e
    exact .inl ⟨S.stop H (Same.refl _), hd σ H p⟩
/-- sorted(..) of tuples of ints of one length -/
def rSortTE (K : PySem.W.Frag) : List V → Hp → VK → Prop := fun vs H Q => ∃ d B, 1 ≤ d ∧ rSortU K d B vs H Q
theorem call_sortTE {X : Cx} (K : PySem.W.Frag) (h : X.K = K) : CallR X (.builtin "sorted") (rSortTE K) := by
  subst h
  intro pins s σ H xs us Q I rv k
  obtain ⟨d, B, hd, k⟩ := k
  exact cr_sortT hd pins s σ H xs us Q I rv k
end Br

namespace Br
open PySem PySem.Spec PyProof.Rows L2
theorem ixOr {X : Cx} {r r' : V → V → Hp → VK → Prop} (h : IxR X r) (h' : IxR X r') : IxR X (fun x y H Q => r x y H Q ∨ r' x y H Q) := fun value slice pins s σ H x y v u Q I rx ry k e => k.elim (fun k => h value slice pins s σ H x y v u Q I rx ry k e) fun k => h' value slice pins s σ H x y v u Q I rx ry k e
end Br

namespace Br
open PySem PySem.Spec PyProof.Rows L2
theorem pg_tupK {X : Cx} {es : List Expr} {n k : Nat} {pos : Pos} {t : TGs} (K : PySem.W.Frag) (h : X.K = K) (hc : X.calm = true) (hg : PGs X es t) (hn : (assignEach es X.env).length = n := by rfl) (hst : (assignEach es X.env).findIdx? (·.1) = none := by rfl) : PG X (.Tuple es k pos) (gTup K n t) := by
  subst h
  exact pg_tup hc hg hn hst
end Br

/-! Machines on the heap: rows of ints; what the defs of machines and turns promise. No text of a law. -/
namespace Br
open PySem PySem.Spec PyProof.Rows L2 SlX Mm

theorem ifT {b : Bool} {A B : Prop} (e : b = true) (h : A) : if b = true then A else B := by
  rw [if_pos e]
  exact h
theorem ifF {b : Bool} {A B : Prop} (e : b = false) (h : B) : if b = true then A else B := by
  rw [e]
  exact iteF h
def adr : V → Addr
  | .ref p => p
  | _ => 0
/-! ### rows of numbers -/
def nv (ns : List Nat) : List V := ns.map fun (n : Nat) => V.int (n : Int)
theorem nv_len (ns : List Nat) : (nv ns).length = ns.length := List.length_map _
theorem nv_get {ns : List Nat} {i n : Nat} (h : ns[i]? = some n) : (nv ns)[i]? = some (.int (n : Int)) := by
  unfold nv
  rw [List.getElem?_map, h]
  rfl
theorem nv_get' {ns : List Nat} {i : Nat} {v : V} (h : (nv ns)[i]? = some v) : ∃ n, ns[i]? = some n ∧ v = .int (n : Int) := by
  unfold nv at h
  rw [List.getElem?_map] at h
  cases e : ns[i]? with
  | none => rw [e] at h; cases h
  | some n => rw [e] at h; cases h; exact ⟨n, rfl, rfl⟩
theorem nv_app (a b : List Nat) : nv (a ++ b) = nv a ++ nv b := List.map_append
theorem nv_map (ns : List Nat) : nv ns = (ns.map Int.ofNat).map V.int := by
  unfold nv
  rw [List.map_map]
  rfl
theorem nv_inj : ∀ {a b : List Nat}, nv a = nv b → a = b := by
  intro a
  induction a with
  | nil =>
    intro b h
    cases b with
    | nil => rfl
    | cons y b => exact nomatch (show ([] : List V) = V.int (y : Int) :: nv b from h)
  | cons x a ih =>
    intro b h
    cases b with
    | nil => exact nomatch (show V.int (x : Int) :: nv a = [] from h)
    | cons y b =>
      have h' : V.int (x : Int) :: nv a = V.int (y : Int) :: nv b := h
      injection h' with h1 h2
      injection h1 with h1
      rw [ih h2, Int.ofNat.inj h1]
theorem at_nv {ns : List Nat} {i : Nat} {n : Nat} (h : ns[i]? = some n) : atI (nv ns) (i : Int) = some (.int (n : Int)) := atI_nat (nv_get h)
/-- at p stands the tuple of numbers r -/
def RowAt (H : Hp) (p : Addr) (r : List Nat) : Prop := Rd H p (.tup (nv r))
theorem RowAt.same {H H' : Hp} {p : Addr} {r : List Nat} (s : Same H H') (h : RowAt H p r) : RowAt H' p r := (TupK.same s).rd h
theorem RowAt.kd {d : Addr} {H H' : Hp} {p : Addr} {r : List Nat} (k : Kd d H H') (h : RowAt H p r) : RowAt H' p r := (TupK.kd k).rd h
theorem rowE {H : Hp} {p : Addr} {r : List Nat} (h : H p = some (.tup (nv r))) : RowAt H p r := .inl h
theorem sR {K : PySem.W.Frag} {H : Hp} {p : Addr} {r : List Nat} (h : RowAt H p r) : SqT K H p (nv r) := .inl h
/-- the rows at as -/
def RowsAt (H : Hp) (as : List Addr) (R : List (List Nat)) : Prop := F2 (fun p r => RowAt H p r) as R
theorem RowsAt.same {H H' : Hp} {as : List Addr} {R : List (List Nat)} (s : Same H H') (h : RowsAt H as R) : RowsAt H' as R := F2.imp (fun _ _ q => q.same s) h
theorem RowsAt.kd {d : Addr} {H H' : Hp} {as : List Addr} {R : List (List Nat)} (k : Kd d H H') (h : RowsAt H as R) : RowsAt H' as R := F2.imp (fun _ _ q => q.kd k) h
def refs (as : List Addr) : List V := as.map V.ref
theorem refs_len (as : List Addr) : (refs as).length = as.length := List.length_map _
theorem refs_get {as : List Addr} {i : Nat} {a : Addr} (h : as[i]? = some a) : (refs as)[i]? = some (.ref a) := by
  unfold refs
  rw [List.getElem?_map, h]
  rfl
theorem refs_get' {as : List Addr} {i : Nat} {v : V} (h : (refs as)[i]? = some v) : ∃ a, as[i]? = some a ∧ v = .ref a := by
  unfold refs at h
  rw [List.getElem?_map] at h
  cases e : as[i]? with
  | none => rw [e] at h; cases h
  | some n => rw [e] at h; cases h; exact ⟨n, rfl, rfl⟩
theorem RowsAt.get {H : Hp} {as : List Addr} {R : List (List Nat)} (h : RowsAt H as R) {i : Nat} {r : List Nat} (e : R[i]? = some r) : ∃ p, as[i]? = some p ∧ RowAt H p r := by
  have hl := F2.length h
  obtain ⟨hi, _⟩ := List.getElem?_eq_some_iff.mp e
  have ha : as[i]? = some as[i] := List.getElem?_eq_getElem (by omega)
  obtain ⟨b, hb, hr⟩ := F2.get h ha
  rw [e] at hb
  cases hb
  exact ⟨_, ha, hr⟩
theorem RowsAt.get' {H : Hp} {as : List Addr} {R : List (List Nat)} (h : RowsAt H as R) {i : Nat} {p : Addr} (e : as[i]? = some p) : ∃ r, R[i]? = some r ∧ RowAt H p r := F2.get h e
/-- a tuple of rows; a list or a tuple of rows -/
def TabT (H : Hp) (a : Addr) (R : List (List Nat)) : Prop := ∃ as, H a = some (.tup (refs as)) ∧ RowsAt H as R
def TabL (H : Hp) (a : Addr) (R : List (List Nat)) : Prop := ∃ as, H a = some (.lst (refs as)) ∧ RowsAt H as R
def Tab (H : Hp) (a : Addr) (R : List (List Nat)) : Prop := TabT H a R ∨ TabL H a R
theorem TabT.same {H H' : Hp} {a : Addr} {R : List (List Nat)} (s : Same H H') (h : TabT H a R) : TabT H' a R := let ⟨as, e, f⟩ := h; ⟨as, s _ _ e, f.same s⟩
theorem TabL.same {H H' : Hp} {a : Addr} {R : List (List Nat)} (s : Same H H') (h : TabL H a R) : TabL H' a R := let ⟨as, e, f⟩ := h; ⟨as, s _ _ e, f.same s⟩
theorem Tab.same {H H' : Hp} {a : Addr} {R : List (List Nat)} (s : Same H H') (h : Tab H a R) : Tab H' a R := h.imp (TabT.same s) (TabL.same s)
theorem TabT.kd {d : Addr} {H H' : Hp} {a : Addr} {R : List (List Nat)} (k : Kd d H H') (h : TabT H a R) : TabT H' a R := let ⟨as, e, f⟩ := h; ⟨as, k _ _ e fun _ _ z => (nomatch z), f.kd k⟩
theorem Tab.row {H : Hp} {a : Addr} {R : List (List Nat)} (h : Tab H a R) {t : Nat} (ht : t < R.length) : ∃ as p, (H a = some (.tup (refs as)) ∨ H a = some (.lst (refs as))) ∧ as[t]? = some p ∧ RowAt H p (R.getD t []) := by
  have e : R[t]? = some (R.getD t []) := by
    rw [List.getD_eq_getElem?_getD, List.getElem?_eq_getElem ht]
    rfl
  rcases h with ⟨as, ea, f⟩ | ⟨as, ea, f⟩
  · obtain ⟨p, hp, hr⟩ := f.get e
    exact ⟨as, p, .inl ea, hp, hr⟩
  · obtain ⟨p, hp, hr⟩ := f.get e
    exact ⟨as, p, .inr ea, hp, hr⟩
/-- a[t], a list or a tuple -/
theorem seq_ix {K : PySem.W.Frag} {H : Hp} {a : Addr} {xs : List V} {t : Nat} {v : V} {Q : VK} (h : H a = some (.tup xs) ∨ H a = some (.lst xs)) (e : xs[t]? = some v) (q : Q v H) : rIxL K (.ref a) (.int (t : Int)) H Q ∨ rIxT K (.ref a) (.int (t : Int)) H Q := by
  rcases h with h | h
  · exact .inr ⟨a, xs, (t : Int), v, rfl, rfl, sT h, atI_nat e, q⟩
  · exact .inl ⟨a, xs, (t : Int), v, rfl, rfl, sL h, atI_nat e, q⟩
/-- numbers in a list or a tuple -/
theorem int_nv {i : Nat} : (V.int (i : Int)) = .int (i : Int) := rfl

/-! ### stores into lists and dicts -/
theorem tk_lst {H : Hp} {a : Addr} {xs : List V} {o : HO} (h : H a = some (.lst xs)) : TupK H (upd H a o) := tupK_upd fun ys e => by
  rcases e with e | ⟨u, e⟩
  · rw [h] at e
    cases e
  · rw [h] at e
    cases e
theorem tk_dk {H : Hp} {a : Addr} {kvs : List (Key × V)} {o : HO} (h : H a = some (.dK kvs)) : TupK H (upd H a o) := tupK_upd fun ys e => by
  rcases e with e | ⟨u, e⟩
  · rw [h] at e
    cases e
  · rw [h] at e
    cases e
theorem TupK.trans {H H1 H2 : Hp} (a : TupK H H1) (b : TupK H1 H2) : TupK H H2 := fun c u h e => b c u h (a c u h e)
theorem TupK.refl {H : Hp} : TupK H H := fun _ _ _ e => e
theorem RowsAt.tk {H H' : Hp} {as : List Addr} {R : List (List Nat)} (t : TupK H H') (h : RowsAt H as R) : RowsAt H' as R := F2.imp (fun _ _ q => t.rd q) h
theorem same_upd {H H' : Hp} {a : Addr} {o : HO} (s : Same H H') (h : H a = none) : Same H (upd H' a o) := fun b u e => by
  rw [upd_ne (ne_of_none e h)]
  exact s _ _ e
theorem RowsAt.snoc {H : Hp} {as : List Addr} {R : List (List Nat)} {a : Addr} {r : List Nat} (h : RowsAt H as R) (g : RowAt H a r) : RowsAt H (as ++ [a]) (R ++ [r]) := F2.append h ⟨g, trivial⟩
theorem refs_snoc (as : List Addr) (a : Addr) : refs (as ++ [a]) = refs as ++ [.ref a] := List.map_append
theorem nv_snoc (as : List Nat) (a : Nat) : nv (as ++ [a]) = nv as ++ [.int (a : Int)] := List.map_append
theorem ne_kinds {H : Hp} {a b : Addr} {u v : HO} (h : H a = some u) (g : H b = some v) (n : u ≠ v) : a ≠ b := fun z => by
  subst z
  rw [h] at g
  exact n (Option.some.inj g)
/-! ### a dict that numbers: keys in order, each with its place -/
def numK {α κ : Type} (f : α → κ) (o : List α) : List (κ × V) := o.zipIdx.map fun p => (f p.1, V.int ((p.2 : Nat) : Int))
theorem numK_len {α κ : Type} (f : α → κ) (o : List α) : (numK f o).length = o.length := by unfold numK; rw [List.length_map, List.length_zipIdx]
theorem numK_snoc {α κ : Type} (f : α → κ) (o : List α) (x : α) : numK f (o ++ [x]) = numK f o ++ [(f x, .int ((o.length : Nat) : Int))] := by
  unfold numK
  rw [List.zipIdx_append, List.map_append]
  simp
section
variable {α κ : Type} [DecidableEq α] [DecidableEq κ] {f : α → κ}
theorem numK_val (inj : ∀ x y, f x = f y → x = y) (x : α) : ∀ (o : List α), valV (numK f o) (f x) = if x ∈ o then some (.int ((o.idxOf x : Nat) : Int)) else none := by
  intro o
  suffices h : ∀ (o : List α) (n : Nat), valV ((o.zipIdx n).map fun p => (f p.1, V.int ((p.2 : Nat) : Int))) (f x) = if x ∈ o then some (.int ((n + o.idxOf x : Nat) : Int)) else none by
    have := h o 0
    rw [Nat.zero_add] at this
    exact this
  intro o
  induction o with
  | nil => intro n; rfl
  | cons a o ih =>
    intro n
    rw [List.zipIdx_cons, List.map_cons]
    by_cases h : a = x
    · subst h
      rw [valV_pos rfl, if_pos List.mem_cons_self, List.idxOf_cons_self]
      rfl
    · rw [valV_neg (fun z => h (inj _ _ z)), ih (n + 1)]
      have hm : x ∈ a :: o ↔ x ∈ o := by
        rw [List.mem_cons]
        exact ⟨fun z => z.elim (fun e => absurd e.symm h) id, .inr⟩
      by_cases hx : x ∈ o
      · rw [if_pos hx, if_pos (hm.mpr hx), List.idxOf_cons, beq_eq_false_iff_ne.mpr h]
        show some (V.int ((n + 1 + o.idxOf x : Nat) : Int)) = some (V.int ((n + (o.idxOf x + 1) : Nat) : Int))
        rw [show n + 1 + o.idxOf x = n + (o.idxOf x + 1) by omega]
      · rw [if_neg hx, if_neg (fun z => hx (hm.mp z))]
theorem numK_put (inj : ∀ x y, f x = f y → x = y) {o : List α} {x : α} (h : x ∉ o) : putK (numK f o) (f x) (.int ((o.length : Nat) : Int)) = numK f (o ++ [x]) := by
  rw [putK_new, numK_snoc]
  rw [numK_val inj, if_neg h]
end
def kN (n : Nat) : Key := .inl (n : Int)
theorem kN_inj (x y : Nat) (h : kN x = kN y) : x = y := by
  injection h with h
  exact Int.ofNat.inj h
theorem kV_kN (n : Nat) : kV (kN n) = .int (n : Int) := rfl
/-- a row as a key -/
def kRow (r : List Nat) : List D3 := r.map fun n => .inl (kN n)
theorem kRow_inj (a b : List Nat) (h : kRow a = kRow b) : a = b := by
  induction a generalizing b with
  | nil => cases b with
    | nil => rfl
    | cons _ _ => cases h
  | cons x a ih => cases b with
    | nil => cases h
    | cons y b =>
      unfold kRow at h ih
      rw [List.map_cons, List.map_cons] at h
      injection h with h1 h2
      injection h1 with h1
      rw [kN_inj _ _ h1, ih b h2]
theorem keyRow {H : Hp} {p : Addr} {r : List Nat} (h : RowAt H p r) : KeyT H (kRow r) p := by
  refine ⟨_, h, ?_⟩
  unfold kRow nv
  induction r with
  | nil => exact trivial
  | cons x r ih => exact ⟨rfl, F2.of (by rw [List.length_map, List.length_map]) fun i a b ha hb => by
      rw [List.getElem?_map] at ha hb
      cases e : r[i]? with
      | none => rw [e] at ha; cases ha
      | some n => rw [e] at ha hb; cases ha; cases hb; rfl⟩

/-- the dict of a set: keys once each, as they come -/
theorem accK_set {α : Type} [DecidableEq α] {f : α → List D3} (inj : ∀ x y, f x = f y → x = y) {z : V} (xs : List α) : ∀ n, n ≤ xs.length → accK (fun i => (xs[i]?).elim [] f) (fun _ => z) n = (uniq (xs.take n)).map fun x => (f x, z) := by
  intro n
  induction n with
  | zero => intro _; rfl
  | succ n ih =>
    intro hn
    have hlt : n < xs.length := hn
    have e : xs[n]? = some xs[n] := List.getElem?_eq_getElem hlt
    rw [accK_succ, ih (Nat.le_of_lt hlt), List.take_add_one, e]
    show putK _ (f xs[n]) z = _
    have hv : ∀ (o : List α) (x : α), valV (o.map fun x => (f x, z)) (f x) = if x ∈ o then some z else none := by
      intro o x
      induction o with
      | nil => rfl
      | cons a o ih =>
        rw [List.map_cons]
        by_cases h : a = x
        · subst h
          rw [valV_pos rfl, if_pos List.mem_cons_self]
        · rw [valV_neg (fun q => h (inj _ _ q)), ih]
          have hm : x ∈ a :: o ↔ x ∈ o := by
            rw [List.mem_cons]
            exact ⟨fun q => q.elim (fun e => absurd e.symm h) id, .inr⟩
          by_cases hx : x ∈ o
          · rw [if_pos hx, if_pos (hm.mpr hx)]
          · rw [if_neg hx, if_neg fun q => hx (hm.mp q)]
    show _ = (uniq (xs.take n ++ [xs[n]])).map _
    unfold uniq
    rw [addAll_snoc]
    unfold addU
    by_cases hx : xs[n] ∈ addAll [] (xs.take n)
    · rw [if_pos hx]
      unfold putK
      rw [if_pos]
      · rw [List.map_map]
        refine List.map_congr_left fun y _ => ?_
        show (if f y = f xs[n] then (f y, z) else (f y, z)) = _
        split <;> rfl
      · rw [valV_any, hv, if_pos hx]
        rfl
    · rw [if_neg hx, putK_new, List.map_append]
      · rfl
      · rw [hv, if_neg hx]
theorem rows_of_keys {H : Hp} : ∀ {U : List (List Nat)} {bs : List Addr} {z : V}, F2 (fun (kv : List D3 × V) b => KeyT H kv.1 b) (U.map fun u => (kRow u, z)) bs → RowsAt H bs U := by
  intro U
  induction U with
  | nil => intro bs z f; cases bs with | nil => exact trivial | cons _ _ => exact False.elim f
  | cons u U ih => intro bs z f; cases bs with
    | nil => exact False.elim f
    | cons b bs =>
      refine ⟨?_, ih f.2⟩
      obtain ⟨xs, e, g⟩ := f.1
      have : xs = nv u := by
        clear e f ih
        unfold kRow at g
        induction u generalizing xs with
        | nil => cases xs with | nil => rfl | cons _ _ => exact False.elim g
        | cons n u ih2 => cases xs with
          | nil => exact False.elim g
          | cons x xs =>
            have h1 : x = .int (n : Int) := g.1
            rw [h1, ih2 xs g.2]
            rfl
      rw [this] at e
      exact e
theorem F2.perm {α β : Type} {R : α → β → Prop} {l l' : List α} (h : l'.Perm l) : ∀ {m : List β}, F2 R l m → ∃ m', F2 R l' m' ∧ m'.Perm m := by
  induction h with
  | nil => intro m f; exact ⟨m, f, List.Perm.refl _⟩
  | cons x _ ih =>
    intro m f
    cases m with
    | nil => exact False.elim f
    | cons y m =>
      obtain ⟨m', f', p⟩ := ih f.2
      exact ⟨y :: m', ⟨f.1, f'⟩, p.cons y⟩
  | swap x y l =>
    intro m f
    cases m with
    | nil => exact False.elim f
    | cons a m => cases m with
      | nil => exact False.elim f.2
      | cons b m => exact ⟨b :: a :: m, ⟨f.2.1, f.1, f.2.2⟩, List.Perm.swap _ _ _⟩
  | trans _ _ ih1 ih2 =>
    intro m f
    obtain ⟨m1, f1, p1⟩ := ih2 f
    obtain ⟨m2, f2, p2⟩ := ih1 f1
    exact ⟨m2, f2, p2.trans p1⟩
/-- a list of pairs of numbers -/
def PairsAt (H : Hp) (as : List Addr) (ps : List (Nat × Nat)) : Prop := F2 (fun a (p : Nat × Nat) => H a = some (.tup [.int (p.1 : Int), .int (p.2 : Int)])) as ps
theorem PairsAt.tk {H H' : Hp} {as : List Addr} {ps : List (Nat × Nat)} (t : TupK H H') (h : PairsAt H as ps) : PairsAt H' as ps := F2.imp (fun _ _ q => t.ex q) h
theorem PairsAt.get {H : Hp} {as : List Addr} {ps : List (Nat × Nat)} (h : PairsAt H as ps) {i : Nat} {p : Nat × Nat} (e : ps[i]? = some p) : ∃ a, as[i]? = some a ∧ H a = some (.tup [.int (p.1 : Int), .int (p.2 : Int)]) := by
  have hl := F2.length h
  obtain ⟨hi, _⟩ := List.getElem?_eq_some_iff.mp e
  have ha : as[i]? = some as[i] := List.getElem?_eq_getElem (by omega)
  obtain ⟨b, hb, hr⟩ := F2.get h ha
  rw [e] at hb
  cases hb
  exact ⟨_, ha, hr⟩
theorem pairs_perm {H : Hp} {as : List Addr} {ps : List (Nat × Nat)} (h : PairsAt H as ps) {ys : List V} (p : ys.Perm (refs as)) : ∃ bs ps', ys = refs bs ∧ PairsAt H bs ps' ∧ ps'.Perm ps := by
  have f : F2 (fun x (p : Nat × Nat) => ∃ a, x = V.ref a ∧ H a = some (.tup [.int (p.1 : Int), .int (p.2 : Int)])) (refs as) ps := by
    clear p
    induction as generalizing ps with
    | nil => cases ps with | nil => exact trivial | cons _ _ => exact False.elim h
    | cons a as ih => cases ps with
      | nil => exact False.elim h
      | cons q ps => exact ⟨⟨a, rfl, h.1⟩, ih h.2⟩
  obtain ⟨ps', f', p'⟩ := F2.perm p f
  have : ∀ {ys : List V} {ps : List (Nat × Nat)}, F2 (fun x (p : Nat × Nat) => ∃ a, x = V.ref a ∧ H a = some (.tup [.int (p.1 : Int), .int (p.2 : Int)])) ys ps → ∃ bs, ys = refs bs ∧ PairsAt H bs ps := by
    intro ys
    induction ys with
    | nil => intro ps f; cases ps with | nil => exact ⟨[], rfl, trivial⟩ | cons _ _ => exact False.elim f
    | cons y ys ih => intro ps f; cases ps with
      | nil => exact False.elim f
      | cons q ps =>
        obtain ⟨⟨a, e, ha⟩, f2⟩ := f
        obtain ⟨bs, e2, hb⟩ := ih f2
        exact ⟨a :: bs, by rw [e, e2]; rfl, ha, hb⟩
  obtain ⟨bs, e, hb⟩ := this f'
  exact ⟨bs, ps', e, hb, p'⟩
/-- what a sort of pairs looks at -/
def pairKey (H : Hp) : V → Int × Int
  | .ref a => match H a with
    | some (.tup [.int i, .int j]) => (i, j)
    | _ => (0, 0)
  | _ => (0, 0)
theorem pairKey_at {H : Hp} {a : Addr} {i j : Int} (h : H a = some (.tup [.int i, .int j])) : pairKey H (.ref a) = (i, j) := by
  show (match H a with | some (.tup [.int i, .int j]) => (i, j) | _ => (0, 0)) = _
  rw [h]
def kP (p : Nat × Nat) : List D3 := kRow [p.1, p.2]
theorem kP_inj (x y : Nat × Nat) (h : kP x = kP y) : x = y := by
  have := kRow_inj _ _ h
  injection this with h1 h2
  injection h2 with h2 _
  exact Prod.ext h1 h2
/-- a dict that holds what has come -/
def setK {α : Type} (f : α → List D3) (o : List α) : List (List D3 × V) := o.map fun x => (f x, .bl true)
theorem setK_val {α : Type} [DecidableEq α] {f : α → List D3} (inj : ∀ x y, f x = f y → x = y) (x : α) : ∀ o : List α, valV (setK f o) (f x) = if x ∈ o then some (.bl true) else none := by
  intro o
  unfold setK
  induction o with
  | nil => rfl
  | cons a o ih =>
    rw [List.map_cons]
    by_cases h : a = x
    · subst h
      rw [valV_pos rfl, if_pos List.mem_cons_self]
    · rw [valV_neg (fun q => h (inj _ _ q)), ih]
      have hm : x ∈ a :: o ↔ x ∈ o := by
        rw [List.mem_cons]
        exact ⟨fun q => q.elim (fun e => absurd e.symm h) id, .inr⟩
      by_cases hx : x ∈ o
      · rw [if_pos hx, if_pos (hm.mpr hx)]
      · rw [if_neg hx, if_neg fun q => hx (hm.mp q)]
theorem setK_put {α : Type} [DecidableEq α] {f : α → List D3} (inj : ∀ x y, f x = f y → x = y) {o : List α} {x : α} (h : x ∉ o) : putK (setK f o) (f x) (.bl true) = setK f (o ++ [x]) := by
  rw [putK_new]
  · unfold setK
    rw [List.map_append]
    rfl
  · rw [setK_val inj, if_neg h]
theorem tk_dn {P : Program} {w : World} {H : Hp} {a : Addr} {kvs : List (List D3 × V)} {o : HO} (h : DN P w H a kvs) : TupK H (upd H a o) := tupK_upd fun ys e => h.not_tup e
theorem DN.tk {P : Program} {w : World} {H H' : Hp} {a : Addr} {kvs : List (List D3 × V)} (t : TupK H H') (e : H' a = H a) (h : DN P w H a kvs) : DN P w H' a kvs := h.keep t e
theorem dn_ne_lst {P : Program} {w : World} {H : Hp} {a b : Addr} {kvs : List (List D3 × V)} {xs : List V} (h : DN P w H a kvs) (g : H b = some (.lst xs)) : a ≠ b := fun z => by
  subst z
  obtain ⟨bs, e, _⟩ := h
  rw [g] at e
  unfold dnO at e
  cases e
theorem rows_perm {H : Hp} {as : List Addr} {R : List (List Nat)} (h : RowsAt H as R) {ys : List V} (p : ys.Perm (refs as)) : ∃ bs R', ys = refs bs ∧ RowsAt H bs R' ∧ R'.Perm R := by
  have f : F2 (fun x (r : List Nat) => ∃ a, x = V.ref a ∧ RowAt H a r) (refs as) R := by
    clear p
    induction as generalizing R with
    | nil => cases R with | nil => exact trivial | cons _ _ => exact False.elim h
    | cons a as ih => cases R with
      | nil => exact False.elim h
      | cons q R => exact ⟨⟨a, rfl, h.1⟩, ih h.2⟩
  obtain ⟨R', f', p'⟩ := F2.perm p f
  have : ∀ {ys : List V} {R : List (List Nat)}, F2 (fun x (r : List Nat) => ∃ a, x = V.ref a ∧ RowAt H a r) ys R → ∃ bs, ys = refs bs ∧ RowsAt H bs R := by
    intro ys
    induction ys with
    | nil => intro R f; cases R with | nil => exact ⟨[], rfl, trivial⟩ | cons _ _ => exact False.elim f
    | cons y ys ih => intro R f; cases R with
      | nil => exact False.elim f
      | cons q R =>
        obtain ⟨⟨a, e, ha⟩, f2⟩ := f
        obtain ⟨bs, e2, hb⟩ := ih f2
        exact ⟨a :: bs, by rw [e, e2]; rfl, ha, hb⟩
  obtain ⟨bs, e, hb⟩ := this f'
  exact ⟨bs, R', e, hb, p'⟩
theorem accK_num {α : Type} [DecidableEq α] {f : α → List D3} (inj : ∀ x y, f x = f y → x = y) (xs : List α) (nd : xs.Nodup) : ∀ n, n ≤ xs.length → accK (fun i => (xs[i]?).elim [] f) (fun i => .int ((i : Nat) : Int)) n = numK f (xs.take n) := by
  intro n
  induction n with
  | zero => intro _; rfl
  | succ n ih =>
    intro hn
    have hlt : n < xs.length := hn
    have e : xs[n]? = some xs[n] := List.getElem?_eq_getElem hlt
    rw [accK_succ, ih (Nat.le_of_lt hlt), List.take_add_one, e]
    show putK _ (f xs[n]) _ = numK f (xs.take n ++ [xs[n]])
    have hm : xs[n] ∉ xs.take n := fun z => by
      obtain ⟨i, hi, ei⟩ := List.getElem_of_mem z
      rw [List.length_take] at hi
      rw [List.getElem_take] at ei
      have := (List.getElem_inj nd).mp ei
      omega
    have hl : (xs.take n).length = n := by
      rw [List.length_take]
      omega
    have := numK_put inj hm
    rw [hl] at this
    exact this
/-- a dict from numbers to where they first come -/
def firK (ls o : List Nat) : List (Key × V) := o.map fun q => (kN q, V.int ((ls.idxOf q : Nat) : Int))
theorem firK_val (ls : List Nat) (x : Nat) : ∀ o : List Nat, valV (firK ls o) (kN x) = if x ∈ o then some (.int ((ls.idxOf x : Nat) : Int)) else none := by
  intro o
  unfold firK
  induction o with
  | nil => rfl
  | cons a o ih =>
    rw [List.map_cons]
    by_cases h : a = x
    · subst h
      rw [valV_pos rfl, if_pos List.mem_cons_self]
    · rw [valV_neg (fun q => h (kN_inj _ _ q)), ih]
      have hm : x ∈ a :: o ↔ x ∈ o := by
        rw [List.mem_cons]
        exact ⟨fun q => q.elim (fun e => absurd e.symm h) id, .inr⟩
      by_cases hx : x ∈ o
      · rw [if_pos hx, if_pos (hm.mpr hx)]
      · rw [if_neg hx, if_neg fun q => hx (hm.mp q)]
theorem firK_put {ls o : List Nat} {x i : Nat} (h : x ∉ o) (e : ls.idxOf x = i) : putK (firK ls o) (kN x) (.int ((i : Nat) : Int)) = firK ls (o ++ [x]) := by
  rw [putK_new]
  · unfold firK
    rw [List.map_append, ← e]
    rfl
  · rw [firK_val, if_neg h]
theorem first_idx {ls : List Nat} {i x : Nat} (h : ls[i]? = some x) (n : x ∉ ls.take i) : ls.idxOf x = i := by
  have hi := (List.getElem?_eq_some_iff.mp h).1
  have e : ls = (ls.take i ++ [x]) ++ ls.drop (i + 1) := by
    have : ls.take (i + 1) = ls.take i ++ [x] := by
      rw [List.take_add_one, h]
      rfl
    rw [← this, List.take_append_drop]
  have e2 := idx_new n
  rw [List.length_take, Nat.min_eq_left (Nat.le_of_lt hi)] at e2
  rw [e, idx_pre (List.mem_append_right _ (List.mem_singleton.mpr rfl))]
  exact e2
/-- all that stands in the list or tuple at m is as P tells -/
def AdP (H : Hp) (m : Addr) (P : Addr → Prop) : Prop := ∃ as, (H m = some (.tup (refs as)) ∨ H m = some (.lst (refs as))) ∧ ∀ x ∈ as, P x
theorem AdP.same {H H' : Hp} {m : Addr} {P : Addr → Prop} (s : Same H H') (h : AdP H m P) : AdP H' m P := let ⟨as, e, f⟩ := h; ⟨as, e.imp (s _ _) (s _ _), f⟩
theorem refs_inj : ∀ {a b : List Addr}, refs a = refs b → a = b := by
  intro a
  induction a with
  | nil => intro b h; cases b with | nil => rfl | cons y b => exact nomatch (show ([] : List V) = V.ref y :: refs b from h)
  | cons x a ih => intro b h; cases b with
    | nil => exact nomatch (show V.ref x :: refs a = [] from h)
    | cons y b =>
      have h' : V.ref x :: refs a = V.ref y :: refs b := h
      injection h' with h1 h2
      injection h1 with h1
      rw [h1, ih h2]
theorem AdP.all {H : Hp} {m : Addr} {P : Addr → Prop} (h : AdP H m P) {ms : List Addr} (e : H m = some (.tup (refs ms)) ∨ H m = some (.lst (refs ms))) : ∀ x ∈ ms, P x := by
  obtain ⟨as, e', f⟩ := h
  have : as = ms := by
    rcases e with e | e <;> rcases e' with e' | e'
    · rw [e] at e'
      injection e' with e'
      injection e' with e'
      exact (refs_inj e').symm
    · rw [e] at e'
      cases e'
    · rw [e] at e'
      cases e'
    · rw [e] at e'
      injection e' with e'
      injection e' with e'
      exact (refs_inj e').symm
  rw [← this]
  exact f
theorem AdP.any {H : Hp} {m : Addr} {R : List (List Nat)} (h : Tab H m R) : AdP H m (fun _ => True) := h.elim (fun ⟨as, e, _⟩ => ⟨as, .inl e, fun _ _ => trivial⟩) (fun ⟨as, e, _⟩ => ⟨as, .inr e, fun _ _ => trivial⟩)
/-! ### promises of the defs of machines -/
section
variable {K : PySem.W.Frag}
def sp_set_of : Sp := fun vs H Q _ => ∃ (m : Addr) (M : List (List Nat)), vs = [.ref m] ∧ TabT H m M ∧ M.length ≤ 1000 ∧ ∀ p bs H', Same H H' → H' p = some (.lst (refs bs)) → RowsAt H' bs (uniq M) → Q (.ref p) H'
def sp_classes_of : Sp := fun vs H Q _ => ∃ (r m : Addr) (R M : List (List Nat)) (k n : Nat), vs = [.ref r, .ref m] ∧ TabT H r R ∧ TabT H m M ∧ OkR k n R ∧ M.length = n ∧ 0 < n ∧ n < 64 ∧ 1 ≤ k ∧ k ≤ 5 ∧ (∀ u ∈ M, u.length = k ∧ ∀ x ∈ u, x < k) ∧
  ∀ p ls H', Same H H' → H' p = some (.lst (nv ls)) → ls.length = n → (∃ c, uniq ls = List.range c) → (∀ a c, a < n → c < n → (ls.getD a 0 = ls.getD c 0 ↔ Eqv k R M a c)) → Q (.ref p) H'
def sp_reached_from : Sp := fun vs H Q _ => ∃ (r m : Addr) (R M : List (List Nat)) (k n s : Nat) (P : Addr → Prop), vs = [.int (s : Int), .ref r, .ref m] ∧ Tab H r R ∧ Tab H m M ∧ AdP H m P ∧ OkR k n R ∧ M.length = n ∧ n ≤ 10000 ∧ s < n ∧ k ≤ 5 ∧
  ∀ p a b H', Same H H' → H' p = some (.tup [.ref a, .ref b]) → TabT H' a (rowsOf R (ordR R s n)) → TabT H' b (marksOf M (ordR R s n)) → AdP H' b P → Q (.ref p) H'
def sp_least_machine : Sp := fun vs H Q _ => ∃ (r m : Addr) (R M : List (List Nat)) (k n : Nat) (P : Addr → Prop), vs = [.ref r, .ref m] ∧ Tab H r R ∧ Tab H m M ∧ AdP H m P ∧ OkR k n R ∧ M.length = n ∧ 0 < n ∧ n < 64 ∧ 1 ≤ k ∧ k ≤ 5 ∧ (∀ u ∈ M, u.length = k ∧ ∀ x ∈ u, x < k) ∧
  ∀ p a b R' M' H', Same H H' → H' p = some (.tup [.ref a, .ref b]) → TabT H' a R' → TabT H' b M' → IsLeast k (beh R M 0) R' M' → R'.length ≤ n → (∀ u ∈ M', u ∈ M) → AdP H' b P → Q (.ref p) H'
def sp_pairs_reached : Sp := fun vs H Q _ => ∃ (r q : Addr) (R1 R2 : List (List Nat)) (k n1 n2 : Nat), vs = [.ref r, .ref q] ∧ TabT H r R1 ∧ TabT H q R2 ∧ OkR k n1 R1 ∧ OkR k n2 R2 ∧ 0 < n1 ∧ 0 < n2 ∧ n1 ≤ 300 ∧ n2 ≤ 300 ∧ k ≤ 5 ∧
  ∀ p as ps H', Same H H' → H' p = some (.tup (refs as)) → PairsAt H' as ps → (∀ q, q ∈ ps ↔ q ∈ ordP R1 R2 (n1 * n2)) → ps.length ≤ n1 * n2 → Q (.ref p) H'
end
end Br

/-! Numbers as round words, plain: digits, rests, values of pairs. No program here. -/
namespace Br
namespace Nb
/-- the low word's number -/
def low (w : Int) : List Int → Int
  | [] => 0
  | l :: t => l + w * low w t
theorem low_app (w : Int) (a b : List Int) : low w (a ++ b) = low w a + w ^ a.length * low w b := by
  induction a with
  | nil =>
    show low w b = 0 + w ^ 0 * low w b
    rw [Int.pow_zero]
    omega
  | cons l t ih =>
    show l + w * low w (t ++ b) = l + w * low w t + w ^ (t.length + 1) * low w b
    rw [ih, Int.pow_succ]
    grind
/-- a digit -/
def isDg (w q t d : Int) : Prop := 0 ≤ d ∧ d < w ∧ (t - d * q) % w = 0
/-- widths 2 to 5 and bottoms without a common divisor -/
structure Ok (w q : Int) : Prop where
  w2 : 2 ≤ w
  w5 : w ≤ 5
  q1 : 1 ≤ q
  cop : Int.gcd w q = 1
theorem dg_tab : ∀ (w r t : Fin 6), 2 ≤ w.val → r.val < w.val → t.val < w.val → Nat.gcd w.val r.val = 1 → ∃ d : Fin 6, d.val < w.val ∧ ((t.val : Int) - d.val * r.val) % w.val = 0 ∧ ∀ e : Fin 6, e.val < w.val → ((t.val : Int) - e.val * r.val) % w.val = 0 → e = d := by
  decide +kernel
theorem mod_red {w t d q : Int} : (t - d * q) % w = (t % w - d * (q % w)) % w := by
  have h1 := Int.emod_add_mul_ediv t w
  have h2 := Int.emod_add_mul_ediv q w
  have : t - d * q = (t % w - d * (q % w)) + w * (t / w - d * (q / w)) := by grind
  rw [this, Int.add_mul_emod_self_left]
section
variable {w q : Int} (ok : Ok w q)
include ok
theorem Ok.pos : 0 < w := by have := ok.w2; omega
theorem dg_ex (t : Int) : ∃ d, isDg w q t d ∧ ∀ e, isDg w q t e → e = d := by
  have w2 := ok.w2
  have w5 := ok.w5
  have wp : 0 < w := by omega
  have r0 := Int.emod_nonneg q (by omega : w ≠ 0)
  have r1 := Int.emod_lt_of_pos q wp
  have t0 := Int.emod_nonneg t (by omega : w ≠ 0)
  have t1 := Int.emod_lt_of_pos t wp
  obtain ⟨wn, hw⟩ : ∃ wn : Nat, w = (wn : Int) := ⟨w.toNat, by omega⟩
  obtain ⟨rn, hr⟩ : ∃ rn : Nat, q % w = (rn : Int) := ⟨(q % w).toNat, by omega⟩
  obtain ⟨tn, ht⟩ : ∃ tn : Nat, t % w = (tn : Int) := ⟨(t % w).toNat, by omega⟩
  have hg : Nat.gcd wn rn = 1 := by
    have c := ok.cop
    rw [← Int.emod_add_mul_ediv q w, Int.gcd_add_mul_left_right, hr, hw] at c
    exact c
  obtain ⟨d, d1, d2, d3⟩ := dg_tab ⟨wn, by omega⟩ ⟨rn, by omega⟩ ⟨tn, by omega⟩ (by show 2 ≤ wn; omega) (by show rn < wn; omega) (by show tn < wn; omega) hg
  refine ⟨(d.val : Int), ⟨by omega, by rw [hw]; exact Int.ofNat_lt.mpr d1, ?_⟩, fun e ⟨e0, e1, e2⟩ => ?_⟩
  · rw [mod_red, hr, ht, hw]
    exact d2
  · obtain ⟨en, rfl⟩ : ∃ en : Nat, e = (en : Int) := ⟨e.toNat, by omega⟩
    rw [mod_red, hr, ht, hw] at e2
    have := d3 ⟨en, by omega⟩ (by show en < wn; omega) e2
    rw [← this]
end
/-- the digit of a top -/
noncomputable def dg (w q t : Int) : Int := ((List.range w.toNat).map Int.ofNat).filter (fun d => decide ((t - d * q) % w = 0)) |>.headD 0
/-- the next top -/
noncomputable def nx (w q t : Int) : Int := (t - dg w q t * q) / w
noncomputable def tp (w q t : Int) : Nat → Int
  | 0 => t
  | n + 1 => nx w q (tp w q t n)
noncomputable def ds (w q t : Int) (n : Nat) : Int := dg w q (tp w q t n)
/-- the first digits -/
noncomputable def dgs (w q t : Int) (n : Nat) : List Int := (List.range n).map (ds w q t)
section
variable {w q : Int} (ok : Ok w q)
include ok
theorem dg_filter (t : Int) : ((List.range w.toNat).map Int.ofNat).filter (fun d => decide ((t - d * q) % w = 0)) = [dg w q t] ∧ isDg w q t (dg w q t) := by
  obtain ⟨d, hd, hu⟩ := dg_ex ok t
  have wp := ok.pos
  have e : ((List.range w.toNat).map Int.ofNat).filter (fun d => decide ((t - d * q) % w = 0)) = [d] := by
    have nd : (((List.range w.toNat).map Int.ofNat).filter (fun d => decide ((t - d * q) % w = 0))).Nodup := by
      refine List.Pairwise.sublist List.filter_sublist (List.pairwise_map.mpr ?_)
      exact (List.nodup_iff_pairwise_ne.mp List.nodup_range).imp fun h z => h (Int.ofNat.inj z)
    have mem : ∀ x, x ∈ ((List.range w.toNat).map Int.ofNat).filter (fun d => decide ((t - d * q) % w = 0)) ↔ x = d := fun x => by
      rw [List.mem_filter, decide_eq_true_eq, List.mem_map]
      constructor
      · rintro ⟨⟨n, hn, rfl⟩, h2⟩
        rw [List.mem_range] at hn
        exact hu _ ⟨Int.natCast_nonneg n, by show (n : Int) < w; omega, h2⟩
      · rintro rfl
        refine ⟨⟨x.toNat, List.mem_range.mpr (by have := hd.1; have := hd.2.1; omega), ?_⟩, hd.2.2⟩
        show ((x.toNat : Nat) : Int) = x
        exact Int.toNat_of_nonneg hd.1
    generalize ((List.range w.toNat).map Int.ofNat).filter (fun d => decide ((t - d * q) % w = 0)) = l at nd mem
    match l, nd, mem with
    | [], _, mem => exact absurd ((mem d).mpr rfl) (by simp)
    | [x], _, mem => rw [(mem x).mp (List.mem_singleton.mpr rfl)]
    | x :: y :: l, nd, mem =>
      have hx := (mem x).mp List.mem_cons_self
      have hy := (mem y).mp (List.mem_cons_of_mem _ List.mem_cons_self)
      rw [List.nodup_cons] at nd
      exact absurd (by rw [hx, ← hy]; exact List.mem_cons_self) nd.1
  have ed : dg w q t = d := by
    unfold dg
    rw [e]
    rfl
  exact ⟨by rw [e, ed], by rw [ed]; exact hd⟩
theorem dg_is (t : Int) : isDg w q t (dg w q t) := (dg_filter ok t).2
theorem dg_eq {t d : Int} (h : isDg w q t d) : dg w q t = d := by
  obtain ⟨d', _, hu⟩ := dg_ex ok t
  rw [hu _ h, hu _ (dg_is ok t)]
theorem nx_spec (t : Int) : t = dg w q t * q + w * nx w q t := by
  have h := (dg_is ok t).2.2
  have := Int.emod_add_mul_ediv (t - dg w q t * q) w
  rw [h] at this
  unfold nx
  omega
theorem tp_low (t : Int) : ∀ n, t = q * low w (dgs w q t n) + w ^ n * tp w q t n := by
  intro n
  induction n with
  | zero =>
    show t = q * 0 + w ^ 0 * t
    rw [Int.pow_zero]
    omega
  | succ n ih =>
    have h := nx_spec ok (tp w q t n)
    have e : dgs w q t (n + 1) = dgs w q t n ++ [ds w q t n] := by
      unfold dgs
      rw [List.range_succ, List.map_append]
      rfl
    have l : (dgs w q t n).length = n := by
      unfold dgs
      rw [List.length_map, List.length_range]
    rw [e, low_app, l, Int.pow_succ]
    show t = q * (low w (dgs w q t n) + w ^ n * (ds w q t n + w * 0)) + w ^ n * w * nx w q (tp w q t n)
    have h' : tp w q t n = ds w q t n * q + w * nx w q (tp w q t n) := h
    grind
omit ok in
theorem tp_add (t : Int) (i : Nat) : ∀ m, tp w q t (i + m) = tp w q (tp w q t i) m := by
  intro m
  induction m with
  | zero => rfl
  | succ m ih =>
    show nx w q (tp w q t (i + m)) = nx w q (tp w q (tp w q t i) m)
    rw [ih]
omit ok in
theorem ds_add (t : Int) (i m : Nat) : ds w q t (i + m) = ds w q (tp w q t i) m := by
  unfold ds
  rw [tp_add]
/-- the same digits for ever: the same top -/
theorem top_inj {t u : Int} (h : ∀ m, ds w q t m = ds w q u m) : t = u := by
  have hl : ∀ n, dgs w q t n = dgs w q u n := fun n => by
    unfold dgs
    exact List.map_congr_left fun m _ => h m
  have hd : ∀ n, ∃ c, t - u = w ^ n * c := fun n => ⟨tp w q t n - tp w q u n, by
    have h1 := tp_low ok t n
    have h2 := tp_low ok u n
    rw [hl] at h1
    grind⟩
  obtain ⟨c, hc⟩ := hd (t - u).natAbs
  have w2 := ok.w2
  have big : ∀ n : Nat, (n : Int) < w ^ n := fun n => by
    induction n with
    | zero => rw [Int.pow_zero]; decide
    | succ n ih =>
      rw [Int.pow_succ]
      have : w ^ n * 2 ≤ w ^ n * w := Int.mul_le_mul_of_nonneg_left w2 (by omega)
      omega
  have hb := big (t - u).natAbs
  by_cases hz : c = 0
  · rw [hz, Int.mul_zero] at hc
    omega
  · exfalso
    have e : (t - u).natAbs = (w ^ (t - u).natAbs).natAbs * c.natAbs := by
      rw [← Int.natAbs_mul, ← hc]
    have c1 : 1 ≤ c.natAbs := by omega
    have p : 0 ≤ w ^ (t - u).natAbs := by omega
    have : (w ^ (t - u).natAbs).natAbs * 1 ≤ (w ^ (t - u).natAbs).natAbs * c.natAbs := Nat.mul_le_mul_left _ c1
    omega
end

/-- the pair tells the number t / q -/
def Pt (w q t : Int) (b a : List Int) : Prop := t * (w ^ a.length - 1) = q * (low w b * (w ^ a.length - 1) - w ^ b.length * low w a)
section
variable {w q : Int} (ok : Ok w q)
include ok
theorem Ok.pow1 {k : Nat} (hk : 0 < k) : 2 ≤ w ^ k := by
  have w2 := ok.w2
  have : ∀ k : Nat, 2 ≤ w ^ (k + 1) := fun k => by
    induction k with
    | zero => rw [Int.pow_succ, Int.pow_zero]; omega
    | succ n ih =>
      rw [Int.pow_succ]
      have : w ^ (n + 1) * 2 ≤ w ^ (n + 1) * w := Int.mul_le_mul_of_nonneg_left w2 (by omega)
      omega
  obtain ⟨j, rfl⟩ : ∃ j, k = j + 1 := ⟨k - 1, by omega⟩
  exact this j
theorem step {t l N N' : Int} {k : Nat} (hk : 0 < k) (h : t * (w ^ k - 1) = q * N) (hN : N = l * (w ^ k - 1) + w * N') (l0 : 0 ≤ l) (l1 : l < w) : dg w q t = l ∧ nx w q t * (w ^ k - 1) = q * N' := by
  have wp := ok.pos
  obtain ⟨j, rfl⟩ : ∃ j, k = j + 1 := ⟨k - 1, by omega⟩
  have e : t - l * q = w * (w ^ j * (t - l * q) - q * N') := by
    have := Int.pow_succ w j
    grind
  have hd : isDg w q t l := ⟨l0, l1, by rw [e]; exact Int.mul_emod_right _ _⟩
  have ed := dg_eq ok hd
  refine ⟨ed, ?_⟩
  have hs := nx_spec ok t
  rw [ed] at hs
  have : w * (nx w q t * (w ^ (j + 1) - 1)) = w * (q * N') := by grind
  exact Int.eq_of_mul_eq_mul_left (by omega) this
theorem low_rot (l : Int) (a : List Int) : low w (a ++ [l]) = low w a + w ^ a.length * l := by
  rw [low_app]
  show _ + _ * (l + w * 0) = _
  grind
/-- the digits of the number are the pair's letters -/
theorem pt_digits : ∀ (n : Nat) {t : Int} {b a : List Int}, Pt w q t b a → a ≠ [] → (∀ x ∈ b, 0 ≤ x ∧ x < w) → (∀ x ∈ a, 0 ≤ x ∧ x < w) → Rd.ltr b a n = some (ds w q t n) := by
  intro n
  induction n with
  | zero =>
    intro t b a h ha hb haw
    cases b with
    | cons l b =>
      have hl := hb l List.mem_cons_self
      have := step ok (k := a.length) (List.length_pos_iff.mpr ha) h (l := l) (N' := low w b * (w ^ a.length - 1) - w ^ b.length * low w a) (by
        show (l + w * low w b) * _ - w ^ (b.length + 1) * _ = _
        rw [Int.pow_succ]
        grind) hl.1 hl.2
      rw [Rd.ltr_lt (by show 0 < b.length + 1; omega)]
      show some l = some (dg w q t)
      rw [this.1]
    | nil =>
      cases a with
      | nil => exact absurd rfl ha
      | cons l a =>
        have hl := haw l List.mem_cons_self
        have := step ok (k := (l :: a).length) (Nat.succ_pos _) h (l := l) (N' := - low w (a ++ [l])) (by
          rw [low_rot ok]
          show (0 : Int) * _ - w ^ 0 * (l + w * low w a) = l * (w ^ (a.length + 1) - 1) + w * _
          rw [Int.pow_succ, Int.pow_zero]
          grind) hl.1 hl.2
        rw [Rd.ltr_ge (Nat.zero_le _)]
        show (l :: a)[0 % (a.length + 1)]? = some (dg w q t)
        rw [Nat.zero_mod, this.1]
        rfl
  | succ n ih =>
    intro t b a h ha hb haw
    have e1 : ds w q t (n + 1) = ds w q (nx w q t) n := by
      rw [Nat.add_comm, ds_add]
      rfl
    rw [e1]
    cases b with
    | cons l b =>
      have hl := hb l List.mem_cons_self
      have st := step ok (k := a.length) (List.length_pos_iff.mpr ha) h (l := l) (N' := low w b * (w ^ a.length - 1) - w ^ b.length * low w a) (by
        show (l + w * low w b) * _ - w ^ (b.length + 1) * _ = _
        rw [Int.pow_succ]
        grind) hl.1 hl.2
      rw [← ih (t := nx w q t) (b := b) (a := a) st.2 ha (fun x hx => hb x (List.mem_cons_of_mem _ hx)) haw]
      by_cases hn : n < b.length
      · rw [Rd.ltr_lt (by show n + 1 < b.length + 1; omega), Rd.ltr_lt hn]
        rfl
      · rw [Rd.ltr_ge (by show b.length + 1 ≤ n + 1; omega), Rd.ltr_ge (by omega)]
        show a[(n + 1 - (b.length + 1)) % a.length]? = _
        rw [Nat.add_sub_add_right]
    | nil =>
      cases a with
      | nil => exact absurd rfl ha
      | cons l a =>
        have hl := haw l List.mem_cons_self
        have st := step ok (k := (l :: a).length) (Nat.succ_pos _) h (l := l) (N' := - low w (a ++ [l])) (by
          rw [low_rot ok]
          show (0 : Int) * _ - w ^ 0 * (l + w * low w a) = l * (w ^ (a.length + 1) - 1) + w * _
          rw [Int.pow_succ, Int.pow_zero]
          grind) hl.1 hl.2
        have le : (a ++ [l]).length = (l :: a).length := by rw [List.length_append]; rfl
        rw [← ih (t := nx w q t) (b := []) (a := a ++ [l]) (by
          show nx w q t * (w ^ (a ++ [l]).length - 1) = q * (0 * _ - w ^ 0 * _)
          rw [le, st.2, Int.pow_zero]
          grind) (by simp) (fun x hx => absurd hx (by simp)) (fun x hx => by
          rcases List.mem_append.mp hx with hx | hx
          · exact haw x (List.mem_cons_of_mem _ hx)
          · rw [List.mem_singleton.mp hx]
            exact hl)]
        rw [Rd.ltr_ge (Nat.zero_le _), Rd.ltr_ge (Nat.zero_le _), le]
        show (l :: a)[(n + 1) % (a.length + 1)]? = (a ++ [l])[n % (a.length + 1)]?
        have hm : n % (a.length + 1) < a.length + 1 := Nat.mod_lt _ (Nat.succ_pos _)
        by_cases hc : n % (a.length + 1) = a.length
        · have : (n + 1) % (a.length + 1) = 0 := by rw [Nat.add_mod, hc]; by_cases h0 : a.length = 0 <;> simp [h0, Nat.mod_eq_of_lt]
          rw [this, hc, List.getElem?_append_right (Nat.le_refl _), Nat.sub_self]
          rfl
        · have : (n + 1) % (a.length + 1) = n % (a.length + 1) + 1 := by
            rw [Nat.add_mod]
            by_cases h0 : a.length = 0
            · rw [h0] at hm hc
              omega
            · rw [Nat.mod_eq_of_lt (a := 1) (by omega), Nat.mod_eq_of_lt (by omega)]
          rw [this, List.getElem?_append_left (by omega)]
          rfl
/-- letters that are the digits: the pair tells the number -/
theorem pt_of {t : Int} {b a : List Int} (ha : a ≠ []) (h : ∀ n, Rd.ltr b a n = some (ds w q t n)) : Pt w q t b a := by
  have hp : 0 < a.length := List.length_pos_iff.mpr ha
  have eb : dgs w q t b.length = b := by
    unfold dgs
    refine List.ext_getElem? fun i => ?_
    rw [List.getElem?_map]
    by_cases hi : i < b.length
    · rw [List.getElem?_range hi, ← Rd.ltr_lt (a := a) hi, h i]
      rfl
    · rw [List.getElem?_eq_none (by rw [List.length_range]; omega), List.getElem?_eq_none (by omega)]
      rfl
  have ea : dgs w q (tp w q t b.length) a.length = a := by
    unfold dgs
    refine List.ext_getElem? fun i => ?_
    rw [List.getElem?_map]
    by_cases hi : i < a.length
    · have := h (b.length + i)
      rw [Rd.ltr_ge (by omega), Nat.add_sub_cancel_left, Nat.mod_eq_of_lt hi, ds_add] at this
      rw [List.getElem?_range hi, this]
      rfl
    · rw [List.getElem?_eq_none (by rw [List.length_range]; omega), List.getElem?_eq_none (by omega)]
      rfl
  have er : tp w q (tp w q t b.length) a.length = tp w q t b.length := by
    rw [← tp_add]
    refine top_inj ok fun m => ?_
    rw [← ds_add, ← ds_add]
    refine Option.some.inj ?_
    rw [← h, ← h, Nat.add_right_comm, Rd.ltr_per (by omega)]
  have h1 := tp_low ok t b.length
  have h2 := tp_low ok (tp w q t b.length) a.length
  rw [eb] at h1
  rw [ea, er] at h2
  unfold Pt
  grind
/-- a top again: a pair -/
theorem pt_rep {t : Int} {i j : Nat} (hij : i < j) (h : tp w q t i = tp w q t j) : Pt w q t (dgs w q t i) (dgs w q (tp w q t i) (j - i)) := by
  have h1 := tp_low ok t i
  have h2 := tp_low ok (tp w q t i) (j - i)
  rw [← tp_add, Nat.add_sub_cancel' (by omega), ← h] at h2
  have l1 : (dgs w q t i).length = i := by unfold dgs; rw [List.length_map, List.length_range]
  have l2 : (dgs w q (tp w q t i) (j - i)).length = j - i := by unfold dgs; rw [List.length_map, List.length_range]
  unfold Pt
  rw [l1, l2]
  grind
/-- a pair: a top again -/
theorem rep_of {t : Int} {b a : List Int} (ha : a ≠ []) (hb : ∀ x ∈ b, 0 ≤ x ∧ x < w) (haw : ∀ x ∈ a, 0 ≤ x ∧ x < w) (h : Pt w q t b a) : tp w q t b.length = tp w q t (b.length + a.length) := by
  refine top_inj ok fun m => ?_
  rw [← ds_add, ← ds_add]
  refine Option.some.inj ?_
  rw [← pt_digits ok _ h ha hb haw, ← pt_digits ok _ h ha hb haw, Nat.add_right_comm, Rd.ltr_per (by omega)]
theorem dgs_in (t : Int) (n : Nat) : ∀ x ∈ dgs w q t n, 0 ≤ x ∧ x < w := by
  intro x hx
  unfold dgs at hx
  obtain ⟨i, _, rfl⟩ := List.mem_map.mp hx
  have := dg_is ok (tp w q t i)
  exact ⟨this.1, this.2.1⟩
theorem nx_small {t c : Int} (c0 : 0 ≤ c) (h1 : t ≤ q + c) (h2 : -(q + c) ≤ t) : nx w q t ≤ q + c / 2 ∧ -(q + c / 2) ≤ nx w q t := by
  have hd := dg_is ok t
  have hs := nx_spec ok t
  obtain ⟨d0, d1, _⟩ := hd
  have w2 := ok.w2
  have w5 := ok.w5
  have q1 := ok.q1
  have dq0 : 0 ≤ dg w q t * q := Int.mul_nonneg d0 (by omega)
  have dq1 : dg w q t * q ≤ (w - 1) * q := Int.mul_le_mul_of_nonneg_right (by omega) (by omega)
  generalize dg w q t = d at *
  generalize nx w q t = n at *
  have hw : w = 2 ∨ w = 3 ∨ w = 4 ∨ w = 5 := by omega
  rcases hw with rfl | rfl | rfl | rfl <;> constructor <;> omega
theorem tp_small {t : Int} : ∀ (m : Nat) {c : Int}, 0 ≤ c → t ≤ q + c → -(q + c) ≤ t → c < 2 ^ m → ∀ i, m ≤ i → tp w q t i ≤ q ∧ - q ≤ tp w q t i := by
  have nat : ∀ (i m : Nat) {t c : Int}, 0 ≤ c → t ≤ q + c → -(q + c) ≤ t → c < 2 ^ m → m ≤ i → tp w q t i ≤ q ∧ - q ≤ tp w q t i := by
    intro i
    induction i with
    | zero =>
      intro m t c c0 h1 h2 hc hm
      have : m = 0 := by omega
      subst this
      rw [Int.pow_zero] at hc
      show t ≤ q ∧ - q ≤ t
      omega
    | succ i ih =>
      intro m t c c0 h1 h2 hc hm
      have e : tp w q t (i + 1) = tp w q (nx w q t) i := by rw [Nat.add_comm, tp_add]; rfl
      rw [e]
      obtain ⟨n1, n2⟩ := nx_small ok c0 h1 h2
      cases m with
      | zero =>
        rw [Int.pow_zero] at hc
        exact ih 0 (c := c / 2) (by omega) n1 n2 (by rw [Int.pow_zero]; omega) (Nat.zero_le _)
      | succ m =>
        rw [Int.pow_succ] at hc
        exact ih m (c := c / 2) (by omega) n1 n2 (by omega) (by omega)
  intro m c c0 h1 h2 hc i hi
  exact nat i m c0 h1 h2 hc hi
end
theorem nodup_lt {n : Nat} : ∀ {l : List Nat}, l.Nodup → (∀ x ∈ l, x < n) → l.length ≤ n := by
  induction n with
  | zero =>
    intro l _ h
    cases l with
    | nil => exact Nat.le_refl _
    | cons a l => exact absurd (h a List.mem_cons_self) (Nat.not_lt_zero _)
  | succ n ih =>
    intro l hn h
    have h1 := ih (l := l.erase n) (hn.erase n) fun x hx => by
      have hx' := (List.Nodup.mem_erase_iff hn).mp hx
      have := h x hx'.2
      omega
    have h2 : l.length ≤ (l.erase n).length + 1 := by
      rw [List.length_erase]
      split <;> omega
    omega
theorem pigeon : ∀ (n : Nat) (f : Nat → Nat), (∀ i, i < n + 1 → f i < n) → ∃ i j, i < j ∧ j < n + 1 ∧ f i = f j := by
  intro n f h
  by_cases hx : ∃ i j, i < j ∧ j < n + 1 ∧ f i = f j
  · exact hx
  · exfalso
    have nd : ((List.range (n + 1)).map f).Nodup := by
      refine List.pairwise_map.mpr ?_
      refine List.Pairwise.imp_of_mem ?_ List.pairwise_lt_range
      intro a b ha hb hab e
      exact hx ⟨a, b, hab, List.mem_range.mp hb, e⟩
    have := nodup_lt nd fun x hx => by
      obtain ⟨i, hi, rfl⟩ := List.mem_map.mp hx
      exact h i (List.mem_range.mp hi)
    rw [List.length_map, List.length_range] at this
    omega
section
variable {w q : Int} (ok : Ok w q)
include ok
/-- each number of moderate size has a pair of moderate size -/
theorem pair_ex {t : Int} (h1 : t ≤ 2 ^ 41) (h2 : -(2 ^ 41) ≤ t) (hq : q ≤ 100) : ∃ b a : List Int, Pt w q t b a ∧ a ≠ [] ∧ (∀ x ∈ b, 0 ≤ x ∧ x < w) ∧ (∀ x ∈ a, 0 ≤ x ∧ x < w) ∧ b.length + a.length ≤ 300 := by
  have q1 := ok.q1
  have sm : ∀ i, 42 ≤ i → tp w q t i ≤ q ∧ - q ≤ tp w q t i := tp_small ok 42 (c := 2 ^ 41) (by decide) (by omega) (by omega) (by decide)
  obtain ⟨i, j, hij, hj, e⟩ := pigeon (2 * q + 1).toNat (fun i => (tp w q t (42 + i) + q).toNat) fun i _ => by
    have := sm (42 + i) (by omega)
    omega
  have a1 := sm (42 + i) (by omega)
  have a2 := sm (42 + j) (by omega)
  have e' : tp w q t (42 + i) = tp w q t (42 + j) := by
    have : (tp w q t (42 + i) + q).toNat = (tp w q t (42 + j) + q).toNat := e
    omega
  have l1 : (dgs w q t (42 + i)).length = 42 + i := by unfold dgs; rw [List.length_map, List.length_range]
  have l2 : (dgs w q (tp w q t (42 + i)) (42 + j - (42 + i))).length = 42 + j - (42 + i) := by unfold dgs; rw [List.length_map, List.length_range]
  refine ⟨_, _, pt_rep ok (by omega) e', fun z => ?_, dgs_in ok _ _, dgs_in ok _ _, by omega⟩
  rw [z] at l2
  have : ([] : List Int).length = 0 := rfl
  omega
end
end Nb
end Br

/-! Numbers as round words: bounds, the loop's facts, promises. No text of a law. -/
namespace Br
namespace Nb
section
variable {w q : Int} (ok : Ok w q)
include ok
theorem Ok.w8 : w.natAbs < 2 ^ 3 := by have := ok.w2; have := ok.w5; omega
omit ok in
theorem pow_bits (w2 : 2 ≤ w) (w5 : w ≤ 5) (n : Nat) : (w ^ n).natAbs < 2 ^ (3 * n + 1) ∧ 1 ≤ w ^ n := by
  induction n with
  | zero => rw [Int.pow_zero]; decide
  | succ n ih =>
    obtain ⟨i1, i2⟩ := ih
    rw [Int.pow_succ]
    have e : (w ^ n * w).natAbs = (w ^ n).natAbs * w.natAbs := Int.natAbs_mul _ _
    have h8 : w.natAbs ≤ 8 := by omega
    refine ⟨?_, ?_⟩
    · rw [e]
      have : (w ^ n).natAbs * w.natAbs ≤ (w ^ n).natAbs * 8 := Nat.mul_le_mul_left _ h8
      have e2 : 2 ^ (3 * (n + 1) + 1) = 2 ^ (3 * n + 1) * 8 := by rw [show 3 * (n + 1) + 1 = 3 * n + 1 + 3 by omega, Nat.pow_add]
      omega
    · have : w ^ n * 2 ≤ w ^ n * w := Int.mul_le_mul_of_nonneg_left w2 (by omega)
      omega
omit ok in
theorem low_bits (w2 : 2 ≤ w) (w5 : w ≤ 5) {ns : List Int} (h : ∀ x ∈ ns, 0 ≤ x ∧ x < w) : 0 ≤ low w ns ∧ low w ns < w ^ ns.length := by
  induction ns with
  | nil => exact ⟨Int.le_refl 0, by show (0 : Int) < w ^ 0; rw [Int.pow_zero]; decide⟩
  | cons l ns ih =>
    obtain ⟨i1, i2⟩ := ih fun x hx => h x (List.mem_cons_of_mem _ hx)
    obtain ⟨l0, l1⟩ := h l List.mem_cons_self
    show 0 ≤ l + w * low w ns ∧ l + w * low w ns < w ^ (ns.length + 1)
    have m0 : 0 ≤ w * low w ns := Int.mul_nonneg (by omega) i1
    have m1 : w * (low w ns + 1) ≤ w * w ^ ns.length := Int.mul_le_mul_of_nonneg_left (by omega) (by omega)
    rw [Int.pow_succ, Int.mul_comm (w ^ ns.length) w]
    rw [Int.mul_add, Int.mul_one] at m1
    omega
omit ok in
theorem low_abs (w2 : 2 ≤ w) (w5 : w ≤ 5) {ns : List Int} (h : ∀ x ∈ ns, 0 ≤ x ∧ x < w) : (low w ns).natAbs < 2 ^ (3 * ns.length + 1) := by
  obtain ⟨a, b⟩ := low_bits w2 w5 h
  obtain ⟨c, _⟩ := pow_bits w2 w5 ns.length
  omega
theorem nx_abs (t : Int) : (nx w q t).natAbs ≤ t.natAbs + q.natAbs := by
  have q1 := ok.q1
  obtain ⟨a, b⟩ := nx_small ok (t := t) (c := (t.natAbs : Int)) (by omega) (by omega) (by omega)
  have h2 := nx_spec ok t
  obtain ⟨d0, d1, _⟩ := dg_is ok t
  omega
theorem tp_abs (t : Int) (i : Nat) : (tp w q t i).natAbs ≤ t.natAbs + q.natAbs := by
  have q1 := ok.q1
  have : ∀ (i : Nat) (t c : Int), 0 ≤ c → t ≤ q + c → -(q + c) ≤ t → tp w q t i ≤ q + c ∧ -(q + c) ≤ tp w q t i := by
    intro i
    induction i with
    | zero => intro t c _ h1 h2; exact ⟨h1, h2⟩
    | succ i ih =>
      intro t c c0 h1 h2
      have e : tp w q t (i + 1) = tp w q (nx w q t) i := by rw [Nat.add_comm, tp_add]; rfl
      obtain ⟨n1, n2⟩ := nx_small ok c0 h1 h2
      rw [e]
      exact ih _ c c0 (by omega) (by omega)
  obtain ⟨a, b⟩ := this i t (t.natAbs : Int) (by omega) (by omega) (by omega)
  omega
end
/-- the tops ahead of a place -/
noncomputable def tps (w q t : Int) (n : Nat) : List Int := (List.range n).map (tp w q t)
theorem tps_len (w q t : Int) (n : Nat) : (tps w q t n).length = n := by unfold tps; rw [List.length_map, List.length_range]
theorem tps_get {w q t : Int} {n i : Nat} (h : i < n) : (tps w q t n)[i]? = some (tp w q t i) := by
  unfold tps
  rw [List.getElem?_map, List.getElem?_range h]
  rfl
theorem tps_succ (w q t : Int) (n : Nat) : tps w q t (n + 1) = tps w q t n ++ [tp w q t n] := by
  unfold tps
  rw [List.range_succ, List.map_append]
  rfl
theorem dgs_len (w q t : Int) (n : Nat) : (dgs w q t n).length = n := by unfold dgs; rw [List.length_map, List.length_range]
theorem dgs_succ (w q t : Int) (n : Nat) : dgs w q t (n + 1) = dgs w q t n ++ [ds w q t n] := by
  unfold dgs
  rw [List.range_succ, List.map_append]
  rfl
theorem dgs_take {w q t : Int} {f n : Nat} (h : f ≤ n) : (dgs w q t n).take f = dgs w q t f := by
  unfold dgs
  rw [← List.map_take, List.take_range, Nat.min_eq_left h]
theorem dgs_drop {w q t : Int} {f n : Nat} (h : f ≤ n) : (dgs w q t n).drop f = dgs w q (tp w q t f) (n - f) := by
  refine List.ext_getElem? fun i => ?_
  rw [List.getElem?_drop]
  unfold dgs
  rw [List.getElem?_map, List.getElem?_map]
  by_cases hi : i < n - f
  · rw [List.getElem?_range hi, List.getElem?_range (by omega)]
    show some (ds w q t (f + i)) = some (ds w q (tp w q t f) i)
    rw [ds_add]
  · rw [List.getElem?_eq_none (by rw [List.length_range]; omega), List.getElem?_eq_none (by rw [List.length_range]; omega)]
    rfl
/-- letters of a width -/
def In (w : Int) (ns : List Int) : Prop := ∀ x ∈ ns, 0 ≤ x ∧ x < w
section
variable {w q : Int} (ok : Ok w q)
include ok
theorem pt_least {t : Int} {b a b' a' : List Int} (h : Pt w q t b a) (h' : Pt w q t b' a') (ha : a ≠ []) (ha' : a' ≠ []) (i1 : In w b) (i2 : In w a) (i3 : In w b') (i4 : In w a') : Rd.least b a = Rd.least b' a' :=
  (Rd.least_iff ha ha').mpr fun n => by rw [pt_digits ok n h ha i1 i2, pt_digits ok n h' ha' i3 i4]
/-- the first top again is no later than the pair's end -/
theorem first_le {t : Int} {b a : List Int} (h : Pt w q t b a) (ha : a ≠ []) (i1 : In w b) (i2 : In w a) {n : Nat} (nd : (tps w q t n).Nodup) : n ≤ b.length + a.length := by
  have p := List.length_pos_iff.mpr ha
  have e := rep_of ok ha i1 i2 h
  by_cases hn : n ≤ b.length + a.length
  · exact hn
  · exfalso
    have h1 := tps_get (w := w) (q := q) (t := t) (n := n) (i := b.length) (by omega)
    have h2 := tps_get (w := w) (q := q) (t := t) (n := n) (i := b.length + a.length) (by omega)
    rw [← e] at h2
    have g1 := (List.getElem?_eq_some_iff.mp h1)
    have g2 := (List.getElem?_eq_some_iff.mp h2)
    obtain ⟨x1, y1⟩ := g1
    obtain ⟨x2, y2⟩ := g2
    have := (List.getElem_inj nd).mp (y1.trans y2.symm)
    omega
/-- what the loop finds -/
theorem found_least {t : Int} {b a : List Int} (h : Pt w q t b a) (ha : a ≠ []) (i1 : In w b) (i2 : In w a) {f n : Nat} (hf : f < n) (e : tp w q t f = tp w q t n) :
    Rd.least ((dgs w q t n).take f) ((dgs w q t n).drop f) = Rd.least b a ∧ (dgs w q t n).drop f ≠ [] := by
  have hn : (dgs w q t n).drop f ≠ [] := fun z => by
    have := congrArg List.length z
    rw [List.length_drop, dgs_len] at this
    have e0 : ([] : List Int).length = 0 := rfl
    omega
  refine ⟨?_, hn⟩
  have hp := pt_rep ok hf e
  rw [dgs_drop (by omega)] at hn ⊢
  rw [dgs_take (by omega)]
  exact pt_least ok hp h hn ha (dgs_in ok _ _) (dgs_in ok _ _) i1 i2
theorem least_pt {t : Int} {b a : List Int} (h : Pt w q t b a) (ha : a ≠ []) (i1 : In w b) (i2 : In w a) : Pt w q t (Rd.least b a).1 (Rd.least b a).2 :=
  pt_of ok (Rd.least_len ha).1 fun n => by rw [Rd.ltr_least ha, pt_digits ok n h ha i1 i2]
theorem least_in {t : Int} {b a : List Int} (h : Pt w q t b a) (ha : a ≠ []) (i1 : In w b) (i2 : In w a) : In w (Rd.least b a).1 ∧ In w (Rd.least b a).2 := by
  have l := fun n => (Rd.ltr_least (b := b) ha n).trans (pt_digits ok n h ha i1 i2)
  have dd := fun n => dg_is ok (tp w q t n)
  constructor
  · intro x hx
    obtain ⟨i, hi⟩ := List.getElem?_of_mem hx
    have := (List.getElem?_eq_some_iff.mp hi).1
    have z := l i
    rw [Rd.ltr_lt this, hi] at z
    rw [Option.some.inj z]
    exact ⟨(dd i).1, (dd i).2.1⟩
  · intro x hx
    obtain ⟨i, hi⟩ := List.getElem?_of_mem hx
    have := (List.getElem?_eq_some_iff.mp hi).1
    have z := l ((Rd.least b a).1.length + i)
    rw [Rd.ltr_ge (by omega), Nat.add_sub_cancel_left, Nat.mod_eq_of_lt this, hi] at z
    rw [Option.some.inj z]
    exact ⟨(dd _).1, (dd _).2.1⟩
theorem first_low {t : Int} {b a : List Int} (h : Pt w q t b a) (ha : a ≠ []) (i1 : In w b) (i2 : In w a) (n : Nat) : (q * low w (firstL b a n) - t) % w ^ n = 0 := by
  have e : firstL b a n = dgs w q t n := by
    unfold firstL dgs
    refine List.map_congr_left fun i _ => ?_
    rw [pt_digits ok i h ha i1 i2]
    rfl
  have := tp_low ok t n
  rw [e]
  have z : q * low w (dgs w q t n) - t = w ^ n * (- tp w q t n) := by grind
  rw [z]
  exact Int.mul_emod_right _ _
end
section
variable {w q : Int} (ok : Ok w q)
include ok
/-- digits that are at last one digit: the ring is that digit -/
theorem const_ring {t c : Int} {b a : List Int} (h : Pt w q t b a) (ha : a ≠ []) (i1 : In w b) (i2 : In w a) {M : Nat} (hc : ∀ n, M ≤ n → ds w q t n = c) : (Rd.least b a).2 = [c] := by
  have hl : ∀ n, Rd.ltr (dgs w q t M) [c] n = some (ds w q t n) := fun n => by
    by_cases hn : n < M
    · rw [Rd.ltr_lt (by rw [dgs_len]; exact hn)]
      unfold dgs
      rw [List.getElem?_map, List.getElem?_range hn]
      rfl
    · rw [Rd.ltr_ge (by rw [dgs_len]; omega), hc n (by omega)]
      show [c][_ % 1]? = _
      rw [Nat.mod_one]
      rfl
  have e : Rd.least b a = Rd.least (dgs w q t M) [c] := (Rd.least_iff ha (by simp)).mpr fun n => by rw [pt_digits ok n h ha i1 i2, hl]
  rw [e]
  obtain ⟨l1, l2, l3⟩ := Rd.least_len (b := dgs w q t M) (a := [c]) (by simp)
  have l2' : (Rd.least (dgs w q t M) [c]).2.length ≤ 1 := l2
  have z := Rd.ltr_least (b := dgs w q t M) (a := [c]) (by simp) (M + (Rd.least (dgs w q t M) [c]).1.length)
  rw [hl, hc _ (by omega)] at z
  generalize Rd.least (dgs w q t M) [c] = r at *
  obtain ⟨r1, r2⟩ := r
  match r2, l1, l2', z with
  | [], l1, _, _ => exact absurd rfl l1
  | [x], _, _, z =>
    have z0 : Rd.ltr r1 [x] (M + r1.length) = some c := z
    rw [Rd.ltr_ge (by omega)] at z0
    have z' : [x][(M + r1.length - r1.length) % 1]? = some c := z0
    rw [Nat.mod_one] at z'
    have : x = c := Option.some.inj z'
    rw [this]
  | x :: y :: l, _, l2', _ => exact absurd (show l.length + 2 ≤ 1 from l2') (by omega)
end
theorem ok_one {w : Int} (w2 : 2 ≤ w) (w5 : w ≤ 5) : Ok w 1 := ⟨w2, w5, Int.le_refl 1, by simp⟩
theorem whole_ring {w t : Int} (w2 : 2 ≤ w) (w5 : w ≤ 5) (h0 : 0 ≤ t) (h1 : t ≤ 2 ^ 41) {b a : List Int} (h : Pt w 1 t b a) (ha : a ≠ []) (i1 : In w b) (i2 : In w a) : (Rd.least b a).2 = [0] := by
  have ok := ok_one w2 w5
  have nn : ∀ t : Int, 0 ≤ t → 0 ≤ nx w 1 t := fun t h => by
    have hs := nx_spec ok t
    obtain ⟨d0, d1, d2⟩ := dg_is ok t
    by_cases hn : 0 ≤ nx w 1 t
    · exact hn
    · exfalso
      have : w * nx w 1 t ≤ w * (-1) := Int.mul_le_mul_of_nonneg_left (by omega) (by omega)
      omega
  have pos : ∀ i, 0 ≤ tp w 1 t i := fun i => by
    induction i with
    | zero => exact h0
    | succ i ih => exact nn _ ih
  have sm := tp_small ok 42 (c := 2 ^ 41) (t := t) (by decide) (by omega) (by omega) (by decide)
  have n1 : nx w 1 1 = 0 := by
    have : dg w 1 1 = 1 := dg_eq ok ⟨by omega, by omega, by simp⟩
    have hs := nx_spec ok 1
    rw [this] at hs
    have : w * nx w 1 1 = 0 := by omega
    exact (Int.mul_eq_zero.mp this).resolve_left (by omega)
  have d00 : dg w 1 0 = 0 := dg_eq ok ⟨by omega, by omega, by simp⟩
  have n0 : nx w 1 0 = 0 := by
    have hs := nx_spec ok 0
    rw [d00] at hs
    have : w * nx w 1 0 = 0 := by omega
    exact (Int.mul_eq_zero.mp this).resolve_left (by omega)
  have z : ∀ i, 43 ≤ i → tp w 1 t i = 0 := fun i hi => by
    obtain ⟨j, rfl⟩ : ∃ j, i = j + 1 := ⟨i - 1, by omega⟩
    have a1 := sm j (by omega)
    have a2 := pos j
    have : tp w 1 t j = 0 ∨ tp w 1 t j = 1 := by omega
    show nx w 1 (tp w 1 t j) = 0
    rcases this with e | e
    · rw [e]; exact n0
    · rw [e]; exact n1
  exact const_ring ok h ha i1 i2 (M := 43) fun n hn => by
    unfold ds
    rw [z n hn]
    exact d00
theorem below_ring {w t : Int} (w2 : 2 ≤ w) (w5 : w ≤ 5) (h0 : t ≤ -1) (h1 : -(2 ^ 41) ≤ t) {b a : List Int} (h : Pt w 1 t b a) (ha : a ≠ []) (i1 : In w b) (i2 : In w a) : (Rd.least b a).2 = [w - 1] := by
  have ok := ok_one w2 w5
  have nn : ∀ t : Int, t ≤ -1 → nx w 1 t ≤ -1 := fun t h => by
    have hs := nx_spec ok t
    obtain ⟨d0, d1, d2⟩ := dg_is ok t
    by_cases hn : nx w 1 t ≤ -1
    · exact hn
    · exfalso
      have : 0 ≤ w * nx w 1 t := Int.mul_nonneg (by omega) (by omega)
      omega
  have neg : ∀ i, tp w 1 t i ≤ -1 := fun i => by
    induction i with
    | zero => exact h0
    | succ i ih => exact nn _ ih
  have sm := tp_small ok 42 (c := 2 ^ 41) (t := t) (by decide) (by omega) (by omega) (by decide)
  have d1 : dg w 1 (-1) = w - 1 := dg_eq ok ⟨by omega, by omega, by
    have : (-1 : Int) - (w - 1) * 1 = w * (-1) := by omega
    rw [this]
    exact Int.mul_emod_right _ _⟩
  exact const_ring ok h ha i1 i2 (M := 42) fun n hn => by
    unfold ds
    have a1 := sm n hn
    have a2 := neg n
    have : tp w 1 t n = -1 := by omega
    rw [this]
    exact d1
/-- a fraction's lowest terms -/
theorem frac {top bottom : Int} (h : bottom ≠ 0) : ∃ c t q : Int, top = c * t ∧ bottom = c * q ∧ Int.gcd t q = 1 ∧ 1 ≤ q ∧ c ≠ 0 ∧ c.natAbs = Int.gcd top bottom := by
  have gp : 0 < Int.gcd top bottom := Int.gcd_pos_of_ne_zero_right _ h
  have d1 := Int.gcd_dvd_left top bottom
  have d2 := Int.gcd_dvd_right top bottom
  have hg := Int.gcd_ediv_gcd_ediv_gcd (i := top) (j := bottom) gp
  have e1 : ((Int.gcd top bottom : Nat) : Int) * (top / (Int.gcd top bottom : Nat)) = top := Int.mul_ediv_cancel' d1
  have e2 : ((Int.gcd top bottom : Nat) : Int) * (bottom / (Int.gcd top bottom : Nat)) = bottom := Int.mul_ediv_cancel' d2
  by_cases hb : 0 < bottom
  · refine ⟨_, _, _, e1.symm, e2.symm, hg, ?_, by omega, Int.natAbs_natCast _⟩
    by_cases hq : 1 ≤ bottom / (Int.gcd top bottom : Nat)
    · exact hq
    · exfalso
      have : ((Int.gcd top bottom : Nat) : Int) * (bottom / (Int.gcd top bottom : Nat)) ≤ ((Int.gcd top bottom : Nat) : Int) * 0 := Int.mul_le_mul_of_nonneg_left (by omega) (by omega)
      omega
  · refine ⟨-((Int.gcd top bottom : Nat) : Int), -(top / (Int.gcd top bottom : Nat)), -(bottom / (Int.gcd top bottom : Nat)), by rw [Int.neg_mul_neg, e1], by rw [Int.neg_mul_neg, e2], by rw [Int.neg_gcd, Int.gcd_neg]; exact hg, ?_, by omega, by rw [Int.natAbs_neg, Int.natAbs_natCast]⟩
    by_cases hq : bottom / (Int.gcd top bottom : Nat) ≤ -1
    · omega
    · exfalso
      have : ((Int.gcd top bottom : Nat) : Int) * 0 ≤ ((Int.gcd top bottom : Nat) : Int) * (bottom / (Int.gcd top bottom : Nat)) := Int.mul_le_mul_of_nonneg_left (by omega) (by omega)
      omega
/-- the pair's own fraction -/
theorem pt_frac {w t q c : Int} {b a : List Int} (h1 : low w b * (w ^ a.length - 1) - w ^ b.length * low w a = c * t) (h2 : w ^ a.length - 1 = c * q) : Pt w q t b a := by
  unfold Pt
  rw [h1]
  rw [h2]
  grind
theorem ok_frac {w q c : Int} {k : Nat} (w2 : 2 ≤ w) (w5 : w ≤ 5) (q1 : 1 ≤ q) (hk : 0 < k) (h : w ^ k - 1 = c * q) : Ok w q := by
  refine ⟨w2, w5, q1, ?_⟩
  obtain ⟨j, rfl⟩ : ∃ j, k = j + 1 := ⟨k - 1, by omega⟩
  rw [Int.gcd_eq_one_iff]
  intro d d1 d2
  obtain ⟨x, hx⟩ := d1
  obtain ⟨y, hy⟩ := d2
  refine ⟨x * w ^ j - c * y, ?_⟩
  rw [Int.pow_succ] at h
  rw [hy] at h
  grind
/-- the pair's number by the program's own terms -/
theorem number_frac {w q t : Int} {b a : List Int} (w2 : 2 ≤ w) (ha : a ≠ []) (h : Pt w q t b a) (hg : Int.gcd t q = 1) (q1 : 1 ≤ q) : ∃ c : Int, low w b * (1 - w ^ a.length) + w ^ b.length * low w a = c * t ∧ 1 - w ^ a.length = c * q := by
  unfold Pt at h
  have hd : q ∣ w ^ a.length - 1 := by
    have : q ∣ t * (w ^ a.length - 1) := ⟨_, h⟩
    have h2 : Int.gcd q t = 1 := by rw [Int.gcd_comm]; exact hg
    have := (Int.dvd_gcd_mul_iff_dvd_mul (k := q) (n := t) (m := w ^ a.length - 1)).mpr this
    rw [h2] at this
    simpa using this
  obtain ⟨c, hc⟩ := hd
  refine ⟨-c, ?_, by rw [Int.neg_mul, Int.mul_comm c q, ← hc]; omega⟩
  rw [hc] at h
  have : q * (t * c) = q * (low w b * (w ^ a.length - 1) - w ^ b.length * low w a) := by rw [hc, ← h]; grind
  have := Int.eq_of_mul_eq_mul_left (by omega) this
  grind

end Nb
end Br
namespace Br
open PySem PySem.Spec PyProof.Rows L2 RZ Nb
/-- // by any number but 0 -/
def CDivX (_ j : Int) : Prop := j ≠ 0 ∧ j.natAbs.log2 < 9000
theorem op_fdivX {X : Cx} : OpR X (binaryOp .FloorDiv) (L2.rI CDivX fun i j => .int (i.fdiv j)) := opI fun i j _ _ _ _ _ hc q => floordiv_int hc.1 q (.inl (PyProof.noPylong_of_log2 hc.2))
def kI (i : Int) : Key := .inl i
theorem kI_inj (x y : Int) (h : kI x = kI y) : x = y := by
  injection h
def vi (ns : List Int) : List V := ns.map V.int
theorem vi_len (ns : List Int) : (vi ns).length = ns.length := List.length_map _
theorem vi_get {ns : List Int} {i : Nat} {x : Int} (h : ns[i]? = some x) : (vi ns)[i]? = some (.int x) := by
  unfold vi
  rw [List.getElem?_map, h]
  rfl
theorem vi_snoc (ns : List Int) (x : Int) : vi (ns ++ [x]) = vi ns ++ [.int x] := by
  unfold vi
  rw [List.map_append]
  rfl
theorem fil_succ (p : Int → Bool) (i : Nat) : ((List.range (i + 1)).map Int.ofNat).filter p = if p (i : Int) = true then ((List.range i).map Int.ofNat).filter p ++ [(i : Int)] else ((List.range i).map Int.ofNat).filter p := by
  rw [List.range_succ, List.map_append, List.filter_append]
  show _ ++ List.filter p [(i : Int)] = _
  cases h : p (i : Int) <;> simp [List.filter, h]
theorem fil_len (p : Int → Bool) (i : Nat) : (((List.range i).map Int.ofNat).filter p).length ≤ i := by
  have := List.length_filter_le p ((List.range i).map Int.ofNat)
  rw [List.length_map, List.length_range] at this
  exact this
theorem abs_if (x : Int) : (if x < 0 then -x else x) = ((x.natAbs : Nat) : Int) := by split <;> omega
theorem log_of {c : Int} {n : Nat} (h : c.natAbs < 2 ^ n) (hn : 0 < n) : c.natAbs.log2 < n := PySem.Flt.log2_lt_of hn h
theorem flat_vi : ∀ ns : List Int, (vi ns).all flatV = true := by
  intro ns
  induction ns with
  | nil => rfl
  | cons n ns ih =>
    show (flatV (V.int n) && (vi ns).all flatV) = true
    rw [ih]
    rfl
theorem inV_vi (y : Int) : ∀ ns : List Int, inV (.int y) (vi ns) = decide (y ∈ ns) := by
  intro ns
  induction ns with
  | nil => rfl
  | cons n ns ih =>
    have e : inV (.int y) (vi (n :: ns)) = ((n == y) || inV (.int y) (vi ns)) := rfl
    rw [e, ih]
    by_cases h : n = y
    · subst h
      simp
    · have h' : ¬ y = n := fun z => h z.symm
      simp [h, h']
/-- the digit by the bottom's inverse -/
theorem back_dg {w q : Int} (ok : Ok w q) {x : Int} (hx : (x * q) % w = 1) (t : Int) : (t * x) % w = dg w q t := by
  have wp := ok.pos
  refine (dg_eq ok ⟨Int.emod_nonneg _ (by omega), Int.emod_lt_of_pos _ wp, ?_⟩).symm
  have h1 := Int.emod_add_mul_ediv (t * x) w
  have h2 := Int.emod_add_mul_ediv (x * q) w
  rw [hx] at h2
  have : t - (t * x) % w * q = w * ((t * x) / w * q - t * (x * q / w)) := by grind
  rw [this]
  exact Int.mul_emod_right _ _
theorem back_ex {w q : Int} (ok : Ok w q) : ∃ x l, ((List.range w.toNat).map Int.ofNat).filter (fun d => decide ((d * q) % w = 1)) = x :: l ∧ (x * q) % w = 1 ∧ 0 ≤ x ∧ x < w := by
  have w2 := ok.w2
  obtain ⟨d, ⟨d0, d1, d2⟩, _⟩ := dg_ex ok 1
  have hd : (d * q) % w = 1 := by
    have h1 := Int.emod_add_mul_ediv (1 - d * q) w
    rw [d2] at h1
    have e : d * q = 1 + w * (-((1 - d * q) / w)) := by grind
    rw [e, Int.add_mul_emod_self_left]
    exact Int.emod_eq_of_lt (by omega) (by omega)
  have hm : d ∈ ((List.range w.toNat).map Int.ofNat).filter (fun d => decide ((d * q) % w = 1)) := by
    rw [List.mem_filter, decide_eq_true_eq, List.mem_map]
    exact ⟨⟨d.toNat, List.mem_range.mpr (by omega), Int.toNat_of_nonneg d0⟩, hd⟩
  cases e : ((List.range w.toNat).map Int.ofNat).filter (fun d => decide ((d * q) % w = 1)) with
  | nil => rw [e] at hm; cases hm
  | cons x l =>
    have hx : x ∈ ((List.range w.toNat).map Int.ofNat).filter (fun d => decide ((d * q) % w = 1)) := by rw [e]; exact List.mem_cons_self
    rw [List.mem_filter, decide_eq_true_eq, List.mem_map] at hx
    obtain ⟨⟨n, hn, rfl⟩, h2⟩ := hx
    rw [List.mem_range] at hn
    exact ⟨_, _, rfl, h2, Int.natCast_nonneg n, by show (n : Int) < w; omega⟩
/-- within a few steps there is no common divisor -/
theorem cop_one {f w : Int} (h : f % w = 1) : Int.gcd f w = 1 := by
  have h1 := Int.emod_add_mul_ediv f w
  rw [h] at h1
  rw [← h1, Int.gcd_comm, Int.gcd_add_mul_left_right]
  simp
theorem rev_at {ns : List Int} {i : Nat} {x : V} (h : ((vi ns).reverse)[i]? = some x) : ∃ z, x = .int z ∧ ns.drop (ns.length - (i + 1)) = z :: ns.drop (ns.length - i) ∧ i < ns.length := by
  have hi : i < ns.length := by
    have := (List.getElem?_eq_some_iff.mp h).1
    rw [List.length_reverse, vi_len] at this
    exact this
  rw [List.getElem?_reverse (by rw [vi_len]; exact hi), vi_len] at h
  have hy : ns[ns.length - 1 - i]? = some ns[ns.length - 1 - i] := List.getElem?_eq_getElem (by omega)
  rw [vi_get hy] at h
  cases h
  refine ⟨_, rfl, ?_, hi⟩
  have e : ns.length - i = ns.length - (i + 1) + 1 := by omega
  rw [e, ← List.getElem_cons_drop (by omega)]
  congr 2
  omega
theorem first_in {w : Int} {b a : List Int} (ha : a ≠ []) (i1 : In w b) (i2 : In w a) (n : Nat) : In w (firstL b a n) := by
  intro x hx
  unfold firstL at hx
  obtain ⟨i, _, rfl⟩ := List.mem_map.mp hx
  obtain ⟨y, hy⟩ := Rd.ltr_some (b := b) ha i
  rw [hy]
  show 0 ≤ y ∧ y < w
  by_cases hi : i < b.length
  · rw [Rd.ltr_lt hi] at hy
    exact i1 y (List.mem_of_getElem? hy)
  · rw [Rd.ltr_ge (by omega)] at hy
    exact i2 y (List.mem_of_getElem? hy)
theorem firstL_len (b a : List Int) (n : Nat) : (firstL b a n).length = n := by unfold firstL; rw [List.length_map, List.length_range]
theorem low_cons (w z : Int) (ns : List Int) : low w (z :: ns) = low w ns * w + z := by
  show z + w * low w ns = _
  rw [Int.mul_comm w, Int.add_comm]
section
variable (K : PySem.W.Frag)
def sp_common_of : Sp := fun vs H Q _ => ∃ a b : Int, vs = [.int a, .int b] ∧ Q (.int ((Int.gcd a b : Nat) : Int)) H
def sp_lowest : Sp := fun vs H Q _ => ∃ c t q : Int, vs = [.int (c * t), .int (c * q)] ∧ Int.gcd t q = 1 ∧ 1 ≤ q ∧ c ≠ 0 ∧ c.natAbs < 2 ^ 8000 ∧ ∀ p H', Same H H' → SqT K H' p [.int t, .int q] → Q (.ref p) H'
/-- a number's tuple -/
structure NumT (H : Hp) (p : Addr) (w t q : Int) : Prop where
  at_ : SqT K H p [.int t, .int q]
  ok : Ok w q
  cop : Int.gcd t q = 1
  ts : t.natAbs < 2 ^ 600
  qs : q.natAbs < 2 ^ 600
theorem NumT.same {K : PySem.W.Frag} {H H' : Hp} {p : Addr} {w t q : Int} (s : Same H H') (h : NumT K H p w t q) : NumT K H' p w t q := ⟨same_tup s h.at_, h.ok, h.cop, h.ts, h.qs⟩
def sp_is_number : Sp := fun vs H Q _ => ∃ (w t q : Int) (p : Addr), vs = [.int w, .ref p] ∧ NumT K H p w t q ∧ Q (.bl true) H
def sp_require_number : Sp := fun vs H Q _ => ∃ (w t q : Int) (p : Addr), vs = [.int w, .ref p] ∧ NumT K H p w t q ∧ Q .non H
def sp_digit_of : Sp := fun vs H Q _ => ∃ w t q : Int, vs = [.int w, .int t, .int q] ∧ Ok w q ∧ q.natAbs < 2 ^ 700 ∧ ∀ H', Same H H' → Q (.int (dg w q t)) H'
/-- a pair that tells a number -/
structure PairOf (w t q : Int) (b a : List Int) : Prop where
  pt : Pt w q t b a
  ne : a ≠ []
  ib : In w b
  ia : In w a
  few : b.length + a.length ≤ 900
def sp_nb_word_in : Sp := fun vs H Q _ => ∃ (w t q : Int) (p : Addr) (b a : List Int), vs = [.int w, .ref p] ∧ NumT K H p w t q ∧ PairOf w t q b a ∧ ∀ v' H', Same H H' → PairT K H' v' (Rd.least b a).1 (Rd.least b a).2 → Q v' H'
def sp_low_in : Sp := fun vs H Q _ => ∃ (w : Int) (p : Addr) (ns : List Int), vs = [.int w, .ref p] ∧ SqT K H p (vi ns) ∧ 2 ≤ w ∧ w ≤ 5 ∧ In w ns ∧ ns.length ≤ 900 ∧ ∀ H', Same H H' → Q (.int (low w ns)) H'
def sp_number_in : Sp := fun vs H Q _ => ∃ (w t q : Int) (v : V) (b a : List Int), vs = [.int w, v] ∧ PairT K H v b a ∧ Ok w q ∧ Int.gcd t q = 1 ∧ PairOf w t q b a ∧ ∀ p H', Same H H' → SqT K H' p [.int t, .int q] → Q (.ref p) H'
def sp_number_word : Sp := sp_nb_word_in K
def sp_word_number : Sp := sp_number_in K
def sp_law_nb_word : Sp := fun vs H Q _ => ∃ (w t q : Int) (b a : List Int), vs = [.int w, .int t, .int q] ∧ Ok w q ∧ t.natAbs < 2 ^ 600 ∧ q.natAbs < 2 ^ 600 ∧ PairOf w t q b a ∧ ∀ v' H', Same H H' → PairT K H' v' (Rd.least b a).1 (Rd.least b a).2 → Q v' H'
def sp_law_nb_number : Sp := fun vs H Q _ => ∃ (w : Int) (v : V) (b a : List Int), vs = [.int w, v] ∧ PairT K H v b a ∧ 2 ≤ w ∧ w ≤ 5 ∧ a ≠ [] ∧ In w b ∧ In w a ∧ b.length + a.length ≤ 100 ∧ ∀ (t q : Int) p H', Same H H' → NumT K H' p w t q → PairOf w t q b a → Q (.ref p) H'
def sp_law_nb_coprime : Sp := fun vs H Q _ => ∃ (d : Addr) (w : Int) (m n : Nat), vs = [.ref d, .int w, .int m] ∧ Dice H d n ∧ n < 2 ^ 59 ∧ m ≤ 1000 ∧ 2 ≤ w ∧ w ≤ 5 ∧ ∀ (f : Int) H', Kd d H H' → Dice H' d (n + 1) → Int.gcd f w = 1 → f.natAbs ≤ m + 5 → Q (.int f) H'
def sp_law_first : Sp := fun vs H Q _ => ∃ (w : Int) (v : V) (b a : List Int) (n : Nat), vs = [.int w, v, .int n] ∧ PairT K H v b a ∧ 2 ≤ w ∧ w ≤ 5 ∧ a ≠ [] ∧ In w b ∧ In w a ∧ b.length ≤ 1000 ∧ a.length ≤ 1000 ∧ n ≤ 900 ∧ ∀ H', Same H H' → Q (.int (low w (firstL b a n))) H'
def sp_law29_right : Sp := fun vs H Q _ => ∃ (d : Addr) (n : Nat), vs = [.ref d] ∧ Dice H d n ∧ n < 2 ^ 57 ∧ ∀ H', Kd d H H' → Dice H' d (n + 1000) → Q (.bl true) H'
end
end Br

namespace Br
open PySem PySem.Spec PyProof.Rows L2 SlX RZ Mm Nb
local macro_rules | `(tactic| walk_at "up") => `(tactic| first | assumption | exact sT (by assumption) | exact sL (by assumption) | (with_reducible refine same_tup (by assumption) ?_; walk_at "up") | (with_reducible refine Kd.tup (by assumption) ?_; walk_at "up") | (with_reducible refine same_lst (by assumption) ?_; walk_at "up") | (with_reducible refine same_at (by assumption) ?_; walk_at "up"))
local macro_rules | `(tactic| walk_at "sm") => `(tactic| first | exact Same.refl _ | assumption | (refine Same.trans ?_ (by assumption); walk_at "sm"))
local macro_rules | `(tactic| walk_at "kd") => `(tactic| first | exact Kd.refl | assumption | exact Kd.same (by assumption) | (with_reducible refine Kd.trans ?_ (by assumption); walk_at "kd") | (with_reducible refine Kd.trans ?_ (Kd.same (by assumption)); walk_at "kd"))
def topS (i : Nat) : Stmt := PySem.Challenge.pw_branchturns_k29_whole_numbers_as_round_w.main.body.getD i (.Pass ⟨0, 0, 0, 0⟩)
abbrev s_power_of : Stmt := topS 7
theorem sc_power_of : FnScope ["number", "many", "found", "_"] ["number", "many"] (defScope s_power_of) := ⟨rfl, rfl, rfl, by decide +kernel, rfl, by decide +kernel, by decide +kernel⟩
abbrev s_is_integer : Stmt := topS 10
theorem sc_is_integer : FnScope ["value"] ["value"] (defScope s_is_integer) := ⟨rfl, rfl, rfl, by decide +kernel, rfl, by decide +kernel, by decide +kernel⟩
abbrev s_is_within : Stmt := topS 11
theorem sc_is_within : FnScope ["value", "low", "high"] ["value", "low", "high"] (defScope s_is_within) := ⟨rfl, rfl, rfl, by decide +kernel, rfl, by decide +kernel, by decide +kernel⟩
abbrev s_is_width : Stmt := topS 12
theorem sc_is_width : FnScope ["value"] ["value"] (defScope s_is_width) := ⟨rfl, rfl, rfl, by decide +kernel, rfl, by decide +kernel, by decide +kernel⟩
abbrev s_require_width : Stmt := topS 13
theorem sc_require_width : FnScope ["value"] ["value"] (defScope s_require_width) := ⟨rfl, rfl, rfl, by decide +kernel, rfl, by decide +kernel, by decide +kernel⟩
abbrev s_is_letter : Stmt := topS 14
theorem sc_is_letter : FnScope ["width", "value"] ["width", "value"] (defScope s_is_letter) := ⟨rfl, rfl, rfl, by decide +kernel, rfl, by decide +kernel, by decide +kernel⟩
abbrev s_is_word_in : Stmt := topS 15
theorem sc_is_word_in : FnScope ["width", "value", "most", "letter"] ["width", "value", "most"] (defScope s_is_word_in) := ⟨rfl, rfl, rfl, by decide +kernel, rfl, by decide +kernel, by decide +kernel⟩
abbrev s_is_round_in : Stmt := topS 17
theorem sc_is_round_in : FnScope ["width", "value", "most", "word"] ["width", "value", "most"] (defScope s_is_round_in) := ⟨rfl, rfl, rfl, by decide +kernel, rfl, by decide +kernel, by decide +kernel⟩
abbrev s_require_round : Stmt := topS 18
theorem sc_require_round : FnScope ["width", "value"] ["width", "value"] (defScope s_require_round) := ⟨rfl, rfl, rfl, by decide +kernel, rfl, by decide +kernel, by decide +kernel⟩
abbrev s_least_round_in : Stmt := topS 19
theorem sc_least_round_in : FnScope ["word", "before", "around", "size"] ["word"] (defScope s_least_round_in) := ⟨rfl, rfl, rfl, by decide +kernel, rfl, by decide +kernel, by decide +kernel⟩
abbrev s_common_of : Stmt := topS 23
theorem sc_common_of : FnScope ["one", "other"] ["one", "other"] (defScope s_common_of) := ⟨rfl, rfl, rfl, by decide +kernel, rfl, by decide +kernel, by decide +kernel⟩
abbrev s_lowest : Stmt := topS 24
theorem sc_lowest : FnScope ["top", "bottom", "share"] ["top", "bottom"] (defScope s_lowest) := ⟨rfl, rfl, rfl, by decide +kernel, rfl, by decide +kernel, by decide +kernel⟩
abbrev s_is_number : Stmt := topS 25
theorem sc_is_number : FnScope ["width", "value"] ["width", "value"] (defScope s_is_number) := ⟨rfl, rfl, rfl, by decide +kernel, rfl, by decide +kernel, by decide +kernel⟩
abbrev s_digit_of : Stmt := topS 26
theorem sc_digit_of : FnScope ["width", "total", "over", "digit"] ["width", "total", "over"] (defScope s_digit_of) := ⟨rfl, rfl, rfl, by decide +kernel, rfl, by decide +kernel, by decide +kernel⟩
abbrev s_word_in : Stmt := topS 27
theorem sc_word_in : FnScope ["width", "number", "top", "bottom", "found", "seen", "digit", "first", "told"] ["width", "number"] (defScope s_word_in) := ⟨rfl, rfl, rfl, by decide +kernel, rfl, by decide +kernel, by decide +kernel⟩
abbrev s_low_in : Stmt := topS 28
theorem sc_low_in : FnScope ["width", "word", "found", "letter"] ["width", "word"] (defScope s_low_in) := ⟨rfl, rfl, rfl, by decide +kernel, rfl, by decide +kernel, by decide +kernel⟩
abbrev s_number_in : Stmt := topS 29
theorem sc_number_in : FnScope ["width", "word", "before", "around", "bottom", "top"] ["width", "word"] (defScope s_number_in) := ⟨rfl, rfl, rfl, by decide +kernel, rfl, by decide +kernel, by decide +kernel⟩
abbrev s_require_number : Stmt := topS 30
theorem sc_require_number : FnScope ["width", "value"] ["width", "value"] (defScope s_require_number) := ⟨rfl, rfl, rfl, by decide +kernel, rfl, by decide +kernel, by decide +kernel⟩
abbrev s_number_word : Stmt := topS 31
theorem sc_number_word : FnScope ["width", "number"] ["width", "number"] (defScope s_number_word) := ⟨rfl, rfl, rfl, by decide +kernel, rfl, by decide +kernel, by decide +kernel⟩
abbrev s_word_number : Stmt := topS 32
theorem sc_word_number : FnScope ["width", "word"] ["width", "word"] (defScope s_word_number) := ⟨rfl, rfl, rfl, by decide +kernel, rfl, by decide +kernel, by decide +kernel⟩
abbrev s_law_dice : Stmt := topS 34
theorem sc_law_dice : FnScope ["script", "spot", "cell", "great", "seed"] ["script", "spot"] (defScope s_law_dice) := ⟨rfl, rfl, rfl, by decide +kernel, rfl, by decide +kernel, by decide +kernel⟩
abbrev s_law_roll : Stmt := topS 35
theorem sc_law_roll : FnScope ["dice", "total", "found", "one", "two"] ["dice", "total"] (defScope s_law_roll) := ⟨rfl, rfl, rfl, by decide +kernel, rfl, by decide +kernel, by decide +kernel⟩
abbrev s_law_pick : Stmt := topS 36
theorem sc_law_pick : FnScope ["dice", "items"] ["dice", "items"] (defScope s_law_pick) := ⟨rfl, rfl, rfl, by decide +kernel, rfl, by decide +kernel, by decide +kernel⟩
abbrev s_law_power : Stmt := topS 37
theorem sc_law_power : FnScope ["base", "many", "found", "turn"] ["base", "many"] (defScope s_law_power) := ⟨rfl, rfl, rfl, by decide +kernel, rfl, by decide +kernel, by decide +kernel⟩
abbrev s_law_word : Stmt := topS 38
theorem sc_law_word : FnScope ["dice", "width", "most", "at"] ["dice", "width", "most"] (defScope s_law_word) := ⟨rfl, rfl, rfl, by decide +kernel, rfl, by decide +kernel, by decide +kernel⟩
abbrev s_law_rd_least : Stmt := topS 39
theorem sc_law_rd_least : FnScope ["before", "around", "sizes", "ahead", "ring", "many"] ["before", "around"] (defScope s_law_rd_least) := ⟨rfl, rfl, rfl, by decide +kernel, rfl, by decide +kernel, by decide +kernel⟩
abbrev s_law_rd_letters : Stmt := topS 40
theorem sc_law_rd_letters : FnScope ["pair", "many", "found"] ["pair", "many"] (defScope s_law_rd_letters) := ⟨rfl, rfl, rfl, by decide +kernel, rfl, by decide +kernel, by decide +kernel⟩
abbrev s_law_rd_drawn : Stmt := topS 41
theorem sc_law_rd_drawn : FnScope ["dice", "width", "most"] ["dice", "width", "most"] (defScope s_law_rd_drawn) := ⟨rfl, rfl, rfl, by decide +kernel, rfl, by decide +kernel, by decide +kernel⟩
abbrev s_law_divisor : Stmt := topS 42
theorem sc_law_divisor : FnScope ["one", "other", "left", "right"] ["one", "other"] (defScope s_law_divisor) := ⟨rfl, rfl, rfl, by decide +kernel, rfl, by decide +kernel, by decide +kernel⟩
abbrev s_law_fraction : Stmt := topS 43
theorem sc_law_fraction : FnScope ["top", "bottom", "share"] ["top", "bottom"] (defScope s_law_fraction) := ⟨rfl, rfl, rfl, by decide +kernel, rfl, by decide +kernel, by decide +kernel⟩
abbrev s_law_nb_word : Stmt := topS 44
theorem sc_law_nb_word : FnScope ["width", "top", "bottom", "back", "tops", "digits", "digit", "first", "one"] ["width", "top", "bottom"] (defScope s_law_nb_word) := ⟨rfl, rfl, rfl, by decide +kernel, rfl, by decide +kernel, by decide +kernel⟩
abbrev s_law_nb_number : Stmt := topS 45
theorem sc_law_nb_number : FnScope ["width", "pair", "before", "around", "letter", "ring", "far"] ["width", "pair"] (defScope s_law_nb_number) := ⟨rfl, rfl, rfl, by decide +kernel, rfl, by decide +kernel, by decide +kernel⟩
abbrev s_law_nb_coprime : Stmt := topS 46
theorem sc_law_nb_coprime : FnScope ["dice", "width", "most", "found"] ["dice", "width", "most"] (defScope s_law_nb_coprime) := ⟨rfl, rfl, rfl, by decide +kernel, rfl, by decide +kernel, by decide +kernel⟩
abbrev s_law_first : Stmt := topS 47
theorem sc_law_first : FnScope ["width", "pair", "many", "found", "letter"] ["width", "pair", "many"] (defScope s_law_first) := ⟨rfl, rfl, rfl, by decide +kernel, rfl, by decide +kernel, by decide +kernel⟩
abbrev s_law_right : Stmt := topS 48
theorem sc_law_right : FnScope ["dice", "width", "bottom", "top", "number", "word", "size", "pair", "due", "whole"] ["dice"] (defScope s_law_right) := ⟨rfl, rfl, rfl, by decide +kernel, rfl, by decide +kernel, by decide +kernel⟩
abbrev s_law : Stmt := topS 49
theorem sc_law : FnScope ["script", "spot", "dice", "turn"] ["script"] (defScope s_law) := ⟨rfl, rfl, rfl, by decide +kernel, rfl, by decide +kernel, by decide +kernel⟩
structure Blt (mg : Str → Option Value) : Prop where
  len' : mg "len" = none
  range' : mg "range" = none
  isinstance' : mg "isinstance" = none
  int' : mg "int" = none
  bool' : mg "bool" = none
  tuple' : mg "tuple" = none
  list' : mg "list" = none
  all' : mg "all" = none
  abs' : mg "abs" = none
  max' : mg "max" = none
  min' : mg "min" = none
section
variable {P : Program} {w : World} {K : PySem.W.Frag} {mg : Str → Option Value} {base : Heap}
theorem ok_power_of (B : Blt mg)  {f : Addr} {fd : FuncData} (F : Dn K mg "power_of" s_power_of ["number", "many"] f fd) : FnOk P w K mg base CX0 1 f fd ["number", "many"] sp_power_of := by
  refine F.ok sc_power_of (fun vs H Q E h => by obtain ⟨b, n, rfl, _⟩ := h; rfl) (fun cdv A outer s H vs Q E hr h => ?_)
  obtain ⟨b, n, rfl, hb, hn, q⟩ := h
  refine ⟨_, (pss_cons (ps_set (i := 2) sc_power_of.nd rfl (Or.inl rfl) pe_int)
      (pss_cons (ps_for PassesOwn.never rfl (pi_range1 (by rfl) B.range' (pa_cons (pv 1) pa_nil)) (pg_name (i := 3) sc_power_of.nd rfl (Or.inl rfl)) (pss_one (ps_set (i := 2) sc_power_of.nd rfl (Or.inl rfl) (pe_op op_mulW (pv 2) (pv 0)))))
      (pss_one (ps_ret (pv 2))))), ?_⟩
  refine ⟨.int n, rfl, n, rfl, by omega, by omega, for_range (lo := 0) (n := n) (fun i σ H' => ∃ z, σ = [some (.int b), some (.int n), some (.int (b ^ i)), z] ∧ H' = H) ⟨none, by rw [Int.pow_zero] <;> rfl, rfl⟩ ?_ ?_⟩
  · rintro i σ H' hi ⟨z, rfl, rfl⟩
    refine ⟨_, rfl, _, rfl, _, _, rfl, rfl, wide_mul (pow_lt hb i) hb (by omega) (by omega) (by omega), some (.int (0 + (i : Int))), ?_, rfl⟩
    rw [Int.pow_succ] <;> rfl
  · rintro σ H' ⟨z, rfl, rfl⟩
    exact ⟨_, rfl, q⟩
theorem ok_is_integer (B : Blt mg)  {f : Addr} {fd : FuncData} (F : Dn K mg "is_integer" s_is_integer ["value"] f fd) : FnOk P w K mg base CX0 1 f fd ["value"] (sp_is_integer K) := by
  refine F.ok sc_is_integer (fun vs H Q E h => by obtain ⟨v, rfl, _⟩ := h; rfl) (fun cdv A outer s H vs Q E hr h => ?_)
  obtain ⟨v, rfl, kn, q⟩ := h
  obtain ⟨t, ht, h1, h2⟩ := kn.int_of
  refine ⟨_, (pss_one (ps_ret (pe_and (pe_callB (call_isK K rfl) (by rfl) B.isinstance' (by decide +kernel) (pa_cons (pv 0) (pa_cons (pe_bltn (v := .ty "int") (by rfl) B.int' (by decide +kernel) rfl) pa_nil))) (pe_one (pe_not (pe_callB (call_isK K rfl) (by rfl) B.isinstance' (by decide +kernel) (pa_cons (pv 0) (pa_cons (pe_bltn (v := .ty "bool") (by rfl) B.bool' (by decide +kernel) rfl) pa_nil)))))))), ?_⟩
  refine ⟨v, rfl, v, .ty "int", t, .type "int", isIB v, rfl, .ty "int", ht, h1, isIB v, rfl, ite2 (fun e => ?_) (fun e => ?_)⟩
  · refine ⟨v, rfl, v, .ty "bool", t, .type "bool", isB v, rfl, .ty "bool", ht, h2, isB v, rfl, ?_⟩
    have z : isI v = !isB v := by
      cases v <;> first | rfl | cases e
    rw [z] at q
    exact q
  · have z : isI v = false := by
      cases v <;> first | rfl | exact absurd rfl e
    rw [z] at q
    exact q
theorem ok_is_within (B : Blt mg) (c_is_integer : Cl CX0 P w K mg base 1 "is_integer" (sp_is_integer K) [])  {f : Addr} {fd : FuncData} (F : Dn K mg "is_within" s_is_within ["value", "low", "high"] f fd) : FnOk P w K mg base CX0 2 f fd ["value", "low", "high"] (sp_is_within K) := by
  refine F.ok sc_is_within (fun vs H Q E h => by obtain ⟨v, lo, hi, rfl, _⟩ := h; rfl) (fun cdv A outer s H vs Q E hr h => ?_)
  obtain ⟨v, lo, hi, rfl, kn, q⟩ := h
  refine ⟨_, (pss_one (ps_ret (pe_and (pe_c c_is_integer hr (by decide) (by rfl) (pa_cons (pv 0) pa_nil)) (pe_one (pe_chain op_le op_le (pv 1) (pv 0) (pv 2)))))), ?_⟩
  refine ⟨v, rfl, v, rfl, kn, isI v, rfl, ite2 (fun e => ?_) (fun e => ?_)⟩
  · obtain ⟨i, rfl⟩ : ∃ i, v = .int i := by
      cases v <;> first | exact ⟨_, rfl⟩ | cases e
    refine ⟨_, rfl, _, rfl, _, _, rfl, rfl, _, rfl, ite2 (fun e1 => ?_) (fun e1 => ?_)⟩
    · refine ⟨_, rfl, _, _, rfl, rfl, ?_⟩
      have z : wn lo hi (.int i) = decide (i ≤ hi) := by
        show (decide (lo ≤ i) && decide (i ≤ hi)) = _
        rw [e1, Bool.true_and]
      rw [z] at q
      exact q
    · have z : wn lo hi (.int i) = false := by
        show (decide (lo ≤ i) && decide (i ≤ hi)) = _
        rw [Bool.eq_false_iff.mpr e1, Bool.false_and]
      rw [z] at q
      exact q
  · have z : wn lo hi v = false := by
      cases v <;> first | rfl | exact absurd rfl e
    rw [z] at q
    exact q
theorem ok_is_width (B : Blt mg) (m_MAX_WIDTH : ∃ u, mg "MAX_WIDTH" = some u ∧ RelV (.int 5) u) (c_is_within : Cl CX0 P w K mg base 2 "is_within" (sp_is_within K) [])  {f : Addr} {fd : FuncData} (F : Dn K mg "is_width" s_is_width ["value"] f fd) : FnOk P w K mg base CX0 3 f fd ["value"] (sp_is_width K) := by
  refine F.ok sc_is_width (fun vs H Q E h => by obtain ⟨v, rfl, _⟩ := h; rfl) (fun cdv A outer s H vs Q E hr h => ?_)
  obtain ⟨v, rfl, kn, q⟩ := h
  refine ⟨_, (pss_one (ps_ret (pe_c c_is_within hr (by decide) (by rfl) (pa_cons (pv 0) (pa_cons pe_int (pa_cons (pe_gc (by rfl) m_MAX_WIDTH) pa_nil)))))), ?_⟩
  exact ⟨v, rfl, v, 2, 5, rfl, kn, q⟩
theorem ok_require_width (B : Blt mg) (c_is_width : Cl CX0 P w K mg base 3 "is_width" (sp_is_width K) [])  {f : Addr} {fd : FuncData} (F : Dn K mg "require_width" s_require_width ["value"] f fd) : FnOk P w K mg base CX0 4 f fd ["value"] (sp_require_width K) := by
  refine F.ok sc_require_width (fun vs H Q E h => by obtain ⟨v, rfl, _⟩ := h; rfl) (fun cdv A outer s H vs Q E hr h => ?_)
  obtain ⟨v, rfl, h1, h2, q⟩ := h
  refine ⟨_, (pss_one (ps_if (pt_not (pt_val (pe_c c_is_width hr (by decide) (by rfl) (pa_cons (pv 0) pa_nil)))) (pss_one ps_never) pss_nil)), ?_⟩
  refine ⟨_, rfl, _, rfl, .int v, _, rfl, ?_⟩
  rw [wn_of h1 h2]
  exact iteF q
theorem ok_is_letter (B : Blt mg) (c_is_within : Cl CX0 P w K mg base 2 "is_within" (sp_is_within K) [])  {f : Addr} {fd : FuncData} (F : Dn K mg "is_letter" s_is_letter ["width", "value"] f fd) : FnOk P w K mg base CX0 3 f fd ["width", "value"] (sp_is_letter K) := by
  refine F.ok sc_is_letter (fun vs H Q E h => by obtain ⟨k, v, rfl, _⟩ := h; rfl) (fun cdv A outer s H vs Q E hr h => ?_)
  obtain ⟨k, v, rfl, kn, q⟩ := h
  refine ⟨_, (pss_one (ps_ret (pe_c c_is_within hr (by decide) (by rfl) (pa_cons (pv 1) (pa_cons pe_int (pa_cons (pe_op op_sub (pv 0) pe_int) pa_nil)))))), ?_⟩
  exact ⟨v, rfl, .int k, rfl, k, 1, rfl, rfl, v, 0, k - 1, rfl, kn, q⟩
theorem ok_is_word_in (B : Blt mg) (c_is_letter : Cl CX0 P w K mg base 3 "is_letter" (sp_is_letter K) [])  {f : Addr} {fd : FuncData} (F : Dn K mg "is_word_in" s_is_word_in ["width", "value", "most"] f fd) : FnOk P w K mg base CX0 4 f fd ["width", "value", "most"] (sp_is_word_in K) := by
  refine F.ok sc_is_word_in (fun vs H Q E h => by obtain ⟨k, v, m, rfl, _⟩ := h; rfl) (fun cdv A outer s H vs Q E hr h => ?_)
  obtain ⟨k, v, m, rfl, hm, hv⟩ := h
  refine ⟨_, (pss_cons (ps_if (PW.pt (pw_or (pt_not (pt_val (pe_callB (call_isK K rfl) (by rfl) B.isinstance' (by decide +kernel) (pa_cons (pv 1) (pa_cons (pe_bltn (v := .ty "tuple") (by rfl) B.tuple' (by decide +kernel) rfl) pa_nil))))) (pw_or1 (PW.pt (pw_and (pt_cmpR op_notN (pv 2) pe_non (nomark _)) (pw_and1 (pt_cmpR op_gt (pe_callB (call_lenK K rfl) (by rfl) B.len' PySem.boot_len (pa_cons (pv 1) pa_nil)) (pv 2) (nomark _)))))))) (pss_one (ps_ret pe_bl)) pss_nil)
      (pss_one (ps_ret (pe_callB (cr_allK K rfl rfl) (by rfl) B.all' (by decide +kernel) (pa_cons (pe_lc (own := [("letter", 3)]) (by rfl) sc_is_word_in.nd (pi_tK K rfl (pv 1)) (blkOk_by (own := [("letter", 3)]) (N := ["width", "value", "most", "letter"]) (sc := defScope s_is_word_in) (by decide +kernel)) (fun _ _ _ _ _ => (pg_name (i := 3) sc_is_word_in.nd rfl (Or.inl rfl))) (fun _ _ _ _ _ => pts_nil) (fun _ _ _ _ _ => (pe_c c_is_letter hr (by decide) (by rfl) (pa_cons (pv 0) (pa_cons (pv 3) pa_nil))))) pa_nil))))), ?_⟩
  rcases hv with ⟨nt, q⟩ | ⟨a, xs, rfl, hT, hl, hk, q⟩
  · obtain ⟨t, ht, h1⟩ := nt.ty (K := K)
    exact ⟨v, rfl, v, .ty "tuple", t, .type "tuple", false, rfl, .ty "tuple", ht, h1, false, rfl, iteT (iteT q)⟩
  · refine ⟨_, rfl, .ref a, .ty "tuple", _, .type "tuple", true, rfl, .ty "tuple", tyT hT, kit_tt, true, rfl, iteF ?_⟩
    have body : mostOk m xs.length = true → tRet (tCB (rAll K) (tCons (tLc (iTup K (tVar 1)) (gName 3) tYes (tCall (sp_is_letter K) [] E0 (tCons (tVar 0) (tCons (tVar 3) tNil))) [3]) tNil)) { nx := fun _ H' => Q .non H', rt := Q } (start ["width", "value", "most", "letter"] [.int k, .ref a, m]) H := fun e => by
      refine ⟨.ref a, rfl, a, rfl, ⟨_, hT⟩, fun D hD => lc_tup (K := K) (a := a) (xs := xs) (fun i H' => Same H H' ∧ H' D = some (.lst ((xs.take i).map fun x => .bl (wn 0 (k - 1) x)))) ⟨same_new hD, upd_same⟩ (fun i H' _ h => same_tup h.1 hT) ?_ ?_⟩
      · rintro i x H' hx ⟨s1, e1⟩
        have hi : i < xs.length := (List.getElem?_eq_some_iff.mp hx).1
        refine ⟨rfl, _, rfl, _, rfl, k, x, rfl, (hk x (List.mem_of_getElem? hx)).same s1, _, e1, szl (by rw [List.length_map, List.length_take]; omega), fun b o z => ?_, ?_⟩
        · rw [upd_ne (ne_of_none z hD)]
          exact s1 b o z
        · rw [upd_same, take_map hx]
      · rintro H' ⟨s1, e1⟩
        refine ⟨D, xs.map (wn 0 (k - 1)), rfl, sL ?_, ?_⟩
        · rw [e1, List.take_length, List.map_map] <;> rfl
        · have := q H' s1
          rw [e, Bool.true_and] at this
          rw [List.all_map]
          exact this
    rcases hm with rfl | ⟨i, rfl⟩
    · exact ⟨.non, rfl, rfl, false, rfl, iteF (iteF (body rfl))⟩
    · refine ⟨.int i, rfl, rfl, true, rfl, iteT ⟨_, rfl, a, xs, rfl, .inr hT, _, rfl, _, _, rfl, rfl, _, rfl, ite2 (fun e => ?_) (fun e => ?_)⟩⟩
      · have := q H (Same.refl H)
        have e2 : mostOk (.int i) xs.length = false := by
          show (!decide (i < (xs.length : Int))) = false
          rw [e] <;> rfl
        rw [e2, Bool.false_and] at this
        exact this
      · refine body ?_
        show (!decide (i < (xs.length : Int))) = true
        rw [Bool.eq_false_iff.mpr e] <;> rfl
theorem ok_is_round_in (B : Blt mg) (c_is_word_in : Cl CX0 P w K mg base 4 "is_word_in" (sp_is_word_in K) [])  {f : Addr} {fd : FuncData} (F : Dn K mg "is_round_in" s_is_round_in ["width", "value", "most"] f fd) : FnOk P w K mg base CX0 5 f fd ["width", "value", "most"] (sp_is_round_in K) := by
  refine F.ok sc_is_round_in (fun vs H Q E h => by obtain ⟨k, v, m, rfl, _⟩ := h; rfl) (fun cdv A outer s H vs Q E hr h => ?_)
  obtain ⟨k, v, m, rfl, hm, hv⟩ := h
  refine ⟨_, (pss_cons (ps_if (PW.pt (pw_or (pt_not (pt_val (pe_callB (call_isK K rfl) (by rfl) B.isinstance' (by decide +kernel) (pa_cons (pv 1) (pa_cons (pe_bltn (v := .ty "tuple") (by rfl) B.tuple' (by decide +kernel) rfl) pa_nil))))) (pw_or1 (pt_cmpR op_ne (pe_callB (call_lenK K rfl) (by rfl) B.len' PySem.boot_len (pa_cons (pv 1) pa_nil)) pe_int (nomark _))))) (pss_one (ps_ret pe_bl)) pss_nil)
      (pss_one (ps_ret (pe_and (pe_cmpR (op_neK K rfl hr.units) (pe_ix (ix_tK K rfl) (pv 1) pe_int (fun _ _ => rfl)) (pe_tup pa_nil) (nomark _)) (pe_one (pe_callB (cr_allK K rfl rfl) (by rfl) B.all' (by decide +kernel) (pa_cons (pe_lc (own := [("word", 3)]) (by rfl) sc_is_round_in.nd (pi_tK K rfl (pv 1)) (blkOk_by (own := [("word", 3)]) (N := ["width", "value", "most", "word"]) (sc := defScope s_is_round_in) (by decide +kernel)) (fun _ _ _ _ _ => (pg_name (i := 3) sc_is_round_in.nd rfl (Or.inl rfl))) (fun _ _ _ _ _ => pts_nil) (fun _ _ _ _ _ => (pe_c c_is_word_in hr (by decide) (by rfl) (pa_cons (pv 0) (pa_cons (pv 3) (pa_cons (pv 2) pa_nil)))))) pa_nil))))))), ?_⟩
  rcases hv with ⟨nt, q⟩ | ⟨a, xs, rfl, hT, hl, q⟩ | ⟨a, x, y, bx, b2, dy, rfl, hT, wx, wy, hd, hs, q⟩
  · obtain ⟨t, ht, h1⟩ := nt.ty (K := K)
    exact ⟨v, rfl, v, .ty "tuple", t, .type "tuple", false, rfl, .ty "tuple", ht, h1, false, rfl, iteT (iteT q)⟩
  · refine ⟨_, rfl, .ref a, .ty "tuple", _, .type "tuple", true, rfl, .ty "tuple", tyT hT, kit_tt, true, rfl, iteF ⟨_, rfl, a, xs, rfl, .inr hT, rfl, _, rfl, ?_⟩⟩
    rw [decide_eq_false (fun z => hl (by injection z with z; exact Int.ofNat.inj z))]
    exact iteT q
  · refine ⟨_, rfl, .ref a, .ty "tuple", _, .type "tuple", true, rfl, .ty "tuple", tyT hT, kit_tt, true, rfl, iteF ⟨_, rfl, a, _, rfl, .inr hT, rfl, _, rfl, iteNS rfl ?_⟩⟩
    refine ⟨_, rfl, a, [x, y], 1, y, rfl, rfl, hT, rfl, by show 0 ≤ sizeLine; decide, fun e ne => ?_⟩
    have se := same_new (o := .tup []) ne
    have hde := dpSame se hd
    refine ⟨dy, dI [], hde, dpI (ns := []) (sT upd_same), hs, shI [], !PyData.eqv dy (dI []), rfl, ite2 (fun e1 => ?_) (fun e1 => ?_)⟩
    · refine ⟨_, rfl, a, rfl, ⟨_, same_tup se hT⟩, fun D hD => lc_tup (K := K) (a := a) (xs := [x, y]) (fun i H' => Same H H' ∧ H' D = some (.lst (([bx, b2].take i).map V.bl))) ⟨se.trans (same_new hD), upd_same⟩ (fun i H' _ h => same_tup h.1 hT) ?_ ?_⟩
      · rintro i z H' hz ⟨s1, e2⟩
        have hD0 : H D = none := se.free hD
        have key : ∀ b : Bool, Wv K H k m z b → ([bx, b2] : List Bool)[i]? = some b → sp_is_word_in K [.int k, z, m] H' (fun y H4 => ∃ acc, H4 D = some (.lst acc) ∧ acc.length < sizeLine ∧ (Same H (upd H4 D (.lst (acc ++ [y]))) ∧ (upd H4 D (.lst (acc ++ [y]))) D = some (.lst (([bx, b2].take (i + 1)).map V.bl)))) E0 := fun b hw hb => by
          have done : ∀ H4, Same H' H4 → ∃ acc, H4 D = some (.lst acc) ∧ acc.length < sizeLine ∧ (Same H (upd H4 D (.lst (acc ++ [.bl b]))) ∧ (upd H4 D (.lst (acc ++ [.bl b]))) D = some (.lst (([bx, b2].take (i + 1)).map V.bl))) := fun H4 s4 => by
            refine ⟨_, s4 _ _ e2, szl (by rw [List.length_map, List.length_take]; show min i 2 < _; omega), fun c o hc => ?_, ?_⟩
            · rw [upd_ne (ne_of_none hc hD0)]
              exact s4 _ _ (s1 _ _ hc)
            · rw [upd_same, take_map hb]
          rcases hw.same s1 with ⟨nt, rfl⟩ | ⟨c, zs, rfl, h1, h2, h3, rfl⟩
          · exact ⟨k, z, m, rfl, hm, .inl ⟨nt, done H' (Same.refl _)⟩⟩
          · exact ⟨k, _, m, rfl, hm, .inr ⟨c, zs, rfl, h1, h2, h3, fun H4 s4 => done H4 s4⟩⟩
        match i, hz with
        | 0, h => cases h; exact ⟨rfl, _, rfl, _, rfl, _, rfl, key bx wx rfl⟩
        | 1, h => cases h; exact ⟨rfl, _, rfl, _, rfl, _, rfl, key b2 wy rfl⟩
        | i + 2, h => cases h
      · rintro H' ⟨s1, e2⟩
        refine ⟨D, [bx, b2], rfl, sL e2, ?_⟩
        have := q H' s1
        rw [e1, Bool.true_and] at this
        simpa using this
    · have := q _ se
      rw [Bool.eq_false_iff.mpr e1, Bool.false_and] at this
      exact this
theorem ok_require_round (B : Blt mg) (c_is_round_in : Cl CX0 P w K mg base 5 "is_round_in" (sp_is_round_in K) [])  {f : Addr} {fd : FuncData} (F : Dn K mg "require_round" s_require_round ["width", "value"] f fd) : FnOk P w K mg base CX0 6 f fd ["width", "value"] (sp_require_round K) := by
  refine F.ok sc_require_round (fun vs H Q E h => by obtain ⟨k, v, b, a, rfl, _⟩ := h; rfl) (fun cdv A outer s H vs Q E hr h => ?_)
  obtain ⟨k, v, b, a, rfl, ⟨p, x, y, rfl, hT, hx, hy⟩, hb, ha, hne, lb, la, q⟩ := h
  refine ⟨_, (pss_one (ps_if (pt_not (pt_val (pe_c c_is_round_in hr (by decide) (by rfl) (pa_cons (pv 0) (pa_cons (pv 1) (pa_cons pe_non pa_nil)))))) (pss_one ps_never) pss_nil)), ?_⟩
  refine ⟨_, rfl, _, rfl, k, _, .non, rfl, .inl rfl, .inr (.inr ⟨p, .ref x, .ref y, true, true, dI a, rfl, hT, wv_word hx lb hb rfl, wv_word hy la ha rfl, dpI hy, shI a, fun H' s1 => ⟨_, rfl, ?_⟩⟩)⟩
  rw [eqvI, decide_eq_false hne]
  exact iteF (q H' s1)
theorem ok_law_dice (B : Blt mg)  {f : Addr} {fd : FuncData} (F : Dn K mg "_law_dice" s_law_dice ["script", "spot"] f fd) : FnOk P w K mg base CX0 1 f fd ["script", "spot"] (sp_law_dice K) := by
  refine F.ok sc_law_dice (fun vs H Q E h => by obtain ⟨a, ns, i, rfl, _⟩ := h; rfl) (fun cdv A outer s H vs Q E hr h => ?_)
  obtain ⟨a, ns, i, rfl, hS, hi, q⟩ := h
  refine ⟨_, (C8.pss_cut (ps_set (i := 2) sc_law_dice.nd rfl (Or.inl rfl) (pe_ifExp (pt_cmpR op_lt (pv 1) (pe_callB (call_lenK K rfl) (by rfl) B.len' PySem.boot_len (pa_cons (pv 0) pa_nil)) (nomark _)) (pe_callTy call_int1 (by rfl) B.int' (by decide +kernel) (pa_cons (pe_ix (ix_lK K rfl) (pv 0) (pv 1) (fun _ _ => rfl)) pa_nil)) (pe_op op_add (pe_op op_mulW pe_int (pv 1)) pe_int)))
      (pss_cons (ps_set (i := 3) sc_law_dice.nd rfl (Or.inl rfl) (pe_op op_mod (pe_callTy call_int1 (by rfl) B.int' (by decide +kernel) (pa_cons (pe_callB call_abs (by rfl) B.abs' (by decide +kernel) (pa_cons (pv 2) pa_nil)) pa_nil)) (pe_op op_powW (pe_op op_powW pe_int pe_int) pe_int)))
      (pss_cons (ps_set (i := 4) sc_law_dice.nd rfl (Or.inl rfl) (pe_op op_add (pe_op op_add (pe_op op_add (pe_op op_mulW (pe_op op_mod (pv 3) pe_int) pe_int) (pe_op op_mulW pe_int (pv 1))) (pe_op op_mulW pe_int (pe_callTy call_int1 (by rfl) B.int' (by decide +kernel) (pa_cons (pe_cmpR op_lt (pv 2) pe_int (nomark _)) pa_nil)))) pe_int))
      (pss_one (ps_ret (pe_lst (pa_cons (pe_callB (call_max2 rfl) (by rfl) B.max' (by decide +kernel) (pa_cons pe_int (pa_cons (pe_op op_sub (pv 3) (pe_op op_powW pe_int pe_int)) pa_nil))) (pa_cons (pv 4) (pa_cons pe_int pa_nil))))))))), ?_⟩
  refine ⟨fun σ H' => ∃ c : Int, σ = [some (.ref a), some (.int i), some (.int c), none, none] ∧ H' = H, ?_, ?_⟩
  · refine ⟨_, rfl, _, rfl, a, _, rfl, .inl hS, _, _, rfl, rfl, _, rfl, ite2 (fun e => ?_) (fun e => ?_)⟩
    · have hlt : i < ns.length := by
        have := of_decide_eq_true e
        rw [List.length_map] at this
        omega
      exact ⟨_, rfl, _, rfl, a, _, _, .int ns[i], rfl, rfl, hS, atI_nat (j := i) (by rw [List.getElem?_map, List.getElem?_eq_getElem hlt] <;> rfl), .inl ⟨_, rfl, _, rfl, rfl⟩⟩
    · exact ⟨_, rfl, _, _, rfl, rfl, wide_mul (a := 64) (b := 64) (by decide) (by omega) (by omega) (by omega) (by omega), _, _, rfl, rfl, _, rfl, rfl⟩
  · rintro σ H' ⟨c, rfl, rfl⟩
    refine ⟨_, rfl, _, rfl, .inl ⟨_, rfl, _, _, rfl, rfl, ⟨by decide, by decide +kernel⟩, _, _, rfl, rfl, ⟨by decide, by decide +kernel⟩, _, _, rfl, rfl, bigM_pos, ?_⟩⟩
    show tSeq _ _ _ [some (.ref a), some (.int i), some (.int c), some (.int ((if c < 0 then -c else c) % bigM)), none] H'
    generalize hg : (if c < 0 then -c else c) % bigM = g
    have g0 : 0 ≤ g := by rw [← hg]; exact Int.emod_nonneg _ (by have := bigM_pos; omega)
    have g1 : g < bigM := by rw [← hg]; exact Int.emod_lt_of_pos _ bigM_pos
    have gl : g.natAbs < 2 ^ 1100 := abs_le g0 (Int.le_of_lt g1) bigM_lt
    have r0 : 0 ≤ g % 2305843009213693921 := Int.emod_nonneg _ (by decide)
    have r1 : g % 2305843009213693921 < 2305843009213693921 := Int.emod_lt_of_pos _ (by decide)
    refine ⟨_, rfl, _, _, rfl, rfl, (by show (0 : Int) < 2305843009213693921; decide), ?_⟩
    refine ⟨_, _, rfl, rfl, wide_mul (a := 64) (b := 64) (by omega) (by decide) (by omega) (by omega) (by omega), _, rfl, _, _, rfl, rfl, wide_mul (a := 64) (b := 64) (by decide) (by omega) (by omega) (by omega) (by omega), _, _, rfl, rfl, _, rfl, _, _, rfl, rfl, .inr ⟨_, rfl, _, _, rfl, rfl, wide_mul (a := 64) (b := 64) (by decide) (by split <;> omega) (by omega) (by omega) (by omega), _, _, rfl, rfl, _, _, rfl, rfl, ?_⟩⟩
    refine ⟨_, rfl, _, _, rfl, rfl, ⟨by decide, by decide +kernel⟩, _, _, rfl, rfl, _, _, rfl, _, rfl, by show 3 ≤ sizeLine; decide, fun p np => ?_⟩
    have t16 : (0 : Int) ≤ 10 ^ Int.toNat 16 := by decide
    refine q p _ np (same_new np) ⟨_, _, _, upd_same, ?_, ?_, ?_, ?_, Int.le_refl 0, by decide⟩
    · split <;> omega
    · refine Nat.lt_of_le_of_lt ?_ gl
      split <;> omega
    · split <;> omega
    · split <;> omega
theorem ok_law_roll (B : Blt mg)  {f : Addr} {fd : FuncData} (F : Dn K mg "_law_roll" s_law_roll ["dice", "total"] f fd) : FnOk P w K mg base CX0 1 f fd ["dice", "total"] sp_law_roll := by
  refine F.ok sc_law_roll (fun vs H Q E h => by obtain ⟨d, t, n, rfl, _⟩ := h; rfl) (fun cdv A outer s H vs Q E hr h => ?_)
  obtain ⟨d, t, n, rfl, ⟨g, s, c, hD, g0, g1, s0, s1, c0, c1⟩, hn, t0, t1, q⟩ := h
  refine ⟨_, (pss_cons (ps_if (pt_cmpR op_gt (pe_ix (ix_lK K rfl) (pv 0) pe_int (fun _ _ => rfl)) pe_int (nomark _)) (pss_cons (ps_set (i := 2) sc_law_roll.nd rfl (Or.inl rfl) (pe_op op_mod (pe_ix (ix_lK K rfl) (pv 0) pe_int (fun _ _ => rfl)) (pv 1)))
      (pss_cons (ps_asg (pe_op op_fdivW (pe_ix (ix_lK K rfl) (pv 0) pe_int (fun _ _ => rfl)) (pv 1)) (pg_sub (pv 0) pe_int set_list))
      (pss_one (ps_ret (pe_callTy call_int1 (by rfl) B.int' (by decide +kernel) (pa_cons (pv 2) pa_nil)))))) pss_nil)
      (pss_cons (ps_asg (pe_op op_add (pe_ix (ix_lK K rfl) (pv 0) pe_int (fun _ _ => rfl)) pe_int) (pg_sub (pv 0) pe_int set_list))
      (pss_cons (ps_set (i := 3) sc_law_roll.nd rfl (Or.inl rfl) (pe_op op_mod (pe_op op_add (pe_ix (ix_lK K rfl) (pv 0) pe_int (fun _ _ => rfl)) (pe_op op_mulW pe_int (pe_ix (ix_lK K rfl) (pv 0) pe_int (fun _ _ => rfl)))) pe_int))
      (pss_cons (ps_set (i := 4) sc_law_roll.nd rfl (Or.inl rfl) (pe_op op_add (pe_op op_mulW (pe_op op_mod (pe_op op_add (pe_op op_mulW (pv 3) (pv 3)) (pe_op op_mulW pe_int (pe_ix (ix_lK K rfl) (pv 0) pe_int (fun _ _ => rfl)))) pe_int) pe_int) (pv 3)))
      (pss_one (ps_ret (pe_op op_mod (pe_callTy call_int1 (by rfl) B.int' (by decide +kernel) (pa_cons (pe_op op_fdivW (pv 4) pe_int) pa_nil)) (pv 1)))))))), ?_⟩
  refine ⟨_, rfl, d, _, _, .int g, rfl, rfl, sL hD, rfl, _, _, rfl, rfl, _, rfl, ite2 (fun e => ?_) (fun e => ?_)⟩
  · have m0 : 0 ≤ g / t := Int.ediv_nonneg g0 (Int.le_of_lt t0)
    have m1 : g / t ≤ g := Int.ediv_le_self _ g0
    refine ⟨_, rfl, d, _, _, .int g, rfl, rfl, sL hD, rfl, _, rfl, _, _, rfl, rfl, t0, _, rfl, d, _, _, .int g, rfl, rfl, sL hD, rfl, _, rfl, _, _, rfl, rfl, wide_div t0 t1 (by decide) (by decide), _, rfl, d, _, _, 0, rfl, rfl, hD, rfl, _, rfl, .inl ⟨_, rfl, ?_⟩⟩
    exact q _ _ (Int.emod_nonneg _ (by omega)) (Int.emod_lt_of_pos _ t0) (kd_upd hD) ⟨g / t, s, c, upd_same, m0, Nat.lt_of_le_of_lt (by omega) g1, s0, s1, c0, by omega⟩
  · have hD1 : ∀ o, (upd H d o) d = some o := fun o => upd_same
    refine ⟨_, rfl, d, _, _, .int c, rfl, rfl, sL hD, rfl, _, _, rfl, rfl, _, rfl, d, _, _, 2, rfl, rfl, hD, rfl, ?_⟩
    show tSeq _ _ _ _ (upd H d (.lst [.int g, .int s, .int (c + 1)]))
    have hE : (upd H d (.lst [.int g, .int s, .int (c + 1)])) d = some (.lst [.int g, .int s, .int (c + 1)]) := upd_same
    have kE : Kd d H (upd H d (.lst [.int g, .int s, .int (c + 1)])) := kd_upd hD
    generalize upd H d (.lst [.int g, .int s, .int (c + 1)]) = H1 at hE kE
    have c62 : (c + 1).natAbs < 2 ^ 62 := by omega
    refine ⟨_, rfl, d, _, _, .int s, rfl, rfl, sL hE, rfl, _, rfl, d, _, _, .int (c + 1), rfl, rfl, sL hE, rfl, _, _, rfl, rfl, wide_mul (a := 64) (b := 62) (by decide) c62 (by omega) (by omega) (by omega), _, _, rfl, rfl, _, _, rfl, rfl, (by show (0 : Int) < 2305843009213693951; decide), ?_⟩
    have o0 : 0 ≤ (s + 86028157 * (c + 1)) % 2305843009213693951 := Int.emod_nonneg _ (by decide)
    have o1 : (s + 86028157 * (c + 1)) % 2305843009213693951 < 2305843009213693951 := Int.emod_lt_of_pos _ (by decide)
    show tSeq _ _ _ [some (.ref d), some (.int t), none, some (.int ((s + 86028157 * (c + 1)) % 2305843009213693951)), none] H1
    generalize (s + 86028157 * (c + 1)) % 2305843009213693951 = o at o0 o1
    refine ⟨_, rfl, _, rfl, _, _, rfl, rfl, wide_mul (a := 64) (b := 64) (by omega) (by omega) (by omega) (by omega) (by omega), _, rfl, d, _, _, .int (c + 1), rfl, rfl, sL hE, rfl, _, _, rfl, rfl, wide_mul (a := 64) (b := 62) (by decide) c62 (by omega) (by omega) (by omega), _, _, rfl, rfl, _, _, rfl, rfl, (by show (0 : Int) < 2305843009213693907; decide), ?_⟩
    have u0 : 0 ≤ (o * o + 179 * (c + 1)) % 2305843009213693907 := Int.emod_nonneg _ (by decide)
    have u1 : (o * o + 179 * (c + 1)) % 2305843009213693907 < 2305843009213693907 := Int.emod_lt_of_pos _ (by decide)
    generalize (o * o + 179 * (c + 1)) % 2305843009213693907 = u at u0 u1
    refine ⟨_, _, rfl, rfl, wide_mul (a := 64) (b := 64) (by omega) (by decide) (by omega) (by omega) (by omega), _, rfl, _, _, rfl, rfl, _, rfl, _, _, rfl, rfl, wide_div (b := 64) (by decide) (by decide) (by decide) (by decide), .inl ⟨_, rfl, _, rfl, _, _, rfl, rfl, t0, ?_⟩⟩
    exact q _ _ (Int.emod_nonneg _ (by omega)) (Int.emod_lt_of_pos _ t0) kE ⟨g, s, c + 1, hE, g0, g1, s0, s1, by omega, by omega⟩
theorem ok_law_pick (B : Blt mg) (c_law_roll : Cl CX0 P w K mg base 1 "_law_roll" sp_law_roll [])  {f : Addr} {fd : FuncData} (F : Dn K mg "_law_pick" s_law_pick ["dice", "items"] f fd) : FnOk P w K mg base CX0 2 f fd ["dice", "items"] (sp_law_pick K) := by
  refine F.ok sc_law_pick (fun vs H Q E h => by obtain ⟨d, a, xs, n, rfl, _⟩ := h; rfl) (fun cdv A outer s H vs Q E hr h => ?_)
  obtain ⟨d, a, xs, n, rfl, hD, hn, hS, ne, h0, hl, q⟩ := h
  refine ⟨_, (pss_one (ps_ret (pe_ix (ix_lK K rfl) (pv 1) (pe_c c_law_roll hr (by decide) (by rfl) (pa_cons (pv 0) (pa_cons (pe_callB (call_lenK K rfl) (by rfl) B.len' PySem.boot_len (pa_cons (pv 1) pa_nil)) pa_nil))) (fun _ _ => rfl)))), ?_⟩
  refine ⟨_, rfl, _, rfl, _, rfl, a, _, rfl, .inl hS, d, xs.length, n, rfl, hD, hn, by omega, by omega, fun v H' v0 v1 k1 D1 => ?_⟩
  obtain ⟨i, rfl⟩ : ∃ i : Nat, v = i := ⟨v.toNat, by omega⟩
  have hi : i < xs.length := by omega
  exact ⟨a, xs, i, xs[i], rfl, rfl, k1.lst ne hS, atI_nat (List.getElem?_eq_getElem hi), q i _ H' (List.getElem?_eq_getElem hi) k1 D1⟩
theorem ok_law_power (B : Blt mg)  {f : Addr} {fd : FuncData} (F : Dn K mg "_law_power" s_law_power ["base", "many"] f fd) : FnOk P w K mg base CX0 1 f fd ["base", "many"] sp_power_of := by
  refine F.ok sc_law_power (fun vs H Q E h => by obtain ⟨b, n, rfl, _⟩ := h; rfl) (fun cdv A outer s H vs Q E hr h => ?_)
  obtain ⟨b, n, rfl, hb, hn, q⟩ := h
  refine ⟨_, (pss_cons (ps_set (i := 2) sc_law_power.nd rfl (Or.inl rfl) pe_int)
      (pss_cons (ps_for PassesOwn.never rfl (pi_range1 (by rfl) B.range' (pa_cons (pv 1) pa_nil)) (pg_name (i := 3) sc_law_power.nd rfl (Or.inl rfl)) (pss_one (ps_set (i := 2) sc_law_power.nd rfl (Or.inl rfl) (pe_op op_mulW (pv 2) (pv 0)))))
      (pss_one (ps_ret (pv 2))))), ?_⟩
  refine ⟨.int n, rfl, n, rfl, by omega, by omega, for_range (lo := 0) (n := n) (fun i σ H' => ∃ z, σ = [some (.int b), some (.int n), some (.int (b ^ i)), z] ∧ H' = H) ⟨none, by rw [Int.pow_zero] <;> rfl, rfl⟩ ?_ ?_⟩
  · rintro i σ H' hi ⟨z, rfl, rfl⟩
    refine ⟨_, rfl, _, rfl, _, _, rfl, rfl, wide_mul (pow_lt hb i) hb (by omega) (by omega) (by omega), some (.int (0 + (i : Int))), ?_, rfl⟩
    rw [Int.pow_succ] <;> rfl
  · rintro σ H' ⟨z, rfl, rfl⟩
    exact ⟨_, rfl, q⟩
theorem ok_law_word (B : Blt mg) (c_law_roll : Cl CX0 P w K mg base 1 "_law_roll" sp_law_roll [])  {f : Addr} {fd : FuncData} (F : Dn K mg "_law_word" s_law_word ["dice", "width", "most"] f fd) : FnOk P w K mg base CX0 2 f fd ["dice", "width", "most"] (sp_law_word K) := by
  refine F.ok sc_law_word (fun vs H Q E h => by obtain ⟨d, k, m, n, rfl, _⟩ := h; rfl) (fun cdv A outer s H vs Q E hr h => ?_)
  obtain ⟨d, k, m, n, rfl, D0, hn, hm, k0, k1, q⟩ := h
  refine ⟨_, (pss_one (ps_ret (pe_callTy (call_tupK K rfl) (by rfl) B.tuple' (by decide +kernel) (pa_cons (pe_lc (own := [("at", 3)]) (by rfl) sc_law_word.nd (pi_range1 (by rfl) B.range' (pa_cons (pe_c c_law_roll hr (by decide) (by rfl) (pa_cons (pv 0) (pa_cons (pe_op op_add (pv 2) pe_int) pa_nil))) pa_nil)) (blkOk_by (own := [("at", 3)]) (N := ["dice", "width", "most", "at"]) (sc := defScope s_law_word) (by decide +kernel)) (fun _ _ _ _ _ => (pg_name (i := 3) sc_law_word.nd rfl (Or.inl rfl))) (fun _ _ _ _ _ => pts_nil) (fun _ _ _ _ _ => (pe_c c_law_roll hr (by decide) (by rfl) (pa_cons (pv 0) (pa_cons (pv 1) pa_nil))))) pa_nil)))), ?_⟩
  refine ⟨_, rfl, _, rfl, _, _, rfl, rfl, d, (m : Int) + 1, n, rfl, D0, by omega, by omega, by omega, fun v H1 v0 v1 kd1 D1 => ?_⟩
  obtain ⟨z, rfl⟩ : ∃ z : Nat, v = z := ⟨v.toNat, by omega⟩
  refine ⟨z, rfl, by omega, by omega, fun C hC => ?_⟩
  have nCd : C ≠ d := D1.ne hC
  have hC0 : H C = none := kd1.free nCd hC
  refine lc_range (lo := 0) (n := z) (fun i H' => Kd d H H' ∧ ∃ ns : List Int, H' C = some (.lst (ns.map V.int)) ∧ ns.length = i ∧ inW k ns ∧ Dice H' d (n + 1 + i)) ⟨kd_mut kd1 hC0, [], upd_same, rfl, (fun _ h => by cases h), D1.at (upd_ne (Ne.symm nCd))⟩ ?_ ?_
  · rintro i H' hi ⟨kd, ns, eC, hl, hw, Di⟩
    refine ⟨rfl, _, rfl, _, rfl, d, k, n + 1 + i, rfl, Di, by omega, k0, by omega, fun x H2 x0 x1 kd2 D2 => ⟨ns.map V.int, kd2 _ _ eC (fun z => (nCd z).elim), szl (by rw [List.length_map]; omega), kd_mut (kd.trans kd2) hC0, ns ++ [x], ?_, ?_, ?_, ?_⟩⟩
    · rw [upd_same, List.map_append] <;> rfl
    · rw [List.length_append, hl] <;> rfl
    · intro y hy
      rcases List.mem_append.mp hy with hy | hy
      · exact hw y hy
      · rw [List.mem_singleton.mp hy]
        exact ⟨x0, x1⟩
    · exact D2.at (upd_ne (Ne.symm nCd))
  · rintro H' ⟨kd, ns, eC, hl, hw, Di⟩
    refine ⟨C, _, rfl, .inl ⟨sL eC, fun t nt => ?_⟩⟩
    exact q t ns _ (kd.trans (Kd.same (same_new nt))) ((Di.same (same_new nt)).more (by omega)) (sT upd_same) hw (by omega)
end
end Br

namespace Br
open PySem PySem.Spec PyProof.Rows L2 SlX RZ Mm Nb
local macro_rules | `(tactic| walk_at "up") => `(tactic| first | assumption | exact sT (by assumption) | exact sL (by assumption) | (with_reducible refine same_tup (by assumption) ?_; walk_at "up") | (with_reducible refine Kd.tup (by assumption) ?_; walk_at "up") | (with_reducible refine same_lst (by assumption) ?_; walk_at "up") | (with_reducible refine same_at (by assumption) ?_; walk_at "up"))
local macro_rules | `(tactic| walk_at "sm") => `(tactic| first | exact Same.refl _ | assumption | (refine Same.trans ?_ (by assumption); walk_at "sm"))
local macro_rules | `(tactic| walk_at "kd") => `(tactic| first | exact Kd.refl | assumption | exact Kd.same (by assumption) | (with_reducible refine Kd.trans ?_ (by assumption); walk_at "kd") | (with_reducible refine Kd.trans ?_ (Kd.same (by assumption)); walk_at "kd"))
section
variable {P : Program} {w : World} {K : PySem.W.Frag} {mg : Str → Option Value} {base : Heap}
theorem ok_least_round_in (B : Blt mg)  {f : Addr} {fd : FuncData} (F : Dn K mg "least_round_in" s_least_round_in ["word"] f fd) : FnOk P w K mg base CX0 1 f fd ["word"] (sp_least_round_in K) := by
  refine F.ok sc_least_round_in (fun vs H Q E h => by obtain ⟨v, b, a, rfl, _⟩ := h; rfl) (fun cdv A outer s H vs Q E hr h => ?_)
  obtain ⟨v, b, a, rfl, ⟨p, x, y, rfl, hT, hx, hy⟩, hne, lb, la, q⟩ := h
  have hp : 0 < a.length := List.length_pos_iff.mpr hne
  refine ⟨_, (pss_cons (ps_asg (pv 0) (pg_tup (by rfl) (pgs_cons (pg_name (i := 1) sc_least_round_in.nd rfl (Or.inl rfl)) (pgs_cons (pg_name (i := 2) sc_least_round_in.nd rfl (Or.inl rfl)) pgs_nil))))
      (pss_cons (ps_set (i := 3) sc_least_round_in.nd rfl (Or.inl rfl) pe_int)
      (pss_cons (ps_while PassesOwn.never (PW.pt (pw_or (pt_cmpR op_ne (pe_op op_mod (pe_callB (call_lenK K rfl) (by rfl) B.len' PySem.boot_len (pa_cons (pv 2) pa_nil)) (pv 3)) pe_int (nomark _)) (pw_or1 (pt_cmpR (op_neK K rfl hr.units) (pe_op (op_repA K rfl) (pe_slice (sl_tK K rfl) (pv 2) po_none (po_some (pv 3))) (pe_op op_fdivW (pe_callB (call_lenK K rfl) (by rfl) B.len' PySem.boot_len (pa_cons (pv 2) pa_nil)) (pv 3))) (pv 2) (nomark _))))) (pss_one (ps_set (i := 3) sc_least_round_in.nd rfl (Or.inl rfl) (pe_op op_add (pv 3) pe_int))))
      (pss_cons (ps_set (i := 2) sc_least_round_in.nd rfl (Or.inl rfl) (pe_slice (sl_tK K rfl) (pv 2) po_none (po_some (pv 3))))
      (pss_cons (ps_while PassesOwn.never (PW.pt (pw_and (pt_cmpR (op_neK K rfl hr.units) (pv 1) (pe_tup pa_nil) (nomark _)) (pw_and1 (pt_cmpR op_eq (pe_ix (ix_tK K rfl) (pv 1) (pe_un un_neg pe_int) (fun _ _ => rfl)) (pe_ix (ix_tK K rfl) (pv 2) (pe_un un_neg pe_int) (fun _ _ => rfl)) (nomark _))))) (pss_one (ps_par (i := 1) (j := 2) (by rfl) sc_least_round_in.nd rfl rfl (by decide) rfl rfl (pa_cons (pe_slice (sl_tK K rfl) (pv 1) po_none (po_some (pe_un un_neg pe_int))) (pa_cons (pe_op (op_catK K rfl) (pe_slice (sl_tK K rfl) (pv 2) (po_some (pe_un un_neg pe_int)) po_none) (pe_slice (sl_tK K rfl) (pv 2) po_none (po_some (pe_un un_neg pe_int)))) pa_nil)) (by rfl))))
      (pss_one (ps_ret (pe_tup (pa_cons (pv 1) (pa_cons (pv 2) pa_nil)))))))))), ?_⟩
  refine ⟨_, rfl, p, _, rfl, hT, rfl, _, _, rfl, _, _, rfl, rfl, ?_⟩
  -- the least size
  refine ⟨fun m σ H' => ∃ t : Nat, σ = [some (.ref p), some (.ref x), some (.ref y), some (.int t)] ∧ 1 ≤ t ∧ t ≤ a.length ∧ m = a.length - t ∧ Same H H' ∧ ∀ u, 1 ≤ u → u < t → okS a u = false, ⟨_, 1, rfl, by omega, by omega, rfl, Same.refl H, fun u u1 u2 => by omega⟩, ?_⟩
  rintro m σ H1 ⟨t, rfl, t1, t2, rfl, s1, hl⟩
  have step : ∀ H2, Same H1 H2 → okS a t = false → t < a.length ∧ ∃ N : L2.St → Hp → Prop, (∀ σ' H', N σ' H' → ∃ m', m' < a.length - t ∧ ∃ t : Nat, σ' = [some (.ref p), some (.ref x), some (.ref y), some (.int t)] ∧ 1 ≤ t ∧ t ≤ a.length ∧ m' = a.length - t ∧ Same H H' ∧ ∀ u, 1 ≤ u → u < t → okS a u = false) ∧ N [some (.ref p), some (.ref x), some (.ref y), some (.int ((t : Int) + 1))] H2 := fun H2 s2 e => by
    have hlt : t < a.length := by
      by_cases z : t = a.length
      · subst z
        rw [okS_rep t1 (Nat.le_refl _), Rd.isRep_self hne] at e
        cases e
      · omega
    refine ⟨hlt, fun σ' H' => σ' = [some (.ref p), some (.ref x), some (.ref y), some (.int ((t : Int) + 1))] ∧ H' = H2, ?_, rfl, rfl⟩
    rintro σ' H' ⟨rfl, rfl⟩
    refine ⟨_, ?_, t + 1, rfl, by omega, by omega, rfl, s1.trans s2, fun u u1 u2 => ?_⟩
    · omega
    · by_cases z : u = t
      · subst z
        exact e
      · exact hl u u1 (by omega)
  have la' : (a.map V.int).length = a.length := List.length_map _
  refine ⟨_, rfl, y, _, rfl, .inr (same_tup s1 hy), _, rfl, _, _, rfl, rfl, (by show (0 : Int) < (t : Int); omega), rfl, _, rfl, ?_⟩
  rw [la']
  by_cases hm : a.length % t = 0
  · have e0 : ((a.length : Nat) : Int) % (t : Int) = 0 := by rw [← Int.natCast_emod, hm] <;> rfl
    have hdv : ((a.length : Nat) : Int) / (t : Int) = ((a.length / t : Nat) : Int) := by rw [← Int.natCast_ediv]
    have hd1 : 1 ≤ a.length / t := (Nat.one_le_div_iff t1).mpr t2
    have hd2 : a.length / t ≤ a.length := Nat.div_le_self _ _
    refine ite2 (fun e => ?_) (fun e => ?_)
    · exfalso
      have z : (!decide (V.int (((a.length : Nat) : Int) % (t : Int)) = V.int 0)) = true := e
      rw [e0] at z
      exact absurd z (by decide)
    · refine ⟨_, rfl, _, rfl, _, rfl, ?_⟩
      refine sl_ok (same_tup s1 hy) fun p2 H2 s2 h2 => ⟨_, rfl, y, _, rfl, .inr (same_tup s2 (same_tup s1 hy)), _, rfl, _, _, rfl, rfl, wide_div (b := 64) (by omega) (by omega) (by decide) (by decide), ?_⟩
      rw [cut_to, map_take] at h2
      show rRepA K (.ref p2) (.int (((a.map V.int).length : Int) / (t : Int))) H2 _
      rw [la', hdv]
      have htk : (a.take t).length = t := by rw [List.length_take, Nat.min_eq_left t2]
      refine rep_ok h2 (fun z => ?_) (by omega) (by omega) (by rw [List.length_map, htk]; omega) fun p3 H3 s3 h3 => ⟨_, rfl, ?_⟩
      · have := congrArg List.length z
        rw [List.length_map, htk] at this
        have : t = 0 := this
        omega
      rw [Int.toNat_natCast, map_rep] at h3
      refine ⟨_, _, dpI h3, dpI (same_tup s3 (same_tup s2 (same_tup s1 hy))), shI _, shI _, _, rfl, ?_⟩
      rw [eqvI]
      have eo : okS a t = decide (Rd.rep (a.length / t) (a.take t) = a) := by
        unfold okS
        rw [decide_eq_true hm] <;> rfl
      refine ite2 (fun e2 => ?_) (fun e2 => ?_)
      · have ef : okS a t = false := by
          rw [eo]
          simpa using e2
        obtain ⟨hlt, N, n1, n2⟩ := step H3 (s2.trans s3) ef
        exact ⟨N, n1, _, rfl, _, _, rfl, rfl, n2⟩
      · have et : okS a t = true := by
          rw [eo]
          simpa using e2
        have hleast := leastS_of t1 t2 et hl
        have c3 := s1.trans (s2.trans s3)
        -- around = around[:size]
        refine ⟨_, rfl, _, rfl, _, rfl, sl_ok (same_tup c3 hy) fun y4 H4 s4 h4 => ?_⟩
        rw [cut_to, map_take] at h4
        have c4 := c3.trans s4
        refine ⟨fun m σ H' => ∃ (b' a' : List Int) (x' y' : Addr), σ = [some (.ref p), some (.ref x'), some (.ref y'), some (.int t)] ∧ m = b'.length ∧ a' ≠ [] ∧ b'.length ≤ 1000 ∧ a'.length = t ∧ Same H H' ∧ SqT K H' x' (b'.map V.int) ∧ SqT K H' y' (a'.map V.int) ∧ Rd.rot b' a' = Rd.least b a,
          ⟨_, b, a.take t, x, y4, rfl, rfl, fun z => by rw [z] at htk; simp at htk; omega, lb, htk, c4, same_tup c4 hx, h4, by unfold Rd.least; rw [hleast]⟩, ?_⟩
        rintro m σ H5 ⟨b', a', x', y', rfl, rfl, ha', lb', lt', s5, hx5, hy5, hrot⟩
        have out : ∀ H6, Same H5 H6 → ¬ (b' ≠ [] ∧ b'.getLast? = a'.getLast?) → Q (.ref 0) H6 ∨ True := fun _ _ _ => .inr trivial
        refine ⟨_, rfl, by show 0 ≤ sizeLine; decide, fun e0' ne0 => ?_⟩
        have s6 := same_new (o := .tup []) ne0
        refine ⟨_, _, dpI (same_tup s6 hx5), dpI (ns := []) (sT upd_same), shI _, shI _, _, rfl, ?_⟩
        rw [eqvI]
        have fin : ∀ H7, Same (upd H5 e0' (.tup [])) H7 → ¬ (b' ≠ [] ∧ b'.getLast? = a'.getLast?) → ∀ r, H7 r = none → Q (.ref r) (upd H7 r (.tup [.ref x', .ref y'])) := fun H7 s7 hn r nr => by
          have hst := Rd.rot_stop hn
          rw [hst] at hrot
          have sr := same_new (o := .tup [.ref x', .ref y']) nr
          refine q (.ref r) _ (((s5.trans s6).trans s7).trans sr) ?_
          rw [← hrot]
          exact ⟨r, x', y', rfl, sT upd_same, same_tup sr (same_tup s7 (same_tup s6 hx5)), same_tup sr (same_tup s7 (same_tup s6 hy5))⟩
        by_cases hb0 : b' = []
        · rw [decide_eq_true hb0]
          refine iteF (iteF ⟨_, rfl, _, rfl, by show 2 ≤ sizeLine; decide, fun r nr => fin _ (Same.refl _) (fun z => z.1 hb0) r nr⟩)
        · rw [decide_eq_false hb0]
          obtain ⟨c, u, rfl⟩ := Rd.split_last hb0
          obtain ⟨dd, w', rfl⟩ := Rd.split_last ha'
          refine iteT ⟨_, rfl, _, rfl, x', _, _, .int u, rfl, rfl, same_tup s6 hx5, ?_, _, rfl, _, rfl, y', _, _, .int w', rfl, rfl, same_tup s6 hy5, ?_, rfl, _, rfl, ?_⟩
          · rw [List.map_append]
            exact atI_last _ _
          · rw [List.map_append]
            exact atI_last _ _
          by_cases huw : u = w'
          · subst huw
            rw [decide_eq_true rfl]
            refine iteT ⟨fun σ' H' => ∃ (x6 y6 : Addr), σ' = [some (.ref p), some (.ref x6), some (.ref y6), some (.int t)] ∧ Same H5 H' ∧ SqT K H' x6 (c.map V.int) ∧ SqT K H' y6 ((u :: dd).map V.int), ?_, ?_⟩
            · rintro σ' H' ⟨x6, y6, rfl, s7, h6, h7⟩
              refine ⟨c.length, by rw [List.length_append]; exact Nat.lt_succ_self _, c, u :: dd, x6, y6, rfl, rfl, List.cons_ne_nil _ _, by rw [List.length_append] at lb'; omega, ?_, s5.trans s7, h6, h7, ?_⟩
              · rw [List.length_append] at lt'
                exact lt'
              · rw [← hrot, Rd.rot_go]
            · refine ⟨_, rfl, _, rfl, _, rfl, sl_ok (same_tup s6 hx5) fun x8 H8 s8 h8 => ⟨_, rfl, _, rfl, _, rfl, sl_okF (same_tup s8 (same_tup s6 hy5)) fun y9 H9 s9 h9 => ⟨_, rfl, _, rfl, _, rfl, sl_ok (same_tup s9 (same_tup s8 (same_tup s6 hy5))) fun z9 H10 s10 h10 => ?_⟩⟩⟩
              have e8 : cutV ((c ++ [u]).map V.int) none (some (-1)) = c.map V.int := by rw [cut_init, List.map_append]; exact List.dropLast_concat
              have e9 : cutV ((dd ++ [u]).map V.int) (some (-1)) none = [.int u] := by rw [List.map_append]; exact cut_last
              have e10 : cutV ((dd ++ [u]).map V.int) none (some (-1)) = dd.map V.int := by rw [cut_init, List.map_append]; exact List.dropLast_concat
              have h8' : SqT K H8 x8 (c.map V.int) := by rw [← e8]; exact h8
              have h9' : SqT K H9 y9 [.int u] := by rw [← e9]; exact h9
              have h10' : SqT K H10 z9 (dd.map V.int) := by rw [← e10]; exact h10
              refine cat_ok (same_tup s10 h9') h10' ?_ fun y11 H11 s11 h11 => ⟨_, _, rfl, x8, y11, rfl, (((s6.trans s8).trans s9).trans s10).trans s11, same_tup s11 (same_tup s10 (same_tup s9 h8')), h11⟩
              rw [List.length_map]
              rw [List.length_append] at lt'
              have : [V.int u].length = 1 := rfl
              have : [u].length = 1 := rfl
              omega
          · rw [decide_eq_false (fun z => huw (V.int.inj z))]
            refine iteF ⟨_, rfl, _, rfl, by show 2 ≤ sizeLine; decide, fun r nr => fin _ (Same.refl _) (fun z => huw (by simpa using z.2)) r nr⟩
  · have e0 : ¬ ((a.length : Nat) : Int) % (t : Int) = 0 := fun z => hm (by rw [← Int.natCast_emod] at z; omega)
    refine ite2 (fun e => ?_) (fun e => ?_)
    · have ef : okS a t = false := by
        unfold okS
        rw [decide_eq_false hm, Bool.false_and]
      obtain ⟨hlt, N, n1, n2⟩ := step H1 (Same.refl H1) ef
      exact ⟨N, n1, _, rfl, _, _, rfl, rfl, n2⟩
    · exfalso
      have z : ¬ (!decide (V.int (((a.length : Nat) : Int) % (t : Int)) = V.int 0)) = true := e
      rw [decide_eq_false (fun z => e0 (V.int.inj z))] at z
      exact z rfl
end
end Br

namespace Br
open PySem PySem.Spec PyProof.Rows L2 SlX RZ Mm Nb
local macro_rules | `(tactic| walk_at "up") => `(tactic| first | assumption | exact sT (by assumption) | exact sL (by assumption) | (with_reducible refine same_tup (by assumption) ?_; walk_at "up") | (with_reducible refine Kd.tup (by assumption) ?_; walk_at "up") | (with_reducible refine same_lst (by assumption) ?_; walk_at "up") | (with_reducible refine same_at (by assumption) ?_; walk_at "up"))
local macro_rules | `(tactic| walk_at "sm") => `(tactic| first | exact Same.refl _ | assumption | (refine Same.trans ?_ (by assumption); walk_at "sm"))
local macro_rules | `(tactic| walk_at "kd") => `(tactic| first | exact Kd.refl | assumption | exact Kd.same (by assumption) | (with_reducible refine Kd.trans ?_ (by assumption); walk_at "kd") | (with_reducible refine Kd.trans ?_ (Kd.same (by assumption)); walk_at "kd"))
section
variable {P : Program} {w : World} {K : PySem.W.Frag} {mg : Str → Option Value} {base : Heap}
theorem ok_law_rd_least (B : Blt mg)  {f : Addr} {fd : FuncData} (F : Dn K mg "_law_rd_least" s_law_rd_least ["before", "around"] f fd) : FnOk P w K mg base CX0 1 f fd ["before", "around"] (sp_law_rd_least K) := by
  refine F.ok sc_law_rd_least (fun vs H Q E h => by obtain ⟨x, y, b, a, rfl, _⟩ := h; rfl) (fun cdv A outer s H vs Q E hr h => ?_)
  obtain ⟨x, y, b, a, rfl, hx, hy, hne, lb, la, q⟩ := h
  have hp : 0 < a.length := List.length_pos_iff.mpr hne
  have la' : (a.map V.int).length = a.length := List.length_map _
  refine ⟨_, (pss_cons (ps_setLc (i := 2) (own := [("many", 5)]) (by rfl) sc_law_rd_least.nd rfl rfl (sw_true rfl rfl rfl (by decide +kernel)) (pi_range2 (by rfl) B.range' (pa_cons pe_int (pa_cons (pe_op op_add (pe_callB (call_lenK K rfl) (by rfl) B.len' PySem.boot_len (pa_cons (pv 1) pa_nil)) pe_int) pa_nil))) (blkOk_by (own := [("many", 5)]) (N := ["before", "around", "sizes", "ahead", "ring", "many"]) (sc := defScope s_law_rd_least) (by decide +kernel)) (fun _ _ _ _ _ => (pg_name (i := 5) sc_law_rd_least.nd rfl (Or.inl rfl))) (fun _ _ _ _ _ => (pts_one (pt_cmpR (op_eqK K rfl hr.units) (pe_op (op_repA K rfl) (pe_slice (sl_tK K rfl) (pv 1) po_none (po_some (pv 5))) (pe_op op_fdivW (pe_callB (call_lenK K rfl) (by rfl) B.len' PySem.boot_len (pa_cons (pv 1) pa_nil)) (pv 5))) (pv 1) (nomark _)))) (fun _ _ _ _ _ => (pv 5)))
      (pss_cons (ps_par (i := 3) (j := 4) (by rfl) sc_law_rd_least.nd rfl rfl (by decide) rfl rfl (pa_cons (pe_callTy (call_lstK K rfl) (by rfl) B.list' (by decide +kernel) (pa_cons (pv 0) pa_nil)) (pa_cons (pe_callTy (call_lstK K rfl) (by rfl) B.list' (by decide +kernel) (pa_cons (pe_slice (sl_tK K rfl) (pv 1) po_none (po_some (pe_ix (ix_lK K rfl) (pv 2) pe_int (fun _ _ => rfl)))) pa_nil)) pa_nil)) (by rfl))
      (pss_cons (ps_while PassesOwn.never (PW.pt (pw_and (pt_cmpR (op_neK K rfl hr.units) (pv 3) (pe_lst pa_nil) (nomark _)) (pw_and1 (pt_cmpR op_eq (pe_ix (ix_lK K rfl) (pv 3) (pe_un un_neg pe_int) (fun _ _ => rfl)) (pe_ix (ix_lK K rfl) (pv 4) (pe_un un_neg pe_int) (fun _ _ => rfl)) (nomark _))))) (pss_cons (ps_set (i := 4) sc_law_rd_least.nd rfl (Or.inl rfl) (pe_op op_cat (pe_lst (pa_cons (pe_ix (ix_lK K rfl) (pv 4) (pe_un un_neg pe_int) (fun _ _ => rfl)) pa_nil)) (pe_slice (sl_lK K rfl) (pv 4) po_none (po_some (pe_un un_neg pe_int)))))
      (pss_one (ps_expr (pe_bm0 PySem.F.plainAttrs_list PySem.F.slot_list_pop PySem.F.type_list_pop mt_pop (pv 3))))))
      (pss_one (ps_ret (pe_tup (pa_cons (pe_callTy (call_tupK K rfl) (by rfl) B.tuple' (by decide +kernel) (pa_cons (pv 3) pa_nil)) (pa_cons (pe_callTy (call_tupK K rfl) (by rfl) B.tuple' (by decide +kernel) (pa_cons (pv 4) pa_nil)) pa_nil)))))))), ?_⟩
  refine ⟨_, rfl, y, _, rfl, .inr hy, _, _, rfl, rfl, 1, _, rfl, by rw [la']; omega, fun D hD => lc_range (lo := 1) (n := (((a.map V.int).length : Int) + 1 - 1).toNat) (fun i H' => Same H H' ∧ H' D = some (.lst ((((List.range i).map (· + 1)).filter (Rd.isRep a)).map fun t => .int ((t : Nat) : Int)))) ⟨same_new hD, upd_same⟩ ?_ ?_⟩
  · rintro i H' hi ⟨s1, eD⟩
    rw [la'] at hi
    have hi' : i + 1 ≤ a.length := by omega
    have e1 : (1 : Int) + (i : Int) = ((i + 1 : Nat) : Int) := by omega
    refine ⟨rfl, ?_⟩
    rw [e1]
    have hdv : ((a.length : Nat) : Int) / ((i + 1 : Nat) : Int) = ((a.length / (i + 1) : Nat) : Int) := by rw [← Int.natCast_ediv]
    have hd1 : 1 ≤ a.length / (i + 1) := (Nat.one_le_div_iff (by omega)).mpr hi'
    have hd2 : a.length / (i + 1) ≤ a.length := Nat.div_le_self _ _
    refine ⟨_, rfl, _, rfl, _, rfl, sl_ok (same_tup s1 hy) fun p2 H2 s2 h2 => ⟨_, rfl, y, _, rfl, .inr (same_tup s2 (same_tup s1 hy)), _, rfl, _, _, rfl, rfl, wide_div (b := 64) (by omega) (by omega) (by decide) (by decide), ?_⟩⟩
    rw [cut_to, map_take] at h2
    show rRepA K (.ref p2) (.int (((a.map V.int).length : Int) / ((i + 1 : Nat) : Int))) H2 _
    rw [la', hdv]
    have htk : (a.take (i + 1)).length = i + 1 := by rw [List.length_take, Nat.min_eq_left hi']
    refine rep_ok h2 (fun z => ?_) (by omega) (by omega) (by rw [List.length_map, htk]; omega) fun p3 H3 s3 h3 => ⟨_, rfl, ?_⟩
    · have := congrArg List.length z
      rw [List.length_map, htk] at this
      cases this
    rw [Int.toNat_natCast, map_rep] at h3
    refine ⟨_, _, dpI h3, dpI (same_tup s3 (same_tup s2 (same_tup s1 hy))), shI _, shI _, _, rfl, ?_⟩
    rw [eqvI]
    have s23 := s2.trans s3
    have lenOk : ((((List.range i).map (· + 1)).filter (Rd.isRep a)).map fun t => V.int ((t : Nat) : Int)).length < 1000000 := by
      rw [List.length_map]
      refine Nat.lt_of_le_of_lt (List.length_filter_le _ _) ?_
      rw [List.length_map, List.length_range]
      omega
    refine ite2 (fun e2 => ?_) (fun e2 => ?_)
    · refine ⟨_, rfl, _, s23 _ _ eD, szl lenOk, fun c o hc => ?_, ?_⟩
      · rw [upd_ne (ne_of_none hc hD)]
        exact s23 _ _ (s1 _ _ hc)
      · have er : Rd.isRep a (i + 1) = true := e2
        rw [upd_same, Rd.sizes_at, if_pos er, List.map_append] <;> rfl
    · have er : ¬ Rd.isRep a (i + 1) = true := e2
      refine ⟨s1.trans s23, ?_⟩
      rw [s23 _ _ eD, Rd.sizes_at, if_neg er, List.append_nil]
  · rintro H1 ⟨s1, eD⟩
    have en : (((a.map V.int).length : Int) + 1 - 1).toNat = a.length := by rw [la']; omega
    rw [en] at eD
    have eD' : H1 D = some (.lst ((Rd.sizes a).map fun t => .int ((t : Nat) : Int))) := eD
    obtain ⟨t1, t2, t3⟩ := Rd.leastS_mem hne
    have htk : (a.take (Rd.leastS a)).length = Rd.leastS a := by rw [List.length_take, Nat.min_eq_left t2]
    -- ahead, ring
    refine ⟨_, rfl, x, _, rfl, .inr (same_tup s1 hx), fun A nA => ⟨_, rfl, _, rfl, D, _, 0, .int (Rd.leastS a), rfl, rfl, sL (same_new nA _ _ eD'), atI_nat (j := 0) (by rw [List.getElem?_map, Rd.sizes_hd hne] <;> rfl), _, rfl, ?_⟩⟩
    have s2 := same_new (o := .lst (b.map V.int)) nA
    refine sl_ok (same_tup s2 (same_tup s1 hy)) fun p3 H3 s3 h3 => ⟨p3, _, rfl, .inr h3, fun R nR => ?_⟩
    rw [cut_to, map_take] at h3
    have s4 := same_new (o := .lst (cutV (a.map V.int) none (some (Rd.leastS a : Int)))) nR
    have hA : H A = none := s1.free nA
    have eA : (upd H1 A (.lst (b.map V.int))) A = some (.lst (b.map V.int)) := upd_same
    have neAR : A ≠ R := ne_of_none (s3 _ _ eA) nR
    refine ⟨_, _, rfl, fun m σ H' => ∃ (b' a' : List Int) (R' : Addr) (z : Option V), σ = [some (.ref x), some (.ref y), some (.ref D), some (.ref A), some (.ref R'), z] ∧ m = b'.length ∧ a' ≠ [] ∧ b'.length ≤ 1000 ∧ a'.length ≤ 1000 ∧ Same H H' ∧ H' A = some (.lst (b'.map V.int)) ∧ H' R' = some (.lst (a'.map V.int)) ∧ A ≠ R' ∧ Rd.rot b' a' = Rd.least b a,
      ⟨_, b, a.take (Rd.leastS a), R, none, rfl, rfl, Rd.take_ne hne, lb, by omega, ((s1.trans s2).trans s3).trans s4, s4 _ _ (s3 _ _ eA), by rw [upd_same, cut_to, map_take], neAR, rfl⟩, ?_⟩
    rintro m σ H5 ⟨b', a', R', z, rfl, rfl, ha', lb', lt', s5, eA5, eR5, neR, hrot⟩
    -- ahead != []
    refine ⟨_, rfl, by show 0 ≤ sizeLine; decide, fun e0 ne0 => ?_⟩
    have s6 := same_new (o := .lst []) ne0
    refine ⟨_, _, dpLi (sL (s6 _ _ eA5)), dpLi (ns := []) (sL upd_same), shLi _, shLi _, _, rfl, ?_⟩
    rw [eqvLi]
    have fin : ∀ H7, Same H5 H7 → ¬ (b' ≠ [] ∧ b'.getLast? = a'.getLast?) → ∀ (u v r : Addr), H7 u = none → (upd H7 u (.tup (b'.map V.int))) v = none → (upd (upd H7 u (.tup (b'.map V.int))) v (.tup (a'.map V.int))) r = none → Q (.ref r) (upd (upd (upd H7 u (.tup (b'.map V.int))) v (.tup (a'.map V.int))) r (.tup [.ref u, .ref v])) := fun H7 s7 hn u v r nu nv nr => by
      rw [Rd.rot_stop hn] at hrot
      have su := same_new (o := .tup (b'.map V.int)) nu
      have sv := same_new (o := .tup (a'.map V.int)) nv
      have sr := same_new (o := .tup [.ref u, .ref v]) nr
      refine q (.ref r) _ ((((s5.trans s7).trans su).trans sv).trans sr) ?_
      rw [← hrot]
      exact ⟨r, u, v, rfl, sT upd_same, same_tup sr (same_tup sv (sT upd_same)), same_tup sr (sT upd_same)⟩
    by_cases hb0 : b' = []
    · rw [decide_eq_true hb0]
      refine iteF (iteF ⟨_, rfl, A, _, rfl, .inl ⟨sL (s6 _ _ eA5), fun u nu => ⟨_, rfl, R', _, rfl, .inl ⟨sL (same_new nu _ _ (s6 _ _ eR5)), fun v nv => ⟨by show 2 ≤ sizeLine; decide, fun r nr => fin _ s6 (fun z => z.1 hb0) u v r nu nv nr⟩⟩⟩⟩⟩)
    · rw [decide_eq_false hb0]
      obtain ⟨c, u, rfl⟩ := Rd.split_last hb0
      obtain ⟨dd, w', rfl⟩ := Rd.split_last ha'
      refine iteT ⟨_, rfl, _, rfl, A, _, _, .int u, rfl, rfl, sL (s6 _ _ eA5), ?_, _, rfl, _, rfl, R', _, _, .int w', rfl, rfl, sL (s6 _ _ eR5), ?_, rfl, _, rfl, ?_⟩
      · rw [List.map_append]
        exact atI_last _ _
      · rw [List.map_append]
        exact atI_last _ _
      by_cases huw : u = w'
      · subst huw
        rw [decide_eq_true rfl]
        refine iteT ⟨fun σ' H' => ∃ (R6 : Addr) (z : Option V), σ' = [some (.ref x), some (.ref y), some (.ref D), some (.ref A), some (.ref R6), z] ∧ Same H H' ∧ H' A = some (.lst (c.map V.int)) ∧ H' R6 = some (.lst ((u :: dd).map V.int)) ∧ A ≠ R6, ?_, ?_⟩
        · rintro σ' H' ⟨R6, z, rfl, s7, h6, h7, n7⟩
          refine ⟨c.length, by rw [List.length_append]; exact Nat.lt_succ_self _, c, u :: dd, R6, z, rfl, rfl, List.cons_ne_nil _ _, by rw [List.length_append] at lb'; omega, ?_, s7, h6, h7, n7, ?_⟩
          · rw [List.length_append] at lt'
            exact lt'
          · rw [← hrot, Rd.rot_go]
        · refine ⟨_, rfl, _, rfl, R', _, _, .int u, rfl, rfl, sL (s6 _ _ eR5), ?_, by show 1 ≤ sizeLine; decide, fun p7 n7 => ?_⟩
          · rw [List.map_append]
            exact atI_last _ _
          have s7 := same_new (o := .lst [.int u]) n7
          refine ⟨_, rfl, _, rfl, _, rfl, R', _, rfl, sL (s7 _ _ (s6 _ _ eR5)), fun p8 n8 => ?_⟩
          have s8 := same_new (o := .lst (cutV ((dd ++ [u]).map V.int) none (some (-1)))) n8
          have e10 : cutV ((dd ++ [u]).map V.int) none (some (-1)) = dd.map V.int := by rw [cut_init, List.map_append]; exact List.dropLast_concat
          refine ⟨p7, p8, _, _, rfl, rfl, s8 _ _ upd_same, upd_same, ?_, fun p9 n9 => ?_⟩
          · have el : (cutV ((dd ++ [u]).map V.int) none (some (-1))).length = dd.length := by rw [e10, List.length_map]
            show 1 + (cutV ((dd ++ [u]).map V.int) none (some (-1))).length ≤ sizeLine
            rw [el]
            rw [List.length_append] at lt'
            exact sz (by have : [u].length = 1 := rfl; omega)
          have s9 := same_new (o := .lst ([V.int u] ++ cutV ((dd ++ [u]).map V.int) none (some (-1)))) n9
          have eA9 := s9 _ _ (s8 _ _ (s7 _ _ (s6 _ _ eA5)))
          have nA9 : A ≠ p9 := ne_of_none (s8 _ _ (s7 _ _ (s6 _ _ eA5))) n9
          refine ⟨_, rfl, .inl ⟨rfl, _, sL eA9⟩, A, _, .int u, rfl, rfl, eA9, ?_, p9, _, rfl, fun cc o hc => ?_, ?_, ?_, nA9⟩
          · rw [List.map_append, List.length_append]
            show (c.map V.int ++ [V.int u])[(c.map V.int).length + 1 - 1]? = _
            rw [Nat.add_sub_cancel, List.getElem?_append_right (Nat.le_refl _), Nat.sub_self] <;> rfl
          · rw [upd_ne (ne_of_none hc hA)]
            exact s9 _ _ (s8 _ _ (s7 _ _ (s6 _ _ (s5 _ _ hc))))
          · rw [upd_same, List.map_append]
            show some (HO.lst ((c.map V.int ++ [V.int u]).dropLast)) = _
            rw [List.dropLast_concat]
          · rw [upd_ne (Ne.symm nA9), upd_same, e10] <;> rfl
      · rw [decide_eq_false (fun z => huw (V.int.inj z))]
        refine iteF ⟨_, rfl, A, _, rfl, .inl ⟨sL (s6 _ _ eA5), fun u' nu => ⟨_, rfl, R', _, rfl, .inl ⟨sL (same_new nu _ _ (s6 _ _ eR5)), fun v nv => ⟨by show 2 ≤ sizeLine; decide, fun r nr => fin _ s6 (fun z => huw (by simpa using z.2)) u' v r nu nv nr⟩⟩⟩⟩⟩
theorem ok_law_rd_letters (B : Blt mg)  {f : Addr} {fd : FuncData} (F : Dn K mg "_law_rd_letters" s_law_rd_letters ["pair", "many"] f fd) : FnOk P w K mg base CX0 1 f fd ["pair", "many"] (sp_law_rd_letters K) := by
  refine F.ok sc_law_rd_letters (fun vs H Q E h => by obtain ⟨v, b, a, n, rfl, _⟩ := h; rfl) (fun cdv A outer s H vs Q E hr h => ?_)
  obtain ⟨v, b, a, n, rfl, ⟨p, x, y, rfl, hT, hx, hy⟩, hne, lb, la, hn, q⟩ := h
  have hp : 0 < a.length := List.length_pos_iff.mpr hne
  refine ⟨_, (pss_cons (ps_set (i := 2) sc_law_rd_letters.nd rfl (Or.inl rfl) (pe_ix (ix_tK K rfl) (pv 0) pe_int (fun _ _ => rfl)))
      (pss_cons (ps_while PassesOwn.never (pt_cmpR op_lt (pe_callB (call_lenK K rfl) (by rfl) B.len' PySem.boot_len (pa_cons (pv 2) pa_nil)) (pv 1) (nomark _)) (pss_one (ps_set (i := 2) sc_law_rd_letters.nd rfl (Or.inl rfl) (pe_op (op_catK K rfl) (pv 2) (pe_ix (ix_tK K rfl) (pv 0) pe_int (fun _ _ => rfl))))))
      (pss_one (ps_ret (pe_slice (sl_tK K rfl) (pv 2) po_none (po_some (pv 1))))))), ?_⟩
  refine ⟨_, rfl, p, _, _, .ref x, rfl, rfl, hT, rfl, fun m σ H' => ∃ (r : Addr) (j : Nat), σ = [some (.ref p), some (.int n), some (.ref r)] ∧ m = n - (b ++ Rd.rep j a).length ∧ (b ++ Rd.rep j a).length ≤ 10000 ∧ Same H H' ∧ SqT K H' r ((b ++ Rd.rep j a).map V.int), ⟨_, x, 0, rfl, rfl, ?_, Same.refl H, ?_⟩, ?_⟩
  · show (b ++ []).length ≤ 10000
    rw [List.append_nil]
    omega
  · show SqT K H x ((b ++ []).map V.int)
    rw [List.append_nil]
    exact hx
  rintro m σ H1 ⟨r, j, rfl, rfl, hl, s1, hr1⟩
  refine ⟨_, rfl, r, _, rfl, .inr hr1, _, rfl, _, _, rfl, rfl, _, rfl, ?_⟩
  rw [List.length_map]
  refine ite2 (fun e => ?_) (fun e => ?_)
  · have hlt : (b ++ Rd.rep j a).length < n := by
      have := of_decide_eq_true e
      omega
    refine ⟨fun σ' H' => ∃ r' : Addr, σ' = [some (.ref p), some (.int n), some (.ref r')] ∧ Same H1 H' ∧ SqT K H' r' ((b ++ Rd.rep (j + 1) a).map V.int), ?_, ?_⟩
    · rintro σ' H' ⟨r', rfl, s2, h2⟩
      have e1 : (b ++ Rd.rep (j + 1) a).length = (b ++ Rd.rep j a).length + a.length := by
        rw [Rd.rep_succ, ← List.append_assoc, List.length_append]
      exact ⟨_, by omega, r', j + 1, rfl, rfl, by omega, s1.trans s2, h2⟩
    · refine ⟨_, rfl, _, rfl, p, _, _, .ref y, rfl, rfl, same_tup s1 hT, rfl, cat_ok hr1 (same_tup s1 hy) (by rw [List.length_map, List.length_map]; omega) fun r' H2 s2 h2 => ⟨r', rfl, s2, ?_⟩⟩
      rw [Rd.rep_succ, ← List.append_assoc, List.map_append]
      exact h2
  · have hge : n ≤ (b ++ Rd.rep j a).length := by
      have e' : ¬ (((b ++ Rd.rep j a).length : Nat) : Int) < (n : Int) := fun z => e (decide_eq_true z)
      omega
    refine ⟨_, rfl, _, rfl, _, rfl, sl_ok hr1 fun t H2 s2 h2 => q t H2 (s1.trans s2) ?_⟩
    rw [cut_to, map_take, firstL_of hge] at h2
    exact h2
theorem ok_law_rd_drawn (B : Blt mg) (c_law_word : Cl CX0 P w K mg base 2 "_law_word" (sp_law_word K) []) (c_law_roll : Cl CX0 P w K mg base 1 "_law_roll" sp_law_roll [])  {f : Addr} {fd : FuncData} (F : Dn K mg "_law_rd_drawn" s_law_rd_drawn ["dice", "width", "most"] f fd) : FnOk P w K mg base CX0 3 f fd ["dice", "width", "most"] (sp_law_rd_drawn K) := by
  refine F.ok sc_law_rd_drawn (fun vs H Q E h => by obtain ⟨d, k, m, n, rfl, _⟩ := h; rfl) (fun cdv A outer s H vs Q E hr h => ?_)
  obtain ⟨d, k, m, n, rfl, D0, hn, m1, m2, k0, k1, q⟩ := h
  refine ⟨_, (pss_one (ps_ret (pe_tup (pa_cons (pe_c c_law_word hr (by decide) (by rfl) (pa_cons (pv 0) (pa_cons (pv 1) (pa_cons (pv 2) pa_nil)))) (pa_cons (pe_op (op_catK K rfl) (pe_tup (pa_cons (pe_c c_law_roll hr (by decide) (by rfl) (pa_cons (pv 0) (pa_cons (pv 1) pa_nil))) pa_nil)) (pe_c c_law_word hr (by decide) (by rfl) (pa_cons (pv 0) (pa_cons (pv 1) (pa_cons (pe_op op_sub (pv 2) pe_int) pa_nil))))) pa_nil))))), ?_⟩
  refine ⟨_, rfl, _, rfl, _, rfl, d, k, m, n, rfl, D0, by omega, by omega, k0, k1, fun x b H1 kd1 D1 hx wb lb => ⟨_, rfl, _, rfl, d, k, _, rfl, D1, by omega, k0, by omega, fun v H2 v0 v1 kd2 D2 => ⟨by show 1 ≤ sizeLine; decide, fun t nt => ?_⟩⟩⟩
  have st := same_new (o := .tup [.int v]) nt
  refine ⟨_, rfl, _, rfl, _, rfl, _, _, rfl, rfl, d, k, m - 1, _, ?_, D2.same st, by omega, by omega, k0, k1, fun y a H3 kd3 D3 hy wa la => ?_⟩
  · have e : (m : Int) - 1 = ((m - 1 : Nat) : Int) := by omega
    show [V.ref d, V.int k, V.int ((m : Int) - 1)] ++ [] = _
    rw [e] <;> rfl
  refine cat_ok (kd3.tup (sT upd_same)) hy ?_ fun z H4 s4 hz => ⟨by show 2 ≤ sizeLine; decide, fun p np => ?_⟩
  · rw [List.length_map]
    show 1 + a.length ≤ 1000000
    omega
  have sp := same_new (o := .tup [.ref x, .ref z]) np
  have kall := ((((kd1.trans kd2).trans (Kd.same st)).trans kd3).trans (Kd.same s4)).trans (Kd.same sp)
  refine q (.ref p) b (v :: a) _ kall (((D3.same s4).same sp).more (by omega)) ⟨p, x, z, rfl, sT upd_same, same_tup sp (same_tup s4 (kd3.tup (same_tup st (kd2.tup hx)))), same_tup sp hz⟩ wb (fun u hu => ?_) (List.cons_ne_nil _ _) lb (by show a.length + 1 ≤ m; omega)
  rcases List.mem_cons.mp hu with rfl | hu
  · exact ⟨v0, v1⟩
  · exact wa u hu
end
end Br

namespace Br
open PySem PySem.Spec PyProof.Rows L2 SlX RZ Mm Nb
local macro_rules | `(tactic| walk_at "up") => `(tactic| first | assumption | exact sT (by assumption) | exact sL (by assumption) | (with_reducible refine same_tup (by assumption) ?_; walk_at "up") | (with_reducible refine Kd.tup (by assumption) ?_; walk_at "up") | (with_reducible refine same_lst (by assumption) ?_; walk_at "up") | (with_reducible refine same_at (by assumption) ?_; walk_at "up"))
local macro_rules | `(tactic| walk_at "sm") => `(tactic| first | exact Same.refl _ | assumption | (refine Same.trans ?_ (by assumption); walk_at "sm"))
local macro_rules | `(tactic| walk_at "kd") => `(tactic| first | exact Kd.refl | assumption | exact Kd.same (by assumption) | (with_reducible refine Kd.trans ?_ (by assumption); walk_at "kd") | (with_reducible refine Kd.trans ?_ (Kd.same (by assumption)); walk_at "kd"))
section
variable {P : Program} {w : World} {K : PySem.W.Frag} {mg : Str → Option Value} {base : Heap}
theorem ok_common_of (B : Blt mg)  {f : Addr} {fd : FuncData} (F : Dn K mg "common_of" s_common_of ["one", "other"] f fd) : FnOk P w K mg base CX0 1 f fd ["one", "other"] sp_common_of := by
  refine F.ok sc_common_of (fun vs H Q E h => by obtain ⟨a, b, rfl, _⟩ := h; rfl) (fun cdv A outer s H vs Q E hr h => ?_)
  obtain ⟨a, b, rfl, q⟩ := h
  refine ⟨_, (pss_cons (ps_par (i := 0) (j := 1) (by rfl) sc_common_of.nd rfl rfl (by decide) rfl rfl (pa_cons (pe_callB call_abs (by rfl) B.abs' (by decide +kernel) (pa_cons (pv 0) pa_nil)) (pa_cons (pe_callB call_abs (by rfl) B.abs' (by decide +kernel) (pa_cons (pv 1) pa_nil)) pa_nil)) (by rfl))
      (pss_cons (ps_while PassesOwn.never (pt_cmpR op_ne (pv 1) pe_int (nomark _)) (pss_one (ps_par (i := 0) (j := 1) (by rfl) sc_common_of.nd rfl rfl (by decide) rfl rfl (pa_cons (pv 1) (pa_cons (pe_op op_mod (pv 0) (pv 1)) pa_nil)) (by rfl))))
      (pss_one (ps_ret (pv 0))))), ?_⟩
  have ab : ∀ x : Int, (if x < 0 then -x else x) = ((x.natAbs : Nat) : Int) := fun x => by split <;> omega
  refine ⟨_, rfl, a, rfl, _, rfl, b, rfl, _, _, rfl, ?_⟩
  rw [ab, ab]
  refine ⟨fun mm σ H' => ∃ x y : Nat, mm = y ∧ σ = [some (.int (x : Int)), some (.int (y : Int))] ∧ Nat.gcd x y = Int.gcd a b ∧ H' = H, ⟨_, a.natAbs, b.natAbs, rfl, rfl, rfl, rfl⟩, ?_⟩
  rintro mm σ H' ⟨x, y, hm, rfl, hg, rfl⟩
  refine ⟨_, rfl, rfl, _, rfl, ?_⟩
  by_cases hy : y = 0
  · subst hy
    rw [Nat.gcd_zero_right] at hg
    refine ifF (by simp) ⟨_, rfl, ?_⟩
    rw [hg]
    exact q
  · refine ifT (by simp [hy]) ?_
    refine ⟨fun σ' H'' => σ' = [some (.int (y : Int)), some (.int ((x % y : Nat) : Int))] ∧ H'' = H', fun σ' H'' ⟨e1, e2⟩ => ⟨x % y, by have := Nat.mod_lt x (y := y) (by omega); omega, y, x % y, rfl, e1, by rw [← hg, Nat.gcd_comm, Nat.gcd_comm x y, ← Nat.gcd_rec, Nat.gcd_comm], e2⟩, ?_⟩
    exact ⟨_, rfl, _, rfl, _, rfl, _, _, rfl, rfl, by omega, _, _, rfl, rfl, rfl⟩
theorem ok_lowest (B : Blt mg) (c_common_of : Cl CX0 P w K mg base 1 "common_of" sp_common_of [])  {f : Addr} {fd : FuncData} (F : Dn K mg "lowest" s_lowest ["top", "bottom"] f fd) : FnOk P w K mg base CX0 2 f fd ["top", "bottom"] (sp_lowest K) := by
  refine F.ok sc_lowest (fun vs H Q E h => by obtain ⟨c, t, o, rfl, _⟩ := h; rfl) (fun cdv A outer s H vs Q E hr h => ?_)
  obtain ⟨c, t, o, rfl, hg, o1, c0, cs, q⟩ := h
  refine ⟨_, (pss_cons (ps_set (i := 2) sc_lowest.nd rfl (Or.inl rfl) (pe_ifExp (pt_cmpR op_gt (pv 1) pe_int (nomark _)) (pe_c c_common_of hr (by decide) (by rfl) (pa_cons (pv 0) (pa_cons (pv 1) pa_nil))) (pe_op op_sub pe_int (pe_c c_common_of hr (by decide) (by rfl) (pa_cons (pv 0) (pa_cons (pv 1) pa_nil))))))
      (pss_one (ps_ret (pe_tupS (pa_cons (pe_op op_fdivX (pv 0) (pv 2)) (pa_cons (pe_op op_fdivX (pv 1) (pv 2)) pa_nil)))))), ?_⟩
  have g : Int.gcd (c * t) (c * o) = c.natAbs := by rw [Int.gcd_mul_left, hg, Nat.mul_one]
  have hc : CDivX 0 c := ⟨c0, Nat.lt_of_lt_of_le (log_of cs (by omega)) (by omega)⟩
  have fin : ∀ x : Int, x = c → tRet (tTupS (tCons (tOp (L2.rI CDivX fun i j => V.int (i.fdiv j)) (tVar 0) (tVar 2)) (tCons (tOp (L2.rI CDivX fun i j => V.int (i.fdiv j)) (tVar 1) (tVar 2)) tNil))) { nx := fun x H' => Q V.non H', rt := Q } [some (.int (c * t)), some (.int (c * o)), some (.int x)] H := fun x e => by
    subst e
    refine ⟨_, rfl, _, rfl, _, _, rfl, rfl, hc, _, rfl, _, rfl, _, _, rfl, rfl, hc, by show 2 ≤ 1000000; decide, fun p H1 n1 s1 e1 => q p H1 s1 ?_⟩
    have e1' : H1 p = some (.tup [.int ((x * t).fdiv x), .int ((x * o).fdiv x)]) := e1
    rw [Int.mul_fdiv_cancel_left _ c0, Int.mul_fdiv_cancel_left _ c0] at e1'
    exact sT e1'
  refine ⟨_, rfl, _, _, rfl, rfl, _, rfl, ?_⟩
  by_cases cp : 0 < c
  · have : 0 < c * o := Int.mul_pos cp (by omega)
    exact ifT (decide_eq_true this) ⟨_, rfl, _, rfl, _, _, rfl, fin _ (by rw [g]; omega)⟩
  · have : c * o ≤ c * 0 := Int.mul_le_mul_of_nonpos_left (by omega) (by omega)
    exact ifF (decide_eq_false (by omega)) ⟨_, rfl, _, rfl, _, _, rfl, _, _, rfl, rfl, fin _ (by rw [g]; omega)⟩
theorem ok_digit_of (B : Blt mg)  {f : Addr} {fd : FuncData} (F : Dn K mg "digit_of" s_digit_of ["width", "total", "over"] f fd) : FnOk P w K mg base CX0 1 f fd ["width", "total", "over"] sp_digit_of := by
  refine F.ok sc_digit_of (fun vs H Q E h => by obtain ⟨wd, t, o, rfl, _⟩ := h; rfl) (fun cdv A outer s H vs Q E hr h => ?_)
  obtain ⟨wd, t, o, rfl, ok, ho, q⟩ := h
  refine ⟨_, (pss_one (ps_ret (pe_ix (ix_lK K rfl) (pe_lc (own := [("digit", 3)]) (by rfl) sc_digit_of.nd (pi_range1 (by rfl) B.range' (pa_cons (pv 0) pa_nil)) (blkOk_by (own := [("digit", 3)]) (N := ["width", "total", "over", "digit"]) (sc := defScope s_digit_of) (by decide +kernel)) (fun _ _ _ _ _ => (pg_name (i := 3) sc_digit_of.nd rfl (Or.inl rfl))) (fun _ _ _ _ _ => (pts_one (pt_cmpR op_eq (pe_op op_mod (pe_op op_sub (pv 1) (pe_op op_mulW (pv 3) (pv 2))) (pv 0)) pe_int (nomark _)))) (fun _ _ _ _ _ => (pv 3))) pe_int (fun _ _ => rfl)))), ?_⟩
  have w2 := ok.w2
  have w5 := ok.w5
  let p : Int → Bool := fun d => decide ((t - d * o) % wd = 0)
  refine ⟨_, rfl, wd, rfl, by omega, by omega, fun D nD => lc_range (lo := 0) (n := wd.toNat) (fun i H' => Same H H' ∧ H' D = some (.lst (vi (((List.range i).map Int.ofNat).filter p)))) ⟨same_new nD, upd_same⟩ ?_ ?_⟩
  · rintro j H8 hj ⟨s8, eD⟩
    rw [Int.zero_add]
    refine ⟨rfl, _, rfl, _, rfl, _, rfl, _, _, rfl, rfl, wide_mul (a := 3) (b := 700) (by omega) ho (by omega) (by omega) (by omega), _, _, rfl, rfl, _, rfl, _, _, rfl, rfl, by omega, rfl, _, rfl, ?_⟩
    by_cases hp : p (j : Int) = true
    · refine ifT (decide_eq_true (congrArg V.int (show (t - (j : Int) * o) % wd = 0 from of_decide_eq_true hp))) ⟨_, rfl, _, eD, szl (by rw [vi_len]; have := fil_len p j; omega), same_upd s8 nD, ?_⟩
      rw [upd_same, fil_succ, if_pos hp, vi_snoc]
    · refine ifF (decide_eq_false fun z => hp (decide_eq_true (V.int.inj z))) ⟨s8, ?_⟩
      rw [fil_succ, if_neg hp]
      exact eD
  · rintro H8 ⟨s8, eD⟩
    rw [(dg_filter ok t).1] at eD
    exact ⟨D, _, 0, .int (dg wd o t), rfl, rfl, sL eD, rfl, q H8 s8⟩
theorem ok_low_in (B : Blt mg)  {f : Addr} {fd : FuncData} (F : Dn K mg "low_in" s_low_in ["width", "word"] f fd) : FnOk P w K mg base CX0 1 f fd ["width", "word"] (sp_low_in K) := by
  refine F.ok sc_low_in (fun vs H Q E h => by obtain ⟨wd, p, ns, rfl, _⟩ := h; rfl) (fun cdv A outer s H vs Q E hr h => ?_)
  obtain ⟨wd, p, ns, rfl, hS, w2, w5, hi, hl, q⟩ := h
  refine ⟨_, (pss_cons (ps_set (i := 2) sc_low_in.nd rfl (Or.inl rfl) pe_int)
      (pss_cons (ps_for PassesOwn.never rfl (pi_tK K rfl (pe_revTS K rfl (pv 1))) (pg_name (i := 3) sc_low_in.nd rfl (Or.inl rfl)) (pss_one (ps_set (i := 2) sc_low_in.nd rfl (Or.inl rfl) (pe_op op_add (pe_op op_mulW (pv 2) (pv 0)) (pv 3)))))
      (pss_one (ps_ret (pv 2))))), ?_⟩
  refine ⟨_, rfl, p, _, rfl, hS, fun pr H1 n1 s1 e1 => ⟨pr, rfl, ⟨_, sT e1⟩, for_map (n := ((vi ns).reverse).length) (item := fun i x _ => ((vi ns).reverse)[i]? = some x) (fun i σ H' => ∃ z, σ = [some (.int wd), some (.ref p), some (.int (low wd (ns.drop (ns.length - i)))), z] ∧ Same H1 H') ⟨none, by rw [Nat.sub_zero, List.drop_length]; rfl, Same.refl _⟩ (fun i σ H' _ ⟨_, _, s⟩ => steadyT (sT (s _ _ e1))) ?_ ?_⟩⟩
  · rintro i x σ H6 H7 hi' ⟨z, rfl, s6⟩ s7 hx
    rw [List.length_reverse, vi_len] at hi'
    rw [List.getElem?_reverse (by rw [vi_len]; exact hi'), vi_len] at hx
    have hy : ns[ns.length - 1 - i]? = some ns[ns.length - 1 - i] := List.getElem?_eq_getElem (by omega)
    rw [vi_get hy] at hx
    cases hx
    have hin : In wd (ns.drop (ns.length - i)) := fun y hy => hi y (List.mem_of_mem_drop hy)
    have hb := low_abs w2 w5 hin
    have hd : ns.drop (ns.length - (i + 1)) = ns[ns.length - 1 - i] :: ns.drop (ns.length - i) := by
      have e : ns.length - i = ns.length - (i + 1) + 1 := by omega
      rw [e, ← List.getElem_cons_drop (by omega)]
      congr 2
      omega
    have hl2 : 3 * (ns.drop (ns.length - i)).length + 1 ≤ 2701 := by rw [List.length_drop]; omega
    refine ⟨_, rfl, _, rfl, _, _, rfl, rfl, wide_mul hb (b := 3) (by omega) (by omega) (by omega) (by omega), _, rfl, _, _, rfl, rfl, some (.int ns[ns.length - 1 - i]), ?_, s6.trans s7⟩
    rw [hd]
    show _ = [_, _, some (V.int (_ + wd * _)), _]
    rw [Int.mul_comm wd, Int.add_comm]
    rfl
  · rintro σ H6 ⟨z, rfl, s6⟩
    rw [List.length_reverse, vi_len, Nat.sub_self, List.drop_zero]
    exact ⟨_, rfl, q H6 (s1.trans s6)⟩
end
end Br

namespace Br
open PySem PySem.Spec PyProof.Rows L2 SlX RZ Mm Nb
local macro_rules | `(tactic| walk_at "up") => `(tactic| first | assumption | exact sT (by assumption) | exact sL (by assumption) | (with_reducible refine same_tup (by assumption) ?_; walk_at "up") | (with_reducible refine Kd.tup (by assumption) ?_; walk_at "up") | (with_reducible refine same_lst (by assumption) ?_; walk_at "up") | (with_reducible refine same_at (by assumption) ?_; walk_at "up"))
local macro_rules | `(tactic| walk_at "sm") => `(tactic| first | exact Same.refl _ | assumption | (refine Same.trans ?_ (by assumption); walk_at "sm"))
local macro_rules | `(tactic| walk_at "kd") => `(tactic| first | exact Kd.refl | assumption | exact Kd.same (by assumption) | (with_reducible refine Kd.trans ?_ (by assumption); walk_at "kd") | (with_reducible refine Kd.trans ?_ (Kd.same (by assumption)); walk_at "kd"))
section
variable {P : Program} {w : World} {K : PySem.W.Frag} {mg : Str → Option Value} {base : Heap}
theorem ok_is_number (B : Blt mg) (m_MAX_DIGITS : ∃ u, mg "MAX_DIGITS" = some u ∧ RelV (.int 200) u) (c_is_integer : Cl CX0 P w K mg base 1 "is_integer" (sp_is_integer K) []) (c_power_of : Cl CX0 P w K mg base 1 "power_of" sp_power_of []) (c_common_of : Cl CX0 P w K mg base 1 "common_of" sp_common_of [])  {f : Addr} {fd : FuncData} (F : Dn K mg "is_number" s_is_number ["width", "value"] f fd) : FnOk P w K mg base CX0 2 f fd ["width", "value"] (sp_is_number K) := by
  refine F.ok sc_is_number (fun vs H Q E h => by obtain ⟨wd, t, o, p, rfl, _⟩ := h; rfl) (fun cdv A outer s H vs Q E hr h => ?_)
  obtain ⟨wd, t, o, p, rfl, hN, q⟩ := h
  refine ⟨_, (pss_cons (ps_if (PW.pt (pw_or (pt_not (pt_val (pe_callB (call_isK K rfl) (by rfl) B.isinstance' (by decide +kernel) (pa_cons (pv 1) (pa_cons (pe_bltn (v := .ty "tuple") (by rfl) B.tuple' (by decide +kernel) rfl) pa_nil))))) (pw_or (pt_cmpR op_ne (pe_callB (call_lenK K rfl) (by rfl) B.len' PySem.boot_len (pa_cons (pv 1) pa_nil)) pe_int (nomark _)) (pw_or (pt_not (pt_val (pe_c c_is_integer hr (by decide) (by rfl) (pa_cons (pe_ix (ix_tK K rfl) (pv 1) pe_int (fun _ _ => rfl)) pa_nil)))) (pw_or1 (pt_not (pt_val (pe_c c_is_integer hr (by decide) (by rfl) (pa_cons (pe_ix (ix_tK K rfl) (pv 1) pe_int (fun _ _ => rfl)) pa_nil))))))))) (pss_one (ps_ret pe_bl)) pss_nil)
      (pss_cons (ps_if (PW.pt (pw_or (pt_cmpR op_lt (pe_ix (ix_tK K rfl) (pv 1) pe_int (fun _ _ => rfl)) pe_int (nomark _)) (pw_or1 (pt_cmpR op_ge (pe_callB (call_max2 rfl) (by rfl) B.max' (by decide +kernel) (pa_cons (pe_callB call_abs (by rfl) B.abs' (by decide +kernel) (pa_cons (pe_ix (ix_tK K rfl) (pv 1) pe_int (fun _ _ => rfl)) pa_nil)) (pa_cons (pe_ix (ix_tK K rfl) (pv 1) pe_int (fun _ _ => rfl)) pa_nil))) (pe_c c_power_of hr (by decide) (by rfl) (pa_cons pe_int (pa_cons (pe_gc (by rfl) m_MAX_DIGITS) pa_nil))) (nomark _))))) (pss_one (ps_ret pe_bl)) pss_nil)
      (pss_one (ps_ret (pe_and (pe_cmpR op_eq (pe_c c_common_of hr (by decide) (by rfl) (pa_cons (pe_ix (ix_tK K rfl) (pv 1) pe_int (fun _ _ => rfl)) (pa_cons (pe_ix (ix_tK K rfl) (pv 1) pe_int (fun _ _ => rfl)) pa_nil))) pe_int (nomark _)) (pe_one (pe_cmpR op_eq (pe_c c_common_of hr (by decide) (by rfl) (pa_cons (pv 0) (pa_cons (pe_ix (ix_tK K rfl) (pv 1) pe_int (fun _ _ => rfl)) pa_nil))) pe_int (nomark _)))))))), ?_⟩
  obtain ⟨hA, ok, hg, ts, qs⟩ := hN
  have q1 := ok.q1
  refine ⟨_, rfl, .ref p, .ty "tuple", _, .type "tuple", true, rfl, .ty "tuple", tyT hA, kit_tt, true, rfl, iteF ⟨_, rfl, p, _, rfl, .inr hA, rfl, _, rfl, ifF (by simp) ?_⟩⟩
  refine ⟨_, rfl, p, _, 0, _, rfl, rfl, hA, rfl, _, rfl, .int t, true, rfl, iteF ?_⟩
  refine ⟨_, rfl, p, _, 1, _, rfl, rfl, hA, rfl, _, rfl, .int o, true, rfl, ifF rfl ?_⟩
  have big : (2 : Int) ^ 600 ≤ 10 ^ 200 := by decide +kernel
  have mx : (if o > (if t < 0 then -t else t) then o else (if t < 0 then -t else t)) < (10 : Int) ^ 200 := by
    have : ((2 ^ 600 : Nat) : Int) = (2 : Int) ^ 600 := by norm_cast
    split <;> (try split) <;> omega
  refine ⟨_, rfl, p, _, 1, _, rfl, rfl, hA, rfl, _, _, rfl, rfl, _, rfl, ifF (decide_eq_false (by omega)) ?_⟩
  refine ⟨_, rfl, p, _, 0, _, rfl, rfl, hA, rfl, t, rfl, _, rfl, p, _, 1, _, rfl, rfl, hA, rfl, _, _, rfl, 10, 200, rfl, by decide, by decide, _, _, rfl, rfl, _, rfl, ifF (decide_eq_false (by omega)) ?_⟩
  refine ⟨_, rfl, p, _, 0, _, rfl, rfl, hA, rfl, _, rfl, p, _, 1, _, rfl, rfl, hA, rfl, t, o, rfl, rfl, _, rfl, ifT (by rw [hg]; rfl) ?_⟩
  refine ⟨_, rfl, _, rfl, p, _, 1, _, rfl, rfl, hA, rfl, wd, o, rfl, rfl, ?_⟩
  rw [ok.cop]
  exact q
theorem ok_number_in (B : Blt mg) (c_lowest : Cl CX0 P w K mg base 2 "lowest" (sp_lowest K) []) (c_power_of : Cl CX0 P w K mg base 1 "power_of" sp_power_of []) (c_low_in : Cl CX0 P w K mg base 1 "low_in" (sp_low_in K) [])  {f : Addr} {fd : FuncData} (F : Dn K mg "number_in" s_number_in ["width", "word"] f fd) : FnOk P w K mg base CX0 3 f fd ["width", "word"] (sp_number_in K) := by
  refine F.ok sc_number_in (fun vs H Q E h => by obtain ⟨wd, t, o, v, b, a, rfl, _⟩ := h; rfl) (fun cdv A outer s H vs Q E hr h => ?_)
  obtain ⟨wd, t, o, v, b, a, rfl, hV, ok, hg, hP, q⟩ := h
  refine ⟨_, (pss_cons (ps_asg (pv 1) (pg_tup (by rfl) (pgs_cons (pg_name (i := 2) sc_number_in.nd rfl (Or.inl rfl)) (pgs_cons (pg_name (i := 3) sc_number_in.nd rfl (Or.inl rfl)) pgs_nil))))
      (pss_cons (ps_set (i := 4) sc_number_in.nd rfl (Or.inl rfl) (pe_op op_sub pe_int (pe_c c_power_of hr (by decide) (by rfl) (pa_cons (pv 0) (pa_cons (pe_callB (call_lenK K rfl) (by rfl) B.len' PySem.boot_len (pa_cons (pv 3) pa_nil)) pa_nil)))))
      (pss_cons (ps_set (i := 5) sc_number_in.nd rfl (Or.inl rfl) (pe_op op_add (pe_op op_mulW (pe_c c_low_in hr (by decide) (by rfl) (pa_cons (pv 0) (pa_cons (pv 2) pa_nil))) (pv 4)) (pe_op op_mulW (pe_c c_power_of hr (by decide) (by rfl) (pa_cons (pv 0) (pa_cons (pe_callB (call_lenK K rfl) (by rfl) B.len' PySem.boot_len (pa_cons (pv 2) pa_nil)) pa_nil))) (pe_c c_low_in hr (by decide) (by rfl) (pa_cons (pv 0) (pa_cons (pv 3) pa_nil))))))
      (pss_one (ps_ret (pe_c c_lowest hr (by decide) (by rfl) (pa_cons (pv 5) (pa_cons (pv 4) pa_nil)))))))), ?_⟩
  have few := hP.few
  have w2 := ok.w2
  have w5 := ok.w5
  obtain ⟨c, hc1, hc2⟩ := number_frac w2 hP.ne hP.pt hg ok.q1
  obtain ⟨pv, x, y, rfl, h1, h2, h3⟩ := hV
  refine ⟨_, rfl, pv, _, rfl, h1, rfl, _, _, rfl, _, _, rfl, rfl, ?_⟩
  refine ⟨_, rfl, _, rfl, y, _, rfl, .inr h3, ?_⟩
  rw [List.length_map]
  refine ⟨wd, a.length, rfl, by omega, by omega, _, _, rfl, rfl, ?_⟩
  have bb := low_abs w2 w5 hP.ib
  have ba := low_abs w2 w5 hP.ia
  have pb := (pow_bits w2 w5 b.length).1
  have pa := (pow_bits w2 w5 a.length)
  have up : ∀ {m n : Nat}, m ≤ n → 2 ^ m ≤ 2 ^ n := fun h => Nat.pow_le_pow_right (by decide) h
  have e3 : (2 : Nat) ^ 2800 = 2 ^ 2799 * 2 := by rw [← Nat.pow_succ]
  have b1 : (1 - wd ^ a.length).natAbs < 2 ^ 2800 := by
    have := up (show 3 * a.length + 1 ≤ 2799 by omega)
    have h1 : 1 ≤ 2 ^ 2799 := Nat.one_le_two_pow
    omega
  have b2 : (low wd b).natAbs < 2 ^ 2800 := Nat.lt_of_lt_of_le bb (up (by omega))
  have b3 : (low wd a).natAbs < 2 ^ 2800 := Nat.lt_of_lt_of_le ba (up (by omega))
  have b4 : (wd ^ b.length).natAbs < 2 ^ 2800 := Nat.lt_of_lt_of_le pb (up (by omega))
  refine ⟨_, rfl, _, rfl, wd, x, b, rfl, h2, w2, w5, hP.ib, by omega, fun H1 s1 => ⟨_, rfl, _, _, rfl, rfl, wide_mul b2 b1 (by omega) (by omega) (by omega), ?_⟩⟩
  refine ⟨_, rfl, _, rfl, x, _, rfl, .inr (same_tup s1 h2), ?_⟩
  rw [List.length_map]
  refine ⟨wd, b.length, rfl, by omega, by omega, _, rfl, _, rfl, wd, y, a, rfl, same_tup s1 h3, w2, w5, hP.ia, by omega, fun H2 s2 => ⟨_, _, rfl, rfl, wide_mul b4 b3 (by omega) (by omega) (by omega), _, _, rfl, rfl, ?_⟩⟩
  have q1 := ok.q1
  have c0 : c ≠ 0 := fun z => by
    rw [z, Int.zero_mul] at hc2
    have := ok.pow1 (List.length_pos_iff.mpr hP.ne)
    omega
  refine ⟨_, rfl, _, rfl, c, t, o, by show [V.int (low wd b * (1 - wd ^ a.length) + wd ^ b.length * low wd a), V.int (1 - wd ^ a.length)] = _; rw [hc1, hc2], hg, q1, c0, ?_, fun p H3 s3 e3 => q p H3 ((s1.trans s2).trans s3) e3⟩
  have hle : c.natAbs * 1 ≤ c.natAbs * o.natAbs := Nat.mul_le_mul_left _ (by omega)
  rw [← Int.natAbs_mul, ← hc2] at hle
  exact Nat.lt_of_lt_of_le (by omega) (up (show 2800 ≤ 8000 by decide))
theorem ok_require_number (B : Blt mg) (c_is_number : Cl CX0 P w K mg base 2 "is_number" (sp_is_number K) [])  {f : Addr} {fd : FuncData} (F : Dn K mg "require_number" s_require_number ["width", "value"] f fd) : FnOk P w K mg base CX0 3 f fd ["width", "value"] (sp_require_number K) := by
  refine F.ok sc_require_number (fun vs H Q E h => by obtain ⟨wd, t, o, p, rfl, _⟩ := h; rfl) (fun cdv A outer s H vs Q E hr h => ?_)
  obtain ⟨wd, t, o, p, rfl, hN, q⟩ := h
  refine ⟨_, (pss_one (ps_if (pt_not (pt_val (pe_c c_is_number hr (by decide) (by rfl) (pa_cons (pv 0) (pa_cons (pv 1) pa_nil))))) (pss_one ps_never) pss_nil)), ?_⟩
  exact ⟨_, rfl, _, rfl, wd, t, o, p, rfl, hN, true, rfl, iteF q⟩
theorem ok_number_word (B : Blt mg) (c_require_width : Cl CX0 P w K mg base 4 "require_width" (sp_require_width K) []) (c_require_number : Cl CX0 P w K mg base 3 "require_number" (sp_require_number K) []) (c_word_in : Cl CX0 P w K mg base 2 "word_in" (sp_nb_word_in K) [])  {f : Addr} {fd : FuncData} (F : Dn K mg "number_word" s_number_word ["width", "number"] f fd) : FnOk P w K mg base CX0 5 f fd ["width", "number"] (sp_number_word K) := by
  refine F.ok sc_number_word (fun vs H Q E h => by obtain ⟨wd, t, o, p, b, a, rfl, _⟩ := h; rfl) (fun cdv A outer s H vs Q E hr h => ?_)
  obtain ⟨wd, t, o, p, b, a, rfl, hN, hP, q⟩ := h
  refine ⟨_, (pss_cons (ps_expr (pe_c c_require_width hr (by decide) (by rfl) (pa_cons (pv 0) pa_nil)))
      (pss_cons (ps_expr (pe_c c_require_number hr (by decide) (by rfl) (pa_cons (pv 0) (pa_cons (pv 1) pa_nil))))
      (pss_one (ps_ret (pe_c c_word_in hr (by decide) (by rfl) (pa_cons (pv 0) (pa_cons (pv 1) pa_nil))))))), ?_⟩
  have ok := hN.ok
  exact ⟨_, rfl, wd, rfl, ok.w2, ok.w5, _, rfl, _, rfl, wd, t, o, p, rfl, hN, _, rfl, _, rfl, wd, t, o, p, b, a, rfl, hN, hP, q⟩
theorem ok_word_number (B : Blt mg) (c_require_width : Cl CX0 P w K mg base 4 "require_width" (sp_require_width K) []) (c_require_round : Cl CX0 P w K mg base 6 "require_round" (sp_require_round K) []) (c_number_in : Cl CX0 P w K mg base 3 "number_in" (sp_number_in K) [])  {f : Addr} {fd : FuncData} (F : Dn K mg "word_number" s_word_number ["width", "word"] f fd) : FnOk P w K mg base CX0 7 f fd ["width", "word"] (sp_word_number K) := by
  refine F.ok sc_word_number (fun vs H Q E h => by obtain ⟨wd, t, o, v, b, a, rfl, _⟩ := h; rfl) (fun cdv A outer s H vs Q E hr h => ?_)
  obtain ⟨wd, t, o, v, b, a, rfl, hV, ok, hg, hP, q⟩ := h
  refine ⟨_, (pss_cons (ps_expr (pe_c c_require_width hr (by decide) (by rfl) (pa_cons (pv 0) pa_nil)))
      (pss_cons (ps_expr (pe_c c_require_round hr (by decide) (by rfl) (pa_cons (pv 0) (pa_cons (pv 1) pa_nil))))
      (pss_one (ps_ret (pe_c c_number_in hr (by decide) (by rfl) (pa_cons (pv 0) (pa_cons (pv 1) pa_nil))))))), ?_⟩
  have few := hP.few
  refine ⟨_, rfl, wd, rfl, ok.w2, ok.w5, _, rfl, _, rfl, wd, v, b, a, rfl, hV, hP.ib, hP.ia, hP.ne, by omega, by omega, fun H1 s1 => ?_⟩
  exact ⟨_, rfl, _, rfl, wd, t, o, v, b, a, rfl, hV.same s1, ok, hg, hP, fun p H2 s2 e2 => q p H2 (s1.trans s2) e2⟩
end
end Br

namespace Br
open PySem PySem.Spec PyProof.Rows L2 SlX RZ Mm Nb
local macro_rules | `(tactic| walk_at "up") => `(tactic| first | assumption | exact sT (by assumption) | exact sL (by assumption) | (with_reducible refine same_tup (by assumption) ?_; walk_at "up") | (with_reducible refine Kd.tup (by assumption) ?_; walk_at "up") | (with_reducible refine same_lst (by assumption) ?_; walk_at "up") | (with_reducible refine same_at (by assumption) ?_; walk_at "up"))
local macro_rules | `(tactic| walk_at "sm") => `(tactic| first | exact Same.refl _ | assumption | (refine Same.trans ?_ (by assumption); walk_at "sm"))
local macro_rules | `(tactic| walk_at "kd") => `(tactic| first | exact Kd.refl | assumption | exact Kd.same (by assumption) | (with_reducible refine Kd.trans ?_ (by assumption); walk_at "kd") | (with_reducible refine Kd.trans ?_ (Kd.same (by assumption)); walk_at "kd"))
section
variable {P : Program} {w : World} {K : PySem.W.Frag} {mg : Str → Option Value} {base : Heap}
theorem ok_word_in (B : Blt mg) (m_MOST_LETTERS : ∃ u, mg "MOST_LETTERS" = some u ∧ RelV (.int 4000) u) (c_least_round_in : Cl CX0 P w K mg base 1 "least_round_in" (sp_least_round_in K) []) (c_digit_of : Cl CX0 P w K mg base 1 "digit_of" sp_digit_of [])  {f : Addr} {fd : FuncData} (F : Dn K mg "word_in" s_word_in ["width", "number"] f fd) : FnOk P w K mg base CX0 2 f fd ["width", "number"] (sp_nb_word_in K) := by
  refine F.ok sc_word_in (fun vs H Q E h => by obtain ⟨wd, t, o, p, b, a, rfl, _⟩ := h; rfl) (fun cdv A outer s H vs Q E hr h => ?_)
  obtain ⟨wd, t, o, p, b, a, rfl, hN, hP, q⟩ := h
  refine ⟨_, (pss_cons (ps_asg (pe_tupS (pa_cons (pv 1) (pa_cons (pe_lstS pa_nil) (pa_cons pe_dnewS pa_nil)))) (pg_tup (by rfl) (pgs_cons (pg_tup (by rfl) (pgs_cons (pg_name (i := 2) sc_word_in.nd rfl (Or.inl rfl)) (pgs_cons (pg_name (i := 3) sc_word_in.nd rfl (Or.inl rfl)) pgs_nil))) (pgs_cons (pg_name (i := 4) sc_word_in.nd rfl (Or.inl rfl)) (pgs_cons (pg_name (i := 5) sc_word_in.nd rfl (Or.inl rfl)) pgs_nil)))))
      (pss_cons (ps_while PassesOwn.never (pt_cmp (pc_dnotin (hu1 hr) (pv 2) (pv 5))) (pss_cons (ps_if (pt_cmpR op_gt (pe_callB (call_lenK K rfl) (by rfl) B.len' PySem.boot_len (pa_cons (pv 4) pa_nil)) (pe_gc (by rfl) m_MOST_LETTERS) (nomark _)) (pss_one ps_never) pss_nil)
      (pss_cons (ps_dput (hu1 hr) (pv 5) (pv 2) (pe_callB (call_lenK K rfl) (by rfl) B.len' PySem.boot_len (pa_cons (pv 4) pa_nil)) (by rfl))
      (pss_cons (ps_set (i := 6) sc_word_in.nd rfl (Or.inl rfl) (pe_c c_digit_of hr (by decide) (by rfl) (pa_cons (pv 0) (pa_cons (pv 2) (pa_cons (pv 3) pa_nil)))))
      (pss_cons (ps_expr (pe_bm PySem.F.plainAttrs_list PySem.F.slot_list_append PySem.F.type_list_append mt_append (pv 4) (pa_cons (pv 6) pa_nil)))
      (pss_one (ps_set (i := 2) sc_word_in.nd rfl (Or.inl rfl) (pe_op op_fdivW (pe_op op_sub (pv 2) (pe_op op_mulW (pv 6) (pv 3))) (pv 0)))))))))
      (pss_cons (ps_set (i := 7) sc_word_in.nd rfl (Or.inl rfl) (pe_dget (hu1 hr) (pv 5) (pv 2) (fun _ _ => rfl)))
      (pss_cons (ps_set (i := 8) sc_word_in.nd rfl (Or.inl rfl) (pe_c c_least_round_in hr (by decide) (by rfl) (pa_cons (pe_tupS (pa_cons (pe_callTy (call_tupS K rfl) (by rfl) B.tuple' (by decide +kernel) (pa_cons (pe_slice (sl_lS K rfl) (pv 4) po_none (po_some (pv 7))) pa_nil)) (pa_cons (pe_callTy (call_tupS K rfl) (by rfl) B.tuple' (by decide +kernel) (pa_cons (pe_slice (sl_lS K rfl) (pv 4) (po_some (pv 7)) po_none) pa_nil)) pa_nil))) pa_nil)))
      (pss_cons (ps_if (pt_cmpR op_gt (pe_op op_add (pe_callB (call_lenK K rfl) (by rfl) B.len' PySem.boot_len (pa_cons (pe_ix (ix_tK K rfl) (pv 8) pe_int (fun _ _ => rfl)) pa_nil)) (pe_callB (call_lenK K rfl) (by rfl) B.len' PySem.boot_len (pa_cons (pe_ix (ix_tK K rfl) (pv 8) pe_int (fun _ _ => rfl)) pa_nil))) (pe_gc (by rfl) m_MOST_LETTERS) (nomark _)) (pss_one ps_never) pss_nil)
      (pss_one (ps_ret (pv 8)))))))), ?_⟩
  obtain ⟨hA, ok, hg, ts, qs⟩ := hN
  have w2 := ok.w2
  have w5 := ok.w5
  have q1 := ok.q1
  have few := hP.few
  refine ⟨_, rfl, by show 0 ≤ 1000000; decide, fun pF H1 n1 s1 e1 => fun pD H2 n2 s2 e2 => ⟨by show 3 ≤ 1000000; decide, fun pT H3 n3 s3 e3 => ?_⟩⟩
  have s03 := (s1.trans s2).trans s3
  have nF0 : H pF = none := n1
  have nD0 : H pD = none := s1.free n2
  have nFD : pF ≠ pD := ne_of_none e1 n2
  refine ⟨pT, _, rfl, sT e3, rfl, _, _, rfl, p, _, rfl, same_tup s03 hA, rfl, _, _, rfl, _, _, rfl, rfl, _, _, rfl, _, _, rfl, rfl, ?_⟩
  let N := b.length + a.length
  let Wd : Nat → L2.St → Hp → Prop := fun i σ H' => ∃ z6, σ = [some (.int wd), some (.ref p), some (.int (tp wd o t i)), some (.int o), some (.ref pF), some (.ref pD), z6, none, none] ∧ Same H H' ∧ (tps wd o t i).Nodup ∧ H' pF = some (.lst (vi (dgs wd o t i))) ∧ H' pD = some (.dK (numK kI (tps wd o t i)))
  refine ⟨fun mm σ H' => ∃ i, mm = N + 1 - i ∧ Wd i σ H', ⟨_, 0, rfl, none, rfl, s03, List.nodup_nil, s3 _ _ (s2 _ _ e1), s3 _ _ e2⟩, ?_⟩
  rintro mm σ H' ⟨i, hm, z6, rfl, s4, nd, eF, eD⟩
  have iN : i ≤ N := first_le ok hP.pt hP.ne hP.ib hP.ia nd
  have ta := tp_abs ok t i
  have o1 : o.natAbs < 2 ^ 601 := Nat.lt_trans qs (by decide +kernel)
  refine ⟨_, rfl, _, rfl, pD, _, rfl, DGet.k (k := kI (tp wd o t i)) eD, _, rfl, ?_⟩
  rw [numK_val kI_inj]
  by_cases hin : tp wd o t i ∈ tps wd o t i
  · rw [if_pos hin]
    refine iteF ?_
    have gi := get_idx hin
    obtain ⟨f, hf⟩ : ∃ f, f = (tps wd o t i).idxOf (tp wd o t i) := ⟨_, rfl⟩
    rw [← hf] at gi
    have fi : f < i := by
      have := (List.getElem?_eq_some_iff.mp gi).1
      rw [tps_len] at this
      exact this
    rw [tps_get fi] at gi
    have ef : tp wd o t f = tp wd o t i := Option.some.inj gi
    have dg' := DGet.k (k := kI (tp wd o t i)) eD
    rw [numK_val kI_inj, if_pos hin, ← hf] at dg'
    refine ⟨_, rfl, _, rfl, pD, .int ((f : Nat) : Int), rfl, dg', ?_⟩
    obtain ⟨hl, hne⟩ := found_least ok hP.pt hP.ne hP.ib hP.ia fi ef
    have tk : ∀ (l : List Int) (n : Nat), (vi l).take n = vi (l.take n) := fun l n => by unfold vi; rw [List.map_take]
    have dr : ∀ (l : List Int) (n : Nat), (vi l).drop n = vi (l.drop n) := fun l n => by unfold vi; rw [List.map_drop]
    refine ⟨_, rfl, _, rfl, ((f : Nat) : Int), rfl, pF, _, rfl, sL eF, fun p1 K1 m1 r1 f1 => ⟨p1, _, rfl, .inl ⟨sL f1, fun p2 K2 m2 r2 f2 => ?_⟩⟩⟩
    rw [cut_to, tk] at f2
    have r12 := r1.trans r2
    refine ⟨_, rfl, _, rfl, ((f : Nat) : Int), rfl, pF, _, rfl, sL (r12 _ _ eF), fun p3 K3 m3 r3 f3 => ⟨p3, _, rfl, .inl ⟨sL f3, fun p4 K4 m4 r4 f4 => ?_⟩⟩⟩
    rw [cut_from, dr] at f4
    have r34 := r3.trans r4
    refine ⟨by show 2 ≤ 1000000; decide, fun p5 K5 m5 r5 f5 => ?_⟩
    have l1 : ((dgs wd o t i).take f).length ≤ 1000 := by rw [List.length_take, dgs_len]; omega
    have l2 : ((dgs wd o t i).drop f).length ≤ 1000 := by rw [List.length_drop, dgs_len]; omega
    refine ⟨.ref p5, _, _, rfl, ⟨p5, p2, p4, rfl, sT f5, sT (r5 _ _ (r34 _ _ f2)), sT (r5 _ _ f4)⟩, hne, l1, l2, fun v' K6 r6 hv => ?_⟩
    rw [hl] at hv
    obtain ⟨_, la, lb⟩ := Rd.least_len (b := b) hP.ne
    have hv0 := hv
    obtain ⟨pp, x, y, rfl, g1, g2, g3⟩ := hv
    refine ⟨_, rfl, pp, _, 0, _, rfl, rfl, g1, rfl, x, _, rfl, .inr g2, _, rfl, pp, _, 1, _, rfl, rfl, g1, rfl, y, _, rfl, .inr g3, _, _, rfl, rfl, _, _, rfl, rfl, _, rfl, ifF (decide_eq_false ?_) ⟨_, rfl, q _ K6 (s4.trans ((r12.trans r34).trans (r5.trans r6))) hv0⟩⟩
    rw [List.length_map, List.length_map]
    omega
  · rw [if_neg hin]
    refine iteT ⟨Wd (i + 1), fun σ' H'' h => ⟨N + 1 - (i + 1), by omega, i + 1, rfl, h⟩, ?_⟩
    refine ⟨_, rfl, pF, _, rfl, .inl (sL eF), _, _, rfl, rfl, _, rfl, ifF (by rw [vi_len, dgs_len]; exact decide_eq_false (by omega)) ?_⟩
    refine ⟨_, rfl, pF, _, rfl, .inl (sL eF), _, rfl, _, rfl, pD, _, rfl, DPut.k (k := kI (tp wd o t i)) eD (szl (by rw [numK_len, tps_len]; omega)), ?_⟩
    have ep : putK (numK kI (tps wd o t i)) (kI (tp wd o t i)) (.int (((vi (dgs wd o t i)).length : Nat) : Int)) = numK kI (tps wd o t (i + 1)) := by
      have := numK_put kI_inj hin
      rw [tps_len] at this
      rw [vi_len, dgs_len, this, tps_succ]
    rw [ep]
    have s5 : Same H (upd H' pD (.dK (numK kI (tps wd o t (i + 1))))) := same_upd s4 nD0
    have eF5 : upd H' pD (.dK (numK kI (tps wd o t (i + 1)))) pF = some (.lst (vi (dgs wd o t i))) := by rw [upd_ne nFD]; exact eF
    have eD5 : upd H' pD (.dK (numK kI (tps wd o t (i + 1)))) pD = some (.dK (numK kI (tps wd o t (i + 1)))) := upd_same
    generalize upd H' pD (.dK (numK kI (tps wd o t (i + 1)))) = H5 at s5 eF5 eD5 ⊢
    refine ⟨_, rfl, _, rfl, _, rfl, wd, tp wd o t i, o, rfl, ok, Nat.lt_trans qs (by decide +kernel), fun H6 s6 => ?_⟩
    have eF6 := s6 _ _ eF5
    have dgi := dg_is ok (tp wd o t i)
    refine ⟨_, rfl, .inl ⟨rfl, _, sL eF6⟩, _, rfl, pF, _, _, rfl, rfl, eF6, szl (by rw [vi_len, dgs_len]; omega), ?_⟩
    have nd' : (tps wd o t (i + 1)).Nodup := by
      rw [tps_succ]
      exact List.nodup_append.mpr ⟨nd, List.nodup_cons.mpr ⟨fun h => (nomatch h), List.nodup_nil⟩, fun x hx y hy e => hin (by rw [← List.mem_singleton.mp hy, ← e]; exact hx)⟩
    refine ⟨_, rfl, _, rfl, _, rfl, _, _, rfl, rfl, wide_mul (a := 3) (b := 601) (by have := dgi.1; have := dgi.2.1; omega) o1 (by omega) (by omega) (by omega), _, _, rfl, rfl, _, rfl, _, _, rfl, rfl, wide_div (b := 3) (by omega) (by omega) (by omega) (by omega), some (.int (dg wd o (tp wd o t i))), rfl, same_upd (s5.trans s6) nF0, nd', ?_, ?_⟩
    · rw [upd_same, dgs_succ, vi_snoc]
      rfl
    · rw [upd_ne (Ne.symm nFD)]
      exact s6 _ _ eD5
end
end Br

namespace Br
open PySem PySem.Spec PyProof.Rows L2 SlX RZ Mm Nb
local macro_rules | `(tactic| walk_at "up") => `(tactic| first | assumption | exact sT (by assumption) | exact sL (by assumption) | (with_reducible refine same_tup (by assumption) ?_; walk_at "up") | (with_reducible refine Kd.tup (by assumption) ?_; walk_at "up") | (with_reducible refine same_lst (by assumption) ?_; walk_at "up") | (with_reducible refine same_at (by assumption) ?_; walk_at "up"))
local macro_rules | `(tactic| walk_at "sm") => `(tactic| first | exact Same.refl _ | assumption | (refine Same.trans ?_ (by assumption); walk_at "sm"))
local macro_rules | `(tactic| walk_at "kd") => `(tactic| first | exact Kd.refl | assumption | exact Kd.same (by assumption) | (with_reducible refine Kd.trans ?_ (by assumption); walk_at "kd") | (with_reducible refine Kd.trans ?_ (Kd.same (by assumption)); walk_at "kd"))
section
variable {P : Program} {w : World} {K : PySem.W.Frag} {mg : Str → Option Value} {base : Heap}
theorem ok_law_divisor (B : Blt mg)  {f : Addr} {fd : FuncData} (F : Dn K mg "_law_divisor" s_law_divisor ["one", "other"] f fd) : FnOk P w K mg base CX0 1 f fd ["one", "other"] sp_common_of := by
  refine F.ok sc_law_divisor (fun vs H Q E h => by obtain ⟨a, b, rfl, _⟩ := h; rfl) (fun cdv A outer s H vs Q E hr h => ?_)
  obtain ⟨a, b, rfl, q⟩ := h
  refine ⟨_, (pss_cons (ps_par (i := 2) (j := 3) (by rfl) sc_law_divisor.nd rfl rfl (by decide) rfl rfl (pa_cons (pe_callB call_abs (by rfl) B.abs' (by decide +kernel) (pa_cons (pv 0) pa_nil)) (pa_cons (pe_callB call_abs (by rfl) B.abs' (by decide +kernel) (pa_cons (pv 1) pa_nil)) pa_nil)) (by rfl))
      (pss_cons (ps_while PassesOwn.never (pt_cmpR op_gt (pv 3) pe_int (nomark _)) (pss_one (ps_par (i := 2) (j := 3) (by rfl) sc_law_divisor.nd rfl rfl (by decide) rfl rfl (pa_cons (pv 3) (pa_cons (pe_op op_mod (pv 2) (pv 3)) pa_nil)) (by rfl))))
      (pss_one (ps_ret (pv 2))))), ?_⟩
  have ab : ∀ x : Int, (if x < 0 then -x else x) = ((x.natAbs : Nat) : Int) := fun x => by split <;> omega
  refine ⟨_, rfl, a, rfl, _, rfl, b, rfl, _, _, rfl, ?_⟩
  rw [ab, ab]
  refine ⟨fun mm σ H' => ∃ x y : Nat, mm = y ∧ σ = [some (.int a), some (.int b), some (.int (x : Int)), some (.int (y : Int))] ∧ Nat.gcd x y = Int.gcd a b ∧ H' = H, ⟨_, a.natAbs, b.natAbs, rfl, rfl, rfl, rfl⟩, ?_⟩
  rintro mm σ H' ⟨x, y, hm, rfl, hg, rfl⟩
  refine ⟨_, rfl, _, _, rfl, rfl, _, rfl, ?_⟩
  by_cases hy : y = 0
  · subst hy
    rw [Nat.gcd_zero_right] at hg
    refine ifF (decide_eq_false (by omega)) ⟨_, rfl, ?_⟩
    rw [hg]
    exact q
  · refine ifT (decide_eq_true (by omega)) ?_
    refine ⟨fun σ' H'' => σ' = [some (.int a), some (.int b), some (.int (y : Int)), some (.int ((x % y : Nat) : Int))] ∧ H'' = H', fun σ' H'' ⟨e1, e2⟩ => ⟨x % y, by have := Nat.mod_lt x (y := y) (by omega); omega, y, x % y, rfl, e1, by rw [← hg, Nat.gcd_comm, Nat.gcd_comm x y, ← Nat.gcd_rec, Nat.gcd_comm], e2⟩, ?_⟩
    exact ⟨_, rfl, _, rfl, _, rfl, _, _, rfl, rfl, by omega, _, _, rfl, rfl, rfl⟩
theorem ok_law_fraction (B : Blt mg) (c_law_divisor : Cl CX0 P w K mg base 1 "_law_divisor" sp_common_of [])  {f : Addr} {fd : FuncData} (F : Dn K mg "_law_fraction" s_law_fraction ["top", "bottom"] f fd) : FnOk P w K mg base CX0 2 f fd ["top", "bottom"] (sp_lowest K) := by
  refine F.ok sc_law_fraction (fun vs H Q E h => by obtain ⟨c, t, o, rfl, _⟩ := h; rfl) (fun cdv A outer s H vs Q E hr h => ?_)
  obtain ⟨c, t, o, rfl, hg, o1, c0, cs, q⟩ := h
  refine ⟨_, (pss_cons (ps_set (i := 2) sc_law_fraction.nd rfl (Or.inl rfl) (pe_ifExp (pt_cmpR op_gt (pv 1) pe_int (nomark _)) (pe_c c_law_divisor hr (by decide) (by rfl) (pa_cons (pv 0) (pa_cons (pv 1) pa_nil))) (pe_op op_sub pe_int (pe_c c_law_divisor hr (by decide) (by rfl) (pa_cons (pv 0) (pa_cons (pv 1) pa_nil))))))
      (pss_one (ps_ret (pe_tupS (pa_cons (pe_op op_fdivX (pv 0) (pv 2)) (pa_cons (pe_op op_fdivX (pv 1) (pv 2)) pa_nil)))))), ?_⟩
  have g : Int.gcd (c * t) (c * o) = c.natAbs := by rw [Int.gcd_mul_left, hg, Nat.mul_one]
  have hc : CDivX 0 c := ⟨c0, Nat.lt_of_lt_of_le (log_of cs (by omega)) (by omega)⟩
  have fin : ∀ x : Int, x = c → tRet (tTupS (tCons (tOp (L2.rI CDivX fun i j => V.int (i.fdiv j)) (tVar 0) (tVar 2)) (tCons (tOp (L2.rI CDivX fun i j => V.int (i.fdiv j)) (tVar 1) (tVar 2)) tNil))) { nx := fun x H' => Q V.non H', rt := Q } [some (.int (c * t)), some (.int (c * o)), some (.int x)] H := fun x e => by
    subst e
    refine ⟨_, rfl, _, rfl, _, _, rfl, rfl, hc, _, rfl, _, rfl, _, _, rfl, rfl, hc, by show 2 ≤ 1000000; decide, fun p H1 n1 s1 e1 => q p H1 s1 ?_⟩
    have e1' : H1 p = some (.tup [.int ((x * t).fdiv x), .int ((x * o).fdiv x)]) := e1
    rw [Int.mul_fdiv_cancel_left _ c0, Int.mul_fdiv_cancel_left _ c0] at e1'
    exact sT e1'
  refine ⟨_, rfl, _, _, rfl, rfl, _, rfl, ?_⟩
  by_cases cp : 0 < c
  · have : 0 < c * o := Int.mul_pos cp (by omega)
    exact ifT (decide_eq_true this) ⟨_, rfl, _, rfl, _, _, rfl, fin _ (by rw [g]; omega)⟩
  · have : c * o ≤ c * 0 := Int.mul_le_mul_of_nonpos_left (by omega) (by omega)
    exact ifF (decide_eq_false (by omega)) ⟨_, rfl, _, rfl, _, _, rfl, _, _, rfl, rfl, fin _ (by rw [g]; omega)⟩
theorem ok_law_nb_word (B : Blt mg) (c_law_rd_least : Cl CX0 P w K mg base 1 "_law_rd_least" (sp_law_rd_least K) [])  {f : Addr} {fd : FuncData} (F : Dn K mg "_law_nb_word" s_law_nb_word ["width", "top", "bottom"] f fd) : FnOk P w K mg base CX0 2 f fd ["width", "top", "bottom"] (sp_law_nb_word K) := by
  refine F.ok sc_law_nb_word (fun vs H Q E h => by obtain ⟨wd, t, o, b, a, rfl, _⟩ := h; rfl) (fun cdv A outer s H vs Q E hr h => ?_)
  obtain ⟨wd, t, o, b, a, rfl, ok, ts, qs, hP, q⟩ := h
  refine ⟨_, (pss_cons (ps_set (i := 3) sc_law_nb_word.nd rfl (Or.inl rfl) (pe_ix (ix_lK K rfl) (pe_lc (own := [("one", 8)]) (by rfl) sc_law_nb_word.nd (pi_range1 (by rfl) B.range' (pa_cons (pv 0) pa_nil)) (blkOk_by (own := [("one", 8)]) (N := ["width", "top", "bottom", "back", "tops", "digits", "digit", "first", "one"]) (sc := defScope s_law_nb_word) (by decide +kernel)) (fun _ _ _ _ _ => (pg_name (i := 8) sc_law_nb_word.nd rfl (Or.inl rfl))) (fun _ _ _ _ _ => (pts_one (pt_cmpR op_eq (pe_op op_mod (pe_op op_mulW (pv 8) (pv 2)) (pv 0)) pe_int (nomark _)))) (fun _ _ _ _ _ => (pv 8))) pe_int (fun _ _ => rfl)))
      (pss_cons (ps_par (i := 4) (j := 5) (by rfl) sc_law_nb_word.nd rfl rfl (by decide) rfl rfl (pa_cons (pe_lstS pa_nil) (pa_cons (pe_lstS pa_nil) pa_nil)) (by rfl))
      (pss_cons (ps_while PassesOwn.never (pt_cmpR (op_ninK K rfl) (pv 1) (pv 4) rfl) (pss_cons (ps_expr (pe_bm PySem.F.plainAttrs_list PySem.F.slot_list_append PySem.F.type_list_append mt_append (pv 4) (pa_cons (pv 1) pa_nil)))
      (pss_cons (ps_set (i := 6) sc_law_nb_word.nd rfl (Or.inl rfl) (pe_op op_mod (pe_op op_mulW (pv 1) (pv 3)) (pv 0)))
      (pss_cons (ps_expr (pe_bm PySem.F.plainAttrs_list PySem.F.slot_list_append PySem.F.type_list_append mt_append (pv 5) (pa_cons (pv 6) pa_nil)))
      (pss_one (ps_set (i := 1) sc_law_nb_word.nd rfl (Or.inl rfl) (pe_op op_fdivW (pe_op op_sub (pv 1) (pe_op op_mulW (pv 6) (pv 2))) (pv 0))))))))
      (pss_cons (ps_set (i := 7) sc_law_nb_word.nd rfl (Or.inl rfl) (pe_bm PySem.F.plainAttrs_list PySem.F.slot_list_index PySem.F.type_list_index mt_index (pv 4) (pa_cons (pv 1) pa_nil)))
      (pss_one (ps_ret (pe_c c_law_rd_least hr (by decide) (by rfl) (pa_cons (pe_callTy (call_tupS K rfl) (by rfl) B.tuple' (by decide +kernel) (pa_cons (pe_slice (sl_lS K rfl) (pv 5) po_none (po_some (pv 7))) pa_nil)) (pa_cons (pe_callTy (call_tupS K rfl) (by rfl) B.tuple' (by decide +kernel) (pa_cons (pe_slice (sl_lS K rfl) (pv 5) (po_some (pv 7)) po_none) pa_nil)) pa_nil))))))))), ?_⟩
  have w2 := ok.w2
  have w5 := ok.w5
  have few := hP.few
  have o1 : o.natAbs < 2 ^ 601 := Nat.lt_trans qs (by decide +kernel)
  let pb : Int → Bool := fun d => decide ((d * o) % wd = 1)
  refine ⟨_, rfl, wd, rfl, by omega, by omega, fun D nD => lc_range (lo := 0) (n := wd.toNat) (fun i H' => Same H H' ∧ H' D = some (.lst (vi (((List.range i).map Int.ofNat).filter pb)))) ⟨same_new nD, upd_same⟩ ?_ ?_⟩
  · rintro j H8 hj ⟨s8, eD⟩
    rw [Int.zero_add]
    refine ⟨rfl, _, rfl, _, rfl, _, _, rfl, rfl, wide_mul (a := 3) (b := 601) (by omega) o1 (by omega) (by omega) (by omega), _, rfl, _, _, rfl, rfl, by omega, rfl, _, rfl, ?_⟩
    by_cases hp : pb (j : Int) = true
    · refine ifT (decide_eq_true (congrArg V.int (show ((j : Int) * o) % wd = 1 from of_decide_eq_true hp))) ⟨_, rfl, _, eD, szl (by rw [vi_len]; have := fil_len pb j; omega), same_upd s8 nD, ?_⟩
      rw [upd_same, fil_succ, if_pos hp, vi_snoc]
    · refine ifF (decide_eq_false fun z => hp (decide_eq_true (V.int.inj z))) ⟨s8, ?_⟩
      rw [fil_succ, if_neg hp]
      exact eD
  rintro H8 ⟨s8, eD⟩
  obtain ⟨x, l, ex, hx, x0, x1⟩ := back_ex ok
  rw [show ((List.range wd.toNat).map Int.ofNat).filter pb = x :: l from ex] at eD
  refine ⟨D, _, 0, .int x, rfl, rfl, sL eD, (show atI (vi (x :: l)) ((0 : Nat) : Int) = some (.int x) from atI_nat (vi_get (i := 0) (ns := x :: l) rfl)), by show 0 ≤ 1000000; decide, fun pT H9 n9 s9 e9 => ⟨by show 0 ≤ 1000000; decide, fun pD H10 n10 s10 e10 => ⟨_, _, rfl, ?_⟩⟩⟩
  have s810 := (s8.trans s9).trans s10
  have nT0 : H pT = none := s8.free n9
  have nD0 : H pD = none := (s8.trans s9).free n10
  have nTD : pT ≠ pD := ne_of_none e9 n10
  let N := b.length + a.length
  let Wd : Nat → L2.St → Hp → Prop := fun i σ H' => ∃ z6, σ = [some (.int wd), some (.int (tp wd o t i)), some (.int o), some (.int x), some (.ref pT), some (.ref pD), z6, none, none] ∧ Same H H' ∧ (tps wd o t i).Nodup ∧ H' pT = some (.lst (vi (tps wd o t i))) ∧ H' pD = some (.lst (vi (dgs wd o t i)))
  refine ⟨fun mm σ H' => ∃ i, mm = N + 1 - i ∧ Wd i σ H', ⟨_, 0, rfl, none, rfl, s810, List.nodup_nil, s10 _ _ e9, e10⟩, ?_⟩
  rintro mm σ H' ⟨i, hm, z6, rfl, s4, nd, eT, eD4⟩
  have iN : i ≤ N := first_le ok hP.pt hP.ne hP.ib hP.ia nd
  have ta := tp_abs ok t i
  have dgi := dg_is ok (tp wd o t i)
  have tb : (tp wd o t i).natAbs < 2 ^ 601 := by
    have : (2 : Nat) ^ 601 = 2 ^ 600 + 2 ^ 600 := by rw [Nat.pow_succ]; omega
    omega
  refine ⟨_, rfl, _, rfl, pT, _, rfl, .inl (sL eT), rfl, flat_vi _, _, rfl, ?_⟩
  rw [inV_vi]
  by_cases hin : tp wd o t i ∈ tps wd o t i
  · refine ifF (by rw [decide_eq_true hin]; rfl) ?_
    have gi := get_idx hin
    obtain ⟨f, hf⟩ : ∃ f, f = (tps wd o t i).idxOf (tp wd o t i) := ⟨_, rfl⟩
    rw [← hf] at gi
    have fi : f < i := by
      have := (List.getElem?_eq_some_iff.mp gi).1
      rw [tps_len] at this
      exact this
    have gf := gi
    rw [tps_get fi] at gi
    have ef : tp wd o t f = tp wd o t i := Option.some.inj gi
    obtain ⟨hl, hne⟩ := found_least ok hP.pt hP.ne hP.ib hP.ia fi ef
    have tk : ∀ (l : List Int) (n : Nat), (vi l).take n = vi (l.take n) := fun l n => by unfold vi; rw [List.map_take]
    have dr : ∀ (l : List Int) (n : Nat), (vi l).drop n = vi (l.drop n) := fun l n => by unfold vi; rw [List.map_drop]
    refine ⟨_, rfl, .inl ⟨rfl, _, sL eT⟩, _, rfl, pT, _, .int (tp wd o t i), f, .int (tp wd o t i), rfl, rfl, sL eT, rfl, flat_vi _, vi_get gf, by simp [eqV], fun m z' hm2 hz => ?_, ?_⟩
    · rw [vi_get (tps_get (by omega : m < i))] at hz
      cases hz
      show (tp wd o t m == tp wd o t i) = false
      refine beq_eq_false_iff_ne.mpr fun e => ?_
      have g2 := tps_get (w := wd) (q := o) (t := t) (n := i) (i := m) (by omega)
      rw [e] at g2
      obtain ⟨y1, z1⟩ := List.getElem?_eq_some_iff.mp g2
      obtain ⟨y2, z2⟩ := List.getElem?_eq_some_iff.mp gf
      have := (List.getElem_inj nd).mp (z1.trans z2.symm)
      omega
    refine ⟨_, rfl, _, rfl, ((f : Nat) : Int), rfl, pD, _, rfl, sL eD4, fun p1 K1 m1 r1 f1 => ⟨p1, _, rfl, .inl ⟨sL f1, fun p2 K2 m2 r2 f2 => ?_⟩⟩⟩
    rw [cut_to, tk] at f2
    have r12 := r1.trans r2
    refine ⟨_, rfl, _, rfl, ((f : Nat) : Int), rfl, pD, _, rfl, sL (r12 _ _ eD4), fun p3 K3 m3 r3 f3 => ⟨p3, _, rfl, .inl ⟨sL f3, fun p4 K4 m4 r4 f4 => ?_⟩⟩⟩
    rw [cut_from, dr] at f4
    have r34 := r3.trans r4
    have l1 : ((dgs wd o t i).take f).length ≤ 1000 := by rw [List.length_take, dgs_len]; omega
    have l2 : ((dgs wd o t i).drop f).length ≤ 1000 := by rw [List.length_drop, dgs_len]; omega
    refine ⟨p2, p4, _, _, rfl, sT (r34 _ _ f2), sT f4, hne, l1, l2, fun v' K6 r6 hv => ?_⟩
    rw [hl] at hv
    exact q v' K6 (s4.trans ((r12.trans r34).trans r6)) hv
  · refine ifT (by rw [decide_eq_false hin]; rfl) ⟨Wd (i + 1), fun σ' H'' h => ⟨N + 1 - (i + 1), by omega, i + 1, rfl, h⟩, ?_⟩
    have nd' : (tps wd o t (i + 1)).Nodup := by
      rw [tps_succ]
      exact List.nodup_append.mpr ⟨nd, List.nodup_cons.mpr ⟨fun h => (nomatch h), List.nodup_nil⟩, fun x hx y hy e => hin (by rw [← List.mem_singleton.mp hy, ← e]; exact hx)⟩
    refine ⟨_, rfl, .inl ⟨rfl, _, sL eT⟩, _, rfl, pT, _, _, rfl, rfl, eT, szl (by rw [vi_len, tps_len]; omega), ?_⟩
    have eT5 : upd H' pT (.lst (vi (tps wd o t i) ++ [.int (tp wd o t i)])) pT = some (.lst (vi (tps wd o t (i + 1)))) := by rw [upd_same, tps_succ, vi_snoc]
    have eD5 : upd H' pT (.lst (vi (tps wd o t i) ++ [.int (tp wd o t i)])) pD = some (.lst (vi (dgs wd o t i))) := by rw [upd_ne (Ne.symm nTD)]; exact eD4
    have s5 : Same H (upd H' pT (.lst (vi (tps wd o t i) ++ [.int (tp wd o t i)]))) := same_upd s4 nT0
    generalize upd H' pT (.lst (vi (tps wd o t i) ++ [.int (tp wd o t i)])) = H5 at eT5 eD5 s5 ⊢
    refine ⟨_, rfl, _, rfl, _, _, rfl, rfl, wide_mul (a := 601) (b := 3) tb (by omega) (by omega) (by omega) (by omega), _, rfl, _, _, rfl, rfl, by omega, ?_⟩
    show gName 6 (V.int ((tp wd o t i * x) % wd)) _ _ _
    rw [back_dg ok hx (tp wd o t i)]
    refine ⟨_, rfl, .inl ⟨rfl, _, sL eD5⟩, _, rfl, pD, _, _, rfl, rfl, eD5, szl (by rw [vi_len, dgs_len]; omega), ?_⟩
    refine ⟨_, rfl, _, rfl, _, rfl, _, _, rfl, rfl, wide_mul (a := 3) (b := 601) (by have := dgi.1; have := dgi.2.1; omega) o1 (by omega) (by omega) (by omega), _, _, rfl, rfl, _, rfl, _, _, rfl, rfl, wide_div (b := 3) (by omega) (by omega) (by omega) (by omega), some (.int (dg wd o (tp wd o t i))), rfl, same_upd s5 nD0, nd', ?_, ?_⟩
    · rw [upd_ne nTD]
      exact eT5
    · rw [upd_same, dgs_succ, vi_snoc]
      rfl
theorem ok_law_nb_number (B : Blt mg) (c_law_fraction : Cl CX0 P w K mg base 2 "_law_fraction" (sp_lowest K) []) (c_law_power : Cl CX0 P w K mg base 1 "_law_power" sp_power_of [])  {f : Addr} {fd : FuncData} (F : Dn K mg "_law_nb_number" s_law_nb_number ["width", "pair"] f fd) : FnOk P w K mg base CX0 3 f fd ["width", "pair"] (sp_law_nb_number K) := by
  refine F.ok sc_law_nb_number (fun vs H Q E h => by obtain ⟨wd, v, b, a, rfl, _⟩ := h; rfl) (fun cdv A outer s H vs Q E hr h => ?_)
  obtain ⟨wd, v, b, a, rfl, hV, w2, w5, ne, ib, ia, hl, q⟩ := h
  refine ⟨_, (pss_cons (ps_asg (pe_tupS (pa_cons pe_int (pa_cons pe_int pa_nil))) (pg_tup (by rfl) (pgs_cons (pg_name (i := 2) sc_law_nb_number.nd rfl (Or.inl rfl)) (pgs_cons (pg_name (i := 3) sc_law_nb_number.nd rfl (Or.inl rfl)) pgs_nil))))
      (pss_cons (ps_for PassesOwn.never rfl (pi_tK K rfl (pe_revTS K rfl (pe_ix (ix_tK K rfl) (pv 1) pe_int (fun _ _ => rfl)))) (pg_name (i := 4) sc_law_nb_number.nd rfl (Or.inl rfl)) (pss_one (ps_set (i := 2) sc_law_nb_number.nd rfl (Or.inl rfl) (pe_op op_add (pe_op op_mulW (pv 2) (pv 0)) (pv 4)))))
      (pss_cons (ps_for PassesOwn.never rfl (pi_tK K rfl (pe_revTS K rfl (pe_ix (ix_tK K rfl) (pv 1) pe_int (fun _ _ => rfl)))) (pg_name (i := 4) sc_law_nb_number.nd rfl (Or.inl rfl)) (pss_one (ps_set (i := 3) sc_law_nb_number.nd rfl (Or.inl rfl) (pe_op op_add (pe_op op_mulW (pv 3) (pv 0)) (pv 4)))))
      (pss_cons (ps_par (i := 5) (j := 6) (by rfl) sc_law_nb_number.nd rfl rfl (by decide) rfl rfl (pa_cons (pe_op op_sub (pe_c c_law_power hr (by decide) (by rfl) (pa_cons (pv 0) (pa_cons (pe_callB (call_lenK K rfl) (by rfl) B.len' PySem.boot_len (pa_cons (pe_ix (ix_tK K rfl) (pv 1) pe_int (fun _ _ => rfl)) pa_nil)) pa_nil))) pe_int) (pa_cons (pe_c c_law_power hr (by decide) (by rfl) (pa_cons (pv 0) (pa_cons (pe_callB (call_lenK K rfl) (by rfl) B.len' PySem.boot_len (pa_cons (pe_ix (ix_tK K rfl) (pv 1) pe_int (fun _ _ => rfl)) pa_nil)) pa_nil))) pa_nil)) (by rfl))
      (pss_one (ps_ret (pe_c c_law_fraction hr (by decide) (by rfl) (pa_cons (pe_op op_sub (pe_op op_mulW (pv 2) (pv 5)) (pe_op op_mulW (pv 6) (pv 3))) (pa_cons (pv 5) pa_nil))))))))), ?_⟩
  obtain ⟨pv, x, y, rfl, g1, g2, g3⟩ := hV
  refine ⟨by show 2 ≤ 1000000; decide, fun p0 H1 n1 s1 e1 => ⟨p0, _, rfl, sT e1, rfl, _, _, rfl, _, _, rfl, rfl, ?_⟩⟩
  refine ⟨_, rfl, pv, _, 0, _, rfl, rfl, same_tup s1 g1, rfl, x, _, rfl, same_tup s1 g2, fun pr H2 n2 s2 e2 => ⟨pr, rfl, ⟨_, sT e2⟩, for_map (n := ((vi b).reverse).length) (item := fun i x _ => ((vi b).reverse)[i]? = some x) (fun i σ H' => ∃ z, σ = [some (.int wd), some (.ref pv), some (.int (low wd (b.drop (b.length - i)))), some (.int 0), z, none, none] ∧ Same H2 H') ⟨none, by rw [Nat.sub_zero, List.drop_length]; rfl, Same.refl _⟩ (fun i σ H' _ ⟨_, _, s⟩ => steadyT (sT (s _ _ e2))) ?_ ?_⟩⟩
  · rintro i x σ H6 H7 hi' ⟨z, rfl, s6⟩ s7 hx
    obtain ⟨z', rfl, hd, hi⟩ := rev_at hx
    have hb := low_abs w2 w5 (ns := b.drop (b.length - i)) fun y hy => ib y (List.mem_of_mem_drop hy)
    have hl2 : 3 * (b.drop (b.length - i)).length + 1 ≤ 301 := by rw [List.length_drop]; omega
    refine ⟨_, rfl, _, rfl, _, _, rfl, rfl, wide_mul hb (b := 3) (by omega) (by omega) (by omega) (by omega), _, rfl, _, _, rfl, rfl, some (.int z'), ?_, s6.trans s7⟩
    rw [hd, low_cons]
    rfl
  rintro σ H3 ⟨z, rfl, s3⟩
  rw [List.length_reverse, vi_len, Nat.sub_self, List.drop_zero]
  have s13 := (s1.trans s2).trans s3
  refine ⟨_, rfl, pv, _, 1, _, rfl, rfl, same_tup s13 g1, rfl, y, _, rfl, same_tup s13 g3, fun pr H4 n4 s4 e4 => ⟨pr, rfl, ⟨_, sT e4⟩, for_map (n := ((vi a).reverse).length) (item := fun i x _ => ((vi a).reverse)[i]? = some x) (fun i σ H' => ∃ z, σ = [some (.int wd), some (.ref pv), some (.int (low wd b)), some (.int (low wd (a.drop (a.length - i)))), z, none, none] ∧ Same H4 H') ⟨z, by rw [Nat.sub_zero, List.drop_length]; rfl, Same.refl _⟩ (fun i σ H' _ ⟨_, _, s⟩ => steadyT (sT (s _ _ e4))) ?_ ?_⟩⟩
  · rintro i x σ H6 H7 hi' ⟨z, rfl, s6⟩ s7 hx
    obtain ⟨z', rfl, hd, hi⟩ := rev_at hx
    have hb := low_abs w2 w5 (ns := a.drop (a.length - i)) fun y hy => ia y (List.mem_of_mem_drop hy)
    have hl2 : 3 * (a.drop (a.length - i)).length + 1 ≤ 301 := by rw [List.length_drop]; omega
    refine ⟨_, rfl, _, rfl, _, _, rfl, rfl, wide_mul hb (b := 3) (by omega) (by omega) (by omega) (by omega), _, rfl, _, _, rfl, rfl, some (.int z'), ?_, s6.trans s7⟩
    rw [hd, low_cons]
    rfl
  rintro σ H5 ⟨z2, rfl, s5⟩
  rw [List.length_reverse, vi_len, Nat.sub_self, List.drop_zero]
  have s15 := (s13.trans s4).trans s5
  refine ⟨_, rfl, _, rfl, pv, _, 1, _, rfl, rfl, same_tup s15 g1, rfl, y, _, rfl, .inr (same_tup s15 g3), ?_⟩
  rw [List.length_map]
  refine ⟨wd, a.length, rfl, by omega, by omega, _, _, rfl, rfl, ?_⟩
  refine ⟨_, rfl, _, rfl, pv, _, 0, _, rfl, rfl, same_tup s15 g1, rfl, x, _, rfl, .inr (same_tup s15 g2), ?_⟩
  rw [List.length_map]
  refine ⟨wd, b.length, rfl, by omega, by omega, _, _, rfl, ?_⟩
  have bb := low_abs w2 w5 ib
  have ba := low_abs w2 w5 ia
  have pb := (pow_bits w2 w5 b.length).1
  have pa := (pow_bits w2 w5 a.length)
  have up : ∀ {m n : Nat}, m ≤ n → 2 ^ m ≤ 2 ^ n := fun h => Nat.pow_le_pow_right (by decide) h
  have b1 : (wd ^ a.length - 1).natAbs < 2 ^ (3 * a.length + 1) := by omega
  have apos := List.length_pos_iff.mpr ne
  refine ⟨_, rfl, _, rfl, _, _, rfl, rfl, wide_mul bb b1 (by omega) (by omega) (by omega), _, rfl, _, rfl, _, _, rfl, rfl, wide_mul pb ba (by omega) (by omega) (by omega), _, _, rfl, rfl, _, rfl, ?_⟩
  have hb0 : wd ^ a.length - 1 ≠ 0 := by
    obtain ⟨j, hj⟩ : ∃ j, a.length = j + 1 := ⟨a.length - 1, by omega⟩
    have := (pow_bits w2 w5 j).2
    rw [hj, Int.pow_succ]
    have : wd ^ j * 2 ≤ wd ^ j * wd := Int.mul_le_mul_of_nonneg_left w2 (by omega)
    omega
  obtain ⟨c, t, o, e1', e2', hg, q1, c0, ec⟩ := frac (top := low wd b * (wd ^ a.length - 1) - wd ^ b.length * low wd a) hb0
  have ok := ok_frac w2 w5 q1 apos e2'
  have hp : Pt wd o t b a := pt_frac e1' e2'
  have x1 := wide_lt bb b1
  have x2 := wide_lt pb ba
  have y1 : (2 : Nat) ^ (3 * b.length + 1 + (3 * a.length + 1)) ≤ 2 ^ 302 := up (by omega)
  have y3 : (2 : Nat) ^ 303 ≤ 2 ^ 600 := up (by omega)
  have y4 : (2 : Nat) ^ 303 = 2 ^ 302 + 2 ^ 302 := by rw [Nat.pow_succ]; omega
  have y5 : (2 : Nat) ^ (3 * a.length + 1) ≤ 2 ^ 302 := up (by omega)
  have ht : t.natAbs < 2 ^ 600 := by
    have : c.natAbs * t.natAbs = (low wd b * (wd ^ a.length - 1) - wd ^ b.length * low wd a).natAbs := by rw [e1', Int.natAbs_mul]
    have h1 : 1 * t.natAbs ≤ c.natAbs * t.natAbs := Nat.mul_le_mul_right _ (by omega)
    omega
  have ho : o.natAbs < 2 ^ 600 := by
    have : c.natAbs * o.natAbs = (wd ^ a.length - 1).natAbs := by rw [e2', Int.natAbs_mul]
    have h1 : 1 * o.natAbs ≤ c.natAbs * o.natAbs := Nat.mul_le_mul_right _ (by omega)
    omega
  have hc : c.natAbs < 2 ^ 8000 := by
    have : c.natAbs * o.natAbs = (wd ^ a.length - 1).natAbs := by rw [e2', Int.natAbs_mul]
    have h1 : c.natAbs * 1 ≤ c.natAbs * o.natAbs := Nat.mul_le_mul_left _ (by omega)
    have : (2 : Nat) ^ 302 ≤ 2 ^ 8000 := up (by omega)
    omega
  refine ⟨c, t, o, by show [V.int (low wd b * (wd ^ a.length - 1) - wd ^ b.length * low wd a), V.int (wd ^ a.length - 1)] = _; rw [e1', e2'], hg, q1, c0, hc, fun p H6 s6 e6 => ?_⟩
  exact q t o p H6 (s15.trans s6) ⟨e6, ok, hg, ht, ho⟩ ⟨hp, ne, ib, ia, by omega⟩
theorem ok_law_nb_coprime (B : Blt mg) (c_law_roll : Cl CX0 P w K mg base 1 "_law_roll" sp_law_roll []) (c_law_divisor : Cl CX0 P w K mg base 1 "_law_divisor" sp_common_of [])  {f : Addr} {fd : FuncData} (F : Dn K mg "_law_nb_coprime" s_law_nb_coprime ["dice", "width", "most"] f fd) : FnOk P w K mg base CX0 2 f fd ["dice", "width", "most"] sp_law_nb_coprime := by
  refine F.ok sc_law_nb_coprime (fun vs H Q E h => by obtain ⟨d, wd, m, n, rfl, _⟩ := h; rfl) (fun cdv A outer s H vs Q E hr h => ?_)
  obtain ⟨d, wd, m, n, rfl, D0, hn, hm, w2, w5, q⟩ := h
  refine ⟨_, (pss_cons (ps_set (i := 3) sc_law_nb_coprime.nd rfl (Or.inl rfl) (pe_op op_sub (pe_c c_law_roll hr (by decide) (by rfl) (pa_cons (pv 0) (pa_cons (pe_op op_add (pe_op op_mulW pe_int (pv 2)) pe_int) pa_nil))) (pv 2)))
      (pss_cons (ps_while PassesOwn.never (pt_cmpR op_ne (pe_c c_law_divisor hr (by decide) (by rfl) (pa_cons (pv 3) (pa_cons (pv 1) pa_nil))) pe_int (nomark _)) (pss_one (ps_set (i := 3) sc_law_nb_coprime.nd rfl (Or.inl rfl) (pe_op op_add (pv 3) pe_int))))
      (pss_one (ps_ret (pv 3))))), ?_⟩
  refine ⟨_, rfl, _, rfl, _, _, rfl, rfl, wide_mul (a := 2) (b := 12) (by decide) (by omega) (by omega) (by omega) (by omega), _, _, rfl, rfl, d, 2 * (m : Int) + 1, n, rfl, D0, by omega, by omega, by omega, fun v H1 v0 v1 kd1 D1 => ⟨_, rfl, _, _, rfl, rfl, ?_⟩⟩
  obtain ⟨f0, hf0⟩ : ∃ f0 : Int, f0 = v - (m : Int) := ⟨_, rfl⟩
  obtain ⟨T, hT⟩ : ∃ T : Int, T = f0 + (1 - f0) % wd := ⟨_, rfl⟩
  have r0 := Int.emod_nonneg (1 - f0) (by omega : wd ≠ 0)
  have r1 := Int.emod_lt_of_pos (1 - f0) (by omega : 0 < wd)
  have hT1 : Int.gcd T wd = 1 := cop_one (by
    have h1 := Int.emod_add_mul_ediv (1 - f0) wd
    have e : T = 1 + wd * (-((1 - f0) / wd)) := by grind
    rw [e, Int.add_mul_emod_self_left]
    exact Int.emod_eq_of_lt (by omega) (by omega))
  refine ⟨fun mm σ H' => ∃ f : Int, mm = (T - f).toNat ∧ f ≤ T ∧ f0 ≤ f ∧ σ = [some (.ref d), some (.int wd), some (.int (m : Int)), some (.int f)] ∧ H' = H1, ⟨_, f0, rfl, by omega, Int.le_refl _, by rw [hf0] <;> rfl, rfl⟩, ?_⟩
  rintro mm σ H' ⟨f, hmm, fT, ff, rfl, rfl⟩
  refine ⟨_, rfl, _, rfl, f, wd, rfl, rfl, _, rfl, ?_⟩
  by_cases hg : Int.gcd f wd = 1
  · refine ifF (by rw [hg]; rfl) ⟨_, rfl, q f H' kd1 D1 hg (by omega)⟩
  · have hne : f ≠ T := fun e => hg (by rw [e]; exact hT1)
    refine ifT ?_ ⟨fun σ' H'' => σ' = [some (.ref d), some (.int wd), some (.int (m : Int)), some (.int (f + 1))] ∧ H'' = H', fun σ' H'' ⟨e1, e2⟩ => ⟨(T - (f + 1)).toNat, by omega, f + 1, rfl, by omega, by omega, e1, e2⟩, ?_⟩
    · have : ¬ V.int ((Int.gcd f wd : Nat) : Int) = V.int 1 := fun z => hg (by injection z with z; exact Int.ofNat.inj z)
      show (!decide _) = true
      rw [decide_eq_false this]
      rfl
    · exact ⟨_, rfl, _, _, rfl, rfl, rfl, rfl⟩
theorem ok_law_first (B : Blt mg) (c_law_rd_letters : Cl CX0 P w K mg base 1 "_law_rd_letters" (sp_law_rd_letters K) [])  {f : Addr} {fd : FuncData} (F : Dn K mg "_law_first" s_law_first ["width", "pair", "many"] f fd) : FnOk P w K mg base CX0 2 f fd ["width", "pair", "many"] (sp_law_first K) := by
  refine F.ok sc_law_first (fun vs H Q E h => by obtain ⟨wd, v, b, a, n, rfl, _⟩ := h; rfl) (fun cdv A outer s H vs Q E hr h => ?_)
  obtain ⟨wd, v, b, a, n, rfl, hV, w2, w5, ne, ib, ia, lb, la, hn, q⟩ := h
  refine ⟨_, (pss_cons (ps_set (i := 3) sc_law_first.nd rfl (Or.inl rfl) pe_int)
      (pss_cons (ps_for PassesOwn.never rfl (pi_tK K rfl (pe_revTS K rfl (pe_c c_law_rd_letters hr (by decide) (by rfl) (pa_cons (pv 1) (pa_cons (pv 2) pa_nil))))) (pg_name (i := 4) sc_law_first.nd rfl (Or.inl rfl)) (pss_one (ps_set (i := 3) sc_law_first.nd rfl (Or.inl rfl) (pe_op op_add (pe_op op_mulW (pv 3) (pv 0)) (pv 4)))))
      (pss_one (ps_ret (pv 3))))), ?_⟩
  have hin := first_in ne ib ia n
  have hlen := firstL_len b a n
  refine ⟨_, rfl, _, rfl, v, b, a, n, rfl, hV, ne, lb, la, by omega, fun p H1 s1 e1 => ⟨p, _, rfl, e1, fun pr H2 n2 s2 e2 => ⟨pr, rfl, ⟨_, sT e2⟩, ?_⟩⟩⟩
  generalize firstL b a n = L at hin hlen e1 e2 q ⊢
  refine for_map (n := ((vi L).reverse).length) (item := fun i x _ => ((vi L).reverse)[i]? = some x) (fun i σ H' => ∃ z, σ = [some (.int wd), some v, some (.int (n : Int)), some (.int (low wd (L.drop (L.length - i)))), z] ∧ Same H2 H') ⟨none, by rw [Nat.sub_zero, List.drop_length]; rfl, Same.refl _⟩ (fun i σ H' _ ⟨_, _, s⟩ => steadyT (sT (s _ _ e2))) ?_ ?_
  · rintro i x σ H6 H7 hi' ⟨z, rfl, s6⟩ s7 hx
    obtain ⟨z', rfl, hd, hi⟩ := rev_at hx
    have hb := low_abs w2 w5 (ns := L.drop (L.length - i)) fun y hy => hin y (List.mem_of_mem_drop hy)
    have hl2 : 3 * (L.drop (L.length - i)).length + 1 ≤ 2701 := by rw [List.length_drop]; omega
    refine ⟨_, rfl, _, rfl, _, _, rfl, rfl, wide_mul hb (b := 3) (by omega) (by omega) (by omega) (by omega), _, rfl, _, _, rfl, rfl, some (.int z'), ?_, s6.trans s7⟩
    rw [hd, low_cons]
    rfl
  · rintro σ H6 ⟨z, rfl, s6⟩
    rw [List.length_reverse, vi_len, Nat.sub_self, List.drop_zero]
    exact ⟨_, rfl, q H6 ((s1.trans s2).trans s6)⟩
end
end Br

namespace Br
open PySem PySem.Spec PyProof.Rows L2 SlX RZ Mm Nb
local macro_rules | `(tactic| walk_at "up") => `(tactic| first | assumption | exact sT (by assumption) | exact sL (by assumption) | (with_reducible refine same_tup (by assumption) ?_; walk_at "up") | (with_reducible refine Kd.tup (by assumption) ?_; walk_at "up") | (with_reducible refine same_lst (by assumption) ?_; walk_at "up") | (with_reducible refine same_at (by assumption) ?_; walk_at "up"))
local macro_rules | `(tactic| walk_at "sm") => `(tactic| first | exact Same.refl _ | assumption | (refine Same.trans ?_ (by assumption); walk_at "sm"))
local macro_rules | `(tactic| walk_at "kd") => `(tactic| first | exact Kd.refl | assumption | exact Kd.same (by assumption) | (with_reducible refine Kd.trans ?_ (by assumption); walk_at "kd") | (with_reducible refine Kd.trans ?_ (Kd.same (by assumption)); walk_at "kd"))
section
variable {P : Program} {w : World} {K : PySem.W.Frag} {mg : Str → Option Value} {base : Heap}
theorem ok_law_right (B : Blt mg) (c_law_pick : Cl CX0 P w K mg base 2 "_law_pick" (sp_law_pick K) []) (c_law_fraction : Cl CX0 P w K mg base 2 "_law_fraction" (sp_lowest K) []) (c_law_nb_word : Cl CX0 P w K mg base 2 "_law_nb_word" (sp_law_nb_word K) []) (c_law_power : Cl CX0 P w K mg base 1 "_law_power" sp_power_of []) (c_law_rd_drawn : Cl CX0 P w K mg base 3 "_law_rd_drawn" (sp_law_rd_drawn K) []) (c_law_nb_number : Cl CX0 P w K mg base 3 "_law_nb_number" (sp_law_nb_number K) []) (c_law_roll : Cl CX0 P w K mg base 1 "_law_roll" sp_law_roll []) (c_law_nb_coprime : Cl CX0 P w K mg base 2 "_law_nb_coprime" sp_law_nb_coprime []) (c_number_word : Cl CX0 P w K mg base 5 "number_word" (sp_number_word K) []) (c_word_number : Cl CX0 P w K mg base 7 "word_number" (sp_word_number K) []) (c_law_rd_least : Cl CX0 P w K mg base 1 "_law_rd_least" (sp_law_rd_least K) []) (c_law_first : Cl CX0 P w K mg base 2 "_law_first" (sp_law_first K) [])  {f : Addr} {fd : FuncData} (F : Dn K mg "_law_right" s_law_right ["dice"] f fd) : FnOk P w K mg base CX0 8 f fd ["dice"] sp_law29_right := by
  refine F.ok sc_law_right (fun vs H Q E h => by obtain ⟨d, n, rfl, _⟩ := h; rfl) (fun cdv A outer s H vs Q E hr h => ?_)
  obtain ⟨d, n, rfl, D0, hn, q⟩ := h
  refine ⟨_, (pss_cons (ps_set (i := 1) sc_law_right.nd rfl (Or.inl rfl) (pe_op op_add pe_int (pe_c c_law_roll hr (by decide) (by rfl) (pa_cons (pv 0) (pa_cons pe_int pa_nil)))))
      (pss_cons (ps_set (i := 2) sc_law_right.nd rfl (Or.inl rfl) (pe_callB call_abs (by rfl) B.abs' (by decide +kernel) (pa_cons (pe_c c_law_nb_coprime hr (by decide) (by rfl) (pa_cons (pv 0) (pa_cons (pv 1) (pa_cons pe_int pa_nil)))) pa_nil)))
      (pss_cons (ps_set (i := 3) sc_law_right.nd rfl (Or.inl rfl) (pe_c c_law_pick hr (by decide) (by rfl) (pa_cons (pv 0) (pa_cons (pe_lstS (pa_cons (pe_op op_sub (pe_c c_law_roll hr (by decide) (by rfl) (pa_cons (pv 0) (pa_cons pe_int pa_nil))) pe_int) (pa_cons (pe_op op_sub (pe_c c_law_roll hr (by decide) (by rfl) (pa_cons (pv 0) (pa_cons (pe_op op_powW pe_int pe_int) pa_nil))) (pe_op op_mulW pe_int (pe_op op_powW pe_int pe_int))) (pa_cons pe_int (pa_cons (pe_un un_neg pe_int) (pa_cons pe_int pa_nil)))))) pa_nil))))
      (pss_cons (ps_set (i := 4) sc_law_right.nd rfl (Or.inl rfl) (pe_c c_law_fraction hr (by decide) (by rfl) (pa_cons (pv 3) (pa_cons (pv 2) pa_nil))))
      (pss_cons (ps_set (i := 5) sc_law_right.nd rfl (Or.inl rfl) (pe_c c_law_nb_word hr (by decide) (by rfl) (pa_cons (pv 1) (pa_cons (pe_ix (ix_tK K rfl) (pv 4) pe_int (fun _ _ => rfl)) (pa_cons (pe_ix (ix_tK K rfl) (pv 4) pe_int (fun _ _ => rfl)) pa_nil)))))
      (pss_cons (ps_if (PW.pt (pw_or (pt_cmpR (op_neK K rfl hr.units) (pe_c c_number_word hr (by decide) (by rfl) (pa_cons (pv 1) (pa_cons (pv 4) pa_nil))) (pv 5) (nomark _)) (pw_or1 (pt_cmpR (op_neK K rfl hr.units) (pe_c c_word_number hr (by decide) (by rfl) (pa_cons (pv 1) (pa_cons (pv 5) pa_nil))) (pv 4) (nomark _))))) (pss_one (ps_ret pe_bl)) pss_nil)
      (pss_cons (ps_set (i := 6) sc_law_right.nd rfl (Or.inl rfl) (pe_c c_law_power hr (by decide) (by rfl) (pa_cons (pv 1) (pa_cons pe_int pa_nil))))
      (pss_cons (ps_if (pt_cmpR op_ne (pe_op op_mod (pe_op op_sub (pe_op op_mulW (pe_ix (ix_tK K rfl) (pv 4) pe_int (fun _ _ => rfl)) (pe_c c_law_first hr (by decide) (by rfl) (pa_cons (pv 1) (pa_cons (pv 5) (pa_cons pe_int pa_nil))))) (pe_ix (ix_tK K rfl) (pv 4) pe_int (fun _ _ => rfl))) (pv 6)) pe_int (nomark _)) (pss_one (ps_ret pe_bl)) pss_nil)
      (pss_cons (ps_set (i := 7) sc_law_right.nd rfl (Or.inl rfl) (pe_c c_law_rd_drawn hr (by decide) (by rfl) (pa_cons (pv 0) (pa_cons (pv 1) (pa_cons pe_int pa_nil)))))
      (pss_cons (ps_set (i := 8) sc_law_right.nd rfl (Or.inl rfl) (pe_c c_law_nb_number hr (by decide) (by rfl) (pa_cons (pv 1) (pa_cons (pv 7) pa_nil))))
      (pss_cons (ps_if (PW.pt (pw_or (pt_cmpR (op_neK K rfl hr.units) (pe_c c_word_number hr (by decide) (by rfl) (pa_cons (pv 1) (pa_cons (pv 7) pa_nil))) (pv 8) (nomark _)) (pw_or1 (pt_cmpR (op_neK K rfl hr.units) (pe_c c_number_word hr (by decide) (by rfl) (pa_cons (pv 1) (pa_cons (pv 8) pa_nil))) (pe_c c_law_rd_least hr (by decide) (by rfl) (pa_cons (pe_ix (ix_tK K rfl) (pv 7) pe_int (fun _ _ => rfl)) (pa_cons (pe_ix (ix_tK K rfl) (pv 7) pe_int (fun _ _ => rfl)) pa_nil))) (nomark _))))) (pss_one (ps_ret pe_bl)) pss_nil)
      (pss_cons (ps_set (i := 9) sc_law_right.nd rfl (Or.inl rfl) (pe_c c_law_roll hr (by decide) (by rfl) (pa_cons (pv 0) (pa_cons (pe_op op_powW pe_int pe_int) pa_nil))))
      (pss_one (ps_ret (pe_and (pe_cmpR (op_eqK K rfl hr.units) (pe_ix (ix_tK K rfl) (pe_c c_number_word hr (by decide) (by rfl) (pa_cons (pv 1) (pa_cons (pe_tupS (pa_cons (pv 9) (pa_cons pe_int pa_nil))) pa_nil))) pe_int (fun _ _ => rfl)) (pe_tupS (pa_cons pe_int pa_nil)) (nomark _)) (pe_one (pe_cmpR (op_eqK K rfl hr.units) (pe_ix (ix_tK K rfl) (pe_c c_number_word hr (by decide) (by rfl) (pa_cons (pv 1) (pa_cons (pe_tupS (pa_cons (pe_op op_sub (pe_un un_neg pe_int) (pv 9)) (pa_cons pe_int pa_nil))) pa_nil))) pe_int (fun _ _ => rfl)) (pe_tupS (pa_cons (pe_op op_sub (pv 1) pe_int) pa_nil)) (nomark _)))))))))))))))))), ?_⟩
  refine ⟨_, rfl, d, 4, n, rfl, D0, by omega, by omega, by omega, fun v H1 v0 v1 kd1 D1 => ⟨_, _, rfl, rfl, ?_⟩⟩
  obtain ⟨wd, hw⟩ : ∃ wd : Int, wd = 2 + v := ⟨_, rfl⟩
  show gName 1 (V.int (2 + v)) _ _ _
  rw [← hw]
  have w2 : 2 ≤ wd := by omega
  have w5 : wd ≤ 5 := by omega
  refine ⟨_, rfl, _, rfl, d, wd, 40, n + 1, rfl, D1, by omega, by omega, w2, w5, fun f H2 kd2 D2 hgf hf => ⟨_, rfl, ?_⟩⟩
  have f0 : f ≠ 0 := fun z => by
    rw [z, Int.zero_gcd] at hgf
    omega
  obtain ⟨o, ho⟩ : ∃ o : Int, o = ((f.natAbs : Nat) : Int) := ⟨_, rfl⟩
  show gName 2 (V.int (if f < 0 then -f else f)) _ _ _
  rw [abs_if, ← ho]
  have o1 : 1 ≤ o := by omega
  have o45 : o ≤ 45 := by omega
  have hgo : Int.gcd wd o = 1 := by
    rw [ho, Int.gcd_comm]
    show Nat.gcd (((f.natAbs : Nat) : Int)).natAbs wd.natAbs = 1
    rw [Int.natAbs_natCast]
    exact hgf
  have p12 : (10 : Int) ^ (12 : Int).toNat = 1000000000000 := by decide
  have p11 : (10 : Int) ^ (11 : Int).toNat = 100000000000 := by decide
  have p9 : (10 : Int) ^ (9 : Int).toNat = 1000000000 := by decide
  refine ⟨_, rfl, _, rfl, d, 200, n + 2, rfl, D2, by omega, by omega, by omega, fun u1 H3 u10 u11 kd3 D3 => ⟨_, _, rfl, rfl, ?_⟩⟩
  refine ⟨_, rfl, _, _, rfl, rfl, ⟨by decide, by decide⟩, d, (10 : Int) ^ (12 : Int).toNat, n + 2 + 1, rfl, D3, by omega, by rw [p12]; decide, by rw [p12]; decide, fun u2 H4 u20 u21 kd4 D4 => ⟨_, _, rfl, rfl, ⟨by decide, by decide⟩, _, _, rfl, rfl, ?_, _, _, rfl, rfl, ?_⟩⟩
  · rw [p11]
    exact wide_mul (a := 3) (b := 40) (by decide) (by decide) (by decide) (by decide) (by decide)
  rw [p12] at u21
  refine ⟨_, rfl, by show 5 ≤ 1000000; decide, fun pL H5 n5 s5 e5 => ?_⟩
  refine ⟨d, pL, _, n + 2 + 1 + 1, rfl, D4.same s5, by omega, sL e5, D4.ne n5, by show 0 < 5; decide, by show 5 < 1000000; decide, fun i vv H6 hvv kd6 D6 => ?_⟩
  have htop : ∃ top : Int, vv = .int top ∧ -(2 ^ 40) ≤ top ∧ top ≤ 2 ^ 40 := by
    match i, hvv with
    | 0, h => cases h; exact ⟨_, rfl, by omega, by omega⟩
    | 1, h =>
      cases h
      refine ⟨_, rfl, ?_, ?_⟩ <;> rw [p11] <;> omega
    | 2, h => cases h; exact ⟨_, rfl, by decide, by decide⟩
    | 3, h => cases h; exact ⟨_, rfl, by decide, by decide⟩
    | 4, h => cases h; exact ⟨_, rfl, by decide, by decide⟩
    | _ + 5, h => simp at h
  obtain ⟨top, rfl, t1, t2⟩ := htop
  have kd06 : Kd d H H6 := (((kd1.trans kd2).trans kd3).trans kd4).trans ((Kd.same s5).trans kd6)
  obtain ⟨c, t, qq, e1, e2, hg, q1, c0, ec⟩ := frac (top := top) (bottom := o) (by omega)
  have cpos : 1 ≤ c := by
    by_cases hc : 1 ≤ c
    · exact hc
    · exfalso
      have : c * qq ≤ 0 * qq := Int.mul_le_mul_of_nonneg_right (by omega) (by omega)
      omega
  have tle : t.natAbs ≤ top.natAbs := by
    have : c.natAbs * t.natAbs = top.natAbs := by rw [e1, Int.natAbs_mul]
    have h1 : 1 * t.natAbs ≤ c.natAbs * t.natAbs := Nat.mul_le_mul_right _ (by omega)
    omega
  have qle : qq.natAbs ≤ o.natAbs := by
    have : c.natAbs * qq.natAbs = o.natAbs := by rw [e2, Int.natAbs_mul]
    have h1 : 1 * qq.natAbs ≤ c.natAbs * qq.natAbs := Nat.mul_le_mul_right _ (by omega)
    omega
  have cle : c.natAbs ≤ o.natAbs := by
    have : c.natAbs * qq.natAbs = o.natAbs := by rw [e2, Int.natAbs_mul]
    have h1 : c.natAbs * 1 ≤ c.natAbs * qq.natAbs := Nat.mul_le_mul_left _ (by omega)
    omega
  have ok : Ok wd qq := ⟨w2, w5, q1, by
    have := Int.gcd_dvd_gcd_of_dvd_right wd (⟨c, by rw [e2, Int.mul_comm]⟩ : qq ∣ o)
    rw [hgo] at this
    exact Nat.dvd_one.mp this⟩
  have big : (2 : Nat) ^ 41 ≤ 2 ^ 600 := by decide +kernel
  have big8 : (2 : Nat) ^ 41 ≤ 2 ^ 8000 := Nat.pow_le_pow_right (by decide) (by decide)
  have ts : t.natAbs < 2 ^ 600 := by omega
  have qs : qq.natAbs < 2 ^ 600 := by omega
  obtain ⟨b, a, hp, ne, ib, ia, few⟩ := pair_ex ok (t := t) (by omega) (by omega) (by omega)
  have PO : PairOf wd t qq b a := ⟨hp, ne, ib, ia, by omega⟩
  refine ⟨_, rfl, _, rfl, c, t, qq, by rw [← e1, ← e2] <;> rfl, hg, q1, c0, by omega, fun pN H7 s7 eN => ?_⟩
  refine ⟨_, rfl, _, rfl, pN, _, 0, _, rfl, rfl, eN, rfl, _, rfl, pN, _, 1, _, rfl, rfl, eN, rfl, wd, t, qq, b, a, rfl, ok, ts, qs, PO, fun wv H8 s8 hv => ?_⟩
  have NT : NumT K H8 pN wd t qq := ⟨same_tup s8 eN, ok, hg, ts, qs⟩
  refine ⟨_, rfl, _, rfl, wd, t, qq, pN, b, a, rfl, NT, PO, fun wv2 H9 s9 hv2 => ⟨_, rfl, _, _, hv2.dp, (hv.same s9).dp, shP _ _, shP _ _, _, rfl, ifF (by rw [eqvr (shP _ _)]; rfl) ?_⟩⟩
  obtain ⟨ln, la, lb⟩ := Rd.least_len (b := b) ne
  obtain ⟨li1, li2⟩ := least_in ok hp ne ib ia
  have PL : PairOf wd t qq (Rd.least b a).1 (Rd.least b a).2 := ⟨least_pt ok hp ne ib ia, ln, li1, li2, by omega⟩
  have NT9 := NT.same s9
  refine ⟨_, rfl, _, rfl, wd, t, qq, wv, _, _, rfl, hv.same s9, ok, hg, PL, fun p2 H10 s10 e10 => ⟨_, rfl, _, _, dpI (ns := [t, qq]) e10, dpI (ns := [t, qq]) (same_tup s10 NT9.at_), shI _, shI _, _, rfl, ifF (by rw [eqvr (shI _)]; rfl) ?_⟩⟩
  have s8a := s9.trans s10
  have NTa := NT9.same s10
  refine ⟨_, rfl, wd, 30, rfl, by omega, by decide, ?_⟩
  have lowb := low_abs w2 w5 (first_in ln li1 li2 30)
  rw [firstL_len] at lowb
  refine ⟨_, rfl, pN, _, 1, _, rfl, rfl, NTa.at_, rfl, _, rfl, _, rfl, wd, wv, _, _, 30, rfl, hv.same s8a, w2, w5, ln, li1, li2, by omega, by omega, by decide, fun H11 s11 => ⟨_, _, rfl, rfl, wide_mul qs lowb (by omega) (by omega) (by omega), _, rfl, pN, _, 0, _, rfl, rfl, same_tup s11 NTa.at_, rfl, _, _, rfl, rfl, _, rfl, _, _, rfl, rfl, ?_, rfl, _, rfl, ifF ?_ ?_⟩⟩
  · have := (pow_bits w2 w5 30).2
    omega
  · have := first_low ok PL.pt ln li1 li2 30
    show (!decide (V.int ((qq * low wd (firstL (Rd.least b a).1 (Rd.least b a).2 30) - t) % wd ^ 30) = V.int 0)) = false
    rw [this]
    rfl
  have kd0b : Kd d H H11 := kd06.trans (Kd.same ((s7.trans s8).trans (s8a.trans s11)))
  have D11 := D6.same ((s7.trans s8).trans (s8a.trans s11))
  refine ⟨_, rfl, _, rfl, d, wd, 6, _, rfl, D11, by omega, by decide, by decide, by omega, by omega, fun pv b' a' H12 kd12 D12 hp' ib' ia' ne' lb' la' => ?_⟩
  refine ⟨_, rfl, _, rfl, wd, pv, b', a', rfl, hp', w2, w5, ne', ib', ia', by omega, fun tt qq2 pD H13 s13 NT2 PO2 => ?_⟩
  refine ⟨_, rfl, _, rfl, wd, tt, qq2, pv, b', a', rfl, hp'.same s13, NT2.ok, NT2.cop, PO2, fun p3 H14 s14 e14 => ⟨_, rfl, _, _, dpI (ns := [tt, qq2]) e14, dpI (ns := [tt, qq2]) (same_tup s14 NT2.at_), shI _, shI _, _, rfl, ifF (by rw [eqvr (shI _)]; rfl) ?_⟩⟩
  refine ⟨_, rfl, _, rfl, wd, tt, qq2, pD, b', a', rfl, NT2.same s14, PO2, fun v5 H15 s15 hv5 => ?_⟩
  have s1215 := (s13.trans s14).trans s15
  obtain ⟨pp, x, y, rfl, g1, g2, g3⟩ := hp'.same s1215
  refine ⟨_, rfl, pp, _, 0, _, rfl, rfl, g1, rfl, _, rfl, pp, _, 1, _, rfl, rfl, g1, rfl, x, y, b', a', rfl, g2, g3, ne', by omega, by omega, fun v6 H16 s16 hv6 => ⟨_, _, (hv5.same s16).dp, hv6.dp, shP _ _, shP _ _, _, rfl, ifF (by rw [eqvr (shP _ _)]; rfl) ?_⟩⟩
  have s1216 := s1215.trans s16
  refine ⟨_, rfl, _, _, rfl, rfl, ⟨by decide, by decide⟩, d, (10 : Int) ^ (9 : Int).toNat, _, rfl, D12.same s1216, by omega, by rw [p9]; decide, by rw [p9]; decide, fun u9 H17 u90 u91 kd17 D17 => ?_⟩
  rw [p9] at u91
  have ok1 := ok_one w2 w5
  have kd017 : Kd d H H17 := (kd0b.trans kd12).trans ((Kd.same s1216).trans kd17)
  -- whole numbers
  obtain ⟨bw, aw, hpw, new, ibw, iaw, feww⟩ := pair_ex ok1 (t := u9) (by omega) (by omega) (by decide)
  obtain ⟨bv, av, hpv, nev, ibv, iav, fewv⟩ := pair_ex ok1 (t := -1 - u9) (by omega) (by omega) (by decide)
  refine ⟨_, rfl, _, rfl, by show 2 ≤ 1000000; decide, fun pw H18 n18 s18 e18 => ?_⟩
  refine ⟨wd, u9, 1, pw, bw, aw, rfl, ⟨sT e18, ok1, by simp, by omega, by omega⟩, ⟨hpw, new, ibw, iaw, by omega⟩, fun v7 H19 s19 hv7 => ?_⟩
  obtain ⟨pq, x7, y7, rfl, k1, k2, k3⟩ := hv7
  rw [whole_ring w2 w5 u90 (by omega) hpw new ibw iaw] at k3
  refine ⟨pq, _, 1, _, rfl, rfl, k1, rfl, by show 1 ≤ 1000000; decide, fun pz H20 n20 s20 e20 => ⟨_, _, dpI (ns := [0]) (same_tup s20 k3), dpI (ns := [0]) (sT e20), shI _, shI _, _, rfl, ifT (by rw [eqvr (shI _)]) ?_⟩⟩
  refine ⟨_, rfl, 1, rfl, _, rfl, _, _, rfl, rfl, by show 2 ≤ 1000000; decide, fun pw2 H21 n21 s21 e21 => ?_⟩
  refine ⟨wd, -1 - u9, 1, pw2, bv, av, rfl, ⟨sT e21, ok1, by simp, by omega, by omega⟩, ⟨hpv, nev, ibv, iav, by omega⟩, fun v8 H22 s22 hv8 => ?_⟩
  obtain ⟨pr, x8, y8, rfl, j1, j2, j3⟩ := hv8
  rw [below_ring w2 w5 (by omega) (by omega) hpv nev ibv iav] at j3
  refine ⟨pr, _, 1, _, rfl, rfl, j1, rfl, _, rfl, _, _, rfl, rfl, by show 1 ≤ 1000000; decide, fun py H23 n23 s23 e23 => ⟨_, _, dpI (ns := [wd - 1]) (same_tup s23 j3), dpI (ns := [wd - 1]) (sT e23), shI _, shI _, ?_⟩⟩
  rw [eqvr (shI _)]
  have sE := ((((s18.trans s19).trans s20).trans s21).trans s22).trans s23
  exact q H23 (kd017.trans (Kd.same sE)) ((D17.same sE).more (by omega))
end
end Br

namespace Br
open PySem PySem.Spec PyProof.Rows L2 SlX RZ Mm Nb
local macro_rules | `(tactic| walk_at "up") => `(tactic| first | assumption | exact sT (by assumption) | exact sL (by assumption) | (with_reducible refine same_tup (by assumption) ?_; walk_at "up") | (with_reducible refine Kd.tup (by assumption) ?_; walk_at "up") | (with_reducible refine same_lst (by assumption) ?_; walk_at "up") | (with_reducible refine same_at (by assumption) ?_; walk_at "up"))
local macro_rules | `(tactic| walk_at "sm") => `(tactic| first | exact Same.refl _ | assumption | (refine Same.trans ?_ (by assumption); walk_at "sm"))
local macro_rules | `(tactic| walk_at "kd") => `(tactic| first | exact Kd.refl | assumption | exact Kd.same (by assumption) | (with_reducible refine Kd.trans ?_ (by assumption); walk_at "kd") | (with_reducible refine Kd.trans ?_ (Kd.same (by assumption)); walk_at "kd"))
section
variable {P : Program} {w : World} {K : PySem.W.Frag} {mg : Str → Option Value} {base : Heap}
theorem ok_law (B : Blt mg) (c_law_dice : Cl CX0 P w K mg base 1 "_law_dice" (sp_law_dice K) []) (c_number_word : Cl CX0 P w K mg base 5 "number_word" (sp_number_word K) []) (c_word_number : Cl CX0 P w K mg base 7 "word_number" (sp_word_number K) []) (c_law_right : Cl CX0 P w K mg base 8 "_law_right" sp_law29_right [])  {f : Addr} {fd : FuncData} (F : Dn K mg "law" s_law ["script"] f fd) : FnOk P w K mg base CX0 9 f fd ["script"] (spLaw K) := by
  refine F.ok sc_law (fun vs H Q E h => by obtain ⟨a, ns, rfl, _⟩ := h; rfl) (fun cdv A outer s H vs Q E hr h => ?_)
  obtain ⟨a, ns, rfl, hS, hl, q⟩ := h
  refine ⟨_, (pss_cons (ps_for PassesOwn.never rfl (pi_range1 (by rfl) B.range' (pa_cons (pe_callB (call_max2 rfl) (by rfl) B.max' (by decide +kernel) (pa_cons pe_int (pa_cons (pe_callB (call_min2 rfl) (by rfl) B.min' (by decide +kernel) (pa_cons pe_int (pa_cons (pe_callB (call_lenK K rfl) (by rfl) B.len' PySem.boot_len (pa_cons (pv 0) pa_nil)) pa_nil))) pa_nil))) pa_nil)) (pg_name (i := 1) sc_law.nd rfl (Or.inl rfl)) (pss_cons (ps_set (i := 2) sc_law.nd rfl (Or.inl rfl) (pe_c c_law_dice hr (by decide) (by rfl) (pa_cons (pv 0) (pa_cons (pv 1) pa_nil))))
      (pss_one (ps_for PassesOwn.never rfl (pi_range1 (by rfl) B.range' (pa_cons pe_int pa_nil)) (pg_name (i := 3) sc_law.nd rfl (Or.inl rfl)) (pss_one (ps_if (pt_not (pt_val (pe_c c_law_right hr (by decide) (by rfl) (pa_cons (pv 2) pa_nil)))) (pss_one (ps_ret pe_bl)) pss_nil))))))
      (pss_one (ps_ret (pe_and (pe_cmpR (op_eqK K rfl hr.units) (pe_c c_number_word hr (by decide) (by rfl) (pa_cons pe_int (pa_cons (pe_tupS (pa_cons pe_int (pa_cons pe_int pa_nil))) pa_nil))) (pe_tupS (pa_cons (pe_tupS (pa_cons pe_int pa_nil)) (pa_cons (pe_tupS (pa_cons pe_int (pa_cons pe_int pa_nil))) pa_nil))) (nomark _)) (pe_one (pe_cmpR (op_eqK K rfl hr.units) (pe_c c_word_number hr (by decide) (by rfl) (pa_cons pe_int (pa_cons (pe_tupS (pa_cons (pe_tupS (pa_cons pe_int pa_nil)) (pa_cons (pe_tupS (pa_cons pe_int pa_nil)) pa_nil))) pa_nil))) (pe_tupS (pa_cons (pe_un un_neg pe_int) (pa_cons pe_int pa_nil))) (nomark _))))))), ?_⟩
  obtain ⟨l1, l8⟩ := lim_le (m := 8) (by decide) (ns.map V.int).length
  refine ⟨_, rfl, a, _, rfl, .inl hS, 8, _, rfl, 1, _, rfl, lim 8 (ns.map V.int).length, rfl, by omega, by omega, for_range (lo := 0) (n := (lim 8 (ns.map V.int).length).toNat) (fun i σ H' => ∃ z1 z2 z3, σ = [some (.ref a), z1, z2, z3] ∧ Same H H') ⟨none, none, none, rfl, Same.refl H⟩ ?_ ?_⟩
  · rintro i σ H1 hi ⟨z1, z2, z3, rfl, s1⟩
    refine ⟨_, rfl, _, rfl, a, ns, i, by rw [Int.zero_add]; rfl, s1.seq hS, by omega, fun p H2 np s2 D2 => ?_⟩
    have np0 : H p = none := s1.free np
    refine ⟨3, rfl, by decide, by decide, for_range (lo := 0) (n := 3) (fun j σ H' => ∃ z, σ = [some (.ref a), some (.int (0 + (i : Int))), some (.ref p), z] ∧ Same H H' ∧ Dice H' p (1000 * j)) ⟨_, rfl, s1.trans s2, D2⟩ ?_ ?_⟩
    · rintro j σ H3 hj ⟨z, rfl, s3, D3⟩
      refine ⟨_, rfl, p, 1000 * j, rfl, D3, by omega, fun H4 k4 D4 => ⟨true, rfl, iteF ⟨_, rfl, fun b u e => k4 _ _ (s3 _ _ e) fun z => ((ne_of_none e np0) z).elim, D4⟩⟩⟩
    · rintro σ H3 ⟨z, rfl, s3, D3⟩
      exact ⟨_, _, _, rfl, s3⟩
  · rintro σ H1 ⟨z1, z2, z3, rfl, s1⟩
    have ok3 : Ok 2 3 := ⟨by decide, by decide, by decide, by decide⟩
    have ok1 : Ok 2 1 := ⟨by decide, by decide, by decide, by decide⟩
    have in2 : ∀ l : List Int, (l.all fun x => decide (0 ≤ x ∧ x < 2)) = true → In 2 l := fun l h x hx => of_decide_eq_true (List.all_eq_true.mp h x hx)
    have P1 : PairOf 2 1 3 [1] [1, 0] := ⟨by unfold Pt; decide, by decide, in2 _ (by decide), in2 _ (by decide), by decide⟩
    have P2 : PairOf 2 (-2) 1 [0] [1] := ⟨by unfold Pt; decide, by decide, in2 _ (by decide), in2 _ (by decide), by decide⟩
    have eL : Rd.least ([1] : List Int) [1, 0] = ([1], [1, 0]) := by decide +kernel
    refine ⟨by show 2 ≤ 1000000; decide, fun p1 H2 n2 s2 e2 => ⟨2, 1, 3, p1, [1], [1, 0], rfl, ⟨sT e2, ok3, by decide, by decide, by decide⟩, P1, fun v H3 s3 hv => ?_⟩⟩
    rw [eL] at hv
    refine ⟨by show 1 ≤ 1000000; decide, fun pa Ha na sa ea => ⟨by show 2 ≤ 1000000; decide, fun pb Hb nb sb eb => ⟨by show 2 ≤ 1000000; decide, fun pc Hc nc sc ec => ?_⟩⟩⟩
    have lit : PairT K Hc (.ref pc) [1] [1, 0] := ⟨pc, pa, pb, rfl, sT ec, sT (sc _ _ (sb _ _ ea)), sT (sc _ _ eb)⟩
    refine ⟨_, _, (hv.same ((sa.trans sb).trans sc)).dp, lit.dp, shP _ _, shP _ _, _, rfl, ifT (by rw [eqvr (shP _ _)]) ?_⟩
    refine ⟨by show 1 ≤ 1000000; decide, fun pd Hd nd sd ed => ⟨by show 1 ≤ 1000000; decide, fun pe He ne se ee => ⟨by show 2 ≤ 1000000; decide, fun pf Hf nf sf ef => ?_⟩⟩⟩
    have lit2 : PairT K Hf (.ref pf) [0] [1] := ⟨pf, pd, pe, rfl, sT ef, sT (sf _ _ (se _ _ ed)), sT (sf _ _ ee)⟩
    refine ⟨2, -2, 1, .ref pf, [0], [1], rfl, lit2, ok1, by decide, P2, fun pg Hg sg eg => ⟨2, rfl, by show 2 ≤ 1000000; decide, fun ph Hh nh sh eh => ?_⟩⟩
    refine ⟨_, _, dpI (ns := [-2, 1]) (same_tup sh eg), dpI (ns := [-2, 1]) (sT eh), shI _, shI _, ?_⟩
    rw [eqvr (shI _)]
    exact q _
end
end Br

namespace Br
open PySem PySem.Spec PyProof.Rows L2 SlX RZ Mm Nb
local macro_rules | `(tactic| walk_at "up") => `(tactic| first | assumption | exact sT (by assumption) | exact sL (by assumption) | (with_reducible refine same_tup (by assumption) ?_; walk_at "up") | (with_reducible refine Kd.tup (by assumption) ?_; walk_at "up") | (with_reducible refine same_lst (by assumption) ?_; walk_at "up") | (with_reducible refine same_at (by assumption) ?_; walk_at "up"))
local macro_rules | `(tactic| walk_at "sm") => `(tactic| first | exact Same.refl _ | assumption | (refine Same.trans ?_ (by assumption); walk_at "sm"))
local macro_rules | `(tactic| walk_at "kd") => `(tactic| first | exact Kd.refl | assumption | exact Kd.same (by assumption) | (with_reducible refine Kd.trans ?_ (by assumption); walk_at "kd") | (with_reducible refine Kd.trans ?_ (Kd.same (by assumption)); walk_at "kd"))
section
variable {P : Program} {w : World} {K : PySem.W.Frag} {mg : Str → Option Value} {base : Heap}
end
set_option maxHeartbeats 8000000 in
theorem all_mk {P : Program} {w : World} {K : PySem.W.Frag} {h : Heap} {mg : Str → Option Value} {fa : Addr} (X : K.In h) (G : h.Ns mainGlobals mg) (hfa : mg "law" = some (.ref fa))
    {f_power_of : Addr} {od_power_of an_power_of : Option Addr} {sl_power_of : Array (Option Value)} {oc_power_of kV_power_of dc_power_of pm_power_of cd_power_of ct_power_of : Value}
    (a_power_of : PySem.W.nsIn K mainGlobals "power_of" = some (some (.ref f_power_of))) (l_power_of : K.lookup f_power_of = some ⟨oc_power_of, od_power_of, .func (PySem.W.fnOf "power_of" "power_of" (defArgs s_power_of) (defBody s_power_of) (defScope s_power_of) .none kV_power_of dc_power_of pm_power_of an_power_of cd_power_of ct_power_of), sl_power_of⟩) (c_power_of : PySem.W.codeIn K cd_power_of "power_of" = true) (k_power_of : PySem.W.keepIn K (.ref f_power_of) = true)
    {f_is_integer : Addr} {od_is_integer an_is_integer : Option Addr} {sl_is_integer : Array (Option Value)} {oc_is_integer kV_is_integer dc_is_integer pm_is_integer cd_is_integer ct_is_integer : Value}
    (a_is_integer : PySem.W.nsIn K mainGlobals "is_integer" = some (some (.ref f_is_integer))) (l_is_integer : K.lookup f_is_integer = some ⟨oc_is_integer, od_is_integer, .func (PySem.W.fnOf "is_integer" "is_integer" (defArgs s_is_integer) (defBody s_is_integer) (defScope s_is_integer) .none kV_is_integer dc_is_integer pm_is_integer an_is_integer cd_is_integer ct_is_integer), sl_is_integer⟩) (c_is_integer : PySem.W.codeIn K cd_is_integer "is_integer" = true) (k_is_integer : PySem.W.keepIn K (.ref f_is_integer) = true)
    {f_is_within : Addr} {od_is_within an_is_within : Option Addr} {sl_is_within : Array (Option Value)} {oc_is_within kV_is_within dc_is_within pm_is_within cd_is_within ct_is_within : Value}
    (a_is_within : PySem.W.nsIn K mainGlobals "is_within" = some (some (.ref f_is_within))) (l_is_within : K.lookup f_is_within = some ⟨oc_is_within, od_is_within, .func (PySem.W.fnOf "is_within" "is_within" (defArgs s_is_within) (defBody s_is_within) (defScope s_is_within) .none kV_is_within dc_is_within pm_is_within an_is_within cd_is_within ct_is_within), sl_is_within⟩) (c_is_within : PySem.W.codeIn K cd_is_within "is_within" = true) (k_is_within : PySem.W.keepIn K (.ref f_is_within) = true)
    {f_is_width : Addr} {od_is_width an_is_width : Option Addr} {sl_is_width : Array (Option Value)} {oc_is_width kV_is_width dc_is_width pm_is_width cd_is_width ct_is_width : Value}
    (a_is_width : PySem.W.nsIn K mainGlobals "is_width" = some (some (.ref f_is_width))) (l_is_width : K.lookup f_is_width = some ⟨oc_is_width, od_is_width, .func (PySem.W.fnOf "is_width" "is_width" (defArgs s_is_width) (defBody s_is_width) (defScope s_is_width) .none kV_is_width dc_is_width pm_is_width an_is_width cd_is_width ct_is_width), sl_is_width⟩) (c_is_width : PySem.W.codeIn K cd_is_width "is_width" = true) (k_is_width : PySem.W.keepIn K (.ref f_is_width) = true)
    {f_require_width : Addr} {od_require_width an_require_width : Option Addr} {sl_require_width : Array (Option Value)} {oc_require_width kV_require_width dc_require_width pm_require_width cd_require_width ct_require_width : Value}
    (a_require_width : PySem.W.nsIn K mainGlobals "require_width" = some (some (.ref f_require_width))) (l_require_width : K.lookup f_require_width = some ⟨oc_require_width, od_require_width, .func (PySem.W.fnOf "require_width" "require_width" (defArgs s_require_width) (defBody s_require_width) (defScope s_require_width) .none kV_require_width dc_require_width pm_require_width an_require_width cd_require_width ct_require_width), sl_require_width⟩) (c_require_width : PySem.W.codeIn K cd_require_width "require_width" = true) (k_require_width : PySem.W.keepIn K (.ref f_require_width) = true)
    {f_is_letter : Addr} {od_is_letter an_is_letter : Option Addr} {sl_is_letter : Array (Option Value)} {oc_is_letter kV_is_letter dc_is_letter pm_is_letter cd_is_letter ct_is_letter : Value}
    (a_is_letter : PySem.W.nsIn K mainGlobals "is_letter" = some (some (.ref f_is_letter))) (l_is_letter : K.lookup f_is_letter = some ⟨oc_is_letter, od_is_letter, .func (PySem.W.fnOf "is_letter" "is_letter" (defArgs s_is_letter) (defBody s_is_letter) (defScope s_is_letter) .none kV_is_letter dc_is_letter pm_is_letter an_is_letter cd_is_letter ct_is_letter), sl_is_letter⟩) (c_is_letter : PySem.W.codeIn K cd_is_letter "is_letter" = true) (k_is_letter : PySem.W.keepIn K (.ref f_is_letter) = true)
    {f_is_word_in : Addr} {od_is_word_in an_is_word_in : Option Addr} {sl_is_word_in : Array (Option Value)} {oc_is_word_in kV_is_word_in dc_is_word_in pm_is_word_in cd_is_word_in ct_is_word_in : Value}
    {T_is_word_in : Addr} {tc_is_word_in : Value} {td_is_word_in : Option Addr} {tn_is_word_in : Nat} {tsl_is_word_in : Array (Option Value)}
    (a_is_word_in : PySem.W.nsIn K mainGlobals "is_word_in" = some (some (.ref f_is_word_in))) (l_is_word_in : K.lookup f_is_word_in = some ⟨oc_is_word_in, od_is_word_in, .func (PySem.W.fnOf "is_word_in" "is_word_in" (defArgs s_is_word_in) (defBody s_is_word_in) (defScope s_is_word_in) (.ref T_is_word_in) kV_is_word_in dc_is_word_in pm_is_word_in an_is_word_in cd_is_word_in ct_is_word_in), sl_is_word_in⟩) (c_is_word_in : PySem.W.codeIn K cd_is_word_in "is_word_in" = true) (k_is_word_in : PySem.W.keepIn K (.ref f_is_word_in) = true)
    (t_is_word_in : K.lookup T_is_word_in = some ⟨tc_is_word_in, td_is_word_in, .seq [.none].toArray tn_is_word_in, tsl_is_word_in⟩)
    {f_is_round_in : Addr} {od_is_round_in an_is_round_in : Option Addr} {sl_is_round_in : Array (Option Value)} {oc_is_round_in kV_is_round_in dc_is_round_in pm_is_round_in cd_is_round_in ct_is_round_in : Value}
    (a_is_round_in : PySem.W.nsIn K mainGlobals "is_round_in" = some (some (.ref f_is_round_in))) (l_is_round_in : K.lookup f_is_round_in = some ⟨oc_is_round_in, od_is_round_in, .func (PySem.W.fnOf "is_round_in" "is_round_in" (defArgs s_is_round_in) (defBody s_is_round_in) (defScope s_is_round_in) .none kV_is_round_in dc_is_round_in pm_is_round_in an_is_round_in cd_is_round_in ct_is_round_in), sl_is_round_in⟩) (c_is_round_in : PySem.W.codeIn K cd_is_round_in "is_round_in" = true) (k_is_round_in : PySem.W.keepIn K (.ref f_is_round_in) = true)
    {f_require_round : Addr} {od_require_round an_require_round : Option Addr} {sl_require_round : Array (Option Value)} {oc_require_round kV_require_round dc_require_round pm_require_round cd_require_round ct_require_round : Value}
    (a_require_round : PySem.W.nsIn K mainGlobals "require_round" = some (some (.ref f_require_round))) (l_require_round : K.lookup f_require_round = some ⟨oc_require_round, od_require_round, .func (PySem.W.fnOf "require_round" "require_round" (defArgs s_require_round) (defBody s_require_round) (defScope s_require_round) .none kV_require_round dc_require_round pm_require_round an_require_round cd_require_round ct_require_round), sl_require_round⟩) (c_require_round : PySem.W.codeIn K cd_require_round "require_round" = true) (k_require_round : PySem.W.keepIn K (.ref f_require_round) = true)
    {f_least_round_in : Addr} {od_least_round_in an_least_round_in : Option Addr} {sl_least_round_in : Array (Option Value)} {oc_least_round_in kV_least_round_in dc_least_round_in pm_least_round_in cd_least_round_in ct_least_round_in : Value}
    (a_least_round_in : PySem.W.nsIn K mainGlobals "least_round_in" = some (some (.ref f_least_round_in))) (l_least_round_in : K.lookup f_least_round_in = some ⟨oc_least_round_in, od_least_round_in, .func (PySem.W.fnOf "least_round_in" "least_round_in" (defArgs s_least_round_in) (defBody s_least_round_in) (defScope s_least_round_in) .none kV_least_round_in dc_least_round_in pm_least_round_in an_least_round_in cd_least_round_in ct_least_round_in), sl_least_round_in⟩) (c_least_round_in : PySem.W.codeIn K cd_least_round_in "least_round_in" = true) (k_least_round_in : PySem.W.keepIn K (.ref f_least_round_in) = true)
    {f_common_of : Addr} {od_common_of an_common_of : Option Addr} {sl_common_of : Array (Option Value)} {oc_common_of kV_common_of dc_common_of pm_common_of cd_common_of ct_common_of : Value}
    (a_common_of : PySem.W.nsIn K mainGlobals "common_of" = some (some (.ref f_common_of))) (l_common_of : K.lookup f_common_of = some ⟨oc_common_of, od_common_of, .func (PySem.W.fnOf "common_of" "common_of" (defArgs s_common_of) (defBody s_common_of) (defScope s_common_of) .none kV_common_of dc_common_of pm_common_of an_common_of cd_common_of ct_common_of), sl_common_of⟩) (c_common_of : PySem.W.codeIn K cd_common_of "common_of" = true) (k_common_of : PySem.W.keepIn K (.ref f_common_of) = true)
    {f_lowest : Addr} {od_lowest an_lowest : Option Addr} {sl_lowest : Array (Option Value)} {oc_lowest kV_lowest dc_lowest pm_lowest cd_lowest ct_lowest : Value}
    (a_lowest : PySem.W.nsIn K mainGlobals "lowest" = some (some (.ref f_lowest))) (l_lowest : K.lookup f_lowest = some ⟨oc_lowest, od_lowest, .func (PySem.W.fnOf "lowest" "lowest" (defArgs s_lowest) (defBody s_lowest) (defScope s_lowest) .none kV_lowest dc_lowest pm_lowest an_lowest cd_lowest ct_lowest), sl_lowest⟩) (c_lowest : PySem.W.codeIn K cd_lowest "lowest" = true) (k_lowest : PySem.W.keepIn K (.ref f_lowest) = true)
    {f_is_number : Addr} {od_is_number an_is_number : Option Addr} {sl_is_number : Array (Option Value)} {oc_is_number kV_is_number dc_is_number pm_is_number cd_is_number ct_is_number : Value}
    (a_is_number : PySem.W.nsIn K mainGlobals "is_number" = some (some (.ref f_is_number))) (l_is_number : K.lookup f_is_number = some ⟨oc_is_number, od_is_number, .func (PySem.W.fnOf "is_number" "is_number" (defArgs s_is_number) (defBody s_is_number) (defScope s_is_number) .none kV_is_number dc_is_number pm_is_number an_is_number cd_is_number ct_is_number), sl_is_number⟩) (c_is_number : PySem.W.codeIn K cd_is_number "is_number" = true) (k_is_number : PySem.W.keepIn K (.ref f_is_number) = true)
    {f_digit_of : Addr} {od_digit_of an_digit_of : Option Addr} {sl_digit_of : Array (Option Value)} {oc_digit_of kV_digit_of dc_digit_of pm_digit_of cd_digit_of ct_digit_of : Value}
    (a_digit_of : PySem.W.nsIn K mainGlobals "digit_of" = some (some (.ref f_digit_of))) (l_digit_of : K.lookup f_digit_of = some ⟨oc_digit_of, od_digit_of, .func (PySem.W.fnOf "digit_of" "digit_of" (defArgs s_digit_of) (defBody s_digit_of) (defScope s_digit_of) .none kV_digit_of dc_digit_of pm_digit_of an_digit_of cd_digit_of ct_digit_of), sl_digit_of⟩) (c_digit_of : PySem.W.codeIn K cd_digit_of "digit_of" = true) (k_digit_of : PySem.W.keepIn K (.ref f_digit_of) = true)
    {f_word_in : Addr} {od_word_in an_word_in : Option Addr} {sl_word_in : Array (Option Value)} {oc_word_in kV_word_in dc_word_in pm_word_in cd_word_in ct_word_in : Value}
    (a_word_in : PySem.W.nsIn K mainGlobals "word_in" = some (some (.ref f_word_in))) (l_word_in : K.lookup f_word_in = some ⟨oc_word_in, od_word_in, .func (PySem.W.fnOf "word_in" "word_in" (defArgs s_word_in) (defBody s_word_in) (defScope s_word_in) .none kV_word_in dc_word_in pm_word_in an_word_in cd_word_in ct_word_in), sl_word_in⟩) (c_word_in : PySem.W.codeIn K cd_word_in "word_in" = true) (k_word_in : PySem.W.keepIn K (.ref f_word_in) = true)
    {f_low_in : Addr} {od_low_in an_low_in : Option Addr} {sl_low_in : Array (Option Value)} {oc_low_in kV_low_in dc_low_in pm_low_in cd_low_in ct_low_in : Value}
    (a_low_in : PySem.W.nsIn K mainGlobals "low_in" = some (some (.ref f_low_in))) (l_low_in : K.lookup f_low_in = some ⟨oc_low_in, od_low_in, .func (PySem.W.fnOf "low_in" "low_in" (defArgs s_low_in) (defBody s_low_in) (defScope s_low_in) .none kV_low_in dc_low_in pm_low_in an_low_in cd_low_in ct_low_in), sl_low_in⟩) (c_low_in : PySem.W.codeIn K cd_low_in "low_in" = true) (k_low_in : PySem.W.keepIn K (.ref f_low_in) = true)
    {f_number_in : Addr} {od_number_in an_number_in : Option Addr} {sl_number_in : Array (Option Value)} {oc_number_in kV_number_in dc_number_in pm_number_in cd_number_in ct_number_in : Value}
    (a_number_in : PySem.W.nsIn K mainGlobals "number_in" = some (some (.ref f_number_in))) (l_number_in : K.lookup f_number_in = some ⟨oc_number_in, od_number_in, .func (PySem.W.fnOf "number_in" "number_in" (defArgs s_number_in) (defBody s_number_in) (defScope s_number_in) .none kV_number_in dc_number_in pm_number_in an_number_in cd_number_in ct_number_in), sl_number_in⟩) (c_number_in : PySem.W.codeIn K cd_number_in "number_in" = true) (k_number_in : PySem.W.keepIn K (.ref f_number_in) = true)
    {f_require_number : Addr} {od_require_number an_require_number : Option Addr} {sl_require_number : Array (Option Value)} {oc_require_number kV_require_number dc_require_number pm_require_number cd_require_number ct_require_number : Value}
    (a_require_number : PySem.W.nsIn K mainGlobals "require_number" = some (some (.ref f_require_number))) (l_require_number : K.lookup f_require_number = some ⟨oc_require_number, od_require_number, .func (PySem.W.fnOf "require_number" "require_number" (defArgs s_require_number) (defBody s_require_number) (defScope s_require_number) .none kV_require_number dc_require_number pm_require_number an_require_number cd_require_number ct_require_number), sl_require_number⟩) (c_require_number : PySem.W.codeIn K cd_require_number "require_number" = true) (k_require_number : PySem.W.keepIn K (.ref f_require_number) = true)
    {f_number_word : Addr} {od_number_word an_number_word : Option Addr} {sl_number_word : Array (Option Value)} {oc_number_word kV_number_word dc_number_word pm_number_word cd_number_word ct_number_word : Value}
    (a_number_word : PySem.W.nsIn K mainGlobals "number_word" = some (some (.ref f_number_word))) (l_number_word : K.lookup f_number_word = some ⟨oc_number_word, od_number_word, .func (PySem.W.fnOf "number_word" "number_word" (defArgs s_number_word) (defBody s_number_word) (defScope s_number_word) .none kV_number_word dc_number_word pm_number_word an_number_word cd_number_word ct_number_word), sl_number_word⟩) (c_number_word : PySem.W.codeIn K cd_number_word "number_word" = true) (k_number_word : PySem.W.keepIn K (.ref f_number_word) = true)
    {f_word_number : Addr} {od_word_number an_word_number : Option Addr} {sl_word_number : Array (Option Value)} {oc_word_number kV_word_number dc_word_number pm_word_number cd_word_number ct_word_number : Value}
    (a_word_number : PySem.W.nsIn K mainGlobals "word_number" = some (some (.ref f_word_number))) (l_word_number : K.lookup f_word_number = some ⟨oc_word_number, od_word_number, .func (PySem.W.fnOf "word_number" "word_number" (defArgs s_word_number) (defBody s_word_number) (defScope s_word_number) .none kV_word_number dc_word_number pm_word_number an_word_number cd_word_number ct_word_number), sl_word_number⟩) (c_word_number : PySem.W.codeIn K cd_word_number "word_number" = true) (k_word_number : PySem.W.keepIn K (.ref f_word_number) = true)
    {f_law_dice : Addr} {od_law_dice an_law_dice : Option Addr} {sl_law_dice : Array (Option Value)} {oc_law_dice kV_law_dice dc_law_dice pm_law_dice cd_law_dice ct_law_dice : Value}
    (a_law_dice : PySem.W.nsIn K mainGlobals "_law_dice" = some (some (.ref f_law_dice))) (l_law_dice : K.lookup f_law_dice = some ⟨oc_law_dice, od_law_dice, .func (PySem.W.fnOf "_law_dice" "_law_dice" (defArgs s_law_dice) (defBody s_law_dice) (defScope s_law_dice) .none kV_law_dice dc_law_dice pm_law_dice an_law_dice cd_law_dice ct_law_dice), sl_law_dice⟩) (c_law_dice : PySem.W.codeIn K cd_law_dice "_law_dice" = true) (k_law_dice : PySem.W.keepIn K (.ref f_law_dice) = true)
    {f_law_roll : Addr} {od_law_roll an_law_roll : Option Addr} {sl_law_roll : Array (Option Value)} {oc_law_roll kV_law_roll dc_law_roll pm_law_roll cd_law_roll ct_law_roll : Value}
    (a_law_roll : PySem.W.nsIn K mainGlobals "_law_roll" = some (some (.ref f_law_roll))) (l_law_roll : K.lookup f_law_roll = some ⟨oc_law_roll, od_law_roll, .func (PySem.W.fnOf "_law_roll" "_law_roll" (defArgs s_law_roll) (defBody s_law_roll) (defScope s_law_roll) .none kV_law_roll dc_law_roll pm_law_roll an_law_roll cd_law_roll ct_law_roll), sl_law_roll⟩) (c_law_roll : PySem.W.codeIn K cd_law_roll "_law_roll" = true) (k_law_roll : PySem.W.keepIn K (.ref f_law_roll) = true)
    {f_law_pick : Addr} {od_law_pick an_law_pick : Option Addr} {sl_law_pick : Array (Option Value)} {oc_law_pick kV_law_pick dc_law_pick pm_law_pick cd_law_pick ct_law_pick : Value}
    (a_law_pick : PySem.W.nsIn K mainGlobals "_law_pick" = some (some (.ref f_law_pick))) (l_law_pick : K.lookup f_law_pick = some ⟨oc_law_pick, od_law_pick, .func (PySem.W.fnOf "_law_pick" "_law_pick" (defArgs s_law_pick) (defBody s_law_pick) (defScope s_law_pick) .none kV_law_pick dc_law_pick pm_law_pick an_law_pick cd_law_pick ct_law_pick), sl_law_pick⟩) (c_law_pick : PySem.W.codeIn K cd_law_pick "_law_pick" = true) (k_law_pick : PySem.W.keepIn K (.ref f_law_pick) = true)
    {f_law_power : Addr} {od_law_power an_law_power : Option Addr} {sl_law_power : Array (Option Value)} {oc_law_power kV_law_power dc_law_power pm_law_power cd_law_power ct_law_power : Value}
    (a_law_power : PySem.W.nsIn K mainGlobals "_law_power" = some (some (.ref f_law_power))) (l_law_power : K.lookup f_law_power = some ⟨oc_law_power, od_law_power, .func (PySem.W.fnOf "_law_power" "_law_power" (defArgs s_law_power) (defBody s_law_power) (defScope s_law_power) .none kV_law_power dc_law_power pm_law_power an_law_power cd_law_power ct_law_power), sl_law_power⟩) (c_law_power : PySem.W.codeIn K cd_law_power "_law_power" = true) (k_law_power : PySem.W.keepIn K (.ref f_law_power) = true)
    {f_law_word : Addr} {od_law_word an_law_word : Option Addr} {sl_law_word : Array (Option Value)} {oc_law_word kV_law_word dc_law_word pm_law_word cd_law_word ct_law_word : Value}
    (a_law_word : PySem.W.nsIn K mainGlobals "_law_word" = some (some (.ref f_law_word))) (l_law_word : K.lookup f_law_word = some ⟨oc_law_word, od_law_word, .func (PySem.W.fnOf "_law_word" "_law_word" (defArgs s_law_word) (defBody s_law_word) (defScope s_law_word) .none kV_law_word dc_law_word pm_law_word an_law_word cd_law_word ct_law_word), sl_law_word⟩) (c_law_word : PySem.W.codeIn K cd_law_word "_law_word" = true) (k_law_word : PySem.W.keepIn K (.ref f_law_word) = true)
    {f_law_rd_least : Addr} {od_law_rd_least an_law_rd_least : Option Addr} {sl_law_rd_least : Array (Option Value)} {oc_law_rd_least kV_law_rd_least dc_law_rd_least pm_law_rd_least cd_law_rd_least ct_law_rd_least : Value}
    (a_law_rd_least : PySem.W.nsIn K mainGlobals "_law_rd_least" = some (some (.ref f_law_rd_least))) (l_law_rd_least : K.lookup f_law_rd_least = some ⟨oc_law_rd_least, od_law_rd_least, .func (PySem.W.fnOf "_law_rd_least" "_law_rd_least" (defArgs s_law_rd_least) (defBody s_law_rd_least) (defScope s_law_rd_least) .none kV_law_rd_least dc_law_rd_least pm_law_rd_least an_law_rd_least cd_law_rd_least ct_law_rd_least), sl_law_rd_least⟩) (c_law_rd_least : PySem.W.codeIn K cd_law_rd_least "_law_rd_least" = true) (k_law_rd_least : PySem.W.keepIn K (.ref f_law_rd_least) = true)
    {f_law_rd_letters : Addr} {od_law_rd_letters an_law_rd_letters : Option Addr} {sl_law_rd_letters : Array (Option Value)} {oc_law_rd_letters kV_law_rd_letters dc_law_rd_letters pm_law_rd_letters cd_law_rd_letters ct_law_rd_letters : Value}
    (a_law_rd_letters : PySem.W.nsIn K mainGlobals "_law_rd_letters" = some (some (.ref f_law_rd_letters))) (l_law_rd_letters : K.lookup f_law_rd_letters = some ⟨oc_law_rd_letters, od_law_rd_letters, .func (PySem.W.fnOf "_law_rd_letters" "_law_rd_letters" (defArgs s_law_rd_letters) (defBody s_law_rd_letters) (defScope s_law_rd_letters) .none kV_law_rd_letters dc_law_rd_letters pm_law_rd_letters an_law_rd_letters cd_law_rd_letters ct_law_rd_letters), sl_law_rd_letters⟩) (c_law_rd_letters : PySem.W.codeIn K cd_law_rd_letters "_law_rd_letters" = true) (k_law_rd_letters : PySem.W.keepIn K (.ref f_law_rd_letters) = true)
    {f_law_rd_drawn : Addr} {od_law_rd_drawn an_law_rd_drawn : Option Addr} {sl_law_rd_drawn : Array (Option Value)} {oc_law_rd_drawn kV_law_rd_drawn dc_law_rd_drawn pm_law_rd_drawn cd_law_rd_drawn ct_law_rd_drawn : Value}
    (a_law_rd_drawn : PySem.W.nsIn K mainGlobals "_law_rd_drawn" = some (some (.ref f_law_rd_drawn))) (l_law_rd_drawn : K.lookup f_law_rd_drawn = some ⟨oc_law_rd_drawn, od_law_rd_drawn, .func (PySem.W.fnOf "_law_rd_drawn" "_law_rd_drawn" (defArgs s_law_rd_drawn) (defBody s_law_rd_drawn) (defScope s_law_rd_drawn) .none kV_law_rd_drawn dc_law_rd_drawn pm_law_rd_drawn an_law_rd_drawn cd_law_rd_drawn ct_law_rd_drawn), sl_law_rd_drawn⟩) (c_law_rd_drawn : PySem.W.codeIn K cd_law_rd_drawn "_law_rd_drawn" = true) (k_law_rd_drawn : PySem.W.keepIn K (.ref f_law_rd_drawn) = true)
    {f_law_divisor : Addr} {od_law_divisor an_law_divisor : Option Addr} {sl_law_divisor : Array (Option Value)} {oc_law_divisor kV_law_divisor dc_law_divisor pm_law_divisor cd_law_divisor ct_law_divisor : Value}
    (a_law_divisor : PySem.W.nsIn K mainGlobals "_law_divisor" = some (some (.ref f_law_divisor))) (l_law_divisor : K.lookup f_law_divisor = some ⟨oc_law_divisor, od_law_divisor, .func (PySem.W.fnOf "_law_divisor" "_law_divisor" (defArgs s_law_divisor) (defBody s_law_divisor) (defScope s_law_divisor) .none kV_law_divisor dc_law_divisor pm_law_divisor an_law_divisor cd_law_divisor ct_law_divisor), sl_law_divisor⟩) (c_law_divisor : PySem.W.codeIn K cd_law_divisor "_law_divisor" = true) (k_law_divisor : PySem.W.keepIn K (.ref f_law_divisor) = true)
    {f_law_fraction : Addr} {od_law_fraction an_law_fraction : Option Addr} {sl_law_fraction : Array (Option Value)} {oc_law_fraction kV_law_fraction dc_law_fraction pm_law_fraction cd_law_fraction ct_law_fraction : Value}
    (a_law_fraction : PySem.W.nsIn K mainGlobals "_law_fraction" = some (some (.ref f_law_fraction))) (l_law_fraction : K.lookup f_law_fraction = some ⟨oc_law_fraction, od_law_fraction, .func (PySem.W.fnOf "_law_fraction" "_law_fraction" (defArgs s_law_fraction) (defBody s_law_fraction) (defScope s_law_fraction) .none kV_law_fraction dc_law_fraction pm_law_fraction an_law_fraction cd_law_fraction ct_law_fraction), sl_law_fraction⟩) (c_law_fraction : PySem.W.codeIn K cd_law_fraction "_law_fraction" = true) (k_law_fraction : PySem.W.keepIn K (.ref f_law_fraction) = true)
    {f_law_nb_word : Addr} {od_law_nb_word an_law_nb_word : Option Addr} {sl_law_nb_word : Array (Option Value)} {oc_law_nb_word kV_law_nb_word dc_law_nb_word pm_law_nb_word cd_law_nb_word ct_law_nb_word : Value}
    (a_law_nb_word : PySem.W.nsIn K mainGlobals "_law_nb_word" = some (some (.ref f_law_nb_word))) (l_law_nb_word : K.lookup f_law_nb_word = some ⟨oc_law_nb_word, od_law_nb_word, .func (PySem.W.fnOf "_law_nb_word" "_law_nb_word" (defArgs s_law_nb_word) (defBody s_law_nb_word) (defScope s_law_nb_word) .none kV_law_nb_word dc_law_nb_word pm_law_nb_word an_law_nb_word cd_law_nb_word ct_law_nb_word), sl_law_nb_word⟩) (c_law_nb_word : PySem.W.codeIn K cd_law_nb_word "_law_nb_word" = true) (k_law_nb_word : PySem.W.keepIn K (.ref f_law_nb_word) = true)
    {f_law_nb_number : Addr} {od_law_nb_number an_law_nb_number : Option Addr} {sl_law_nb_number : Array (Option Value)} {oc_law_nb_number kV_law_nb_number dc_law_nb_number pm_law_nb_number cd_law_nb_number ct_law_nb_number : Value}
    (a_law_nb_number : PySem.W.nsIn K mainGlobals "_law_nb_number" = some (some (.ref f_law_nb_number))) (l_law_nb_number : K.lookup f_law_nb_number = some ⟨oc_law_nb_number, od_law_nb_number, .func (PySem.W.fnOf "_law_nb_number" "_law_nb_number" (defArgs s_law_nb_number) (defBody s_law_nb_number) (defScope s_law_nb_number) .none kV_law_nb_number dc_law_nb_number pm_law_nb_number an_law_nb_number cd_law_nb_number ct_law_nb_number), sl_law_nb_number⟩) (c_law_nb_number : PySem.W.codeIn K cd_law_nb_number "_law_nb_number" = true) (k_law_nb_number : PySem.W.keepIn K (.ref f_law_nb_number) = true)
    {f_law_nb_coprime : Addr} {od_law_nb_coprime an_law_nb_coprime : Option Addr} {sl_law_nb_coprime : Array (Option Value)} {oc_law_nb_coprime kV_law_nb_coprime dc_law_nb_coprime pm_law_nb_coprime cd_law_nb_coprime ct_law_nb_coprime : Value}
    (a_law_nb_coprime : PySem.W.nsIn K mainGlobals "_law_nb_coprime" = some (some (.ref f_law_nb_coprime))) (l_law_nb_coprime : K.lookup f_law_nb_coprime = some ⟨oc_law_nb_coprime, od_law_nb_coprime, .func (PySem.W.fnOf "_law_nb_coprime" "_law_nb_coprime" (defArgs s_law_nb_coprime) (defBody s_law_nb_coprime) (defScope s_law_nb_coprime) .none kV_law_nb_coprime dc_law_nb_coprime pm_law_nb_coprime an_law_nb_coprime cd_law_nb_coprime ct_law_nb_coprime), sl_law_nb_coprime⟩) (c_law_nb_coprime : PySem.W.codeIn K cd_law_nb_coprime "_law_nb_coprime" = true) (k_law_nb_coprime : PySem.W.keepIn K (.ref f_law_nb_coprime) = true)
    {f_law_first : Addr} {od_law_first an_law_first : Option Addr} {sl_law_first : Array (Option Value)} {oc_law_first kV_law_first dc_law_first pm_law_first cd_law_first ct_law_first : Value}
    (a_law_first : PySem.W.nsIn K mainGlobals "_law_first" = some (some (.ref f_law_first))) (l_law_first : K.lookup f_law_first = some ⟨oc_law_first, od_law_first, .func (PySem.W.fnOf "_law_first" "_law_first" (defArgs s_law_first) (defBody s_law_first) (defScope s_law_first) .none kV_law_first dc_law_first pm_law_first an_law_first cd_law_first ct_law_first), sl_law_first⟩) (c_law_first : PySem.W.codeIn K cd_law_first "_law_first" = true) (k_law_first : PySem.W.keepIn K (.ref f_law_first) = true)
    {f_law_right : Addr} {od_law_right an_law_right : Option Addr} {sl_law_right : Array (Option Value)} {oc_law_right kV_law_right dc_law_right pm_law_right cd_law_right ct_law_right : Value}
    (a_law_right : PySem.W.nsIn K mainGlobals "_law_right" = some (some (.ref f_law_right))) (l_law_right : K.lookup f_law_right = some ⟨oc_law_right, od_law_right, .func (PySem.W.fnOf "_law_right" "_law_right" (defArgs s_law_right) (defBody s_law_right) (defScope s_law_right) .none kV_law_right dc_law_right pm_law_right an_law_right cd_law_right ct_law_right), sl_law_right⟩) (c_law_right : PySem.W.codeIn K cd_law_right "_law_right" = true) (k_law_right : PySem.W.keepIn K (.ref f_law_right) = true)
    {f_law : Addr} {od_law an_law : Option Addr} {sl_law : Array (Option Value)} {oc_law kV_law dc_law pm_law cd_law ct_law : Value}
    (a_law : PySem.W.nsIn K mainGlobals "law" = some (some (.ref f_law))) (l_law : K.lookup f_law = some ⟨oc_law, od_law, .func (PySem.W.fnOf "law" "law" (defArgs s_law) (defBody s_law) (defScope s_law) .none kV_law dc_law pm_law an_law cd_law ct_law), sl_law⟩) (c_law : PySem.W.codeIn K cd_law "law" = true) (k_law : PySem.W.keepIn K (.ref f_law) = true)
    {u_MAX_WIDTH : Value} (g_MAX_WIDTH : PySem.W.nsIn K mainGlobals "MAX_WIDTH" = some (some u_MAX_WIDTH)) (r_MAX_WIDTH : RelV (.int 5) u_MAX_WIDTH)
    {u_MAX_DIGITS : Value} (g_MAX_DIGITS : PySem.W.nsIn K mainGlobals "MAX_DIGITS" = some (some u_MAX_DIGITS)) (r_MAX_DIGITS : RelV (.int 200) u_MAX_DIGITS)
    {u_MOST_LETTERS : Value} (g_MOST_LETTERS : PySem.W.nsIn K mainGlobals "MOST_LETTERS" = some (some u_MOST_LETTERS)) (r_MOST_LETTERS : RelV (.int 4000) u_MOST_LETTERS)
    (z_len : PySem.W.nsIn K mainGlobals "len" = some none)
    (z_range : PySem.W.nsIn K mainGlobals "range" = some none)
    (z_isinstance : PySem.W.nsIn K mainGlobals "isinstance" = some none)
    (z_int : PySem.W.nsIn K mainGlobals "int" = some none)
    (z_bool : PySem.W.nsIn K mainGlobals "bool" = some none)
    (z_tuple : PySem.W.nsIn K mainGlobals "tuple" = some none)
    (z_list : PySem.W.nsIn K mainGlobals "list" = some none)
    (z_all : PySem.W.nsIn K mainGlobals "all" = some none)
    (z_abs : PySem.W.nsIn K mainGlobals "abs" = some none)
    (z_max : PySem.W.nsIn K mainGlobals "max" = some none)
    (z_min : PySem.W.nsIn K mainGlobals "min" = some none)
    : ∃ fd : FuncData, (∀ (s : Shared) (v : Value), BindsTo s fd ⟨[v], []⟩ [("script", v)]) ∧ ∀ base : Heap, K.In base → base.Ns mainGlobals mg → FnOk P w K mg base CX0 9 fa fd ["script"] (spLaw K) := by
  have e := hfa.symm.trans (PySem.W.mg_of X G a_law)
  cases e
  have B : Blt mg := ⟨PySem.W.mg_none_of X G z_len, PySem.W.mg_none_of X G z_range, PySem.W.mg_none_of X G z_isinstance, PySem.W.mg_none_of X G z_int, PySem.W.mg_none_of X G z_bool, PySem.W.mg_none_of X G z_tuple, PySem.W.mg_none_of X G z_list, PySem.W.mg_none_of X G z_all, PySem.W.mg_none_of X G z_abs, PySem.W.mg_none_of X G z_max, PySem.W.mg_none_of X G z_min⟩
  have m_MAX_WIDTH : ∃ u, mg "MAX_WIDTH" = some u ∧ RelV (.int 5) u := ⟨_, PySem.W.mg_of X G g_MAX_WIDTH, r_MAX_WIDTH⟩
  have m_MAX_DIGITS : ∃ u, mg "MAX_DIGITS" = some u ∧ RelV (.int 200) u := ⟨_, PySem.W.mg_of X G g_MAX_DIGITS, r_MAX_DIGITS⟩
  have m_MOST_LETTERS : ∃ u, mg "MOST_LETTERS" = some u ∧ RelV (.int 4000) u := ⟨_, PySem.W.mg_of X G g_MOST_LETTERS, r_MOST_LETTERS⟩
  refine ⟨PySem.W.fnOf "law" "law" (defArgs s_law) (defBody s_law) (defScope s_law) .none kV_law dc_law pm_law an_law cd_law ct_law, fun s v => .of_eq rfl, fun base KB GB => ?_⟩
  have F_power_of : Dn K mg "power_of" s_power_of ["number", "many"] _ _ := dn_mk l_power_of c_power_of k_power_of (PySem.W.mg_of X G a_power_of)
  have b_power_of : Binds K _ ["number", "many"] [] := bind_all l_power_of fun us hl => match us, hl with | [_, _], _ => rfl
  have c_power_of := F_power_of.cl b_power_of .nil (ok_power_of (P := P) (w := w) (base := base) (B := B) (F := F_power_of))
  have F_is_integer : Dn K mg "is_integer" s_is_integer ["value"] _ _ := dn_mk l_is_integer c_is_integer k_is_integer (PySem.W.mg_of X G a_is_integer)
  have b_is_integer : Binds K _ ["value"] [] := bind_all l_is_integer fun us hl => match us, hl with | [_], _ => rfl
  have c_is_integer := F_is_integer.cl b_is_integer .nil (ok_is_integer (P := P) (w := w) (base := base) (B := B) (F := F_is_integer))
  have F_is_within : Dn K mg "is_within" s_is_within ["value", "low", "high"] _ _ := dn_mk l_is_within c_is_within k_is_within (PySem.W.mg_of X G a_is_within)
  have b_is_within : Binds K _ ["value", "low", "high"] [] := bind_all l_is_within fun us hl => match us, hl with | [_, _, _], _ => rfl
  have c_is_within := F_is_within.cl b_is_within .nil (ok_is_within (P := P) (w := w) (base := base) (B := B) (c_is_integer := c_is_integer) (F := F_is_within))
  have F_is_width : Dn K mg "is_width" s_is_width ["value"] _ _ := dn_mk l_is_width c_is_width k_is_width (PySem.W.mg_of X G a_is_width)
  have b_is_width : Binds K _ ["value"] [] := bind_all l_is_width fun us hl => match us, hl with | [_], _ => rfl
  have c_is_width := F_is_width.cl b_is_width .nil (ok_is_width (P := P) (w := w) (base := base) (B := B) (m_MAX_WIDTH := m_MAX_WIDTH) (c_is_within := c_is_within) (F := F_is_width))
  have F_require_width : Dn K mg "require_width" s_require_width ["value"] _ _ := dn_mk l_require_width c_require_width k_require_width (PySem.W.mg_of X G a_require_width)
  have b_require_width : Binds K _ ["value"] [] := bind_all l_require_width fun us hl => match us, hl with | [_], _ => rfl
  have c_require_width := F_require_width.cl b_require_width .nil (ok_require_width (P := P) (w := w) (base := base) (B := B) (c_is_width := c_is_width) (F := F_require_width))
  have F_is_letter : Dn K mg "is_letter" s_is_letter ["width", "value"] _ _ := dn_mk l_is_letter c_is_letter k_is_letter (PySem.W.mg_of X G a_is_letter)
  have b_is_letter : Binds K _ ["width", "value"] [] := bind_all l_is_letter fun us hl => match us, hl with | [_, _], _ => rfl
  have c_is_letter := F_is_letter.cl b_is_letter .nil (ok_is_letter (P := P) (w := w) (base := base) (B := B) (c_is_within := c_is_within) (F := F_is_letter))
  have F_is_word_in : Dn K mg "is_word_in" s_is_word_in ["width", "value", "most"] _ _ := dn_mk l_is_word_in c_is_word_in k_is_word_in (PySem.W.mg_of X G a_is_word_in)
  have FD_is_word_in := fund_mk (dvs := [.non]) (its := [.none]) l_is_word_in c_is_word_in k_is_word_in t_is_word_in (.cons rfl .nil)
  have o_is_word_in := ok_is_word_in (P := P) (w := w) (base := base) (B := B) (c_is_letter := c_is_letter) (F := F_is_word_in)
  obtain ⟨ds_is_word_in_2, vs_is_word_in_2, b_is_word_in_2⟩ := FD_is_word_in.binds1 (ps := ["width", "value", "most"]) 2 0 (by decide) (by decide) fun _ _ _ _ _ _ _ us its hl hi => match us, its, hl, hi with | [_, _], [_], _, _ => ⟨_, rfl, rfl⟩
  have c_is_word_in_2 := F_is_word_in.cl b_is_word_in_2 vs_is_word_in_2 o_is_word_in
  obtain ⟨ds_is_word_in, vs_is_word_in, b_is_word_in⟩ := FD_is_word_in.binds1 (ps := ["width", "value", "most"]) 3 1 (by decide) (by decide) fun _ _ _ _ _ _ _ us its hl hi => match us, its, hl, hi with | [_, _, _], [_], _, _ => ⟨_, rfl, rfl⟩
  have c_is_word_in := F_is_word_in.cl b_is_word_in vs_is_word_in o_is_word_in
  have F_is_round_in : Dn K mg "is_round_in" s_is_round_in ["width", "value", "most"] _ _ := dn_mk l_is_round_in c_is_round_in k_is_round_in (PySem.W.mg_of X G a_is_round_in)
  have b_is_round_in : Binds K _ ["width", "value", "most"] [] := bind_all l_is_round_in fun us hl => match us, hl with | [_, _, _], _ => rfl
  have c_is_round_in := F_is_round_in.cl b_is_round_in .nil (ok_is_round_in (P := P) (w := w) (base := base) (B := B) (c_is_word_in := c_is_word_in) (F := F_is_round_in))
  have F_require_round : Dn K mg "require_round" s_require_round ["width", "value"] _ _ := dn_mk l_require_round c_require_round k_require_round (PySem.W.mg_of X G a_require_round)
  have b_require_round : Binds K _ ["width", "value"] [] := bind_all l_require_round fun us hl => match us, hl with | [_, _], _ => rfl
  have c_require_round := F_require_round.cl b_require_round .nil (ok_require_round (P := P) (w := w) (base := base) (B := B) (c_is_round_in := c_is_round_in) (F := F_require_round))
  have F_least_round_in : Dn K mg "least_round_in" s_least_round_in ["word"] _ _ := dn_mk l_least_round_in c_least_round_in k_least_round_in (PySem.W.mg_of X G a_least_round_in)
  have b_least_round_in : Binds K _ ["word"] [] := bind_all l_least_round_in fun us hl => match us, hl with | [_], _ => rfl
  have c_least_round_in := F_least_round_in.cl b_least_round_in .nil (ok_least_round_in (P := P) (w := w) (base := base) (B := B) (F := F_least_round_in))
  have F_common_of : Dn K mg "common_of" s_common_of ["one", "other"] _ _ := dn_mk l_common_of c_common_of k_common_of (PySem.W.mg_of X G a_common_of)
  have b_common_of : Binds K _ ["one", "other"] [] := bind_all l_common_of fun us hl => match us, hl with | [_, _], _ => rfl
  have c_common_of := F_common_of.cl b_common_of .nil (ok_common_of (P := P) (w := w) (base := base) (B := B) (F := F_common_of))
  have F_lowest : Dn K mg "lowest" s_lowest ["top", "bottom"] _ _ := dn_mk l_lowest c_lowest k_lowest (PySem.W.mg_of X G a_lowest)
  have b_lowest : Binds K _ ["top", "bottom"] [] := bind_all l_lowest fun us hl => match us, hl with | [_, _], _ => rfl
  have c_lowest := F_lowest.cl b_lowest .nil (ok_lowest (P := P) (w := w) (base := base) (B := B) (c_common_of := c_common_of) (F := F_lowest))
  have F_is_number : Dn K mg "is_number" s_is_number ["width", "value"] _ _ := dn_mk l_is_number c_is_number k_is_number (PySem.W.mg_of X G a_is_number)
  have b_is_number : Binds K _ ["width", "value"] [] := bind_all l_is_number fun us hl => match us, hl with | [_, _], _ => rfl
  have c_is_number := F_is_number.cl b_is_number .nil (ok_is_number (P := P) (w := w) (base := base) (B := B) (m_MAX_DIGITS := m_MAX_DIGITS) (c_is_integer := c_is_integer) (c_power_of := c_power_of) (c_common_of := c_common_of) (F := F_is_number))
  have F_digit_of : Dn K mg "digit_of" s_digit_of ["width", "total", "over"] _ _ := dn_mk l_digit_of c_digit_of k_digit_of (PySem.W.mg_of X G a_digit_of)
  have b_digit_of : Binds K _ ["width", "total", "over"] [] := bind_all l_digit_of fun us hl => match us, hl with | [_, _, _], _ => rfl
  have c_digit_of := F_digit_of.cl b_digit_of .nil (ok_digit_of (P := P) (w := w) (base := base) (B := B) (F := F_digit_of))
  have F_word_in : Dn K mg "word_in" s_word_in ["width", "number"] _ _ := dn_mk l_word_in c_word_in k_word_in (PySem.W.mg_of X G a_word_in)
  have b_word_in : Binds K _ ["width", "number"] [] := bind_all l_word_in fun us hl => match us, hl with | [_, _], _ => rfl
  have c_word_in := F_word_in.cl b_word_in .nil (ok_word_in (P := P) (w := w) (base := base) (B := B) (m_MOST_LETTERS := m_MOST_LETTERS) (c_least_round_in := c_least_round_in) (c_digit_of := c_digit_of) (F := F_word_in))
  have F_low_in : Dn K mg "low_in" s_low_in ["width", "word"] _ _ := dn_mk l_low_in c_low_in k_low_in (PySem.W.mg_of X G a_low_in)
  have b_low_in : Binds K _ ["width", "word"] [] := bind_all l_low_in fun us hl => match us, hl with | [_, _], _ => rfl
  have c_low_in := F_low_in.cl b_low_in .nil (ok_low_in (P := P) (w := w) (base := base) (B := B) (F := F_low_in))
  have F_number_in : Dn K mg "number_in" s_number_in ["width", "word"] _ _ := dn_mk l_number_in c_number_in k_number_in (PySem.W.mg_of X G a_number_in)
  have b_number_in : Binds K _ ["width", "word"] [] := bind_all l_number_in fun us hl => match us, hl with | [_, _], _ => rfl
  have c_number_in := F_number_in.cl b_number_in .nil (ok_number_in (P := P) (w := w) (base := base) (B := B) (c_lowest := c_lowest) (c_power_of := c_power_of) (c_low_in := c_low_in) (F := F_number_in))
  have F_require_number : Dn K mg "require_number" s_require_number ["width", "value"] _ _ := dn_mk l_require_number c_require_number k_require_number (PySem.W.mg_of X G a_require_number)
  have b_require_number : Binds K _ ["width", "value"] [] := bind_all l_require_number fun us hl => match us, hl with | [_, _], _ => rfl
  have c_require_number := F_require_number.cl b_require_number .nil (ok_require_number (P := P) (w := w) (base := base) (B := B) (c_is_number := c_is_number) (F := F_require_number))
  have F_number_word : Dn K mg "number_word" s_number_word ["width", "number"] _ _ := dn_mk l_number_word c_number_word k_number_word (PySem.W.mg_of X G a_number_word)
  have b_number_word : Binds K _ ["width", "number"] [] := bind_all l_number_word fun us hl => match us, hl with | [_, _], _ => rfl
  have c_number_word := F_number_word.cl b_number_word .nil (ok_number_word (P := P) (w := w) (base := base) (B := B) (c_require_width := c_require_width) (c_require_number := c_require_number) (c_word_in := c_word_in) (F := F_number_word))
  have F_word_number : Dn K mg "word_number" s_word_number ["width", "word"] _ _ := dn_mk l_word_number c_word_number k_word_number (PySem.W.mg_of X G a_word_number)
  have b_word_number : Binds K _ ["width", "word"] [] := bind_all l_word_number fun us hl => match us, hl with | [_, _], _ => rfl
  have c_word_number := F_word_number.cl b_word_number .nil (ok_word_number (P := P) (w := w) (base := base) (B := B) (c_require_width := c_require_width) (c_require_round := c_require_round) (c_number_in := c_number_in) (F := F_word_number))
  have F_law_dice : Dn K mg "_law_dice" s_law_dice ["script", "spot"] _ _ := dn_mk l_law_dice c_law_dice k_law_dice (PySem.W.mg_of X G a_law_dice)
  have b_law_dice : Binds K _ ["script", "spot"] [] := bind_all l_law_dice fun us hl => match us, hl with | [_, _], _ => rfl
  have c_law_dice := F_law_dice.cl b_law_dice .nil (ok_law_dice (P := P) (w := w) (base := base) (B := B) (F := F_law_dice))
  have F_law_roll : Dn K mg "_law_roll" s_law_roll ["dice", "total"] _ _ := dn_mk l_law_roll c_law_roll k_law_roll (PySem.W.mg_of X G a_law_roll)
  have b_law_roll : Binds K _ ["dice", "total"] [] := bind_all l_law_roll fun us hl => match us, hl with | [_, _], _ => rfl
  have c_law_roll := F_law_roll.cl b_law_roll .nil (ok_law_roll (P := P) (w := w) (base := base) (B := B) (F := F_law_roll))
  have F_law_pick : Dn K mg "_law_pick" s_law_pick ["dice", "items"] _ _ := dn_mk l_law_pick c_law_pick k_law_pick (PySem.W.mg_of X G a_law_pick)
  have b_law_pick : Binds K _ ["dice", "items"] [] := bind_all l_law_pick fun us hl => match us, hl with | [_, _], _ => rfl
  have c_law_pick := F_law_pick.cl b_law_pick .nil (ok_law_pick (P := P) (w := w) (base := base) (B := B) (c_law_roll := c_law_roll) (F := F_law_pick))
  have F_law_power : Dn K mg "_law_power" s_law_power ["base", "many"] _ _ := dn_mk l_law_power c_law_power k_law_power (PySem.W.mg_of X G a_law_power)
  have b_law_power : Binds K _ ["base", "many"] [] := bind_all l_law_power fun us hl => match us, hl with | [_, _], _ => rfl
  have c_law_power := F_law_power.cl b_law_power .nil (ok_law_power (P := P) (w := w) (base := base) (B := B) (F := F_law_power))
  have F_law_word : Dn K mg "_law_word" s_law_word ["dice", "width", "most"] _ _ := dn_mk l_law_word c_law_word k_law_word (PySem.W.mg_of X G a_law_word)
  have b_law_word : Binds K _ ["dice", "width", "most"] [] := bind_all l_law_word fun us hl => match us, hl with | [_, _, _], _ => rfl
  have c_law_word := F_law_word.cl b_law_word .nil (ok_law_word (P := P) (w := w) (base := base) (B := B) (c_law_roll := c_law_roll) (F := F_law_word))
  have F_law_rd_least : Dn K mg "_law_rd_least" s_law_rd_least ["before", "around"] _ _ := dn_mk l_law_rd_least c_law_rd_least k_law_rd_least (PySem.W.mg_of X G a_law_rd_least)
  have b_law_rd_least : Binds K _ ["before", "around"] [] := bind_all l_law_rd_least fun us hl => match us, hl with | [_, _], _ => rfl
  have c_law_rd_least := F_law_rd_least.cl b_law_rd_least .nil (ok_law_rd_least (P := P) (w := w) (base := base) (B := B) (F := F_law_rd_least))
  have F_law_rd_letters : Dn K mg "_law_rd_letters" s_law_rd_letters ["pair", "many"] _ _ := dn_mk l_law_rd_letters c_law_rd_letters k_law_rd_letters (PySem.W.mg_of X G a_law_rd_letters)
  have b_law_rd_letters : Binds K _ ["pair", "many"] [] := bind_all l_law_rd_letters fun us hl => match us, hl with | [_, _], _ => rfl
  have c_law_rd_letters := F_law_rd_letters.cl b_law_rd_letters .nil (ok_law_rd_letters (P := P) (w := w) (base := base) (B := B) (F := F_law_rd_letters))
  have F_law_rd_drawn : Dn K mg "_law_rd_drawn" s_law_rd_drawn ["dice", "width", "most"] _ _ := dn_mk l_law_rd_drawn c_law_rd_drawn k_law_rd_drawn (PySem.W.mg_of X G a_law_rd_drawn)
  have b_law_rd_drawn : Binds K _ ["dice", "width", "most"] [] := bind_all l_law_rd_drawn fun us hl => match us, hl with | [_, _, _], _ => rfl
  have c_law_rd_drawn := F_law_rd_drawn.cl b_law_rd_drawn .nil (ok_law_rd_drawn (P := P) (w := w) (base := base) (B := B) (c_law_word := c_law_word) (c_law_roll := c_law_roll) (F := F_law_rd_drawn))
  have F_law_divisor : Dn K mg "_law_divisor" s_law_divisor ["one", "other"] _ _ := dn_mk l_law_divisor c_law_divisor k_law_divisor (PySem.W.mg_of X G a_law_divisor)
  have b_law_divisor : Binds K _ ["one", "other"] [] := bind_all l_law_divisor fun us hl => match us, hl with | [_, _], _ => rfl
  have c_law_divisor := F_law_divisor.cl b_law_divisor .nil (ok_law_divisor (P := P) (w := w) (base := base) (B := B) (F := F_law_divisor))
  have F_law_fraction : Dn K mg "_law_fraction" s_law_fraction ["top", "bottom"] _ _ := dn_mk l_law_fraction c_law_fraction k_law_fraction (PySem.W.mg_of X G a_law_fraction)
  have b_law_fraction : Binds K _ ["top", "bottom"] [] := bind_all l_law_fraction fun us hl => match us, hl with | [_, _], _ => rfl
  have c_law_fraction := F_law_fraction.cl b_law_fraction .nil (ok_law_fraction (P := P) (w := w) (base := base) (B := B) (c_law_divisor := c_law_divisor) (F := F_law_fraction))
  have F_law_nb_word : Dn K mg "_law_nb_word" s_law_nb_word ["width", "top", "bottom"] _ _ := dn_mk l_law_nb_word c_law_nb_word k_law_nb_word (PySem.W.mg_of X G a_law_nb_word)
  have b_law_nb_word : Binds K _ ["width", "top", "bottom"] [] := bind_all l_law_nb_word fun us hl => match us, hl with | [_, _, _], _ => rfl
  have c_law_nb_word := F_law_nb_word.cl b_law_nb_word .nil (ok_law_nb_word (P := P) (w := w) (base := base) (B := B) (c_law_rd_least := c_law_rd_least) (F := F_law_nb_word))
  have F_law_nb_number : Dn K mg "_law_nb_number" s_law_nb_number ["width", "pair"] _ _ := dn_mk l_law_nb_number c_law_nb_number k_law_nb_number (PySem.W.mg_of X G a_law_nb_number)
  have b_law_nb_number : Binds K _ ["width", "pair"] [] := bind_all l_law_nb_number fun us hl => match us, hl with | [_, _], _ => rfl
  have c_law_nb_number := F_law_nb_number.cl b_law_nb_number .nil (ok_law_nb_number (P := P) (w := w) (base := base) (B := B) (c_law_fraction := c_law_fraction) (c_law_power := c_law_power) (F := F_law_nb_number))
  have F_law_nb_coprime : Dn K mg "_law_nb_coprime" s_law_nb_coprime ["dice", "width", "most"] _ _ := dn_mk l_law_nb_coprime c_law_nb_coprime k_law_nb_coprime (PySem.W.mg_of X G a_law_nb_coprime)
  have b_law_nb_coprime : Binds K _ ["dice", "width", "most"] [] := bind_all l_law_nb_coprime fun us hl => match us, hl with | [_, _, _], _ => rfl
  have c_law_nb_coprime := F_law_nb_coprime.cl b_law_nb_coprime .nil (ok_law_nb_coprime (P := P) (w := w) (base := base) (B := B) (c_law_roll := c_law_roll) (c_law_divisor := c_law_divisor) (F := F_law_nb_coprime))
  have F_law_first : Dn K mg "_law_first" s_law_first ["width", "pair", "many"] _ _ := dn_mk l_law_first c_law_first k_law_first (PySem.W.mg_of X G a_law_first)
  have b_law_first : Binds K _ ["width", "pair", "many"] [] := bind_all l_law_first fun us hl => match us, hl with | [_, _, _], _ => rfl
  have c_law_first := F_law_first.cl b_law_first .nil (ok_law_first (P := P) (w := w) (base := base) (B := B) (c_law_rd_letters := c_law_rd_letters) (F := F_law_first))
  have F_law_right : Dn K mg "_law_right" s_law_right ["dice"] _ _ := dn_mk l_law_right c_law_right k_law_right (PySem.W.mg_of X G a_law_right)
  have b_law_right : Binds K _ ["dice"] [] := bind_all l_law_right fun us hl => match us, hl with | [_], _ => rfl
  have c_law_right := F_law_right.cl b_law_right .nil (ok_law_right (P := P) (w := w) (base := base) (B := B) (c_law_pick := c_law_pick) (c_law_fraction := c_law_fraction) (c_law_nb_word := c_law_nb_word) (c_law_power := c_law_power) (c_law_rd_drawn := c_law_rd_drawn) (c_law_nb_number := c_law_nb_number) (c_law_roll := c_law_roll) (c_law_nb_coprime := c_law_nb_coprime) (c_number_word := c_number_word) (c_word_number := c_word_number) (c_law_rd_least := c_law_rd_least) (c_law_first := c_law_first) (F := F_law_right))
  have F_law : Dn K mg "law" s_law ["script"] _ _ := dn_mk l_law c_law k_law (PySem.W.mg_of X G a_law)
  exact ok_law (P := P) (w := w) (base := base) (B := B) (c_law_dice := c_law_dice) (c_number_word := c_number_word) (c_word_number := c_word_number) (c_law_right := c_law_right) (F := F_law)
end Br
open PySem PySem.W PyProof.Rows
set_option maxRecDepth 100000 in
set_option maxHeartbeats 0 in
theorem PySem.Challenge.cw_branchturns_k29_whole_numbers_as_round_w_holds : PySem.Challenge.rw_branchturns_k29_whole_numbers_as_round_w.Holds := by
  w_on; o_law; k_head; (case hw => w_witness2)
  k_fill
  refine L2.walk_of (l := PySem.Challenge.rw_branchturns_k29_whole_numbers_as_round_w) (n := 63) (k := 9) (x := "script") (CX := fun _ => L2.CX0) (sp := fun w => Br.spLaw _) rfl (by decide) rfl ⟨rfl, by decide, by decide⟩ (fun w h Y => PySem.W.kIn_of Y) ?F (fun _ _ a ns hl _ hS => ⟨a, ns, rfl, hS, hl, fun _ => rfl⟩) (fun _ _ _ _ _ h => h)
  case F =>
    intro w mg fa h KX G hmg
    refine' Br.all_mk KX G hmg ?a_power_of ?l_power_of ?c_power_of ?k_power_of ?a_is_integer ?l_is_integer ?c_is_integer ?k_is_integer ?a_is_within ?l_is_within ?c_is_within ?k_is_within ?a_is_width ?l_is_width ?c_is_width ?k_is_width ?a_require_width ?l_require_width ?c_require_width ?k_require_width ?a_is_letter ?l_is_letter ?c_is_letter ?k_is_letter ?a_is_word_in ?l_is_word_in ?c_is_word_in ?k_is_word_in ?t_is_word_in ?a_is_round_in ?l_is_round_in ?c_is_round_in ?k_is_round_in ?a_require_round ?l_require_round ?c_require_round ?k_require_round ?a_least_round_in ?l_least_round_in ?c_least_round_in ?k_least_round_in ?a_common_of ?l_common_of ?c_common_of ?k_common_of ?a_lowest ?l_lowest ?c_lowest ?k_lowest ?a_is_number ?l_is_number ?c_is_number ?k_is_number ?a_digit_of ?l_digit_of ?c_digit_of ?k_digit_of ?a_word_in ?l_word_in ?c_word_in ?k_word_in ?a_low_in ?l_low_in ?c_low_in ?k_low_in ?a_number_in ?l_number_in ?c_number_in ?k_number_in ?a_require_number ?l_require_number ?c_require_number ?k_require_number ?a_number_word ?l_number_word ?c_number_word ?k_number_word ?a_word_number ?l_word_number ?c_word_number ?k_word_number ?a_law_dice ?l_law_dice ?c_law_dice ?k_law_dice ?a_law_roll ?l_law_roll ?c_law_roll ?k_law_roll ?a_law_pick ?l_law_pick ?c_law_pick ?k_law_pick ?a_law_power ?l_law_power ?c_law_power ?k_law_power ?a_law_word ?l_law_word ?c_law_word ?k_law_word ?a_law_rd_least ?l_law_rd_least ?c_law_rd_least ?k_law_rd_least ?a_law_rd_letters ?l_law_rd_letters ?c_law_rd_letters ?k_law_rd_letters ?a_law_rd_drawn ?l_law_rd_drawn ?c_law_rd_drawn ?k_law_rd_drawn ?a_law_divisor ?l_law_divisor ?c_law_divisor ?k_law_divisor ?a_law_fraction ?l_law_fraction ?c_law_fraction ?k_law_fraction ?a_law_nb_word ?l_law_nb_word ?c_law_nb_word ?k_law_nb_word ?a_law_nb_number ?l_law_nb_number ?c_law_nb_number ?k_law_nb_number ?a_law_nb_coprime ?l_law_nb_coprime ?c_law_nb_coprime ?k_law_nb_coprime ?a_law_first ?l_law_first ?c_law_first ?k_law_first ?a_law_right ?l_law_right ?c_law_right ?k_law_right ?a_law ?l_law ?c_law ?k_law ?g_MAX_WIDTH ?r_MAX_WIDTH ?g_MAX_DIGITS ?r_MAX_DIGITS ?g_MOST_LETTERS ?r_MOST_LETTERS ?z_len ?z_range ?z_isinstance ?z_int ?z_bool ?z_tuple ?z_list ?z_all ?z_abs ?z_max ?z_min
    (case a_power_of => k_is)
    (case l_power_of => k_is)
    (case c_power_of => k_is)
    (case k_power_of => k_is)
    (case a_is_integer => k_is)
    (case l_is_integer => k_is)
    (case c_is_integer => k_is)
    (case k_is_integer => k_is)
    (case a_is_within => k_is)
    (case l_is_within => k_is)
    (case c_is_within => k_is)
    (case k_is_within => k_is)
    (case a_is_width => k_is)
    (case l_is_width => k_is)
    (case c_is_width => k_is)
    (case k_is_width => k_is)
    (case a_require_width => k_is)
    (case l_require_width => k_is)
    (case c_require_width => k_is)
    (case k_require_width => k_is)
    (case a_is_letter => k_is)
    (case l_is_letter => k_is)
    (case c_is_letter => k_is)
    (case k_is_letter => k_is)
    (case a_is_word_in => k_is)
    (case l_is_word_in => k_is)
    (case c_is_word_in => k_is)
    (case k_is_word_in => k_is)
    (case t_is_word_in => k_is)
    (case a_is_round_in => k_is)
    (case l_is_round_in => k_is)
    (case c_is_round_in => k_is)
    (case k_is_round_in => k_is)
    (case a_require_round => k_is)
    (case l_require_round => k_is)
    (case c_require_round => k_is)
    (case k_require_round => k_is)
    (case a_least_round_in => k_is)
    (case l_least_round_in => k_is)
    (case c_least_round_in => k_is)
    (case k_least_round_in => k_is)
    (case a_common_of => k_is)
    (case l_common_of => k_is)
    (case c_common_of => k_is)
    (case k_common_of => k_is)
    (case a_lowest => k_is)
    (case l_lowest => k_is)
    (case c_lowest => k_is)
    (case k_lowest => k_is)
    (case a_is_number => k_is)
    (case l_is_number => k_is)
    (case c_is_number => k_is)
    (case k_is_number => k_is)
    (case a_digit_of => k_is)
    (case l_digit_of => k_is)
    (case c_digit_of => k_is)
    (case k_digit_of => k_is)
    (case a_word_in => k_is)
    (case l_word_in => k_is)
    (case c_word_in => k_is)
    (case k_word_in => k_is)
    (case a_low_in => k_is)
    (case l_low_in => k_is)
    (case c_low_in => k_is)
    (case k_low_in => k_is)
    (case a_number_in => k_is)
    (case l_number_in => k_is)
    (case c_number_in => k_is)
    (case k_number_in => k_is)
    (case a_require_number => k_is)
    (case l_require_number => k_is)
    (case c_require_number => k_is)
    (case k_require_number => k_is)
    (case a_number_word => k_is)
    (case l_number_word => k_is)
    (case c_number_word => k_is)
    (case k_number_word => k_is)
    (case a_word_number => k_is)
    (case l_word_number => k_is)
    (case c_word_number => k_is)
    (case k_word_number => k_is)
    (case a_law_dice => k_is)
    (case l_law_dice => k_is)
    (case c_law_dice => k_is)
    (case k_law_dice => k_is)
    (case a_law_roll => k_is)
    (case l_law_roll => k_is)
    (case c_law_roll => k_is)
    (case k_law_roll => k_is)
    (case a_law_pick => k_is)
    (case l_law_pick => k_is)
    (case c_law_pick => k_is)
    (case k_law_pick => k_is)
    (case a_law_power => k_is)
    (case l_law_power => k_is)
    (case c_law_power => k_is)
    (case k_law_power => k_is)
    (case a_law_word => k_is)
    (case l_law_word => k_is)
    (case c_law_word => k_is)
    (case k_law_word => k_is)
    (case a_law_rd_least => k_is)
    (case l_law_rd_least => k_is)
    (case c_law_rd_least => k_is)
    (case k_law_rd_least => k_is)
    (case a_law_rd_letters => k_is)
    (case l_law_rd_letters => k_is)
    (case c_law_rd_letters => k_is)
    (case k_law_rd_letters => k_is)
    (case a_law_rd_drawn => k_is)
    (case l_law_rd_drawn => k_is)
    (case c_law_rd_drawn => k_is)
    (case k_law_rd_drawn => k_is)
    (case a_law_divisor => k_is)
    (case l_law_divisor => k_is)
    (case c_law_divisor => k_is)
    (case k_law_divisor => k_is)
    (case a_law_fraction => k_is)
    (case l_law_fraction => k_is)
    (case c_law_fraction => k_is)
    (case k_law_fraction => k_is)
    (case a_law_nb_word => k_is)
    (case l_law_nb_word => k_is)
    (case c_law_nb_word => k_is)
    (case k_law_nb_word => k_is)
    (case a_law_nb_number => k_is)
    (case l_law_nb_number => k_is)
    (case c_law_nb_number => k_is)
    (case k_law_nb_number => k_is)
    (case a_law_nb_coprime => k_is)
    (case l_law_nb_coprime => k_is)
    (case c_law_nb_coprime => k_is)
    (case k_law_nb_coprime => k_is)
    (case a_law_first => k_is)
    (case l_law_first => k_is)
    (case c_law_first => k_is)
    (case k_law_first => k_is)
    (case a_law_right => k_is)
    (case l_law_right => k_is)
    (case c_law_right => k_is)
    (case k_law_right => k_is)
    (case a_law => k_is)
    (case l_law => k_is)
    (case c_law => k_is)
    (case k_law => k_is)
    (case g_MAX_WIDTH => k_is)
    (case r_MAX_WIDTH => exact ⟨_, rfl⟩)
    (case g_MAX_DIGITS => k_is)
    (case r_MAX_DIGITS => exact ⟨_, rfl⟩)
    (case g_MOST_LETTERS => k_is)
    (case r_MOST_LETTERS => exact ⟨_, rfl⟩)
    (case z_len => k_is)
    (case z_range => k_is)
    (case z_isinstance => k_is)
    (case z_int => k_is)
    (case z_bool => k_is)
    (case z_tuple => k_is)
    (case z_list => k_is)
    (case z_all => k_is)
    (case z_abs => k_is)
    (case z_max => k_is)
    (case z_min => k_is)