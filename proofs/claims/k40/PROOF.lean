import PyProof.Rows.All
import Wide.All
import OpenK.AllK
import Wide.FinOn
import HandS.ForMost
import HandS.Wide
import HandS.WideBits
import HandS.IsInst
import HandS.Style
import HandS.RevRange
import HandS.Rev
import HandS.Zip
import HandS.Flow
import HandS.DictTup
import HandS.StrMore
import HandS.TupAny
import HandS.Exc
import HandS.Defaults
import HandS.HeadEnd
import HandS.HeadHook2
import HandS.ClsMeth
import PySem.Challenge.RW_countgen_k40_all_values
import Lean
import KE.KStateDown
import HandS.Head0
import HandS.Head1
import HandS.Head2
import HandS.Walk
set_option Elab.async false
set_option linter.all false
set_option maxRecDepth 100000
set_option maxHeartbeats 4000000
/-! Cw: readings that serve several kinds of values at once, over HandS. -/
namespace Cw
open PySem PySem.Spec PyProof.Rows L2

/-! ### operators -/
section
variable {X : Cx}
/-- something of H, or a new object: a tuple of xs -/
def TupQ (K : PySem.W.Frag) (H : Hp) (xs : List V) (Q : VK) : Prop := ∀ p H', Same H H' → SqT K H' p xs → Q (.ref p) H'
/-- + : ints, texts, lists, tuples -/
def rAddU (K : PySem.W.Frag) : R2 := fun x y H Q => match x, y with
  | .int i, .int j => Q (.int (i + j)) H
  | .str a, .str b => a.length + b.length ≤ sizeLine ∧ Q (.str (a ++ b)) H
  | .int i, .bl k => Q (.int (i + b2i k)) H
  | .ref a, .ref b => (∃ xs ys, H a = some (.lst xs) ∧ H b = some (.lst ys) ∧ xs.length + ys.length ≤ sizeLine ∧ ∀ p, H p = none → Q (.ref p) (upd H p (.lst (xs ++ ys)))) ∨
      (∃ xs ys, SqT K H a xs ∧ SqT K H b ys ∧ xs.length + ys.length ≤ sizeLine ∧ TupQ K H (xs ++ ys) Q)
  | _, _ => False
theorem same_upd {H : Hp} {p : Addr} {o : HO} (hp : H p = none) : Same H (upd H p o) := fun b u e => by
  rw [upd_ne (ne_of_none e hp)]; exact e
theorem Same.tup {K : PySem.W.Frag} {H H' : Hp} {a : Addr} {xs : List V} (e : Same H H') (h : SqT K H a xs) : SqT K H' a xs := by
  rcases h with (h | ⟨o, h⟩) | h
  · exact .inl (.inl (e _ _ h))
  · exact .inl (.inr ⟨o, e _ _ h⟩)
  · exact .inr h
theorem op_addU : OpR X (binaryOp .Add) (rAddU X.K) := by
  intro pins s σ H x y v u Q I rx ry h
  unfold rAddU at h
  split at h
  · exact op_add pins s σ H _ _ v u Q I rx ry ⟨_, _, rfl, rfl, h⟩
  · exact op_add_str pins s σ H _ _ v u Q I rx ry ⟨_, _, rfl, rfl, h.1, h.2⟩
  · exact op_add_ib pins s σ H _ _ v u Q I rx ry ⟨_, _, rfl, rfl, h⟩
  · rcases h with ⟨xs, ys, h1, h2, h3, h4⟩ | ⟨xs, ys, h1, h2, h3, h4⟩
    · exact op_cat pins s σ H _ _ v u Q I rx ry ⟨_, _, _, _, rfl, rfl, h1, h2, h3, h4⟩
    · refine op_catA pins s σ H _ _ v u Q I rx ry ⟨_, _, _, _, rfl, rfl, h1, h2, h3, fun e => ?_, fun _ e => ?_, fun _ _ p hp => ?_⟩
      · subst e; exact h4 _ H (Same.refl H) h2
      · subst e; exact h4 _ H (Same.refl H) (by rw [List.append_nil]; exact h1)
      · exact h4 p _ (same_upd hp) (SqT.of upd_same)
  · exact h.elim
/-- * : two ints (of less than 2^27 bits together), a list and an int -/
def rMulU (K : PySem.W.Frag) : R2 := fun x y H Q => match x, y with
  | .int i, .int j => (CMulX i j ∨ CMul i j) ∧ Q (.int (i * j)) H
  | .ref a, .int k => ∃ xs, H a = some (.lst xs) ∧ -(2 ^ 63) ≤ k ∧ k < 2 ^ 63 ∧ xs.length * k.toNat ≤ sizeLine ∧ ∀ p, H p = none → Q (.ref p) (upd H p (.lst (List.replicate k.toNat xs).flatten))
  | _, _ => False
theorem op_mulU : OpR X (binaryOp .Mult) (rMulU X.K) := by
  intro pins s σ H x y v u Q I rx ry h
  unfold rMulU at h
  split at h
  · obtain ⟨hc | hc, h⟩ := h
    · exact op_mulX pins s σ H _ _ v u Q I rx ry ⟨_, _, rfl, rfl, hc, h⟩
    · exact op_mul pins s σ H _ _ v u Q I rx ry ⟨_, _, rfl, rfl, hc, h⟩
  · obtain ⟨xs, h1, h2, h3, h4, h5⟩ := h
    exact op_rep pins s σ H _ _ v u Q I rx ry ⟨_, _, _, rfl, rfl, h1, h2, h3, h4, h5⟩
  · exact h.elim
def rSubU : R2 := fun x y H Q => match x, y with
  | .int i, .int j => Q (.int (i - j)) H
  | _, _ => False
theorem op_subU : OpR X (binaryOp .Sub) rSubU := by
  intro pins s σ H x y v u Q I rx ry h
  unfold rSubU at h
  split at h
  · exact op_sub pins s σ H _ _ v u Q I rx ry ⟨_, _, rfl, rfl, h⟩
  · exact h.elim
def rDivU : R2 := fun x y H Q => match x, y with
  | .int i, .int j => CDivP i j ∧ Q (.int (i / j)) H
  | _, _ => False
theorem op_fdivP : OpR X (binaryOp .FloorDiv) (rI CDivP fun i j => .int (i / j)) := opI fun i j _ _ _ _ _ hc q => by
  have h1 : (0 : Int) < j := hc.1
  exact floordiv_int (by omega) (by rw [Int.fdiv_eq_ediv_of_nonneg i (by omega)]; exact q) (.inl hc.2)
theorem op_divU : OpR X (binaryOp .FloorDiv) rDivU := by
  intro pins s σ H x y v u Q I rx ry h
  unfold rDivU at h
  split at h
  · exact op_fdivP pins s σ H _ _ v u Q I rx ry ⟨_, _, rfl, rfl, h.1, h.2⟩
  · exact h.elim
def rModU : R2 := fun x y H Q => match x, y with
  | .int i, .int j => 0 < j ∧ Q (.int (i % j)) H
  | _, _ => False
theorem op_modU : OpR X (binaryOp .Mod) rModU := by
  intro pins s σ H x y v u Q I rx ry h
  unfold rModU at h
  split at h
  · exact op_mod pins s σ H _ _ v u Q I rx ry ⟨_, _, rfl, rfl, h.1, h.2⟩
  · exact h.elim
def rPowU : R2 := fun x y H Q => match x, y with
  | .int i, .int j => (0 ≤ j ∧ j ≤ 1000000 ∧ i.natAbs < 2 ^ 64) ∧ Q (.int (i ^ j.toNat)) H
  | _, _ => False
theorem op_powU : OpR X (binaryOp .Pow) rPowU := by
  intro pins s σ H x y v u Q I rx ry h
  unfold rPowU at h
  split at h
  · exact op_pow pins s σ H _ _ v u Q I rx ry ⟨_, _, rfl, rfl, h.1, h.2⟩
  · exact h.elim
def rShlU : R2 := fun x y H Q => match x, y with
  | .int i, .int j => CShl i j ∧ Q (.int (i * 2 ^ j.toNat)) H
  | _, _ => False
theorem op_shlU : OpR X (binaryOp .LShift) rShlU := by
  intro pins s σ H x y v u Q I rx ry h
  unfold rShlU at h
  split at h
  · exact op_shlW pins s σ H _ _ v u Q I rx ry ⟨_, _, rfl, rfl, h.1, h.2⟩
  · exact h.elim
def rShrU : R2 := fun x y H Q => match x, y with
  | .int i, .int j => 0 ≤ j ∧ Q (.int (i / 2 ^ j.toNat)) H
  | _, _ => False
theorem op_shrU : OpR X (binaryOp .RShift) rShrU := by
  intro pins s σ H x y v u Q I rx ry h
  unfold rShrU at h
  split at h
  · exact op_shr pins s σ H _ _ v u Q I rx ry ⟨_, _, rfl, rfl, h.1, h.2⟩
  · exact h.elim
def rNegU : V → Hp → VK → Prop := fun x H Q => match x with
  | .int i => Q (.int (-i)) H
  | _ => False
theorem un_negU : UnR X (unaryOp .USub) rNegU := by
  intro pins s σ H x v Q I rx h
  unfold rNegU at h
  split at h
  · exact un_neg pins s σ H _ v Q I rx ⟨_, rfl, h⟩
  · exact h.elim
/-- in place: ints and texts -/
def rIAdd : TIp := fun x y H Q => match x, y with
  | .int i, .int j => Q (.int (i + j)) H
  | _, _ => False
theorem ip_addU : PIp X .Add rIAdd := by
  intro pins s σ H x y v u Q I rx ry h
  unfold rIAdd at h
  split at h
  · exact ip_add pins s σ H _ _ v u Q I rx ry ⟨_, _, rfl, rfl, h⟩
  · exact h.elim
def rISub : TIp := fun x y H Q => match x, y with
  | .int i, .int j => Q (.int (i - j)) H
  | _, _ => False
theorem ip_subU : PIp X .Sub rISub := by
  intro pins s σ H x y v u Q I rx ry h
  unfold rISub at h
  split at h
  · exact ip_sub pins s σ H _ _ v u Q I rx ry ⟨_, _, rfl, rfl, h⟩
  · exact h.elim

/-! ### comparisons -/
/-- == : scalars, or data -/
def rEqU (K : PySem.W.Frag) : R2 := fun x y H Q => (scal x y = true ∧ Q (.bl (decide (x = y))) H) ∨ rEqD K x y H Q
def rNeU (K : PySem.W.Frag) : R2 := fun x y H Q => (scal x y = true ∧ Q (.bl (!decide (x = y))) H) ∨ rNeD K x y H Q
theorem op_eqU (hu : X.A.units + 64 < cLine) : OpR X (compareOp .Eq) (rEqU X.K) := by
  intro pins s σ H x y v u Q I rx ry h
  rcases h with h | h
  · exact op_eq pins s σ H x y v u Q I rx ry h
  · exact op_eqD hu pins s σ H x y v u Q I rx ry h
theorem op_neU (hu : X.A.units + 64 < cLine) : OpR X (compareOp .NotEq) (rNeU X.K) := by
  intro pins s σ H x y v u Q I rx ry h
  rcases h with h | h
  · exact op_ne pins s σ H x y v u Q I rx ry h
  · exact op_neD hu pins s σ H x y v u Q I rx ry h
def rCmpU (p : Int → Int → Bool) : R2 := fun x y H Q => match x, y with
  | .int i, .int j => Q (.bl (p i j)) H
  | _, _ => False
theorem op_cmpU {op : CmpOp} {p : Int → Int → Bool} (h0 : OpR X (compareOp op) (rI0 fun i j => .bl (p i j))) : OpR X (compareOp op) (rCmpU p) := by
  intro pins s σ H x y v u Q I rx ry h
  unfold rCmpU at h
  split at h
  · exact h0 pins s σ H _ _ v u Q I rx ry ⟨_, _, rfl, rfl, h⟩
  · exact h.elim
abbrev rLtU : R2 := rCmpU fun i j => decide (i < j)
abbrev rLeU : R2 := rCmpU fun i j => decide (i ≤ j)
abbrev rGtU : R2 := rCmpU fun i j => decide (j < i)
abbrev rGeU : R2 := rCmpU fun i j => decide (j ≤ i)
theorem op_ltU : OpR X (compareOp .Lt) rLtU := op_cmpU op_lt
theorem op_leU : OpR X (compareOp .LtE) rLeU := op_cmpU op_le
theorem op_gtU : OpR X (compareOp .Gt) rGtU := op_cmpU op_gt
theorem op_geU : OpR X (compareOp .GtE) rGeU := op_cmpU op_ge
/-- is None -/
def rIsNone : R2 := fun x y H Q => y = .non ∧ Q (.bl (decide (x = .non))) H
def rIsNotNone : R2 := fun x y H Q => y = .non ∧ Q (.bl (!decide (x = .non))) H

/-! ### subscripts -/
/-- a[i] of a list, a tuple, a text -/
def rIxU (K : PySem.W.Frag) : R2 := fun x y H Q => match x, y with
  | .ref a, .int i => ∃ xs v, (SqL K H a xs ∨ SqT K H a xs) ∧ atI xs i = some v ∧ Q v H
  | .str z, .int i => ∃ c, z.length ≤ sizeLine ∧ atI z.cps.toList i = some c ∧ Q (.str ⟨#[c]⟩) H
  | _, _ => False
theorem ix_U : IxR X (rIxU X.K) := by
  intro value slice pins s σ H x y v u Q I rx ry h hs
  unfold rIxU at h
  split at h
  · obtain ⟨xs, w, h1 | h1, h2, h3⟩ := h
    · exact ix_list value slice pins s σ H _ _ v u Q I rx ry ⟨_, _, _, _, rfl, rfl, h1, h2, h3⟩ hs
    · exact ix_tup value slice pins s σ H _ _ v u Q I rx ry ⟨_, _, _, _, rfl, rfl, h1, h2, h3⟩ hs
  · obtain ⟨c, h1, h2, h3⟩ := h
    exact ix_str value slice pins s σ H _ _ v u Q I rx ry ⟨_, _, _, rfl, rfl, h1, h2, h3⟩ hs
  · exact h.elim
def rSlU (K : PySem.W.Frag) : V → Option Int → Option Int → Hp → VK → Prop := fun x lo hi H Q => match x with
  | .ref a => (∃ xs, SqL K H a xs ∧ ∀ p, H p = none → Q (.ref p) (upd H p (.lst (cutV xs lo hi)))) ∨ (∃ xs, SqT K H a xs ∧ TupQ K H (cutV xs lo hi) Q)
  | .str z => z.length ≤ sizeLine ∧ Q (.str (cutS z lo hi)) H
  | _ => False
theorem cut_whole {xs : List V} {lo hi : Option Int} (h : HT.sIx xs.length 0 lo = 0 ∧ HT.sIx xs.length xs.length hi = xs.length) : cutV xs lo hi = xs := by
  unfold cutV; rw [h.1, h.2]; simp
theorem sl_U : SlR X (rSlU X.K) := by
  intro pins s σ H x v vl vu lo hi sl Q I rx hs pl pu h
  unfold rSlU at h
  split at h
  · rcases h with ⟨xs, h1, h2⟩ | ⟨xs, h1, h2⟩
    · exact sl_list pins s σ H _ v vl vu lo hi sl Q I rx hs pl pu ⟨_, _, rfl, h1, h2⟩
    · refine sl_tupA pins s σ H _ v vl vu lo hi sl Q I rx hs pl pu ⟨_, _, rfl, h1, fun e => ?_, fun _ p hp => ?_⟩
      · exact h2 _ H (Same.refl H) (by rw [cut_whole e]; exact h1)
      · exact h2 p _ (same_upd hp) (SqT.of upd_same)
  · exact sl_str pins s σ H _ v vl vu lo hi sl Q I rx hs pl pu ⟨_, rfl, h.1, h.2⟩
  · exact h.elim
end

/-! ### x[::-1] of a list, a text -/
def revS (z : Str) : Str := ⟨z.cps.toList.reverse.toArray⟩
def rRevU (K : PySem.W.Frag) (x : V) (H : Hp) (Q : VK) : Prop := match x with
  | .ref a => ∃ xs, SqL K H a xs ∧ ∀ p, H p = none → Q (.ref p) (upd H p (.lst xs.reverse))
  | .str z => z.length ≤ sizeLine ∧ Q (.str (revS z)) H
  | _ => False
def tRevU (K : PySem.W.Frag) (te : TE) : TE := fun σ H Q => te σ H fun x H1 => rRevU K x H1 Q
theorem rev_pick (z : Str) {t : Tok} : ((PySem.slicePicked z none none (some (-1, t))).filterMap (z.cps[·]?)).toArray = z.cps.toList.reverse.toArray := by
  unfold PySem.slicePicked Builtin.Str.strSliceIndices
  show ((sliceRange (if (-1 : Int) > 0 then 0 else (z.length : Int) - 1) (if (-1 : Int) > 0 then (z.length : Int) else -1) (-1)).filterMap (z.cps[·]?)).toArray = _
  rw [if_neg (by decide), if_neg (by decide)]
  have e : z.length = z.cps.size := rfl
  rw [e, PySem.W.krv_sliceRange, PySem.W.krv_range, List.filterMap_reverse, PySem.W.krv_all]
theorem pe_revU {X : Cx} {e : Expr} {te : TE} {k : Nat} {p1 p2 p3 pos : Pos} (he : PE X e te) : PE X (.Subscript e (.Slice none none (some (.UnaryOp .USub (.Constant (.int 1) k p1) p2)) p3) pos) (tRevU X.K te) := by
  refine ⟨fun pins s σ H Q I h => ?_⟩
  refine Subscript_ (thn (he.run pins s σ H _ I h) fun v s1 ⟨x, H1, I1, r1, q1⟩ => ?_)
  have hst : PO X (some (.UnaryOp .USub (.Constant (.int 1) k p1) p2)) (tPart (tUn (rU fun i => .int (-i)) (tC (.int 1)))) := po_some (pe_un un_neg pe_int)
  refine wpAny_Slice (thn (po_none.run pins s1 σ H1 (fun o H2 => o = none ∧ H2 = H1) I1 ⟨rfl, rfl⟩) fun vl s2 ⟨l, H2, I2, pl, el, e2⟩ => ?_)
  subst el e2
  refine thn (po_none.run pins s2 σ H2 (fun o H3 => o = none ∧ H3 = H2) I2 ⟨rfl, rfl⟩) fun vu s3 ⟨u, H3, I3, pu, eu, e3⟩ => ?_
  subst eu e3
  refine thn (hst.run pins s3 σ H3 (fun o H4 => o = some (-1) ∧ H4 = H3) I3 ⟨1, rfl, -1, rfl, rfl, rfl⟩) fun vs s4 ⟨o, H4, I4, ps, eo, e4⟩ => ?_
  subst eo e4
  have I5 : Inv X pins σ H4 { s4 with heap := s4.heap.push { cls := .type "slice", data := .fields #[vl, vu, vs] } } := I4.kept (t' := s4.toks) fun b ob q => Heap.get?_push_of_some _ q
  show wpAny (model X.prog X.w) X.A (subscriptTail e (.Slice none none (some (.UnaryOp .USub (.Constant (.int 1) k p1) p2)) p3) v (.ref s4.heap.objs.size)) (EP X pins σ Q) X.xe { s4 with heap := s4.heap.push { cls := .type "slice", data := .fields #[vl, vu, vs] } }
  unfold rRevU at q1
  split at q1
  · obtain ⟨xs, hx, q⟩ := q1
    cases r1
    obtain ⟨its, r, ht, hz⟩ := I5.list hx
    have hlen := r.length
    refine tail_any (ops := [.ref _, .ref s4.heap.objs.size]) ht.isList.typeIs (PySem.slot_list_getitem.lookup) ?_ (by with_unfolding_all rfl)
    refine wpAny_getItem_list_slice ht.isList (Heap.IsSliceOf.new _ vl vu vs) pl pu ps (by decide) ?_ (by rw [List.size_toArray]; omega)
    rw [PySem.W.krv_pick]
    refine ⟨.ref _, _, I5.laid (t' := s4.toks) (o := .lst xs.reverse) (fun b ob q => Heap.get?_push_of_some _ q) (Nat.le_refl _) ?_, rfl, q _ (I5.hok.fresh (Nat.le_refl _))⟩
    exact ⟨by rw [List.length_reverse]; exact hz, _, 0, r.reverse, Heap.get?_push_size _ rfl⟩
  · rename_i z
    obtain ⟨hz, q⟩ := q1
    obtain ⟨t, rfl⟩ := r1
    obtain ⟨l, rfl, hl0⟩ := IsPart.raw pl
    obtain ⟨u, rfl, hu0⟩ := IsPart.raw pu
    obtain ⟨w, rfl, hw0⟩ := IsPart.raw ps
    have el : l = none := by cases l with | none => rfl | some y => simp at hl0
    have eu : u = none := by cases u with | none => rfl | some y => simp at hu0
    obtain ⟨t0, ew⟩ : ∃ t0, w = some (-1, t0) := by
      cases w with
      | none => simp at hw0
      | some y =>
        obtain ⟨i, t1⟩ := y
        have : i = -1 := by
          have h := hw0.symm
          simp at h
          omega
        exact ⟨t1, by rw [this]⟩
    subst el eu ew
    refine tail_any (ops := [.ref s4.heap.objs.size, .str z t]) (typeIs_str _ _ _) F.slot_str_getitem.lookup ?_ (by with_unfolding_all rfl)
    refine wpAny_getItem_str_slice (l := none) (u := none) (st := some (-1, t0)) ⟨_, Heap.get?_push_size _ rfl, rfl, rfl⟩ rfl ?_
    show Made.post (Made.str ⟨((PySem.slicePicked z none none (some (-1, t0))).filterMap (z.cps[·]?)).toArray⟩) (EP X pins σ Q) _
    rw [rev_pick]
    exact ⟨by show z.cps.toList.reverse.toArray.size ≤ sizeLine; have h : z.cps.size ≤ sizeLine := hz; simpa using h, .str _, H4, I5.tok _, ⟨_, rfl⟩, q⟩
  · exact q1.elim

/-! ### fields, methods, functions of a class; the classes are named by a type Cn, ca tells where each stands -/
section
variable {Cn : Type}
/-- e.f, an attribute of an instance of one of the classes -/
def rFld (ca : Cn → Addr) (f : Str) (x : V) (H1 : Hp) (Q : VK) : Prop := match x with
  | .ref a => ∃ c dx fs v, H1 a = some (.ins (ca c) dx fs) ∧ fs.lookup f = some v ∧ Q v H1
  | _ => False
def cFld (ca : Cn → Addr) (ta : TE) (f : Str) : TE := fun σ H Q => ta σ H fun x H1 => rFld ca f x H1 Q
/-- e.f = value -/
def rSto (ca : Cn → Addr) (f : Str) (x y : V) (H2 : Hp) (N : Hp → Prop) : Prop := match x with
  | .ref a => ∃ c dx fs, H2 a = some (.ins (ca c) dx fs) ∧ fs.length < 1000 ∧ N (upd H2 a (.ins (ca c) dx (putF f y fs)))
  | _ => False
def cSto (ca : Cn → Addr) (ta tv : TE) (f : Str) : TS := fun D σ H => tv σ H fun y H1 => ta σ H1 fun x H2 => rSto ca f x y H2 (D.nx σ)
/-- e.m(..): the class says which def -/
def rMeth {Df : Type} (ca : Cn → Addr) (md : Cn → Option Df) (W : Df → Sp) (m : Str) (t : TA) (x : V) (σ : L2.St) (H1 : Hp) (Q : VK) : Prop := match x with
  | .ref a => ∃ c d dx fs, H1 a = some (.ins (ca c) dx fs) ∧ md c = some d ∧ fs.lookup m = none ∧ t σ H1 fun vs H2 => W d (.ref a :: vs) H2 Q E0
  | _ => False
def cMeth {Df : Type} (ca : Cn → Addr) (md : Cn → Option Df) (W : Df → Sp) (m : Str) (ta : TE) (t : TA) : TE := fun σ H Q => ta σ H fun x H1 => rMeth ca md W m t x σ H1 Q
variable {X : Cx} {e o value : Expr} {es : List Expr} {f m : Str} {pos pos' apos : Pos} {ta tv : TE} {t : TA} {ca : Cn → Addr}
theorem pe_cfld (hC : ∀ c, Cls X.K (ca c)) (hN : ∀ c, NoAttr X.K (ca c) f) (he : PE X e ta) (hb : attributeBase e f X.env (eval e X.env) = eval e X.env := by rfl) :
    PE X (.Attribute e f pos) (cFld ca ta f) := by
  refine ⟨fun pins s σ H Q I h => attr_of hb (thn (he.run pins s σ H _ I h) fun u s1 z => ?_)⟩
  obtain ⟨x, H1, I1, rx, q⟩ := z
  cases x with
  | ref a =>
    obtain ⟨c, dx, fs, v, ea, l, q⟩ := q
    cases rx
    exact getattr_ok I1 ea (hC c) (hN c) l fun u' s2 I2 ru => ⟨v, H1, I2, ru, q⟩
  | _ => exact False.elim q
theorem ps_csto (hC : ∀ c, Cls X.K (ca c)) (hN : ∀ c, NoAttr X.K (ca c) f) (ha : PE X o ta) (hv : PE X value tv)
    (hs : swapsWith value (some (.Attribute o f pos')) pos.line X.env = pure false := by rfl) : PS X (.Assign [.Attribute o f pos'] value pos) (cSto ca ta tv f) := by
  refine ⟨fun pins s σ H D I h => plainObj_wpAny_Assign_Attribute (thn (hv.run pins s σ H _ I h) fun u s1 z => ?_) hs⟩
  obtain ⟨y, H1, I1, ry, q⟩ := z
  refine thn (ha.run pins s1 σ H1 _ I1 q) fun ov s2 z2 => ?_
  obtain ⟨x, H2, I2, rx, q⟩ := z2
  cases x with
  | ref a =>
    obtain ⟨c, dx, fs, ea, l, q⟩ := q
    cases rx
    exact setattr_ok I2 ea (hC c) (hN c) l ry fun s3 I3 => ⟨σ, _, I3, q⟩
  | _ => exact False.elim q
/-- what a method's call asks of the def -/
def MtOk {Df : Type} (P : Program) (w : World) (K : PySem.W.Frag) (mg : Str → Option Value) (base : Heap) (k : Nat) (ca : Cn → Addr) (md : Cn → Option Df) (W : Df → Sp) (m : Str) : Prop :=
  ∀ c d, md c = some d → Cls K (ca c) ∧ ∃ f fd ps, Meth K (ca c) m f ∧ FnOk P w K mg base CX0 k f fd ps (W d) ∧ Binds K fd ps []
variable {Df : Type} {md : Cn → Option Df} {W : Df → Sp} {k : Nat}
theorem pe_cmethod {pl : Sem Bool} (M : MtOk X.prog X.w X.K X.mg X.base k ca md W m) (hr : Room k X.A) (he : PE X o ta) (ha : PA X (e :: es) t)
    (hst : starEach (e :: es) X.env = (false, eval e X.env) :: starEach es X.env := by rfl) (hpl : (backTo pos (starEach es X.env)).any (·.1) = false := by rfl)
    (ht : eval (.Call (.Attribute o m apos) (e :: es) [] pos) X.env = (do
      let ov ← eval o X.env
      standAt apos.atName
      let (f, first) ← holding [ov] (getMethod ov m pl)
      callWith pos f first (backTo pos (starEach (e :: es) X.env)) (backToKw pos (keywordEach [] X.env))) := by rfl) :
    PE X (.Call (.Attribute o m apos) (e :: es) [] pos) (cMeth ca md W m ta t) := by
  refine ⟨fun pins s σ H Q I h => PySem.W.methodCall_KW (pl := pl) (thn (he.run pins s σ H _ I h) fun u s1 z => ?_) ht⟩
  obtain ⟨x, H1, I1, rx, q⟩ := z
  cases x with
  | ref a =>
    obtain ⟨c, d, dx, fs, ea, hd, l, q⟩ := q
    cases rx
    obtain ⟨hC, f, fd, ps, hm, F, hb⟩ := M c d hd
    refine getmeth_ok I1 ea hC hm l ?_
    refine PySem.W.callWith_K (first := [.ref a]) (h₀ := X.base) I.ok.mod.kin hm.kp (thn (ha.run pos pins s1 σ H1 _ I1 q) fun us s2 z2 => ?_) hst hpl
    obtain ⟨vs, H2, I2, r, q2⟩ := z2
    exact ⟨I2.kIn, run_fn (us := .ref a :: us) (vs := .ref a :: vs) F hr hb .nil pass0 I2 (.cons rfl r) (by rw [List.append_nil]; exact q2)⟩
  | _ => exact False.elim q
theorem pe_cmethod0 {pl : Sem Bool} (M : MtOk X.prog X.w X.K X.mg X.base k ca md W m) (hr : Room k X.A) (he : PE X o ta)
    (ht : eval (.Call (.Attribute o m apos) [] [] pos) X.env = (do
      let ov ← eval o X.env
      standAt apos.atName
      let (f, first) ← holding [ov] (getMethod ov m pl)
      callWith pos f first (backTo pos (starEach [] X.env)) (backToKw pos (keywordEach [] X.env))) := by rfl) :
    PE X (.Call (.Attribute o m apos) [] [] pos) (cMeth ca md W m ta tNil) := by
  refine ⟨fun pins s σ H Q I h => PySem.W.methodCall_KW (pl := pl) (thn (he.run pins s σ H _ I h) fun u s1 z => ?_) ht⟩
  obtain ⟨x, H1, I1, rx, q⟩ := z
  cases x with
  | ref a =>
    obtain ⟨c, d, dx, fs, ea, hd, l, q⟩ := q
    cases rx
    obtain ⟨hC, f, fd, ps, hm, F, hb⟩ := M c d hd
    refine getmeth_ok I1 ea hC hm l ?_
    exact PySem.W.callWith_K0 (first := [.ref a]) I1.kIn hm.kp (run_fn (us := [.ref a]) (vs := [.ref a]) F hr hb .nil pass0 I1 (.cons rfl .nil) q)
  | _ => exact False.elim q
/-- C.m(..), C a class of the text, m a function of it -/
theorem pe_cfun {pl : Sem Bool} {C g : Addr} {mc : Value} {x : Str} {p1 : Pos} {fd : FuncData} {ps : List Str} {sp : Sp} (F : FnOk X.prog X.w X.K X.mg X.base CX0 k g fd ps sp) (hr : Room k X.A) (hb : Binds X.K fd ps [])
    (hg : Gl X x) (hm : X.mg x = some (.ref C)) (rd : ClX.CRead X.K C mc) (cv : PySem.W.findCls X.K (.ref C) mc m = some (.val (.ref g))) (hk : PySem.W.keepIn X.K (.ref g) = true) (ha : PA X (e :: es) t)
    (hdb : (x == ("__debug__" : Str)) = false := by decide)
    (hst : starEach (e :: es) X.env = (false, eval e X.env) :: starEach es X.env := by rfl) (hpl : (backTo pos (starEach es X.env)).any (·.1) = false := by rfl)
    (ht : eval (.Call (.Attribute (.Name x p1) m apos) (e :: es) [] pos) X.env = (do
      let ov ← eval (.Name x p1) X.env
      standAt apos.atName
      let (f, first) ← holding [ov] (getMethod ov m pl)
      callWith pos f first (backTo pos (starEach (e :: es) X.env)) (backToKw pos (keywordEach [] X.env))) := by rfl) :
    PE X (.Call (.Attribute (.Name x p1) m apos) (e :: es) [] pos) (tCall sp [] E0 t) := by
  refine ⟨fun pins s σ H Q I h => PySem.W.methodCall_KW (pl := pl) (ld_glob I hg hm ?_ hdb) ht⟩
  refine PySem.W.method_cls I.kIn rd.ga (ClX.getcval_ok (v := .ref g) I rd ⟨cv, rfl⟩ fun s2 I2 => ?_)
  refine PySem.W.callWith_K (first := []) (h₀ := X.base) I.ok.mod.kin hk (thn (ha.run pos pins s2 σ H _ I2 h) fun us s3 z => ?_) hst hpl
  obtain ⟨vs, H2, I3, r, q⟩ := z
  exact ⟨I3.kIn, run_fn F hr hb .nil pass0 I3 r q⟩
end

/-! ### built-ins by name -/
section
variable {X : Cx}
def rLenU (K : PySem.W.Frag) : List V → Hp → VK → Prop := fun xs H Q => match xs with
  | [.str z] => z.length ≤ sizeLine ∧ Q (.int z.length) H
  | [.ref p] => ∃ ys, (SqL K H p ys ∨ SqT K H p ys) ∧ Q (.int ys.length) H
  | _ => False
theorem call_lenU : CallR X (.builtin "len") (rLenU X.K) := by
  intro pins s σ H xs us Q I r h
  unfold rLenU at h
  split at h
  · exact call_len_str pins s σ H _ us Q I r ⟨_, rfl, h.1, h.2⟩
  · obtain ⟨ys, h1, h2⟩ := h
    exact call_len_seq pins s σ H _ us Q I r ⟨_, _, rfl, h1, h2⟩
  · exact h.elim
def rSumU (K : PySem.W.Frag) : List V → Hp → VK → Prop := fun xs H Q => match xs with
  | [.ref a] => ∃ ns : List Int, SqL K H a (ns.map V.int) ∧ Q (.int ns.sum) H
  | _ => False
theorem call_sumU (hc : X.calm = true) : CallR X (.builtin "sum") (rSumU X.K) := by
  intro pins s σ H xs us Q I r h
  unfold rSumU at h
  split at h
  · obtain ⟨ns, h1, h2⟩ := h
    exact cr_sum hc pins s σ H _ us Q I r ⟨_, _, rfl, h1, h2⟩
  · exact h.elim
def rMax2U : List V → Hp → VK → Prop := fun xs H Q => match xs with
  | [.int i, .int j] => Q (.int (max i j)) H
  | _ => False
def rMin2U : List V → Hp → VK → Prop := fun xs H Q => match xs with
  | [.int i, .int j] => Q (.int (min i j)) H
  | _ => False
theorem call_max2U (hc : X.calm = true) : CallR X (.builtin "max") rMax2U := by
  intro pins s σ H xs us Q I r h
  unfold rMax2U at h
  split at h
  · rename_i i j
    refine call_max2 hc pins s σ H _ us Q I r ⟨_, _, rfl, ?_⟩
    have e : (if j > i then j else i) = max i j := by split <;> omega
    rw [e]; exact h
  · exact h.elim
theorem call_min2U (hc : X.calm = true) : CallR X (.builtin "min") rMin2U := by
  intro pins s σ H xs us Q I r h
  unfold rMin2U at h
  split at h
  · rename_i i j
    refine call_min2 hc pins s σ H _ us Q I r ⟨_, _, rfl, ?_⟩
    have e : (if j < i then j else i) = min i j := by split <;> omega
    rw [e]; exact h
  · exact h.elim
def rIntU : List V → Hp → VK → Prop := fun xs H Q => match xs with
  | [.int i] => Q (.int i) H
  | [.bl k] => Q (.int (if k then 1 else 0)) H
  | _ => False
theorem call_intU : CallR X (.type "int") rIntU := by
  intro pins s σ H xs us Q I r h
  unfold rIntU at h
  split at h
  · exact call_int1 pins s σ H _ us Q I r (.inl ⟨_, rfl, h⟩)
  · exact call_int1 pins s σ H _ us Q I r (.inr ⟨_, rfl, h⟩)
  · exact h.elim
def rListU (K : PySem.W.Frag) : List V → Hp → VK → Prop := fun xs H Q => match xs with
  | [.ref p] => ∃ ys, (SqL K H p ys ∨ SqT K H p ys) ∧ ∀ l, H l = none → Q (.ref l) (upd H l (.lst ys))
  | _ => False
theorem call_listU : CallR X (.type "list") (rListU X.K) := by
  intro pins s σ H xs us Q I r h
  unfold rListU at h
  split at h
  · obtain ⟨ys, h1, h2⟩ := h
    exact call_list_of pins s σ H _ us Q I r ⟨_, _, rfl, h1, h2⟩
  · exact h.elim
def rTupleU (K : PySem.W.Frag) : List V → Hp → VK → Prop := fun xs H Q => match xs with
  | [.ref p] => ∃ ys, (SqL K H p ys ∨ SqT K H p ys) ∧ TupQ K H ys Q
  | _ => False
theorem call_tupleU : CallR X (.type "tuple") (rTupleU X.K) := by
  intro pins s σ H xs us Q I r h
  unfold rTupleU at h
  split at h
  · obtain ⟨ys, h1 | h1, h2⟩ := h
    · exact call_tuple_of pins s σ H _ us Q I r ⟨_, _, rfl, .inl ⟨h1, fun l hl => h2 l _ (same_upd hl) (SqT.of upd_same)⟩⟩
    · exact call_tuple_of pins s σ H _ us Q I r ⟨_, _, rfl, .inr ⟨h1, h2 _ H (Same.refl H) h1⟩⟩
  · exact h.elim
def rDictP (K : PySem.W.Frag) : List V → Hp → VK → Prop := fun xs H Q => ∃ (a : Addr) (ps : List Addr) (kvs : List (Key × V)), xs = [.ref a] ∧ SqL K H a (ps.map V.ref) ∧
  Paired (fun p kv => SqT K H p [kV kv.1, kv.2]) ps kvs ∧ ∀ p, H p = none → Q (.ref p) (upd H p (.dK (mergeK [] kvs)))
def rDivmodU : List V → Hp → VK → Prop := fun xs H Q => match xs with
  | [.int i, .int j] => CDivP i j ∧ ∀ p, H p = none → Q (.ref p) (upd H p (.tup [.int (i / j), .int (i % j)]))
  | _ => False
theorem call_divmodU : CallR X (.builtin "divmod") rDivmodU := by
  intro pins s σ H xs us Q I r h
  unfold rDivmodU at h
  split at h
  · exact call_divmodW pins s σ H _ us Q I r ⟨_, _, rfl, h.1, h.2⟩
  · exact h.elim

/-! ### what is walked: a list, a tuple, a text -/
def rAny (K : PySem.W.Frag) (x : V) (H1 : Hp) (R : It → Hp → Prop) : Prop := match x with
  | .ref a => (∃ xs, SqL K H1 a xs ∧ R (Itl K a) H1) ∨ (∃ xs, SqT K H1 a xs ∧ R (Itt K a) H1)
  | .str z => R (Its z) H1
  | _ => False
def iAny (K : PySem.W.Frag) (te : TE) : TI := fun σ H R => te σ H fun x H1 => rAny K x H1 R
theorem it_fp {pins : List (Addr × Obj)} {σ : L2.St} {H : Hp} {s : Shared} (I : Inv X pins σ H s) : ∀ b ∈ [s.heap.objs.size], FpOk X pins H b := fun b hb => by
  rw [List.mem_singleton.mp hb]
  exact I.fpOk (Nat.le_refl _) (I.hok.fresh (Nat.le_refl _))
theorem pi_any {tg e : Expr} {te : TE} (he : PE X e te) : PI X tg e (iAny X.K te) := by
  refine ⟨fun pins s σ H R I h => thn (he.run pins s σ H _ I h) fun v s1 z => ?_⟩
  obtain ⟨x, H1, I1, r1, q⟩ := z
  unfold iAny at h
  cases x with
  | ref a =>
    cases r1
    rcases q with ⟨xs, hq, q⟩ | ⟨xs, hq, q⟩
    · obtain ⟨its, rv, p, hz⟩ := I1.list hq
      exact wpAny_pyIter_list p.isList
        ⟨_, [_], _, _, H1, rfl, I1.kept (t' := s1.toks) (fun b o e => Heap.get?_push_of_some _ e), turn_list a _, ⟨_, Heap.get?_push_size _ rfl, rfl, rfl⟩, it_fp I1, q⟩
    · obtain ⟨its, rv, p, hz⟩ := I1.tuple hq
      exact wpAny_pyIter_tuple (show s1.heap.IsTuple a its.toArray from p)
        ⟨_, [_], _, _, H1, rfl, I1.kept (t' := s1.toks) (fun b o e => Heap.get?_push_of_some _ e), turn_tuple a _, ⟨_, Heap.get?_push_size _ rfl, rfl, rfl⟩, it_fp I1, q⟩
  | str z =>
    obtain ⟨t, rfl⟩ := r1
    cases ha : z.cps.all (· < 128)
    · exact wpAny_pyIter_wide ha
        (pi_one (tk := s1.toks) I1 _ (turn_str _ z t "str_iterator" (.inr rfl)) ⟨_, Heap.get?_push_size _ rfl, rfl, rfl⟩ q)
    · exact wpAny_pyIter_ascii ha
        (pi_one (tk := s1.toks) I1 _ (turn_str _ z t "str_ascii_iterator" (.inl rfl)) ⟨_, Heap.get?_push_size _ rfl, rfl, rfl⟩ q)
  | _ => exact False.elim q
end

/-! ### calls of defs by what is known of them -/
section
variable {X : Cx} {k : Nat} {f C : Addr} {ps : List Str} {dvs : List V} {sp : Sp} {x : Str} {p pos : Pos} {e : Expr} {es : List Expr} {t : TA}
/-- the def at f keeps sp, its last parameters by default dvs -/
def COk (P : Program) (w : World) (K : PySem.W.Frag) (mg : Str → Option Value) (base : Heap) (k : Nat) (f : Addr) (ps : List Str) (dvs : List V) (sp : Sp) : Prop :=
  ∃ (fd : FuncData) (ds : List Value), FnOk P w K mg base CX0 k f fd ps sp ∧ Vals dvs ds ∧ Binds K fd ps ds ∧ PySem.W.keepIn K (.ref f) = true
theorem pe_ccall (D : COk X.prog X.w X.K X.mg X.base k f ps dvs sp) (hr : Room k X.A) (hg : Gl X x) (hm : X.mg x = some (.ref f)) (ha : PA X (e :: es) t)
    (hdb : (x == ("__debug__" : Str)) = false := by decide) (he : starEach (e :: es) X.env = (false, eval e X.env) :: starEach es X.env := by rfl)
    (hpl : (backTo pos (starEach es X.env)).any (·.1) = false := by rfl) : PE X (.Call (.Name x p) (e :: es) [] pos) (tCall sp dvs E0 t) := by
  obtain ⟨fd, ds, F, hv, hb, hk⟩ := D
  exact pe_call F hr hg hm hk hb hv pass0 ha hdb he hpl
theorem pe_ccall0 (D : COk X.prog X.w X.K X.mg X.base k f ps dvs sp) (hr : Room k X.A) (hg : Gl X x) (hm : X.mg x = some (.ref f))
    (hdb : (x == ("__debug__" : Str)) = false := by decide) : PE X (.Call (.Name x p) [] [] pos) (tCall sp dvs E0 tNil) := by
  obtain ⟨fd, ds, F, hv, hb, hk⟩ := D
  exact pe_call0 F hr hg hm hk hb hv pass0 hdb
theorem pe_cmake (M : Mk X.K C f) (D : COk X.prog X.w X.K X.mg X.base k f ps dvs sp) (hr : Room (k + 1) X.A) (hg : Gl X x) (hm : X.mg x = some (.ref C)) (ha : PA X (e :: es) t)
    (hdb : (x == ("__debug__" : Str)) = false := by decide) (he : starEach (e :: es) X.env = (false, eval e X.env) :: starEach es X.env := by rfl)
    (hpl : (backTo pos (starEach es X.env)).any (·.1) = false := by rfl) : PE X (.Call (.Name x p) (e :: es) [] pos) (tMake C sp dvs E0 t) := by
  obtain ⟨fd, ds, F, hv, hb, hk⟩ := D
  exact pe_make M F hr hg hm hb hv pass0 ha hdb he hpl
end

/-! ### what the head tells: HeadHook2's facts and one more Bool -/
section
open He
abbrev AlC : Type := Bool × AlD
def obsC (fa : List Fa) (fn : List DefD) (ex : PySem.W.Frag → Bool) (K : PySem.W.Frag) : AlC := (ex K, obsD fa fn K)
def valC (fn : List DefD) : AlC := (true, valD fn)
def SaysC (fa : List Fa) (fn : List DefD) (ex : PySem.W.Frag → Bool) (K : PySem.W.Frag) : Prop := ex K = true ∧ SaysD fa fn K
def obsCG (n : Nat) (fa : List Fa) (fn : List DefD) (ex : PySem.W.Frag → Bool) (g : Addr → Option Obj) : AlC := obsC fa fn ex (frG g (asD g n ++ [cStatics]))
def hookC (n : Nat) (fa : List Fa) (fn : List DefD) (ex : PySem.W.Frag → Bool) : PySem.W.Hook where
  α := AlC
  obs := fun s => obsCG n fa fn ex s.heap.get?
  val := fun _ => valC fn
  says := fun _ h => ∃ K : PySem.W.Frag, K.In h ∧ SaysC fa fn ex K
  of := fun _ _ e => ⟨_, frG_in, congrArg (fun z : AlC => z.1) e, congrArg (fun z : AlC => z.2) e⟩
  keeps := fun _ _ _ ⟨K, hK, c⟩ k => ⟨K, PySem.W.Frag.In.keeps hK k, c⟩
theorem obsCG_eq {n : Nat} {fa : List Fa} {fn : List DefD} {ex : PySem.W.Frag → Bool} {g : Addr → Option Obj} {s : Shared} (h : ∀ a, g a = s.heap.get? a) : obsCG n fa fn ex g = (hookC n fa fn ex).obs s := by
  have e : g = s.heap.get? := funext h
  rw [e] <;> rfl
/-- C.m, C a class of the text and m a function of it that stands at g -/
def cfB (K : PySem.W.Frag) (C : Addr) (m : Str) (g : Addr) : Bool :=
  PySem.W.readsIn K C (.type "type") && (decide (PySem.W.specialIn K (.ref C) "__getattribute__" = some (some (.builtin "type.__getattribute__"))) &&
    (match PySem.W.findCls K (.ref C) (.type "type") m with
    | some (.val (.ref b)) => decide (b = g)
    | _ => false))
theorem cfB_rd {K : PySem.W.Frag} {C g : Addr} {m : Str} (h : cfB K C m g = true) : ClX.CRead K C (.type "type") := by
  obtain ⟨h1, h2⟩ := ba h
  obtain ⟨h2, _⟩ := ba h2
  exact ⟨h1, of_decide_eq_true h2⟩
theorem cfB_at {K : PySem.W.Frag} {C g : Addr} {m : Str} (h : cfB K C m g = true) : PySem.W.findCls K (.ref C) (.type "type") m = some (.val (.ref g)) := by
  obtain ⟨_, h2⟩ := ba h
  obtain ⟨_, h3⟩ := ba h2
  split at h3
  · rename_i b e
    rw [e, of_decide_eq_true h3]
  · cases h3
end

section
variable {X : Cx} {k : Nat} {g C : Addr} {mc : Value} {ps : List Str} {sp : Sp} {x m : Str} {p1 pos apos : Pos} {e : Expr} {es : List Expr} {t : TA}
theorem pe_ccfun {pl : Sem Bool} (D : COk X.prog X.w X.K X.mg X.base k g ps [] sp) (hr : Room k X.A) (hg : Gl X x) (hm : X.mg x = some (.ref C)) (cf : cfB X.K C m g = true) (ha : PA X (e :: es) t)
    (hdb : (x == ("__debug__" : Str)) = false := by decide)
    (hst : starEach (e :: es) X.env = (false, eval e X.env) :: starEach es X.env := by rfl) (hpl : (backTo pos (starEach es X.env)).any (·.1) = false := by rfl)
    (ht : eval (.Call (.Attribute (.Name x p1) m apos) (e :: es) [] pos) X.env = (do
      let ov ← eval (.Name x p1) X.env
      standAt apos.atName
      let (f, first) ← holding [ov] (getMethod ov m pl)
      callWith pos f first (backTo pos (starEach (e :: es) X.env)) (backToKw pos (keywordEach [] X.env))) := by rfl) :
    PE X (.Call (.Attribute (.Name x p1) m apos) (e :: es) [] pos) (tCall sp [] E0 t) := by
  obtain ⟨fd, ds, F, hv, hb, hk⟩ := D
  cases hv
  exact pe_cfun (pl := pl) F hr hb hg hm (cfB_rd cf) (cfB_at cf) hk ha hdb hst hpl ht
end
end Cw
set_option Elab.async false
set_option linter.all false
set_option maxRecDepth 100000
set_option maxHeartbeats 4000000
/-! The text by places, the readings of its defs, what the head tells. Printed by emit.py. -/
namespace Pk
open PySem PySem.Spec PyProof.Rows L2 Cw
def top (i : Nat) : Stmt := PySem.Challenge.pw_countgen_k40_all_values.main.body.getD i (.Pass ⟨0, 0, 0, 0⟩)
/-- the classes -/
inductive Cn where
  | Maker
  | WholeMaker
  | TextMaker
  | RowMaker
  | ManyMaker
  | RisingMaker
  | UnlikeMaker
  | AlikeMaker
  | PickMaker
  | UseMaker
  | Tables
  deriving DecidableEq
def Cn.nm : Cn → Str
  | .Maker => "Maker"
  | .WholeMaker => "WholeMaker"
  | .TextMaker => "TextMaker"
  | .RowMaker => "RowMaker"
  | .ManyMaker => "ManyMaker"
  | .RisingMaker => "RisingMaker"
  | .UnlikeMaker => "UnlikeMaker"
  | .AlikeMaker => "AlikeMaker"
  | .PickMaker => "PickMaker"
  | .UseMaker => "UseMaker"
  | .Tables => "Tables"
def ca (K : PySem.W.Frag) (c : Cn) : Addr := He.ga K c.nm
/-- the defs -/
inductive Df where
  | first_taken
  | Maker___init__
  | Maker_grow
  | Maker_next_count
  | Maker_told
  | WholeMaker___init__
  | WholeMaker_next_count
  | WholeMaker_told
  | TextMaker___init__
  | TextMaker_next_count
  | TextMaker_told
  | RowMaker___init__
  | RowMaker_next_count
  | RowMaker_told
  | ManyMaker_next_count
  | ManyMaker_told
  | AlikeMaker___init__
  | AlikeMaker_next_count
  | AlikeMaker_told
  | PickMaker___init__
  | PickMaker_next_count
  | PickMaker_told
  | UseMaker___init__
  | UseMaker_next_count
  | UseMaker_told
  | maker_of
  | Tables___init__
  | Tables_grow_to
  | Tables_counts_at
  | Tables_told
  | all_values
  | _law_cell_at
  | _law_name
  | _law_texts
  | _law_numbers
  | _law_rows
  | _law_lists
  | _law_all
  | _law_leaf
  | _law_shape
  | _law_size
  | _law_same
  | _law_rows_same
  | _law_lists_in
  | _law_own
  | law
  deriving DecidableEq
abbrev st_first_taken : Stmt := top 5
def D_first_taken : He.DefD := ⟨("first_taken", none), "first_taken", "first_taken", defArgs st_first_taken, defBody st_first_taken, defScope st_first_taken, [], []⟩
def nm_first_taken : List Str := ["firsts", "rests", "size", "number", "first", "place", "rest"]
def ps_first_taken : List Str := ["firsts", "rests", "size", "number"]
abbrev st_Maker___init__ : Stmt := inClass (top 6) 0
def D_Maker___init__ : He.DefD := ⟨("Maker", some "__init__"), "__init__", "Maker.__init__", defArgs st_Maker___init__, defBody st_Maker___init__, defScope st_Maker___init__, [], []⟩
def nm_Maker___init__ : List Str := ["self", "within"]
def ps_Maker___init__ : List Str := ["self", "within"]
abbrev st_Maker_grow : Stmt := inClass (top 6) 1
def D_Maker_grow : He.DefD := ⟨("Maker", some "grow"), "grow", "Maker.grow", defArgs st_Maker_grow, defBody st_Maker_grow, defScope st_Maker_grow, [], []⟩
def nm_Maker_grow : List Str := ["self", "maker"]
def ps_Maker_grow : List Str := ["self"]
abbrev st_Maker_next_count : Stmt := inClass (top 6) 2
def D_Maker_next_count : He.DefD := ⟨("Maker", some "next_count"), "next_count", "Maker.next_count", defArgs st_Maker_next_count, defBody st_Maker_next_count, defScope st_Maker_next_count, [], []⟩
def nm_Maker_next_count : List Str := ["self", "size"]
def ps_Maker_next_count : List Str := ["self", "size"]
abbrev st_Maker_told : Stmt := inClass (top 6) 3
def D_Maker_told : He.DefD := ⟨("Maker", some "told"), "told", "Maker.told", defArgs st_Maker_told, defBody st_Maker_told, defScope st_Maker_told, [], []⟩
def nm_Maker_told : List Str := ["self", "size", "number"]
def ps_Maker_told : List Str := ["self", "size", "number"]
abbrev st_WholeMaker___init__ : Stmt := inClass (top 7) 0
def D_WholeMaker___init__ : He.DefD := ⟨("WholeMaker", some "__init__"), "__init__", "WholeMaker.__init__", defArgs st_WholeMaker___init__, defBody st_WholeMaker___init__, defScope st_WholeMaker___init__, [], []⟩
def nm_WholeMaker___init__ : List Str := ["self", "low", "high"]
def ps_WholeMaker___init__ : List Str := ["self", "low", "high"]
abbrev st_WholeMaker_next_count : Stmt := inClass (top 7) 1
def D_WholeMaker_next_count : He.DefD := ⟨("WholeMaker", some "next_count"), "next_count", "WholeMaker.next_count", defArgs st_WholeMaker_next_count, defBody st_WholeMaker_next_count, defScope st_WholeMaker_next_count, [], []⟩
def nm_WholeMaker_next_count : List Str := ["self", "size", "first"]
def ps_WholeMaker_next_count : List Str := ["self", "size"]
abbrev st_WholeMaker_told : Stmt := inClass (top 7) 2
def D_WholeMaker_told : He.DefD := ⟨("WholeMaker", some "told"), "told", "WholeMaker.told", defArgs st_WholeMaker_told, defBody st_WholeMaker_told, defScope st_WholeMaker_told, [], []⟩
def nm_WholeMaker_told : List Str := ["self", "size", "number"]
def ps_WholeMaker_told : List Str := ["self", "size", "number"]
abbrev st_TextMaker___init__ : Stmt := inClass (top 8) 0
def D_TextMaker___init__ : He.DefD := ⟨("TextMaker", some "__init__"), "__init__", "TextMaker.__init__", defArgs st_TextMaker___init__, defBody st_TextMaker___init__, defScope st_TextMaker___init__, [], []⟩
def nm_TextMaker___init__ : List Str := ["self", "signs"]
def ps_TextMaker___init__ : List Str := ["self", "signs"]
abbrev st_TextMaker_next_count : Stmt := inClass (top 8) 1
def D_TextMaker_next_count : He.DefD := ⟨("TextMaker", some "next_count"), "next_count", "TextMaker.next_count", defArgs st_TextMaker_next_count, defBody st_TextMaker_next_count, defScope st_TextMaker_next_count, [], []⟩
def nm_TextMaker_next_count : List Str := ["self", "size"]
def ps_TextMaker_next_count : List Str := ["self", "size"]
abbrev st_TextMaker_told : Stmt := inClass (top 8) 2
def D_TextMaker_told : He.DefD := ⟨("TextMaker", some "told"), "told", "TextMaker.told", defArgs st_TextMaker_told, defBody st_TextMaker_told, defScope st_TextMaker_told, [], []⟩
def nm_TextMaker_told : List Str := ["self", "size", "number", "found", "k", "place"]
def ps_TextMaker_told : List Str := ["self", "size", "number"]
abbrev st_RowMaker___init__ : Stmt := inClass (top 9) 0
def D_RowMaker___init__ : He.DefD := ⟨("RowMaker", some "__init__"), "__init__", "RowMaker.__init__", defArgs st_RowMaker___init__, defBody st_RowMaker___init__, defScope st_RowMaker___init__, [], []⟩
def nm_RowMaker___init__ : List Str := ["self", "within", "k"]
def ps_RowMaker___init__ : List Str := ["self", "within"]
abbrev st_RowMaker_next_count : Stmt := inClass (top 9) 1
def D_RowMaker_next_count : He.DefD := ⟨("RowMaker", some "next_count"), "next_count", "RowMaker.next_count", defArgs st_RowMaker_next_count, defBody st_RowMaker_next_count, defScope st_RowMaker_next_count, [], []⟩
def nm_RowMaker_next_count : List Str := ["self", "size", "many", "k", "firsts", "rests", "first"]
def ps_RowMaker_next_count : List Str := ["self", "size"]
abbrev st_RowMaker_told : Stmt := inClass (top 9) 2
def D_RowMaker_told : He.DefD := ⟨("RowMaker", some "told"), "told", "RowMaker.told", defArgs st_RowMaker_told, defBody st_RowMaker_told, defScope st_RowMaker_told, [], []⟩
def nm_RowMaker_told : List Str := ["self", "size", "number", "found", "k", "maker", "first", "place"]
def ps_RowMaker_told : List Str := ["self", "size", "number"]
abbrev st_ManyMaker_next_count : Stmt := inClass (top 10) 0
def D_ManyMaker_next_count : He.DefD := ⟨("ManyMaker", some "next_count"), "next_count", "ManyMaker.next_count", defArgs st_ManyMaker_next_count, defBody st_ManyMaker_next_count, defScope st_ManyMaker_next_count, [], []⟩
def nm_ManyMaker_next_count : List Str := ["self", "size", "firsts", "first"]
def ps_ManyMaker_next_count : List Str := ["self", "size"]
abbrev st_ManyMaker_told : Stmt := inClass (top 10) 1
def D_ManyMaker_told : He.DefD := ⟨("ManyMaker", some "told"), "told", "ManyMaker.told", defArgs st_ManyMaker_told, defBody st_ManyMaker_told, defScope st_ManyMaker_told, [], []⟩
def nm_ManyMaker_told : List Str := ["self", "size", "number", "found", "first", "place"]
def ps_ManyMaker_told : List Str := ["self", "size", "number"]
abbrev st_AlikeMaker___init__ : Stmt := inClass (top 20) 0
def D_AlikeMaker___init__ : He.DefD := ⟨("AlikeMaker", some "__init__"), "__init__", "AlikeMaker.__init__", defArgs st_AlikeMaker___init__, defBody st_AlikeMaker___init__, defScope st_AlikeMaker___init__, [], []⟩
def nm_AlikeMaker___init__ : List Str := ["self", "within", "times"]
def ps_AlikeMaker___init__ : List Str := ["self", "within", "times"]
abbrev st_AlikeMaker_next_count : Stmt := inClass (top 20) 1
def D_AlikeMaker_next_count : He.DefD := ⟨("AlikeMaker", some "next_count"), "next_count", "AlikeMaker.next_count", defArgs st_AlikeMaker_next_count, defBody st_AlikeMaker_next_count, defScope st_AlikeMaker_next_count, [], []⟩
def nm_AlikeMaker_next_count : List Str := ["self", "size"]
def ps_AlikeMaker_next_count : List Str := ["self", "size"]
abbrev st_AlikeMaker_told : Stmt := inClass (top 20) 2
def D_AlikeMaker_told : He.DefD := ⟨("AlikeMaker", some "told"), "told", "AlikeMaker.told", defArgs st_AlikeMaker_told, defBody st_AlikeMaker_told, defScope st_AlikeMaker_told, [], []⟩
def nm_AlikeMaker_told : List Str := ["self", "size", "number", "k"]
def ps_AlikeMaker_told : List Str := ["self", "size", "number"]
abbrev st_PickMaker___init__ : Stmt := inClass (top 22) 0
def D_PickMaker___init__ : He.DefD := ⟨("PickMaker", some "__init__"), "__init__", "PickMaker.__init__", defArgs st_PickMaker___init__, defBody st_PickMaker___init__, defScope st_PickMaker___init__, [], []⟩
def nm_PickMaker___init__ : List Str := ["self", "within", "marks"]
def ps_PickMaker___init__ : List Str := ["self", "within", "marks"]
abbrev st_PickMaker_next_count : Stmt := inClass (top 22) 1
def D_PickMaker_next_count : He.DefD := ⟨("PickMaker", some "next_count"), "next_count", "PickMaker.next_count", defArgs st_PickMaker_next_count, defBody st_PickMaker_next_count, defScope st_PickMaker_next_count, [], []⟩
def nm_PickMaker_next_count : List Str := ["self", "size", "maker"]
def ps_PickMaker_next_count : List Str := ["self", "size"]
abbrev st_PickMaker_told : Stmt := inClass (top 22) 2
def D_PickMaker_told : He.DefD := ⟨("PickMaker", some "told"), "told", "PickMaker.told", defArgs st_PickMaker_told, defBody st_PickMaker_told, defScope st_PickMaker_told, [], []⟩
def nm_PickMaker_told : List Str := ["self", "size", "number", "branch"]
def ps_PickMaker_told : List Str := ["self", "size", "number"]
abbrev st_UseMaker___init__ : Stmt := inClass (top 23) 0
def D_UseMaker___init__ : He.DefD := ⟨("UseMaker", some "__init__"), "__init__", "UseMaker.__init__", defArgs st_UseMaker___init__, defBody st_UseMaker___init__, defScope st_UseMaker___init__, [], []⟩
def nm_UseMaker___init__ : List Str := ["self", "named", "name"]
def ps_UseMaker___init__ : List Str := ["self", "named", "name"]
abbrev st_UseMaker_next_count : Stmt := inClass (top 23) 1
def D_UseMaker_next_count : He.DefD := ⟨("UseMaker", some "next_count"), "next_count", "UseMaker.next_count", defArgs st_UseMaker_next_count, defBody st_UseMaker_next_count, defScope st_UseMaker_next_count, [], []⟩
def nm_UseMaker_next_count : List Str := ["self", "size"]
def ps_UseMaker_next_count : List Str := ["self", "size"]
abbrev st_UseMaker_told : Stmt := inClass (top 23) 2
def D_UseMaker_told : He.DefD := ⟨("UseMaker", some "told"), "told", "UseMaker.told", defArgs st_UseMaker_told, defBody st_UseMaker_told, defScope st_UseMaker_told, [], []⟩
def nm_UseMaker_told : List Str := ["self", "size", "number"]
def ps_UseMaker_told : List Str := ["self", "size", "number"]
abbrev st_maker_of : Stmt := top 24
def D_maker_of : He.DefD := ⟨("maker_of", none), "maker_of", "maker_of", defArgs st_maker_of, defBody st_maker_of, defScope st_maker_of, [], []⟩
def nm_maker_of : List Str := ["shape", "named", "kind", "within", "part", "branch"]
def ps_maker_of : List Str := ["shape", "named"]
abbrev st_Tables___init__ : Stmt := inClass (top 25) 0
def D_Tables___init__ : He.DefD := ⟨("Tables", some "__init__"), "__init__", "Tables.__init__", defArgs st_Tables___init__, defBody st_Tables___init__, defScope st_Tables___init__, [], []⟩
def nm_Tables___init__ : List Str := ["self", "book", "shape", "name", "own"]
def ps_Tables___init__ : List Str := ["self", "book", "shape"]
abbrev st_Tables_grow_to : Stmt := inClass (top 25) 1
def D_Tables_grow_to : He.DefD := ⟨("Tables", some "grow_to"), "grow_to", "Tables.grow_to", defArgs st_Tables_grow_to, defBody st_Tables_grow_to, defScope st_Tables_grow_to, [], []⟩
def nm_Tables_grow_to : List Str := ["self", "size", "maker"]
def ps_Tables_grow_to : List Str := ["self", "size"]
abbrev st_Tables_counts_at : Stmt := inClass (top 25) 2
def D_Tables_counts_at : He.DefD := ⟨("Tables", some "counts_at"), "counts_at", "Tables.counts_at", defArgs st_Tables_counts_at, defBody st_Tables_counts_at, defScope st_Tables_counts_at, [], []⟩
def nm_Tables_counts_at : List Str := ["self", "size"]
def ps_Tables_counts_at : List Str := ["self", "size"]
abbrev st_Tables_told : Stmt := inClass (top 25) 3
def D_Tables_told : He.DefD := ⟨("Tables", some "told"), "told", "Tables.told", defArgs st_Tables_told, defBody st_Tables_told, defScope st_Tables_told, [], []⟩
def nm_Tables_told : List Str := ["self", "size", "number"]
def ps_Tables_told : List Str := ["self", "size", "number"]
abbrev st_all_values : Stmt := top 27
def D_all_values : He.DefD := ⟨("all_values", none), "all_values", "all_values", defArgs st_all_values, defBody st_all_values, defScope st_all_values, [.int 400], []⟩
def nm_all_values : List Str := ["book", "shape", "size", "most", "tables", "count", "number"]
def ps_all_values : List Str := ["book", "shape", "size", "most"]
abbrev st__law_cell_at : Stmt := top 30
def D__law_cell_at : He.DefD := ⟨("_law_cell_at", none), "_law_cell_at", "_law_cell_at", defArgs st__law_cell_at, defBody st__law_cell_at, defScope st__law_cell_at, [], []⟩
def nm__law_cell_at : List Str := ["_law_script", "_law_k"]
def ps__law_cell_at : List Str := ["_law_script", "_law_k"]
abbrev st__law_name : Stmt := top 31
def D__law_name : He.DefD := ⟨("_law_name", none), "_law_name", "_law_name", defArgs st__law_name, defBody st__law_name, defScope st__law_name, [], []⟩
def nm__law_name : List Str := ["_law_cell", "_law_k", "_law_letters", "_law_size_here", "_law_at", "_law_found", "_law_j", "_law_number"]
def ps__law_name : List Str := ["_law_cell", "_law_k"]
abbrev st__law_texts : Stmt := top 32
def D__law_texts : He.DefD := ⟨("_law_texts", none), "_law_texts", "_law_texts", defArgs st__law_texts, defBody st__law_texts, defScope st__law_texts, [], []⟩
def nm__law_texts : List Str := ["_law_signs", "_law_size_here", "_law_found", "_law_k", "_law_more", "_law_value", "_law_sign"]
def ps__law_texts : List Str := ["_law_signs", "_law_size_here"]
abbrev st__law_numbers : Stmt := top 33
def D__law_numbers : He.DefD := ⟨("_law_numbers", none), "_law_numbers", "_law_numbers", defArgs st__law_numbers, defBody st__law_numbers, defScope st__law_numbers, [], []⟩
def nm__law_numbers : List Str := ["_law_low", "_law_high", "_law_size_here", "_law_first", "_law_k", "_law_step"]
def ps__law_numbers : List Str := ["_law_low", "_law_high", "_law_size_here"]
abbrev st__law_rows : Stmt := top 34
def D__law_rows : He.DefD := ⟨("_law_rows", none), "_law_rows", "_law_rows", defArgs st__law_rows, defBody st__law_rows, defScope st__law_rows, [], []⟩
def nm__law_rows : List Str := ["_law_book", "_law_parts", "_law_size_here", "_law_found", "_law_first", "_law_rests", "_law_thing", "_law_rest"]
def ps__law_rows : List Str := ["_law_book", "_law_parts", "_law_size_here"]
abbrev st__law_lists : Stmt := top 35
def D__law_lists : He.DefD := ⟨("_law_lists", none), "_law_lists", "_law_lists", defArgs st__law_lists, defBody st__law_lists, defScope st__law_lists, [], []⟩
def nm__law_lists : List Str := ["_law_book", "_law_part", "_law_size_here", "_law_found", "_law_first", "_law_rests", "_law_thing", "_law_rest"]
def ps__law_lists : List Str := ["_law_book", "_law_part", "_law_size_here"]
abbrev st__law_all : Stmt := top 36
def D__law_all : He.DefD := ⟨("_law_all", none), "_law_all", "_law_all", defArgs st__law_all, defBody st__law_all, defScope st__law_all, [], []⟩
def nm__law_all : List Str := ["_law_book", "_law_shape_here", "_law_size_here", "_law_things", "_law_found", "_law_mark", "_law_part", "_law_thing", "_law_k"]
def ps__law_all : List Str := ["_law_book", "_law_shape_here", "_law_size_here"]
abbrev st__law_leaf : Stmt := top 37
def D__law_leaf : He.DefD := ⟨("_law_leaf", none), "_law_leaf", "_law_leaf", defArgs st__law_leaf, defBody st__law_leaf, defScope st__law_leaf, [], []⟩
def nm__law_leaf : List Str := ["_law_cell", "_law_low", "_law_letters", "_law_start", "_law_signs"]
def ps__law_leaf : List Str := ["_law_cell"]
abbrev st__law_shape : Stmt := top 38
def D__law_shape : He.DefD := ⟨("_law_shape", none), "_law_shape", "_law_shape", defArgs st__law_shape, defBody st__law_shape, defScope st__law_shape, [], []⟩
def nm__law_shape : List Str := ["_law_script", "_law_deep", "_law_at", "_law_name_here", "_law_cell", "_law_way", "_law_one", "_law_other"]
def ps__law_shape : List Str := ["_law_script", "_law_deep", "_law_at", "_law_name_here"]
abbrev st__law_size : Stmt := top 39
def D__law_size : He.DefD := ⟨("_law_size", none), "_law_size", "_law_size", defArgs st__law_size, defBody st__law_size, defScope st__law_size, [], []⟩
def nm__law_size : List Str := ["_law_book", "_law_shape_here", "_law_want", "_law_most", "_law_size_here"]
def ps__law_size : List Str := ["_law_book", "_law_shape_here", "_law_want", "_law_most"]
abbrev st__law_same : Stmt := top 40
def D__law_same : He.DefD := ⟨("_law_same", none), "_law_same", "_law_same", defArgs st__law_same, defBody st__law_same, defScope st__law_same, [], []⟩
def nm__law_same : List Str := ["_law_one", "_law_other"]
def ps__law_same : List Str := ["_law_one", "_law_other"]
abbrev st__law_rows_same : Stmt := top 41
def D__law_rows_same : He.DefD := ⟨("_law_rows_same", none), "_law_rows_same", "_law_rows_same", defArgs st__law_rows_same, defBody st__law_rows_same, defScope st__law_rows_same, [], []⟩
def nm__law_rows_same : List Str := ["_law_one", "_law_other", "_law_k"]
def ps__law_rows_same : List Str := ["_law_one", "_law_other"]
abbrev st__law_lists_in : Stmt := top 42
def D__law_lists_in : He.DefD := ⟨("_law_lists_in", none), "_law_lists_in", "_law_lists_in", defArgs st__law_lists_in, defBody st__law_lists_in, defScope st__law_lists_in, [], []⟩
def nm__law_lists_in : List Str := ["_law_value", "_law_found", "_law_thing"]
def ps__law_lists_in : List Str := ["_law_value"]
abbrev st__law_own : Stmt := top 43
def D__law_own : He.DefD := ⟨("_law_own", none), "_law_own", "_law_own", defArgs st__law_own, defBody st__law_own, defScope st__law_own, [], []⟩
def nm__law_own : List Str := ["_law_value", "_law_some", "_law_sizes", "_law_one", "_law_size_here"]
def ps__law_own : List Str := ["_law_value"]
abbrev st_law : Stmt := top 44
def D_law : He.DefD := ⟨("law", none), "law", "law", defArgs st_law, defBody st_law, defScope st_law, [], []⟩
def nm_law : List Str := ["_law_script", "_law_name_here", "_law_book", "_law_shape_here", "_law_size_here", "_law_due", "_law_most", "_law_handed", "_law_found"]
def ps_law : List Str := ["_law_script"]
def dd : Df → He.DefD
  | .first_taken => D_first_taken
  | .Maker___init__ => D_Maker___init__
  | .Maker_grow => D_Maker_grow
  | .Maker_next_count => D_Maker_next_count
  | .Maker_told => D_Maker_told
  | .WholeMaker___init__ => D_WholeMaker___init__
  | .WholeMaker_next_count => D_WholeMaker_next_count
  | .WholeMaker_told => D_WholeMaker_told
  | .TextMaker___init__ => D_TextMaker___init__
  | .TextMaker_next_count => D_TextMaker_next_count
  | .TextMaker_told => D_TextMaker_told
  | .RowMaker___init__ => D_RowMaker___init__
  | .RowMaker_next_count => D_RowMaker_next_count
  | .RowMaker_told => D_RowMaker_told
  | .ManyMaker_next_count => D_ManyMaker_next_count
  | .ManyMaker_told => D_ManyMaker_told
  | .AlikeMaker___init__ => D_AlikeMaker___init__
  | .AlikeMaker_next_count => D_AlikeMaker_next_count
  | .AlikeMaker_told => D_AlikeMaker_told
  | .PickMaker___init__ => D_PickMaker___init__
  | .PickMaker_next_count => D_PickMaker_next_count
  | .PickMaker_told => D_PickMaker_told
  | .UseMaker___init__ => D_UseMaker___init__
  | .UseMaker_next_count => D_UseMaker_next_count
  | .UseMaker_told => D_UseMaker_told
  | .maker_of => D_maker_of
  | .Tables___init__ => D_Tables___init__
  | .Tables_grow_to => D_Tables_grow_to
  | .Tables_counts_at => D_Tables_counts_at
  | .Tables_told => D_Tables_told
  | .all_values => D_all_values
  | ._law_cell_at => D__law_cell_at
  | ._law_name => D__law_name
  | ._law_texts => D__law_texts
  | ._law_numbers => D__law_numbers
  | ._law_rows => D__law_rows
  | ._law_lists => D__law_lists
  | ._law_all => D__law_all
  | ._law_leaf => D__law_leaf
  | ._law_shape => D__law_shape
  | ._law_size => D__law_size
  | ._law_same => D__law_same
  | ._law_rows_same => D__law_rows_same
  | ._law_lists_in => D__law_lists_in
  | ._law_own => D__law_own
  | .law => D_law
def nms : Df → List Str
  | .first_taken => nm_first_taken
  | .Maker___init__ => nm_Maker___init__
  | .Maker_grow => nm_Maker_grow
  | .Maker_next_count => nm_Maker_next_count
  | .Maker_told => nm_Maker_told
  | .WholeMaker___init__ => nm_WholeMaker___init__
  | .WholeMaker_next_count => nm_WholeMaker_next_count
  | .WholeMaker_told => nm_WholeMaker_told
  | .TextMaker___init__ => nm_TextMaker___init__
  | .TextMaker_next_count => nm_TextMaker_next_count
  | .TextMaker_told => nm_TextMaker_told
  | .RowMaker___init__ => nm_RowMaker___init__
  | .RowMaker_next_count => nm_RowMaker_next_count
  | .RowMaker_told => nm_RowMaker_told
  | .ManyMaker_next_count => nm_ManyMaker_next_count
  | .ManyMaker_told => nm_ManyMaker_told
  | .AlikeMaker___init__ => nm_AlikeMaker___init__
  | .AlikeMaker_next_count => nm_AlikeMaker_next_count
  | .AlikeMaker_told => nm_AlikeMaker_told
  | .PickMaker___init__ => nm_PickMaker___init__
  | .PickMaker_next_count => nm_PickMaker_next_count
  | .PickMaker_told => nm_PickMaker_told
  | .UseMaker___init__ => nm_UseMaker___init__
  | .UseMaker_next_count => nm_UseMaker_next_count
  | .UseMaker_told => nm_UseMaker_told
  | .maker_of => nm_maker_of
  | .Tables___init__ => nm_Tables___init__
  | .Tables_grow_to => nm_Tables_grow_to
  | .Tables_counts_at => nm_Tables_counts_at
  | .Tables_told => nm_Tables_told
  | .all_values => nm_all_values
  | ._law_cell_at => nm__law_cell_at
  | ._law_name => nm__law_name
  | ._law_texts => nm__law_texts
  | ._law_numbers => nm__law_numbers
  | ._law_rows => nm__law_rows
  | ._law_lists => nm__law_lists
  | ._law_all => nm__law_all
  | ._law_leaf => nm__law_leaf
  | ._law_shape => nm__law_shape
  | ._law_size => nm__law_size
  | ._law_same => nm__law_same
  | ._law_rows_same => nm__law_rows_same
  | ._law_lists_in => nm__law_lists_in
  | ._law_own => nm__law_own
  | .law => nm_law
def par : Df → List Str
  | .first_taken => ps_first_taken
  | .Maker___init__ => ps_Maker___init__
  | .Maker_grow => ps_Maker_grow
  | .Maker_next_count => ps_Maker_next_count
  | .Maker_told => ps_Maker_told
  | .WholeMaker___init__ => ps_WholeMaker___init__
  | .WholeMaker_next_count => ps_WholeMaker_next_count
  | .WholeMaker_told => ps_WholeMaker_told
  | .TextMaker___init__ => ps_TextMaker___init__
  | .TextMaker_next_count => ps_TextMaker_next_count
  | .TextMaker_told => ps_TextMaker_told
  | .RowMaker___init__ => ps_RowMaker___init__
  | .RowMaker_next_count => ps_RowMaker_next_count
  | .RowMaker_told => ps_RowMaker_told
  | .ManyMaker_next_count => ps_ManyMaker_next_count
  | .ManyMaker_told => ps_ManyMaker_told
  | .AlikeMaker___init__ => ps_AlikeMaker___init__
  | .AlikeMaker_next_count => ps_AlikeMaker_next_count
  | .AlikeMaker_told => ps_AlikeMaker_told
  | .PickMaker___init__ => ps_PickMaker___init__
  | .PickMaker_next_count => ps_PickMaker_next_count
  | .PickMaker_told => ps_PickMaker_told
  | .UseMaker___init__ => ps_UseMaker___init__
  | .UseMaker_next_count => ps_UseMaker_next_count
  | .UseMaker_told => ps_UseMaker_told
  | .maker_of => ps_maker_of
  | .Tables___init__ => ps_Tables___init__
  | .Tables_grow_to => ps_Tables_grow_to
  | .Tables_counts_at => ps_Tables_counts_at
  | .Tables_told => ps_Tables_told
  | .all_values => ps_all_values
  | ._law_cell_at => ps__law_cell_at
  | ._law_name => ps__law_name
  | ._law_texts => ps__law_texts
  | ._law_numbers => ps__law_numbers
  | ._law_rows => ps__law_rows
  | ._law_lists => ps__law_lists
  | ._law_all => ps__law_all
  | ._law_leaf => ps__law_leaf
  | ._law_shape => ps__law_shape
  | ._law_size => ps__law_size
  | ._law_same => ps__law_same
  | ._law_rows_same => ps__law_rows_same
  | ._law_lists_in => ps__law_lists_in
  | ._law_own => ps__law_own
  | .law => ps_law
def ad (K : PySem.W.Frag) (d : Df) : Addr := He.fAd K (dd d).at_
def md_grow : Cn → Option Df
  | .Maker => some .Maker_grow
  | .WholeMaker => some .Maker_grow
  | .TextMaker => some .Maker_grow
  | .RowMaker => some .Maker_grow
  | .ManyMaker => some .Maker_grow
  | .RisingMaker => some .Maker_grow
  | .UnlikeMaker => some .Maker_grow
  | .AlikeMaker => some .Maker_grow
  | .PickMaker => some .Maker_grow
  | .UseMaker => some .Maker_grow
  | _ => none
def md_next_count : Cn → Option Df
  | .Maker => some .Maker_next_count
  | .WholeMaker => some .WholeMaker_next_count
  | .TextMaker => some .TextMaker_next_count
  | .RowMaker => some .RowMaker_next_count
  | .ManyMaker => some .ManyMaker_next_count
  | .AlikeMaker => some .AlikeMaker_next_count
  | .PickMaker => some .PickMaker_next_count
  | .UseMaker => some .UseMaker_next_count
  | _ => none
def md_told : Cn → Option Df
  | .Maker => some .Maker_told
  | .WholeMaker => some .WholeMaker_told
  | .TextMaker => some .TextMaker_told
  | .RowMaker => some .RowMaker_told
  | .ManyMaker => some .ManyMaker_told
  | .AlikeMaker => some .AlikeMaker_told
  | .PickMaker => some .PickMaker_told
  | .UseMaker => some .UseMaker_told
  | .Tables => some .Tables_told
  | _ => none
def md_grow_to : Cn → Option Df
  | .Tables => some .Tables_grow_to
  | _ => none
def md_counts_at : Cn → Option Df
  | .Tables => some .Tables_counts_at
  | _ => none
def t_first_taken (K : PySem.W.Frag) (W : Df → Sp) : TS :=
    (tSeq (tAsg (tC (.int 0)) (gName 4))
    (tSeq (tWhile (tTest (tOp rGeU (tVar 3) (tOp (rMulU K) (tOp (rIxU K) (tVar 0) (tVar 4)) (tOp (rIxU K) (tVar 1) (tOp rSubU (tVar 2) (tVar 4)))))) (tSeq (tAug 3 (tOp (rMulU K) (tOp (rIxU K) (tVar 0) (tVar 4)) (tOp (rIxU K) (tVar 1) (tOp rSubU (tVar 2) (tVar 4)))) rISub)
    (tAug 4 (tC (.int 1)) rIAdd)))
    (tSeq (tAsg (tCB rDivmodU (tCons (tVar 3) (tCons (tOp (rIxU K) (tVar 1) (tOp rSubU (tVar 2) (tVar 4))) tNil))) (gTup K 2 (gCons (gName 5) (gCons (gName 6) gNil))))
    (tRet (tTup (tCons (tVar 4) (tCons (tVar 5) (tCons (tVar 6) tNil))))))))
def t_Maker___init__ (K : PySem.W.Frag) (W : Df → Sp) : TS :=
    (tSeq (cSto (ca K) (tVar 0) (tVar 1) "within")
    (cSto (ca K) (tVar 0) (tLst tNil) "counts"))
def t_Maker_grow (K : PySem.W.Frag) (W : Df → Sp) : TS :=
    (tSeq (tFor (iAny K (cFld (ca K) (tVar 0) "within")) (gName 1) (tDrop (cMeth (ca K) md_grow W "grow" (tVar 1) tNil)))
    (tDrop (tBM K "list" rAppend (cFld (ca K) (tVar 0) "counts") (tCons (cMeth (ca K) md_next_count W "next_count" (tVar 0) (tCons (tCB (rLenU K) (tCons (cFld (ca K) (tVar 0) "counts") tNil)) tNil)) tNil))))
def t_Maker_next_count (K : PySem.W.Frag) (W : Df → Sp) : TS :=
    (tRet (tC (.int 0)))
def t_Maker_told (K : PySem.W.Frag) (W : Df → Sp) : TS :=
    (tRet (tC .non))
def t_WholeMaker___init__ (K : PySem.W.Frag) (W : Df → Sp) : TS :=
    (tSeq (tDrop (tCall (W .Maker___init__) [] E0 (tCons (tVar 0) (tCons (tLst tNil) tNil))))
    (tSeq (cSto (ca K) (tVar 0) (tVar 1) "low")
    (cSto (ca K) (tVar 0) (tOp rSubU (tVar 2) (tVar 1)) "span")))
def t_WholeMaker_next_count (K : PySem.W.Frag) (W : Df → Sp) : TS :=
    (tSeq (tIfS (tTest (tOp (rEqU K) (tVar 1) (tC (.int 0)))) (tRet (tC (.int 1))) tNext)
    (tSeq (tAsg (tOp rShlU (tC (.int 1)) (tOp rSubU (tVar 1) (tC (.int 1)))) (gName 2))
    (tRet (tCB rMax2U (tCons (tC (.int 0)) (tCons (tOp (rAddU K) (tOp rSubU (tCB rMin2U (tCons (cFld (ca K) (tVar 0) "span") (tCons (tOp rSubU (tOp (rMulU K) (tC (.int 2)) (tVar 2)) (tC (.int 1))) tNil))) (tVar 2)) (tC (.int 1))) tNil))))))
def t_WholeMaker_told (K : PySem.W.Frag) (W : Df → Sp) : TS :=
    (tSeq (tIfS (tTest (tOp (rEqU K) (tVar 1) (tC (.int 0)))) (tRet (cFld (ca K) (tVar 0) "low")) tNext)
    (tRet (tOp (rAddU K) (tOp (rAddU K) (cFld (ca K) (tVar 0) "low") (tOp rShlU (tC (.int 1)) (tOp rSubU (tVar 1) (tC (.int 1))))) (tVar 2))))
def t_TextMaker___init__ (K : PySem.W.Frag) (W : Df → Sp) : TS :=
    (tSeq (tDrop (tCall (W .Maker___init__) [] E0 (tCons (tVar 0) (tCons (tLst tNil) tNil))))
    (cSto (ca K) (tVar 0) (tVar 1) "signs"))
def t_TextMaker_next_count (K : PySem.W.Frag) (W : Df → Sp) : TS :=
    (tSeq (tIfS (tTest (tOp (rEqU K) (tVar 1) (tC (.int 0)))) (tRet (tC (.int 1))) tNext)
    (tRet (tOp (rMulU K) (tOp (rIxU K) (cFld (ca K) (tVar 0) "counts") (tOp rSubU (tVar 1) (tC (.int 1)))) (tCB (rLenU K) (tCons (cFld (ca K) (tVar 0) "signs") tNil)))))
def t_TextMaker_told (K : PySem.W.Frag) (W : Df → Sp) : TS :=
    (tSeq (tAsg (tC (.str "")) (gName 3))
    (tSeq (tFor (iRng1 (tCons (tVar 1) tNil)) (gName 4) (tSeq (tAsg (tCB rDivmodU (tCons (tVar 2) (tCons (tCB (rLenU K) (tCons (cFld (ca K) (tVar 0) "signs") tNil)) tNil))) (gTup K 2 (gCons (gName 2) (gCons (gName 5) gNil))))
    (tAsg (tOp (rAddU K) (tOp (rIxU K) (cFld (ca K) (tVar 0) "signs") (tVar 5)) (tVar 3)) (gName 3))))
    (tRet (tVar 3))))
def t_RowMaker___init__ (K : PySem.W.Frag) (W : Df → Sp) : TS :=
    (tSeq (tDrop (tCall (W .Maker___init__) [] E0 (tCons (tVar 0) (tCons (tVar 1) tNil))))
    (cSto (ca K) (tVar 0) (tLc (iRng1 (tCons (tOp (rAddU K) (tCB (rLenU K) (tCons (tVar 1) tNil)) (tC (.int 1))) tNil)) (gName 2) tYes (tLst tNil) [2]) "rests"))
def t_RowMaker_next_count (K : PySem.W.Frag) (W : Df → Sp) : TS :=
    (tSeq (tAsg (tCB (rLenU K) (tCons (cFld (ca K) (tVar 0) "within") tNil)) (gName 2))
    (tSeq (tDrop (tBM K "list" rAppend (tOp (rIxU K) (cFld (ca K) (tVar 0) "rests") (tVar 2)) (tCons (tCB rIntU (tCons (tOp (rEqU K) (tVar 1) (tC (.int 0))) tNil)) tNil)))
    (tSeq (tFor (iRng3 (tCons (tOp rSubU (tVar 2) (tC (.int 1))) (tCons (tUn rNegU (tC (.int 1))) (tCons (tUn rNegU (tC (.int 1))) tNil)))) (gName 3) (tSeq (tAsg (cFld (ca K) (tOp (rIxU K) (cFld (ca K) (tVar 0) "within") (tVar 3)) "counts") (gName 4))
    (tSeq (tAsg (tOp (rIxU K) (cFld (ca K) (tVar 0) "rests") (tOp (rAddU K) (tVar 3) (tC (.int 1)))) (gName 5))
    (tDrop (tBM K "list" rAppend (tOp (rIxU K) (cFld (ca K) (tVar 0) "rests") (tVar 3)) (tCons (tCB (rSumU K) (tCons (tLc (iRng1 (tCons (tOp (rAddU K) (tVar 1) (tC (.int 1))) tNil)) (gName 6) tYes (tOp (rMulU K) (tOp (rIxU K) (tVar 4) (tVar 6)) (tOp (rIxU K) (tVar 5) (tOp rSubU (tVar 1) (tVar 6)))) [6]) tNil)) tNil))))))
    (tRet (tOp (rIxU K) (tOp (rIxU K) (cFld (ca K) (tVar 0) "rests") (tC (.int 0))) (tVar 1))))))
def t_RowMaker_told (K : PySem.W.Frag) (W : Df → Sp) : TS :=
    (tSeq (tAsg (tLst tNil) (gName 3))
    (tSeq (tFor (iEnum K (tCons (cFld (ca K) (tVar 0) "within") tNil)) (gTup K 2 (gCons (gName 4) (gCons (gName 5) gNil))) (tSeq (tAsg (tCall (W .first_taken) [] E0 (tCons (cFld (ca K) (tVar 5) "counts") (tCons (tOp (rIxU K) (cFld (ca K) (tVar 0) "rests") (tOp (rAddU K) (tVar 4) (tC (.int 1)))) (tCons (tVar 1) (tCons (tVar 2) tNil))))) (gTup K 3 (gCons (gName 6) (gCons (gName 7) (gCons (gName 2) gNil)))))
    (tSeq (tDrop (tBM K "list" rAppend (tVar 3) (tCons (cMeth (ca K) md_told W "told" (tVar 5) (tCons (tVar 6) (tCons (tVar 7) tNil))) tNil)))
    (tAug 1 (tVar 6) rISub))))
    (tRet (tCB (rTupleU K) (tCons (tVar 3) tNil)))))
def t_ManyMaker_next_count (K : PySem.W.Frag) (W : Df → Sp) : TS :=
    (tSeq (tIfS (tTest (tOp (rEqU K) (tVar 1) (tC (.int 0)))) (tRet (tC (.int 1))) tNext)
    (tSeq (tAsg (cFld (ca K) (tOp (rIxU K) (cFld (ca K) (tVar 0) "within") (tC (.int 0))) "counts") (gName 2))
    (tRet (tCB (rSumU K) (tCons (tLc (iRng1 (tCons (tVar 1) tNil)) (gName 3) tYes (tOp (rMulU K) (tOp (rIxU K) (tVar 2) (tVar 3)) (tOp (rIxU K) (cFld (ca K) (tVar 0) "counts") (tOp rSubU (tOp rSubU (tVar 1) (tC (.int 1))) (tVar 3)))) [3]) tNil)))))
def t_ManyMaker_told (K : PySem.W.Frag) (W : Df → Sp) : TS :=
    (tSeq (tAsg (tLst tNil) (gName 3))
    (tSeq (tWhile (tTest (tOp rGtU (tVar 1) (tC (.int 0)))) (tSeq (tAsg (tCall (W .first_taken) [] E0 (tCons (cFld (ca K) (tOp (rIxU K) (cFld (ca K) (tVar 0) "within") (tC (.int 0))) "counts") (tCons (cFld (ca K) (tVar 0) "counts") (tCons (tOp rSubU (tVar 1) (tC (.int 1))) (tCons (tVar 2) tNil))))) (gTup K 3 (gCons (gName 4) (gCons (gName 5) (gCons (gName 2) gNil)))))
    (tSeq (tDrop (tBM K "list" rAppend (tVar 3) (tCons (cMeth (ca K) md_told W "told" (tOp (rIxU K) (cFld (ca K) (tVar 0) "within") (tC (.int 0))) (tCons (tVar 4) (tCons (tVar 5) tNil))) tNil)))
    (tAug 1 (tOp (rAddU K) (tC (.int 1)) (tVar 4)) rISub))))
    (tRet (tVar 3))))
def t_AlikeMaker___init__ (K : PySem.W.Frag) (W : Df → Sp) : TS :=
    (tSeq (tDrop (tCall (W .Maker___init__) [] E0 (tCons (tVar 0) (tCons (tVar 1) tNil))))
    (cSto (ca K) (tVar 0) (tVar 2) "times"))
def t_AlikeMaker_next_count (K : PySem.W.Frag) (W : Df → Sp) : TS :=
    (tSeq (tIfS (tOr (tTest (tOp rLtU (tVar 1) (cFld (ca K) (tVar 0) "times"))) (tTest (tOp (rNeU K) (tOp rModU (tVar 1) (cFld (ca K) (tVar 0) "times")) (tC (.int 0))))) (tRet (tC (.int 0))) tNext)
    (tRet (tOp (rIxU K) (cFld (ca K) (tOp (rIxU K) (cFld (ca K) (tVar 0) "within") (tC (.int 0))) "counts") (tOp rSubU (tOp rDivU (tVar 1) (cFld (ca K) (tVar 0) "times")) (tC (.int 1))))))
def t_AlikeMaker_told (K : PySem.W.Frag) (W : Df → Sp) : TS :=
    (tRet (tLc (iRng1 (tCons (cFld (ca K) (tVar 0) "times") tNil)) (gName 3) tYes (cMeth (ca K) md_told W "told" (tOp (rIxU K) (cFld (ca K) (tVar 0) "within") (tC (.int 0))) (tCons (tOp rSubU (tOp rDivU (tVar 1) (cFld (ca K) (tVar 0) "times")) (tC (.int 1))) (tCons (tVar 2) tNil))) [3]))
def t_PickMaker___init__ (K : PySem.W.Frag) (W : Df → Sp) : TS :=
    (tSeq (tDrop (tCall (W .Maker___init__) [] E0 (tCons (tVar 0) (tCons (tVar 1) tNil))))
    (cSto (ca K) (tVar 0) (tVar 2) "marks"))
def t_PickMaker_next_count (K : PySem.W.Frag) (W : Df → Sp) : TS :=
    (tRet (tCB (rSumU K) (tCons (tLc (iAny K (cFld (ca K) (tVar 0) "within")) (gName 2) tYes (tOp (rIxU K) (cFld (ca K) (tVar 2) "counts") (tVar 1)) [2]) tNil)))
def t_PickMaker_told (K : PySem.W.Frag) (W : Df → Sp) : TS :=
    (tSeq (tAsg (tC (.int 0)) (gName 3))
    (tSeq (tWhile (tTest (tOp rGeU (tVar 2) (tOp (rIxU K) (cFld (ca K) (tOp (rIxU K) (cFld (ca K) (tVar 0) "within") (tVar 3)) "counts") (tVar 1)))) (tSeq (tAug 2 (tOp (rIxU K) (cFld (ca K) (tOp (rIxU K) (cFld (ca K) (tVar 0) "within") (tVar 3)) "counts") (tVar 1)) rISub)
    (tAug 3 (tC (.int 1)) rIAdd)))
    (tRet (tTup (tCons (tOp (rIxU K) (cFld (ca K) (tVar 0) "marks") (tVar 3)) (tCons (cMeth (ca K) md_told W "told" (tOp (rIxU K) (cFld (ca K) (tVar 0) "within") (tVar 3)) (tCons (tVar 1) (tCons (tVar 2) tNil))) tNil))))))
def t_UseMaker___init__ (K : PySem.W.Frag) (W : Df → Sp) : TS :=
    (tSeq (tDrop (tCall (W .Maker___init__) [] E0 (tCons (tVar 0) (tCons (tLst tNil) tNil))))
    (tSeq (cSto (ca K) (tVar 0) (tVar 1) "named")
    (cSto (ca K) (tVar 0) (tVar 2) "name")))
def t_UseMaker_next_count (K : PySem.W.Frag) (W : Df → Sp) : TS :=
    (tSeq (tIfS (tTest (tOp (rEqU K) (tVar 1) (tC (.int 0)))) (tRet (tC (.int 0))) tNext)
    (tRet (tOp (rIxU K) (cFld (ca K) (tDGet (cFld (ca K) (tVar 0) "named") (cFld (ca K) (tVar 0) "name")) "counts") (tOp rSubU (tVar 1) (tC (.int 1))))))
def t_UseMaker_told (K : PySem.W.Frag) (W : Df → Sp) : TS :=
    (tRet (cMeth (ca K) md_told W "told" (tDGet (cFld (ca K) (tVar 0) "named") (cFld (ca K) (tVar 0) "name")) (tCons (tOp rSubU (tVar 1) (tC (.int 1))) (tCons (tVar 2) tNil))))
def t_maker_of (K : PySem.W.Frag) (W : Df → Sp) : TS :=
    (tSeq (tAsg (tOp (rIxU K) (tVar 0) (tC (.int 0))) (gName 2))
    (tSeq (tIfS (tTest (tOp (rEqU K) (tVar 2) (tC (.str "whole")))) (tRet (tMake (ca K .WholeMaker) (W .WholeMaker___init__) [] E0 (tCons (tOp (rIxU K) (tVar 0) (tC (.int 1))) (tCons (tOp (rIxU K) (tVar 0) (tC (.int 2))) tNil)))) tNext)
    (tSeq (tIfS (tTest (tOp (rEqU K) (tVar 2) (tC (.str "text")))) (tRet (tMake (ca K .TextMaker) (W .TextMaker___init__) [] E0 (tCons (tOp (rIxU K) (tVar 0) (tC (.int 1))) tNil))) tNext)
    (tSeq (tIfS (tTest (tOp (rEqU K) (tVar 2) (tC (.str "use")))) (tRet (tMake (ca K .UseMaker) (W .UseMaker___init__) [] E0 (tCons (tVar 1) (tCons (tOp (rIxU K) (tVar 0) (tC (.int 1))) tNil)))) tNext)
    (tSeq (tIfS (tTest (tOp (rEqU K) (tVar 2) (tC (.str "row")))) (tRet (tMake (ca K .RowMaker) (W .RowMaker___init__) [] E0 (tCons (tLc (iAny K (tOp (rIxU K) (tVar 0) (tC (.int 1)))) (gName 4) tYes (tCall (W .maker_of) [] E0 (tCons (tVar 4) (tCons (tVar 1) tNil))) [4]) tNil))) tNext)
    (tSeq (tIfS (tTest (tOp (rEqU K) (tVar 2) (tC (.str "pick")))) (tSeq (tAsg (tLc (iAny K (tOp (rIxU K) (tVar 0) (tC (.int 1)))) (gName 5) tYes (tCall (W .maker_of) [] E0 (tCons (tOp (rIxU K) (tVar 5) (tC (.int 1))) (tCons (tVar 1) tNil))) [5]) (gName 3))
    (tRet (tMake (ca K .PickMaker) (W .PickMaker___init__) [] E0 (tCons (tVar 3) (tCons (tLc (iAny K (tOp (rIxU K) (tVar 0) (tC (.int 1)))) (gName 5) tYes (tOp (rIxU K) (tVar 5) (tC (.int 0))) [5]) tNil))))) tNext)
    (tSeq (tAsg (tLst (tCons (tCall (W .maker_of) [] E0 (tCons (tOp (rIxU K) (tVar 0) (tC (.int 1))) (tCons (tVar 1) tNil))) tNil)) (gName 3))
    (tSeq (tIfS (tTest (tOp (rEqU K) (tVar 2) (tC (.str "many")))) (tRet (tMake (ca K .ManyMaker) (W .Maker___init__) [] E0 (tCons (tVar 3) tNil))) tNext)
    (tSeq (tIfS (tTest (tOp (rEqU K) (tVar 2) (tC (.str "rising")))) tNever tNext)
    (tSeq (tIfS (tTest (tOp (rEqU K) (tVar 2) (tC (.str "unlike")))) tNever tNext)
    (tRet (tMake (ca K .AlikeMaker) (W .AlikeMaker___init__) [] E0 (tCons (tVar 3) (tCons (tOp (rIxU K) (tVar 0) (tC (.int 2))) tNil))))))))))))))
def t_Tables___init__ (K : PySem.W.Frag) (W : Df → Sp) : TS :=
    (tSeq (cSto (ca K) (tVar 0) tDNewK "named")
    (tSeq (tFor (iAny K (tVar 1)) (gTup K 2 (gCons (gName 3) (gCons (gName 4) gNil))) (sDPut (cFld (ca K) (tVar 0) "named") (tVar 3) (tCall (W .maker_of) [] E0 (tCons (tVar 4) (tCons (cFld (ca K) (tVar 0) "named") tNil)))))
    (cSto (ca K) (tVar 0) (tCall (W .maker_of) [] E0 (tCons (tVar 2) (tCons (cFld (ca K) (tVar 0) "named") tNil))) "top")))
def t_Tables_grow_to (K : PySem.W.Frag) (W : Df → Sp) : TS :=
    (tWhile (tTest (tOp rLeU (tCB (rLenU K) (tCons (cFld (ca K) (cFld (ca K) (tVar 0) "top") "counts") tNil)) (tVar 1))) (tSeq (tLock (tFor (iVals (cFld (ca K) (tVar 0) "named")) (gName 2) (tDrop (cMeth (ca K) md_grow W "grow" (tVar 2) tNil))))
    (tDrop (cMeth (ca K) md_grow W "grow" (cFld (ca K) (tVar 0) "top") tNil))))
def t_Tables_counts_at (K : PySem.W.Frag) (W : Df → Sp) : TS :=
    (tRet (tOp (rIxU K) (cFld (ca K) (cFld (ca K) (tVar 0) "top") "counts") (tVar 1)))
def t_Tables_told (K : PySem.W.Frag) (W : Df → Sp) : TS :=
    (tRet (cMeth (ca K) md_told W "told" (cFld (ca K) (tVar 0) "top") (tCons (tVar 1) (tCons (tVar 2) tNil))))
def t_all_values (K : PySem.W.Frag) (W : Df → Sp) : TS :=
    (tSeq (tAsg (tMake (ca K .Tables) (W .Tables___init__) [] E0 (tCons (tVar 0) (tCons (tVar 1) tNil))) (gName 4))
    (tSeq (tDrop (cMeth (ca K) md_grow_to W "grow_to" (tVar 4) (tCons (tVar 2) tNil)))
    (tSeq (tAsg (cMeth (ca K) md_counts_at W "counts_at" (tVar 4) (tCons (tVar 2) tNil)) (gName 5))
    (tSeq (tIfS (tTest (tOp rGtU (tVar 5) (tVar 3))) tNever tNext)
    (tRet (tLc (iRng1 (tCons (tVar 5) tNil)) (gName 6) tYes (cMeth (ca K) md_told W "told" (tVar 4) (tCons (tVar 2) (tCons (tVar 6) tNil))) [6]))))))
def t__law_cell_at (K : PySem.W.Frag) (W : Df → Sp) : TS :=
    (tSeq (tIfS (tTest (tOp rLtU (tVar 1) (tCB (rLenU K) (tCons (tVar 0) tNil)))) (tRet (tOp (rIxU K) (tVar 0) (tVar 1))) tNext)
    (tRet (tC (.int 0))))
def t__law_name (K : PySem.W.Frag) (W : Df → Sp) : TS :=
    (tSeq (tAsg (tC (.str "abcdefghijklmnopqrstuvwxyz")) (gName 2))
    (tSeq (tAsg (tOp (rAddU K) (tC (.int 1)) (tOp rModU (tVar 0) (tC (.int 8)))) (gName 3))
    (tSeq (tAsg (tOp rModU (tOp rDivU (tVar 0) (tC (.int 8))) (tVar 3)) (gName 4))
    (tSeq (tAsg (tC (.str "")) (gName 5))
    (tSeq (tFor (iRng1 (tCons (tVar 3) tNil)) (gName 6) (tSeq (tAsg (tOp (rAddU K) (tOp rDivU (tVar 0) (tOp (rMulU K) (tC (.int 64)) (tOp (rAddU K) (tVar 6) (tC (.int 1))))) (tOp (rMulU K) (tVar 6) (tVar 6))) (gName 7))
    (tSeq (tIfS (tTest (tOp (rEqU K) (tVar 6) (tVar 4))) (tAsg (tOp (rAddU K) (tVar 7) (tVar 1)) (gName 7)) tNext)
    (tAsg (tOp (rAddU K) (tVar 5) (tOp (rIxU K) (tVar 2) (tOp rModU (tVar 7) (tC (.int 26))))) (gName 5)))))
    (tRet (tVar 5)))))))
def t__law_texts (K : PySem.W.Frag) (W : Df → Sp) : TS :=
    (tSeq (tAsg (tLst (tCons (tC (.str "")) tNil)) (gName 2))
    (tSeq (tFor (iRng1 (tCons (tVar 1) tNil)) (gName 3) (tSeq (tAsg (tLst tNil) (gName 4))
    (tSeq (tFor (iAny K (tVar 2)) (gName 5) (tAsg (tOp (rAddU K) (tVar 4) (tLc (iAny K (tVar 0)) (gName 6) tYes (tOp (rAddU K) (tVar 5) (tVar 6)) [6])) (gName 4)))
    (tAsg (tVar 4) (gName 2)))))
    (tRet (tVar 2))))
def t__law_numbers (K : PySem.W.Frag) (W : Df → Sp) : TS :=
    (tSeq (tIfS (tTest (tOp (rEqU K) (tVar 2) (tC (.int 0)))) (tRet (tLst (tCons (tVar 0) tNil))) tNext)
    (tSeq (tAsg (tC (.int 1)) (gName 3))
    (tSeq (tFor (iRng1 (tCons (tOp rSubU (tVar 2) (tC (.int 1))) tNil)) (gName 4) (tAsg (tOp (rMulU K) (tC (.int 2)) (tVar 3)) (gName 3)))
    (tRet (tLc (iRng2 (tCons (tVar 3) (tCons (tCB rMin2U (tCons (tOp (rMulU K) (tC (.int 2)) (tVar 3)) (tCons (tOp (rAddU K) (tOp rSubU (tVar 1) (tVar 0)) (tC (.int 1))) tNil))) tNil))) (gName 5) tYes (tOp (rAddU K) (tVar 0) (tVar 5)) [5])))))
def t__law_rows (K : PySem.W.Frag) (W : Df → Sp) : TS :=
    (tSeq (tIfS (tTest (tOp (rEqU K) (tVar 1) (tTup tNil))) (tRet (tOp (rIxU K) (tLst (tCons (tLst tNil) (tCons (tLst (tCons (tTup tNil) tNil)) tNil))) (tCB rIntU (tCons (tOp (rEqU K) (tVar 2) (tC (.int 0))) tNil)))) tNext)
    (tSeq (tAsg (tLst tNil) (gName 3))
    (tSeq (tFor (iRng1 (tCons (tOp (rAddU K) (tVar 2) (tC (.int 1))) tNil)) (gName 4) (tSeq (tAsg (tCall (W ._law_rows) [] E0 (tCons (tVar 0) (tCons (tSl (rSlU K) (tVar 1) (tPart (tC (.int 1))) tNoPart) (tCons (tOp rSubU (tVar 2) (tVar 4)) tNil)))) (gName 5))
    (tFor (iAny K (tCall (W ._law_all) [] E0 (tCons (tVar 0) (tCons (tOp (rIxU K) (tVar 1) (tC (.int 0))) (tCons (tVar 4) tNil))))) (gName 6) (tAsg (tOp (rAddU K) (tVar 3) (tLc (iAny K (tVar 5)) (gName 7) tYes (tOp (rAddU K) (tTup (tCons (tVar 6) tNil)) (tVar 7)) [7])) (gName 3)))))
    (tRet (tVar 3)))))
def t__law_lists (K : PySem.W.Frag) (W : Df → Sp) : TS :=
    (tSeq (tIfS (tTest (tOp (rEqU K) (tVar 2) (tC (.int 0)))) (tRet (tLst (tCons (tLst tNil) tNil))) tNext)
    (tSeq (tAsg (tLst tNil) (gName 3))
    (tSeq (tFor (iRng1 (tCons (tVar 2) tNil)) (gName 4) (tSeq (tAsg (tCall (W ._law_lists) [] E0 (tCons (tVar 0) (tCons (tVar 1) (tCons (tOp rSubU (tOp rSubU (tVar 2) (tC (.int 1))) (tVar 4)) tNil)))) (gName 5))
    (tFor (iAny K (tCall (W ._law_all) [] E0 (tCons (tVar 0) (tCons (tVar 1) (tCons (tVar 4) tNil))))) (gName 6) (tAsg (tOp (rAddU K) (tVar 3) (tLc (iAny K (tVar 5)) (gName 7) tYes (tOp (rAddU K) (tLst (tCons (tVar 6) tNil)) (tVar 7)) [7])) (gName 3)))))
    (tRet (tVar 3)))))
def t__law_all (K : PySem.W.Frag) (W : Df → Sp) : TS :=
    (tSeq (tIfS (tTest (tOp (rEqU K) (tOp (rIxU K) (tVar 1) (tC (.int 0))) (tC (.str "whole")))) (tRet (tCall (W ._law_numbers) [] E0 (tCons (tOp (rIxU K) (tVar 1) (tC (.int 1))) (tCons (tOp (rIxU K) (tVar 1) (tC (.int 2))) (tCons (tVar 2) tNil))))) tNext)
    (tSeq (tIfS (tTest (tOp (rEqU K) (tOp (rIxU K) (tVar 1) (tC (.int 0))) (tC (.str "text")))) (tRet (tCall (W ._law_texts) [] E0 (tCons (tOp (rIxU K) (tVar 1) (tC (.int 1))) (tCons (tVar 2) tNil)))) tNext)
    (tSeq (tIfS (tTest (tOp (rEqU K) (tOp (rIxU K) (tVar 1) (tC (.int 0))) (tC (.str "row")))) (tRet (tCall (W ._law_rows) [] E0 (tCons (tVar 0) (tCons (tOp (rIxU K) (tVar 1) (tC (.int 1))) (tCons (tVar 2) tNil))))) tNext)
    (tSeq (tIfS (tTest (tOp (rEqU K) (tOp (rIxU K) (tVar 1) (tC (.int 0))) (tC (.str "many")))) (tRet (tCall (W ._law_lists) [] E0 (tCons (tVar 0) (tCons (tOp (rIxU K) (tVar 1) (tC (.int 1))) (tCons (tVar 2) tNil))))) tNext)
    (tSeq (tIfS (tTest (tOp (rEqU K) (tOp (rIxU K) (tVar 1) (tC (.int 0))) (tC (.str "use")))) (tSeq (tIfS (tTest (tOp (rEqU K) (tVar 2) (tC (.int 0)))) (tRet (tLst tNil)) tNext)
    (tRet (tCall (W ._law_all) [] E0 (tCons (tVar 0) (tCons (tDGet (tCB (rDictP K) (tCons (tVar 0) tNil)) (tOp (rIxU K) (tVar 1) (tC (.int 1)))) (tCons (tOp rSubU (tVar 2) (tC (.int 1))) tNil)))))) tNext)
    (tSeq (tIfS (tTest (tOp (rEqU K) (tOp (rIxU K) (tVar 1) (tC (.int 0))) (tC (.str "alike")))) (tSeq (tIfS (tOr (tTest (tOp rLtU (tVar 2) (tOp (rIxU K) (tVar 1) (tC (.int 2))))) (tTest (tOp rGtU (tOp rModU (tVar 2) (tOp (rIxU K) (tVar 1) (tC (.int 2)))) (tC (.int 0))))) (tRet (tLst tNil)) tNext)
    (tSeq (tAsg (tCall (W ._law_all) [] E0 (tCons (tVar 0) (tCons (tOp (rIxU K) (tVar 1) (tC (.int 1))) (tCons (tOp rSubU (tOp rDivU (tVar 2) (tOp (rIxU K) (tVar 1) (tC (.int 2)))) (tC (.int 1))) tNil)))) (gName 3))
    (tRet (tLc (iAny K (tVar 3)) (gName 7) tYes (tLc (iRng1 (tCons (tOp (rIxU K) (tVar 1) (tC (.int 2))) tNil)) (gName 8) tYes (tVar 7) [8]) [7])))) tNext)
    (tSeq (tAsg (tLst tNil) (gName 4))
    (tSeq (tFor (iAny K (tOp (rIxU K) (tVar 1) (tC (.int 1)))) (gTup K 2 (gCons (gName 5) (gCons (gName 6) gNil))) (tAsg (tOp (rAddU K) (tVar 4) (tLc (iAny K (tCall (W ._law_all) [] E0 (tCons (tVar 0) (tCons (tVar 6) (tCons (tVar 2) tNil))))) (gName 7) tYes (tTup (tCons (tVar 5) (tCons (tVar 7) tNil))) [7])) (gName 4)))
    (tRet (tVar 4))))))))))
def t__law_leaf (K : PySem.W.Frag) (W : Df → Sp) : TS :=
    (tSeq (tIfS (tTest (tOp (rEqU K) (tOp rModU (tVar 0) (tC (.int 2))) (tC (.int 0)))) (tSeq (tAsg (tOp rSubU (tOp rModU (tOp rDivU (tVar 0) (tC (.int 8))) (tOp rPowU (tC (.int 10)) (tC (.int 20)))) (tOp (rMulU K) (tC (.int 5)) (tOp rPowU (tC (.int 10)) (tC (.int 19))))) (gName 1))
    (tRet (tTup (tCons (tC (.str "whole")) (tCons (tVar 1) (tCons (tOp (rAddU K) (tVar 1) (tOp (rIxU K) (tLst (tCons (tC (.int 0)) (tCons (tC (.int 1)) (tCons (tC (.int 3)) (tCons (tC (.int 6)) tNil))))) (tOp rModU (tOp rDivU (tVar 0) (tC (.int 2))) (tC (.int 4))))) tNil)))))) tNext)
    (tSeq (tAsg (tC (.str "abcdefghijklmnopqrstuvwxyzABCDEFGHIJKLMNOPQRSTUVWXYZ0123456789")) (gName 2))
    (tSeq (tAsg (tOp rModU (tOp rDivU (tVar 0) (tC (.int 2))) (tC (.int 60))) (gName 3))
    (tSeq (tAsg (tSl (rSlU K) (tVar 2) (tPart (tVar 3)) (tPart (tOp (rAddU K) (tOp (rAddU K) (tVar 3) (tC (.int 1))) (tOp rModU (tOp rDivU (tVar 0) (tC (.int 120))) (tC (.int 3)))))) (gName 4))
    (tRet (tTup (tCons (tC (.str "text")) (tCons (tOp (rIxU K) (tLst (tCons (tVar 4) (tCons (tRevU K (tVar 4)) tNil))) (tOp rModU (tOp rDivU (tVar 0) (tC (.int 360))) (tC (.int 2)))) tNil))))))))
def t__law_shape (K : PySem.W.Frag) (W : Df → Sp) : TS :=
    (tSeq (tAsg (tCall (W ._law_cell_at) [] E0 (tCons (tVar 0) (tCons (tVar 2) tNil))) (gName 4))
    (tSeq (tAsg (tOp rModU (tVar 4) (tC (.int 7))) (gName 5))
    (tSeq (tIfS (tOr (tTest (tOp (rEqU K) (tVar 1) (tC (.int 0)))) (tTest (tOp rLtU (tVar 5) (tC (.int 2))))) (tRet (tCall (W ._law_leaf) [] E0 (tCons (tOp rDivU (tVar 4) (tC (.int 7))) tNil))) tNext)
    (tSeq (tAsg (tCall (W ._law_shape) [] E0 (tCons (tVar 0) (tCons (tOp rSubU (tVar 1) (tC (.int 1))) (tCons (tOp (rAddU K) (tOp (rMulU K) (tC (.int 2)) (tVar 2)) (tC (.int 1))) (tCons (tVar 3) tNil))))) (gName 6))
    (tSeq (tIfS (tTest (tOp (rEqU K) (tVar 5) (tC (.int 2)))) (tRet (tTup (tCons (tC (.str "many")) (tCons (tVar 6) tNil)))) tNext)
    (tSeq (tIfS (tTest (tOp (rEqU K) (tVar 5) (tC (.int 3)))) (tRet (tTup (tCons (tC (.str "alike")) (tCons (tVar 6) (tCons (tOp (rAddU K) (tC (.int 1)) (tOp rModU (tOp rDivU (tVar 4) (tC (.int 7))) (tC (.int 3)))) tNil))))) tNext)
    (tSeq (tIfS (tTest (tOp (rEqU K) (tVar 5) (tC (.int 4)))) (tRet (tTup (tCons (tC (.str "use")) (tCons (tVar 3) tNil)))) tNext)
    (tSeq (tAsg (tCall (W ._law_shape) [] E0 (tCons (tVar 0) (tCons (tOp rSubU (tVar 1) (tC (.int 1))) (tCons (tOp (rAddU K) (tOp (rMulU K) (tC (.int 2)) (tVar 2)) (tC (.int 2))) (tCons (tVar 3) tNil))))) (gName 7))
    (tSeq (tIfS (tTest (tOp (rEqU K) (tVar 5) (tC (.int 5)))) (tRet (tTup (tCons (tC (.str "row")) (tCons (tTup (tCons (tVar 6) (tCons (tVar 7) tNil))) tNil)))) tNext)
    (tRet (tTup (tCons (tC (.str "pick")) (tCons (tTup (tCons (tTup (tCons (tCall (W ._law_name) [] E0 (tCons (tOp rDivU (tVar 4) (tC (.int 7))) (tCons (tC (.int 1)) tNil))) (tCons (tVar 6) tNil))) (tCons (tTup (tCons (tCall (W ._law_name) [] E0 (tCons (tOp rDivU (tVar 4) (tC (.int 7))) (tCons (tC (.int 0)) tNil))) (tCons (tVar 7) tNil))) tNil))) tNil)))))))))))))
def t__law_size (K : PySem.W.Frag) (W : Df → Sp) : TS :=
    (tSeq (tAsg (tC (.int 0)) (gName 4))
    (tSeq (tWhile (tAnd (tTest (tOp rLtU (tVar 4) (tVar 2))) (tTest (tOp rLeU (tCB (rLenU K) (tCons (tCall (W ._law_all) [] E0 (tCons (tVar 0) (tCons (tVar 1) (tCons (tOp (rAddU K) (tVar 4) (tC (.int 1))) tNil)))) tNil)) (tVar 3)))) (tAsg (tOp (rAddU K) (tVar 4) (tC (.int 1))) (gName 4)))
    (tRet (tVar 4))))
def t__law_same (K : PySem.W.Frag) (W : Df → Sp) : TS :=
    (tSeq (tIfS (tB (tCB (rIsi K) (tCons (tVar 0) (tCons (tC (.ty "list")) tNil)))) (tRet (tAndV (tCB (rIsi K) (tCons (tVar 1) (tCons (tC (.ty "list")) tNil))) (tCall (W ._law_rows_same) [] E0 (tCons (tVar 0) (tCons (tVar 1) tNil))))) tNext)
    (tSeq (tIfS (tB (tCB (rIsi K) (tCons (tVar 0) (tCons (tC (.ty "tuple")) tNil)))) (tRet (tAndV (tCB (rIsi K) (tCons (tVar 1) (tCons (tC (.ty "tuple")) tNil))) (tCall (W ._law_rows_same) [] E0 (tCons (tVar 0) (tCons (tVar 1) tNil))))) tNext)
    (tRet (tAndV (tOp (rEqU K) (tVar 0) (tVar 1)) (tOp (rEqU K) (tCB (rIsi K) (tCons (tVar 0) (tCons (tC (.ty "bool")) tNil))) (tCB (rIsi K) (tCons (tVar 1) (tCons (tC (.ty "bool")) tNil))))))))
def t__law_rows_same (K : PySem.W.Frag) (W : Df → Sp) : TS :=
    (tSeq (tIfS (tTest (tOp (rNeU K) (tCB (rLenU K) (tCons (tVar 0) tNil)) (tCB (rLenU K) (tCons (tVar 1) tNil)))) (tRet (tC (.bl false))) tNext)
    (tRet (tOp (rEqU K) (tLc (iRng1 (tCons (tCB (rLenU K) (tCons (tVar 0) tNil)) tNil)) (gName 2) (tNot (tB (tCall (W ._law_same) [] E0 (tCons (tOp (rIxU K) (tVar 0) (tVar 2)) (tCons (tOp (rIxU K) (tVar 1) (tVar 2)) tNil))))) (tVar 2) [2]) (tLst tNil))))
def t__law_lists_in (K : PySem.W.Frag) (W : Df → Sp) : TS :=
    (tSeq (tAsg (tLst tNil) (gName 1))
    (tSeq (tIfS (tB (tCB (rIsi K) (tCons (tVar 0) (tCons (tC (.ty "list")) tNil)))) (tDrop (tBM K "list" rAppend (tVar 1) (tCons (tVar 0) tNil))) tNext)
    (tSeq (tIfS (tOr (tB (tCB (rIsi K) (tCons (tVar 0) (tCons (tC (.ty "list")) tNil)))) (tB (tCB (rIsi K) (tCons (tVar 0) (tCons (tC (.ty "tuple")) tNil))))) (tFor (iAny K (tVar 0)) (gName 2) (tDrop (tBM K "list" rExtend (tVar 1) (tCons (tCall (W ._law_lists_in) [] E0 (tCons (tVar 2) tNil)) tNil)))) tNext)
    (tRet (tVar 1)))))
def t__law_own (K : PySem.W.Frag) (W : Df → Sp) : TS :=
    (tSeq (tAsg (tCall (W ._law_lists_in) [] E0 (tCons (tVar 0) tNil)) (gName 1))
    (tSeq (tAsg (tLc (iAny K (tVar 1)) (gName 3) tYes (tCB (rLenU K) (tCons (tVar 3) tNil)) [3]) (gName 2))
    (tSeq (tFor (iAny K (tVar 1)) (gName 3) (tDrop (tBM K "list" rAppend (tVar 3) (tCons (tC .non) tNil))))
    (tRet (tOp (rEqU K) (tLc (iAny K (tVar 1)) (gName 3) tYes (tCB (rLenU K) (tCons (tVar 3) tNil)) [3]) (tLc (iAny K (tVar 2)) (gName 4) tYes (tOp (rAddU K) (tVar 4) (tC (.int 1))) [4]))))))
def t_law (K : PySem.W.Frag) (W : Df → Sp) : TS :=
    (tSeq (tAsg (tCall (W ._law_name) [] E0 (tCons (tCall (W ._law_cell_at) [] E0 (tCons (tVar 0) (tCons (tC (.int 7)) tNil))) (tCons (tC (.int 0)) tNil))) (gName 1))
    (tSeq (tAsg (tLst (tCons (tTup (tCons (tVar 1) (tCons (tCall (W ._law_leaf) [] E0 (tCons (tCall (W ._law_cell_at) [] E0 (tCons (tVar 0) (tCons (tC (.int 8)) tNil))) tNil)) tNil))) tNil)) (gName 2))
    (tSeq (tAsg (tCall (W ._law_shape) [] E0 (tCons (tVar 0) (tCons (tC (.int 2)) (tCons (tC (.int 0)) (tCons (tVar 1) tNil))))) (gName 3))
    (tSeq (tAsg (tCall (W ._law_size) [] E0 (tCons (tVar 2) (tCons (tVar 3) (tCons (tOp rModU (tCall (W ._law_cell_at) [] E0 (tCons (tVar 0) (tCons (tC (.int 9)) tNil))) (tC (.int 6))) (tCons (tC (.int 60)) tNil))))) (gName 4))
    (tSeq (tAsg (tCall (W ._law_all) [] E0 (tCons (tVar 2) (tCons (tVar 3) (tCons (tVar 4) tNil)))) (gName 5))
    (tSeq (tAsg (tCB rMin2U (tCons (tC (.int 2000)) (tCons (tOp (rAddU K) (tCB (rLenU K) (tCons (tVar 5) tNil)) (tOp rModU (tCall (W ._law_cell_at) [] E0 (tCons (tVar 0) (tCons (tC (.int 10)) tNil))) (tC (.int 2000)))) tNil))) (gName 6))
    (tSeq (tIfS (tTest (tOp (rEqU K) (tOp rModU (tOp rDivU (tCall (W ._law_cell_at) [] E0 (tCons (tVar 0) (tCons (tC (.int 9)) tNil))) (tC (.int 6))) (tC (.int 3))) (tC (.int 0)))) (tAsg (tCB (rLenU K) (tCons (tVar 5) tNil)) (gName 6)) tNext)
    (tSeq (tAsg (tCB (rListU K) (tCons (tVar 2) tNil)) (gName 7))
    (tSeq (tAsg (tCall (W .all_values) [] E0 (tCons (tVar 7) (tCons (tVar 3) (tCons (tVar 4) (tCons (tVar 6) tNil))))) (gName 8))
    (tSeq (tIfS (tOr (tNot (tB (tCB (rIsi K) (tCons (tVar 8) (tCons (tC (.ty "list")) tNil))))) (tOr (tNot (tB (tCall (W ._law_same) [] E0 (tCons (tVar 8) (tCons (tVar 5) tNil))))) (tTest (tOp (rNeU K) (tVar 7) (tVar 2))))) (tRet (tC (.bl false))) tNext)
    (tSeq (tIfS (tNot (tB (tCall (W ._law_own) [] E0 (tCons (tVar 8) tNil)))) (tRet (tC (.bl false))) tNext)
    (tRet (tCall (W ._law_same) [] E0 (tCons (tCall (W .all_values) [.int 400] E0 (tCons (tVar 7) (tCons (tVar 3) (tCons (tVar 4) tNil)))) (tCons (tVar 5) tNil)))))))))))))))
def body (K : PySem.W.Frag) (W : Df → Sp) : Df → TS
  | .first_taken => t_first_taken K W
  | .Maker___init__ => t_Maker___init__ K W
  | .Maker_grow => t_Maker_grow K W
  | .Maker_next_count => t_Maker_next_count K W
  | .Maker_told => t_Maker_told K W
  | .WholeMaker___init__ => t_WholeMaker___init__ K W
  | .WholeMaker_next_count => t_WholeMaker_next_count K W
  | .WholeMaker_told => t_WholeMaker_told K W
  | .TextMaker___init__ => t_TextMaker___init__ K W
  | .TextMaker_next_count => t_TextMaker_next_count K W
  | .TextMaker_told => t_TextMaker_told K W
  | .RowMaker___init__ => t_RowMaker___init__ K W
  | .RowMaker_next_count => t_RowMaker_next_count K W
  | .RowMaker_told => t_RowMaker_told K W
  | .ManyMaker_next_count => t_ManyMaker_next_count K W
  | .ManyMaker_told => t_ManyMaker_told K W
  | .AlikeMaker___init__ => t_AlikeMaker___init__ K W
  | .AlikeMaker_next_count => t_AlikeMaker_next_count K W
  | .AlikeMaker_told => t_AlikeMaker_told K W
  | .PickMaker___init__ => t_PickMaker___init__ K W
  | .PickMaker_next_count => t_PickMaker_next_count K W
  | .PickMaker_told => t_PickMaker_told K W
  | .UseMaker___init__ => t_UseMaker___init__ K W
  | .UseMaker_next_count => t_UseMaker_next_count K W
  | .UseMaker_told => t_UseMaker_told K W
  | .maker_of => t_maker_of K W
  | .Tables___init__ => t_Tables___init__ K W
  | .Tables_grow_to => t_Tables_grow_to K W
  | .Tables_counts_at => t_Tables_counts_at K W
  | .Tables_told => t_Tables_told K W
  | .all_values => t_all_values K W
  | ._law_cell_at => t__law_cell_at K W
  | ._law_name => t__law_name K W
  | ._law_texts => t__law_texts K W
  | ._law_numbers => t__law_numbers K W
  | ._law_rows => t__law_rows K W
  | ._law_lists => t__law_lists K W
  | ._law_all => t__law_all K W
  | ._law_leaf => t__law_leaf K W
  | ._law_shape => t__law_shape K W
  | ._law_size => t__law_size K W
  | ._law_same => t__law_same K W
  | ._law_rows_same => t__law_rows_same K W
  | ._law_lists_in => t__law_lists_in K W
  | ._law_own => t__law_own K W
  | .law => t_law K W
/-- what a call gives, by the depth of the calls -/
def W (K : PySem.W.Frag) : Nat → Df → Sp
  | 0, _ => fun _ _ _ _ => False
  | n + 1, d => fun vs H Q _ => vs.length = (par d).length ∧ body K (W K n) d { nx := fun _ H' => Q .non H', rt := Q } (start (nms d) vs) H
def fa : List He.Fa := [.free "divmod",
  .free "len",
  .glo "Maker",
  .free "min",
  .free "max",
  .free "range",
  .free "int",
  .free "sum",
  .free "enumerate",
  .glo "first_taken",
  .free "tuple",
  .glo "WholeMaker",
  .glo "TextMaker",
  .glo "UseMaker",
  .glo "maker_of",
  .glo "RowMaker",
  .glo "PickMaker",
  .glo "ManyMaker",
  .glo "AlikeMaker",
  .glo "Tables",
  .glo "_law_rows",
  .glo "_law_all",
  .glo "_law_lists",
  .glo "_law_numbers",
  .glo "_law_texts",
  .free "dict",
  .glo "_law_cell_at",
  .glo "_law_leaf",
  .glo "_law_shape",
  .glo "_law_name",
  .free "list",
  .free "isinstance",
  .glo "_law_rows_same",
  .free "bool",
  .glo "_law_same",
  .glo "_law_lists_in",
  .glo "_law_size",
  .glo "all_values",
  .glo "_law_own",
  .cls "Maker",
  .noat "Maker" "within",
  .noat "Maker" "counts",
  .noat "Maker" "low",
  .noat "Maker" "span",
  .noat "Maker" "signs",
  .noat "Maker" "rests",
  .noat "Maker" "times",
  .noat "Maker" "marks",
  .noat "Maker" "named",
  .noat "Maker" "name",
  .noat "Maker" "top",
  .meth "Maker" "grow",
  .meth "Maker" "next_count",
  .meth "Maker" "told",
  .cls "WholeMaker",
  .noat "WholeMaker" "within",
  .noat "WholeMaker" "counts",
  .noat "WholeMaker" "low",
  .noat "WholeMaker" "span",
  .noat "WholeMaker" "signs",
  .noat "WholeMaker" "rests",
  .noat "WholeMaker" "times",
  .noat "WholeMaker" "marks",
  .noat "WholeMaker" "named",
  .noat "WholeMaker" "name",
  .noat "WholeMaker" "top",
  .meth "WholeMaker" "grow",
  .meth "WholeMaker" "next_count",
  .meth "WholeMaker" "told",
  .cls "TextMaker",
  .noat "TextMaker" "within",
  .noat "TextMaker" "counts",
  .noat "TextMaker" "low",
  .noat "TextMaker" "span",
  .noat "TextMaker" "signs",
  .noat "TextMaker" "rests",
  .noat "TextMaker" "times",
  .noat "TextMaker" "marks",
  .noat "TextMaker" "named",
  .noat "TextMaker" "name",
  .noat "TextMaker" "top",
  .meth "TextMaker" "grow",
  .meth "TextMaker" "next_count",
  .meth "TextMaker" "told",
  .cls "RowMaker",
  .noat "RowMaker" "within",
  .noat "RowMaker" "counts",
  .noat "RowMaker" "low",
  .noat "RowMaker" "span",
  .noat "RowMaker" "signs",
  .noat "RowMaker" "rests",
  .noat "RowMaker" "times",
  .noat "RowMaker" "marks",
  .noat "RowMaker" "named",
  .noat "RowMaker" "name",
  .noat "RowMaker" "top",
  .meth "RowMaker" "grow",
  .meth "RowMaker" "next_count",
  .meth "RowMaker" "told",
  .cls "ManyMaker",
  .noat "ManyMaker" "within",
  .noat "ManyMaker" "counts",
  .noat "ManyMaker" "low",
  .noat "ManyMaker" "span",
  .noat "ManyMaker" "signs",
  .noat "ManyMaker" "rests",
  .noat "ManyMaker" "times",
  .noat "ManyMaker" "marks",
  .noat "ManyMaker" "named",
  .noat "ManyMaker" "name",
  .noat "ManyMaker" "top",
  .meth "ManyMaker" "grow",
  .meth "ManyMaker" "next_count",
  .meth "ManyMaker" "told",
  .cls "RisingMaker",
  .noat "RisingMaker" "within",
  .noat "RisingMaker" "counts",
  .noat "RisingMaker" "low",
  .noat "RisingMaker" "span",
  .noat "RisingMaker" "signs",
  .noat "RisingMaker" "rests",
  .noat "RisingMaker" "times",
  .noat "RisingMaker" "marks",
  .noat "RisingMaker" "named",
  .noat "RisingMaker" "name",
  .noat "RisingMaker" "top",
  .meth "RisingMaker" "grow",
  .cls "UnlikeMaker",
  .noat "UnlikeMaker" "within",
  .noat "UnlikeMaker" "counts",
  .noat "UnlikeMaker" "low",
  .noat "UnlikeMaker" "span",
  .noat "UnlikeMaker" "signs",
  .noat "UnlikeMaker" "rests",
  .noat "UnlikeMaker" "times",
  .noat "UnlikeMaker" "marks",
  .noat "UnlikeMaker" "named",
  .noat "UnlikeMaker" "name",
  .noat "UnlikeMaker" "top",
  .meth "UnlikeMaker" "grow",
  .cls "AlikeMaker",
  .noat "AlikeMaker" "within",
  .noat "AlikeMaker" "counts",
  .noat "AlikeMaker" "low",
  .noat "AlikeMaker" "span",
  .noat "AlikeMaker" "signs",
  .noat "AlikeMaker" "rests",
  .noat "AlikeMaker" "times",
  .noat "AlikeMaker" "marks",
  .noat "AlikeMaker" "named",
  .noat "AlikeMaker" "name",
  .noat "AlikeMaker" "top",
  .meth "AlikeMaker" "grow",
  .meth "AlikeMaker" "next_count",
  .meth "AlikeMaker" "told",
  .cls "PickMaker",
  .noat "PickMaker" "within",
  .noat "PickMaker" "counts",
  .noat "PickMaker" "low",
  .noat "PickMaker" "span",
  .noat "PickMaker" "signs",
  .noat "PickMaker" "rests",
  .noat "PickMaker" "times",
  .noat "PickMaker" "marks",
  .noat "PickMaker" "named",
  .noat "PickMaker" "name",
  .noat "PickMaker" "top",
  .meth "PickMaker" "grow",
  .meth "PickMaker" "next_count",
  .meth "PickMaker" "told",
  .cls "UseMaker",
  .noat "UseMaker" "within",
  .noat "UseMaker" "counts",
  .noat "UseMaker" "low",
  .noat "UseMaker" "span",
  .noat "UseMaker" "signs",
  .noat "UseMaker" "rests",
  .noat "UseMaker" "times",
  .noat "UseMaker" "marks",
  .noat "UseMaker" "named",
  .noat "UseMaker" "name",
  .noat "UseMaker" "top",
  .meth "UseMaker" "grow",
  .meth "UseMaker" "next_count",
  .meth "UseMaker" "told",
  .cls "Tables",
  .noat "Tables" "within",
  .noat "Tables" "counts",
  .noat "Tables" "low",
  .noat "Tables" "span",
  .noat "Tables" "signs",
  .noat "Tables" "rests",
  .noat "Tables" "times",
  .noat "Tables" "marks",
  .noat "Tables" "named",
  .noat "Tables" "name",
  .noat "Tables" "top",
  .meth "Tables" "told",
  .meth "Tables" "grow_to",
  .meth "Tables" "counts_at",
  .mkr "WholeMaker",
  .mkr "TextMaker",
  .mkr "UseMaker",
  .mkr "RowMaker",
  .mkr "PickMaker",
  .mkr "ManyMaker",
  .mkr "AlikeMaker",
  .mkr "Tables",
  .glo "law"]
def fn : List He.DefD := [D_first_taken, D_Maker___init__, D_Maker_grow, D_Maker_next_count, D_Maker_told, D_WholeMaker___init__, D_WholeMaker_next_count, D_WholeMaker_told, D_TextMaker___init__, D_TextMaker_next_count, D_TextMaker_told, D_RowMaker___init__, D_RowMaker_next_count, D_RowMaker_told, D_ManyMaker_next_count, D_ManyMaker_told, D_AlikeMaker___init__, D_AlikeMaker_next_count, D_AlikeMaker_told, D_PickMaker___init__, D_PickMaker_next_count, D_PickMaker_told, D_UseMaker___init__, D_UseMaker_next_count, D_UseMaker_told, D_maker_of, D_Tables___init__, D_Tables_grow_to, D_Tables_counts_at, D_Tables_told, D_all_values, D__law_cell_at, D__law_name, D__law_texts, D__law_numbers, D__law_rows, D__law_lists, D__law_all, D__law_leaf, D__law_shape, D__law_size, D__law_same, D__law_rows_same, D__law_lists_in, D__law_own, D_law]
def exl : List (PySem.W.Frag → Bool) := [fun K => decide (He.ma K (He.ga K "ManyMaker") "__init__" = He.ma K (He.ga K "Maker") "__init__"),
  fun K => decide (He.ma K (He.ga K "WholeMaker") "grow" = He.ma K (He.ga K "Maker") "grow"),
  fun K => decide (He.ma K (He.ga K "TextMaker") "grow" = He.ma K (He.ga K "Maker") "grow"),
  fun K => decide (He.ma K (He.ga K "RowMaker") "grow" = He.ma K (He.ga K "Maker") "grow"),
  fun K => decide (He.ma K (He.ga K "ManyMaker") "grow" = He.ma K (He.ga K "Maker") "grow"),
  fun K => decide (He.ma K (He.ga K "RisingMaker") "grow" = He.ma K (He.ga K "Maker") "grow"),
  fun K => decide (He.ma K (He.ga K "UnlikeMaker") "grow" = He.ma K (He.ga K "Maker") "grow"),
  fun K => decide (He.ma K (He.ga K "AlikeMaker") "grow" = He.ma K (He.ga K "Maker") "grow"),
  fun K => decide (He.ma K (He.ga K "PickMaker") "grow" = He.ma K (He.ga K "Maker") "grow"),
  fun K => decide (He.ma K (He.ga K "UseMaker") "grow" = He.ma K (He.ga K "Maker") "grow"),
  fun K => cfB K (He.ga K "Maker") "__init__" (He.ma K (He.ga K "Maker") "__init__")]
def exb (K : PySem.W.Frag) : Bool := exl.all fun f => f K
structure Txt (K : PySem.W.Frag) (mg : Str → Option Value) : Prop where
  ex : ∃ h : Heap, K.In h ∧ h.Ns mainGlobals mg
  says : SaysC fa fn exb K
section
variable {K : PySem.W.Frag} {mg : Str → Option Value} (T : Txt K mg)
include T
theorem Txt.glo {x : Str} (i : Nat) (h : fa[i]? = some (.glo x) := by rfl) : mg x = some (.ref (He.ga K x)) := by
  obtain ⟨hp, X, G⟩ := T.ex
  exact He.glo_ok X G (T.says.2.fact i h)
theorem Txt.free {x : Str} (i : Nat) (h : fa[i]? = some (.free x) := by rfl) : mg x = none := by
  obtain ⟨hp, X, G⟩ := T.ex
  exact He.free_ok X G (T.says.2.fact i h)
theorem Txt.exf (i : Nat) {f : PySem.W.Frag → Bool} (h : exl[i]? = some f := by rfl) : f K = true :=
  List.all_eq_true.mp T.says.1 f (List.mem_of_getElem? h)
theorem Txt.law : mg "law" = some (.ref (ad K .law)) := T.glo (x := "law") 208
theorem Txt.cls (c : Cn) : Cls K (ca K c) := by
  cases c
  · exact He.cls_ok (T.says.2.fact 39)
  · exact He.cls_ok (T.says.2.fact 54)
  · exact He.cls_ok (T.says.2.fact 69)
  · exact He.cls_ok (T.says.2.fact 84)
  · exact He.cls_ok (T.says.2.fact 99)
  · exact He.cls_ok (T.says.2.fact 114)
  · exact He.cls_ok (T.says.2.fact 127)
  · exact He.cls_ok (T.says.2.fact 140)
  · exact He.cls_ok (T.says.2.fact 155)
  · exact He.cls_ok (T.says.2.fact 170)
  · exact He.cls_ok (T.says.2.fact 185)
theorem Txt.noat_within (c : Cn) : NoAttr K (ca K c) "within" := by
  cases c
  · exact He.noat_ok (T.says.2.fact 40)
  · exact He.noat_ok (T.says.2.fact 55)
  · exact He.noat_ok (T.says.2.fact 70)
  · exact He.noat_ok (T.says.2.fact 85)
  · exact He.noat_ok (T.says.2.fact 100)
  · exact He.noat_ok (T.says.2.fact 115)
  · exact He.noat_ok (T.says.2.fact 128)
  · exact He.noat_ok (T.says.2.fact 141)
  · exact He.noat_ok (T.says.2.fact 156)
  · exact He.noat_ok (T.says.2.fact 171)
  · exact He.noat_ok (T.says.2.fact 186)
theorem Txt.noat_counts (c : Cn) : NoAttr K (ca K c) "counts" := by
  cases c
  · exact He.noat_ok (T.says.2.fact 41)
  · exact He.noat_ok (T.says.2.fact 56)
  · exact He.noat_ok (T.says.2.fact 71)
  · exact He.noat_ok (T.says.2.fact 86)
  · exact He.noat_ok (T.says.2.fact 101)
  · exact He.noat_ok (T.says.2.fact 116)
  · exact He.noat_ok (T.says.2.fact 129)
  · exact He.noat_ok (T.says.2.fact 142)
  · exact He.noat_ok (T.says.2.fact 157)
  · exact He.noat_ok (T.says.2.fact 172)
  · exact He.noat_ok (T.says.2.fact 187)
theorem Txt.noat_low (c : Cn) : NoAttr K (ca K c) "low" := by
  cases c
  · exact He.noat_ok (T.says.2.fact 42)
  · exact He.noat_ok (T.says.2.fact 57)
  · exact He.noat_ok (T.says.2.fact 72)
  · exact He.noat_ok (T.says.2.fact 87)
  · exact He.noat_ok (T.says.2.fact 102)
  · exact He.noat_ok (T.says.2.fact 117)
  · exact He.noat_ok (T.says.2.fact 130)
  · exact He.noat_ok (T.says.2.fact 143)
  · exact He.noat_ok (T.says.2.fact 158)
  · exact He.noat_ok (T.says.2.fact 173)
  · exact He.noat_ok (T.says.2.fact 188)
theorem Txt.noat_span (c : Cn) : NoAttr K (ca K c) "span" := by
  cases c
  · exact He.noat_ok (T.says.2.fact 43)
  · exact He.noat_ok (T.says.2.fact 58)
  · exact He.noat_ok (T.says.2.fact 73)
  · exact He.noat_ok (T.says.2.fact 88)
  · exact He.noat_ok (T.says.2.fact 103)
  · exact He.noat_ok (T.says.2.fact 118)
  · exact He.noat_ok (T.says.2.fact 131)
  · exact He.noat_ok (T.says.2.fact 144)
  · exact He.noat_ok (T.says.2.fact 159)
  · exact He.noat_ok (T.says.2.fact 174)
  · exact He.noat_ok (T.says.2.fact 189)
theorem Txt.noat_signs (c : Cn) : NoAttr K (ca K c) "signs" := by
  cases c
  · exact He.noat_ok (T.says.2.fact 44)
  · exact He.noat_ok (T.says.2.fact 59)
  · exact He.noat_ok (T.says.2.fact 74)
  · exact He.noat_ok (T.says.2.fact 89)
  · exact He.noat_ok (T.says.2.fact 104)
  · exact He.noat_ok (T.says.2.fact 119)
  · exact He.noat_ok (T.says.2.fact 132)
  · exact He.noat_ok (T.says.2.fact 145)
  · exact He.noat_ok (T.says.2.fact 160)
  · exact He.noat_ok (T.says.2.fact 175)
  · exact He.noat_ok (T.says.2.fact 190)
theorem Txt.noat_rests (c : Cn) : NoAttr K (ca K c) "rests" := by
  cases c
  · exact He.noat_ok (T.says.2.fact 45)
  · exact He.noat_ok (T.says.2.fact 60)
  · exact He.noat_ok (T.says.2.fact 75)
  · exact He.noat_ok (T.says.2.fact 90)
  · exact He.noat_ok (T.says.2.fact 105)
  · exact He.noat_ok (T.says.2.fact 120)
  · exact He.noat_ok (T.says.2.fact 133)
  · exact He.noat_ok (T.says.2.fact 146)
  · exact He.noat_ok (T.says.2.fact 161)
  · exact He.noat_ok (T.says.2.fact 176)
  · exact He.noat_ok (T.says.2.fact 191)
theorem Txt.noat_times (c : Cn) : NoAttr K (ca K c) "times" := by
  cases c
  · exact He.noat_ok (T.says.2.fact 46)
  · exact He.noat_ok (T.says.2.fact 61)
  · exact He.noat_ok (T.says.2.fact 76)
  · exact He.noat_ok (T.says.2.fact 91)
  · exact He.noat_ok (T.says.2.fact 106)
  · exact He.noat_ok (T.says.2.fact 121)
  · exact He.noat_ok (T.says.2.fact 134)
  · exact He.noat_ok (T.says.2.fact 147)
  · exact He.noat_ok (T.says.2.fact 162)
  · exact He.noat_ok (T.says.2.fact 177)
  · exact He.noat_ok (T.says.2.fact 192)
theorem Txt.noat_marks (c : Cn) : NoAttr K (ca K c) "marks" := by
  cases c
  · exact He.noat_ok (T.says.2.fact 47)
  · exact He.noat_ok (T.says.2.fact 62)
  · exact He.noat_ok (T.says.2.fact 77)
  · exact He.noat_ok (T.says.2.fact 92)
  · exact He.noat_ok (T.says.2.fact 107)
  · exact He.noat_ok (T.says.2.fact 122)
  · exact He.noat_ok (T.says.2.fact 135)
  · exact He.noat_ok (T.says.2.fact 148)
  · exact He.noat_ok (T.says.2.fact 163)
  · exact He.noat_ok (T.says.2.fact 178)
  · exact He.noat_ok (T.says.2.fact 193)
theorem Txt.noat_named (c : Cn) : NoAttr K (ca K c) "named" := by
  cases c
  · exact He.noat_ok (T.says.2.fact 48)
  · exact He.noat_ok (T.says.2.fact 63)
  · exact He.noat_ok (T.says.2.fact 78)
  · exact He.noat_ok (T.says.2.fact 93)
  · exact He.noat_ok (T.says.2.fact 108)
  · exact He.noat_ok (T.says.2.fact 123)
  · exact He.noat_ok (T.says.2.fact 136)
  · exact He.noat_ok (T.says.2.fact 149)
  · exact He.noat_ok (T.says.2.fact 164)
  · exact He.noat_ok (T.says.2.fact 179)
  · exact He.noat_ok (T.says.2.fact 194)
theorem Txt.noat_name (c : Cn) : NoAttr K (ca K c) "name" := by
  cases c
  · exact He.noat_ok (T.says.2.fact 49)
  · exact He.noat_ok (T.says.2.fact 64)
  · exact He.noat_ok (T.says.2.fact 79)
  · exact He.noat_ok (T.says.2.fact 94)
  · exact He.noat_ok (T.says.2.fact 109)
  · exact He.noat_ok (T.says.2.fact 124)
  · exact He.noat_ok (T.says.2.fact 137)
  · exact He.noat_ok (T.says.2.fact 150)
  · exact He.noat_ok (T.says.2.fact 165)
  · exact He.noat_ok (T.says.2.fact 180)
  · exact He.noat_ok (T.says.2.fact 195)
theorem Txt.noat_top (c : Cn) : NoAttr K (ca K c) "top" := by
  cases c
  · exact He.noat_ok (T.says.2.fact 50)
  · exact He.noat_ok (T.says.2.fact 65)
  · exact He.noat_ok (T.says.2.fact 80)
  · exact He.noat_ok (T.says.2.fact 95)
  · exact He.noat_ok (T.says.2.fact 110)
  · exact He.noat_ok (T.says.2.fact 125)
  · exact He.noat_ok (T.says.2.fact 138)
  · exact He.noat_ok (T.says.2.fact 151)
  · exact He.noat_ok (T.says.2.fact 166)
  · exact He.noat_ok (T.says.2.fact 181)
  · exact He.noat_ok (T.says.2.fact 196)
theorem Txt.mk_WholeMaker : Mk K (ca K .WholeMaker) (ad K .WholeMaker___init__) := by
  have h := He.mkr_ok (T.says.2.fact 200 (f := .mkr "WholeMaker"))
  exact h
theorem Txt.mk_TextMaker : Mk K (ca K .TextMaker) (ad K .TextMaker___init__) := by
  have h := He.mkr_ok (T.says.2.fact 201 (f := .mkr "TextMaker"))
  exact h
theorem Txt.mk_UseMaker : Mk K (ca K .UseMaker) (ad K .UseMaker___init__) := by
  have h := He.mkr_ok (T.says.2.fact 202 (f := .mkr "UseMaker"))
  exact h
theorem Txt.mk_RowMaker : Mk K (ca K .RowMaker) (ad K .RowMaker___init__) := by
  have h := He.mkr_ok (T.says.2.fact 203 (f := .mkr "RowMaker"))
  exact h
theorem Txt.mk_PickMaker : Mk K (ca K .PickMaker) (ad K .PickMaker___init__) := by
  have h := He.mkr_ok (T.says.2.fact 204 (f := .mkr "PickMaker"))
  exact h
theorem Txt.mk_ManyMaker : Mk K (ca K .ManyMaker) (ad K .Maker___init__) := by
  have h := He.mkr_ok (T.says.2.fact 205 (f := .mkr "ManyMaker"))
  have e : He.ma K (He.ga K "ManyMaker") "__init__" = He.ma K (He.ga K "Maker") "__init__" := of_decide_eq_true (T.exf 0)
  rw [e] at h
  exact h
theorem Txt.mk_AlikeMaker : Mk K (ca K .AlikeMaker) (ad K .AlikeMaker___init__) := by
  have h := He.mkr_ok (T.says.2.fact 206 (f := .mkr "AlikeMaker"))
  exact h
theorem Txt.mk_Tables : Mk K (ca K .Tables) (ad K .Tables___init__) := by
  have h := He.mkr_ok (T.says.2.fact 207 (f := .mkr "Tables"))
  exact h
theorem Txt.cf_Maker___init__ : cfB K (He.ga K "Maker") "__init__" (ad K .Maker___init__) = true := T.exf 10
end
/-- every def keeps its reading, n calls deep -/
structure OKn (P : Program) (w : World) (K : PySem.W.Frag) (mg : Str → Option Value) (base : Heap) (n : Nat) : Prop where
  fn : ∀ d : Df, ∃ fd, FnOk P w K mg base CX0 (2 * n) (ad K d) fd (par d) (W K n d) ∧ FunD K (dd d).name (dd d).qual (dd d).params (dd d).body (dd d).scope ((dd d).dvs K) ((dd d).kws K) (ad K d) fd
abbrev cx (P : Program) (w : World) (K : PySem.W.Frag) (mg : Str → Option Value) (base : Heap) (d : Df) (cdv : Value) (A : Around) (outer : List Env) (s : Shared) (H : Hp) (E : XK) : Cx :=
  (cxOf CX0 P w K mg base (nms d) (dd d).qual (dd d).scope (ad K d) cdv A outer s H E).nox
section
variable {P : Program} {w : World} {K : PySem.W.Frag} {mg : Str → Option Value} {base : Heap} {n : Nat}
theorem OKn.c_first_taken_0 (IH : OKn P w K mg base n) (T : Txt K mg) : COk P w K mg base (2 * n) (ad K .first_taken) ps_first_taken [] (W K n .first_taken) := by
  obtain ⟨fd, F, FD⟩ := IH.fn .first_taken
  exact ⟨fd, [], F, .nil, FunD.bindsN FD (fun _ _ _ _ _ _ us hl => match us, hl with | [_, _, _, _], _ => rfl), FD.kp⟩
theorem OKn.c_Maker___init___0 (IH : OKn P w K mg base n) (T : Txt K mg) : COk P w K mg base (2 * n) (ad K .Maker___init__) ps_Maker___init__ [] (W K n .Maker___init__) := by
  obtain ⟨fd, F, FD⟩ := IH.fn .Maker___init__
  exact ⟨fd, [], F, .nil, FunD.bindsN FD (fun _ _ _ _ _ _ us hl => match us, hl with | [_, _], _ => rfl), FD.kp⟩
theorem OKn.c_Maker_grow_0 (IH : OKn P w K mg base n) (T : Txt K mg) : COk P w K mg base (2 * n) (ad K .Maker_grow) ps_Maker_grow [] (W K n .Maker_grow) := by
  obtain ⟨fd, F, FD⟩ := IH.fn .Maker_grow
  exact ⟨fd, [], F, .nil, FunD.bindsN FD (fun _ _ _ _ _ _ us hl => match us, hl with | [_], _ => rfl), FD.kp⟩
theorem OKn.c_Maker_next_count_0 (IH : OKn P w K mg base n) (T : Txt K mg) : COk P w K mg base (2 * n) (ad K .Maker_next_count) ps_Maker_next_count [] (W K n .Maker_next_count) := by
  obtain ⟨fd, F, FD⟩ := IH.fn .Maker_next_count
  exact ⟨fd, [], F, .nil, FunD.bindsN FD (fun _ _ _ _ _ _ us hl => match us, hl with | [_, _], _ => rfl), FD.kp⟩
theorem OKn.c_Maker_told_0 (IH : OKn P w K mg base n) (T : Txt K mg) : COk P w K mg base (2 * n) (ad K .Maker_told) ps_Maker_told [] (W K n .Maker_told) := by
  obtain ⟨fd, F, FD⟩ := IH.fn .Maker_told
  exact ⟨fd, [], F, .nil, FunD.bindsN FD (fun _ _ _ _ _ _ us hl => match us, hl with | [_, _, _], _ => rfl), FD.kp⟩
theorem OKn.c_WholeMaker___init___0 (IH : OKn P w K mg base n) (T : Txt K mg) : COk P w K mg base (2 * n) (ad K .WholeMaker___init__) ps_WholeMaker___init__ [] (W K n .WholeMaker___init__) := by
  obtain ⟨fd, F, FD⟩ := IH.fn .WholeMaker___init__
  exact ⟨fd, [], F, .nil, FunD.bindsN FD (fun _ _ _ _ _ _ us hl => match us, hl with | [_, _, _], _ => rfl), FD.kp⟩
theorem OKn.c_WholeMaker_next_count_0 (IH : OKn P w K mg base n) (T : Txt K mg) : COk P w K mg base (2 * n) (ad K .WholeMaker_next_count) ps_WholeMaker_next_count [] (W K n .WholeMaker_next_count) := by
  obtain ⟨fd, F, FD⟩ := IH.fn .WholeMaker_next_count
  exact ⟨fd, [], F, .nil, FunD.bindsN FD (fun _ _ _ _ _ _ us hl => match us, hl with | [_, _], _ => rfl), FD.kp⟩
theorem OKn.c_WholeMaker_told_0 (IH : OKn P w K mg base n) (T : Txt K mg) : COk P w K mg base (2 * n) (ad K .WholeMaker_told) ps_WholeMaker_told [] (W K n .WholeMaker_told) := by
  obtain ⟨fd, F, FD⟩ := IH.fn .WholeMaker_told
  exact ⟨fd, [], F, .nil, FunD.bindsN FD (fun _ _ _ _ _ _ us hl => match us, hl with | [_, _, _], _ => rfl), FD.kp⟩
theorem OKn.c_TextMaker___init___0 (IH : OKn P w K mg base n) (T : Txt K mg) : COk P w K mg base (2 * n) (ad K .TextMaker___init__) ps_TextMaker___init__ [] (W K n .TextMaker___init__) := by
  obtain ⟨fd, F, FD⟩ := IH.fn .TextMaker___init__
  exact ⟨fd, [], F, .nil, FunD.bindsN FD (fun _ _ _ _ _ _ us hl => match us, hl with | [_, _], _ => rfl), FD.kp⟩
theorem OKn.c_TextMaker_next_count_0 (IH : OKn P w K mg base n) (T : Txt K mg) : COk P w K mg base (2 * n) (ad K .TextMaker_next_count) ps_TextMaker_next_count [] (W K n .TextMaker_next_count) := by
  obtain ⟨fd, F, FD⟩ := IH.fn .TextMaker_next_count
  exact ⟨fd, [], F, .nil, FunD.bindsN FD (fun _ _ _ _ _ _ us hl => match us, hl with | [_, _], _ => rfl), FD.kp⟩
theorem OKn.c_TextMaker_told_0 (IH : OKn P w K mg base n) (T : Txt K mg) : COk P w K mg base (2 * n) (ad K .TextMaker_told) ps_TextMaker_told [] (W K n .TextMaker_told) := by
  obtain ⟨fd, F, FD⟩ := IH.fn .TextMaker_told
  exact ⟨fd, [], F, .nil, FunD.bindsN FD (fun _ _ _ _ _ _ us hl => match us, hl with | [_, _, _], _ => rfl), FD.kp⟩
theorem OKn.c_RowMaker___init___0 (IH : OKn P w K mg base n) (T : Txt K mg) : COk P w K mg base (2 * n) (ad K .RowMaker___init__) ps_RowMaker___init__ [] (W K n .RowMaker___init__) := by
  obtain ⟨fd, F, FD⟩ := IH.fn .RowMaker___init__
  exact ⟨fd, [], F, .nil, FunD.bindsN FD (fun _ _ _ _ _ _ us hl => match us, hl with | [_, _], _ => rfl), FD.kp⟩
theorem OKn.c_RowMaker_next_count_0 (IH : OKn P w K mg base n) (T : Txt K mg) : COk P w K mg base (2 * n) (ad K .RowMaker_next_count) ps_RowMaker_next_count [] (W K n .RowMaker_next_count) := by
  obtain ⟨fd, F, FD⟩ := IH.fn .RowMaker_next_count
  exact ⟨fd, [], F, .nil, FunD.bindsN FD (fun _ _ _ _ _ _ us hl => match us, hl with | [_, _], _ => rfl), FD.kp⟩
theorem OKn.c_RowMaker_told_0 (IH : OKn P w K mg base n) (T : Txt K mg) : COk P w K mg base (2 * n) (ad K .RowMaker_told) ps_RowMaker_told [] (W K n .RowMaker_told) := by
  obtain ⟨fd, F, FD⟩ := IH.fn .RowMaker_told
  exact ⟨fd, [], F, .nil, FunD.bindsN FD (fun _ _ _ _ _ _ us hl => match us, hl with | [_, _, _], _ => rfl), FD.kp⟩
theorem OKn.c_ManyMaker_next_count_0 (IH : OKn P w K mg base n) (T : Txt K mg) : COk P w K mg base (2 * n) (ad K .ManyMaker_next_count) ps_ManyMaker_next_count [] (W K n .ManyMaker_next_count) := by
  obtain ⟨fd, F, FD⟩ := IH.fn .ManyMaker_next_count
  exact ⟨fd, [], F, .nil, FunD.bindsN FD (fun _ _ _ _ _ _ us hl => match us, hl with | [_, _], _ => rfl), FD.kp⟩
theorem OKn.c_ManyMaker_told_0 (IH : OKn P w K mg base n) (T : Txt K mg) : COk P w K mg base (2 * n) (ad K .ManyMaker_told) ps_ManyMaker_told [] (W K n .ManyMaker_told) := by
  obtain ⟨fd, F, FD⟩ := IH.fn .ManyMaker_told
  exact ⟨fd, [], F, .nil, FunD.bindsN FD (fun _ _ _ _ _ _ us hl => match us, hl with | [_, _, _], _ => rfl), FD.kp⟩
theorem OKn.c_AlikeMaker___init___0 (IH : OKn P w K mg base n) (T : Txt K mg) : COk P w K mg base (2 * n) (ad K .AlikeMaker___init__) ps_AlikeMaker___init__ [] (W K n .AlikeMaker___init__) := by
  obtain ⟨fd, F, FD⟩ := IH.fn .AlikeMaker___init__
  exact ⟨fd, [], F, .nil, FunD.bindsN FD (fun _ _ _ _ _ _ us hl => match us, hl with | [_, _, _], _ => rfl), FD.kp⟩
theorem OKn.c_AlikeMaker_next_count_0 (IH : OKn P w K mg base n) (T : Txt K mg) : COk P w K mg base (2 * n) (ad K .AlikeMaker_next_count) ps_AlikeMaker_next_count [] (W K n .AlikeMaker_next_count) := by
  obtain ⟨fd, F, FD⟩ := IH.fn .AlikeMaker_next_count
  exact ⟨fd, [], F, .nil, FunD.bindsN FD (fun _ _ _ _ _ _ us hl => match us, hl with | [_, _], _ => rfl), FD.kp⟩
theorem OKn.c_AlikeMaker_told_0 (IH : OKn P w K mg base n) (T : Txt K mg) : COk P w K mg base (2 * n) (ad K .AlikeMaker_told) ps_AlikeMaker_told [] (W K n .AlikeMaker_told) := by
  obtain ⟨fd, F, FD⟩ := IH.fn .AlikeMaker_told
  exact ⟨fd, [], F, .nil, FunD.bindsN FD (fun _ _ _ _ _ _ us hl => match us, hl with | [_, _, _], _ => rfl), FD.kp⟩
theorem OKn.c_PickMaker___init___0 (IH : OKn P w K mg base n) (T : Txt K mg) : COk P w K mg base (2 * n) (ad K .PickMaker___init__) ps_PickMaker___init__ [] (W K n .PickMaker___init__) := by
  obtain ⟨fd, F, FD⟩ := IH.fn .PickMaker___init__
  exact ⟨fd, [], F, .nil, FunD.bindsN FD (fun _ _ _ _ _ _ us hl => match us, hl with | [_, _, _], _ => rfl), FD.kp⟩
theorem OKn.c_PickMaker_next_count_0 (IH : OKn P w K mg base n) (T : Txt K mg) : COk P w K mg base (2 * n) (ad K .PickMaker_next_count) ps_PickMaker_next_count [] (W K n .PickMaker_next_count) := by
  obtain ⟨fd, F, FD⟩ := IH.fn .PickMaker_next_count
  exact ⟨fd, [], F, .nil, FunD.bindsN FD (fun _ _ _ _ _ _ us hl => match us, hl with | [_, _], _ => rfl), FD.kp⟩
theorem OKn.c_PickMaker_told_0 (IH : OKn P w K mg base n) (T : Txt K mg) : COk P w K mg base (2 * n) (ad K .PickMaker_told) ps_PickMaker_told [] (W K n .PickMaker_told) := by
  obtain ⟨fd, F, FD⟩ := IH.fn .PickMaker_told
  exact ⟨fd, [], F, .nil, FunD.bindsN FD (fun _ _ _ _ _ _ us hl => match us, hl with | [_, _, _], _ => rfl), FD.kp⟩
theorem OKn.c_UseMaker___init___0 (IH : OKn P w K mg base n) (T : Txt K mg) : COk P w K mg base (2 * n) (ad K .UseMaker___init__) ps_UseMaker___init__ [] (W K n .UseMaker___init__) := by
  obtain ⟨fd, F, FD⟩ := IH.fn .UseMaker___init__
  exact ⟨fd, [], F, .nil, FunD.bindsN FD (fun _ _ _ _ _ _ us hl => match us, hl with | [_, _, _], _ => rfl), FD.kp⟩
theorem OKn.c_UseMaker_next_count_0 (IH : OKn P w K mg base n) (T : Txt K mg) : COk P w K mg base (2 * n) (ad K .UseMaker_next_count) ps_UseMaker_next_count [] (W K n .UseMaker_next_count) := by
  obtain ⟨fd, F, FD⟩ := IH.fn .UseMaker_next_count
  exact ⟨fd, [], F, .nil, FunD.bindsN FD (fun _ _ _ _ _ _ us hl => match us, hl with | [_, _], _ => rfl), FD.kp⟩
theorem OKn.c_UseMaker_told_0 (IH : OKn P w K mg base n) (T : Txt K mg) : COk P w K mg base (2 * n) (ad K .UseMaker_told) ps_UseMaker_told [] (W K n .UseMaker_told) := by
  obtain ⟨fd, F, FD⟩ := IH.fn .UseMaker_told
  exact ⟨fd, [], F, .nil, FunD.bindsN FD (fun _ _ _ _ _ _ us hl => match us, hl with | [_, _, _], _ => rfl), FD.kp⟩
theorem OKn.c_maker_of_0 (IH : OKn P w K mg base n) (T : Txt K mg) : COk P w K mg base (2 * n) (ad K .maker_of) ps_maker_of [] (W K n .maker_of) := by
  obtain ⟨fd, F, FD⟩ := IH.fn .maker_of
  exact ⟨fd, [], F, .nil, FunD.bindsN FD (fun _ _ _ _ _ _ us hl => match us, hl with | [_, _], _ => rfl), FD.kp⟩
theorem OKn.c_Tables___init___0 (IH : OKn P w K mg base n) (T : Txt K mg) : COk P w K mg base (2 * n) (ad K .Tables___init__) ps_Tables___init__ [] (W K n .Tables___init__) := by
  obtain ⟨fd, F, FD⟩ := IH.fn .Tables___init__
  exact ⟨fd, [], F, .nil, FunD.bindsN FD (fun _ _ _ _ _ _ us hl => match us, hl with | [_, _, _], _ => rfl), FD.kp⟩
theorem OKn.c_Tables_grow_to_0 (IH : OKn P w K mg base n) (T : Txt K mg) : COk P w K mg base (2 * n) (ad K .Tables_grow_to) ps_Tables_grow_to [] (W K n .Tables_grow_to) := by
  obtain ⟨fd, F, FD⟩ := IH.fn .Tables_grow_to
  exact ⟨fd, [], F, .nil, FunD.bindsN FD (fun _ _ _ _ _ _ us hl => match us, hl with | [_, _], _ => rfl), FD.kp⟩
theorem OKn.c_Tables_counts_at_0 (IH : OKn P w K mg base n) (T : Txt K mg) : COk P w K mg base (2 * n) (ad K .Tables_counts_at) ps_Tables_counts_at [] (W K n .Tables_counts_at) := by
  obtain ⟨fd, F, FD⟩ := IH.fn .Tables_counts_at
  exact ⟨fd, [], F, .nil, FunD.bindsN FD (fun _ _ _ _ _ _ us hl => match us, hl with | [_, _], _ => rfl), FD.kp⟩
theorem OKn.c_Tables_told_0 (IH : OKn P w K mg base n) (T : Txt K mg) : COk P w K mg base (2 * n) (ad K .Tables_told) ps_Tables_told [] (W K n .Tables_told) := by
  obtain ⟨fd, F, FD⟩ := IH.fn .Tables_told
  exact ⟨fd, [], F, .nil, FunD.bindsN FD (fun _ _ _ _ _ _ us hl => match us, hl with | [_, _, _], _ => rfl), FD.kp⟩
theorem OKn.c_all_values_0 (IH : OKn P w K mg base n) (T : Txt K mg) : COk P w K mg base (2 * n) (ad K .all_values) ps_all_values [] (W K n .all_values) := by
  obtain ⟨fd, F, FD⟩ := IH.fn .all_values
  obtain ⟨ds, hv, hb⟩ := FunD.binds1 (ps := ps_all_values) FD 4 1 (by intro h; cases h) (by rfl) (fun _ _ _ _ _ _ _ us its h1 h2 => match us, its, h1, h2 with | [_, _, _, _], [_], _, _ => ⟨_, rfl, rfl⟩)
  exact ⟨fd, ds, F, hv, hb, FD.kp⟩
theorem OKn.c_all_values_1 (IH : OKn P w K mg base n) (T : Txt K mg) : COk P w K mg base (2 * n) (ad K .all_values) ps_all_values [.int 400] (W K n .all_values) := by
  obtain ⟨fd, F, FD⟩ := IH.fn .all_values
  obtain ⟨ds, hv, hb⟩ := FunD.binds1 (ps := ps_all_values) FD 3 0 (by intro h; cases h) (by rfl) (fun _ _ _ _ _ _ _ us its h1 h2 => match us, its, h1, h2 with | [_, _, _], [_], _, _ => ⟨_, rfl, rfl⟩)
  exact ⟨fd, ds, F, hv, hb, FD.kp⟩
theorem OKn.c__law_cell_at_0 (IH : OKn P w K mg base n) (T : Txt K mg) : COk P w K mg base (2 * n) (ad K ._law_cell_at) ps__law_cell_at [] (W K n ._law_cell_at) := by
  obtain ⟨fd, F, FD⟩ := IH.fn ._law_cell_at
  exact ⟨fd, [], F, .nil, FunD.bindsN FD (fun _ _ _ _ _ _ us hl => match us, hl with | [_, _], _ => rfl), FD.kp⟩
theorem OKn.c__law_name_0 (IH : OKn P w K mg base n) (T : Txt K mg) : COk P w K mg base (2 * n) (ad K ._law_name) ps__law_name [] (W K n ._law_name) := by
  obtain ⟨fd, F, FD⟩ := IH.fn ._law_name
  exact ⟨fd, [], F, .nil, FunD.bindsN FD (fun _ _ _ _ _ _ us hl => match us, hl with | [_, _], _ => rfl), FD.kp⟩
theorem OKn.c__law_texts_0 (IH : OKn P w K mg base n) (T : Txt K mg) : COk P w K mg base (2 * n) (ad K ._law_texts) ps__law_texts [] (W K n ._law_texts) := by
  obtain ⟨fd, F, FD⟩ := IH.fn ._law_texts
  exact ⟨fd, [], F, .nil, FunD.bindsN FD (fun _ _ _ _ _ _ us hl => match us, hl with | [_, _], _ => rfl), FD.kp⟩
theorem OKn.c__law_numbers_0 (IH : OKn P w K mg base n) (T : Txt K mg) : COk P w K mg base (2 * n) (ad K ._law_numbers) ps__law_numbers [] (W K n ._law_numbers) := by
  obtain ⟨fd, F, FD⟩ := IH.fn ._law_numbers
  exact ⟨fd, [], F, .nil, FunD.bindsN FD (fun _ _ _ _ _ _ us hl => match us, hl with | [_, _, _], _ => rfl), FD.kp⟩
theorem OKn.c__law_rows_0 (IH : OKn P w K mg base n) (T : Txt K mg) : COk P w K mg base (2 * n) (ad K ._law_rows) ps__law_rows [] (W K n ._law_rows) := by
  obtain ⟨fd, F, FD⟩ := IH.fn ._law_rows
  exact ⟨fd, [], F, .nil, FunD.bindsN FD (fun _ _ _ _ _ _ us hl => match us, hl with | [_, _, _], _ => rfl), FD.kp⟩
theorem OKn.c__law_lists_0 (IH : OKn P w K mg base n) (T : Txt K mg) : COk P w K mg base (2 * n) (ad K ._law_lists) ps__law_lists [] (W K n ._law_lists) := by
  obtain ⟨fd, F, FD⟩ := IH.fn ._law_lists
  exact ⟨fd, [], F, .nil, FunD.bindsN FD (fun _ _ _ _ _ _ us hl => match us, hl with | [_, _, _], _ => rfl), FD.kp⟩
theorem OKn.c__law_all_0 (IH : OKn P w K mg base n) (T : Txt K mg) : COk P w K mg base (2 * n) (ad K ._law_all) ps__law_all [] (W K n ._law_all) := by
  obtain ⟨fd, F, FD⟩ := IH.fn ._law_all
  exact ⟨fd, [], F, .nil, FunD.bindsN FD (fun _ _ _ _ _ _ us hl => match us, hl with | [_, _, _], _ => rfl), FD.kp⟩
theorem OKn.c__law_leaf_0 (IH : OKn P w K mg base n) (T : Txt K mg) : COk P w K mg base (2 * n) (ad K ._law_leaf) ps__law_leaf [] (W K n ._law_leaf) := by
  obtain ⟨fd, F, FD⟩ := IH.fn ._law_leaf
  exact ⟨fd, [], F, .nil, FunD.bindsN FD (fun _ _ _ _ _ _ us hl => match us, hl with | [_], _ => rfl), FD.kp⟩
theorem OKn.c__law_shape_0 (IH : OKn P w K mg base n) (T : Txt K mg) : COk P w K mg base (2 * n) (ad K ._law_shape) ps__law_shape [] (W K n ._law_shape) := by
  obtain ⟨fd, F, FD⟩ := IH.fn ._law_shape
  exact ⟨fd, [], F, .nil, FunD.bindsN FD (fun _ _ _ _ _ _ us hl => match us, hl with | [_, _, _, _], _ => rfl), FD.kp⟩
theorem OKn.c__law_size_0 (IH : OKn P w K mg base n) (T : Txt K mg) : COk P w K mg base (2 * n) (ad K ._law_size) ps__law_size [] (W K n ._law_size) := by
  obtain ⟨fd, F, FD⟩ := IH.fn ._law_size
  exact ⟨fd, [], F, .nil, FunD.bindsN FD (fun _ _ _ _ _ _ us hl => match us, hl with | [_, _, _, _], _ => rfl), FD.kp⟩
theorem OKn.c__law_same_0 (IH : OKn P w K mg base n) (T : Txt K mg) : COk P w K mg base (2 * n) (ad K ._law_same) ps__law_same [] (W K n ._law_same) := by
  obtain ⟨fd, F, FD⟩ := IH.fn ._law_same
  exact ⟨fd, [], F, .nil, FunD.bindsN FD (fun _ _ _ _ _ _ us hl => match us, hl with | [_, _], _ => rfl), FD.kp⟩
theorem OKn.c__law_rows_same_0 (IH : OKn P w K mg base n) (T : Txt K mg) : COk P w K mg base (2 * n) (ad K ._law_rows_same) ps__law_rows_same [] (W K n ._law_rows_same) := by
  obtain ⟨fd, F, FD⟩ := IH.fn ._law_rows_same
  exact ⟨fd, [], F, .nil, FunD.bindsN FD (fun _ _ _ _ _ _ us hl => match us, hl with | [_, _], _ => rfl), FD.kp⟩
theorem OKn.c__law_lists_in_0 (IH : OKn P w K mg base n) (T : Txt K mg) : COk P w K mg base (2 * n) (ad K ._law_lists_in) ps__law_lists_in [] (W K n ._law_lists_in) := by
  obtain ⟨fd, F, FD⟩ := IH.fn ._law_lists_in
  exact ⟨fd, [], F, .nil, FunD.bindsN FD (fun _ _ _ _ _ _ us hl => match us, hl with | [_], _ => rfl), FD.kp⟩
theorem OKn.c__law_own_0 (IH : OKn P w K mg base n) (T : Txt K mg) : COk P w K mg base (2 * n) (ad K ._law_own) ps__law_own [] (W K n ._law_own) := by
  obtain ⟨fd, F, FD⟩ := IH.fn ._law_own
  exact ⟨fd, [], F, .nil, FunD.bindsN FD (fun _ _ _ _ _ _ us hl => match us, hl with | [_], _ => rfl), FD.kp⟩
theorem OKn.m_grow (IH : OKn P w K mg base n) (T : Txt K mg) : MtOk P w K mg base (2 * n) (ca K) md_grow (W K n) "grow" := by
  intro c d hd
  refine ⟨T.cls c, ?_⟩
  cases c
  · cases hd
    have h := He.meth_ok (T.says.2.fact 51 (f := .meth "Maker" "grow"))
    obtain ⟨fd, ds, F, hv, hb, hk⟩ := IH.c_Maker_grow_0 T
    cases hv
    exact ⟨_, fd, _, h, F, hb⟩
  · cases hd
    have h := He.meth_ok (T.says.2.fact 66 (f := .meth "WholeMaker" "grow"))
    have e : He.ma K (He.ga K "WholeMaker") "grow" = He.ma K (He.ga K "Maker") "grow" := of_decide_eq_true (T.exf 1)
    rw [e] at h
    obtain ⟨fd, ds, F, hv, hb, hk⟩ := IH.c_Maker_grow_0 T
    cases hv
    exact ⟨_, fd, _, h, F, hb⟩
  · cases hd
    have h := He.meth_ok (T.says.2.fact 81 (f := .meth "TextMaker" "grow"))
    have e : He.ma K (He.ga K "TextMaker") "grow" = He.ma K (He.ga K "Maker") "grow" := of_decide_eq_true (T.exf 2)
    rw [e] at h
    obtain ⟨fd, ds, F, hv, hb, hk⟩ := IH.c_Maker_grow_0 T
    cases hv
    exact ⟨_, fd, _, h, F, hb⟩
  · cases hd
    have h := He.meth_ok (T.says.2.fact 96 (f := .meth "RowMaker" "grow"))
    have e : He.ma K (He.ga K "RowMaker") "grow" = He.ma K (He.ga K "Maker") "grow" := of_decide_eq_true (T.exf 3)
    rw [e] at h
    obtain ⟨fd, ds, F, hv, hb, hk⟩ := IH.c_Maker_grow_0 T
    cases hv
    exact ⟨_, fd, _, h, F, hb⟩
  · cases hd
    have h := He.meth_ok (T.says.2.fact 111 (f := .meth "ManyMaker" "grow"))
    have e : He.ma K (He.ga K "ManyMaker") "grow" = He.ma K (He.ga K "Maker") "grow" := of_decide_eq_true (T.exf 4)
    rw [e] at h
    obtain ⟨fd, ds, F, hv, hb, hk⟩ := IH.c_Maker_grow_0 T
    cases hv
    exact ⟨_, fd, _, h, F, hb⟩
  · cases hd
    have h := He.meth_ok (T.says.2.fact 126 (f := .meth "RisingMaker" "grow"))
    have e : He.ma K (He.ga K "RisingMaker") "grow" = He.ma K (He.ga K "Maker") "grow" := of_decide_eq_true (T.exf 5)
    rw [e] at h
    obtain ⟨fd, ds, F, hv, hb, hk⟩ := IH.c_Maker_grow_0 T
    cases hv
    exact ⟨_, fd, _, h, F, hb⟩
  · cases hd
    have h := He.meth_ok (T.says.2.fact 139 (f := .meth "UnlikeMaker" "grow"))
    have e : He.ma K (He.ga K "UnlikeMaker") "grow" = He.ma K (He.ga K "Maker") "grow" := of_decide_eq_true (T.exf 6)
    rw [e] at h
    obtain ⟨fd, ds, F, hv, hb, hk⟩ := IH.c_Maker_grow_0 T
    cases hv
    exact ⟨_, fd, _, h, F, hb⟩
  · cases hd
    have h := He.meth_ok (T.says.2.fact 152 (f := .meth "AlikeMaker" "grow"))
    have e : He.ma K (He.ga K "AlikeMaker") "grow" = He.ma K (He.ga K "Maker") "grow" := of_decide_eq_true (T.exf 7)
    rw [e] at h
    obtain ⟨fd, ds, F, hv, hb, hk⟩ := IH.c_Maker_grow_0 T
    cases hv
    exact ⟨_, fd, _, h, F, hb⟩
  · cases hd
    have h := He.meth_ok (T.says.2.fact 167 (f := .meth "PickMaker" "grow"))
    have e : He.ma K (He.ga K "PickMaker") "grow" = He.ma K (He.ga K "Maker") "grow" := of_decide_eq_true (T.exf 8)
    rw [e] at h
    obtain ⟨fd, ds, F, hv, hb, hk⟩ := IH.c_Maker_grow_0 T
    cases hv
    exact ⟨_, fd, _, h, F, hb⟩
  · cases hd
    have h := He.meth_ok (T.says.2.fact 182 (f := .meth "UseMaker" "grow"))
    have e : He.ma K (He.ga K "UseMaker") "grow" = He.ma K (He.ga K "Maker") "grow" := of_decide_eq_true (T.exf 9)
    rw [e] at h
    obtain ⟨fd, ds, F, hv, hb, hk⟩ := IH.c_Maker_grow_0 T
    cases hv
    exact ⟨_, fd, _, h, F, hb⟩
  · cases hd
theorem OKn.m_next_count (IH : OKn P w K mg base n) (T : Txt K mg) : MtOk P w K mg base (2 * n) (ca K) md_next_count (W K n) "next_count" := by
  intro c d hd
  refine ⟨T.cls c, ?_⟩
  cases c
  · cases hd
    have h := He.meth_ok (T.says.2.fact 52 (f := .meth "Maker" "next_count"))
    obtain ⟨fd, ds, F, hv, hb, hk⟩ := IH.c_Maker_next_count_0 T
    cases hv
    exact ⟨_, fd, _, h, F, hb⟩
  · cases hd
    have h := He.meth_ok (T.says.2.fact 67 (f := .meth "WholeMaker" "next_count"))
    obtain ⟨fd, ds, F, hv, hb, hk⟩ := IH.c_WholeMaker_next_count_0 T
    cases hv
    exact ⟨_, fd, _, h, F, hb⟩
  · cases hd
    have h := He.meth_ok (T.says.2.fact 82 (f := .meth "TextMaker" "next_count"))
    obtain ⟨fd, ds, F, hv, hb, hk⟩ := IH.c_TextMaker_next_count_0 T
    cases hv
    exact ⟨_, fd, _, h, F, hb⟩
  · cases hd
    have h := He.meth_ok (T.says.2.fact 97 (f := .meth "RowMaker" "next_count"))
    obtain ⟨fd, ds, F, hv, hb, hk⟩ := IH.c_RowMaker_next_count_0 T
    cases hv
    exact ⟨_, fd, _, h, F, hb⟩
  · cases hd
    have h := He.meth_ok (T.says.2.fact 112 (f := .meth "ManyMaker" "next_count"))
    obtain ⟨fd, ds, F, hv, hb, hk⟩ := IH.c_ManyMaker_next_count_0 T
    cases hv
    exact ⟨_, fd, _, h, F, hb⟩
  · cases hd
  · cases hd
  · cases hd
    have h := He.meth_ok (T.says.2.fact 153 (f := .meth "AlikeMaker" "next_count"))
    obtain ⟨fd, ds, F, hv, hb, hk⟩ := IH.c_AlikeMaker_next_count_0 T
    cases hv
    exact ⟨_, fd, _, h, F, hb⟩
  · cases hd
    have h := He.meth_ok (T.says.2.fact 168 (f := .meth "PickMaker" "next_count"))
    obtain ⟨fd, ds, F, hv, hb, hk⟩ := IH.c_PickMaker_next_count_0 T
    cases hv
    exact ⟨_, fd, _, h, F, hb⟩
  · cases hd
    have h := He.meth_ok (T.says.2.fact 183 (f := .meth "UseMaker" "next_count"))
    obtain ⟨fd, ds, F, hv, hb, hk⟩ := IH.c_UseMaker_next_count_0 T
    cases hv
    exact ⟨_, fd, _, h, F, hb⟩
  · cases hd
theorem OKn.m_told (IH : OKn P w K mg base n) (T : Txt K mg) : MtOk P w K mg base (2 * n) (ca K) md_told (W K n) "told" := by
  intro c d hd
  refine ⟨T.cls c, ?_⟩
  cases c
  · cases hd
    have h := He.meth_ok (T.says.2.fact 53 (f := .meth "Maker" "told"))
    obtain ⟨fd, ds, F, hv, hb, hk⟩ := IH.c_Maker_told_0 T
    cases hv
    exact ⟨_, fd, _, h, F, hb⟩
  · cases hd
    have h := He.meth_ok (T.says.2.fact 68 (f := .meth "WholeMaker" "told"))
    obtain ⟨fd, ds, F, hv, hb, hk⟩ := IH.c_WholeMaker_told_0 T
    cases hv
    exact ⟨_, fd, _, h, F, hb⟩
  · cases hd
    have h := He.meth_ok (T.says.2.fact 83 (f := .meth "TextMaker" "told"))
    obtain ⟨fd, ds, F, hv, hb, hk⟩ := IH.c_TextMaker_told_0 T
    cases hv
    exact ⟨_, fd, _, h, F, hb⟩
  · cases hd
    have h := He.meth_ok (T.says.2.fact 98 (f := .meth "RowMaker" "told"))
    obtain ⟨fd, ds, F, hv, hb, hk⟩ := IH.c_RowMaker_told_0 T
    cases hv
    exact ⟨_, fd, _, h, F, hb⟩
  · cases hd
    have h := He.meth_ok (T.says.2.fact 113 (f := .meth "ManyMaker" "told"))
    obtain ⟨fd, ds, F, hv, hb, hk⟩ := IH.c_ManyMaker_told_0 T
    cases hv
    exact ⟨_, fd, _, h, F, hb⟩
  · cases hd
  · cases hd
  · cases hd
    have h := He.meth_ok (T.says.2.fact 154 (f := .meth "AlikeMaker" "told"))
    obtain ⟨fd, ds, F, hv, hb, hk⟩ := IH.c_AlikeMaker_told_0 T
    cases hv
    exact ⟨_, fd, _, h, F, hb⟩
  · cases hd
    have h := He.meth_ok (T.says.2.fact 169 (f := .meth "PickMaker" "told"))
    obtain ⟨fd, ds, F, hv, hb, hk⟩ := IH.c_PickMaker_told_0 T
    cases hv
    exact ⟨_, fd, _, h, F, hb⟩
  · cases hd
    have h := He.meth_ok (T.says.2.fact 184 (f := .meth "UseMaker" "told"))
    obtain ⟨fd, ds, F, hv, hb, hk⟩ := IH.c_UseMaker_told_0 T
    cases hv
    exact ⟨_, fd, _, h, F, hb⟩
  · cases hd
    have h := He.meth_ok (T.says.2.fact 197 (f := .meth "Tables" "told"))
    obtain ⟨fd, ds, F, hv, hb, hk⟩ := IH.c_Tables_told_0 T
    cases hv
    exact ⟨_, fd, _, h, F, hb⟩
theorem OKn.m_grow_to (IH : OKn P w K mg base n) (T : Txt K mg) : MtOk P w K mg base (2 * n) (ca K) md_grow_to (W K n) "grow_to" := by
  intro c d hd
  refine ⟨T.cls c, ?_⟩
  cases c
  · cases hd
  · cases hd
  · cases hd
  · cases hd
  · cases hd
  · cases hd
  · cases hd
  · cases hd
  · cases hd
  · cases hd
  · cases hd
    have h := He.meth_ok (T.says.2.fact 198 (f := .meth "Tables" "grow_to"))
    obtain ⟨fd, ds, F, hv, hb, hk⟩ := IH.c_Tables_grow_to_0 T
    cases hv
    exact ⟨_, fd, _, h, F, hb⟩
theorem OKn.m_counts_at (IH : OKn P w K mg base n) (T : Txt K mg) : MtOk P w K mg base (2 * n) (ca K) md_counts_at (W K n) "counts_at" := by
  intro c d hd
  refine ⟨T.cls c, ?_⟩
  cases c
  · cases hd
  · cases hd
  · cases hd
  · cases hd
  · cases hd
  · cases hd
  · cases hd
  · cases hd
  · cases hd
  · cases hd
  · cases hd
    have h := He.meth_ok (T.says.2.fact 199 (f := .meth "Tables" "counts_at"))
    obtain ⟨fd, ds, F, hv, hb, hk⟩ := IH.c_Tables_counts_at_0 T
    cases hv
    exact ⟨_, fd, _, h, F, hb⟩
end
end Pk
set_option Elab.async false
set_option linter.all false
set_option maxRecDepth 100000
set_option maxHeartbeats 4000000
namespace Pk
open PySem PySem.Spec PyProof.Rows L2 Cw
section
variable {P : Program} {w : World} {K : PySem.W.Frag} {mg : Str → Option Value} {base : Heap} {n : Nat} {cdv : Value} {A : Around} {outer : List Env} {s : Shared} {H : Hp} {E : XK}
theorem sc_first_taken : FnScope nm_first_taken ps_first_taken (defScope st_first_taken) := ⟨rfl, rfl, rfl, by decide +kernel, rfl, by decide +kernel, by decide +kernel⟩
theorem d_first_taken (T : Txt K mg) (IH : OKn P w K mg base n) (hr : Room (2 * n + 1) (cx P w K mg base .first_taken cdv A outer s H E).A) : PSs (cx P w K mg base .first_taken cdv A outer s H E) (dd .first_taken).body (t_first_taken K (W K n)) := by
  have hr0 : Room (2 * n) (cx P w K mg base .first_taken cdv A outer s H E).A := hr.mono (by omega)
  have hr1 := hr
  exact (pss_cons (ps_set (i := 4) sc_first_taken.nd rfl (Or.inl rfl) pe_int)
    (pss_cons (ps_while PassesOwn.never (pt_cmpR op_geU (pv 3) (pe_op op_mulU (pe_ix ix_U (pv 0) (pv 4) (fun _ _ => rfl)) (pe_ix ix_U (pv 1) (pe_op op_subU (pv 2) (pv 4)) (fun _ _ => rfl))) (nomark _)) (pss_cons (ps_aug (i := 3) sc_first_taken.nd rfl (Or.inl rfl) (pe_op op_mulU (pe_ix ix_U (pv 0) (pv 4) (fun _ _ => rfl)) (pe_ix ix_U (pv 1) (pe_op op_subU (pv 2) (pv 4)) (fun _ _ => rfl))) ip_subU)
    (pss_one (ps_aug (i := 4) sc_first_taken.nd rfl (Or.inl rfl) pe_int ip_addU))))
    (pss_cons (ps_asg (pe_callB call_divmodU (by rfl) (T.free (x := "divmod") 0) (by decide +kernel) (pa_cons (pv 3) (pa_cons (pe_ix ix_U (pv 1) (pe_op op_subU (pv 2) (pv 4)) (fun _ _ => rfl)) pa_nil))) (pg_tup rfl (pgs_cons (pg_name (i := 5) sc_first_taken.nd rfl (Or.inl rfl)) (pgs_cons (pg_name (i := 6) sc_first_taken.nd rfl (Or.inl rfl)) pgs_nil))))
    (pss_one (ps_ret (pe_tup (pa_cons (pv 4) (pa_cons (pv 5) (pa_cons (pv 6) pa_nil)))))))))
theorem sc_Maker___init__ : FnScope nm_Maker___init__ ps_Maker___init__ (defScope st_Maker___init__) := ⟨rfl, rfl, rfl, by decide +kernel, rfl, by decide +kernel, by decide +kernel⟩
theorem d_Maker___init__ (T : Txt K mg) (IH : OKn P w K mg base n) (hr : Room (2 * n + 1) (cx P w K mg base .Maker___init__ cdv A outer s H E).A) : PSs (cx P w K mg base .Maker___init__ cdv A outer s H E) (dd .Maker___init__).body (t_Maker___init__ K (W K n)) := by
  have hr0 : Room (2 * n) (cx P w K mg base .Maker___init__ cdv A outer s H E).A := hr.mono (by omega)
  have hr1 := hr
  exact (pss_cons (ps_csto T.cls (T.noat_within) (pv 0) (pv 1))
    (pss_one (ps_csto T.cls (T.noat_counts) (pv 0) (pe_lst pa_nil))))
theorem sc_Maker_grow : FnScope nm_Maker_grow ps_Maker_grow (defScope st_Maker_grow) := ⟨rfl, rfl, rfl, by decide +kernel, rfl, by decide +kernel, by decide +kernel⟩
theorem d_Maker_grow (T : Txt K mg) (IH : OKn P w K mg base n) (hr : Room (2 * n + 1) (cx P w K mg base .Maker_grow cdv A outer s H E).A) : PSs (cx P w K mg base .Maker_grow cdv A outer s H E) (dd .Maker_grow).body (t_Maker_grow K (W K n)) := by
  have hr0 : Room (2 * n) (cx P w K mg base .Maker_grow cdv A outer s H E).A := hr.mono (by omega)
  have hr1 := hr
  exact (pss_cons (ps_for PassesOwn.never rfl (pi_any (pe_cfld T.cls (T.noat_within) (pv 0))) (pg_name (i := 1) sc_Maker_grow.nd rfl (Or.inl rfl)) (pss_one (ps_expr (pe_cmethod0 (IH.m_grow T) hr0 (pv 1)))))
    (pss_one (ps_expr (pe_bm PySem.F.plainAttrs_list PySem.F.slot_list_append PySem.F.type_list_append mt_append (pe_cfld T.cls (T.noat_counts) (pv 0)) (pa_cons (pe_cmethod (IH.m_next_count T) hr0 (pv 0) (pa_cons (pe_callB call_lenU (by rfl) (T.free (x := "len") 1) (by decide +kernel) (pa_cons (pe_cfld T.cls (T.noat_counts) (pv 0)) pa_nil)) pa_nil)) pa_nil)))))
theorem sc_Maker_next_count : FnScope nm_Maker_next_count ps_Maker_next_count (defScope st_Maker_next_count) := ⟨rfl, rfl, rfl, by decide +kernel, rfl, by decide +kernel, by decide +kernel⟩
theorem d_Maker_next_count (T : Txt K mg) (IH : OKn P w K mg base n) (hr : Room (2 * n + 1) (cx P w K mg base .Maker_next_count cdv A outer s H E).A) : PSs (cx P w K mg base .Maker_next_count cdv A outer s H E) (dd .Maker_next_count).body (t_Maker_next_count K (W K n)) := by
  have hr0 : Room (2 * n) (cx P w K mg base .Maker_next_count cdv A outer s H E).A := hr.mono (by omega)
  have hr1 := hr
  exact (pss_one (ps_ret pe_int))
theorem sc_Maker_told : FnScope nm_Maker_told ps_Maker_told (defScope st_Maker_told) := ⟨rfl, rfl, rfl, by decide +kernel, rfl, by decide +kernel, by decide +kernel⟩
theorem d_Maker_told (T : Txt K mg) (IH : OKn P w K mg base n) (hr : Room (2 * n + 1) (cx P w K mg base .Maker_told cdv A outer s H E).A) : PSs (cx P w K mg base .Maker_told cdv A outer s H E) (dd .Maker_told).body (t_Maker_told K (W K n)) := by
  have hr0 : Room (2 * n) (cx P w K mg base .Maker_told cdv A outer s H E).A := hr.mono (by omega)
  have hr1 := hr
  exact (pss_one (ps_ret pe_non))
theorem sc_WholeMaker___init__ : FnScope nm_WholeMaker___init__ ps_WholeMaker___init__ (defScope st_WholeMaker___init__) := ⟨rfl, rfl, rfl, by decide +kernel, rfl, by decide +kernel, by decide +kernel⟩
theorem d_WholeMaker___init__ (T : Txt K mg) (IH : OKn P w K mg base n) (hr : Room (2 * n + 1) (cx P w K mg base .WholeMaker___init__ cdv A outer s H E).A) : PSs (cx P w K mg base .WholeMaker___init__ cdv A outer s H E) (dd .WholeMaker___init__).body (t_WholeMaker___init__ K (W K n)) := by
  have hr0 : Room (2 * n) (cx P w K mg base .WholeMaker___init__ cdv A outer s H E).A := hr.mono (by omega)
  have hr1 := hr
  exact (pss_cons (ps_expr (pe_ccfun (IH.c_Maker___init___0 T) hr0 (by rfl) (T.glo (x := "Maker") 2) (T.cf_Maker___init__) (pa_cons (pv 0) (pa_cons (pe_lst pa_nil) pa_nil))))
    (pss_cons (ps_csto T.cls (T.noat_low) (pv 0) (pv 1))
    (pss_one (ps_csto T.cls (T.noat_span) (pv 0) (pe_op op_subU (pv 2) (pv 1))))))
theorem sc_WholeMaker_next_count : FnScope nm_WholeMaker_next_count ps_WholeMaker_next_count (defScope st_WholeMaker_next_count) := ⟨rfl, rfl, rfl, by decide +kernel, rfl, by decide +kernel, by decide +kernel⟩
theorem d_WholeMaker_next_count (T : Txt K mg) (IH : OKn P w K mg base n) (hr : Room (2 * n + 1) (cx P w K mg base .WholeMaker_next_count cdv A outer s H E).A) : PSs (cx P w K mg base .WholeMaker_next_count cdv A outer s H E) (dd .WholeMaker_next_count).body (t_WholeMaker_next_count K (W K n)) := by
  have hr0 : Room (2 * n) (cx P w K mg base .WholeMaker_next_count cdv A outer s H E).A := hr.mono (by omega)
  have hr1 := hr
  exact (pss_cons (ps_if (pt_cmpR (op_eqU hr.units) (pv 1) pe_int (nomark _)) (pss_one (ps_ret pe_int)) pss_nil)
    (pss_cons (ps_set (i := 2) sc_WholeMaker_next_count.nd rfl (Or.inl rfl) (pe_op op_shlU pe_int (pe_op op_subU (pv 1) pe_int)))
    (pss_one (ps_ret (pe_callB (call_max2U rfl) (by rfl) (T.free (x := "max") 4) (by decide +kernel) (pa_cons pe_int (pa_cons (pe_op op_addU (pe_op op_subU (pe_callB (call_min2U rfl) (by rfl) (T.free (x := "min") 3) (by decide +kernel) (pa_cons (pe_cfld T.cls (T.noat_span) (pv 0)) (pa_cons (pe_op op_subU (pe_op op_mulU pe_int (pv 2)) pe_int) pa_nil))) (pv 2)) pe_int) pa_nil)))))))
theorem sc_WholeMaker_told : FnScope nm_WholeMaker_told ps_WholeMaker_told (defScope st_WholeMaker_told) := ⟨rfl, rfl, rfl, by decide +kernel, rfl, by decide +kernel, by decide +kernel⟩
theorem d_WholeMaker_told (T : Txt K mg) (IH : OKn P w K mg base n) (hr : Room (2 * n + 1) (cx P w K mg base .WholeMaker_told cdv A outer s H E).A) : PSs (cx P w K mg base .WholeMaker_told cdv A outer s H E) (dd .WholeMaker_told).body (t_WholeMaker_told K (W K n)) := by
  have hr0 : Room (2 * n) (cx P w K mg base .WholeMaker_told cdv A outer s H E).A := hr.mono (by omega)
  have hr1 := hr
  exact (pss_cons (ps_if (pt_cmpR (op_eqU hr.units) (pv 1) pe_int (nomark _)) (pss_one (ps_ret (pe_cfld T.cls (T.noat_low) (pv 0)))) pss_nil)
    (pss_one (ps_ret (pe_op op_addU (pe_op op_addU (pe_cfld T.cls (T.noat_low) (pv 0)) (pe_op op_shlU pe_int (pe_op op_subU (pv 1) pe_int))) (pv 2)))))
end
end Pk
set_option Elab.async false
set_option linter.all false
set_option maxRecDepth 100000
set_option maxHeartbeats 4000000
namespace Pk
open PySem PySem.Spec PyProof.Rows L2 Cw
section
variable {P : Program} {w : World} {K : PySem.W.Frag} {mg : Str → Option Value} {base : Heap} {n : Nat} {cdv : Value} {A : Around} {outer : List Env} {s : Shared} {H : Hp} {E : XK}
theorem sc_TextMaker___init__ : FnScope nm_TextMaker___init__ ps_TextMaker___init__ (defScope st_TextMaker___init__) := ⟨rfl, rfl, rfl, by decide +kernel, rfl, by decide +kernel, by decide +kernel⟩
theorem d_TextMaker___init__ (T : Txt K mg) (IH : OKn P w K mg base n) (hr : Room (2 * n + 1) (cx P w K mg base .TextMaker___init__ cdv A outer s H E).A) : PSs (cx P w K mg base .TextMaker___init__ cdv A outer s H E) (dd .TextMaker___init__).body (t_TextMaker___init__ K (W K n)) := by
  have hr0 : Room (2 * n) (cx P w K mg base .TextMaker___init__ cdv A outer s H E).A := hr.mono (by omega)
  have hr1 := hr
  exact (pss_cons (ps_expr (pe_ccfun (IH.c_Maker___init___0 T) hr0 (by rfl) (T.glo (x := "Maker") 2) (T.cf_Maker___init__) (pa_cons (pv 0) (pa_cons (pe_lst pa_nil) pa_nil))))
    (pss_one (ps_csto T.cls (T.noat_signs) (pv 0) (pv 1))))
theorem sc_TextMaker_next_count : FnScope nm_TextMaker_next_count ps_TextMaker_next_count (defScope st_TextMaker_next_count) := ⟨rfl, rfl, rfl, by decide +kernel, rfl, by decide +kernel, by decide +kernel⟩
theorem d_TextMaker_next_count (T : Txt K mg) (IH : OKn P w K mg base n) (hr : Room (2 * n + 1) (cx P w K mg base .TextMaker_next_count cdv A outer s H E).A) : PSs (cx P w K mg base .TextMaker_next_count cdv A outer s H E) (dd .TextMaker_next_count).body (t_TextMaker_next_count K (W K n)) := by
  have hr0 : Room (2 * n) (cx P w K mg base .TextMaker_next_count cdv A outer s H E).A := hr.mono (by omega)
  have hr1 := hr
  exact (pss_cons (ps_if (pt_cmpR (op_eqU hr.units) (pv 1) pe_int (nomark _)) (pss_one (ps_ret pe_int)) pss_nil)
    (pss_one (ps_ret (pe_op op_mulU (pe_ix ix_U (pe_cfld T.cls (T.noat_counts) (pv 0)) (pe_op op_subU (pv 1) pe_int) (fun _ _ => rfl)) (pe_callB call_lenU (by rfl) (T.free (x := "len") 1) (by decide +kernel) (pa_cons (pe_cfld T.cls (T.noat_signs) (pv 0)) pa_nil))))))
theorem sc_TextMaker_told : FnScope nm_TextMaker_told ps_TextMaker_told (defScope st_TextMaker_told) := ⟨rfl, rfl, rfl, by decide +kernel, rfl, by decide +kernel, by decide +kernel⟩
theorem d_TextMaker_told (T : Txt K mg) (IH : OKn P w K mg base n) (hr : Room (2 * n + 1) (cx P w K mg base .TextMaker_told cdv A outer s H E).A) : PSs (cx P w K mg base .TextMaker_told cdv A outer s H E) (dd .TextMaker_told).body (t_TextMaker_told K (W K n)) := by
  have hr0 : Room (2 * n) (cx P w K mg base .TextMaker_told cdv A outer s H E).A := hr.mono (by omega)
  have hr1 := hr
  exact (pss_cons (ps_set (i := 3) sc_TextMaker_told.nd rfl (Or.inl rfl) pe_str)
    (pss_cons (ps_for PassesOwn.never rfl (pi_range1 (by rfl) (T.free (x := "range") 5) (pa_cons (pv 1) pa_nil)) (pg_name (i := 4) sc_TextMaker_told.nd rfl (Or.inl rfl)) (pss_cons (ps_asg (pe_callB call_divmodU (by rfl) (T.free (x := "divmod") 0) (by decide +kernel) (pa_cons (pv 2) (pa_cons (pe_callB call_lenU (by rfl) (T.free (x := "len") 1) (by decide +kernel) (pa_cons (pe_cfld T.cls (T.noat_signs) (pv 0)) pa_nil)) pa_nil))) (pg_tup rfl (pgs_cons (pg_name (i := 2) sc_TextMaker_told.nd rfl (Or.inl rfl)) (pgs_cons (pg_name (i := 5) sc_TextMaker_told.nd rfl (Or.inl rfl)) pgs_nil))))
    (pss_one (ps_set (i := 3) sc_TextMaker_told.nd rfl (Or.inl rfl) (pe_op op_addU (pe_ix ix_U (pe_cfld T.cls (T.noat_signs) (pv 0)) (pv 5) (fun _ _ => rfl)) (pv 3))))))
    (pss_one (ps_ret (pv 3)))))
theorem sc_RowMaker___init__ : FnScope nm_RowMaker___init__ ps_RowMaker___init__ (defScope st_RowMaker___init__) := ⟨rfl, rfl, rfl, by decide +kernel, rfl, by decide +kernel, by decide +kernel⟩
theorem d_RowMaker___init__ (T : Txt K mg) (IH : OKn P w K mg base n) (hr : Room (2 * n + 1) (cx P w K mg base .RowMaker___init__ cdv A outer s H E).A) : PSs (cx P w K mg base .RowMaker___init__ cdv A outer s H E) (dd .RowMaker___init__).body (t_RowMaker___init__ K (W K n)) := by
  have hr0 : Room (2 * n) (cx P w K mg base .RowMaker___init__ cdv A outer s H E).A := hr.mono (by omega)
  have hr1 := hr
  exact (pss_cons (ps_expr (pe_ccfun (IH.c_Maker___init___0 T) hr0 (by rfl) (T.glo (x := "Maker") 2) (T.cf_Maker___init__) (pa_cons (pv 0) (pa_cons (pv 1) pa_nil))))
    (pss_one (ps_csto T.cls (T.noat_rests) (pv 0) (pe_lc (own := [("k", 2)]) (g := (gName 2)) (tt := tYes) rfl sc_RowMaker___init__.nd (pi_range1 (by rfl) (T.free (x := "range") 5) (pa_cons (pe_op op_addU (pe_callB call_lenU (by rfl) (T.free (x := "len") 1) (by decide +kernel) (pa_cons (pv 1) pa_nil)) pe_int) pa_nil)) (blkOk_by (by kernel_rfl)) (fun _ _ _ _ _ => (pg_name (i := 2) sc_RowMaker___init__.nd rfl (by first | exact Or.inl rfl | exact Or.inr rfl))) (fun _ _ _ _ _ => pts_nil) (fun _ _ _ _ _ => (pe_lst pa_nil))))))
theorem sc_RowMaker_next_count : FnScope nm_RowMaker_next_count ps_RowMaker_next_count (defScope st_RowMaker_next_count) := ⟨rfl, rfl, rfl, by decide +kernel, rfl, by decide +kernel, by decide +kernel⟩
theorem d_RowMaker_next_count (T : Txt K mg) (IH : OKn P w K mg base n) (hr : Room (2 * n + 1) (cx P w K mg base .RowMaker_next_count cdv A outer s H E).A) : PSs (cx P w K mg base .RowMaker_next_count cdv A outer s H E) (dd .RowMaker_next_count).body (t_RowMaker_next_count K (W K n)) := by
  have hr0 : Room (2 * n) (cx P w K mg base .RowMaker_next_count cdv A outer s H E).A := hr.mono (by omega)
  have hr1 := hr
  exact (pss_cons (ps_set (i := 2) sc_RowMaker_next_count.nd rfl (Or.inl rfl) (pe_callB call_lenU (by rfl) (T.free (x := "len") 1) (by decide +kernel) (pa_cons (pe_cfld T.cls (T.noat_within) (pv 0)) pa_nil)))
    (pss_cons (ps_expr (pe_bm PySem.F.plainAttrs_list PySem.F.slot_list_append PySem.F.type_list_append mt_append (pe_ix ix_U (pe_cfld T.cls (T.noat_rests) (pv 0)) (pv 2) (fun _ _ => rfl)) (pa_cons (pe_callTy call_intU (by rfl) (T.free (x := "int") 6) (by decide +kernel) (pa_cons (pe_cmpR (op_eqU hr.units) (pv 1) pe_int (nomark _)) pa_nil)) pa_nil)))
    (pss_cons (ps_for PassesOwn.never rfl (pi_range3 (by rfl) (T.free (x := "range") 5) (pa_cons (pe_op op_subU (pv 2) pe_int) (pa_cons (pe_un un_negU pe_int) (pa_cons (pe_un un_negU pe_int) pa_nil)))) (pg_name (i := 3) sc_RowMaker_next_count.nd rfl (Or.inl rfl)) (pss_cons (ps_set (i := 4) sc_RowMaker_next_count.nd rfl (Or.inr rfl) (pe_cfld T.cls (T.noat_counts) (pe_ix ix_U (pe_cfld T.cls (T.noat_within) (pv 0)) (pv 3) (fun _ _ => rfl))))
    (pss_cons (ps_set (i := 5) sc_RowMaker_next_count.nd rfl (Or.inr rfl) (pe_ix ix_U (pe_cfld T.cls (T.noat_rests) (pv 0)) (pe_op op_addU (pv 3) pe_int) (fun _ _ => rfl)))
    (pss_one (ps_expr (pe_bm PySem.F.plainAttrs_list PySem.F.slot_list_append PySem.F.type_list_append mt_append (pe_ix ix_U (pe_cfld T.cls (T.noat_rests) (pv 0)) (pv 3) (fun _ _ => rfl)) (pa_cons (pe_callB (call_sumU rfl) (by rfl) (T.free (x := "sum") 7) (by decide +kernel) (pa_cons (pe_lc (own := [("first", 6)]) (g := (gName 6)) (tt := tYes) rfl sc_RowMaker_next_count.nd (pi_range1 (by rfl) (T.free (x := "range") 5) (pa_cons (pe_op op_addU (pv 1) pe_int) pa_nil)) (blkOk_by (by kernel_rfl)) (fun _ _ _ _ _ => (pg_name (i := 6) sc_RowMaker_next_count.nd rfl (by first | exact Or.inl rfl | exact Or.inr rfl))) (fun _ _ _ _ _ => pts_nil) (fun _ _ _ _ _ => (pe_op op_mulU (pe_ix ix_U (pv 4) (pv 6) (fun _ _ => rfl)) (pe_ix ix_U (pv 5) (pe_op op_subU (pv 1) (pv 6)) (fun _ _ => rfl))))) pa_nil)) pa_nil)))))))
    (pss_one (ps_ret (pe_ix ix_U (pe_ix ix_U (pe_cfld T.cls (T.noat_rests) (pv 0)) pe_int (fun _ _ => rfl)) (pv 1) (fun _ _ => rfl)))))))
theorem sc_RowMaker_told : FnScope nm_RowMaker_told ps_RowMaker_told (defScope st_RowMaker_told) := ⟨rfl, rfl, rfl, by decide +kernel, rfl, by decide +kernel, by decide +kernel⟩
theorem d_RowMaker_told (T : Txt K mg) (IH : OKn P w K mg base n) (hr : Room (2 * n + 1) (cx P w K mg base .RowMaker_told cdv A outer s H E).A) : PSs (cx P w K mg base .RowMaker_told cdv A outer s H E) (dd .RowMaker_told).body (t_RowMaker_told K (W K n)) := by
  have hr0 : Room (2 * n) (cx P w K mg base .RowMaker_told cdv A outer s H E).A := hr.mono (by omega)
  have hr1 := hr
  exact (pss_cons (ps_set (i := 3) sc_RowMaker_told.nd rfl (Or.inl rfl) (pe_lst pa_nil))
    (pss_cons (ps_for PassesOwn.never rfl (pi_enum (by rfl) (T.free (x := "enumerate") 8) (pa_cons (pe_cfld T.cls (T.noat_within) (pv 0)) pa_nil)) (pg_tup rfl (pgs_cons (pg_name (i := 4) sc_RowMaker_told.nd rfl (Or.inl rfl)) (pgs_cons (pg_name (i := 5) sc_RowMaker_told.nd rfl (Or.inl rfl)) pgs_nil))) (pss_cons (ps_asg (pe_ccall (IH.c_first_taken_0 T) hr0 rfl (T.glo (x := "first_taken") 9) (pa_cons (pe_cfld T.cls (T.noat_counts) (pv 5)) (pa_cons (pe_ix ix_U (pe_cfld T.cls (T.noat_rests) (pv 0)) (pe_op op_addU (pv 4) pe_int) (fun _ _ => rfl)) (pa_cons (pv 1) (pa_cons (pv 2) pa_nil))))) (pg_tup rfl (pgs_cons (pg_name (i := 6) sc_RowMaker_told.nd rfl (Or.inl rfl)) (pgs_cons (pg_name (i := 7) sc_RowMaker_told.nd rfl (Or.inl rfl)) (pgs_cons (pg_name (i := 2) sc_RowMaker_told.nd rfl (Or.inl rfl)) pgs_nil)))))
    (pss_cons (ps_expr (pe_bm PySem.F.plainAttrs_list PySem.F.slot_list_append PySem.F.type_list_append mt_append (pv 3) (pa_cons (pe_cmethod (IH.m_told T) hr0 (pv 5) (pa_cons (pv 6) (pa_cons (pv 7) pa_nil))) pa_nil)))
    (pss_one (ps_aug (i := 1) sc_RowMaker_told.nd rfl (Or.inl rfl) (pv 6) ip_subU)))))
    (pss_one (ps_ret (pe_callTy call_tupleU (by rfl) (T.free (x := "tuple") 10) (by decide +kernel) (pa_cons (pv 3) pa_nil))))))
theorem sc_ManyMaker_next_count : FnScope nm_ManyMaker_next_count ps_ManyMaker_next_count (defScope st_ManyMaker_next_count) := ⟨rfl, rfl, rfl, by decide +kernel, rfl, by decide +kernel, by decide +kernel⟩
theorem d_ManyMaker_next_count (T : Txt K mg) (IH : OKn P w K mg base n) (hr : Room (2 * n + 1) (cx P w K mg base .ManyMaker_next_count cdv A outer s H E).A) : PSs (cx P w K mg base .ManyMaker_next_count cdv A outer s H E) (dd .ManyMaker_next_count).body (t_ManyMaker_next_count K (W K n)) := by
  have hr0 : Room (2 * n) (cx P w K mg base .ManyMaker_next_count cdv A outer s H E).A := hr.mono (by omega)
  have hr1 := hr
  exact (pss_cons (ps_if (pt_cmpR (op_eqU hr.units) (pv 1) pe_int (nomark _)) (pss_one (ps_ret pe_int)) pss_nil)
    (pss_cons (ps_set (i := 2) sc_ManyMaker_next_count.nd rfl (Or.inr rfl) (pe_cfld T.cls (T.noat_counts) (pe_ix ix_U (pe_cfld T.cls (T.noat_within) (pv 0)) pe_int (fun _ _ => rfl))))
    (pss_one (ps_ret (pe_callB (call_sumU rfl) (by rfl) (T.free (x := "sum") 7) (by decide +kernel) (pa_cons (pe_lc (own := [("first", 3)]) (g := (gName 3)) (tt := tYes) rfl sc_ManyMaker_next_count.nd (pi_range1 (by rfl) (T.free (x := "range") 5) (pa_cons (pv 1) pa_nil)) (blkOk_by (by kernel_rfl)) (fun _ _ _ _ _ => (pg_name (i := 3) sc_ManyMaker_next_count.nd rfl (by first | exact Or.inl rfl | exact Or.inr rfl))) (fun _ _ _ _ _ => pts_nil) (fun _ _ _ _ _ => (pe_op op_mulU (pe_ix ix_U (pv 2) (pv 3) (fun _ _ => rfl)) (pe_ix ix_U (pe_cfld T.cls (T.noat_counts) (pv 0)) (pe_op op_subU (pe_op op_subU (pv 1) pe_int) (pv 3)) (fun _ _ => rfl))))) pa_nil))))))
theorem sc_ManyMaker_told : FnScope nm_ManyMaker_told ps_ManyMaker_told (defScope st_ManyMaker_told) := ⟨rfl, rfl, rfl, by decide +kernel, rfl, by decide +kernel, by decide +kernel⟩
theorem d_ManyMaker_told (T : Txt K mg) (IH : OKn P w K mg base n) (hr : Room (2 * n + 1) (cx P w K mg base .ManyMaker_told cdv A outer s H E).A) : PSs (cx P w K mg base .ManyMaker_told cdv A outer s H E) (dd .ManyMaker_told).body (t_ManyMaker_told K (W K n)) := by
  have hr0 : Room (2 * n) (cx P w K mg base .ManyMaker_told cdv A outer s H E).A := hr.mono (by omega)
  have hr1 := hr
  exact (pss_cons (ps_set (i := 3) sc_ManyMaker_told.nd rfl (Or.inl rfl) (pe_lst pa_nil))
    (pss_cons (ps_while PassesOwn.never (pt_cmpR op_gtU (pv 1) pe_int (nomark _)) (pss_cons (ps_asg (pe_ccall (IH.c_first_taken_0 T) hr0 rfl (T.glo (x := "first_taken") 9) (pa_cons (pe_cfld T.cls (T.noat_counts) (pe_ix ix_U (pe_cfld T.cls (T.noat_within) (pv 0)) pe_int (fun _ _ => rfl))) (pa_cons (pe_cfld T.cls (T.noat_counts) (pv 0)) (pa_cons (pe_op op_subU (pv 1) pe_int) (pa_cons (pv 2) pa_nil))))) (pg_tup rfl (pgs_cons (pg_name (i := 4) sc_ManyMaker_told.nd rfl (Or.inl rfl)) (pgs_cons (pg_name (i := 5) sc_ManyMaker_told.nd rfl (Or.inl rfl)) (pgs_cons (pg_name (i := 2) sc_ManyMaker_told.nd rfl (Or.inl rfl)) pgs_nil)))))
    (pss_cons (ps_expr (pe_bm PySem.F.plainAttrs_list PySem.F.slot_list_append PySem.F.type_list_append mt_append (pv 3) (pa_cons (pe_cmethod (IH.m_told T) hr0 (pe_ix ix_U (pe_cfld T.cls (T.noat_within) (pv 0)) pe_int (fun _ _ => rfl)) (pa_cons (pv 4) (pa_cons (pv 5) pa_nil))) pa_nil)))
    (pss_one (ps_aug (i := 1) sc_ManyMaker_told.nd rfl (Or.inl rfl) (pe_op op_addU pe_int (pv 4)) ip_subU)))))
    (pss_one (ps_ret (pv 3)))))
end
end Pk
set_option Elab.async false
set_option linter.all false
set_option maxRecDepth 100000
set_option maxHeartbeats 4000000
namespace Pk
open PySem PySem.Spec PyProof.Rows L2 Cw
section
variable {P : Program} {w : World} {K : PySem.W.Frag} {mg : Str → Option Value} {base : Heap} {n : Nat} {cdv : Value} {A : Around} {outer : List Env} {s : Shared} {H : Hp} {E : XK}
theorem sc_AlikeMaker___init__ : FnScope nm_AlikeMaker___init__ ps_AlikeMaker___init__ (defScope st_AlikeMaker___init__) := ⟨rfl, rfl, rfl, by decide +kernel, rfl, by decide +kernel, by decide +kernel⟩
theorem d_AlikeMaker___init__ (T : Txt K mg) (IH : OKn P w K mg base n) (hr : Room (2 * n + 1) (cx P w K mg base .AlikeMaker___init__ cdv A outer s H E).A) : PSs (cx P w K mg base .AlikeMaker___init__ cdv A outer s H E) (dd .AlikeMaker___init__).body (t_AlikeMaker___init__ K (W K n)) := by
  have hr0 : Room (2 * n) (cx P w K mg base .AlikeMaker___init__ cdv A outer s H E).A := hr.mono (by omega)
  have hr1 := hr
  exact (pss_cons (ps_expr (pe_ccfun (IH.c_Maker___init___0 T) hr0 (by rfl) (T.glo (x := "Maker") 2) (T.cf_Maker___init__) (pa_cons (pv 0) (pa_cons (pv 1) pa_nil))))
    (pss_one (ps_csto T.cls (T.noat_times) (pv 0) (pv 2))))
theorem sc_AlikeMaker_next_count : FnScope nm_AlikeMaker_next_count ps_AlikeMaker_next_count (defScope st_AlikeMaker_next_count) := ⟨rfl, rfl, rfl, by decide +kernel, rfl, by decide +kernel, by decide +kernel⟩
theorem d_AlikeMaker_next_count (T : Txt K mg) (IH : OKn P w K mg base n) (hr : Room (2 * n + 1) (cx P w K mg base .AlikeMaker_next_count cdv A outer s H E).A) : PSs (cx P w K mg base .AlikeMaker_next_count cdv A outer s H E) (dd .AlikeMaker_next_count).body (t_AlikeMaker_next_count K (W K n)) := by
  have hr0 : Room (2 * n) (cx P w K mg base .AlikeMaker_next_count cdv A outer s H E).A := hr.mono (by omega)
  have hr1 := hr
  exact (pss_cons (ps_if (PW.pt (pw_or (pt_cmpR op_ltU (pv 1) (pe_cfld T.cls (T.noat_times) (pv 0)) (nomark _)) (pw_or1 (pt_cmpR (op_neU hr.units) (pe_op op_modU (pv 1) (pe_cfld T.cls (T.noat_times) (pv 0))) pe_int (nomark _))))) (pss_one (ps_ret pe_int)) pss_nil)
    (pss_one (ps_ret (pe_ix ix_U (pe_cfld T.cls (T.noat_counts) (pe_ix ix_U (pe_cfld T.cls (T.noat_within) (pv 0)) pe_int (fun _ _ => rfl))) (pe_op op_subU (pe_op op_divU (pv 1) (pe_cfld T.cls (T.noat_times) (pv 0))) pe_int) (fun _ _ => rfl)))))
theorem sc_AlikeMaker_told : FnScope nm_AlikeMaker_told ps_AlikeMaker_told (defScope st_AlikeMaker_told) := ⟨rfl, rfl, rfl, by decide +kernel, rfl, by decide +kernel, by decide +kernel⟩
theorem d_AlikeMaker_told (T : Txt K mg) (IH : OKn P w K mg base n) (hr : Room (2 * n + 1) (cx P w K mg base .AlikeMaker_told cdv A outer s H E).A) : PSs (cx P w K mg base .AlikeMaker_told cdv A outer s H E) (dd .AlikeMaker_told).body (t_AlikeMaker_told K (W K n)) := by
  have hr0 : Room (2 * n) (cx P w K mg base .AlikeMaker_told cdv A outer s H E).A := hr.mono (by omega)
  have hr1 := hr
  exact (pss_one (ps_ret (pe_lc (own := [("k", 3)]) (g := (gName 3)) (tt := tYes) rfl sc_AlikeMaker_told.nd (pi_range1 (by rfl) (T.free (x := "range") 5) (pa_cons (pe_cfld T.cls (T.noat_times) (pv 0)) pa_nil)) (blkOk_by (by kernel_rfl)) (fun _ _ _ _ _ => (pg_name (i := 3) sc_AlikeMaker_told.nd rfl (by first | exact Or.inl rfl | exact Or.inr rfl))) (fun _ _ _ _ _ => pts_nil) (fun _ _ _ _ _ => (pe_cmethod (IH.m_told T) hr0 (pe_ix ix_U (pe_cfld T.cls (T.noat_within) (pv 0)) pe_int (fun _ _ => rfl)) (pa_cons (pe_op op_subU (pe_op op_divU (pv 1) (pe_cfld T.cls (T.noat_times) (pv 0))) pe_int) (pa_cons (pv 2) pa_nil)))))))
theorem sc_PickMaker___init__ : FnScope nm_PickMaker___init__ ps_PickMaker___init__ (defScope st_PickMaker___init__) := ⟨rfl, rfl, rfl, by decide +kernel, rfl, by decide +kernel, by decide +kernel⟩
theorem d_PickMaker___init__ (T : Txt K mg) (IH : OKn P w K mg base n) (hr : Room (2 * n + 1) (cx P w K mg base .PickMaker___init__ cdv A outer s H E).A) : PSs (cx P w K mg base .PickMaker___init__ cdv A outer s H E) (dd .PickMaker___init__).body (t_PickMaker___init__ K (W K n)) := by
  have hr0 : Room (2 * n) (cx P w K mg base .PickMaker___init__ cdv A outer s H E).A := hr.mono (by omega)
  have hr1 := hr
  exact (pss_cons (ps_expr (pe_ccfun (IH.c_Maker___init___0 T) hr0 (by rfl) (T.glo (x := "Maker") 2) (T.cf_Maker___init__) (pa_cons (pv 0) (pa_cons (pv 1) pa_nil))))
    (pss_one (ps_csto T.cls (T.noat_marks) (pv 0) (pv 2))))
theorem sc_PickMaker_next_count : FnScope nm_PickMaker_next_count ps_PickMaker_next_count (defScope st_PickMaker_next_count) := ⟨rfl, rfl, rfl, by decide +kernel, rfl, by decide +kernel, by decide +kernel⟩
theorem d_PickMaker_next_count (T : Txt K mg) (IH : OKn P w K mg base n) (hr : Room (2 * n + 1) (cx P w K mg base .PickMaker_next_count cdv A outer s H E).A) : PSs (cx P w K mg base .PickMaker_next_count cdv A outer s H E) (dd .PickMaker_next_count).body (t_PickMaker_next_count K (W K n)) := by
  have hr0 : Room (2 * n) (cx P w K mg base .PickMaker_next_count cdv A outer s H E).A := hr.mono (by omega)
  have hr1 := hr
  exact (pss_one (ps_ret (pe_callB (call_sumU rfl) (by rfl) (T.free (x := "sum") 7) (by decide +kernel) (pa_cons (pe_lc (own := [("maker", 2)]) (g := (gName 2)) (tt := tYes) rfl sc_PickMaker_next_count.nd (pi_any (pe_cfld T.cls (T.noat_within) (pv 0))) (blkOk_by (by kernel_rfl)) (fun _ _ _ _ _ => (pg_name (i := 2) sc_PickMaker_next_count.nd rfl (by first | exact Or.inl rfl | exact Or.inr rfl))) (fun _ _ _ _ _ => pts_nil) (fun _ _ _ _ _ => (pe_ix ix_U (pe_cfld T.cls (T.noat_counts) (pv 2)) (pv 1) (fun _ _ => rfl)))) pa_nil))))
theorem sc_PickMaker_told : FnScope nm_PickMaker_told ps_PickMaker_told (defScope st_PickMaker_told) := ⟨rfl, rfl, rfl, by decide +kernel, rfl, by decide +kernel, by decide +kernel⟩
theorem d_PickMaker_told (T : Txt K mg) (IH : OKn P w K mg base n) (hr : Room (2 * n + 1) (cx P w K mg base .PickMaker_told cdv A outer s H E).A) : PSs (cx P w K mg base .PickMaker_told cdv A outer s H E) (dd .PickMaker_told).body (t_PickMaker_told K (W K n)) := by
  have hr0 : Room (2 * n) (cx P w K mg base .PickMaker_told cdv A outer s H E).A := hr.mono (by omega)
  have hr1 := hr
  exact (pss_cons (ps_set (i := 3) sc_PickMaker_told.nd rfl (Or.inl rfl) pe_int)
    (pss_cons (ps_while PassesOwn.never (pt_cmpR op_geU (pv 2) (pe_ix ix_U (pe_cfld T.cls (T.noat_counts) (pe_ix ix_U (pe_cfld T.cls (T.noat_within) (pv 0)) (pv 3) (fun _ _ => rfl))) (pv 1) (fun _ _ => rfl)) (nomark _)) (pss_cons (ps_aug (i := 2) sc_PickMaker_told.nd rfl (Or.inl rfl) (pe_ix ix_U (pe_cfld T.cls (T.noat_counts) (pe_ix ix_U (pe_cfld T.cls (T.noat_within) (pv 0)) (pv 3) (fun _ _ => rfl))) (pv 1) (fun _ _ => rfl)) ip_subU)
    (pss_one (ps_aug (i := 3) sc_PickMaker_told.nd rfl (Or.inl rfl) pe_int ip_addU))))
    (pss_one (ps_ret (pe_tup (pa_cons (pe_ix ix_U (pe_cfld T.cls (T.noat_marks) (pv 0)) (pv 3) (fun _ _ => rfl)) (pa_cons (pe_cmethod (IH.m_told T) hr0 (pe_ix ix_U (pe_cfld T.cls (T.noat_within) (pv 0)) (pv 3) (fun _ _ => rfl)) (pa_cons (pv 1) (pa_cons (pv 2) pa_nil))) pa_nil)))))))
theorem sc_UseMaker___init__ : FnScope nm_UseMaker___init__ ps_UseMaker___init__ (defScope st_UseMaker___init__) := ⟨rfl, rfl, rfl, by decide +kernel, rfl, by decide +kernel, by decide +kernel⟩
theorem d_UseMaker___init__ (T : Txt K mg) (IH : OKn P w K mg base n) (hr : Room (2 * n + 1) (cx P w K mg base .UseMaker___init__ cdv A outer s H E).A) : PSs (cx P w K mg base .UseMaker___init__ cdv A outer s H E) (dd .UseMaker___init__).body (t_UseMaker___init__ K (W K n)) := by
  have hr0 : Room (2 * n) (cx P w K mg base .UseMaker___init__ cdv A outer s H E).A := hr.mono (by omega)
  have hr1 := hr
  exact (pss_cons (ps_expr (pe_ccfun (IH.c_Maker___init___0 T) hr0 (by rfl) (T.glo (x := "Maker") 2) (T.cf_Maker___init__) (pa_cons (pv 0) (pa_cons (pe_lst pa_nil) pa_nil))))
    (pss_cons (ps_csto T.cls (T.noat_named) (pv 0) (pv 1))
    (pss_one (ps_csto T.cls (T.noat_name) (pv 0) (pv 2)))))
theorem sc_UseMaker_next_count : FnScope nm_UseMaker_next_count ps_UseMaker_next_count (defScope st_UseMaker_next_count) := ⟨rfl, rfl, rfl, by decide +kernel, rfl, by decide +kernel, by decide +kernel⟩
theorem d_UseMaker_next_count (T : Txt K mg) (IH : OKn P w K mg base n) (hr : Room (2 * n + 1) (cx P w K mg base .UseMaker_next_count cdv A outer s H E).A) : PSs (cx P w K mg base .UseMaker_next_count cdv A outer s H E) (dd .UseMaker_next_count).body (t_UseMaker_next_count K (W K n)) := by
  have hr0 : Room (2 * n) (cx P w K mg base .UseMaker_next_count cdv A outer s H E).A := hr.mono (by omega)
  have hr1 := hr
  exact (pss_cons (ps_if (pt_cmpR (op_eqU hr.units) (pv 1) pe_int (nomark _)) (pss_one (ps_ret pe_int)) pss_nil)
    (pss_one (ps_ret (pe_ix ix_U (pe_cfld T.cls (T.noat_counts) (pe_dget (hu_of hr) (pe_cfld T.cls (T.noat_named) (pv 0)) (pe_cfld T.cls (T.noat_name) (pv 0)) (fun _ _ => rfl))) (pe_op op_subU (pv 1) pe_int) (fun _ _ => rfl)))))
end
end Pk
set_option Elab.async false
set_option linter.all false
set_option maxRecDepth 100000
set_option maxHeartbeats 4000000
namespace Pk
open PySem PySem.Spec PyProof.Rows L2 Cw
section
variable {P : Program} {w : World} {K : PySem.W.Frag} {mg : Str → Option Value} {base : Heap} {n : Nat} {cdv : Value} {A : Around} {outer : List Env} {s : Shared} {H : Hp} {E : XK}
theorem sc_UseMaker_told : FnScope nm_UseMaker_told ps_UseMaker_told (defScope st_UseMaker_told) := ⟨rfl, rfl, rfl, by decide +kernel, rfl, by decide +kernel, by decide +kernel⟩
theorem d_UseMaker_told (T : Txt K mg) (IH : OKn P w K mg base n) (hr : Room (2 * n + 1) (cx P w K mg base .UseMaker_told cdv A outer s H E).A) : PSs (cx P w K mg base .UseMaker_told cdv A outer s H E) (dd .UseMaker_told).body (t_UseMaker_told K (W K n)) := by
  have hr0 : Room (2 * n) (cx P w K mg base .UseMaker_told cdv A outer s H E).A := hr.mono (by omega)
  have hr1 := hr
  exact (pss_one (ps_ret (pe_cmethod (IH.m_told T) hr0 (pe_dget (hu_of hr) (pe_cfld T.cls (T.noat_named) (pv 0)) (pe_cfld T.cls (T.noat_name) (pv 0)) (fun _ _ => rfl)) (pa_cons (pe_op op_subU (pv 1) pe_int) (pa_cons (pv 2) pa_nil)))))
theorem sc_maker_of : FnScope nm_maker_of ps_maker_of (defScope st_maker_of) := ⟨rfl, rfl, rfl, by decide +kernel, rfl, by decide +kernel, by decide +kernel⟩
theorem d_maker_of (T : Txt K mg) (IH : OKn P w K mg base n) (hr : Room (2 * n + 1) (cx P w K mg base .maker_of cdv A outer s H E).A) : PSs (cx P w K mg base .maker_of cdv A outer s H E) (dd .maker_of).body (t_maker_of K (W K n)) := by
  have hr0 : Room (2 * n) (cx P w K mg base .maker_of cdv A outer s H E).A := hr.mono (by omega)
  have hr1 := hr
  exact (pss_cons (ps_set (i := 2) sc_maker_of.nd rfl (Or.inl rfl) (pe_ix ix_U (pv 0) pe_int (fun _ _ => rfl)))
    (pss_cons (ps_if (pt_cmpR (op_eqU hr.units) (pv 2) pe_str (nomark _)) (pss_one (ps_ret (pe_cmake (T.mk_WholeMaker) (IH.c_WholeMaker___init___0 T) hr1 rfl (T.glo (x := "WholeMaker") 11) (pa_cons (pe_ix ix_U (pv 0) pe_int (fun _ _ => rfl)) (pa_cons (pe_ix ix_U (pv 0) pe_int (fun _ _ => rfl)) pa_nil))))) pss_nil)
    (pss_cons (ps_if (pt_cmpR (op_eqU hr.units) (pv 2) pe_str (nomark _)) (pss_one (ps_ret (pe_cmake (T.mk_TextMaker) (IH.c_TextMaker___init___0 T) hr1 rfl (T.glo (x := "TextMaker") 12) (pa_cons (pe_ix ix_U (pv 0) pe_int (fun _ _ => rfl)) pa_nil)))) pss_nil)
    (pss_cons (ps_if (pt_cmpR (op_eqU hr.units) (pv 2) pe_str (nomark _)) (pss_one (ps_ret (pe_cmake (T.mk_UseMaker) (IH.c_UseMaker___init___0 T) hr1 rfl (T.glo (x := "UseMaker") 13) (pa_cons (pv 1) (pa_cons (pe_ix ix_U (pv 0) pe_int (fun _ _ => rfl)) pa_nil))))) pss_nil)
    (pss_cons (ps_if (pt_cmpR (op_eqU hr.units) (pv 2) pe_str (nomark _)) (pss_one (ps_ret (pe_cmake (T.mk_RowMaker) (IH.c_RowMaker___init___0 T) hr1 rfl (T.glo (x := "RowMaker") 15) (pa_cons (pe_lc (own := [("part", 4)]) (g := (gName 4)) (tt := tYes) rfl sc_maker_of.nd (pi_any (pe_ix ix_U (pv 0) pe_int (fun _ _ => rfl))) (blkOk_by (by kernel_rfl)) (fun _ _ _ _ _ => (pg_name (i := 4) sc_maker_of.nd rfl (by first | exact Or.inl rfl | exact Or.inr rfl))) (fun _ _ _ _ _ => pts_nil) (fun _ _ _ _ _ => (pe_ccall (IH.c_maker_of_0 T) hr0 rfl (T.glo (x := "maker_of") 14) (pa_cons (pv 4) (pa_cons (pv 1) pa_nil))))) pa_nil)))) pss_nil)
    (pss_cons (ps_if (pt_cmpR (op_eqU hr.units) (pv 2) pe_str (nomark _)) (pss_cons (ps_setLc (i := 3) (own := [("branch", 5)]) (g := (gName 5)) (tt := tYes) rfl sc_maker_of.nd rfl rfl (sw_true rfl rfl rfl (by kernel_rfl)) (pi_any (pe_ix ix_U (pv 0) pe_int (fun _ _ => rfl))) (blkOk_by (by kernel_rfl)) (fun _ _ _ _ _ => (pg_name (i := 5) sc_maker_of.nd rfl (by first | exact Or.inl rfl | exact Or.inr rfl))) (fun _ _ _ _ _ => pts_nil) (fun _ _ _ _ _ => (pe_ccall (IH.c_maker_of_0 T) hr0 rfl (T.glo (x := "maker_of") 14) (pa_cons (pe_ix ix_U (pv 5) pe_int (fun _ _ => rfl)) (pa_cons (pv 1) pa_nil)))))
    (pss_one (ps_ret (pe_cmake (T.mk_PickMaker) (IH.c_PickMaker___init___0 T) hr1 rfl (T.glo (x := "PickMaker") 16) (pa_cons (pv 3) (pa_cons (pe_lc (own := [("branch", 5)]) (g := (gName 5)) (tt := tYes) rfl sc_maker_of.nd (pi_any (pe_ix ix_U (pv 0) pe_int (fun _ _ => rfl))) (blkOk_by (by kernel_rfl)) (fun _ _ _ _ _ => (pg_name (i := 5) sc_maker_of.nd rfl (by first | exact Or.inl rfl | exact Or.inr rfl))) (fun _ _ _ _ _ => pts_nil) (fun _ _ _ _ _ => (pe_ix ix_U (pv 5) pe_int (fun _ _ => rfl)))) pa_nil)))))) pss_nil)
    (pss_cons (ps_set (i := 3) sc_maker_of.nd rfl (Or.inl rfl) (pe_lst (pa_cons (pe_ccall (IH.c_maker_of_0 T) hr0 rfl (T.glo (x := "maker_of") 14) (pa_cons (pe_ix ix_U (pv 0) pe_int (fun _ _ => rfl)) (pa_cons (pv 1) pa_nil))) pa_nil)))
    (pss_cons (ps_if (pt_cmpR (op_eqU hr.units) (pv 2) pe_str (nomark _)) (pss_one (ps_ret (pe_cmake (T.mk_ManyMaker) (IH.c_Maker___init___0 T) hr1 rfl (T.glo (x := "ManyMaker") 17) (pa_cons (pv 3) pa_nil)))) pss_nil)
    (pss_cons (ps_if (pt_cmpR (op_eqU hr.units) (pv 2) pe_str (nomark _)) (pss_one ps_never) pss_nil)
    (pss_cons (ps_if (pt_cmpR (op_eqU hr.units) (pv 2) pe_str (nomark _)) (pss_one ps_never) pss_nil)
    (pss_one (ps_ret (pe_cmake (T.mk_AlikeMaker) (IH.c_AlikeMaker___init___0 T) hr1 rfl (T.glo (x := "AlikeMaker") 18) (pa_cons (pv 3) (pa_cons (pe_ix ix_U (pv 0) pe_int (fun _ _ => rfl)) pa_nil)))))))))))))))
theorem sc_Tables___init__ : FnScope nm_Tables___init__ ps_Tables___init__ (defScope st_Tables___init__) := ⟨rfl, rfl, rfl, by decide +kernel, rfl, by decide +kernel, by decide +kernel⟩
theorem d_Tables___init__ (T : Txt K mg) (IH : OKn P w K mg base n) (hr : Room (2 * n + 1) (cx P w K mg base .Tables___init__ cdv A outer s H E).A) : PSs (cx P w K mg base .Tables___init__ cdv A outer s H E) (dd .Tables___init__).body (t_Tables___init__ K (W K n)) := by
  have hr0 : Room (2 * n) (cx P w K mg base .Tables___init__ cdv A outer s H E).A := hr.mono (by omega)
  have hr1 := hr
  exact (pss_cons (ps_csto T.cls (T.noat_named) (pv 0) pe_dnewK)
    (pss_cons (ps_for PassesOwn.never rfl (pi_any (pv 1)) (pg_tup rfl (pgs_cons (pg_name (i := 3) sc_Tables___init__.nd rfl (Or.inl rfl)) (pgs_cons (pg_name (i := 4) sc_Tables___init__.nd rfl (Or.inl rfl)) pgs_nil))) (pss_one (ps_dput (hu_of hr) (pe_cfld T.cls (T.noat_named) (pv 0)) (pv 3) (pe_ccall (IH.c_maker_of_0 T) hr0 rfl (T.glo (x := "maker_of") 14) (pa_cons (pv 4) (pa_cons (pe_cfld T.cls (T.noat_named) (pv 0)) pa_nil))) rfl)))
    (pss_one (ps_csto T.cls (T.noat_top) (pv 0) (pe_ccall (IH.c_maker_of_0 T) hr0 rfl (T.glo (x := "maker_of") 14) (pa_cons (pv 2) (pa_cons (pe_cfld T.cls (T.noat_named) (pv 0)) pa_nil)))))))
theorem sc_Tables_grow_to : FnScope nm_Tables_grow_to ps_Tables_grow_to (defScope st_Tables_grow_to) := ⟨rfl, rfl, rfl, by decide +kernel, rfl, by decide +kernel, by decide +kernel⟩
theorem d_Tables_grow_to (T : Txt K mg) (IH : OKn P w K mg base n) (hr : Room (2 * n + 1) (cx P w K mg base .Tables_grow_to cdv A outer s H E).A) : PSs (cx P w K mg base .Tables_grow_to cdv A outer s H E) (dd .Tables_grow_to).body (t_Tables_grow_to K (W K n)) := by
  have hr0 : Room (2 * n) (cx P w K mg base .Tables_grow_to cdv A outer s H E).A := hr.mono (by omega)
  have hr1 := hr
  exact (pss_one (ps_while PassesOwn.never (pt_cmpR op_leU (pe_callB call_lenU (by rfl) (T.free (x := "len") 1) (by decide +kernel) (pa_cons (pe_cfld T.cls (T.noat_counts) (pe_cfld T.cls (T.noat_top) (pv 0))) pa_nil)) (pv 1) (nomark _)) (pss_cons (ps_lock (ps_for PassesOwn.never rfl (pi_values (pe_cfld T.cls (T.noat_named) (pv 0))) (pg_name (i := 2) sc_Tables_grow_to.nd rfl (Or.inl rfl)) (pss_one (ps_expr (pe_cmethod0 (IH.m_grow T) hr0 (pv 2))))))
    (pss_one (ps_expr (pe_cmethod0 (IH.m_grow T) hr0 (pe_cfld T.cls (T.noat_top) (pv 0))))))))
theorem sc_Tables_counts_at : FnScope nm_Tables_counts_at ps_Tables_counts_at (defScope st_Tables_counts_at) := ⟨rfl, rfl, rfl, by decide +kernel, rfl, by decide +kernel, by decide +kernel⟩
theorem d_Tables_counts_at (T : Txt K mg) (IH : OKn P w K mg base n) (hr : Room (2 * n + 1) (cx P w K mg base .Tables_counts_at cdv A outer s H E).A) : PSs (cx P w K mg base .Tables_counts_at cdv A outer s H E) (dd .Tables_counts_at).body (t_Tables_counts_at K (W K n)) := by
  have hr0 : Room (2 * n) (cx P w K mg base .Tables_counts_at cdv A outer s H E).A := hr.mono (by omega)
  have hr1 := hr
  exact (pss_one (ps_ret (pe_ix ix_U (pe_cfld T.cls (T.noat_counts) (pe_cfld T.cls (T.noat_top) (pv 0))) (pv 1) (fun _ _ => rfl))))
theorem sc_Tables_told : FnScope nm_Tables_told ps_Tables_told (defScope st_Tables_told) := ⟨rfl, rfl, rfl, by decide +kernel, rfl, by decide +kernel, by decide +kernel⟩
theorem d_Tables_told (T : Txt K mg) (IH : OKn P w K mg base n) (hr : Room (2 * n + 1) (cx P w K mg base .Tables_told cdv A outer s H E).A) : PSs (cx P w K mg base .Tables_told cdv A outer s H E) (dd .Tables_told).body (t_Tables_told K (W K n)) := by
  have hr0 : Room (2 * n) (cx P w K mg base .Tables_told cdv A outer s H E).A := hr.mono (by omega)
  have hr1 := hr
  exact (pss_one (ps_ret (pe_cmethod (IH.m_told T) hr0 (pe_cfld T.cls (T.noat_top) (pv 0)) (pa_cons (pv 1) (pa_cons (pv 2) pa_nil)))))
theorem sc_all_values : FnScope nm_all_values ps_all_values (defScope st_all_values) := ⟨rfl, rfl, rfl, by decide +kernel, rfl, by decide +kernel, by decide +kernel⟩
theorem d_all_values (T : Txt K mg) (IH : OKn P w K mg base n) (hr : Room (2 * n + 1) (cx P w K mg base .all_values cdv A outer s H E).A) : PSs (cx P w K mg base .all_values cdv A outer s H E) (dd .all_values).body (t_all_values K (W K n)) := by
  have hr0 : Room (2 * n) (cx P w K mg base .all_values cdv A outer s H E).A := hr.mono (by omega)
  have hr1 := hr
  exact (pss_cons (ps_set (i := 4) sc_all_values.nd rfl (Or.inr rfl) (pe_cmake (T.mk_Tables) (IH.c_Tables___init___0 T) hr1 rfl (T.glo (x := "Tables") 19) (pa_cons (pv 0) (pa_cons (pv 1) pa_nil))))
    (pss_cons (ps_expr (pe_cmethod (IH.m_grow_to T) hr0 (pv 4) (pa_cons (pv 2) pa_nil)))
    (pss_cons (ps_set (i := 5) sc_all_values.nd rfl (Or.inl rfl) (pe_cmethod (IH.m_counts_at T) hr0 (pv 4) (pa_cons (pv 2) pa_nil)))
    (pss_cons (ps_if (pt_cmpR op_gtU (pv 5) (pv 3) (nomark _)) (pss_one ps_never) pss_nil)
    (pss_one (ps_ret (pe_lc (own := [("number", 6)]) (g := (gName 6)) (tt := tYes) rfl sc_all_values.nd (pi_range1 (by rfl) (T.free (x := "range") 5) (pa_cons (pv 5) pa_nil)) (blkOk_by (by kernel_rfl)) (fun _ _ _ _ _ => (pg_name (i := 6) sc_all_values.nd rfl (by first | exact Or.inl rfl | exact Or.inr rfl))) (fun _ _ _ _ _ => pts_nil) (fun _ _ _ _ _ => (pe_cmethod (IH.m_told T) hr0 (pv 4) (pa_cons (pv 2) (pa_cons (pv 6) pa_nil)))))))))))
theorem sc__law_cell_at : FnScope nm__law_cell_at ps__law_cell_at (defScope st__law_cell_at) := ⟨rfl, rfl, rfl, by decide +kernel, rfl, by decide +kernel, by decide +kernel⟩
theorem d__law_cell_at (T : Txt K mg) (IH : OKn P w K mg base n) (hr : Room (2 * n + 1) (cx P w K mg base ._law_cell_at cdv A outer s H E).A) : PSs (cx P w K mg base ._law_cell_at cdv A outer s H E) (dd ._law_cell_at).body (t__law_cell_at K (W K n)) := by
  have hr0 : Room (2 * n) (cx P w K mg base ._law_cell_at cdv A outer s H E).A := hr.mono (by omega)
  have hr1 := hr
  exact (pss_cons (ps_if (pt_cmpR op_ltU (pv 1) (pe_callB call_lenU (by rfl) (T.free (x := "len") 1) (by decide +kernel) (pa_cons (pv 0) pa_nil)) (nomark _)) (pss_one (ps_ret (pe_ix ix_U (pv 0) (pv 1) (fun _ _ => rfl)))) pss_nil)
    (pss_one (ps_ret pe_int)))
end
end Pk
set_option Elab.async false
set_option linter.all false
set_option maxRecDepth 100000
set_option maxHeartbeats 4000000
namespace Pk
open PySem PySem.Spec PyProof.Rows L2 Cw
section
variable {P : Program} {w : World} {K : PySem.W.Frag} {mg : Str → Option Value} {base : Heap} {n : Nat} {cdv : Value} {A : Around} {outer : List Env} {s : Shared} {H : Hp} {E : XK}
theorem sc__law_name : FnScope nm__law_name ps__law_name (defScope st__law_name) := ⟨rfl, rfl, rfl, by decide +kernel, rfl, by decide +kernel, by decide +kernel⟩
theorem d__law_name (T : Txt K mg) (IH : OKn P w K mg base n) (hr : Room (2 * n + 1) (cx P w K mg base ._law_name cdv A outer s H E).A) : PSs (cx P w K mg base ._law_name cdv A outer s H E) (dd ._law_name).body (t__law_name K (W K n)) := by
  have hr0 : Room (2 * n) (cx P w K mg base ._law_name cdv A outer s H E).A := hr.mono (by omega)
  have hr1 := hr
  exact (pss_cons (ps_set (i := 2) sc__law_name.nd rfl (Or.inl rfl) pe_str)
    (pss_cons (ps_set (i := 3) sc__law_name.nd rfl (Or.inl rfl) (pe_op op_addU pe_int (pe_op op_modU (pv 0) pe_int)))
    (pss_cons (ps_set (i := 4) sc__law_name.nd rfl (Or.inl rfl) (pe_op op_modU (pe_op op_divU (pv 0) pe_int) (pv 3)))
    (pss_cons (ps_set (i := 5) sc__law_name.nd rfl (Or.inl rfl) pe_str)
    (pss_cons (ps_for PassesOwn.never rfl (pi_range1 (by rfl) (T.free (x := "range") 5) (pa_cons (pv 3) pa_nil)) (pg_name (i := 6) sc__law_name.nd rfl (Or.inl rfl)) (pss_cons (ps_set (i := 7) sc__law_name.nd rfl (Or.inl rfl) (pe_op op_addU (pe_op op_divU (pv 0) (pe_op op_mulU pe_int (pe_op op_addU (pv 6) pe_int))) (pe_op op_mulU (pv 6) (pv 6))))
    (pss_cons (ps_if (pt_cmpR (op_eqU hr.units) (pv 6) (pv 4) (nomark _)) (pss_one (ps_set (i := 7) sc__law_name.nd rfl (Or.inl rfl) (pe_op op_addU (pv 7) (pv 1)))) pss_nil)
    (pss_one (ps_set (i := 5) sc__law_name.nd rfl (Or.inl rfl) (pe_op op_addU (pv 5) (pe_ix ix_U (pv 2) (pe_op op_modU (pv 7) pe_int) (fun _ _ => rfl))))))))
    (pss_one (ps_ret (pv 5))))))))
theorem sc__law_texts : FnScope nm__law_texts ps__law_texts (defScope st__law_texts) := ⟨rfl, rfl, rfl, by decide +kernel, rfl, by decide +kernel, by decide +kernel⟩
theorem d__law_texts (T : Txt K mg) (IH : OKn P w K mg base n) (hr : Room (2 * n + 1) (cx P w K mg base ._law_texts cdv A outer s H E).A) : PSs (cx P w K mg base ._law_texts cdv A outer s H E) (dd ._law_texts).body (t__law_texts K (W K n)) := by
  have hr0 : Room (2 * n) (cx P w K mg base ._law_texts cdv A outer s H E).A := hr.mono (by omega)
  have hr1 := hr
  exact (pss_cons (ps_set (i := 2) sc__law_texts.nd rfl (Or.inl rfl) (pe_lst (pa_cons pe_str pa_nil)))
    (pss_cons (ps_for PassesOwn.never rfl (pi_range1 (by rfl) (T.free (x := "range") 5) (pa_cons (pv 1) pa_nil)) (pg_name (i := 3) sc__law_texts.nd rfl (Or.inl rfl)) (pss_cons (ps_set (i := 4) sc__law_texts.nd rfl (Or.inl rfl) (pe_lst pa_nil))
    (pss_cons (ps_for PassesOwn.never rfl (pi_any (pv 2)) (pg_name (i := 5) sc__law_texts.nd rfl (Or.inr rfl)) (pss_one (ps_set (i := 4) sc__law_texts.nd rfl (Or.inl rfl) (pe_op op_addU (pv 4) (pe_lc (own := [("_law_sign", 6)]) (g := (gName 6)) (tt := tYes) rfl sc__law_texts.nd (pi_any (pv 0)) (blkOk_by (by kernel_rfl)) (fun _ _ _ _ _ => (pg_name (i := 6) sc__law_texts.nd rfl (by first | exact Or.inl rfl | exact Or.inr rfl))) (fun _ _ _ _ _ => pts_nil) (fun _ _ _ _ _ => (pe_op op_addU (pv 5) (pv 6))))))))
    (pss_one (ps_set (i := 2) sc__law_texts.nd rfl (Or.inl rfl) (pv 4))))))
    (pss_one (ps_ret (pv 2)))))
theorem sc__law_numbers : FnScope nm__law_numbers ps__law_numbers (defScope st__law_numbers) := ⟨rfl, rfl, rfl, by decide +kernel, rfl, by decide +kernel, by decide +kernel⟩
theorem d__law_numbers (T : Txt K mg) (IH : OKn P w K mg base n) (hr : Room (2 * n + 1) (cx P w K mg base ._law_numbers cdv A outer s H E).A) : PSs (cx P w K mg base ._law_numbers cdv A outer s H E) (dd ._law_numbers).body (t__law_numbers K (W K n)) := by
  have hr0 : Room (2 * n) (cx P w K mg base ._law_numbers cdv A outer s H E).A := hr.mono (by omega)
  have hr1 := hr
  exact (pss_cons (ps_if (pt_cmpR (op_eqU hr.units) (pv 2) pe_int (nomark _)) (pss_one (ps_ret (pe_lst (pa_cons (pv 0) pa_nil)))) pss_nil)
    (pss_cons (ps_set (i := 3) sc__law_numbers.nd rfl (Or.inl rfl) pe_int)
    (pss_cons (ps_for PassesOwn.never rfl (pi_range1 (by rfl) (T.free (x := "range") 5) (pa_cons (pe_op op_subU (pv 2) pe_int) pa_nil)) (pg_name (i := 4) sc__law_numbers.nd rfl (Or.inl rfl)) (pss_one (ps_set (i := 3) sc__law_numbers.nd rfl (Or.inl rfl) (pe_op op_mulU pe_int (pv 3)))))
    (pss_one (ps_ret (pe_lc (own := [("_law_step", 5)]) (g := (gName 5)) (tt := tYes) rfl sc__law_numbers.nd (pi_range2 (by rfl) (T.free (x := "range") 5) (pa_cons (pv 3) (pa_cons (pe_callB (call_min2U rfl) (by rfl) (T.free (x := "min") 3) (by decide +kernel) (pa_cons (pe_op op_mulU pe_int (pv 3)) (pa_cons (pe_op op_addU (pe_op op_subU (pv 1) (pv 0)) pe_int) pa_nil))) pa_nil))) (blkOk_by (by kernel_rfl)) (fun _ _ _ _ _ => (pg_name (i := 5) sc__law_numbers.nd rfl (by first | exact Or.inl rfl | exact Or.inr rfl))) (fun _ _ _ _ _ => pts_nil) (fun _ _ _ _ _ => (pe_op op_addU (pv 0) (pv 5)))))))))
theorem sc__law_rows : FnScope nm__law_rows ps__law_rows (defScope st__law_rows) := ⟨rfl, rfl, rfl, by decide +kernel, rfl, by decide +kernel, by decide +kernel⟩
theorem d__law_rows (T : Txt K mg) (IH : OKn P w K mg base n) (hr : Room (2 * n + 1) (cx P w K mg base ._law_rows cdv A outer s H E).A) : PSs (cx P w K mg base ._law_rows cdv A outer s H E) (dd ._law_rows).body (t__law_rows K (W K n)) := by
  have hr0 : Room (2 * n) (cx P w K mg base ._law_rows cdv A outer s H E).A := hr.mono (by omega)
  have hr1 := hr
  exact (pss_cons (ps_if (pt_cmpR (op_eqU hr.units) (pv 1) (pe_tup pa_nil) (nomark _)) (pss_one (ps_ret (pe_ix ix_U (pe_lst (pa_cons (pe_lst pa_nil) (pa_cons (pe_lst (pa_cons (pe_tup pa_nil) pa_nil)) pa_nil))) (pe_callTy call_intU (by rfl) (T.free (x := "int") 6) (by decide +kernel) (pa_cons (pe_cmpR (op_eqU hr.units) (pv 2) pe_int (nomark _)) pa_nil)) (fun _ _ => rfl)))) pss_nil)
    (pss_cons (ps_set (i := 3) sc__law_rows.nd rfl (Or.inl rfl) (pe_lst pa_nil))
    (pss_cons (ps_for PassesOwn.never rfl (pi_range1 (by rfl) (T.free (x := "range") 5) (pa_cons (pe_op op_addU (pv 2) pe_int) pa_nil)) (pg_name (i := 4) sc__law_rows.nd rfl (Or.inl rfl)) (pss_cons (ps_set (i := 5) sc__law_rows.nd rfl (Or.inl rfl) (pe_ccall (IH.c__law_rows_0 T) hr0 rfl (T.glo (x := "_law_rows") 20) (pa_cons (pv 0) (pa_cons (pe_slice sl_U (pv 1) (po_some pe_int) po_none) (pa_cons (pe_op op_subU (pv 2) (pv 4)) pa_nil)))))
    (pss_one (ps_for PassesOwn.never rfl (pi_any (pe_ccall (IH.c__law_all_0 T) hr0 rfl (T.glo (x := "_law_all") 21) (pa_cons (pv 0) (pa_cons (pe_ix ix_U (pv 1) pe_int (fun _ _ => rfl)) (pa_cons (pv 4) pa_nil))))) (pg_name (i := 6) sc__law_rows.nd rfl (Or.inr rfl)) (pss_one (ps_set (i := 3) sc__law_rows.nd rfl (Or.inl rfl) (pe_op op_addU (pv 3) (pe_lc (own := [("_law_rest", 7)]) (g := (gName 7)) (tt := tYes) rfl sc__law_rows.nd (pi_any (pv 5)) (blkOk_by (by kernel_rfl)) (fun _ _ _ _ _ => (pg_name (i := 7) sc__law_rows.nd rfl (by first | exact Or.inl rfl | exact Or.inr rfl))) (fun _ _ _ _ _ => pts_nil) (fun _ _ _ _ _ => (pe_op op_addU (pe_tup (pa_cons (pv 6) pa_nil)) (pv 7)))))))))))
    (pss_one (ps_ret (pv 3))))))
theorem sc__law_lists : FnScope nm__law_lists ps__law_lists (defScope st__law_lists) := ⟨rfl, rfl, rfl, by decide +kernel, rfl, by decide +kernel, by decide +kernel⟩
theorem d__law_lists (T : Txt K mg) (IH : OKn P w K mg base n) (hr : Room (2 * n + 1) (cx P w K mg base ._law_lists cdv A outer s H E).A) : PSs (cx P w K mg base ._law_lists cdv A outer s H E) (dd ._law_lists).body (t__law_lists K (W K n)) := by
  have hr0 : Room (2 * n) (cx P w K mg base ._law_lists cdv A outer s H E).A := hr.mono (by omega)
  have hr1 := hr
  exact (pss_cons (ps_if (pt_cmpR (op_eqU hr.units) (pv 2) pe_int (nomark _)) (pss_one (ps_ret (pe_lst (pa_cons (pe_lst pa_nil) pa_nil)))) pss_nil)
    (pss_cons (ps_set (i := 3) sc__law_lists.nd rfl (Or.inl rfl) (pe_lst pa_nil))
    (pss_cons (ps_for PassesOwn.never rfl (pi_range1 (by rfl) (T.free (x := "range") 5) (pa_cons (pv 2) pa_nil)) (pg_name (i := 4) sc__law_lists.nd rfl (Or.inl rfl)) (pss_cons (ps_set (i := 5) sc__law_lists.nd rfl (Or.inl rfl) (pe_ccall (IH.c__law_lists_0 T) hr0 rfl (T.glo (x := "_law_lists") 22) (pa_cons (pv 0) (pa_cons (pv 1) (pa_cons (pe_op op_subU (pe_op op_subU (pv 2) pe_int) (pv 4)) pa_nil)))))
    (pss_one (ps_for PassesOwn.never rfl (pi_any (pe_ccall (IH.c__law_all_0 T) hr0 rfl (T.glo (x := "_law_all") 21) (pa_cons (pv 0) (pa_cons (pv 1) (pa_cons (pv 4) pa_nil))))) (pg_name (i := 6) sc__law_lists.nd rfl (Or.inr rfl)) (pss_one (ps_set (i := 3) sc__law_lists.nd rfl (Or.inl rfl) (pe_op op_addU (pv 3) (pe_lc (own := [("_law_rest", 7)]) (g := (gName 7)) (tt := tYes) rfl sc__law_lists.nd (pi_any (pv 5)) (blkOk_by (by kernel_rfl)) (fun _ _ _ _ _ => (pg_name (i := 7) sc__law_lists.nd rfl (by first | exact Or.inl rfl | exact Or.inr rfl))) (fun _ _ _ _ _ => pts_nil) (fun _ _ _ _ _ => (pe_op op_addU (pe_lst (pa_cons (pv 6) pa_nil)) (pv 7)))))))))))
    (pss_one (ps_ret (pv 3))))))
theorem sc__law_all : FnScope nm__law_all ps__law_all (defScope st__law_all) := ⟨rfl, rfl, rfl, by decide +kernel, rfl, by decide +kernel, by decide +kernel⟩
theorem d__law_all (T : Txt K mg) (IH : OKn P w K mg base n) (hr : Room (2 * n + 1) (cx P w K mg base ._law_all cdv A outer s H E).A) : PSs (cx P w K mg base ._law_all cdv A outer s H E) (dd ._law_all).body (t__law_all K (W K n)) := by
  have hr0 : Room (2 * n) (cx P w K mg base ._law_all cdv A outer s H E).A := hr.mono (by omega)
  have hr1 := hr
  exact (pss_cons (ps_if (pt_cmpR (op_eqU hr.units) (pe_ix ix_U (pv 1) pe_int (fun _ _ => rfl)) pe_str (nomark _)) (pss_one (ps_ret (pe_ccall (IH.c__law_numbers_0 T) hr0 rfl (T.glo (x := "_law_numbers") 23) (pa_cons (pe_ix ix_U (pv 1) pe_int (fun _ _ => rfl)) (pa_cons (pe_ix ix_U (pv 1) pe_int (fun _ _ => rfl)) (pa_cons (pv 2) pa_nil)))))) pss_nil)
    (pss_cons (ps_if (pt_cmpR (op_eqU hr.units) (pe_ix ix_U (pv 1) pe_int (fun _ _ => rfl)) pe_str (nomark _)) (pss_one (ps_ret (pe_ccall (IH.c__law_texts_0 T) hr0 rfl (T.glo (x := "_law_texts") 24) (pa_cons (pe_ix ix_U (pv 1) pe_int (fun _ _ => rfl)) (pa_cons (pv 2) pa_nil))))) pss_nil)
    (pss_cons (ps_if (pt_cmpR (op_eqU hr.units) (pe_ix ix_U (pv 1) pe_int (fun _ _ => rfl)) pe_str (nomark _)) (pss_one (ps_ret (pe_ccall (IH.c__law_rows_0 T) hr0 rfl (T.glo (x := "_law_rows") 20) (pa_cons (pv 0) (pa_cons (pe_ix ix_U (pv 1) pe_int (fun _ _ => rfl)) (pa_cons (pv 2) pa_nil)))))) pss_nil)
    (pss_cons (ps_if (pt_cmpR (op_eqU hr.units) (pe_ix ix_U (pv 1) pe_int (fun _ _ => rfl)) pe_str (nomark _)) (pss_one (ps_ret (pe_ccall (IH.c__law_lists_0 T) hr0 rfl (T.glo (x := "_law_lists") 22) (pa_cons (pv 0) (pa_cons (pe_ix ix_U (pv 1) pe_int (fun _ _ => rfl)) (pa_cons (pv 2) pa_nil)))))) pss_nil)
    (pss_cons (ps_if (pt_cmpR (op_eqU hr.units) (pe_ix ix_U (pv 1) pe_int (fun _ _ => rfl)) pe_str (nomark _)) (pss_cons (ps_if (pt_cmpR (op_eqU hr.units) (pv 2) pe_int (nomark _)) (pss_one (ps_ret (pe_lst pa_nil))) pss_nil)
    (pss_one (ps_ret (pe_ccall (IH.c__law_all_0 T) hr0 rfl (T.glo (x := "_law_all") 21) (pa_cons (pv 0) (pa_cons (pe_dget (hu_of hr) (pe_callTy (call_dictP rfl) (by rfl) (T.free (x := "dict") 25) (by decide +kernel) (pa_cons (pv 0) pa_nil)) (pe_ix ix_U (pv 1) pe_int (fun _ _ => rfl)) (fun _ _ => rfl)) (pa_cons (pe_op op_subU (pv 2) pe_int) pa_nil))))))) pss_nil)
    (pss_cons (ps_if (pt_cmpR (op_eqU hr.units) (pe_ix ix_U (pv 1) pe_int (fun _ _ => rfl)) pe_str (nomark _)) (pss_cons (ps_if (PW.pt (pw_or (pt_cmpR op_ltU (pv 2) (pe_ix ix_U (pv 1) pe_int (fun _ _ => rfl)) (nomark _)) (pw_or1 (pt_cmpR op_gtU (pe_op op_modU (pv 2) (pe_ix ix_U (pv 1) pe_int (fun _ _ => rfl))) pe_int (nomark _))))) (pss_one (ps_ret (pe_lst pa_nil))) pss_nil)
    (pss_cons (ps_set (i := 3) sc__law_all.nd rfl (Or.inl rfl) (pe_ccall (IH.c__law_all_0 T) hr0 rfl (T.glo (x := "_law_all") 21) (pa_cons (pv 0) (pa_cons (pe_ix ix_U (pv 1) pe_int (fun _ _ => rfl)) (pa_cons (pe_op op_subU (pe_op op_divU (pv 2) (pe_ix ix_U (pv 1) pe_int (fun _ _ => rfl))) pe_int) pa_nil)))))
    (pss_one (ps_ret (pe_lc (own := [("_law_thing", 7)]) (g := (gName 7)) (tt := tYes) rfl sc__law_all.nd (pi_any (pv 3)) (blkOk_by (by kernel_rfl)) (fun _ _ _ _ _ => (pg_name (i := 7) sc__law_all.nd rfl (by first | exact Or.inl rfl | exact Or.inr rfl))) (fun _ _ _ _ _ => pts_nil) (fun _ _ _ _ _ => (pe_lc (own := [("_law_k", 8)]) (g := (gName 8)) (tt := tYes) rfl sc__law_all.nd (pi_range1 (by rfl) (T.free (x := "range") 5) (pa_cons (pe_ix ix_U (pv 1) pe_int (fun _ _ => rfl)) pa_nil)) (blkOk_by (by kernel_rfl)) (fun _ _ _ _ _ => (pg_name (i := 8) sc__law_all.nd rfl (by first | exact Or.inl rfl | exact Or.inr rfl))) (fun _ _ _ _ _ => pts_nil) (fun _ _ _ _ _ => (pv 7))))))))) pss_nil)
    (pss_cons (ps_set (i := 4) sc__law_all.nd rfl (Or.inl rfl) (pe_lst pa_nil))
    (pss_cons (ps_for PassesOwn.never rfl (pi_any (pe_ix ix_U (pv 1) pe_int (fun _ _ => rfl))) (pg_tup rfl (pgs_cons (pg_name (i := 5) sc__law_all.nd rfl (Or.inr rfl)) (pgs_cons (pg_name (i := 6) sc__law_all.nd rfl (Or.inl rfl)) pgs_nil))) (pss_one (ps_set (i := 4) sc__law_all.nd rfl (Or.inl rfl) (pe_op op_addU (pv 4) (pe_lc (own := [("_law_thing", 7)]) (g := (gName 7)) (tt := tYes) rfl sc__law_all.nd (pi_any (pe_ccall (IH.c__law_all_0 T) hr0 rfl (T.glo (x := "_law_all") 21) (pa_cons (pv 0) (pa_cons (pv 6) (pa_cons (pv 2) pa_nil))))) (blkOk_by (by kernel_rfl)) (fun _ _ _ _ _ => (pg_name (i := 7) sc__law_all.nd rfl (by first | exact Or.inl rfl | exact Or.inr rfl))) (fun _ _ _ _ _ => pts_nil) (fun _ _ _ _ _ => (pe_tup (pa_cons (pv 5) (pa_cons (pv 7) pa_nil)))))))))
    (pss_one (ps_ret (pv 4)))))))))))
theorem sc__law_leaf : FnScope nm__law_leaf ps__law_leaf (defScope st__law_leaf) := ⟨rfl, rfl, rfl, by decide +kernel, rfl, by decide +kernel, by decide +kernel⟩
theorem d__law_leaf (T : Txt K mg) (IH : OKn P w K mg base n) (hr : Room (2 * n + 1) (cx P w K mg base ._law_leaf cdv A outer s H E).A) : PSs (cx P w K mg base ._law_leaf cdv A outer s H E) (dd ._law_leaf).body (t__law_leaf K (W K n)) := by
  have hr0 : Room (2 * n) (cx P w K mg base ._law_leaf cdv A outer s H E).A := hr.mono (by omega)
  have hr1 := hr
  exact (pss_cons (ps_if (pt_cmpR (op_eqU hr.units) (pe_op op_modU (pv 0) pe_int) pe_int (nomark _)) (pss_cons (ps_set (i := 1) sc__law_leaf.nd rfl (Or.inl rfl) (pe_op op_subU (pe_op op_modU (pe_op op_divU (pv 0) pe_int) (pe_op op_powU pe_int pe_int)) (pe_op op_mulU pe_int (pe_op op_powU pe_int pe_int))))
    (pss_one (ps_ret (pe_tup (pa_cons pe_str (pa_cons (pv 1) (pa_cons (pe_op op_addU (pv 1) (pe_ix ix_U (pe_lst (pa_cons pe_int (pa_cons pe_int (pa_cons pe_int (pa_cons pe_int pa_nil))))) (pe_op op_modU (pe_op op_divU (pv 0) pe_int) pe_int) (fun _ _ => rfl))) pa_nil))))))) pss_nil)
    (pss_cons (ps_set (i := 2) sc__law_leaf.nd rfl (Or.inl rfl) pe_str)
    (pss_cons (ps_set (i := 3) sc__law_leaf.nd rfl (Or.inl rfl) (pe_op op_modU (pe_op op_divU (pv 0) pe_int) pe_int))
    (pss_cons (ps_set (i := 4) sc__law_leaf.nd rfl (Or.inl rfl) (pe_slice sl_U (pv 2) (po_some (pv 3)) (po_some (pe_op op_addU (pe_op op_addU (pv 3) pe_int) (pe_op op_modU (pe_op op_divU (pv 0) pe_int) pe_int)))))
    (pss_one (ps_ret (pe_tup (pa_cons pe_str (pa_cons (pe_ix ix_U (pe_lst (pa_cons (pv 4) (pa_cons (pe_revU (pv 4)) pa_nil))) (pe_op op_modU (pe_op op_divU (pv 0) pe_int) pe_int) (fun _ _ => rfl)) pa_nil)))))))))
theorem sc__law_shape : FnScope nm__law_shape ps__law_shape (defScope st__law_shape) := ⟨rfl, rfl, rfl, by decide +kernel, rfl, by decide +kernel, by decide +kernel⟩
theorem d__law_shape (T : Txt K mg) (IH : OKn P w K mg base n) (hr : Room (2 * n + 1) (cx P w K mg base ._law_shape cdv A outer s H E).A) : PSs (cx P w K mg base ._law_shape cdv A outer s H E) (dd ._law_shape).body (t__law_shape K (W K n)) := by
  have hr0 : Room (2 * n) (cx P w K mg base ._law_shape cdv A outer s H E).A := hr.mono (by omega)
  have hr1 := hr
  exact (pss_cons (ps_set (i := 4) sc__law_shape.nd rfl (Or.inl rfl) (pe_ccall (IH.c__law_cell_at_0 T) hr0 rfl (T.glo (x := "_law_cell_at") 26) (pa_cons (pv 0) (pa_cons (pv 2) pa_nil))))
    (pss_cons (ps_set (i := 5) sc__law_shape.nd rfl (Or.inl rfl) (pe_op op_modU (pv 4) pe_int))
    (pss_cons (ps_if (PW.pt (pw_or (pt_cmpR (op_eqU hr.units) (pv 1) pe_int (nomark _)) (pw_or1 (pt_cmpR op_ltU (pv 5) pe_int (nomark _))))) (pss_one (ps_ret (pe_ccall (IH.c__law_leaf_0 T) hr0 rfl (T.glo (x := "_law_leaf") 27) (pa_cons (pe_op op_divU (pv 4) pe_int) pa_nil)))) pss_nil)
    (pss_cons (ps_set (i := 6) sc__law_shape.nd rfl (Or.inl rfl) (pe_ccall (IH.c__law_shape_0 T) hr0 rfl (T.glo (x := "_law_shape") 28) (pa_cons (pv 0) (pa_cons (pe_op op_subU (pv 1) pe_int) (pa_cons (pe_op op_addU (pe_op op_mulU pe_int (pv 2)) pe_int) (pa_cons (pv 3) pa_nil))))))
    (pss_cons (ps_if (pt_cmpR (op_eqU hr.units) (pv 5) pe_int (nomark _)) (pss_one (ps_ret (pe_tup (pa_cons pe_str (pa_cons (pv 6) pa_nil))))) pss_nil)
    (pss_cons (ps_if (pt_cmpR (op_eqU hr.units) (pv 5) pe_int (nomark _)) (pss_one (ps_ret (pe_tup (pa_cons pe_str (pa_cons (pv 6) (pa_cons (pe_op op_addU pe_int (pe_op op_modU (pe_op op_divU (pv 4) pe_int) pe_int)) pa_nil)))))) pss_nil)
    (pss_cons (ps_if (pt_cmpR (op_eqU hr.units) (pv 5) pe_int (nomark _)) (pss_one (ps_ret (pe_tup (pa_cons pe_str (pa_cons (pv 3) pa_nil))))) pss_nil)
    (pss_cons (ps_set (i := 7) sc__law_shape.nd rfl (Or.inl rfl) (pe_ccall (IH.c__law_shape_0 T) hr0 rfl (T.glo (x := "_law_shape") 28) (pa_cons (pv 0) (pa_cons (pe_op op_subU (pv 1) pe_int) (pa_cons (pe_op op_addU (pe_op op_mulU pe_int (pv 2)) pe_int) (pa_cons (pv 3) pa_nil))))))
    (pss_cons (ps_if (pt_cmpR (op_eqU hr.units) (pv 5) pe_int (nomark _)) (pss_one (ps_ret (pe_tup (pa_cons pe_str (pa_cons (pe_tup (pa_cons (pv 6) (pa_cons (pv 7) pa_nil))) pa_nil))))) pss_nil)
    (pss_one (ps_ret (pe_tup (pa_cons pe_str (pa_cons (pe_tup (pa_cons (pe_tup (pa_cons (pe_ccall (IH.c__law_name_0 T) hr0 rfl (T.glo (x := "_law_name") 29) (pa_cons (pe_op op_divU (pv 4) pe_int) (pa_cons pe_int pa_nil))) (pa_cons (pv 6) pa_nil))) (pa_cons (pe_tup (pa_cons (pe_ccall (IH.c__law_name_0 T) hr0 rfl (T.glo (x := "_law_name") 29) (pa_cons (pe_op op_divU (pv 4) pe_int) (pa_cons pe_int pa_nil))) (pa_cons (pv 7) pa_nil))) pa_nil))) pa_nil))))))))))))))
end
end Pk
set_option Elab.async false
set_option linter.all false
set_option maxRecDepth 100000
set_option maxHeartbeats 4000000
namespace Pk
open PySem PySem.Spec PyProof.Rows L2 Cw
section
variable {P : Program} {w : World} {K : PySem.W.Frag} {mg : Str → Option Value} {base : Heap} {n : Nat} {cdv : Value} {A : Around} {outer : List Env} {s : Shared} {H : Hp} {E : XK}
theorem sc__law_size : FnScope nm__law_size ps__law_size (defScope st__law_size) := ⟨rfl, rfl, rfl, by decide +kernel, rfl, by decide +kernel, by decide +kernel⟩
theorem d__law_size (T : Txt K mg) (IH : OKn P w K mg base n) (hr : Room (2 * n + 1) (cx P w K mg base ._law_size cdv A outer s H E).A) : PSs (cx P w K mg base ._law_size cdv A outer s H E) (dd ._law_size).body (t__law_size K (W K n)) := by
  have hr0 : Room (2 * n) (cx P w K mg base ._law_size cdv A outer s H E).A := hr.mono (by omega)
  have hr1 := hr
  exact (pss_cons (ps_set (i := 4) sc__law_size.nd rfl (Or.inl rfl) pe_int)
    (pss_cons (ps_while PassesOwn.never (PW.pt (pw_and (pt_cmpR op_ltU (pv 4) (pv 2) (nomark _)) (pw_and1 (pt_cmpR op_leU (pe_callB call_lenU (by rfl) (T.free (x := "len") 1) (by decide +kernel) (pa_cons (pe_ccall (IH.c__law_all_0 T) hr0 rfl (T.glo (x := "_law_all") 21) (pa_cons (pv 0) (pa_cons (pv 1) (pa_cons (pe_op op_addU (pv 4) pe_int) pa_nil)))) pa_nil)) (pv 3) (nomark _))))) (pss_one (ps_set (i := 4) sc__law_size.nd rfl (Or.inl rfl) (pe_op op_addU (pv 4) pe_int))))
    (pss_one (ps_ret (pv 4)))))
theorem sc__law_same : FnScope nm__law_same ps__law_same (defScope st__law_same) := ⟨rfl, rfl, rfl, by decide +kernel, rfl, by decide +kernel, by decide +kernel⟩
theorem d__law_same (T : Txt K mg) (IH : OKn P w K mg base n) (hr : Room (2 * n + 1) (cx P w K mg base ._law_same cdv A outer s H E).A) : PSs (cx P w K mg base ._law_same cdv A outer s H E) (dd ._law_same).body (t__law_same K (W K n)) := by
  have hr0 : Room (2 * n) (cx P w K mg base ._law_same cdv A outer s H E).A := hr.mono (by omega)
  have hr1 := hr
  exact (pss_cons (ps_if (pt_val (pe_callB call_isi (by rfl) (T.free (x := "isinstance") 31) (by decide +kernel) (pa_cons (pv 0) (pa_cons (pe_bltn (v := .ty "list") (by rfl) (T.free (x := "list") 30) (by decide +kernel) rfl) pa_nil)))) (pss_one (ps_ret (pe_and (pe_callB call_isi (by rfl) (T.free (x := "isinstance") 31) (by decide +kernel) (pa_cons (pv 1) (pa_cons (pe_bltn (v := .ty "list") (by rfl) (T.free (x := "list") 30) (by decide +kernel) rfl) pa_nil))) (pe_one (pe_ccall (IH.c__law_rows_same_0 T) hr0 rfl (T.glo (x := "_law_rows_same") 32) (pa_cons (pv 0) (pa_cons (pv 1) pa_nil))))))) pss_nil)
    (pss_cons (ps_if (pt_val (pe_callB call_isi (by rfl) (T.free (x := "isinstance") 31) (by decide +kernel) (pa_cons (pv 0) (pa_cons (pe_bltn (v := .ty "tuple") (by rfl) (T.free (x := "tuple") 10) (by decide +kernel) rfl) pa_nil)))) (pss_one (ps_ret (pe_and (pe_callB call_isi (by rfl) (T.free (x := "isinstance") 31) (by decide +kernel) (pa_cons (pv 1) (pa_cons (pe_bltn (v := .ty "tuple") (by rfl) (T.free (x := "tuple") 10) (by decide +kernel) rfl) pa_nil))) (pe_one (pe_ccall (IH.c__law_rows_same_0 T) hr0 rfl (T.glo (x := "_law_rows_same") 32) (pa_cons (pv 0) (pa_cons (pv 1) pa_nil))))))) pss_nil)
    (pss_one (ps_ret (pe_and (pe_cmpR (op_eqU hr.units) (pv 0) (pv 1) (nomark _)) (pe_one (pe_cmpR (op_eqU hr.units) (pe_callB call_isi (by rfl) (T.free (x := "isinstance") 31) (by decide +kernel) (pa_cons (pv 0) (pa_cons (pe_bltn (v := .ty "bool") (by rfl) (T.free (x := "bool") 33) (by decide +kernel) rfl) pa_nil))) (pe_callB call_isi (by rfl) (T.free (x := "isinstance") 31) (by decide +kernel) (pa_cons (pv 1) (pa_cons (pe_bltn (v := .ty "bool") (by rfl) (T.free (x := "bool") 33) (by decide +kernel) rfl) pa_nil))) (nomark _))))))))
theorem sc__law_rows_same : FnScope nm__law_rows_same ps__law_rows_same (defScope st__law_rows_same) := ⟨rfl, rfl, rfl, by decide +kernel, rfl, by decide +kernel, by decide +kernel⟩
theorem d__law_rows_same (T : Txt K mg) (IH : OKn P w K mg base n) (hr : Room (2 * n + 1) (cx P w K mg base ._law_rows_same cdv A outer s H E).A) : PSs (cx P w K mg base ._law_rows_same cdv A outer s H E) (dd ._law_rows_same).body (t__law_rows_same K (W K n)) := by
  have hr0 : Room (2 * n) (cx P w K mg base ._law_rows_same cdv A outer s H E).A := hr.mono (by omega)
  have hr1 := hr
  exact (pss_cons (ps_if (pt_cmpR (op_neU hr.units) (pe_callB call_lenU (by rfl) (T.free (x := "len") 1) (by decide +kernel) (pa_cons (pv 0) pa_nil)) (pe_callB call_lenU (by rfl) (T.free (x := "len") 1) (by decide +kernel) (pa_cons (pv 1) pa_nil)) (nomark _)) (pss_one (ps_ret pe_bl)) pss_nil)
    (pss_one (ps_ret (pe_cmpR (op_eqU hr.units) (pe_lc (own := [("_law_k", 2)]) (g := (gName 2)) (tt := (tNot (tB (tCall (W K n ._law_same) [] E0 (tCons (tOp (rIxU K) (tVar 0) (tVar 2)) (tCons (tOp (rIxU K) (tVar 1) (tVar 2)) tNil)))))) rfl sc__law_rows_same.nd (pi_range1 (by rfl) (T.free (x := "range") 5) (pa_cons (pe_callB call_lenU (by rfl) (T.free (x := "len") 1) (by decide +kernel) (pa_cons (pv 0) pa_nil)) pa_nil)) (blkOk_by (by kernel_rfl)) (fun _ _ _ _ _ => (pg_name (i := 2) sc__law_rows_same.nd rfl (by first | exact Or.inl rfl | exact Or.inr rfl))) (fun _ _ _ _ _ => (pts_one (pt_not (pt_val (pe_ccall (IH.c__law_same_0 T) hr0 rfl (T.glo (x := "_law_same") 34) (pa_cons (pe_ix ix_U (pv 0) (pv 2) (fun _ _ => rfl)) (pa_cons (pe_ix ix_U (pv 1) (pv 2) (fun _ _ => rfl)) pa_nil))))))) (fun _ _ _ _ _ => (pv 2))) (pe_lst pa_nil) (nomark _)))))
theorem sc__law_lists_in : FnScope nm__law_lists_in ps__law_lists_in (defScope st__law_lists_in) := ⟨rfl, rfl, rfl, by decide +kernel, rfl, by decide +kernel, by decide +kernel⟩
theorem d__law_lists_in (T : Txt K mg) (IH : OKn P w K mg base n) (hr : Room (2 * n + 1) (cx P w K mg base ._law_lists_in cdv A outer s H E).A) : PSs (cx P w K mg base ._law_lists_in cdv A outer s H E) (dd ._law_lists_in).body (t__law_lists_in K (W K n)) := by
  have hr0 : Room (2 * n) (cx P w K mg base ._law_lists_in cdv A outer s H E).A := hr.mono (by omega)
  have hr1 := hr
  exact (pss_cons (ps_set (i := 1) sc__law_lists_in.nd rfl (Or.inl rfl) (pe_lst pa_nil))
    (pss_cons (ps_if (pt_val (pe_callB call_isi (by rfl) (T.free (x := "isinstance") 31) (by decide +kernel) (pa_cons (pv 0) (pa_cons (pe_bltn (v := .ty "list") (by rfl) (T.free (x := "list") 30) (by decide +kernel) rfl) pa_nil)))) (pss_one (ps_expr (pe_bm PySem.F.plainAttrs_list PySem.F.slot_list_append PySem.F.type_list_append mt_append (pv 1) (pa_cons (pv 0) pa_nil)))) pss_nil)
    (pss_cons (ps_if (PW.pt (pw_or (pt_val (pe_callB call_isi (by rfl) (T.free (x := "isinstance") 31) (by decide +kernel) (pa_cons (pv 0) (pa_cons (pe_bltn (v := .ty "list") (by rfl) (T.free (x := "list") 30) (by decide +kernel) rfl) pa_nil)))) (pw_or1 (pt_val (pe_callB call_isi (by rfl) (T.free (x := "isinstance") 31) (by decide +kernel) (pa_cons (pv 0) (pa_cons (pe_bltn (v := .ty "tuple") (by rfl) (T.free (x := "tuple") 10) (by decide +kernel) rfl) pa_nil))))))) (pss_one (ps_for PassesOwn.never rfl (pi_any (pv 0)) (pg_name (i := 2) sc__law_lists_in.nd rfl (Or.inl rfl)) (pss_one (ps_expr (pe_bm PySem.F.plainAttrs_list PySem.F.slot_list_extend PySem.F.type_list_extend mt_extend (pv 1) (pa_cons (pe_ccall (IH.c__law_lists_in_0 T) hr0 rfl (T.glo (x := "_law_lists_in") 35) (pa_cons (pv 2) pa_nil)) pa_nil)))))) pss_nil)
    (pss_one (ps_ret (pv 1))))))
theorem sc__law_own : FnScope nm__law_own ps__law_own (defScope st__law_own) := ⟨rfl, rfl, rfl, by decide +kernel, rfl, by decide +kernel, by decide +kernel⟩
theorem d__law_own (T : Txt K mg) (IH : OKn P w K mg base n) (hr : Room (2 * n + 1) (cx P w K mg base ._law_own cdv A outer s H E).A) : PSs (cx P w K mg base ._law_own cdv A outer s H E) (dd ._law_own).body (t__law_own K (W K n)) := by
  have hr0 : Room (2 * n) (cx P w K mg base ._law_own cdv A outer s H E).A := hr.mono (by omega)
  have hr1 := hr
  exact (pss_cons (ps_set (i := 1) sc__law_own.nd rfl (Or.inl rfl) (pe_ccall (IH.c__law_lists_in_0 T) hr0 rfl (T.glo (x := "_law_lists_in") 35) (pa_cons (pv 0) pa_nil)))
    (pss_cons (ps_setLc (i := 2) (own := [("_law_one", 3)]) (g := (gName 3)) (tt := tYes) rfl sc__law_own.nd rfl rfl (sw_true rfl rfl rfl (by kernel_rfl)) (pi_any (pv 1)) (blkOk_by (by kernel_rfl)) (fun _ _ _ _ _ => (pg_name (i := 3) sc__law_own.nd rfl (by first | exact Or.inl rfl | exact Or.inr rfl))) (fun _ _ _ _ _ => pts_nil) (fun _ _ _ _ _ => (pe_callB call_lenU (by rfl) (T.free (x := "len") 1) (by decide +kernel) (pa_cons (pv 3) pa_nil))))
    (pss_cons (ps_for PassesOwn.never rfl (pi_any (pv 1)) (pg_name (i := 3) sc__law_own.nd rfl (Or.inl rfl)) (pss_one (ps_expr (pe_bm PySem.F.plainAttrs_list PySem.F.slot_list_append PySem.F.type_list_append mt_append (pv 3) (pa_cons pe_non pa_nil)))))
    (pss_one (ps_ret (pe_cmpR (op_eqU hr.units) (pe_lc (own := [("_law_one", 3)]) (g := (gName 3)) (tt := tYes) rfl sc__law_own.nd (pi_any (pv 1)) (blkOk_by (by kernel_rfl)) (fun _ _ _ _ _ => (pg_name (i := 3) sc__law_own.nd rfl (by first | exact Or.inl rfl | exact Or.inr rfl))) (fun _ _ _ _ _ => pts_nil) (fun _ _ _ _ _ => (pe_callB call_lenU (by rfl) (T.free (x := "len") 1) (by decide +kernel) (pa_cons (pv 3) pa_nil)))) (pe_lc (own := [("_law_size_here", 4)]) (g := (gName 4)) (tt := tYes) rfl sc__law_own.nd (pi_any (pv 2)) (blkOk_by (by kernel_rfl)) (fun _ _ _ _ _ => (pg_name (i := 4) sc__law_own.nd rfl (by first | exact Or.inl rfl | exact Or.inr rfl))) (fun _ _ _ _ _ => pts_nil) (fun _ _ _ _ _ => (pe_op op_addU (pv 4) pe_int))) (nomark _)))))))
theorem sc_law : FnScope nm_law ps_law (defScope st_law) := ⟨rfl, rfl, rfl, by decide +kernel, rfl, by decide +kernel, by decide +kernel⟩
theorem d_law (T : Txt K mg) (IH : OKn P w K mg base n) (hr : Room (2 * n + 1) (cx P w K mg base .law cdv A outer s H E).A) : PSs (cx P w K mg base .law cdv A outer s H E) (dd .law).body (t_law K (W K n)) := by
  have hr0 : Room (2 * n) (cx P w K mg base .law cdv A outer s H E).A := hr.mono (by omega)
  have hr1 := hr
  exact (pss_cons (ps_set (i := 1) sc_law.nd rfl (Or.inl rfl) (pe_ccall (IH.c__law_name_0 T) hr0 rfl (T.glo (x := "_law_name") 29) (pa_cons (pe_ccall (IH.c__law_cell_at_0 T) hr0 rfl (T.glo (x := "_law_cell_at") 26) (pa_cons (pv 0) (pa_cons pe_int pa_nil))) (pa_cons pe_int pa_nil))))
    (pss_cons (ps_set (i := 2) sc_law.nd rfl (Or.inl rfl) (pe_lst (pa_cons (pe_tup (pa_cons (pv 1) (pa_cons (pe_ccall (IH.c__law_leaf_0 T) hr0 rfl (T.glo (x := "_law_leaf") 27) (pa_cons (pe_ccall (IH.c__law_cell_at_0 T) hr0 rfl (T.glo (x := "_law_cell_at") 26) (pa_cons (pv 0) (pa_cons pe_int pa_nil))) pa_nil)) pa_nil))) pa_nil)))
    (pss_cons (ps_set (i := 3) sc_law.nd rfl (Or.inl rfl) (pe_ccall (IH.c__law_shape_0 T) hr0 rfl (T.glo (x := "_law_shape") 28) (pa_cons (pv 0) (pa_cons pe_int (pa_cons pe_int (pa_cons (pv 1) pa_nil))))))
    (pss_cons (ps_set (i := 4) sc_law.nd rfl (Or.inl rfl) (pe_ccall (IH.c__law_size_0 T) hr0 rfl (T.glo (x := "_law_size") 36) (pa_cons (pv 2) (pa_cons (pv 3) (pa_cons (pe_op op_modU (pe_ccall (IH.c__law_cell_at_0 T) hr0 rfl (T.glo (x := "_law_cell_at") 26) (pa_cons (pv 0) (pa_cons pe_int pa_nil))) pe_int) (pa_cons pe_int pa_nil))))))
    (pss_cons (ps_set (i := 5) sc_law.nd rfl (Or.inl rfl) (pe_ccall (IH.c__law_all_0 T) hr0 rfl (T.glo (x := "_law_all") 21) (pa_cons (pv 2) (pa_cons (pv 3) (pa_cons (pv 4) pa_nil)))))
    (pss_cons (ps_set (i := 6) sc_law.nd rfl (Or.inl rfl) (pe_callB (call_min2U rfl) (by rfl) (T.free (x := "min") 3) (by decide +kernel) (pa_cons pe_int (pa_cons (pe_op op_addU (pe_callB call_lenU (by rfl) (T.free (x := "len") 1) (by decide +kernel) (pa_cons (pv 5) pa_nil)) (pe_op op_modU (pe_ccall (IH.c__law_cell_at_0 T) hr0 rfl (T.glo (x := "_law_cell_at") 26) (pa_cons (pv 0) (pa_cons pe_int pa_nil))) pe_int)) pa_nil))))
    (pss_cons (ps_if (pt_cmpR (op_eqU hr.units) (pe_op op_modU (pe_op op_divU (pe_ccall (IH.c__law_cell_at_0 T) hr0 rfl (T.glo (x := "_law_cell_at") 26) (pa_cons (pv 0) (pa_cons pe_int pa_nil))) pe_int) pe_int) pe_int (nomark _)) (pss_one (ps_set (i := 6) sc_law.nd rfl (Or.inl rfl) (pe_callB call_lenU (by rfl) (T.free (x := "len") 1) (by decide +kernel) (pa_cons (pv 5) pa_nil)))) pss_nil)
    (pss_cons (ps_set (i := 7) sc_law.nd rfl (Or.inl rfl) (pe_callTy call_listU (by rfl) (T.free (x := "list") 30) (by decide +kernel) (pa_cons (pv 2) pa_nil)))
    (pss_cons (ps_set (i := 8) sc_law.nd rfl (Or.inl rfl) (pe_ccall (IH.c_all_values_0 T) hr0 rfl (T.glo (x := "all_values") 37) (pa_cons (pv 7) (pa_cons (pv 3) (pa_cons (pv 4) (pa_cons (pv 6) pa_nil))))))
    (pss_cons (ps_if (PW.pt (pw_or (pt_not (pt_val (pe_callB call_isi (by rfl) (T.free (x := "isinstance") 31) (by decide +kernel) (pa_cons (pv 8) (pa_cons (pe_bltn (v := .ty "list") (by rfl) (T.free (x := "list") 30) (by decide +kernel) rfl) pa_nil))))) (pw_or (pt_not (pt_val (pe_ccall (IH.c__law_same_0 T) hr0 rfl (T.glo (x := "_law_same") 34) (pa_cons (pv 8) (pa_cons (pv 5) pa_nil))))) (pw_or1 (pt_cmpR (op_neU hr.units) (pv 7) (pv 2) (nomark _)))))) (pss_one (ps_ret pe_bl)) pss_nil)
    (pss_cons (ps_if (pt_not (pt_val (pe_ccall (IH.c__law_own_0 T) hr0 rfl (T.glo (x := "_law_own") 38) (pa_cons (pv 8) pa_nil)))) (pss_one (ps_ret pe_bl)) pss_nil)
    (pss_one (ps_ret (pe_ccall (IH.c__law_same_0 T) hr0 rfl (T.glo (x := "_law_same") 34) (pa_cons (pe_ccall (IH.c_all_values_1 T) hr0 rfl (T.glo (x := "all_values") 37) (pa_cons (pv 7) (pa_cons (pv 3) (pa_cons (pv 4) pa_nil)))) (pa_cons (pv 5) pa_nil))))))))))))))))
end
end Pk
set_option Elab.async false
set_option linter.all false
set_option maxRecDepth 100000
set_option maxHeartbeats 4000000
namespace Pk
open PySem PySem.Spec PyProof.Rows L2 Cw
section
variable {P : Program} {w : World} {K : PySem.W.Frag} {mg : Str → Option Value} {base : Heap}
theorem W_len {n : Nat} {d : Df} {vs : List V} {H : Hp} {Q : VK} {E : XK} (h : W K n d vs H Q E) : vs.length = (par d).length := by
  cases n with
  | zero => exact h.elim
  | succ n => exact h.1
theorem sound (T : Txt K mg) : ∀ n, OKn P w K mg base n
  | 0 => ⟨fun d => by
    have F : ∃ fd, FunD K (dd d).name (dd d).qual (dd d).params (dd d).body (dd d).scope ((dd d).dvs K) ((dd d).kws K) (ad K d) fd := by
      cases d
      · exact T.says.2.def_ 0 (d := D_first_taken)
      · exact T.says.2.def_ 1 (d := D_Maker___init__)
      · exact T.says.2.def_ 2 (d := D_Maker_grow)
      · exact T.says.2.def_ 3 (d := D_Maker_next_count)
      · exact T.says.2.def_ 4 (d := D_Maker_told)
      · exact T.says.2.def_ 5 (d := D_WholeMaker___init__)
      · exact T.says.2.def_ 6 (d := D_WholeMaker_next_count)
      · exact T.says.2.def_ 7 (d := D_WholeMaker_told)
      · exact T.says.2.def_ 8 (d := D_TextMaker___init__)
      · exact T.says.2.def_ 9 (d := D_TextMaker_next_count)
      · exact T.says.2.def_ 10 (d := D_TextMaker_told)
      · exact T.says.2.def_ 11 (d := D_RowMaker___init__)
      · exact T.says.2.def_ 12 (d := D_RowMaker_next_count)
      · exact T.says.2.def_ 13 (d := D_RowMaker_told)
      · exact T.says.2.def_ 14 (d := D_ManyMaker_next_count)
      · exact T.says.2.def_ 15 (d := D_ManyMaker_told)
      · exact T.says.2.def_ 16 (d := D_AlikeMaker___init__)
      · exact T.says.2.def_ 17 (d := D_AlikeMaker_next_count)
      · exact T.says.2.def_ 18 (d := D_AlikeMaker_told)
      · exact T.says.2.def_ 19 (d := D_PickMaker___init__)
      · exact T.says.2.def_ 20 (d := D_PickMaker_next_count)
      · exact T.says.2.def_ 21 (d := D_PickMaker_told)
      · exact T.says.2.def_ 22 (d := D_UseMaker___init__)
      · exact T.says.2.def_ 23 (d := D_UseMaker_next_count)
      · exact T.says.2.def_ 24 (d := D_UseMaker_told)
      · exact T.says.2.def_ 25 (d := D_maker_of)
      · exact T.says.2.def_ 26 (d := D_Tables___init__)
      · exact T.says.2.def_ 27 (d := D_Tables_grow_to)
      · exact T.says.2.def_ 28 (d := D_Tables_counts_at)
      · exact T.says.2.def_ 29 (d := D_Tables_told)
      · exact T.says.2.def_ 30 (d := D_all_values)
      · exact T.says.2.def_ 31 (d := D__law_cell_at)
      · exact T.says.2.def_ 32 (d := D__law_name)
      · exact T.says.2.def_ 33 (d := D__law_texts)
      · exact T.says.2.def_ 34 (d := D__law_numbers)
      · exact T.says.2.def_ 35 (d := D__law_rows)
      · exact T.says.2.def_ 36 (d := D__law_lists)
      · exact T.says.2.def_ 37 (d := D__law_all)
      · exact T.says.2.def_ 38 (d := D__law_leaf)
      · exact T.says.2.def_ 39 (d := D__law_shape)
      · exact T.says.2.def_ 40 (d := D__law_size)
      · exact T.says.2.def_ 41 (d := D__law_same)
      · exact T.says.2.def_ 42 (d := D__law_rows_same)
      · exact T.says.2.def_ 43 (d := D__law_lists_in)
      · exact T.says.2.def_ 44 (d := D__law_own)
      · exact T.says.2.def_ 45 (d := D_law)
    obtain ⟨fd, F⟩ := F
    exact ⟨fd, ⟨fun _ _ _ _ h => h.elim, fun _ _ _ _ _ _ _ _ _ _ _ _ _ h => h.elim⟩, F⟩⟩
  | n + 1 => ⟨fun d => by
    have IH := sound T n
    cases d
    · obtain ⟨fd, F⟩ := T.says.2.def_ 0 (d := D_first_taken)
      exact ⟨fd, F.ok (k := 2 * n + 1) sc_first_taken (fun _ _ _ _ h => h.1) (fun _ _ _ _ _ _ _ _ hr h => ⟨t_first_taken K (W K n), PSs.nox (d_first_taken T IH hr), h.2⟩), F⟩
    · obtain ⟨fd, F⟩ := T.says.2.def_ 1 (d := D_Maker___init__)
      exact ⟨fd, F.ok (k := 2 * n + 1) sc_Maker___init__ (fun _ _ _ _ h => h.1) (fun _ _ _ _ _ _ _ _ hr h => ⟨t_Maker___init__ K (W K n), PSs.nox (d_Maker___init__ T IH hr), h.2⟩), F⟩
    · obtain ⟨fd, F⟩ := T.says.2.def_ 2 (d := D_Maker_grow)
      exact ⟨fd, F.ok (k := 2 * n + 1) sc_Maker_grow (fun _ _ _ _ h => h.1) (fun _ _ _ _ _ _ _ _ hr h => ⟨t_Maker_grow K (W K n), PSs.nox (d_Maker_grow T IH hr), h.2⟩), F⟩
    · obtain ⟨fd, F⟩ := T.says.2.def_ 3 (d := D_Maker_next_count)
      exact ⟨fd, F.ok (k := 2 * n + 1) sc_Maker_next_count (fun _ _ _ _ h => h.1) (fun _ _ _ _ _ _ _ _ hr h => ⟨t_Maker_next_count K (W K n), PSs.nox (d_Maker_next_count T IH hr), h.2⟩), F⟩
    · obtain ⟨fd, F⟩ := T.says.2.def_ 4 (d := D_Maker_told)
      exact ⟨fd, F.ok (k := 2 * n + 1) sc_Maker_told (fun _ _ _ _ h => h.1) (fun _ _ _ _ _ _ _ _ hr h => ⟨t_Maker_told K (W K n), PSs.nox (d_Maker_told T IH hr), h.2⟩), F⟩
    · obtain ⟨fd, F⟩ := T.says.2.def_ 5 (d := D_WholeMaker___init__)
      exact ⟨fd, F.ok (k := 2 * n + 1) sc_WholeMaker___init__ (fun _ _ _ _ h => h.1) (fun _ _ _ _ _ _ _ _ hr h => ⟨t_WholeMaker___init__ K (W K n), PSs.nox (d_WholeMaker___init__ T IH hr), h.2⟩), F⟩
    · obtain ⟨fd, F⟩ := T.says.2.def_ 6 (d := D_WholeMaker_next_count)
      exact ⟨fd, F.ok (k := 2 * n + 1) sc_WholeMaker_next_count (fun _ _ _ _ h => h.1) (fun _ _ _ _ _ _ _ _ hr h => ⟨t_WholeMaker_next_count K (W K n), PSs.nox (d_WholeMaker_next_count T IH hr), h.2⟩), F⟩
    · obtain ⟨fd, F⟩ := T.says.2.def_ 7 (d := D_WholeMaker_told)
      exact ⟨fd, F.ok (k := 2 * n + 1) sc_WholeMaker_told (fun _ _ _ _ h => h.1) (fun _ _ _ _ _ _ _ _ hr h => ⟨t_WholeMaker_told K (W K n), PSs.nox (d_WholeMaker_told T IH hr), h.2⟩), F⟩
    · obtain ⟨fd, F⟩ := T.says.2.def_ 8 (d := D_TextMaker___init__)
      exact ⟨fd, F.ok (k := 2 * n + 1) sc_TextMaker___init__ (fun _ _ _ _ h => h.1) (fun _ _ _ _ _ _ _ _ hr h => ⟨t_TextMaker___init__ K (W K n), PSs.nox (d_TextMaker___init__ T IH hr), h.2⟩), F⟩
    · obtain ⟨fd, F⟩ := T.says.2.def_ 9 (d := D_TextMaker_next_count)
      exact ⟨fd, F.ok (k := 2 * n + 1) sc_TextMaker_next_count (fun _ _ _ _ h => h.1) (fun _ _ _ _ _ _ _ _ hr h => ⟨t_TextMaker_next_count K (W K n), PSs.nox (d_TextMaker_next_count T IH hr), h.2⟩), F⟩
    · obtain ⟨fd, F⟩ := T.says.2.def_ 10 (d := D_TextMaker_told)
      exact ⟨fd, F.ok (k := 2 * n + 1) sc_TextMaker_told (fun _ _ _ _ h => h.1) (fun _ _ _ _ _ _ _ _ hr h => ⟨t_TextMaker_told K (W K n), PSs.nox (d_TextMaker_told T IH hr), h.2⟩), F⟩
    · obtain ⟨fd, F⟩ := T.says.2.def_ 11 (d := D_RowMaker___init__)
      exact ⟨fd, F.ok (k := 2 * n + 1) sc_RowMaker___init__ (fun _ _ _ _ h => h.1) (fun _ _ _ _ _ _ _ _ hr h => ⟨t_RowMaker___init__ K (W K n), PSs.nox (d_RowMaker___init__ T IH hr), h.2⟩), F⟩
    · obtain ⟨fd, F⟩ := T.says.2.def_ 12 (d := D_RowMaker_next_count)
      exact ⟨fd, F.ok (k := 2 * n + 1) sc_RowMaker_next_count (fun _ _ _ _ h => h.1) (fun _ _ _ _ _ _ _ _ hr h => ⟨t_RowMaker_next_count K (W K n), PSs.nox (d_RowMaker_next_count T IH hr), h.2⟩), F⟩
    · obtain ⟨fd, F⟩ := T.says.2.def_ 13 (d := D_RowMaker_told)
      exact ⟨fd, F.ok (k := 2 * n + 1) sc_RowMaker_told (fun _ _ _ _ h => h.1) (fun _ _ _ _ _ _ _ _ hr h => ⟨t_RowMaker_told K (W K n), PSs.nox (d_RowMaker_told T IH hr), h.2⟩), F⟩
    · obtain ⟨fd, F⟩ := T.says.2.def_ 14 (d := D_ManyMaker_next_count)
      exact ⟨fd, F.ok (k := 2 * n + 1) sc_ManyMaker_next_count (fun _ _ _ _ h => h.1) (fun _ _ _ _ _ _ _ _ hr h => ⟨t_ManyMaker_next_count K (W K n), PSs.nox (d_ManyMaker_next_count T IH hr), h.2⟩), F⟩
    · obtain ⟨fd, F⟩ := T.says.2.def_ 15 (d := D_ManyMaker_told)
      exact ⟨fd, F.ok (k := 2 * n + 1) sc_ManyMaker_told (fun _ _ _ _ h => h.1) (fun _ _ _ _ _ _ _ _ hr h => ⟨t_ManyMaker_told K (W K n), PSs.nox (d_ManyMaker_told T IH hr), h.2⟩), F⟩
    · obtain ⟨fd, F⟩ := T.says.2.def_ 16 (d := D_AlikeMaker___init__)
      exact ⟨fd, F.ok (k := 2 * n + 1) sc_AlikeMaker___init__ (fun _ _ _ _ h => h.1) (fun _ _ _ _ _ _ _ _ hr h => ⟨t_AlikeMaker___init__ K (W K n), PSs.nox (d_AlikeMaker___init__ T IH hr), h.2⟩), F⟩
    · obtain ⟨fd, F⟩ := T.says.2.def_ 17 (d := D_AlikeMaker_next_count)
      exact ⟨fd, F.ok (k := 2 * n + 1) sc_AlikeMaker_next_count (fun _ _ _ _ h => h.1) (fun _ _ _ _ _ _ _ _ hr h => ⟨t_AlikeMaker_next_count K (W K n), PSs.nox (d_AlikeMaker_next_count T IH hr), h.2⟩), F⟩
    · obtain ⟨fd, F⟩ := T.says.2.def_ 18 (d := D_AlikeMaker_told)
      exact ⟨fd, F.ok (k := 2 * n + 1) sc_AlikeMaker_told (fun _ _ _ _ h => h.1) (fun _ _ _ _ _ _ _ _ hr h => ⟨t_AlikeMaker_told K (W K n), PSs.nox (d_AlikeMaker_told T IH hr), h.2⟩), F⟩
    · obtain ⟨fd, F⟩ := T.says.2.def_ 19 (d := D_PickMaker___init__)
      exact ⟨fd, F.ok (k := 2 * n + 1) sc_PickMaker___init__ (fun _ _ _ _ h => h.1) (fun _ _ _ _ _ _ _ _ hr h => ⟨t_PickMaker___init__ K (W K n), PSs.nox (d_PickMaker___init__ T IH hr), h.2⟩), F⟩
    · obtain ⟨fd, F⟩ := T.says.2.def_ 20 (d := D_PickMaker_next_count)
      exact ⟨fd, F.ok (k := 2 * n + 1) sc_PickMaker_next_count (fun _ _ _ _ h => h.1) (fun _ _ _ _ _ _ _ _ hr h => ⟨t_PickMaker_next_count K (W K n), PSs.nox (d_PickMaker_next_count T IH hr), h.2⟩), F⟩
    · obtain ⟨fd, F⟩ := T.says.2.def_ 21 (d := D_PickMaker_told)
      exact ⟨fd, F.ok (k := 2 * n + 1) sc_PickMaker_told (fun _ _ _ _ h => h.1) (fun _ _ _ _ _ _ _ _ hr h => ⟨t_PickMaker_told K (W K n), PSs.nox (d_PickMaker_told T IH hr), h.2⟩), F⟩
    · obtain ⟨fd, F⟩ := T.says.2.def_ 22 (d := D_UseMaker___init__)
      exact ⟨fd, F.ok (k := 2 * n + 1) sc_UseMaker___init__ (fun _ _ _ _ h => h.1) (fun _ _ _ _ _ _ _ _ hr h => ⟨t_UseMaker___init__ K (W K n), PSs.nox (d_UseMaker___init__ T IH hr), h.2⟩), F⟩
    · obtain ⟨fd, F⟩ := T.says.2.def_ 23 (d := D_UseMaker_next_count)
      exact ⟨fd, F.ok (k := 2 * n + 1) sc_UseMaker_next_count (fun _ _ _ _ h => h.1) (fun _ _ _ _ _ _ _ _ hr h => ⟨t_UseMaker_next_count K (W K n), PSs.nox (d_UseMaker_next_count T IH hr), h.2⟩), F⟩
    · obtain ⟨fd, F⟩ := T.says.2.def_ 24 (d := D_UseMaker_told)
      exact ⟨fd, F.ok (k := 2 * n + 1) sc_UseMaker_told (fun _ _ _ _ h => h.1) (fun _ _ _ _ _ _ _ _ hr h => ⟨t_UseMaker_told K (W K n), PSs.nox (d_UseMaker_told T IH hr), h.2⟩), F⟩
    · obtain ⟨fd, F⟩ := T.says.2.def_ 25 (d := D_maker_of)
      exact ⟨fd, F.ok (k := 2 * n + 1) sc_maker_of (fun _ _ _ _ h => h.1) (fun _ _ _ _ _ _ _ _ hr h => ⟨t_maker_of K (W K n), PSs.nox (d_maker_of T IH hr), h.2⟩), F⟩
    · obtain ⟨fd, F⟩ := T.says.2.def_ 26 (d := D_Tables___init__)
      exact ⟨fd, F.ok (k := 2 * n + 1) sc_Tables___init__ (fun _ _ _ _ h => h.1) (fun _ _ _ _ _ _ _ _ hr h => ⟨t_Tables___init__ K (W K n), PSs.nox (d_Tables___init__ T IH hr), h.2⟩), F⟩
    · obtain ⟨fd, F⟩ := T.says.2.def_ 27 (d := D_Tables_grow_to)
      exact ⟨fd, F.ok (k := 2 * n + 1) sc_Tables_grow_to (fun _ _ _ _ h => h.1) (fun _ _ _ _ _ _ _ _ hr h => ⟨t_Tables_grow_to K (W K n), PSs.nox (d_Tables_grow_to T IH hr), h.2⟩), F⟩
    · obtain ⟨fd, F⟩ := T.says.2.def_ 28 (d := D_Tables_counts_at)
      exact ⟨fd, F.ok (k := 2 * n + 1) sc_Tables_counts_at (fun _ _ _ _ h => h.1) (fun _ _ _ _ _ _ _ _ hr h => ⟨t_Tables_counts_at K (W K n), PSs.nox (d_Tables_counts_at T IH hr), h.2⟩), F⟩
    · obtain ⟨fd, F⟩ := T.says.2.def_ 29 (d := D_Tables_told)
      exact ⟨fd, F.ok (k := 2 * n + 1) sc_Tables_told (fun _ _ _ _ h => h.1) (fun _ _ _ _ _ _ _ _ hr h => ⟨t_Tables_told K (W K n), PSs.nox (d_Tables_told T IH hr), h.2⟩), F⟩
    · obtain ⟨fd, F⟩ := T.says.2.def_ 30 (d := D_all_values)
      exact ⟨fd, F.ok (k := 2 * n + 1) sc_all_values (fun _ _ _ _ h => h.1) (fun _ _ _ _ _ _ _ _ hr h => ⟨t_all_values K (W K n), PSs.nox (d_all_values T IH hr), h.2⟩), F⟩
    · obtain ⟨fd, F⟩ := T.says.2.def_ 31 (d := D__law_cell_at)
      exact ⟨fd, F.ok (k := 2 * n + 1) sc__law_cell_at (fun _ _ _ _ h => h.1) (fun _ _ _ _ _ _ _ _ hr h => ⟨t__law_cell_at K (W K n), PSs.nox (d__law_cell_at T IH hr), h.2⟩), F⟩
    · obtain ⟨fd, F⟩ := T.says.2.def_ 32 (d := D__law_name)
      exact ⟨fd, F.ok (k := 2 * n + 1) sc__law_name (fun _ _ _ _ h => h.1) (fun _ _ _ _ _ _ _ _ hr h => ⟨t__law_name K (W K n), PSs.nox (d__law_name T IH hr), h.2⟩), F⟩
    · obtain ⟨fd, F⟩ := T.says.2.def_ 33 (d := D__law_texts)
      exact ⟨fd, F.ok (k := 2 * n + 1) sc__law_texts (fun _ _ _ _ h => h.1) (fun _ _ _ _ _ _ _ _ hr h => ⟨t__law_texts K (W K n), PSs.nox (d__law_texts T IH hr), h.2⟩), F⟩
    · obtain ⟨fd, F⟩ := T.says.2.def_ 34 (d := D__law_numbers)
      exact ⟨fd, F.ok (k := 2 * n + 1) sc__law_numbers (fun _ _ _ _ h => h.1) (fun _ _ _ _ _ _ _ _ hr h => ⟨t__law_numbers K (W K n), PSs.nox (d__law_numbers T IH hr), h.2⟩), F⟩
    · obtain ⟨fd, F⟩ := T.says.2.def_ 35 (d := D__law_rows)
      exact ⟨fd, F.ok (k := 2 * n + 1) sc__law_rows (fun _ _ _ _ h => h.1) (fun _ _ _ _ _ _ _ _ hr h => ⟨t__law_rows K (W K n), PSs.nox (d__law_rows T IH hr), h.2⟩), F⟩
    · obtain ⟨fd, F⟩ := T.says.2.def_ 36 (d := D__law_lists)
      exact ⟨fd, F.ok (k := 2 * n + 1) sc__law_lists (fun _ _ _ _ h => h.1) (fun _ _ _ _ _ _ _ _ hr h => ⟨t__law_lists K (W K n), PSs.nox (d__law_lists T IH hr), h.2⟩), F⟩
    · obtain ⟨fd, F⟩ := T.says.2.def_ 37 (d := D__law_all)
      exact ⟨fd, F.ok (k := 2 * n + 1) sc__law_all (fun _ _ _ _ h => h.1) (fun _ _ _ _ _ _ _ _ hr h => ⟨t__law_all K (W K n), PSs.nox (d__law_all T IH hr), h.2⟩), F⟩
    · obtain ⟨fd, F⟩ := T.says.2.def_ 38 (d := D__law_leaf)
      exact ⟨fd, F.ok (k := 2 * n + 1) sc__law_leaf (fun _ _ _ _ h => h.1) (fun _ _ _ _ _ _ _ _ hr h => ⟨t__law_leaf K (W K n), PSs.nox (d__law_leaf T IH hr), h.2⟩), F⟩
    · obtain ⟨fd, F⟩ := T.says.2.def_ 39 (d := D__law_shape)
      exact ⟨fd, F.ok (k := 2 * n + 1) sc__law_shape (fun _ _ _ _ h => h.1) (fun _ _ _ _ _ _ _ _ hr h => ⟨t__law_shape K (W K n), PSs.nox (d__law_shape T IH hr), h.2⟩), F⟩
    · obtain ⟨fd, F⟩ := T.says.2.def_ 40 (d := D__law_size)
      exact ⟨fd, F.ok (k := 2 * n + 1) sc__law_size (fun _ _ _ _ h => h.1) (fun _ _ _ _ _ _ _ _ hr h => ⟨t__law_size K (W K n), PSs.nox (d__law_size T IH hr), h.2⟩), F⟩
    · obtain ⟨fd, F⟩ := T.says.2.def_ 41 (d := D__law_same)
      exact ⟨fd, F.ok (k := 2 * n + 1) sc__law_same (fun _ _ _ _ h => h.1) (fun _ _ _ _ _ _ _ _ hr h => ⟨t__law_same K (W K n), PSs.nox (d__law_same T IH hr), h.2⟩), F⟩
    · obtain ⟨fd, F⟩ := T.says.2.def_ 42 (d := D__law_rows_same)
      exact ⟨fd, F.ok (k := 2 * n + 1) sc__law_rows_same (fun _ _ _ _ h => h.1) (fun _ _ _ _ _ _ _ _ hr h => ⟨t__law_rows_same K (W K n), PSs.nox (d__law_rows_same T IH hr), h.2⟩), F⟩
    · obtain ⟨fd, F⟩ := T.says.2.def_ 43 (d := D__law_lists_in)
      exact ⟨fd, F.ok (k := 2 * n + 1) sc__law_lists_in (fun _ _ _ _ h => h.1) (fun _ _ _ _ _ _ _ _ hr h => ⟨t__law_lists_in K (W K n), PSs.nox (d__law_lists_in T IH hr), h.2⟩), F⟩
    · obtain ⟨fd, F⟩ := T.says.2.def_ 44 (d := D__law_own)
      exact ⟨fd, F.ok (k := 2 * n + 1) sc__law_own (fun _ _ _ _ h => h.1) (fun _ _ _ _ _ _ _ _ hr h => ⟨t__law_own K (W K n), PSs.nox (d__law_own T IH hr), h.2⟩), F⟩
    · obtain ⟨fd, F⟩ := T.says.2.def_ 45 (d := D_law)
      exact ⟨fd, F.ok (k := 2 * n + 1) sc_law (fun _ _ _ _ h => h.1) (fun _ _ _ _ _ _ _ _ hr h => ⟨t_law K (W K n), PSs.nox (d_law T IH hr), h.2⟩), F⟩⟩
end
end Pk
set_option Elab.async false
set_option linter.all false
set_option maxRecDepth 100000
set_option maxHeartbeats 0
namespace Pk
open PySem PySem.Spec PyProof.Rows L2 Cw
abbrev R : PySem.W.OpenRow := PySem.W.OpenLaw.row PySem.Challenge.rw_countgen_k40_all_values
abbrev hk : PySem.W.Hook := hookC 5 fa fn exb
def ob (s : PySem.W.SharedT) : AlC := obsCG 5 fa fn exb (HandSHeadRun.getT s)
theorem ob_eq (s : PySem.W.SharedT) : ob s = hk.obs s.abs := obsCG_eq (HandSHeadRun.getT_eq s)
def loose0 : List Str := ["_wall", "CountError", "TooMany", "first_taken", "Maker", "WholeMaker", "TextMaker", "RowMaker", "ManyMaker", "sets_among", "bags_among", "greatest_below", "set_at", "bag_at", "RisingMaker", "UnlikeMaker", "AlikeMaker", "PickMaker", "UseMaker", "maker_of", "Tables", "all_values", "_law_whole", "_law_cell_at", "_law_name", "_law_texts", "_law_numbers", "_law_rows", "_law_lists", "_law_all"]
def loose1 : List Str := ["_law_leaf", "_law_shape", "_law_size", "_law_same", "_law_rows_same", "_law_lists_in", "_law_own"]
def loose : List Str := loose0 ++ loose1
theorem run (w : World) : HandSHeadRun.RunEq R (PySem.W.view R.prog [44]) hk ob 60000 loose w := by
  intro os
  kernel_rfl
end Pk
set_option Elab.async false
set_option linter.all false
set_option maxRecDepth 100000
set_option maxHeartbeats 4000000
/-! St: one lemma a construct, to step through a reading. -/
namespace Cw
open PySem PySem.Spec PyProof.Rows L2
section
variable {K : PySem.W.Frag} {σ : L2.St} {H : Hp} {Q : VK} {D : Ends} {v x y : V} {i j : Int} {a b : Addr} {xs ys : List V} {s z : Str} {te ta tb tc : TE} {r : R2} {t tr : TA} {c u : TT} {ts us : TS} {g : TG} {gs : TGs} {N : L2.St → Hp → Prop} {k : Nat} {B : Bool → Hp → Prop}
/-! heaps -/
theorem upd_old {p : Addr} {o w : HO} (hp : H p = none) (h : H a = some o) : upd H p w a = some o := by rw [upd_ne (ne_of_none h hp)]; exact h
theorem upd_oth {p : Addr} {o w : HO} (hp : a ≠ p) (h : H a = some o) : upd H p w a = some o := by rw [upd_ne hp]; exact h
theorem Same.at {H' : Hp} {o : HO} (e : Same H H') (h : H a = some o) : H' a = some o := e _ _ h
theorem Same.new {H' : Hp} {p : Addr} {o : HO} (e : Same H H') (hp : H' p = none) : Same H (upd H' p o) := e.trans (same_upd hp)
/-- an object that H does not know changes -/
theorem Same.mut {H' : Hp} {p : Addr} {o : HO} (e : Same H H') (hp : H p = none) : Same H (upd H' p o) := fun c w h => by
  rw [upd_ne (ne_of_none h hp)]; exact e _ _ h
/-! expressions -/
theorem vVar {n : Nat} (h : σ[n]? = some (some v)) (q : Q v H) : tVar n σ H Q := ⟨v, h, q⟩
theorem vC (q : Q v H) : tC v σ H Q := q
theorem vOp (q : ta σ H fun x H1 => tb σ H1 fun y H2 => r x y H2 Q) : tOp r ta tb σ H Q := q
theorem vUn {f : V → Hp → VK → Prop} (q : ta σ H fun x H1 => f x H1 Q) : tUn f ta σ H Q := q
theorem vNeg (q : Q (.int (-i)) H) : rNegU (.int i) H Q := q
theorem vAddI (q : Q (.int (i + j)) H) : rAddU K (.int i) (.int j) H Q := q
theorem vAddB {k : Bool} (q : Q (.int (i + b2i k)) H) : rAddU K (.int i) (.bl k) H Q := q
theorem vAddS (h : s.length + z.length ≤ sizeLine) (q : Q (.str (s ++ z)) H) : rAddU K (.str s) (.str z) H Q := ⟨h, q⟩
theorem vAddL (ha : H a = some (.lst xs)) (hb : H b = some (.lst ys)) (hl : xs.length + ys.length ≤ sizeLine) (q : ∀ p, H p = none → Q (.ref p) (upd H p (.lst (xs ++ ys)))) : rAddU K (.ref a) (.ref b) H Q := .inl ⟨_, _, ha, hb, hl, q⟩
theorem vAddT (ha : SqT K H a xs) (hb : SqT K H b ys) (hl : xs.length + ys.length ≤ sizeLine) (q : TupQ K H (xs ++ ys) Q) : rAddU K (.ref a) (.ref b) H Q := .inr ⟨_, _, ha, hb, hl, q⟩
theorem vSub (q : Q (.int (i - j)) H) : rSubU (.int i) (.int j) H Q := q
theorem vMul (h : CMulX i j ∨ CMul i j) (q : Q (.int (i * j)) H) : rMulU K (.int i) (.int j) H Q := ⟨h, q⟩
theorem vRep (ha : H a = some (.lst xs)) (h1 : 0 ≤ j) (h2 : j < 2 ^ 63) (hl : xs.length * j.toNat ≤ sizeLine) (q : ∀ p, H p = none → Q (.ref p) (upd H p (.lst (List.replicate j.toNat xs).flatten))) : rMulU K (.ref a) (.int j) H Q :=
  ⟨_, ha, by omega, h2, hl, q⟩
theorem vDiv (h : CDivP i j) (q : Q (.int (i / j)) H) : rDivU (.int i) (.int j) H Q := ⟨h, q⟩
theorem vMod (h : 0 < j) (q : Q (.int (i % j)) H) : rModU (.int i) (.int j) H Q := ⟨h, q⟩
theorem vPow (h : 0 ≤ j ∧ j ≤ 1000000 ∧ i.natAbs < 2 ^ 64) (q : Q (.int (i ^ j.toNat)) H) : rPowU (.int i) (.int j) H Q := ⟨h, q⟩
theorem vShl (h : CShl i j) (q : Q (.int (i * 2 ^ j.toNat)) H) : rShlU (.int i) (.int j) H Q := ⟨h, q⟩
theorem vShr (h : 0 ≤ j) (q : Q (.int (i / 2 ^ j.toNat)) H) : rShrU (.int i) (.int j) H Q := ⟨h, q⟩
theorem vEqI (q : Q (.bl (decide (i = j))) H) : rEqU K (.int i) (.int j) H Q := .inl ⟨rfl, by
  have e : decide (V.int i = V.int j) = decide (i = j) := by rw [Bool.eq_iff_iff]; simp
  rw [e]; exact q⟩
theorem vEqS (q : Q (.bl (decide (s = z))) H) : rEqU K (.str s) (.str z) H Q := .inl ⟨rfl, by
  have e : decide (V.str s = V.str z) = decide (s = z) := by rw [Bool.eq_iff_iff]; simp
  rw [e]; exact q⟩
theorem vEqB {k l : Bool} (q : Q (.bl (decide (k = l))) H) : rEqU K (.bl k) (.bl l) H Q := .inl ⟨rfl, by
  have e : decide (V.bl k = V.bl l) = decide (k = l) := by rw [Bool.eq_iff_iff]; simp
  rw [e]; exact q⟩
theorem vNeI (q : Q (.bl (!decide (i = j))) H) : rNeU K (.int i) (.int j) H Q := .inl ⟨rfl, by
  have e : decide (V.int i = V.int j) = decide (i = j) := by rw [Bool.eq_iff_iff]; simp
  rw [e]; exact q⟩
theorem vNeS (q : Q (.bl (!decide (s = z))) H) : rNeU K (.str s) (.str z) H Q := .inl ⟨rfl, by
  have e : decide (V.str s = V.str z) = decide (s = z) := by rw [Bool.eq_iff_iff]; simp
  rw [e]; exact q⟩
theorem vEqD {d e : PyData} (h1 : Dp K H x d) (h2 : Dp K H y e) (h3 : SeqAt.shaped d = true) (h4 : SeqAt.shaped e = true) (q : Q (.bl (PyData.eqv d e)) H) : rEqU K x y H Q := .inr ⟨d, e, h1, h2, h3, h4, q⟩
theorem vNeD {d e : PyData} (h1 : Dp K H x d) (h2 : Dp K H y e) (h3 : SeqAt.shaped d = true) (h4 : SeqAt.shaped e = true) (q : Q (.bl (!PyData.eqv d e)) H) : rNeU K x y H Q := .inr ⟨d, e, h1, h2, h3, h4, q⟩
theorem vCmp {p : Int → Int → Bool} (q : Q (.bl (p i j)) H) : rCmpU p (.int i) (.int j) H Q := q
theorem vIsN (q : Q (.bl (decide (x = .non))) H) : rIsNone x .non H Q := ⟨rfl, q⟩
theorem vNotN (q : Q (.bl (!decide (x = .non))) H) : rIsNotNone x .non H Q := ⟨rfl, q⟩
theorem vIsB {k l : Bool} (q : Q (.bl (decide (k = l))) H) : rIsB (.bl k) (.bl l) H Q := ⟨_, _, rfl, rfl, q⟩
theorem vNotB {k l : Bool} (q : Q (.bl (!decide (k = l))) H) : rNotB (.bl k) (.bl l) H Q := ⟨_, _, rfl, rfl, q⟩
theorem vIxL (h : SqL K H a xs) (hi : atI xs i = some v) (q : Q v H) : rIxU K (.ref a) (.int i) H Q := ⟨_, _, .inl h, hi, q⟩
theorem vIxT (h : SqT K H a xs) (hi : atI xs i = some v) (q : Q v H) : rIxU K (.ref a) (.int i) H Q := ⟨_, _, .inr h, hi, q⟩
theorem vIxS {n : Nat} (h : z.length ≤ sizeLine) (hi : atI z.cps.toList i = some n) (q : Q (.str ⟨#[n]⟩) H) : rIxU K (.str z) (.int i) H Q := ⟨_, h, hi, q⟩
theorem vSl {f : V → Option Int → Option Int → Hp → VK → Prop} {tl th : TO} (q : te σ H fun x H1 => tl σ H1 fun l H2 => th σ H2 fun u H3 => f x l u H3 Q) : tSl f te tl th σ H Q := q
theorem vPart {O : Option Int → Hp → Prop} (q : te σ H fun x H1 => ∃ i, x = .int i ∧ O (some i) H1) : tPart te σ H O := q
theorem vPartI {P : Int → Prop} (q : P i) : ∃ k, V.int i = .int k ∧ P k := ⟨_, rfl, q⟩
theorem vNoPart {O : Option Int → Hp → Prop} (q : O none H) : tNoPart σ H O := q
theorem vSlL {lo hi : Option Int} (h : SqL K H a xs) (q : ∀ p, H p = none → Q (.ref p) (upd H p (.lst (cutV xs lo hi)))) : rSlU K (.ref a) lo hi H Q := .inl ⟨_, h, q⟩
theorem vSlT {lo hi : Option Int} (h : SqT K H a xs) (q : TupQ K H (cutV xs lo hi) Q) : rSlU K (.ref a) lo hi H Q := .inr ⟨_, h, q⟩
theorem vSlS {lo hi : Option Int} (h : z.length ≤ sizeLine) (q : Q (.str (cutS z lo hi)) H) : rSlU K (.str z) lo hi H Q := ⟨h, q⟩
theorem vFldE {Cn : Type} {ca : Cn → Addr} {f : Str} (q : ta σ H fun x H1 => rFld ca f x H1 Q) : cFld ca ta f σ H Q := q
theorem vFld {Cn : Type} {ca : Cn → Addr} {f : Str} {cc : Cn} {dx : Addr} {fs : List (Str × V)} (h : H a = some (.ins (ca cc) dx fs)) (hf : fs.lookup f = some v) (q : Q v H) : rFld ca f (.ref a) H Q := ⟨_, _, _, _, h, hf, q⟩
theorem vMethE {Cn Df : Type} {ca : Cn → Addr} {md : Cn → Option Df} {W : Df → Sp} {m : Str} (q : ta σ H fun x H1 => rMeth ca md W m t x σ H1 Q) : cMeth ca md W m ta t σ H Q := q
theorem vMeth {Cn Df : Type} {ca : Cn → Addr} {md : Cn → Option Df} {W : Df → Sp} {m : Str} {cc : Cn} {d : Df} {dx : Addr} {fs : List (Str × V)} (h : H a = some (.ins (ca cc) dx fs)) (hm : md cc = some d) (hl : fs.lookup m = none)
    (q : t σ H fun vs H2 => W d (.ref a :: vs) H2 Q E0) : rMeth ca md W m t (.ref a) σ H Q := ⟨_, _, _, _, h, hm, hl, q⟩
theorem vNil {A : List V → Hp → Prop} (q : A [] H) : tNil σ H A := q
theorem vCons {A : List V → Hp → Prop} (q : ta σ H fun x H1 => tr σ H1 fun xs H2 => A (x :: xs) H2) : tCons ta tr σ H A := q
theorem vCB {f : List V → Hp → VK → Prop} (q : t σ H fun vs H1 => f vs H1 Q) : tCB f t σ H Q := q
theorem vCall {sp : Sp} {E : XK} (q : t σ H fun vs H1 => sp vs H1 Q E) : tCall sp [] E t σ H Q := by
  have e : (fun (vs : List V) (H1 : Hp) => sp (vs ++ []) H1 Q E) = fun vs H1 => sp vs H1 Q E := by funext vs H1; rw [List.append_nil]
  show t σ H fun vs H1 => sp (vs ++ []) H1 Q E
  rw [e]; exact q
theorem vCallD {sp : Sp} {E : XK} {dvs : List V} (q : t σ H fun vs H1 => sp (vs ++ dvs) H1 Q E) : tCall sp dvs E t σ H Q := q
theorem vMake {C : Addr} {sp : Sp} {E : XK} (q : t σ H fun vs H1 => ∀ x dx, H1 x = none → H1 dx = none → dx ≠ x → sp (.ref x :: vs) (upd (upd H1 dx (.own x)) x (.ins C dx [])) (fun v H2 => v = .non ∧ Q (.ref x) H2) E) : tMake C sp [] E t σ H Q := by
  have e : (fun (vs : List V) (H1 : Hp) => ∀ x dx, H1 x = none → H1 dx = none → dx ≠ x → sp (.ref x :: (vs ++ [])) (upd (upd H1 dx (.own x)) x (.ins C dx [])) (fun v H2 => v = .non ∧ Q (.ref x) H2) E) =
    fun vs H1 => ∀ x dx, H1 x = none → H1 dx = none → dx ≠ x → sp (.ref x :: vs) (upd (upd H1 dx (.own x)) x (.ins C dx [])) (fun v H2 => v = .non ∧ Q (.ref x) H2) E := by funext vs H1; rw [List.append_nil]
  show t σ H _
  rw [e]; exact q
theorem vLenL (h : SqL K H a xs) (q : Q (.int xs.length) H) : rLenU K [.ref a] H Q := ⟨_, .inl h, q⟩
theorem vLenT (h : SqT K H a xs) (q : Q (.int xs.length) H) : rLenU K [.ref a] H Q := ⟨_, .inr h, q⟩
theorem vLenS (h : z.length ≤ sizeLine) (q : Q (.int z.length) H) : rLenU K [.str z] H Q := ⟨h, q⟩
theorem vSum {ns : List Int} (h : SqL K H a (ns.map V.int)) (q : Q (.int ns.sum) H) : rSumU K [.ref a] H Q := ⟨_, h, q⟩
theorem vMax2 (q : Q (.int (max i j)) H) : rMax2U [.int i, .int j] H Q := q
theorem vMin2 (q : Q (.int (min i j)) H) : rMin2U [.int i, .int j] H Q := q
theorem vInt (q : Q (.int i) H) : rIntU [.int i] H Q := q
theorem vIntB {k : Bool} (q : Q (.int (if k then 1 else 0)) H) : rIntU [.bl k] H Q := q
theorem vListL (h : SqL K H a xs) (q : ∀ l, H l = none → Q (.ref l) (upd H l (.lst xs))) : rListU K [.ref a] H Q := ⟨_, .inl h, q⟩
theorem vListT (h : SqT K H a xs) (q : ∀ l, H l = none → Q (.ref l) (upd H l (.lst xs))) : rListU K [.ref a] H Q := ⟨_, .inr h, q⟩
theorem vTupleL (h : SqL K H a xs) (q : TupQ K H xs Q) : rTupleU K [.ref a] H Q := ⟨_, .inl h, q⟩
theorem vTupleT (h : SqT K H a xs) (q : TupQ K H xs Q) : rTupleU K [.ref a] H Q := ⟨_, .inr h, q⟩
theorem vDivmod (h : CDivP i j) (q : ∀ p, H p = none → Q (.ref p) (upd H p (.tup [.int (i / j), .int (i % j)]))) : rDivmodU [.int i, .int j] H Q := ⟨h, q⟩
theorem vTup (q : t σ H fun xs H1 => xs.length ≤ sizeLine ∧ ∀ p, H1 p = none → Q (.ref p) (upd H1 p (.tup xs))) : tTup t σ H Q := q
theorem vLst (q : t σ H fun xs H1 => xs.length ≤ sizeLine ∧ ∀ p, H1 p = none → Q (.ref p) (upd H1 p (.lst xs))) : tLst t σ H Q := q
theorem vBM {T : String} {f : V → List V → Hp → VK → Prop} (q : ta σ H fun x H1 => tyV K T x H1 ∧ t σ H1 fun xs H2 => f x xs H2 Q) : tBM K T f ta t σ H Q := q
theorem vBM0 {T : String} {f : V → List V → Hp → VK → Prop} (q : ta σ H fun x H1 => tyV K T x H1 ∧ f x [] H1 Q) : tBM0 K T f ta σ H Q := q
theorem vTyL {P : Prop} (h : H a = some (.lst xs)) (q : P) : tyV K "list" (.ref a) H ∧ P := ⟨.inl ⟨rfl, _, SqL.of h⟩, q⟩
theorem vApp (h : H a = some (.lst xs)) (hl : xs.length < sizeLine) (q : Q .non (upd H a (.lst (xs ++ [v])))) : rAppend (.ref a) [v] H Q := ⟨_, _, _, rfl, rfl, h, hl, q⟩
theorem vExt (h : H a = some (.lst xs)) (hb : H b = some (.lst ys)) (hl : xs.length + ys.length ≤ sizeLine) (q : Q .non (upd H a (.lst (xs ++ ys)))) : rExtend (.ref a) [.ref b] H Q := ⟨_, _, _, _, rfl, rfl, h, hb, hl, q⟩
theorem vClr (h : H a = some (.lst xs)) (q : Q .non (upd H a (.lst []))) : rClear (.ref a) [] H Q := ⟨_, _, rfl, rfl, h, q⟩
/-! tests -/
theorem vTest (q : te σ H fun x H' => ∃ k, x = .bl k ∧ B k H') : tTest te σ H B := q
theorem vTB (q : te σ H fun x H' => ∃ k, x = .bl k ∧ B k H') : tB te σ H B := q
theorem vBl {P : Bool → Prop} {k : Bool} (q : P k) : ∃ l, V.bl k = .bl l ∧ P l := ⟨_, rfl, q⟩
theorem vAnd (q : c σ H fun k H1 => if k = true then u σ H1 B else B false H1) : tAnd c u σ H B := q
theorem vOr (q : c σ H fun k H1 => if k = true then B true H1 else u σ H1 B) : tOr c u σ H B := q
theorem vNot (q : c σ H fun k H1 => B (!k) H1) : tNot c σ H B := q
theorem vAndV (q : ta σ H fun x H1 => ∃ k, x = .bl k ∧ if k = true then tb σ H1 Q else Q (.bl false) H1) : tAndV ta tb σ H Q := q
theorem vOrV (q : ta σ H fun x H1 => ∃ k, x = .bl k ∧ if k = true then Q (.bl true) H1 else tb σ H1 Q) : tOrV ta tb σ H Q := q
theorem vNotV (q : ta σ H fun x H1 => ∃ k, x = .bl k ∧ Q (.bl (!k)) H1) : tNotV ta σ H Q := q
theorem vIfE (q : c σ H fun k H1 => if k = true then ta σ H1 Q else tb σ H1 Q) : tIf c ta tb σ H Q := q
theorem iT {P R : Prop} {k : Bool} (h : k = true) (q : P) : if k = true then P else R := by rw [if_pos h]; exact q
theorem iN {P R : Prop} {k : Bool} (h : k = false) (q : R) : if k = true then P else R := by rw [h]; exact q
theorem iD {P R p : Prop} {inst : Decidable p} (q : p → P) (q' : ¬ p → R) : if decide p = true then P else R := by
  by_cases h : p
  · exact iT (decide_eq_true h) (q h)
  · exact iN (decide_eq_false h) (q' h)
theorem iB {P R : Prop} {k : Bool} (q : k = true → P) (q' : k = false → R) : if k = true then P else R := by
  cases k with
  | true => exact iT rfl (q rfl)
  | false => exact iN rfl (q' rfl)
/-! statements -/
theorem sSeq (q : ts { D with nx := us D } σ H) : tSeq ts us D σ H := q
theorem sAsg (q : te σ H fun x H1 => g x σ H1 D.nx) : tAsg te g D σ H := q
theorem sName {n : Nat} (q : N (σ.set n (some v)) H) : gName n v σ H N := q
theorem sTup {n : Nat} (h : SqT K H a xs) (hl : xs.length = n) (q : gs xs σ H N) : gTup K n gs (.ref a) σ H N := ⟨_, _, rfl, h, hl, q⟩
theorem sCons (q : g v σ H fun σ' H' => gs xs σ' H' N) : gCons g gs (v :: xs) σ H N := ⟨_, _, rfl, q⟩
theorem sNil (q : N σ H) : gNil [] σ H N := ⟨rfl, q⟩
theorem sIf (q : c σ H fun k H1 => if k = true then ts D σ H1 else us D σ H1) : tIfS c ts us D σ H := q
theorem sNext (q : D.nx σ H) : tNext D σ H := q
theorem sRet (q : te σ H D.rt) : tRet te D σ H := q
theorem sRetN (q : D.rt .non H) : tRetN D σ H := q
theorem sDrop (q : te σ H fun _ H1 => D.nx σ H1) : tDrop te D σ H := q
theorem sAug {n : Nat} {ti : TIp} (h : σ[n]? = some (some x)) (q : te σ H fun y H1 => ti x y H1 fun z H2 => D.nx (σ.set n (some z)) H2) : tAug n te ti D σ H := ⟨_, h, q⟩
theorem sIAdd (q : Q (.int (i + j)) H) : rIAdd (.int i) (.int j) H Q := q
theorem sISub (q : Q (.int (i - j)) H) : rISub (.int i) (.int j) H Q := q
theorem sStoE {Cn : Type} {ca : Cn → Addr} {f : Str} {tv : TE} (q : tv σ H fun y H1 => ta σ H1 fun x H2 => rSto ca f x y H2 (D.nx σ)) : cSto ca ta tv f D σ H := q
theorem sSto {Cn : Type} {ca : Cn → Addr} {f : Str} {cc : Cn} {dx : Addr} {fs : List (Str × V)} {M : Hp → Prop} (h : H a = some (.ins (ca cc) dx fs)) (hl : fs.length < 1000) (q : M (upd H a (.ins (ca cc) dx (putF f y fs)))) : rSto ca f (.ref a) y H M := ⟨_, _, _, h, hl, q⟩
theorem sWhile (P : Nat → L2.St → Hp → Prop) (m0 : Nat) (h0 : P m0 σ H) (hs : ∀ m σ H, P m σ H → c σ H fun k H1 => if k = true then ∃ N : L2.St → Hp → Prop, (∀ σ' H', N σ' H' → ∃ m', m' < m ∧ P m' σ' H') ∧ ts { D with nx := N, ct := N, bk := D.nx } σ H1 else D.nx σ H1) :
    tWhile c ts D σ H := ⟨P, ⟨m0, h0⟩, hs⟩
theorem sTurn {P : Nat → L2.St → Hp → Prop} {m : Nat} (q : ts { D with nx := fun σ' H' => ∃ m', m' < m ∧ P m' σ' H', ct := fun σ' H' => ∃ m', m' < m ∧ P m' σ' H', bk := D.nx } σ H) :
    ∃ N : L2.St → Hp → Prop, (∀ σ' H', N σ' H' → ∃ m', m' < m ∧ P m' σ' H') ∧ ts { D with nx := N, ct := N, bk := D.nx } σ H := ⟨_, fun _ _ h => h, q⟩
theorem wAnyL {R : It → Hp → Prop} (h : SqL K H a xs) (q : R (Itl K a) H) : rAny K (.ref a) H R := .inl ⟨_, h, q⟩
theorem wAnyT {R : It → Hp → Prop} (h : SqT K H a xs) (q : R (Itt K a) H) : rAny K (.ref a) H R := .inr ⟨_, h, q⟩
theorem wAnyS {R : It → Hp → Prop} (q : R (Its z) H) : rAny K (.str z) H R := q
theorem wAnyE {R : It → Hp → Prop} (q : te σ H fun x H1 => rAny K x H1 R) : iAny K te σ H R := q
theorem wEnum {R : It → Hp → Prop} (q : t σ H fun vs H1 => ∃ a xs, vs = [.ref a] ∧ SqL K H1 a xs ∧ R (Ite K a) H1) : iEnum K t σ H R := q
theorem wEnumI {R : It → Hp → Prop} (h : SqL K H a xs) (q : R (Ite K a) H) : ∃ a' xs, [V.ref a] = [.ref a'] ∧ SqL K H a' xs ∧ R (Ite K a') H := ⟨_, _, rfl, h, q⟩
theorem vRevE (q : te σ H fun x H1 => rRevU K x H1 Q) : tRevU K te σ H Q := q
theorem vRevS (h : z.length ≤ sizeLine) (q : Q (.str (revS z)) H) : rRevU K (.str z) H Q := ⟨h, q⟩
theorem vRevL (h : SqL K H a xs) (q : ∀ p, H p = none → Q (.ref p) (upd H p (.lst xs.reverse))) : rRevU K (.ref a) H Q := ⟨_, h, q⟩
theorem wRng3 {R : It → Hp → Prop} (q : t σ H fun vs H1 => ∃ (i j c : Int) (n : Nat), vs = [.int i, .int j, .int c] ∧ RgC i j c n ∧ R (Itc i c n) H1) : iRng3 t σ H R := q
theorem vLc {wi : TI} {tt : TT} {vs : List Nat} (q : wi σ H fun J H1 => ∀ D, H1 D = none → ∃ W : Nat → Nat → Hp → Prop, (∃ m, W 0 m (upd H1 D (.lst []))) ∧ ∀ i m H, W i m H →
  (J.stop i H ∧ Q (.ref D) H) ∨ (J.go i H ∧ ∃ Nx : Hp → Prop, (∀ H', Nx H' → ∃ m', m' < m ∧ W (i + 1) m' H') ∧ ∀ x H', J.yld i H x H' → g x (wipe σ vs) H' fun σ2 H2 => wipe σ2 vs = wipe σ vs ∧ tt σ2 H2 fun b H3 =>
    if b = true then te σ2 H3 fun y H4 => ∃ acc, H4 D = some (.lst acc) ∧ acc.length < sizeLine ∧ Nx (upd H4 D (.lst (acc ++ [y]))) else Nx H3)) : tLc wi g tt te vs σ H Q := q
theorem vYes (q : B true H) : tYes σ H B := q
theorem vDGet {td ty : TE} (q : td σ H fun x H1 => ty σ H1 fun y H2 => ∃ a v, x = .ref a ∧ DGet H2 a y (some v) ∧ Q v H2) : tDGet td ty σ H Q := q
theorem dgetS {s : Str} {kvs : List (Key × V)} (h : H a = some (.dK kvs)) (hv : valV kvs (Sum.inr s : Key) = some v) : DGet H a (.str s) (some v) := by rw [← hv]; exact DGet.k (k := (Sum.inr s : Key)) h
theorem wRng1 {R : It → Hp → Prop} (q : t σ H fun vs H1 => ∃ j : Int, vs = [.int j] ∧ -(2 ^ 62) ≤ j ∧ j < 2 ^ 62 ∧ R (Itr 0 j.toNat) H1) : iRng1 t σ H R := q
theorem wRng1I {P : Int → Prop} (q : P i) : ∃ j, [V.int i] = [.int j] ∧ P j := ⟨_, rfl, q⟩
theorem wRng2 {R : It → Hp → Prop} (q : t σ H fun vs H1 => ∃ i j : Int, vs = [.int i, .int j] ∧ (-(2 ^ 62) ≤ i ∧ i < 2 ^ 62 ∧ -(2 ^ 62) ≤ j ∧ j < 2 ^ 62) ∧ R (Itr i (j - i).toNat) H1) : iRng2 t σ H R := q
theorem wRng2I {P : Int → Int → Prop} (q : P i j) : ∃ i' j', [V.int i, V.int j] = [.int i', .int j'] ∧ P i' j' := ⟨_, _, rfl, q⟩
theorem sFor {wi : TI} (q : wi σ H fun J H1 => ∃ W : Nat → Nat → L2.St → Hp → Prop, (∃ m, W 0 m σ H1) ∧ ∀ i m σ H, W i m σ H →
    (J.stop i H ∧ D.nx σ H) ∨ (J.go i H ∧ ∃ N : L2.St → Hp → Prop, (∀ σ' H', N σ' H' → ∃ m', m' < m ∧ W (i + 1) m' σ' H') ∧ ∀ x H', J.yld i H x H' → g x σ H' fun σ2 H2 => ts { D with nx := N, ct := N, bk := D.nx } σ2 H2)) : tFor wi g ts D σ H := q
end
end Cw
set_option Elab.async false
set_option linter.all false
set_option maxRecDepth 100000
set_option maxHeartbeats 4000000
/-! Sem: the values of a shape, size by size, in the order of their numbers. Plain Lean. -/
namespace Cw
open PySem
abbrev DT : Type := PyData
inductive Kd where
  | whole (lo hi : Int) | text (s : Str) | row | pick (ms : List Str) | use (x : Str) | many | rising | unlike | alike (t : Nat)
inductive Sh where
  | nd (k : Kd) (ks : List Sh)
mutual
def Sh.ht : Sh → Nat
  | .nd _ ks => Sh.hts ks + 1
def Sh.hts : List Sh → Nat
  | [] => 0
  | s :: ss => max (Sh.ht s) (Sh.hts ss)
end
abbrev Book : Type := List (Str × Sh)
def look (B : Book) (x : Str) : Sh := (B.lookup x).getD (.nd .row [])
def wholes (lo hi : Int) : Nat → List DT
  | 0 => [.int lo]
  | n + 1 => (List.range (min (hi - lo) (2 * 2 ^ n - 1) - 2 ^ n + 1).toNat).map fun (i : Nat) => .int (lo + 2 ^ n + (i : Int))
def textsS (s : Str) : Nat → List Str
  | 0 => [⟨#[]⟩]
  | n + 1 => (textsS s n).flatMap fun w => s.cps.toList.map fun c => w ++ (⟨#[c]⟩ : Str)
/-- firsts, each with each rest -/
def blocks {α β γ : Type} (A : Nat → List α) (R : Nat → List β) (g : α → β → γ) (m : Nat) : Nat → List γ
  | 0 => []
  | f + 1 => blocks A R g m f ++ (A f).flatMap fun t => (R (m - f)).map (g t)
def rows : List (Nat → List DT) → Nat → List (List DT)
  | [], n => if n = 0 then [[]] else []
  | f :: fs, n => blocks f (rows fs) List.cons n (n + 1)
def picks : List Str → List (Nat → List DT) → Nat → List DT
  | m :: ms, f :: fs, n => (f n).map (fun d => .tuple [.str m, d]) ++ picks ms fs n
  | _, _, _ => []
def consD (t : DT) : DT → DT
  | .list xs => .list (t :: xs)
  | d => d
def kid0 (ks : List (Nat → List DT)) : Nat → List DT := ks.headD fun _ => []
def nx (k : Kd) (n : Nat) (kid : List (Nat → List DT)) (self : Nat → List DT) (nam : Str → Nat → List DT) : List DT := match k with
  | .whole lo hi => wholes lo hi n
  | .text s => (textsS s n).map .str
  | .row => (rows kid n).map .tuple
  | .pick ms => picks ms kid n
  | .use x => if n = 0 then [] else nam x (n - 1)
  | .many => if n = 0 then [.list []] else blocks (kid0 kid) self consD (n - 1) n
  | .alike t => if n < t ∨ n % t ≠ 0 then [] else (kid0 kid (n / t - 1)).map fun d => .list (List.replicate t d)
  | _ => []
mutual
def stepV (B : Book) (n : Nat) (T : Sh → Nat → List DT) : Sh → List DT
  | .nd k ks => nx k n (stepL B n T ks) (T (.nd k ks)) (fun x => T (look B x))
def stepL (B : Book) (n : Nat) (T : Sh → Nat → List DT) : List Sh → List (Nat → List DT)
  | [] => []
  | s :: ss => (fun a => if a < n then T s a else stepV B n T s) :: stepL B n T ss
end
def tb (B : Book) : Nat → Sh → Nat → List DT
  | 0 => fun _ _ => []
  | n + 1 => fun sh a => if a < n then tb B n sh a else stepV B n (tb B n) sh
/-- the values of a shape and size, by their numbers -/
def val (B : Book) (n : Nat) (sh : Sh) : List DT := stepV B n (tb B n) sh
theorem tb_val {B : Book} {sh : Sh} : ∀ {n a : Nat}, a < n → tb B n sh a = val B a sh
  | 0, a, h => absurd h (Nat.not_lt_zero _)
  | n + 1, a, h => by
    show (if a < n then tb B n sh a else stepV B n (tb B n) sh) = _
    by_cases hn : a < n
    · rw [if_pos hn]; exact tb_val hn
    · have e : a = n := by omega
      subst e
      rw [if_neg (Nat.lt_irrefl _)]; rfl
theorem stepL_eq {B : Book} {n : Nat} : ∀ ks : List Sh, stepL B n (tb B n) ks = ks.map fun s a => val B (min a n) s
  | [] => by unfold stepL; rfl
  | s :: ss => by
    unfold stepL
    rw [stepL_eq ss, List.map_cons]
    congr 1
    funext a
    by_cases h : a < n
    · rw [if_pos h, tb_val h, Nat.min_eq_left (Nat.le_of_lt h)]
    · rw [if_neg h, Nat.min_eq_right (by omega)]; rfl
theorem val_eq {B : Book} {n : Nat} {k : Kd} {ks : List Sh} : val B n (.nd k ks) = nx k n (ks.map fun s a => val B (min a n) s) (tb B n (.nd k ks)) (fun x => tb B n (look B x)) := by
  show stepV B n (tb B n) (.nd k ks) = _
  unfold stepV
  rw [stepL_eq]

/-! ### blocks -/
theorem blocks_congr {α β γ : Type} {A A' : Nat → List α} {R R' : Nat → List β} {g : α → β → γ} {m : Nat} : ∀ {f : Nat}, (∀ a, a < f → A a = A' a) → (∀ a, a < f → R (m - a) = R' (m - a)) → blocks A R g m f = blocks A' R' g m f
  | 0, _, _ => rfl
  | f + 1, h, h' => by
    unfold blocks
    rw [blocks_congr (fun a l => h a (by omega)) (fun a l => h' a (by omega)), h f (by omega), h' f (by omega)]
/-- how many come ahead of the f-th block -/
def ahead (cf cr : Nat → Nat) (size : Nat) : Nat → Nat
  | 0 => 0
  | f + 1 => ahead cf cr size f + cf f * cr (size - f)
theorem ahead_mono {cf cr : Nat → Nat} {size : Nat} : ∀ {f g : Nat}, f ≤ g → ahead cf cr size f ≤ ahead cf cr size g := by
  intro f g h
  induction h with
  | refl => exact Nat.le_refl _
  | step h ih => exact Nat.le_trans ih (Nat.le_add_right _ _)
theorem flat_len {α β γ : Type} (g : α → β → γ) (R : List β) : ∀ A : List α, (A.flatMap fun t => R.map (g t)).length = A.length * R.length
  | [] => by simp
  | a :: A => by
    rw [List.flatMap_cons, List.length_append, flat_len g R A, List.length_map, List.length_cons, Nat.succ_mul, Nat.add_comm]
theorem blocks_len {α β γ : Type} {A : Nat → List α} {R : Nat → List β} {g : α → β → γ} {m : Nat} : ∀ f, (blocks A R g m f).length = ahead (fun a => (A a).length) (fun a => (R a).length) m f
  | 0 => rfl
  | f + 1 => by
    unfold blocks ahead
    rw [List.length_append, blocks_len f, flat_len]
theorem flat_get {α β γ : Type} (g : α → β → γ) (R : List β) : ∀ (A : List α) (p r : Nat) (x : α) (y : β), A[p]? = some x → R[r]? = some y → (A.flatMap fun t => R.map (g t))[p * R.length + r]? = some (g x y)
  | [], p, r, x, y, h, _ => by simp at h
  | a :: A, 0, r, x, y, h, h' => by
    have e : a = x := by simpa using h
    subst e
    have hr : r < R.length := (List.getElem?_eq_some_iff.mp h').1
    rw [List.flatMap_cons, Nat.zero_mul, Nat.zero_add, List.getElem?_append_left (by rw [List.length_map]; exact hr), List.getElem?_map, h']
    rfl
  | a :: A, p + 1, r, x, y, h, h' => by
    have ih := flat_get g R A p r x y (by simpa using h) h'
    rw [List.flatMap_cons, List.getElem?_append_right (by rw [List.length_map, Nat.succ_mul]; omega), List.length_map]
    have e : (p + 1) * R.length + r - R.length = p * R.length + r := by rw [Nat.succ_mul]; omega
    rw [e]; exact ih
theorem blocks_get {α β γ : Type} {A : Nat → List α} {R : Nat → List β} {g : α → β → γ} {m : Nat} {f p r : Nat} {x : α} {y : β} (hx : (A f)[p]? = some x) (hy : (R (m - f))[r]? = some y) : ∀ {n : Nat}, f < n →
    (blocks A R g m n)[ahead (fun a => (A a).length) (fun a => (R a).length) m f + p * (R (m - f)).length + r]? = some (g x y)
  | 0, h => absurd h (Nat.not_lt_zero _)
  | n + 1, h => by
    have hp : p < (A f).length := (List.getElem?_eq_some_iff.mp hx).1
    have hr : r < (R (m - f)).length := (List.getElem?_eq_some_iff.mp hy).1
    have hb : p * (R (m - f)).length + r < (A f).length * (R (m - f)).length := by
      have : p * (R (m - f)).length + (R (m - f)).length ≤ (A f).length * (R (m - f)).length := by
        rw [← Nat.succ_mul]; exact Nat.mul_le_mul_right _ hp
      omega
    unfold blocks
    by_cases hf : f < n
    · rw [List.getElem?_append_left, blocks_get hx hy hf]
      rw [blocks_len]
      have := ahead_mono (cf := fun a => (A a).length) (cr := fun a => (R a).length) (size := m) (f := f + 1) (g := n) hf
      have e : ahead (fun a => (A a).length) (fun a => (R a).length) m (f + 1) = ahead (fun a => (A a).length) (fun a => (R a).length) m f + (A f).length * (R (m - f)).length := rfl
      omega
    · have e : f = n := by omega
      subst e
      rw [List.getElem?_append_right (by rw [blocks_len]; omega), blocks_len]
      have e2 : ahead (fun a => (A a).length) (fun a => (R a).length) m f + p * (R (m - f)).length + r - ahead (fun a => (A a).length) (fun a => (R a).length) m f = p * (R (m - f)).length + r := by omega
      rw [e2]
      exact flat_get g _ _ p r x y hx hy
/-- a number by its block -/
theorem split {cf cr : Nat → Nat} {m : Nat} : ∀ {n num : Nat}, num < ahead cf cr m n → ∃ f p r, f < n ∧ p < cf f ∧ r < cr (m - f) ∧ num = ahead cf cr m f + p * cr (m - f) + r
  | 0, _, h => absurd h (Nat.not_lt_zero _)
  | n + 1, num, h => by
    by_cases hn : num < ahead cf cr m n
    · obtain ⟨f, p, r, h1, h2, h3, h4⟩ := split hn
      exact ⟨f, p, r, by omega, h2, h3, h4⟩
    · have h' : num < ahead cf cr m n + cf n * cr (m - n) := h
      have hb : num - ahead cf cr m n < cf n * cr (m - n) := by omega
      have hc : 0 < cr (m - n) := by
        rcases Nat.eq_zero_or_pos (cr (m - n)) with e | e
        · rw [e, Nat.mul_zero] at hb; exact absurd hb (Nat.not_lt_zero _)
        · exact e
      refine ⟨n, (num - ahead cf cr m n) / cr (m - n), (num - ahead cf cr m n) % cr (m - n), Nat.lt_succ_self _, ?_, Nat.mod_lt _ hc, ?_⟩
      · exact Nat.div_lt_of_lt_mul (by rw [Nat.mul_comm]; exact hb)
      · have := Nat.div_add_mod (num - ahead cf cr m n) (cr (m - n))
        rw [Nat.mul_comm] at this
        omega

theorem blocks_inv {α β γ : Type} {A : Nat → List α} {R : Nat → List β} {g : α → β → γ} {m n num : Nat} {z : γ} (h : (blocks A R g m n)[num]? = some z) : ∃ f p r x y, f < n ∧ (A f)[p]? = some x ∧ (R (m - f))[r]? = some y ∧ z = g x y ∧
    num = ahead (fun a => (A a).length) (fun a => (R a).length) m f + p * (R (m - f)).length + r := by
  have hl : num < ahead (fun a => (A a).length) (fun a => (R a).length) m n := by
    rw [← blocks_len (g := g)]
    exact (List.getElem?_eq_some_iff.mp h).1
  obtain ⟨f, p, r, h1, h2, h3, h4⟩ := split hl
  have hx := List.getElem?_eq_getElem h2
  have hy := List.getElem?_eq_getElem h3
  refine ⟨f, p, r, _, _, h1, hx, hy, ?_, h4⟩
  have q := blocks_get (g := g) hx hy h1
  rw [h4] at h
  exact Option.some.inj (h.symm.trans q)

/-! ### rows -/
theorem rows_congr : ∀ {fs gs : List (Nat → List DT)} {m n : Nat}, m ≤ n → fs.length = gs.length → (∀ (i : Nat) (f g : Nat → List DT), fs[i]? = some f → gs[i]? = some g → ∀ a, a ≤ n → f a = g a) → rows fs m = rows gs m
  | [], [], m, n, _, _, _ => rfl
  | [], _ :: _, _, _, _, h, _ => by simp at h
  | _ :: _, [], _, _, _, h, _ => by simp at h
  | f :: fs, g :: gs, m, n, hm, hl, h => by
    unfold rows
    refine blocks_congr (fun a ha => h 0 f g rfl rfl a (by omega)) fun a ha => ?_
    exact rows_congr (n := n) (by omega) (by simpa using hl) fun i f' g' h1 h2 => h (i + 1) f' g' (by simpa using h1) (by simpa using h2)
/-- the rows of the parts ss of a size -/
def rowsV (B : Book) (ss : List Sh) (m : Nat) : List (List DT) := rows (ss.map fun s a => val B a s) m
theorem rowsV_cons {B : Book} {s : Sh} {ss : List Sh} {m : Nat} : rowsV B (s :: ss) m = blocks (fun a => val B a s) (rowsV B ss) List.cons m (m + 1) := by
  unfold rowsV
  rw [List.map_cons]
  rfl
theorem rowsV_nil {B : Book} {m : Nat} : rowsV B [] m = if m = 0 then [[]] else [] := rfl
theorem rows_min {B : Book} {ss : List Sh} {m n : Nat} (h : m ≤ n) : rows (ss.map fun s a => val B (min a n) s) m = rowsV B ss m := by
  unfold rowsV
  refine rows_congr (n := n) h (by simp) fun i f g h1 h2 a ha => ?_
  rw [List.getElem?_map] at h1 h2
  cases e : ss[i]? with
  | none => rw [e] at h1; cases h1
  | some s =>
    rw [e] at h1 h2
    rw [← Option.some.inj h1, ← Option.some.inj h2]
    show val B (min a n) s = val B a s
    rw [Nat.min_eq_left ha]
theorem val_row {B : Book} {n : Nat} {ks : List Sh} : val B n (.nd .row ks) = (rowsV B ks n).map .tuple := by
  rw [val_eq]
  show (rows _ n).map _ = _
  rw [rows_min (Nat.le_refl n)]
theorem val_use {B : Book} {n : Nat} {x : Str} {ks : List Sh} : val B n (.nd (.use x) ks) = if n = 0 then [] else val B (n - 1) (look B x) := by
  rw [val_eq]
  show (if n = 0 then [] else tb B n (look B x) (n - 1)) = _
  by_cases h : n = 0
  · rw [if_pos h, if_pos h]
  · rw [if_neg h, if_neg h, tb_val (by omega)]
theorem val_alike {B : Book} {n t : Nat} {p : Sh} : val B n (.nd (.alike t) [p]) = if n < t ∨ n % t ≠ 0 then [] else (val B (n / t - 1) p).map fun d => .list (List.replicate t d) := by
  rw [val_eq]
  show (if n < t ∨ n % t ≠ 0 then [] else (val B (min (n / t - 1) n) p).map _) = _
  have e : min (n / t - 1) n = n / t - 1 := Nat.min_eq_left (Nat.le_trans (Nat.sub_le _ _) (Nat.div_le_self _ _))
  rw [e]
def picksV (B : Book) : List Str → List Sh → Nat → List DT
  | m :: ms, s :: ss, n => (val B n s).map (fun d => .tuple [.str m, d]) ++ picksV B ms ss n
  | _, _, _ => []
theorem picks_min {B : Book} {n : Nat} : ∀ {ms : List Str} {ss : List Sh}, picks ms (ss.map fun s a => val B (min a n) s) n = picksV B ms ss n
  | [], _ => by unfold picks picksV; rfl
  | m :: ms, [] => by unfold picks picksV; rfl
  | m :: ms, s :: ss => by
    rw [List.map_cons]
    unfold picks picksV
    show (val B (min n n) s).map _ ++ _ = _
    rw [picks_min, Nat.min_self]
theorem val_pick {B : Book} {n : Nat} {ms : List Str} {ks : List Sh} : val B n (.nd (.pick ms) ks) = picksV B ms ks n := by
  rw [val_eq]
  show picks ms _ n = _
  rw [picks_min]
theorem val_many {B : Book} {n : Nat} {p : Sh} : val B n (.nd .many [p]) = if n = 0 then [.list []] else blocks (fun a => val B a p) (fun a => val B a (.nd .many [p])) consD (n - 1) n := by
  rw [val_eq]
  show (if n = 0 then [.list []] else blocks (fun a => val B (min a n) p) (tb B n (.nd .many [p])) consD (n - 1) n) = _
  by_cases h : n = 0
  · rw [if_pos h, if_pos h]
  · rw [if_neg h, if_neg h]
    refine blocks_congr (fun a ha => ?_) fun a ha => tb_val (by omega)
    show val B (min a n) p = val B a p
    rw [Nat.min_eq_left (Nat.le_of_lt ha)]
theorem many_list {B : Book} {p : Sh} : ∀ {n : Nat} {d : DT}, d ∈ val B n (.nd .many [p]) → ∃ ds, d = .list ds := by
  intro n
  induction n using Nat.strongRecOn with
  | _ n ih =>
    intro d h
    rw [val_many] at h
    by_cases hn : n = 0
    · rw [if_pos hn] at h
      exact ⟨[], List.mem_singleton.mp h⟩
    · rw [if_neg hn] at h
      obtain ⟨num, hnum⟩ := List.mem_iff_getElem?.mp h
      obtain ⟨f, q, r, x, y, hf, hx, hy, e, _⟩ := blocks_inv hnum
      obtain ⟨ds, rfl⟩ := ih (n - 1 - f) (by omega) (List.mem_of_getElem? hy)
      exact ⟨x :: ds, e⟩
end Cw
set_option Elab.async false
set_option linter.all false
set_option maxRecDepth 100000
set_option maxHeartbeats 4000000
/-! Mt: the makers in the heap. -/
namespace Pk
open PySem PySem.Spec PyProof.Rows L2 Cw
/-! ### data that stands in the heap, with the addresses of its lists -/
mutual
inductive Own (K : PySem.W.Frag) (H : Hp) : V → DT → List Addr → Prop
  | int (i : Int) : Own K H (.int i) (.int i) []
  | str (x : Str) : Own K H (.str x) (.str x) []
  | tup {a : Addr} {xs : List V} {ds : List DT} {L : List Addr} : SqT K H a xs → OwnL K H xs ds L → Own K H (.ref a) (.tuple ds) L
  | lst {a : Addr} {xs : List V} {ds : List DT} {L : List Addr} : H a = some (.lst xs) → OwnL K H xs ds L → Own K H (.ref a) (.list ds) (a :: L)
inductive OwnL (K : PySem.W.Frag) (H : Hp) : List V → List DT → List Addr → Prop
  | nil : OwnL K H [] [] []
  | cons {v : V} {d : DT} {L : List Addr} {vs : List V} {ds : List DT} {M : List Addr} : Own K H v d L → OwnL K H vs ds M → OwnL K H (v :: vs) (d :: ds) (L ++ M)
end
mutual
theorem Own.mono {K : PySem.W.Frag} {H H' : Hp} (e : Same H H') : ∀ {v : V} {d : DT} {L : List Addr}, Own K H v d L → Own K H' v d L
  | _, _, _, .int i => .int i
  | _, _, _, .str x => .str x
  | _, _, _, .tup h q => .tup (Cw.Same.tup e h) (OwnL.mono e q)
  | _, _, _, .lst h q => .lst (e _ _ h) (OwnL.mono e q)
theorem OwnL.mono {K : PySem.W.Frag} {H H' : Hp} (e : Same H H') : ∀ {vs : List V} {ds : List DT} {L : List Addr}, OwnL K H vs ds L → OwnL K H' vs ds L
  | _, _, _, .nil => .nil
  | _, _, _, .cons h q => .cons (Own.mono e h) (OwnL.mono e q)
end
mutual
theorem Own.dp {K : PySem.W.Frag} {H : Hp} : ∀ {v : V} {d : DT} {L : List Addr}, Own K H v d L → Dp K H v d
  | _, _, _, .int i => .int i
  | _, _, _, .str x => .str x
  | _, _, _, .tup h q => .tup h (OwnL.dp q)
  | _, _, _, .lst h q => .lst (SqL.of h) (OwnL.dp q)
theorem OwnL.dp {K : PySem.W.Frag} {H : Hp} : ∀ {vs : List V} {ds : List DT} {L : List Addr}, OwnL K H vs ds L → DpAll K H vs ds
  | _, _, _, .nil => .nil
  | _, _, _, .cons h q => .cons (Own.dp h) (OwnL.dp q)
end
mutual
/-- the lists are tracked -/
theorem Own.there {K : PySem.W.Frag} {H : Hp} : ∀ {v : V} {d : DT} {L : List Addr}, Own K H v d L → ∀ b ∈ L, ∃ xs, H b = some (.lst xs)
  | _, _, _, .int i, b, hb => by cases hb
  | _, _, _, .str x, b, hb => by cases hb
  | _, _, _, .tup h q, b, hb => OwnL.there q b hb
  | _, _, _, .lst h q, b, hb => by
    rcases List.mem_cons.mp hb with e | hb
    · exact ⟨_, by rw [e]; exact h⟩
    · exact OwnL.there q b hb
theorem OwnL.there {K : PySem.W.Frag} {H : Hp} : ∀ {vs : List V} {ds : List DT} {L : List Addr}, OwnL K H vs ds L → ∀ b ∈ L, ∃ xs, H b = some (.lst xs)
  | _, _, _, .nil, b, hb => by cases hb
  | _, _, _, .cons h q, b, hb => by
    rcases List.mem_append.mp hb with hb | hb
    · exact Own.there h b hb
    · exact OwnL.there q b hb
end
theorem OwnL.snoc {K : PySem.W.Frag} {H : Hp} {v : V} {d : DT} {M : List Addr} (h : Own K H v d M) : ∀ {vs : List V} {ds : List DT} {L : List Addr}, OwnL K H vs ds L → OwnL K H (vs ++ [v]) (ds ++ [d]) (L ++ M)
  | _, _, _, .nil => by
    have q := OwnL.cons h (.nil (K := K) (H := H))
    rw [List.append_nil] at q
    exact q
  | _, _, _, .cons (L := L1) (M := L2) a q => by
    rw [List.append_assoc]
    exact .cons a (OwnL.snoc h q)

/-! ### makers -/
inductive MT where
  | mk (k : Kd) (a dx cl w xa : Addr) (rl : List Addr) (ks : List MT)
def MT.a : MT → Addr
  | .mk _ a _ _ _ _ _ _ => a
def MT.cl : MT → Addr
  | .mk _ _ _ cl _ _ _ _ => cl
def MT.ks : MT → List MT
  | .mk _ _ _ _ _ _ _ ks => ks
mutual
def MT.sh : MT → Sh
  | .mk k _ _ _ _ _ _ ks => .nd k (MT.shs ks)
def MT.shs : List MT → List Sh
  | [] => []
  | m :: ms => MT.sh m :: MT.shs ms
end
theorem shs_map : ∀ ks : List MT, MT.shs ks = ks.map MT.sh
  | [] => by unfold MT.shs; rfl
  | m :: ms => by unfold MT.shs; rw [shs_map ms]; rfl
def xadr (k : Kd) (xa : Addr) : List Addr := match k with
  | .row => [xa]
  | .pick _ => [xa]
  | .rising => [xa]
  | .unlike => [xa]
  | _ => []
mutual
/-- all its objects -/
def MT.adr : MT → List Addr
  | .mk k a _ cl w xa rl ks => a :: cl :: w :: (xadr k xa ++ rl ++ MT.adrs ks)
def MT.adrs : List MT → List Addr
  | [] => []
  | m :: ms => MT.adr m ++ MT.adrs ms
end
mutual
def MT.ht : MT → Nat
  | .mk _ _ _ _ _ _ _ ks => MT.hts ks + 1
def MT.hts : List MT → Nat
  | [] => 0
  | m :: ms => max (MT.ht m) (MT.hts ms)
end
def cls : Kd → Cn
  | .whole _ _ => .WholeMaker
  | .text _ => .TextMaker
  | .row => .RowMaker
  | .pick _ => .PickMaker
  | .use _ => .UseMaker
  | .many => .ManyMaker
  | .rising => .RisingMaker
  | .unlike => .UnlikeMaker
  | .alike _ => .AlikeMaker
def more (k : Kd) (xa nd : Addr) : List (Str × V) := match k with
  | .whole lo hi => [("low", .int lo), ("span", .int (hi - lo))]
  | .text s => [("signs", .str s)]
  | .row => [("rests", .ref xa)]
  | .pick _ => [("marks", .ref xa)]
  | .use x => [("named", .ref nd), ("name", .str x)]
  | .many => []
  | .rising => [("ways", .ref xa)]
  | .unlike => [("ways", .ref xa)]
  | .alike t => [("times", .int t)]
def flds (k : Kd) (cl w xa nd : Addr) : List (Str × V) := ("within", .ref w) :: ("counts", .ref cl) :: more k xa nd
/-- the counts at the first n sizes -/
def cts (f : Nat → Nat) (n : Nat) : List V := (List.range n).map fun j => .int (f j)
def cn (B : Book) (s : Sh) (j : Nat) : Nat := (val B j s).length
/-- how many rows of the parts -/
def rn (B : Book) (ss : List Sh) (j : Nat) : Nat := (rowsV B ss j).length
theorem cts_get {f : Nat → Nat} {n j : Nat} (h : j < n) : (cts f n)[j]? = some (.int (f j)) := by
  unfold cts
  rw [List.getElem?_map, List.getElem?_range h]
  rfl
theorem cts_len {f : Nat → Nat} {n : Nat} : (cts f n).length = n := by unfold cts; simp
theorem cts_snoc {f : Nat → Nat} {n : Nat} : cts f n ++ [.int (f n)] = cts f (n + 1) := by
  unfold cts
  rw [List.range_succ, List.map_append]
  rfl
/-- the lists of a row's counts -/
def rsAt (B : Book) (H : Hp) (n : Nat) (ss : List Sh) (rl : List Addr) : Prop := ∀ (j : Nat) (r : Addr), rl[j]? = some r → H r = some (.lst (cts (rn B (ss.drop j)) n))
def xAt (B : Book) (H : Hp) (n : Nat) (k : Kd) (xa : Addr) (rl : List Addr) (ks : List MT) : Prop := match k with
  | .row => H xa = some (.lst (rl.map V.ref)) ∧ rl.length = ks.length + 1 ∧ ks.length ≤ 1000 ∧ rsAt B H n (MT.shs ks) rl
  | .pick ms => H xa = some (.lst (ms.map V.str)) ∧ ms.length = ks.length ∧ ks.length ≤ 1000 ∧ rl = []
  | .many => (∃ k0, ks = [k0]) ∧ rl = []
  | .alike t => (∃ k0, ks = [k0]) ∧ rl = [] ∧ 0 < t
  | .whole lo hi => lo ≤ hi ∧ rl = []
  | .text s => 0 < s.length ∧ s.length ≤ 100 ∧ rl = []
  | .use x => (B.lookup x).isSome = true ∧ rl = []
  | _ => False
mutual
/-- a maker that has grown n sizes -/
def MkAt (K : PySem.W.Frag) (B : Book) (H : Hp) (nd : Addr) (n : Nat) : MT → Prop
  | .mk k a dx cl w xa rl ks => H a = some (.ins (ca K (cls k)) dx (flds k cl w xa nd)) ∧ H w = some (.lst (ks.map fun m => V.ref m.a)) ∧ H cl = some (.lst (cts (cn B (.nd k (MT.shs ks))) n)) ∧
    xAt B H n k xa rl ks ∧ MkAll K B H nd n ks
def MkAll (K : PySem.W.Frag) (B : Book) (H : Hp) (nd : Addr) (n : Nat) : List MT → Prop
  | [] => True
  | m :: ms => MkAt K B H nd n m ∧ MkAll K B H nd n ms
end
theorem xAt.mono {B : Book} {H H' : Hp} {n : Nat} {k : Kd} {xa : Addr} {rl : List Addr} {ks : List MT} (e : ∀ b ∈ xadr k xa ++ rl, ∀ o, H b = some o → H' b = some o) (h : xAt B H n k xa rl ks) : xAt B H' n k xa rl ks := by
  unfold xAt at *
  cases k with
  | row =>
    obtain ⟨h1, h2, h4, h3⟩ := h
    exact ⟨e _ (by simp [xadr]) _ h1, h2, h4, fun j r hr => e _ (by simp [xadr, List.mem_of_getElem? hr]) _ (h3 j r hr)⟩
  | pick ms => exact ⟨e _ (by simp [xadr]) _ h.1, h.2⟩
  | _ => exact h
mutual
theorem MkAt.mono {K : PySem.W.Frag} {B : Book} {H H' : Hp} {nd : Addr} {n : Nat} : ∀ (m : MT), (∀ b ∈ m.adr, ∀ o, H b = some o → H' b = some o) → MkAt K B H nd n m → MkAt K B H' nd n m
  | .mk k a dx cl w xa rl ks, e, h => by
    unfold MkAt at *
    obtain ⟨h1, h2, h3, h4, h5⟩ := h
    unfold MT.adr at e
    refine ⟨e _ (by simp) _ h1, e _ (by simp) _ h2, e _ (by simp) _ h3, h4.mono fun b hb => e b ?_, MkAll.mono ks (fun b hb => e b ?_) h5⟩
    · rcases List.mem_append.mp hb with hb | hb <;> simp [hb]
    · simp [hb]
theorem MkAll.mono {K : PySem.W.Frag} {B : Book} {H H' : Hp} {nd : Addr} {n : Nat} : ∀ (ms : List MT), (∀ b ∈ MT.adrs ms, ∀ o, H b = some o → H' b = some o) → MkAll K B H nd n ms → MkAll K B H' nd n ms
  | [], _, h => h
  | m :: ms, e, h => by
    unfold MkAll at *
    unfold MT.adrs at e
    exact ⟨MkAt.mono m (fun b hb => e b (by simp [hb])) h.1, MkAll.mono ms (fun b hb => e b (by simp [hb])) h.2⟩
end
theorem MkAt.same {K : PySem.W.Frag} {B : Book} {H H' : Hp} {nd : Addr} {n : Nat} {m : MT} (e : Same H H') (h : MkAt K B H nd n m) : MkAt K B H' nd n m := h.mono m fun b _ o q => e b o q
theorem MkAll.get {K : PySem.W.Frag} {B : Book} {H : Hp} {nd : Addr} {n : Nat} : ∀ {ms : List MT} {i : Nat} {m : MT}, MkAll K B H nd n ms → ms[i]? = some m → MkAt K B H nd n m
  | [], i, m, _, h => by simp at h
  | m :: ms, 0, m', h, e => by
    have : m = m' := by simpa using e
    subst this
    unfold MkAll at h; exact h.1
  | m :: ms, i + 1, m', h, e => by
    unfold MkAll at h
    exact MkAll.get h.2 (by simpa using e)

theorem adrs_mem {b : Addr} : ∀ {ks : List MT} {i : Nat} {m : MT}, ks[i]? = some m → b ∈ m.adr → b ∈ MT.adrs ks
  | [], i, m, h, _ => by simp at h
  | k :: ks, 0, m, h, hb => by
    have : k = m := by simpa using h
    subst this
    unfold MT.adrs
    exact List.mem_append_left _ hb
  | k :: ks, i + 1, m, h, hb => by
    unfold MT.adrs
    exact List.mem_append_right _ (adrs_mem (by simpa using h) hb)
theorem adrs_sub : ∀ {ks : List MT} {i : Nat} {m : MT}, ks[i]? = some m → (MT.adrs ks).Nodup → m.adr.Nodup
  | [], i, m, h, _ => by simp at h
  | k :: ks, 0, m, h, hn => by
    have : k = m := by simpa using h
    subst this
    unfold MT.adrs at hn
    exact (List.nodup_append.mp hn).1
  | k :: ks, i + 1, m, h, hn => by
    unfold MT.adrs at hn
    exact adrs_sub (by simpa using h) (List.nodup_append.mp hn).2.1
theorem adrs_disj {b : Addr} : ∀ {ks : List MT} {i j : Nat} {m m' : MT}, (MT.adrs ks).Nodup → ks[i]? = some m → ks[j]? = some m' → i ≠ j → b ∈ m.adr → b ∉ m'.adr
  | [], i, j, m, m', _, h, _, _, _ => by simp at h
  | k :: ks, 0, 0, m, m', _, _, _, hij, _ => absurd rfl hij
  | k :: ks, 0, j + 1, m, m', hn, h, h', _, hb => by
    have : k = m := by simpa using h
    subst this
    unfold MT.adrs at hn
    intro z
    exact (List.nodup_append.mp hn).2.2 b hb b (adrs_mem (by simpa using h') z) rfl
  | k :: ks, i + 1, 0, m, m', hn, h, h', _, hb => by
    have : k = m' := by simpa using h'
    subst this
    unfold MT.adrs at hn
    intro z
    exact (List.nodup_append.mp hn).2.2 b z b (adrs_mem (by simpa using h) hb) rfl
  | k :: ks, i + 1, j + 1, m, m', hn, h, h', hij, hb => by
    unfold MT.adrs at hn
    exact adrs_disj (List.nodup_append.mp hn).2.1 (by simpa using h) (by simpa using h') (fun e => hij (by rw [e])) hb
/-! ### all counts are small -/
/-- a count is small -/
def Sm (x : Nat) : Prop := x < 2 ^ 4000
mutual
def SmS (B : Book) (N : Nat) : Sh → Prop
  | .nd k ks => (∀ j, j < N → Sm (cn B (.nd k ks) j)) ∧ (∀ i j, j < N → Sm (rn B (ks.drop i) j)) ∧ SmL B N ks
def SmL (B : Book) (N : Nat) : List Sh → Prop
  | [] => True
  | s :: ss => SmS B N s ∧ SmL B N ss
end
theorem SmL.get {B : Book} {N : Nat} : ∀ {ss : List Sh} {i : Nat} {s : Sh}, SmL B N ss → ss[i]? = some s → SmS B N s
  | [], i, s, _, h => by simp at h
  | s :: ss, 0, s', h, e => by
    have : s = s' := by simpa using e
    subst this
    unfold SmL at h; exact h.1
  | s :: ss, i + 1, s', h, e => by
    unfold SmL at h
    exact SmL.get h.2 (by simpa using e)
theorem SmS.cn {B : Book} {N : Nat} {s : Sh} {j : Nat} (h : SmS B N s) (hj : j < N) : Sm (Pk.cn B s j) := by
  cases s with
  | nd k ks => unfold SmS at h; exact h.1 j hj
mutual
theorem smS_le {B : Book} {N N' : Nat} (h : N' ≤ N) : ∀ {s : Sh}, SmS B N s → SmS B N' s
  | .nd k ks, q => by
    unfold SmS at *
    exact ⟨fun j hj => q.1 j (by omega), fun i j hj => q.2.1 i j (by omega), smL_le h q.2.2⟩
theorem smL_le {B : Book} {N N' : Nat} (h : N' ≤ N) : ∀ {ss : List Sh}, SmL B N ss → SmL B N' ss
  | [], q => by unfold SmL; trivial
  | s :: ss, q => by
    unfold SmL at *
    exact ⟨smS_le h q.1, smL_le h q.2⟩
end
/-! ### the book's makers -/
def bk (nms : List (Str × MT)) : Book := nms.map fun p => (p.1, p.2.sh)
structure NmAt (K : PySem.W.Frag) (H : Hp) (nd : Addr) (N : Nat) (nms : List (Str × MT)) : Prop where
  dict : H nd = some (.dK (nms.map fun p => ((Sum.inr p.1 : Key), V.ref p.2.a)))
  at_ : ∀ p ∈ nms, MkAt K (bk nms) H nd N p.2
  sm : ∀ p ∈ nms, SmS (bk nms) N p.2.sh
theorem NmAt.same {K : PySem.W.Frag} {H H' : Hp} {nd : Addr} {N : Nat} {nms : List (Str × MT)} (e : Same H H') (h : NmAt K H nd N nms) : NmAt K H' nd N nms :=
  ⟨e _ _ h.dict, fun p hp => (h.at_ p hp).same e, h.sm⟩
/-! ### an own list of values changes another list -/
mutual
theorem Own.upd {K : PySem.W.Frag} {H : Hp} {f : Addr} {ys zs : List V} (hf : H f = some (.lst ys)) : ∀ {v : V} {d : DT} {L : List Addr}, f ∉ L → Own K H v d L → Own K (L2.upd H f (.lst zs)) v d L
  | _, _, _, _, .int i => .int i
  | _, _, _, _, .str x => .str x
  | _, _, _, hn, .tup h q => by
    refine .tup ?_ (OwnL.upd hf hn q)
    rcases h with (h | ⟨o, h⟩) | h
    · exact .inl (.inl (by rw [upd_ne (ne_of h hf (by intro z; cases z))]; exact h))
    · exact .inl (.inr ⟨o, by rw [upd_ne (ne_of h hf (by intro z; cases z))]; exact h⟩)
    · exact .inr h
  | _, _, _, hn, .lst h q => by
    refine .lst ?_ (OwnL.upd hf (fun z => hn (List.mem_cons_of_mem _ z)) q)
    rw [upd_ne (fun z => hn (by rw [z]; exact List.mem_cons_self))]
    exact h
theorem OwnL.upd {K : PySem.W.Frag} {H : Hp} {f : Addr} {ys zs : List V} (hf : H f = some (.lst ys)) : ∀ {vs : List V} {ds : List DT} {L : List Addr}, f ∉ L → OwnL K H vs ds L → OwnL K (L2.upd H f (.lst zs)) vs ds L
  | _, _, _, _, .nil => .nil
  | _, _, _, hn, .cons h q => .cons (Own.upd hf (fun z => hn (List.mem_append_left _ z)) h) (OwnL.upd hf (fun z => hn (List.mem_append_right _ z)) q)
end
theorem SqT.upd {K : PySem.W.Frag} {H : Hp} {f b : Addr} {ys zs xs : List V} (hf : H f = some (.lst ys)) (h : SqT K H b xs) : SqT K (L2.upd H f (.lst zs)) b xs := by
  rcases h with (h | ⟨o, h⟩) | h
  · exact .inl (.inl (by rw [upd_ne (ne_of h hf (by intro z; cases z))]; exact h))
  · exact .inl (.inr ⟨o, by rw [upd_ne (ne_of h hf (by intro z; cases z))]; exact h⟩)
  · exact .inr h
/-! ### enumerate -/
theorem for_enum {K : PySem.W.Frag} {a : Addr} {xs : List V} {g : TG} {tb : TS} {D : Ends} {σ : L2.St} {H : Hp} (Pv : Nat → L2.St → Hp → Prop) (h0 : Pv 0 σ H) (hl : ∀ i σ H, i ≤ xs.length → Pv i σ H → SqL K H a xs)
    (hs : ∀ i x T σ H, xs[i]? = some x → Pv i σ H → H T = none → g (.ref T) σ (L2.upd H T (.tup [.int (i : Nat), x])) fun σ2 H2 => tb { D with nx := Pv (i + 1), ct := Pv (i + 1), bk := D.nx } σ2 H2) (hd : ∀ σ H, Pv xs.length σ H → D.nx σ H) :
    ∃ W : Nat → Nat → L2.St → Hp → Prop, (∃ m, W 0 m σ H) ∧ ∀ i m σ H, W i m σ H →
      ((Ite K a).stop i H ∧ D.nx σ H) ∨ ((Ite K a).go i H ∧ ∃ N : L2.St → Hp → Prop, (∀ σ' H', N σ' H' → ∃ m', m' < m ∧ W (i + 1) m' σ' H') ∧ ∀ x H', (Ite K a).yld i H x H' → g x σ H' fun σ2 H2 => tb { D with nx := N, ct := N, bk := D.nx } σ2 H2) := by
  refine ⟨fun i m σ H => m = xs.length - i ∧ i ≤ xs.length ∧ Pv i σ H, ⟨xs.length, by simp, Nat.zero_le _, h0⟩, ?_⟩
  rintro i m σ H ⟨rfl, hi, p⟩
  have q := hl i σ H hi p
  by_cases hlt : i < xs.length
  · refine .inr ⟨⟨xs, xs[i], q, List.getElem?_eq_getElem hlt⟩, Pv (i + 1), fun σ' H' p' => ⟨xs.length - (i + 1), by omega, rfl, hlt, p'⟩, fun x H' y => ?_⟩
    obtain ⟨T, z, rfl, hT, rfl, hz⟩ := y
    exact hs i z T σ H (hz xs q) p hT
  · have e : i = xs.length := by omega
    subst e
    exact .inl ⟨⟨xs, q, Nat.le_refl _⟩, hd σ H p⟩
end Pk
set_option Elab.async false
set_option linter.all false
set_option maxRecDepth 100000
set_option maxHeartbeats 4000000
/-! Told1: first_taken; the values of whole numbers and of texts. -/
namespace Pk
open PySem PySem.Spec PyProof.Rows L2 Cw
local macro_rules | `(tactic| tm_at "h") => `(tactic| first
  | assumption
  | exact upd_same
  | ((with_reducible refine' upd_old ?h1 ?h2); (case h1 => assumption); (case h2 => tm_at "h"))
  | ((with_reducible refine' upd_oth ?h1 ?h2); (case h1 => first | assumption | (exact Ne.symm (by assumption)) | (exact ne_of_none (by assumption) (by assumption)) | (exact Ne.symm (ne_of_none (by assumption) (by assumption)))); (case h2 => tm_at "h"))
  | ((refine' Same.at (by assumption) ?h3); (case h3 => tm_at "h")))
local macro_rules | `(tactic| tm_at "l") => `(tactic| first
  | assumption
  | exact SqL.of (by tm_at "h")
  | exact SqT.of (by tm_at "h")
  | exact Same.seq (by assumption) (by tm_at "l")
  | exact Cw.Same.tup (by assumption) (by tm_at "l"))
local macro_rules | `(tactic| tm_at "b") => `(tactic| first
  | rfl
  | decide
  | exact decide_eq_true (by first | assumption | rfl | omega)
  | exact decide_eq_false (by first | assumption | omega))
local macro_rules | `(tactic| tm_at "w1") => `(tactic| first
  | ((with_reducible refine' vVar ?h1 ?_); (case h1 => rfl))
  | with_reducible refine' sSeq ?_
  | with_reducible refine' sAsg ?_
  | with_reducible refine' sName ?_
  | with_reducible refine' vOp ?_
  | with_reducible refine' vC ?_
  | with_reducible refine' vCons ?_
  | with_reducible refine' vNil ?_
  | with_reducible refine' vCB ?_
  | with_reducible refine' vFldE ?_
  | with_reducible refine' vAddI ?_
  | with_reducible refine' vSub ?_
  | with_reducible refine' vCmp ?_
  | with_reducible refine' vEqI ?_
  | with_reducible refine' vEqS ?_
  | with_reducible refine' vNeI ?_
  | with_reducible refine' sIf ?_
  | with_reducible refine' vTest ?_
  | with_reducible refine' vTB ?_
  | with_reducible refine' vBl ?_
  | with_reducible refine' sRet ?_
  | with_reducible refine' sDrop ?_
  | with_reducible refine' sNext ?_
  | ((with_reducible refine' iT ?h1 ?_); (case h1 => tm_at "b"))
  | ((with_reducible refine' iN ?h1 ?_); (case h1 => tm_at "b"))
  | with_reducible refine' vMethE ?_
  | with_reducible refine' vCall ?_
  | with_reducible refine' vAnd ?_
  | with_reducible refine' vOr ?_
  | with_reducible refine' vNot ?_
  | with_reducible refine' vAndV ?_
  | with_reducible refine' vOrV ?_
  | with_reducible refine' vNotV ?_
  | with_reducible refine' vIfE ?_
  | with_reducible refine' vTup ?_
  | with_reducible refine' vLst ?_
  | with_reducible refine' vBM ?_
  | with_reducible refine' vBM0 ?_
  | with_reducible refine' vMax2 ?_
  | with_reducible refine' vMin2 ?_
  | with_reducible refine' vInt ?_
  | with_reducible refine' vIntB ?_
  | with_reducible refine' vUn ?_
  | with_reducible refine' vNeg ?_
  | ((with_reducible refine' sAug ?h1 ?_); (case h1 => rfl))
  | with_reducible refine' sIAdd ?_
  | with_reducible refine' sISub ?_
  | with_reducible refine' sStoE ?_
  | ((with_reducible refine' vFld ?h1 ?h2 ?_); (case h1 => tm_at "h"); (case h2 => rfl))
  | ((with_reducible refine' sSto ?h1 ?h2 ?_); (case h1 => tm_at "h"); (case h2 => first | (show 0 < 1000; decide) | (show 1 < 1000; decide) | (show 2 < 1000; decide) | (show 3 < 1000; decide) | (show 4 < 1000; decide) | (show 5 < 1000; decide)))
  | ((with_reducible refine' vLenL ?h1 ?_); (case h1 => tm_at "l"))
  | ((with_reducible refine' vLenT ?h1 ?_); (case h1 => tm_at "l"))
  | with_reducible refine' vSl ?_
  | with_reducible refine' vPart ?_
  | with_reducible refine' vPartI ?_
  | with_reducible refine' vNoPart ?_
  | with_reducible refine' sCons ?_
  | with_reducible refine' sNil ?_
  | with_reducible refine' wAnyE ?_
  | with_reducible refine' wRng1 ?_
  | with_reducible refine' wRng3 ?_
  | with_reducible refine' vRevE ?_
  | with_reducible refine' wEnum ?_
  | with_reducible refine' vDGet ?_
  | with_reducible refine' wRng2 ?_
  | with_reducible refine' wRng1I ?_
  | with_reducible refine' wRng2I ?_
  | with_reducible refine' sFor ?_
  | ((with_reducible refine' sTup ?h1 ?h2 ?_); (case h1 => tm_at "l"); (case h2 => rfl))
  | ((with_reducible refine' vTyL ?h1 ?_); (case h1 => tm_at "h"))
  | ((refine' vMod ?h1 ?_); (case h1 => (show (0 : Int) < _; omega)))
  | fail "stuck")
local macro_rules | `(tactic| tm_at "w") => `(tactic| repeat tm_at "w1")
theorem Sm.mul {x y : Nat} (hx : Sm x) (hy : Sm y) : CMulX (x : Int) (y : Int) ∨ CMul (x : Int) (y : Int) := .inl (mulx_ok (a := 4000) (b := 4000) (by rw [Int.natAbs_natCast]; exact hx) (by rw [Int.natAbs_natCast]; exact hy) (by decide))
theorem Sm.le {x : Nat} (h : x ≤ 1000) : Sm x := Nat.lt_of_lt_of_le (by omega : x < 2 ^ 10) (Nat.pow_le_pow_right (by decide) (by decide))
theorem Sm.div {i : Int} {y : Nat} (hy : Sm y) (h : 0 < y) : CDivP i (y : Int) :=
  ⟨by omega, PyProof.noPylong_of_log2 (Nat.lt_of_lt_of_le (PySem.Flt.log2_lt_of (by decide) (show ((y : Int)).natAbs < 2 ^ 4000 by rw [Int.natAbs_natCast]; exact hy)) (by decide))⟩
theorem at_map {cf : Nat → Nat} {F : List V} {f : Nat} (h : F[f]? = some (.int (cf f))) : atI F (f : Int) = some (.int (cf f)) := atI_nat h
section
variable {K : PySem.W.Frag} {n : Nat} {H : Hp} {Q : VK} {E : XK}
theorem w_first_taken {fa ra : Addr} {F R : List V} {cf cr : Nat → Nat} {size first place rest : Nat} {num : Nat} (hF : SqL K H fa F) (hR : SqL K H ra R) (hf : first ≤ size)
    (aF : ∀ f, f ≤ size → F[f]? = some (.int (cf f))) (aR : ∀ f, f ≤ size → R[f]? = some (.int (cr f))) (sF : ∀ f, f ≤ size → Sm (cf f)) (sR : ∀ f, f ≤ size → Sm (cr f))
    (hp : place < cf first) (hr : rest < cr (size - first)) (hn : num = ahead cf cr size first + place * cr (size - first) + rest)
    (q : ∀ p H', Same H H' → H' p = some (.tup [.int first, .int place, .int rest]) → Q (.ref p) H') :
    W K (n + 1) .first_taken [.ref fa, .ref ra, .int size, .int num] H Q E := by
  refine ⟨rfl, ?_⟩
  show t_first_taken K (W K n) _ _ _
  unfold t_first_taken
  tm_at "w"
  refine sWhile (fun m σ H1 => ∃ f : Nat, m = first - f ∧ f ≤ first ∧ H1 = H ∧ σ = [some (.ref fa), some (.ref ra), some (.int size), some (.int ((num - ahead cf cr size f : Nat) : Int)), some (.int f), none, none]) first
    ⟨0, rfl, Nat.zero_le _, rfl, by rfl⟩ ?_
  rintro m σ H1 ⟨f, rfl, hff, rfl, rfl⟩
  have hfs : f ≤ size := by omega
  have e1 : (size : Int) - (f : Int) = ((size - f : Nat) : Int) := by omega
  have hm := ahead_mono (cf := cf) (cr := cr) (size := size) hff
  tm_at "w"
  refine vIxL hF (at_map (aF f hfs)) ?_
  tm_at "w"
  rw [e1]
  refine vIxL hR (at_map (aR (size - f) (by omega))) ?_
  refine vMul (Sm.mul (sF f hfs) (sR _ (by omega))) ?_
  tm_at "w"
  refine iD (fun hd => ?_) (fun hd => ?_)
  · have hlt : f < first := by
      rcases Nat.lt_or_ge f first with h | h
      · exact h
      · exfalso
        have : f = first := by omega
        subst this
        have h1 : place * cr (size - f) + rest < cf f * cr (size - f) := by
          have h2 : place * cr (size - f) + cr (size - f) ≤ cf f * cr (size - f) := by
            rw [← Nat.succ_mul]; exact Nat.mul_le_mul_right _ hp
          omega
        rw [← Int.natCast_mul] at hd
        omega
    have hm1 := ahead_mono (cf := cf) (cr := cr) (size := size) (f := f + 1) (g := first) hlt
    have e2 : ahead cf cr size (f + 1) = ahead cf cr size f + cf f * cr (size - f) := rfl
    refine sTurn ?_
    tm_at "w"
    refine vIxL hF (at_map (aF f hfs)) ?_
    tm_at "w"
    rw [e1]
    refine vIxL hR (at_map (aR (size - f) (by omega))) ?_
    refine vMul (Sm.mul (sF f hfs) (sR _ (by omega))) ?_
    tm_at "w"
    refine ⟨first - (f + 1), by omega, f + 1, rfl, hlt, rfl, ?_⟩
    rw [← Int.natCast_mul]
    have e3 : ((num - ahead cf cr size f : Nat) : Int) - ((cf f * cr (size - f) : Nat) : Int) = ((num - ahead cf cr size (f + 1) : Nat) : Int) := by rw [e2]; omega
    rw [e3]
    rfl
  · have hfe : f = first := by
      rcases Nat.lt_or_ge f first with h | h
      · exfalso
        have hm1 := ahead_mono (cf := cf) (cr := cr) (size := size) (f := f + 1) (g := first) h
        have e2 : ahead cf cr size (f + 1) = ahead cf cr size f + cf f * cr (size - f) := rfl
        rw [← Int.natCast_mul] at hd
        omega
      · omega
    subst hfe
    have e3 : num - ahead cf cr size f = place * cr (size - f) + rest := by omega
    have hpos : 0 < cr (size - f) := by omega
    dsimp only
    tm_at "w"
    rw [e1]
    refine vIxL hR (at_map (aR (size - f) (by omega))) ?_
    tm_at "w"
    refine vDivmod (Sm.div (sR _ (by omega)) hpos) fun p np => ?_
    rw [e3]
    have d1 : (((place * cr (size - f) + rest : Nat)) : Int) / ((cr (size - f) : Nat) : Int) = (place : Int) := by
      rw [← Int.natCast_ediv]
      congr 1
      rw [Nat.mul_comm, Nat.mul_add_div hpos, Nat.div_eq_of_lt hr, Nat.add_zero]
    have d2 : (((place * cr (size - f) + rest : Nat)) : Int) % ((cr (size - f) : Nat) : Int) = (rest : Int) := by
      rw [← Int.natCast_emod]
      congr 1
      rw [Nat.mul_comm, Nat.mul_add_mod, Nat.mod_eq_of_lt hr]
    rw [d1, d2]
    tm_at "w"
    refine ⟨by show 3 ≤ sizeLine; decide, fun p2 np2 => ?_⟩
    exact q p2 _ ((same_upd np).trans (same_upd np2)) upd_same
end

/-! ### what is told -/
/-- told of a maker: the value at a number, its lists new ones, no two at one place -/
def tdf : Kd → Df
  | .whole _ _ => .WholeMaker_told
  | .text _ => .TextMaker_told
  | .row => .RowMaker_told
  | .pick _ => .PickMaker_told
  | .use _ => .UseMaker_told
  | .many => .ManyMaker_told
  | .alike _ => .AlikeMaker_told
  | _ => .Maker_told
def MT.k : MT → Kd
  | .mk k _ _ _ _ _ _ _ => k
theorem md_told_k {K : PySem.W.Frag} {B : Book} {H : Hp} {nd : Addr} {N : Nat} {mt : MT} (h : MkAt K B H nd N mt) : ∃ dx w xa, H mt.a = some (.ins (ca K (cls mt.k)) dx (flds mt.k mt.cl w xa nd)) ∧ md_told (cls mt.k) = some (tdf mt.k) := by
  cases mt with
  | mk k a dx cl w xa rl ks =>
    unfold MkAt at h
    refine ⟨dx, w, xa, h.1, ?_⟩
    have hx := h.2.2.2.1
    cases k with
    | rising => exact hx.elim
    | unlike => exact hx.elim
    | _ => rfl
theorem vTold {K : PySem.W.Frag} {B : Book} {H : Hp} {nd : Addr} {N m : Nat} {mt : MT} {t : TA} {σ : L2.St} {Q : VK} (h : MkAt K B H nd N mt) (q : t σ H fun vs H2 => W K m (tdf mt.k) (.ref mt.a :: vs) H2 Q E0) : rMeth (ca K) md_told (W K m) "told" t (.ref mt.a) σ H Q := by
  obtain ⟨dx, w, xa, h1, h2⟩ := md_told_k h
  exact vMeth h1 h2 (by cases mt.k <;> rfl) q
theorem vCnt {K : PySem.W.Frag} {B : Book} {H : Hp} {nd : Addr} {N : Nat} {mt : MT} {Q : VK} (h : MkAt K B H nd N mt) (q : Q (.ref mt.cl) H) : rFld (ca K) "counts" (.ref mt.a) H Q := by
  obtain ⟨dx, w, xa, h1, h2⟩ := md_told_k h
  exact vFld h1 (by cases mt.k <;> rfl) q
theorem MkAt.cnt {K : PySem.W.Frag} {B : Book} {H : Hp} {nd : Addr} {N : Nat} {mt : MT} (h : MkAt K B H nd N mt) : H mt.cl = some (.lst (cts (cn B mt.sh) N)) := by
  cases mt with
  | mk k a dx cl w xa rl ks =>
    unfold MkAt at h
    exact h.2.2.1
/-- v is a new value d -/
def NewQ (K : PySem.W.Frag) (H : Hp) (d : DT) (Q : VK) : Prop := ∀ v H' L, Same H H' → Own K H' v d L → L.Nodup → (∀ b ∈ L, H b = none) → Q v H'
theorem NewQ.int {K : PySem.W.Frag} {H H' : Hp} {i : Int} {Q : VK} (q : NewQ K H (.int i) Q) (s : Same H H') : Q (.int i) H' := q _ H' [] s (.int i) List.nodup_nil (by simp)
theorem NewQ.str {K : PySem.W.Frag} {H H' : Hp} {i : Str} {Q : VK} (q : NewQ K H (.str i) Q) (s : Same H H') : Q (.str i) H' := q _ H' [] s (.str i) List.nodup_nil (by simp)
theorem two_pow_le {n : Nat} : (1 : Int) ≤ 2 ^ n := by
  have : 0 < 2 ^ n := Nat.two_pow_pos n
  have e : ((2 ^ n : Nat) : Int) = (2 : Int) ^ n := by simp
  omega
theorem shl_one {n : Nat} (h : n ≤ 1000000) : CShl 1 (n : Int) := shl_ok (n := 1) (by decide) (by omega)
section
variable {K : PySem.W.Frag} {B : Book} {n N : Nat} {H : Hp} {Q : VK} {E : XK} {nd a dx cl w xa : Addr} {rl : List Addr} {ks : List MT} {size num : Nat} {d : DT}
theorem w_Whole_told {lo hi : Int} (M : MkAt K B H nd N (.mk (.whole lo hi) a dx cl w xa rl ks)) (hs : size ≤ 1000) (hd : (val B size (.nd (.whole lo hi) (MT.shs ks)))[num]? = some d) (q : NewQ K H d Q) :
    W K (n + 1) .WholeMaker_told [.ref a, .int size, .int num] H Q E := by
  unfold MkAt at M
  obtain ⟨h1, _⟩ := M
  rw [val_eq] at hd
  change (wholes lo hi size)[num]? = some d at hd
  refine ⟨rfl, ?_⟩
  show t_WholeMaker_told K (W K n) _ _ _
  unfold t_WholeMaker_told
  cases size with
  | zero =>
    have e : num = 0 ∧ d = .int lo := by
      unfold wholes at hd
      cases num with
      | zero => exact ⟨rfl, (by simpa using hd.symm)⟩
      | succ k => simp at hd
    obtain ⟨rfl, rfl⟩ := e
    tm_at "w"
    exact q.int (Same.refl H)
  | succ m =>
    have e : d = .int (lo + 2 ^ m + (num : Int)) := by
      unfold wholes at hd
      rw [List.getElem?_map] at hd
      cases hr : (List.range (min (hi - lo) (2 * 2 ^ m - 1) - 2 ^ m + 1).toNat)[num]? with
      | none => rw [hr] at hd; cases hd
      | some k =>
        rw [hr] at hd
        have hk : k = num := by
          have := (List.getElem?_eq_some_iff.mp hr).2
          simp at this
          exact this.symm
        subst hk
        exact (Option.some.inj hd).symm
    subst e
    tm_at "w"
    have e1 : ((m + 1 : Nat) : Int) - 1 = (m : Int) := by omega
    rw [e1]
    refine vShl (shl_one (by omega)) ?_
    tm_at "w"
    have e2 : lo + 1 * 2 ^ (m : Int).toNat + (num : Int) = lo + 2 ^ m + (num : Int) := by rw [Int.toNat_natCast, Int.one_mul]
    rw [e2]
    exact q.int (Same.refl H)
end
end Pk
set_option Elab.async false
set_option linter.all false
set_option maxRecDepth 100000
set_option maxHeartbeats 4000000
/-! Told2: texts by number. -/
namespace Pk
open PySem PySem.Spec PyProof.Rows L2 Cw
local macro_rules | `(tactic| tm_at "h") => `(tactic| first
  | assumption
  | exact upd_same
  | ((with_reducible refine' upd_old ?h1 ?h2); (case h1 => assumption); (case h2 => tm_at "h"))
  | ((with_reducible refine' upd_oth ?h1 ?h2); (case h1 => first | assumption | (exact Ne.symm (by assumption)) | (exact ne_of_none (by assumption) (by assumption)) | (exact Ne.symm (ne_of_none (by assumption) (by assumption)))); (case h2 => tm_at "h"))
  | ((refine' Same.at (by assumption) ?h3); (case h3 => tm_at "h")))
local macro_rules | `(tactic| tm_at "l") => `(tactic| first
  | assumption
  | exact SqL.of (by tm_at "h")
  | exact SqT.of (by tm_at "h")
  | exact Same.seq (by assumption) (by tm_at "l")
  | exact Cw.Same.tup (by assumption) (by tm_at "l"))
local macro_rules | `(tactic| tm_at "b") => `(tactic| first
  | rfl
  | decide
  | exact decide_eq_true (by first | assumption | rfl | omega)
  | exact decide_eq_false (by first | assumption | omega))
local macro_rules | `(tactic| tm_at "w1") => `(tactic| first
  | ((with_reducible refine' vVar ?h1 ?_); (case h1 => rfl))
  | with_reducible refine' sSeq ?_
  | with_reducible refine' sAsg ?_
  | with_reducible refine' sName ?_
  | with_reducible refine' vOp ?_
  | with_reducible refine' vC ?_
  | with_reducible refine' vCons ?_
  | with_reducible refine' vNil ?_
  | with_reducible refine' vCB ?_
  | with_reducible refine' vFldE ?_
  | with_reducible refine' vAddI ?_
  | with_reducible refine' vSub ?_
  | with_reducible refine' vCmp ?_
  | with_reducible refine' vEqI ?_
  | with_reducible refine' vEqS ?_
  | with_reducible refine' vNeI ?_
  | with_reducible refine' sIf ?_
  | with_reducible refine' vTest ?_
  | with_reducible refine' vTB ?_
  | with_reducible refine' vBl ?_
  | with_reducible refine' sRet ?_
  | with_reducible refine' sDrop ?_
  | with_reducible refine' sNext ?_
  | ((with_reducible refine' iT ?h1 ?_); (case h1 => tm_at "b"))
  | ((with_reducible refine' iN ?h1 ?_); (case h1 => tm_at "b"))
  | with_reducible refine' vMethE ?_
  | with_reducible refine' vCall ?_
  | with_reducible refine' vAnd ?_
  | with_reducible refine' vOr ?_
  | with_reducible refine' vNot ?_
  | with_reducible refine' vAndV ?_
  | with_reducible refine' vOrV ?_
  | with_reducible refine' vNotV ?_
  | with_reducible refine' vIfE ?_
  | with_reducible refine' vTup ?_
  | with_reducible refine' vLst ?_
  | with_reducible refine' vBM ?_
  | with_reducible refine' vBM0 ?_
  | with_reducible refine' vMax2 ?_
  | with_reducible refine' vMin2 ?_
  | with_reducible refine' vInt ?_
  | with_reducible refine' vIntB ?_
  | with_reducible refine' vUn ?_
  | with_reducible refine' vNeg ?_
  | ((with_reducible refine' sAug ?h1 ?_); (case h1 => rfl))
  | with_reducible refine' sIAdd ?_
  | with_reducible refine' sISub ?_
  | with_reducible refine' sStoE ?_
  | ((with_reducible refine' vFld ?h1 ?h2 ?_); (case h1 => tm_at "h"); (case h2 => rfl))
  | ((with_reducible refine' sSto ?h1 ?h2 ?_); (case h1 => tm_at "h"); (case h2 => first | (show 0 < 1000; decide) | (show 1 < 1000; decide) | (show 2 < 1000; decide) | (show 3 < 1000; decide) | (show 4 < 1000; decide) | (show 5 < 1000; decide)))
  | ((with_reducible refine' vLenL ?h1 ?_); (case h1 => tm_at "l"))
  | ((with_reducible refine' vLenT ?h1 ?_); (case h1 => tm_at "l"))
  | with_reducible refine' vSl ?_
  | with_reducible refine' vPart ?_
  | with_reducible refine' vPartI ?_
  | with_reducible refine' vNoPart ?_
  | with_reducible refine' sCons ?_
  | with_reducible refine' sNil ?_
  | with_reducible refine' wAnyE ?_
  | with_reducible refine' wRng1 ?_
  | with_reducible refine' wRng3 ?_
  | with_reducible refine' vRevE ?_
  | with_reducible refine' wEnum ?_
  | with_reducible refine' vDGet ?_
  | with_reducible refine' wRng2 ?_
  | with_reducible refine' wRng1I ?_
  | with_reducible refine' wRng2I ?_
  | with_reducible refine' sFor ?_
  | ((with_reducible refine' sTup ?h1 ?h2 ?_); (case h1 => tm_at "l"); (case h2 => rfl))
  | ((with_reducible refine' vTyL ?h1 ?_); (case h1 => tm_at "h"))
  | ((refine' vMod ?h1 ?_); (case h1 => (show (0 : Int) < _; omega)))
  | fail "stuck")
local macro_rules | `(tactic| tm_at "w") => `(tactic| repeat tm_at "w1")
theorem flat_inv {α β γ : Type} {g : α → β → γ} {R : List β} {A : List α} {i : Nat} {z : γ} (h : (A.flatMap fun t => R.map (g t))[i]? = some z) : ∃ x y, A[i / R.length]? = some x ∧ R[i % R.length]? = some y ∧ z = g x y := by
  have hi : i < A.length * R.length := by
    have := (List.getElem?_eq_some_iff.mp h).1
    rwa [flat_len] at this
  have hR : 0 < R.length := by
    rcases Nat.eq_zero_or_pos R.length with e | e
    · rw [e, Nat.mul_zero] at hi; exact absurd hi (Nat.not_lt_zero _)
    · exact e
  have hp : i / R.length < A.length := Nat.div_lt_of_lt_mul (by rw [Nat.mul_comm]; exact hi)
  have hr : i % R.length < R.length := Nat.mod_lt _ hR
  obtain ⟨x, hx⟩ : ∃ x, A[i / R.length]? = some x := ⟨_, List.getElem?_eq_getElem hp⟩
  obtain ⟨y, hy⟩ : ∃ y, R[i % R.length]? = some y := ⟨_, List.getElem?_eq_getElem hr⟩
  have q := flat_get g R A _ _ x y hx hy
  have e : i / R.length * R.length + i % R.length = i := by
    have := Nat.div_add_mod i R.length
    rw [Nat.mul_comm] at this; exact this
  rw [e, h] at q
  exact ⟨x, y, hx, hy, Option.some.inj q⟩
theorem KE_app (a y : Str) : (a ++ y).cps.toList = a.cps.toList ++ y.cps.toList := by
  rw [Str.cps_append]; simp
theorem str_len {s : Str} : s.length = s.cps.toList.length := by
  show s.cps.size = _
  simp
theorem textsS_len {s w : Str} : ∀ {n : Nat}, w ∈ textsS s n → w.length = n
  | 0, h => by
    unfold textsS at h
    rw [List.mem_singleton.mp h]; rfl
  | n + 1, h => by
    unfold textsS at h
    obtain ⟨v, hv, hw⟩ := List.mem_flatMap.mp h
    obtain ⟨c, _, rfl⟩ := List.mem_map.mp hw
    rw [str_len, KE_app, List.length_append, ← str_len, textsS_len hv]
    rfl
section
variable {K : PySem.W.Frag} {B : Book} {n N : Nat} {H : Hp} {Q : VK} {E : XK} {nd a dx cl w xa : Addr} {rl : List Addr} {ks : List MT} {size num : Nat} {d : DT}
theorem w_Text_told {s : Str} (M : MkAt K B H nd N (.mk (.text s) a dx cl w xa rl ks)) (hs : size ≤ 1000) (hd : (val B size (.nd (.text s) (MT.shs ks)))[num]? = some d) (q : NewQ K H d Q) :
    W K (n + 1) .TextMaker_told [.ref a, .int size, .int num] H Q E := by
  unfold MkAt at M
  obtain ⟨h1, _, _, hx, _⟩ := M
  obtain ⟨hs0, hs1, _⟩ : 0 < s.length ∧ s.length ≤ 100 ∧ rl = [] := hx
  rw [val_eq] at hd
  change ((textsS s size).map PyData.str)[num]? = some d at hd
  rw [List.getElem?_map] at hd
  cases ht : (textsS s size)[num]? with
  | none => rw [ht] at hd; cases hd
  | some t =>
  rw [ht] at hd
  have e := Option.some.inj hd
  subst e
  have tl : t.length = size := textsS_len (List.mem_of_getElem? ht)
  refine ⟨rfl, ?_⟩
  show t_TextMaker_told K (W K n) _ _ _
  unfold t_TextMaker_told
  tm_at "w"
  refine ⟨by omega, by omega, ?_⟩
  rw [Int.toNat_natCast]
  refine for_range (fun i σ H' => Same H H' ∧ ∃ (m : Nat) (u v : Str) (x4 x5 : Option V), (textsS s (size - i))[m]? = some u ∧ u ++ v = t ∧ v.length = i ∧ σ = [some (.ref a), some (.int size), some (.int m), some (.str v), x4, x5])
    ⟨Same.refl H, num, t, ⟨#[]⟩, none, none, by rw [Nat.sub_zero]; exact ht, Str.ext' (by rw [Str.cps_append]; simp), rfl, by rfl⟩ ?_ ?_
  · rintro i σ H' hi ⟨hS, m, u, v, x4, x5, hu, huv, hv, rfl⟩
    obtain ⟨k, hk⟩ : ∃ k, size - i = k + 1 := ⟨size - i - 1, by omega⟩
    rw [hk] at hu
    unfold textsS at hu
    obtain ⟨u', c, hu', hc, rfl⟩ := flat_inv hu
    rw [← str_len] at hu' hc
    tm_at "w"
    refine vLenS (by show s.length ≤ sizeLine; rw [sizeLine_eq]; omega) ?_
    tm_at "w"
    refine vDivmod (Sm.div (show Sm s.length from Nat.lt_of_le_of_lt hs1 (Nat.lt_of_lt_of_le (by decide : 100 < 2 ^ 7) (Nat.pow_le_pow_right (by decide) (by decide)))) hs0) fun p np => ?_
    rw [← Int.natCast_ediv, ← Int.natCast_emod]
    tm_at "w"
    refine vIxS (by show s.length ≤ sizeLine; rw [sizeLine_eq]; omega) (atI_nat hc) ?_
    tm_at "w"
    refine vAddS (by rw [hv]; show 1 + i ≤ sizeLine; rw [sizeLine_eq]; omega) ?_
    tm_at "w"
    refine ⟨hS.trans (same_upd np), m / s.length, u', ⟨#[c]⟩ ++ v, _, _, ?_, ?_, ?_, rfl⟩
    · have e : size - (i + 1) = k := by omega
      rw [e]; exact hu'
    · rw [← huv, Str.append_assoc]
    · rw [str_len, KE_app, List.length_append, ← str_len, ← str_len, hv]
      show 1 + i = i + 1
      omega
  · rintro σ H' ⟨hS, m, u, v, x4, x5, hu, huv, hv, rfl⟩
    have e : v = t := by
      rw [Nat.sub_self] at hu
      have hu2 : u = ⟨#[]⟩ := List.mem_singleton.mp (List.mem_of_getElem? hu)
      subst hu2
      rw [← huv]
      exact Str.ext' (by rw [Str.cps_append]; simp)
    subst e
    dsimp only
    tm_at "w"
    exact q.str hS
end
end Pk
set_option Elab.async false
set_option linter.all false
set_option maxRecDepth 100000
set_option maxHeartbeats 4000000
/-! Told3: rows and lists by number. -/
namespace Pk
open PySem PySem.Spec PyProof.Rows L2 Cw
local macro_rules | `(tactic| tm_at "h") => `(tactic| first
  | assumption
  | exact upd_same
  | ((with_reducible refine' upd_old ?h1 ?h2); (case h1 => assumption); (case h2 => tm_at "h"))
  | ((with_reducible refine' upd_oth ?h1 ?h2); (case h1 => first | assumption | (exact Ne.symm (by assumption)) | (exact ne_of_none (by assumption) (by assumption)) | (exact Ne.symm (ne_of_none (by assumption) (by assumption)))); (case h2 => tm_at "h"))
  | ((refine' Same.at (by assumption) ?h3); (case h3 => tm_at "h")))
local macro_rules | `(tactic| tm_at "l") => `(tactic| first
  | assumption
  | exact SqL.of (by tm_at "h")
  | exact SqT.of (by tm_at "h")
  | exact Same.seq (by assumption) (by tm_at "l")
  | exact Cw.Same.tup (by assumption) (by tm_at "l"))
local macro_rules | `(tactic| tm_at "b") => `(tactic| first
  | rfl
  | decide
  | exact decide_eq_true (by first | assumption | rfl | omega)
  | exact decide_eq_false (by first | assumption | omega))
local macro_rules | `(tactic| tm_at "w1") => `(tactic| first
  | ((with_reducible refine' vVar ?h1 ?_); (case h1 => rfl))
  | with_reducible refine' sSeq ?_
  | with_reducible refine' sAsg ?_
  | with_reducible refine' sName ?_
  | with_reducible refine' vOp ?_
  | with_reducible refine' vC ?_
  | with_reducible refine' vCons ?_
  | with_reducible refine' vNil ?_
  | with_reducible refine' vCB ?_
  | with_reducible refine' vFldE ?_
  | with_reducible refine' vAddI ?_
  | with_reducible refine' vSub ?_
  | with_reducible refine' vCmp ?_
  | with_reducible refine' vEqI ?_
  | with_reducible refine' vEqS ?_
  | with_reducible refine' vNeI ?_
  | with_reducible refine' sIf ?_
  | with_reducible refine' vTest ?_
  | with_reducible refine' vTB ?_
  | with_reducible refine' vBl ?_
  | with_reducible refine' sRet ?_
  | with_reducible refine' sDrop ?_
  | with_reducible refine' sNext ?_
  | ((with_reducible refine' iT ?h1 ?_); (case h1 => tm_at "b"))
  | ((with_reducible refine' iN ?h1 ?_); (case h1 => tm_at "b"))
  | with_reducible refine' vMethE ?_
  | with_reducible refine' vCall ?_
  | with_reducible refine' vAnd ?_
  | with_reducible refine' vOr ?_
  | with_reducible refine' vNot ?_
  | with_reducible refine' vAndV ?_
  | with_reducible refine' vOrV ?_
  | with_reducible refine' vNotV ?_
  | with_reducible refine' vIfE ?_
  | with_reducible refine' vTup ?_
  | with_reducible refine' vLst ?_
  | with_reducible refine' vBM ?_
  | with_reducible refine' vBM0 ?_
  | with_reducible refine' vMax2 ?_
  | with_reducible refine' vMin2 ?_
  | with_reducible refine' vInt ?_
  | with_reducible refine' vIntB ?_
  | with_reducible refine' vUn ?_
  | with_reducible refine' vNeg ?_
  | ((with_reducible refine' sAug ?h1 ?_); (case h1 => rfl))
  | with_reducible refine' sIAdd ?_
  | with_reducible refine' sISub ?_
  | with_reducible refine' sStoE ?_
  | ((with_reducible refine' vFld ?h1 ?h2 ?_); (case h1 => tm_at "h"); (case h2 => rfl))
  | ((with_reducible refine' sSto ?h1 ?h2 ?_); (case h1 => tm_at "h"); (case h2 => first | (show 0 < 1000; decide) | (show 1 < 1000; decide) | (show 2 < 1000; decide) | (show 3 < 1000; decide) | (show 4 < 1000; decide) | (show 5 < 1000; decide)))
  | ((with_reducible refine' vLenL ?h1 ?_); (case h1 => tm_at "l"))
  | ((with_reducible refine' vLenT ?h1 ?_); (case h1 => tm_at "l"))
  | with_reducible refine' vSl ?_
  | with_reducible refine' vPart ?_
  | with_reducible refine' vPartI ?_
  | with_reducible refine' vNoPart ?_
  | with_reducible refine' sCons ?_
  | with_reducible refine' sNil ?_
  | with_reducible refine' wAnyE ?_
  | with_reducible refine' wRng1 ?_
  | with_reducible refine' wRng3 ?_
  | with_reducible refine' vRevE ?_
  | with_reducible refine' wEnum ?_
  | with_reducible refine' vDGet ?_
  | with_reducible refine' wRng2 ?_
  | with_reducible refine' wRng1I ?_
  | with_reducible refine' wRng2I ?_
  | with_reducible refine' sFor ?_
  | ((with_reducible refine' sTup ?h1 ?h2 ?_); (case h1 => tm_at "l"); (case h2 => rfl))
  | ((with_reducible refine' vTyL ?h1 ?_); (case h1 => tm_at "h"))
  | ((refine' vMod ?h1 ?_); (case h1 => (show (0 : Int) < _; omega)))
  | fail "stuck")
local macro_rules | `(tactic| tm_at "w") => `(tactic| repeat tm_at "w1")
/-- what a maker tells -/
def Told (K : PySem.W.Frag) (nd : Addr) (N : Nat) (nms : List (Str × MT)) (m : Nat) (mt : MT) (size : Nat) : Prop :=
  ∀ (H : Hp) (num : Nat) (d : DT) (Q : VK) (E : XK), NmAt K H nd N nms → MkAt K (bk nms) H nd N mt → SmS (bk nms) N mt.sh → (val (bk nms) size mt.sh)[num]? = some d → NewQ K H d Q → W K m (tdf mt.k) [.ref mt.a, .int size, .int num] H Q E
theorem atI_map {xs : List V} {f : Nat → V} : True := trivial
theorem cast_succ' {i : Nat} : ((i : Int) + 1) = ((i + 1 : Nat) : Int) := by omega
/-- new lists beside new lists -/
theorem new_both {K : PySem.W.Frag} {H H1 : Hp} {xs : List V} {ds : List DT} {L M : List Addr} (s1 : Same H H1) (o1 : OwnL K H1 xs ds L) (n1 : L.Nodup) (n2 : M.Nodup) (f1 : ∀ b ∈ L, H b = none) (f2 : ∀ b ∈ M, H1 b = none) : (L ++ M).Nodup ∧ ∀ b ∈ L ++ M, H b = none := by
  refine ⟨List.nodup_append.mpr ⟨n1, n2, fun x hx y hy e => ?_⟩, fun b hb => ?_⟩
  · subst e
    obtain ⟨zs, hz⟩ := o1.there _ hx
    rw [f2 _ hy] at hz
    cases hz
  · rcases List.mem_append.mp hb with h | h
    · exact f1 b h
    · cases e : H b with
      | none => rfl
      | some o => have := s1 _ _ e; rw [f2 _ h] at this; cases this
section
variable {K : PySem.W.Frag} {n N : Nat} {H : Hp} {Q : VK} {E : XK} {nd a dx cl w xa : Addr} {rl : List Addr} {ks : List MT} {nms : List (Str × MT)} {size num : Nat} {d : DT}
theorem w_Row_told (hN : N ≤ 1000) (hs : size < N) (ih : ∀ mt ∈ ks, ∀ f, f ≤ size → Told K nd N nms (n + 1) mt f) : Told K nd N nms (n + 2) (.mk .row a dx cl w xa rl ks) size := by
  intro H num d Q E Nm M sm hd q
  have M0 := M
  unfold MkAt at M
  obtain ⟨h1, h2, h3, ⟨h4, h5, h5', h6⟩, h7⟩ := M
  unfold MT.sh at hd sm
  unfold SmS at sm
  obtain ⟨_, smr, sml⟩ := sm
  rw [val_row, List.getElem?_map] at hd
  cases ht : (rowsV (bk nms) (MT.shs ks) size)[num]? with
  | none => rw [ht] at hd; cases hd
  | some full =>
  rw [ht] at hd
  have e := Option.some.inj hd
  subst e
  refine ⟨rfl, ?_⟩
  show t_RowMaker_told K (W K (n + 1)) _ _ _
  unfold t_RowMaker_told
  tm_at "w"
  refine ⟨Nat.zero_le _, fun fl hfl => ?_⟩
  tm_at "w"
  refine ⟨w, _, rfl, SqL.of (upd_old hfl h2), ?_⟩
  refine for_enum (xs := ks.map fun m => V.ref m.a) (fun i σ H' => ∃ (sz nm : Nat) (xs : List V) (ds tail : List DT) (L : List Addr) (x4 x5 x6 x7 : Option V), Same H H' ∧ H' fl = some (.lst xs) ∧ xs.length = i ∧ OwnL K H' xs ds L ∧ L.Nodup ∧ (∀ b ∈ L, H b = none) ∧ fl ∉ L ∧ sz ≤ size ∧
      (rowsV (bk nms) ((MT.shs ks).drop i) sz)[nm]? = some tail ∧ ds ++ tail = full ∧ σ = [some (.ref a), some (.int sz), some (.int nm), some (.ref fl), x4, x5, x6, x7])
    ⟨size, num, [], [], full, [], none, none, none, none, same_upd hfl, upd_same, rfl, .nil, List.nodup_nil, by simp, by simp, Nat.le_refl _, ht, rfl, rfl⟩ ?_ ?_ ?_
  · rintro i σ H' hi ⟨sz, nm, xs, ds, tail, L, x4, x5, x6, x7, hS, _⟩
    exact SqL.of (hS _ _ h2)
  · rintro i x T σ H' hx ⟨sz, nm, xs, ds, tail, L, x4, x5, x6, x7, hS, hF, hxl, hO, hLn, hLf, hFL, hsz, htl, hfull, rfl⟩ hT
    rw [List.getElem?_map] at hx
    cases hk : ks[i]? with
    | none => rw [hk] at hx; cases hx
    | some mt =>
    rw [hk] at hx
    have e := Option.some.inj hx
    subst e
    have hi : i < ks.length := (List.getElem?_eq_some_iff.mp hk).1
    have hmem : mt ∈ ks := List.mem_of_getElem? hk
    have hsh : (MT.shs ks)[i]? = some mt.sh := by rw [shs_map, List.getElem?_map, hk]; rfl
    have hdrop : (MT.shs ks).drop i = mt.sh :: (MT.shs ks).drop (i + 1) := by
      have hi2 : i < (MT.shs ks).length := (List.getElem?_eq_some_iff.mp hsh).1
      rw [List.drop_eq_getElem_cons hi2]
      congr 1
      exact (List.getElem?_eq_some_iff.mp hsh).2
    rw [hdrop, rowsV_cons] at htl
    obtain ⟨f, p, r, x, y, hf, hx, hy, rfl, hnm⟩ := blocks_inv htl
    have hS1 : Same H (L2.upd H' T (.tup [.int (i : Nat), .ref mt.a])) := hS.trans (same_upd hT)
    have Mk := (h7.get hk).same hS1
    obtain ⟨rr, hr⟩ : ∃ rr, rl[i + 1]? = some rr := ⟨_, List.getElem?_eq_getElem (by omega)⟩
    refine sTup (SqT.of upd_same) rfl ?_
    tm_at "w"
    refine vCnt Mk ?_
    tm_at "w"
    refine vIxL (SqL.of (hS1 _ _ h4)) (v := .ref rr) ?_ ?_
    · rw [cast_succ']
      refine atI_nat ?_
      rw [List.getElem?_map, hr]; rfl
    tm_at "w"
    refine w_first_taken (SqL.of Mk.cnt) (SqL.of (hS1 _ _ (h6 _ _ hr))) (first := f) (place := p) (rest := r) (cf := cn (bk nms) mt.sh) (cr := rn (bk nms) ((MT.shs ks).drop (i + 1))) (by omega) (fun g hg => cts_get (by omega)) (fun g hg => cts_get (by omega))
      (fun g hg => (sml.get hsh).cn (by omega)) (fun g hg => smr _ _ (by omega)) (List.getElem?_eq_some_iff.mp hx).1 (List.getElem?_eq_some_iff.mp hy).1 hnm ?_
    intro tp H2 hS2 htp
    refine sTup (SqT.of htp) rfl ?_
    tm_at "w"
    have hF2 : H2 fl = some (.lst xs) := hS2 _ _ (upd_old hT hF)
    have Mk2 := Mk.same hS2
    refine vTold Mk2 ?_
    tm_at "w"
    have hS12 := hS1.trans hS2
    refine ih mt hmem f (by omega) H2 p x _ _ (Nm.same hS12) Mk2 (sml.get hsh) hx ?_
    intro v H3 M hS3 hO3 hMn hMf
    have hF3 := hS3 _ _ hF2
    have hFM : fl ∉ M := by
      intro z
      have h := hMf _ z
      rw [hF2] at h
      cases h
    have hO2 : OwnL K H2 xs ds L := (hO.mono (same_upd hT)).mono hS2
    have nf : (L ++ M).Nodup ∧ ∀ b ∈ L ++ M, H b = none := new_both (H := H) (H1 := H2) hS12 hO2 hLn hMn hLf hMf
    tm_at "w"
    refine vApp hF3 (by rw [hxl]; have := sizeLine_eq; omega) ?_
    tm_at "w"
    have e1 : (sz : Int) - (f : Int) = ((sz - f : Nat) : Int) := by omega
    rw [e1]
    have hflH : H fl = none := hfl
    refine ⟨sz - f, r, xs ++ [v], ds ++ [x], y, L ++ M, _, _, _, _, Same.mut (Same.trans hS12 hS3) hflH, upd_same, by simp [hxl], ?_, nf.1, nf.2, ?_, by omega, hy, by rw [List.append_assoc]; exact hfull, rfl⟩
    · exact (OwnL.snoc hO3 (hO2.mono hS3)).upd hF3 (by simp [hFL, hFM])
    · simp [hFL, hFM]
  · rintro σ H' ⟨sz, nm, xs, ds, tail, L, x4, x5, x6, x7, hS, hF, hxl, hO, hLn, hLf, hFL, hsz, htl, hfull, rfl⟩
    have e : tail = [] := by
      have hl : (MT.shs ks).drop (ks.map fun m => V.ref m.a).length = [] := by
        rw [shs_map]; simp
      rw [hl, rowsV_nil] at htl
      by_cases h0 : sz = 0
      · rw [if_pos h0] at htl
        exact List.mem_singleton.mp (List.mem_of_getElem? htl)
      · rw [if_neg h0] at htl
        simp at htl
    subst e
    rw [List.append_nil] at hfull
    subst hfull
    dsimp only
    tm_at "w"
    refine vTupleL (SqL.of hF) ?_
    intro p H2 hS2 hT2
    exact q _ _ L (hS.trans hS2) (.tup hT2 (hO.mono hS2)) hLn hLf
end
end Pk
set_option Elab.async false
set_option linter.all false
set_option maxRecDepth 100000
set_option maxHeartbeats 4000000
/-! Told4: lists, things all alike, choices and uses by number; any maker. -/
namespace Pk
open PySem PySem.Spec PyProof.Rows L2 Cw
local macro_rules | `(tactic| tm_at "h") => `(tactic| first
  | assumption
  | exact upd_same
  | ((with_reducible refine' upd_old ?h1 ?h2); (case h1 => assumption); (case h2 => tm_at "h"))
  | ((with_reducible refine' upd_oth ?h1 ?h2); (case h1 => first | assumption | (exact Ne.symm (by assumption)) | (exact ne_of_none (by assumption) (by assumption)) | (exact Ne.symm (ne_of_none (by assumption) (by assumption)))); (case h2 => tm_at "h"))
  | ((refine' Same.at (by assumption) ?h3); (case h3 => tm_at "h")))
local macro_rules | `(tactic| tm_at "l") => `(tactic| first
  | assumption
  | exact SqL.of (by tm_at "h")
  | exact SqT.of (by tm_at "h")
  | exact Same.seq (by assumption) (by tm_at "l")
  | exact Cw.Same.tup (by assumption) (by tm_at "l"))
local macro_rules | `(tactic| tm_at "b") => `(tactic| first
  | rfl
  | decide
  | exact decide_eq_true (by first | assumption | rfl | omega)
  | exact decide_eq_false (by first | assumption | omega))
local macro_rules | `(tactic| tm_at "w1") => `(tactic| first
  | ((with_reducible refine' vVar ?h1 ?_); (case h1 => rfl))
  | with_reducible refine' sSeq ?_
  | with_reducible refine' sAsg ?_
  | with_reducible refine' sName ?_
  | with_reducible refine' vOp ?_
  | with_reducible refine' vC ?_
  | with_reducible refine' vCons ?_
  | with_reducible refine' vNil ?_
  | with_reducible refine' vCB ?_
  | with_reducible refine' vFldE ?_
  | with_reducible refine' vAddI ?_
  | with_reducible refine' vSub ?_
  | with_reducible refine' vCmp ?_
  | with_reducible refine' vEqI ?_
  | with_reducible refine' vEqS ?_
  | with_reducible refine' vNeI ?_
  | with_reducible refine' sIf ?_
  | with_reducible refine' vTest ?_
  | with_reducible refine' vTB ?_
  | with_reducible refine' vBl ?_
  | with_reducible refine' sRet ?_
  | with_reducible refine' sDrop ?_
  | with_reducible refine' sNext ?_
  | ((with_reducible refine' iT ?h1 ?_); (case h1 => tm_at "b"))
  | ((with_reducible refine' iN ?h1 ?_); (case h1 => tm_at "b"))
  | with_reducible refine' vMethE ?_
  | with_reducible refine' vCall ?_
  | with_reducible refine' vAnd ?_
  | with_reducible refine' vOr ?_
  | with_reducible refine' vNot ?_
  | with_reducible refine' vAndV ?_
  | with_reducible refine' vOrV ?_
  | with_reducible refine' vNotV ?_
  | with_reducible refine' vIfE ?_
  | with_reducible refine' vTup ?_
  | with_reducible refine' vLst ?_
  | with_reducible refine' vBM ?_
  | with_reducible refine' vBM0 ?_
  | with_reducible refine' vMax2 ?_
  | with_reducible refine' vMin2 ?_
  | with_reducible refine' vInt ?_
  | with_reducible refine' vIntB ?_
  | with_reducible refine' vUn ?_
  | with_reducible refine' vNeg ?_
  | ((with_reducible refine' sAug ?h1 ?_); (case h1 => rfl))
  | with_reducible refine' sIAdd ?_
  | with_reducible refine' sISub ?_
  | with_reducible refine' sStoE ?_
  | ((with_reducible refine' vFld ?h1 ?h2 ?_); (case h1 => tm_at "h"); (case h2 => rfl))
  | ((with_reducible refine' sSto ?h1 ?h2 ?_); (case h1 => tm_at "h"); (case h2 => first | (show 0 < 1000; decide) | (show 1 < 1000; decide) | (show 2 < 1000; decide) | (show 3 < 1000; decide) | (show 4 < 1000; decide) | (show 5 < 1000; decide)))
  | ((with_reducible refine' vLenL ?h1 ?_); (case h1 => tm_at "l"))
  | ((with_reducible refine' vLenT ?h1 ?_); (case h1 => tm_at "l"))
  | with_reducible refine' vSl ?_
  | with_reducible refine' vPart ?_
  | with_reducible refine' vPartI ?_
  | with_reducible refine' vNoPart ?_
  | with_reducible refine' sCons ?_
  | with_reducible refine' sNil ?_
  | with_reducible refine' wAnyE ?_
  | with_reducible refine' wRng1 ?_
  | with_reducible refine' wRng3 ?_
  | with_reducible refine' vRevE ?_
  | with_reducible refine' wEnum ?_
  | with_reducible refine' vDGet ?_
  | with_reducible refine' wRng2 ?_
  | with_reducible refine' wRng1I ?_
  | with_reducible refine' wRng2I ?_
  | with_reducible refine' sFor ?_
  | ((with_reducible refine' sTup ?h1 ?h2 ?_); (case h1 => tm_at "l"); (case h2 => rfl))
  | ((with_reducible refine' vTyL ?h1 ?_); (case h1 => tm_at "h"))
  | ((refine' vMod ?h1 ?_); (case h1 => (show (0 : Int) < _; omega)))
  | fail "stuck")
local macro_rules | `(tactic| tm_at "w") => `(tactic| repeat tm_at "w1")
theorem ks1 {k0 : MT} : MT.shs [k0] = [k0.sh] := by rw [shs_map]; rfl
section
variable {K : PySem.W.Frag} {n N : Nat} {H : Hp} {Q : VK} {E : XK} {nd a dx cl w xa : Addr} {rl : List Addr} {ks : List MT} {nms : List (Str × MT)} {size num : Nat} {d : DT}
theorem w_Many_told (hN : N ≤ 1000) (hs : size < N) (ih : ∀ mt ∈ ks, ∀ f, f ≤ size → Told K nd N nms (n + 1) mt f) : Told K nd N nms (n + 2) (.mk .many a dx cl w xa rl ks) size := by
  intro H num d Q E Nm M sm hd q
  have M0 := M
  unfold MkAt at M
  obtain ⟨h1, h2, h3, ⟨⟨k0, hk0⟩, h5⟩, h7⟩ := M
  subst hk0
  have Mk := h7.get (i := 0) rfl
  unfold MT.sh at hd sm
  rw [ks1] at hd sm h3
  have sm0 := sm
  unfold SmS SmL at sm
  obtain ⟨_, _, sml, _⟩ := sm
  obtain ⟨full, rfl⟩ := many_list (List.mem_of_getElem? hd)
  refine ⟨rfl, ?_⟩
  show t_ManyMaker_told K (W K (n + 1)) _ _ _
  unfold t_ManyMaker_told
  tm_at "w"
  refine ⟨Nat.zero_le _, fun fl hfl => ?_⟩
  tm_at "w"
  refine sWhile (fun m σ H' => ∃ (sz nm : Nat) (xs : List V) (ds tail : List DT) (L : List Addr) (x4 x5 : Option V), sz = m ∧ Same H H' ∧ H' fl = some (.lst xs) ∧ xs.length ≤ size - sz ∧ OwnL K H' xs ds L ∧ L.Nodup ∧ (∀ b ∈ L, H b = none) ∧ fl ∉ L ∧ sz ≤ size ∧
      (val (bk nms) sz (.nd .many [k0.sh]))[nm]? = some (.list tail) ∧ ds ++ tail = full ∧ σ = [some (.ref a), some (.int sz), some (.int nm), some (.ref fl), x4, x5]) size
    ⟨size, num, [], [], full, [], none, none, rfl, same_upd hfl, upd_same, Nat.zero_le _, .nil, List.nodup_nil, by simp, by simp, Nat.le_refl _, hd, rfl, rfl⟩ ?_
  rintro m σ H' ⟨sz, nm, xs, ds, tail, L, x4, x5, rfl, hS, hF, hxl, hO, hLn, hLf, hFL, hsz, htl, hfull, rfl⟩
  tm_at "w"
  refine iD (fun h0 => ?_) (fun h0 => ?_)
  · have h0' : sz ≠ 0 := by omega
    rw [val_many, if_neg h0'] at htl
    obtain ⟨f, p, r, x, y, hf, hx, hy, hc, hnm⟩ := blocks_inv htl
    obtain ⟨yl, rfl⟩ := many_list (List.mem_of_getElem? hy)
    have hc2 : tail = x :: yl := by
      have : PyData.list tail = .list (x :: yl) := hc
      cases this; rfl
    subst hc2
    have Mk1 := Mk.same hS
    refine sTurn ?_
    tm_at "w"
    have iw : atI ([k0].map fun m => V.ref m.a) 0 = some (.ref k0.a) := rfl
    refine vIxL (SqL.of (hS _ _ h2)) iw ?_
    refine vCnt Mk1 ?_
    tm_at "w"
    have e1 : (sz : Int) - 1 = ((sz - 1 : Nat) : Int) := by omega
    rw [e1]
    refine w_first_taken (SqL.of Mk1.cnt) (SqL.of (hS _ _ h3)) (first := f) (place := p) (rest := r) (cf := cn (bk nms) k0.sh) (cr := cn (bk nms) (.nd .many [k0.sh])) (by omega) (fun g hg => cts_get (by omega)) (fun g hg => cts_get (by omega))
      (fun g hg => sml.cn (by omega)) (fun g hg => sm0.cn (by omega)) (List.getElem?_eq_some_iff.mp hx).1 (List.getElem?_eq_some_iff.mp hy).1 hnm ?_
    intro tp H2 hS2 htp
    refine sTup (SqT.of htp) rfl ?_
    tm_at "w"
    have hF2 : H2 fl = some (.lst xs) := hS2 _ _ hF
    have hS12 : Same H H2 := hS.trans hS2
    have Mk2 := Mk.same hS12
    refine vIxL (SqL.of (hS12 _ _ h2)) iw ?_
    refine vTold Mk2 ?_
    tm_at "w"
    refine ih k0 (by simp) f (by omega) H2 p x _ _ (Nm.same hS12) Mk2 sml hx ?_
    intro v H3 M hS3 hO3 hMn hMf
    have hF3 := hS3 _ _ hF2
    have hFM : fl ∉ M := by
      intro z
      have h := hMf _ z
      rw [hF2] at h
      cases h
    have hO2 : OwnL K H2 xs ds L := hO.mono hS2
    have nf : (L ++ M).Nodup ∧ ∀ b ∈ L ++ M, H b = none := new_both (H := H) (H1 := H2) hS12 hO2 hLn hMn hLf hMf
    tm_at "w"
    refine vApp hF3 (by have := sizeLine_eq; omega) ?_
    tm_at "w"
    have e2 : (sz : Int) - (1 + (f : Int)) = ((sz - 1 - f : Nat) : Int) := by omega
    rw [e2]
    refine ⟨sz - 1 - f, by omega, sz - 1 - f, r, xs ++ [v], ds ++ [x], yl, L ++ M, _, _, rfl, Same.mut (Same.trans hS12 hS3) hfl, upd_same, by simp; omega, ?_, nf.1, nf.2, ?_, by omega, hy, by rw [List.append_assoc]; exact hfull, rfl⟩
    · exact (OwnL.snoc hO3 (hO2.mono hS3)).upd hF3 (by simp [hFL, hFM])
    · simp [hFL, hFM]
  · have h0' : sz = 0 := by omega
    subst h0'
    rw [val_many, if_pos rfl] at htl
    have e : tail = [] := by
      have h := List.mem_singleton.mp (List.mem_of_getElem? htl)
      cases h; rfl
    subst e
    rw [List.append_nil] at hfull
    subst hfull
    dsimp only
    tm_at "w"
    exact q _ _ (fl :: L) hS (.lst hF hO) (List.nodup_cons.mpr ⟨hFL, hLn⟩) (by
      intro b hb
      rcases List.mem_cons.mp hb with rfl | hb
      · exact hfl
      · exact hLf b hb)
theorem w_Alike_told {t : Nat} (hN : N ≤ 1000) (hs : size < N) (ih : ∀ mt ∈ ks, ∀ f, f < size → Told K nd N nms (n + 1) mt f) : Told K nd N nms (n + 2) (.mk (.alike t) a dx cl w xa rl ks) size := by
  intro H num d Q E Nm M sm hd q
  unfold MkAt at M
  obtain ⟨h1, h2, h3, ⟨⟨k0, hk0⟩, h5, ht0⟩, h7⟩ := M
  subst hk0
  have Mk := h7.get (i := 0) rfl
  unfold MT.sh at hd sm
  rw [ks1] at hd sm h3
  unfold SmS SmL at sm
  obtain ⟨_, _, sml, _⟩ := sm
  rw [val_alike] at hd
  by_cases hb : size < t ∨ size % t ≠ 0
  · rw [if_pos hb] at hd; simp at hd
  rw [if_neg hb, List.getElem?_map] at hd
  cases hx : (val (bk nms) (size / t - 1) k0.sh)[num]? with
  | none => rw [hx] at hd; cases hd
  | some x =>
  rw [hx] at hd
  have e := Option.some.inj hd
  subst e
  have hts : t ≤ size := by omega
  have hdiv : size / t - 1 < size := by
    have h1 := Nat.div_le_self size t
    have h2 := Nat.div_pos hts ht0
    omega
  refine ⟨rfl, ?_⟩
  show t_AlikeMaker_told K (W K (n + 1)) _ _ _
  unfold t_AlikeMaker_told
  tm_at "w"
  refine vLc ?_
  tm_at "w"
  refine ⟨by omega, by omega, ?_⟩
  intro D hD
  refine lc_range (fun i H' => ∃ (xs : List V) (L : List Addr), Same H H' ∧ H' D = some (.lst xs) ∧ xs.length = i ∧ OwnL K H' xs (List.replicate i x) L ∧ L.Nodup ∧ (∀ b ∈ L, H b = none) ∧ D ∉ L)
    ⟨[], [], same_upd hD, upd_same, rfl, .nil, List.nodup_nil, by simp, by simp⟩ ?_ ?_
  · rintro i H' hi ⟨xs, L, hS, hF, hxl, hO, hLn, hLf, hFL⟩
    rw [Int.toNat_natCast] at hi
    have Mk1 := Mk.same hS
    refine sName ⟨rfl, ?_⟩
    refine vYes ?_
    refine iT rfl ?_
    tm_at "w"
    have iw : atI ([k0].map fun m => V.ref m.a) 0 = some (.ref k0.a) := rfl
    refine vIxL (SqL.of (hS _ _ h2)) iw ?_
    refine vTold Mk1 ?_
    tm_at "w"
    refine vDiv (Sm.div (Sm.le (x := t) (by omega)) ht0) ?_
    tm_at "w"
    have e1 : (size : Int) / (t : Int) - 1 = ((size / t - 1 : Nat) : Int) := by
      have h2 := Nat.div_pos hts ht0
      rw [← Int.natCast_ediv]; omega
    rw [e1]
    refine ih k0 (by simp) _ hdiv H' num x _ _ (Nm.same hS) Mk1 sml hx ?_
    intro v H3 M hS3 hO3 hMn hMf
    have hFM : D ∉ M := by
      intro z
      have h := hMf _ z
      rw [hF] at h
      cases h
    have nf : (L ++ M).Nodup ∧ ∀ b ∈ L ++ M, H b = none := new_both (H := H) (H1 := H') hS hO hLn hMn hLf hMf
    refine ⟨xs, hS3 _ _ hF, by rw [hxl]; have := sizeLine_eq; omega, xs ++ [v], L ++ M, Same.mut (Same.trans hS hS3) hD, upd_same, by simp [hxl], ?_, nf.1, nf.2, by simp [hFL, hFM]⟩
    rw [show List.replicate (i + 1) x = List.replicate i x ++ [x] from List.replicate_succ']
    exact (OwnL.snoc hO3 (hO.mono hS3)).upd (hS3 _ _ hF) (by simp [hFL, hFM])
  · rintro H' ⟨xs, L, hS, hF, hxl, hO, hLn, hLf, hFL⟩
    rw [Int.toNat_natCast] at hO
    exact q _ _ (D :: L) hS (.lst hF hO) (List.nodup_cons.mpr ⟨hFL, hLn⟩) (by
      intro b hb
      rcases List.mem_cons.mp hb with rfl | hb
      · exact hD
      · exact hLf b hb)
theorem w_Pick_told {ms : List Str} (hN : N ≤ 1000) (hs : size < N) (ih : ∀ mt ∈ ks, ∀ f, f ≤ size → Told K nd N nms (n + 1) mt f) : Told K nd N nms (n + 2) (.mk (.pick ms) a dx cl w xa rl ks) size := by
  intro H num d Q E Nm M sm hd q
  unfold MkAt at M
  obtain ⟨h1, h2, h3, ⟨h4, h5, h6, h8⟩, h7⟩ := M
  unfold MT.sh at hd sm
  unfold SmS at sm
  obtain ⟨_, _, sml⟩ := sm
  rw [val_pick] at hd
  refine ⟨rfl, ?_⟩
  show t_PickMaker_told K (W K (n + 1)) _ _ _
  unfold t_PickMaker_told
  tm_at "w"
  refine sWhile (fun m σ H' => ∃ (j nm : Nat), m = ks.length - j ∧ j ≤ ks.length ∧ H' = H ∧ (picksV (bk nms) (ms.drop j) ((MT.shs ks).drop j) size)[nm]? = some d ∧ σ = [some (.ref a), some (.int size), some (.int nm), some (.int j)]) ks.length
    ⟨0, num, rfl, Nat.zero_le _, rfl, hd, rfl⟩ ?_
  rintro m σ H' ⟨j, nm, rfl, hj, rfl, hp, rfl⟩
  have hjl : j < ks.length := by
    rcases Nat.lt_or_ge j ks.length with h | h
    · exact h
    · exfalso
      rw [List.drop_eq_nil_of_le (as := ms) (by omega)] at hp
      unfold picksV at hp
      simp at hp
  obtain ⟨mt, hk⟩ : ∃ mt, ks[j]? = some mt := ⟨_, List.getElem?_eq_getElem hjl⟩
  obtain ⟨mk, hm⟩ : ∃ mk, ms[j]? = some mk := ⟨_, List.getElem?_eq_getElem (by omega)⟩
  have hsh : (MT.shs ks)[j]? = some mt.sh := by rw [shs_map, List.getElem?_map, hk]; rfl
  have d1 : (MT.shs ks).drop j = mt.sh :: (MT.shs ks).drop (j + 1) := by
    have hi2 : j < (MT.shs ks).length := (List.getElem?_eq_some_iff.mp hsh).1
    rw [List.drop_eq_getElem_cons hi2]
    congr 1
    exact (List.getElem?_eq_some_iff.mp hsh).2
  have d2 : ms.drop j = mk :: ms.drop (j + 1) := by
    have hi2 : j < ms.length := by omega
    rw [List.drop_eq_getElem_cons hi2]
    congr 1
    exact (List.getElem?_eq_some_iff.mp hm).2
  rw [d1, d2] at hp
  unfold picksV at hp
  have Mk := h7.get hk
  have iw : atI (ks.map fun m => V.ref m.a) (j : Int) = some (.ref mt.a) := atI_nat (by rw [List.getElem?_map, hk]; rfl)
  have ic : atI (cts (cn (bk nms) mt.sh) N) (size : Int) = some (.int (cn (bk nms) mt.sh size)) := atI_nat (cts_get hs)
  tm_at "w"
  refine vIxL (SqL.of h2) iw ?_
  refine vCnt Mk ?_
  tm_at "w"
  refine vIxL (SqL.of Mk.cnt) ic ?_
  tm_at "w"
  refine iD (fun hd => ?_) (fun hd => ?_)
  · rw [List.getElem?_append_right (by rw [List.length_map]; show cn (bk nms) mt.sh size ≤ nm; omega), List.length_map] at hp
    change (picksV (bk nms) (ms.drop (j + 1)) ((MT.shs ks).drop (j + 1)) size)[nm - cn (bk nms) mt.sh size]? = some d at hp
    refine sTurn ?_
    tm_at "w"
    refine vIxL (SqL.of h2) iw ?_
    refine vCnt Mk ?_
    tm_at "w"
    refine vIxL (SqL.of Mk.cnt) ic ?_
    tm_at "w"
    refine ⟨ks.length - (j + 1), by omega, j + 1, nm - cn (bk nms) mt.sh size, rfl, hjl, rfl, hp, ?_⟩
    have e1 : (nm : Int) - (cn (bk nms) mt.sh size : Int) = ((nm - cn (bk nms) mt.sh size : Nat) : Int) := by omega
    rw [e1]
    rfl
  · rw [List.getElem?_append_left (by rw [List.length_map]; show nm < cn (bk nms) mt.sh size; omega), List.getElem?_map] at hp
    cases hx : (val (bk nms) size mt.sh)[nm]? with
    | none => rw [hx] at hp; cases hp
    | some x =>
    rw [hx] at hp
    have e := Option.some.inj hp
    subst e
    dsimp only
    tm_at "w"
    refine vIxL (SqL.of h4) (v := .str mk) (atI_nat (by rw [List.getElem?_map, hm]; rfl)) ?_
    tm_at "w"
    refine vIxL (SqL.of h2) iw ?_
    refine vTold Mk ?_
    tm_at "w"
    refine ih mt (List.mem_of_getElem? hk) size (Nat.le_refl _) _ nm x _ _ Nm Mk (sml.get hsh) hx ?_
    intro v H3 M hS3 hO3 hMn hMf
    tm_at "w"
    refine ⟨by show 2 ≤ sizeLine; decide, fun p hp => ?_⟩
    refine q _ _ ([] ++ (M ++ [])) (Same.trans hS3 (same_upd hp)) (.tup (SqT.of upd_same) (.cons (.str _) (.cons (hO3.mono (same_upd hp)) .nil))) (by simpa using hMn) (by simpa using hMf)
theorem look_bk {nms : List (Str × MT)} {x : Str} {mt : MT} (h : nms.lookup x = some mt) : look (bk nms) x = mt.sh ∧ (x, mt) ∈ nms ∧ valV (nms.map fun p => ((Sum.inr p.1 : Key), V.ref p.2.a)) (Sum.inr x) = some (.ref mt.a) := by
  induction nms with
  | nil => cases h
  | cons p ps ih =>
    obtain ⟨y, m⟩ := p
    by_cases e : x = y
    · subst e
      rw [List.lookup_cons_self] at h
      cases h
      refine ⟨?_, List.mem_cons_self, ?_⟩
      · unfold look bk
        rw [List.map_cons, List.lookup_cons_self]; rfl
      · show valV ((Sum.inr x, V.ref mt.a) :: _) (Sum.inr x) = _
        simp [valV]
    · rw [List.lookup_cons, beq_false_of_ne e] at h
      obtain ⟨i1, i2, i3⟩ := ih h
      refine ⟨?_, List.mem_cons_of_mem _ i2, ?_⟩
      · unfold look bk at *
        rw [List.map_cons, List.lookup_cons, beq_false_of_ne e]; exact i1
      · show valV ((Sum.inr y, V.ref m.a) :: _) (Sum.inr x) = _
        rw [← i3]
        have : (Sum.inr y : Key) ≠ Sum.inr x := fun h => e (Sum.inr.inj h).symm
        simp [valV, this]
theorem w_Use_told {x : Str} {mt : MT} (hN : N ≤ 1000) (hs : size < N) (hl : nms.lookup x = some mt) (ih : ∀ f, f < size → Told K nd N nms (n + 1) mt f) : Told K nd N nms (n + 2) (.mk (.use x) a dx cl w xa rl ks) size := by
  intro H num d Q E Nm M sm hd q
  unfold MkAt at M
  obtain ⟨h1, h2, h3, _, h7⟩ := M
  unfold MT.sh at hd sm
  obtain ⟨l1, l2, l3⟩ := look_bk hl
  rw [val_use] at hd
  by_cases hz : size = 0
  · rw [if_pos hz] at hd; simp at hd
  rw [if_neg hz, l1] at hd
  refine ⟨rfl, ?_⟩
  show t_UseMaker_told K (W K (n + 1)) _ _ _
  unfold t_UseMaker_told
  tm_at "w"
  refine ⟨nd, .ref mt.a, rfl, dgetS Nm.dict l3, ?_⟩
  have Mk := Nm.at_ _ l2
  refine vTold Mk ?_
  tm_at "w"
  have e1 : (size : Int) - 1 = ((size - 1 : Nat) : Int) := by omega
  rw [e1]
  exact ih _ (by omega) _ num d _ _ Nm Mk (Nm.sm _ l2) hd q
theorem bk_some {nms : List (Str × MT)} {x : Str} (h : ((bk nms).lookup x).isSome = true) : ∃ mt, nms.lookup x = some mt := by
  induction nms with
  | nil => simp [bk] at h
  | cons p ps ih =>
    obtain ⟨y, m⟩ := p
    by_cases e : x = y
    · subst e; exact ⟨m, List.lookup_cons_self⟩
    · unfold bk at h
      rw [List.map_cons, List.lookup_cons, beq_false_of_ne e] at h
      rw [List.lookup_cons, beq_false_of_ne e]
      exact ih h
theorem ht_kid {ks : List MT} {mt : MT} (h : mt ∈ ks) : mt.ht ≤ MT.hts ks := by
  induction ks with
  | nil => cases h
  | cons k ks ih =>
    unfold MT.hts
    rcases List.mem_cons.mp h with rfl | h
    · exact Nat.le_max_left _ _
    · exact Nat.le_trans (ih h) (Nat.le_max_right _ _)
theorem told_all {hb : Nat} (hN : N ≤ 1000) (hnm : ∀ p ∈ nms, p.2.ht ≤ hb) : ∀ (m : Nat) (mt : MT) (size : Nat), size < N → size * (hb + 1) + mt.ht + 1 ≤ m → Told K nd N nms m mt size := by
  intro m
  induction m with
  | zero => intro mt size _ h; omega
  | succ m ih =>
    intro mt size hs h
    cases mt with
    | mk k a dx cl w xa rl ks =>
      have hht : (MT.mk k a dx cl w xa rl ks).ht = MT.hts ks + 1 := by unfold MT.ht; rfl
      rw [hht] at h
      have hm1 : ∃ n, m = n + 1 := ⟨m - 1, by omega⟩
      have kid : ∀ mt ∈ ks, ∀ f, f ≤ size → Told K nd N nms m mt f := by
        intro mt hmt f hf
        have h1 := ht_kid hmt
        have h2 : f * (hb + 1) ≤ size * (hb + 1) := Nat.mul_le_mul_right _ hf
        exact ih mt f (by omega) (by omega)
      obtain ⟨n, rfl⟩ := hm1
      cases k with
      | whole lo hi => exact fun H num d Q E Nm M sm hd q => w_Whole_told M (by omega) (by unfold MT.sh at hd; exact hd) q
      | text s => exact fun H num d Q E Nm M sm hd q => w_Text_told M (by omega) (by unfold MT.sh at hd; exact hd) q
      | row => exact w_Row_told hN hs kid
      | pick ms => exact w_Pick_told hN hs kid
      | many => exact w_Many_told hN hs kid
      | alike t => exact w_Alike_told hN hs fun mt hmt f hf => kid mt hmt f (by omega)
      | use x =>
        intro H num d Q E Nm M sm hd q
        have M0 := M
        unfold MkAt at M0
        obtain ⟨mt, hl⟩ := bk_some M0.2.2.2.1.1
        refine w_Use_told hN hs hl (fun f hf => ?_) H num d Q E Nm M sm hd q
        have h1 := hnm _ (look_bk hl).2.1
        have h2 : (f + 1) * (hb + 1) ≤ size * (hb + 1) := Nat.mul_le_mul_right _ hf
        rw [Nat.succ_mul] at h2
        dsimp only at h1
        exact ih mt f (by omega) (by omega)
      | rising =>
        intro H num d Q E Nm M sm hd q
        unfold MkAt at M
        exact M.2.2.2.1.elim
      | unlike =>
        intro H num d Q E Nm M sm hd q
        unfold MkAt at M
        exact M.2.2.2.1.elim
end
end Pk
set_option Elab.async false
set_option linter.all false
set_option maxRecDepth 100000
set_option maxHeartbeats 4000000
/-! Grow1: the next count, but of rows. -/
namespace Pk
open PySem PySem.Spec PyProof.Rows L2 Cw
local macro_rules | `(tactic| tm_at "h") => `(tactic| first
  | assumption
  | exact upd_same
  | ((with_reducible refine' upd_old ?h1 ?h2); (case h1 => assumption); (case h2 => tm_at "h"))
  | ((with_reducible refine' upd_oth ?h1 ?h2); (case h1 => first | assumption | (exact Ne.symm (by assumption)) | (exact ne_of_none (by assumption) (by assumption)) | (exact Ne.symm (ne_of_none (by assumption) (by assumption)))); (case h2 => tm_at "h"))
  | ((refine' Same.at (by assumption) ?h3); (case h3 => tm_at "h")))
local macro_rules | `(tactic| tm_at "l") => `(tactic| first
  | assumption
  | exact SqL.of (by tm_at "h")
  | exact SqT.of (by tm_at "h")
  | exact Same.seq (by assumption) (by tm_at "l")
  | exact Cw.Same.tup (by assumption) (by tm_at "l"))
local macro_rules | `(tactic| tm_at "b") => `(tactic| first
  | rfl
  | decide
  | exact decide_eq_true (by first | assumption | rfl | omega)
  | exact decide_eq_false (by first | assumption | omega))
local macro_rules | `(tactic| tm_at "w1") => `(tactic| first
  | ((with_reducible refine' vVar ?h1 ?_); (case h1 => rfl))
  | with_reducible refine' sSeq ?_
  | with_reducible refine' sAsg ?_
  | with_reducible refine' sName ?_
  | with_reducible refine' vOp ?_
  | with_reducible refine' vC ?_
  | with_reducible refine' vCons ?_
  | with_reducible refine' vNil ?_
  | with_reducible refine' vCB ?_
  | with_reducible refine' vFldE ?_
  | with_reducible refine' vAddI ?_
  | with_reducible refine' vSub ?_
  | with_reducible refine' vCmp ?_
  | with_reducible refine' vEqI ?_
  | with_reducible refine' vEqS ?_
  | with_reducible refine' vNeI ?_
  | with_reducible refine' sIf ?_
  | with_reducible refine' vTest ?_
  | with_reducible refine' vTB ?_
  | with_reducible refine' vBl ?_
  | with_reducible refine' sRet ?_
  | with_reducible refine' sDrop ?_
  | with_reducible refine' sNext ?_
  | ((with_reducible refine' iT ?h1 ?_); (case h1 => tm_at "b"))
  | ((with_reducible refine' iN ?h1 ?_); (case h1 => tm_at "b"))
  | with_reducible refine' vMethE ?_
  | with_reducible refine' vCall ?_
  | with_reducible refine' vAnd ?_
  | with_reducible refine' vOr ?_
  | with_reducible refine' vNot ?_
  | with_reducible refine' vAndV ?_
  | with_reducible refine' vOrV ?_
  | with_reducible refine' vNotV ?_
  | with_reducible refine' vIfE ?_
  | with_reducible refine' vTup ?_
  | with_reducible refine' vLst ?_
  | with_reducible refine' vBM ?_
  | with_reducible refine' vBM0 ?_
  | with_reducible refine' vMax2 ?_
  | with_reducible refine' vMin2 ?_
  | with_reducible refine' vInt ?_
  | with_reducible refine' vIntB ?_
  | with_reducible refine' vUn ?_
  | with_reducible refine' vNeg ?_
  | ((with_reducible refine' sAug ?h1 ?_); (case h1 => rfl))
  | with_reducible refine' sIAdd ?_
  | with_reducible refine' sISub ?_
  | with_reducible refine' sStoE ?_
  | ((with_reducible refine' vFld ?h1 ?h2 ?_); (case h1 => tm_at "h"); (case h2 => rfl))
  | ((with_reducible refine' sSto ?h1 ?h2 ?_); (case h1 => tm_at "h"); (case h2 => first | (show 0 < 1000; decide) | (show 1 < 1000; decide) | (show 2 < 1000; decide) | (show 3 < 1000; decide) | (show 4 < 1000; decide) | (show 5 < 1000; decide)))
  | ((with_reducible refine' vLenL ?h1 ?_); (case h1 => tm_at "l"))
  | ((with_reducible refine' vLenT ?h1 ?_); (case h1 => tm_at "l"))
  | with_reducible refine' vSl ?_
  | with_reducible refine' vPart ?_
  | with_reducible refine' vPartI ?_
  | with_reducible refine' vNoPart ?_
  | with_reducible refine' sCons ?_
  | with_reducible refine' sNil ?_
  | with_reducible refine' wAnyE ?_
  | with_reducible refine' wRng1 ?_
  | with_reducible refine' wRng3 ?_
  | with_reducible refine' vRevE ?_
  | with_reducible refine' wEnum ?_
  | with_reducible refine' vDGet ?_
  | with_reducible refine' wRng2 ?_
  | with_reducible refine' wRng1I ?_
  | with_reducible refine' wRng2I ?_
  | with_reducible refine' sFor ?_
  | ((with_reducible refine' sTup ?h1 ?h2 ?_); (case h1 => tm_at "l"); (case h2 => rfl))
  | ((with_reducible refine' vTyL ?h1 ?_); (case h1 => tm_at "h"))
  | ((refine' vMod ?h1 ?_); (case h1 => (show (0 : Int) < _; omega)))
  | fail "stuck")
local macro_rules | `(tactic| tm_at "w") => `(tactic| repeat tm_at "w1")
theorem lc_ints {te : TE} {σ : L2.St} {H : Hp} {v n : Nat} {Qd : Addr → Hp → Prop} (g : Nat → Int) (hn : n ≤ 100000) (hw : ∀ x, wipe ((wipe σ [v]).set v x) [v] = wipe σ [v])
    (hs : ∀ i H', i < n → Same H H' → ∀ Qe : VK, Qe (.int (g i)) H' → te ((wipe σ [v]).set v (some (.int (i : Nat)))) H' Qe) (q : ∀ p H', Same H H' → H' p = some (.lst (((List.range n).map g).map V.int)) → Qd p H') :
    ∀ D, H D = none → ∃ W : Nat → Nat → Hp → Prop, (∃ m, W 0 m (L2.upd H D (.lst []))) ∧ ∀ i m H, W i m H →
  ((Itr 0 n).stop i H ∧ Qd D H) ∨ ((Itr 0 n).go i H ∧ ∃ Nx : Hp → Prop, (∀ H', Nx H' → ∃ m', m' < m ∧ W (i + 1) m' H') ∧ ∀ x H', (Itr 0 n).yld i H x H' → gName v x (wipe σ [v]) H' fun σ2 H2 => wipe σ2 [v] = wipe σ [v] ∧ tYes σ2 H2 fun b H3 =>
    if b = true then te σ2 H3 fun y H4 => ∃ acc, H4 D = some (.lst acc) ∧ acc.length < sizeLine ∧ Nx (L2.upd H4 D (.lst (acc ++ [y]))) else Nx H3) := by
  intro D hD
  refine lc_range (fun i H' => Same H H' ∧ H' D = some (.lst (((List.range i).map g).map V.int))) ⟨same_upd hD, upd_same⟩ ?_ ?_
  · rintro i H' hi ⟨hS, hF⟩
    rw [Int.zero_add]
    refine sName ⟨hw _, ?_⟩
    refine vYes ?_
    refine iT rfl ?_
    refine hs i H' hi hS _ ?_
    refine ⟨_, hF, by rw [List.length_map, List.length_map, List.length_range]; have := sizeLine_eq; omega, Same.mut hS hD, ?_⟩
    rw [upd_same, List.range_succ, List.map_append, List.map_append]
    rfl
  · rintro H' ⟨hS, hF⟩
    exact q D H' hS hF
theorem ahead_sum {cf cr : Nat → Nat} {m : Nat} : ∀ {n : Nat}, ((List.range n).map fun f => ((cf f : Int) * (cr (m - f) : Int))).sum = ((ahead cf cr m n : Nat) : Int)
  | 0 => rfl
  | n + 1 => by
    rw [List.range_succ, List.map_append, List.sum_append, ahead_sum]
    show _ + ((cf n : Int) * (cr (m - n) : Int) + 0) = ((ahead cf cr m n + cf n * cr (m - n) : Nat) : Int)
    rw [Int.add_zero]; simp
/-- nothing changes but at S -/
def Fr (S : List Addr) (H H' : Hp) : Prop := ∀ b o, b ∉ S → H b = some o → H' b = some o
theorem Fr.of {S : List Addr} {H H' : Hp} (e : Same H H') : Fr S H H' := fun b o _ h => e b o h
theorem Fr.trans {S T : List Addr} {H H1 H2 : Hp} (e : Fr S H H1) (e' : Fr T H1 H2) (hs : ∀ b ∈ S, b ∈ T) : Fr T H H2 := fun b o h q => e' b o h (e b o (fun z => h (hs b z)) q)
theorem Fr.mono {S T : List Addr} {H H1 : Hp} (e : Fr S H H1) (hs : ∀ b ∈ S, b ∈ T) : Fr T H H1 := fun b o h q => e b o (fun z => h (hs b z)) q
theorem Fr.upd {S : List Addr} {H : Hp} {a : Addr} {o : HO} (h : a ∈ S) : Fr S H (L2.upd H a o) := fun b w hb q => by
  rw [upd_ne (fun e => hb (by rw [e]; exact h))]; exact q
/-- the names while they grow: n counts each at least -/
structure NmG (K : PySem.W.Frag) (H : Hp) (nd : Addr) (n : Nat) (nms : List (Str × MT)) : Prop where
  dict : Rd H nd (.dK (nms.map fun p => ((Sum.inr p.1 : Key), V.ref p.2.a)))
  at_ : ∀ p ∈ nms, ∃ c dx fs xs, H p.2.a = some (.ins (ca K c) dx fs) ∧ fs.lookup ("counts" : Str) = some (V.ref p.2.cl) ∧ H p.2.cl = some (.lst xs) ∧ ∀ j, j < n → xs[j]? = some (.int (cn (bk nms) p.2.sh j))
/-- the kids have grown -/
structure Mid (K : PySem.W.Frag) (B : Book) (H : Hp) (nd : Addr) (n : Nat) (k : Kd) (a dx cl w xa : Addr) (rl : List Addr) (ks : List MT) : Prop where
  ha : H a = some (.ins (ca K (cls k)) dx (flds k cl w xa nd))
  hw : H w = some (.lst (ks.map fun m => V.ref m.a))
  hc : H cl = some (.lst (cts (cn B (.nd k (MT.shs ks))) n))
  hx : xAt B H n k xa rl ks
  hk : MkAll K B H nd (n + 1) ks
def nxdf : Kd → Df
  | .whole _ _ => .WholeMaker_next_count
  | .text _ => .TextMaker_next_count
  | .row => .RowMaker_next_count
  | .pick _ => .PickMaker_next_count
  | .use _ => .UseMaker_next_count
  | .many => .ManyMaker_next_count
  | .alike _ => .AlikeMaker_next_count
  | _ => .Maker_next_count
section
variable {K : PySem.W.Frag} {B : Book} {n N m : Nat} {H : Hp} {Q : VK} {E : XK} {nd a dx cl w xa : Addr} {rl : List Addr} {ks : List MT} {nms : List (Str × MT)}
theorem x_Whole {lo hi : Int} (M : Mid K B H nd n (.whole lo hi) a dx cl w xa rl ks) (hn : n ≤ 1000) (q : Q (.int (cn B (.nd (.whole lo hi) (MT.shs ks)) n)) H) : W K (m + 1) .WholeMaker_next_count [.ref a, .int n] H Q E := by
  have h1 := M.ha
  have hc : cn B (.nd (.whole lo hi) (MT.shs ks)) n = (wholes lo hi n).length := by unfold cn; rw [val_eq]; rfl
  rw [hc] at q
  refine ⟨rfl, ?_⟩
  show t_WholeMaker_next_count K (W K m) _ _ _
  unfold t_WholeMaker_next_count
  cases n with
  | zero =>
    tm_at "w"
    exact q
  | succ j =>
    tm_at "w"
    have e1 : ((j + 1 : Nat) : Int) - 1 = (j : Int) := by omega
    rw [e1]
    refine vShl (shl_one (by omega)) ?_
    tm_at "w"
    refine vMul (.inl ?_) ?_
    · exact mulx_ok (a := 4000) (b := 4000) (by decide) (by
        rw [Int.toNat_natCast, Int.one_mul]
        have : ((2 : Int) ^ j).natAbs = 2 ^ j := by rw [Int.natAbs_pow]; rfl
        rw [this]
        exact Nat.pow_lt_pow_right (by decide) (by omega)) (by decide)
    tm_at "w"
    rw [Int.toNat_natCast, Int.one_mul]
    have e2 : max 0 (min (hi - lo) (2 * 2 ^ j - 1) - 2 ^ j + 1) = (((wholes lo hi (j + 1)).length : Nat) : Int) := by
      unfold wholes
      rw [List.length_map, List.length_range]
      omega
    rw [e2]
    exact q
theorem texts_len {s : Str} {j : Nat} : (textsS s (j + 1)).length = (textsS s j).length * s.length := by
  show ((textsS s j).flatMap fun w => s.cps.toList.map fun c => w ++ (⟨#[c]⟩ : Str)).length = _
  rw [flat_len (fun (w : Str) (c : Nat) => w ++ (⟨#[c]⟩ : Str)), ← str_len]
theorem x_Text {s : Str} (M : Mid K B H nd n (.text s) a dx cl w xa rl ks) (hn : n ≤ 1000) (sm : ∀ j, j < n → Sm (cn B (.nd (.text s) (MT.shs ks)) j)) (q : Q (.int (cn B (.nd (.text s) (MT.shs ks)) n)) H) : W K (m + 1) .TextMaker_next_count [.ref a, .int n] H Q E := by
  have h1 := M.ha
  have h3 := M.hc
  obtain ⟨x1, x2, x3⟩ : 0 < s.length ∧ s.length ≤ 100 ∧ rl = [] := M.hx
  have hc : ∀ n, cn B (.nd (.text s) (MT.shs ks)) n = (textsS s n).length := by intro n; unfold cn; rw [val_eq]; exact List.length_map _
  refine ⟨rfl, ?_⟩
  show t_TextMaker_next_count K (W K m) _ _ _
  unfold t_TextMaker_next_count
  cases n with
  | zero =>
    tm_at "w"
    rw [hc] at q
    exact q
  | succ j =>
    tm_at "w"
    have e1 : ((j + 1 : Nat) : Int) - 1 = (j : Int) := by omega
    rw [e1]
    refine vIxL (SqL.of h3) (atI_nat (cts_get (Nat.lt_succ_self j))) ?_
    tm_at "w"
    refine vLenS (by rw [sizeLine_eq]; omega) ?_
    refine vMul (Sm.mul (sm j (Nat.lt_succ_self j)) (Sm.le (by omega))) ?_
    have e : (((cn B (.nd (.text s) (MT.shs ks)) j : Nat) : Int)) * ((s.length : Nat) : Int) = ((cn B (.nd (.text s) (MT.shs ks)) (j + 1) : Nat) : Int) := by
      rw [hc, hc, texts_len]; simp
    rw [e]
    exact q
end
end Pk
set_option Elab.async false
set_option linter.all false
set_option maxRecDepth 100000
set_option maxHeartbeats 4000000
/-! Grow2: the next count of lists, of things all alike, of choices, of uses. -/
namespace Pk
open PySem PySem.Spec PyProof.Rows L2 Cw
local macro_rules | `(tactic| tm_at "h") => `(tactic| first
  | assumption
  | exact upd_same
  | ((with_reducible refine' upd_old ?h1 ?h2); (case h1 => assumption); (case h2 => tm_at "h"))
  | ((with_reducible refine' upd_oth ?h1 ?h2); (case h1 => first | assumption | (exact Ne.symm (by assumption)) | (exact ne_of_none (by assumption) (by assumption)) | (exact Ne.symm (ne_of_none (by assumption) (by assumption)))); (case h2 => tm_at "h"))
  | ((refine' Same.at (by assumption) ?h3); (case h3 => tm_at "h")))
local macro_rules | `(tactic| tm_at "l") => `(tactic| first
  | assumption
  | exact SqL.of (by tm_at "h")
  | exact SqT.of (by tm_at "h")
  | exact Same.seq (by assumption) (by tm_at "l")
  | exact Cw.Same.tup (by assumption) (by tm_at "l"))
local macro_rules | `(tactic| tm_at "b") => `(tactic| first
  | rfl
  | decide
  | exact decide_eq_true (by first | assumption | rfl | omega)
  | exact decide_eq_false (by first | assumption | omega))
local macro_rules | `(tactic| tm_at "w1") => `(tactic| first
  | ((with_reducible refine' vVar ?h1 ?_); (case h1 => rfl))
  | with_reducible refine' sSeq ?_
  | with_reducible refine' sAsg ?_
  | with_reducible refine' sName ?_
  | with_reducible refine' vOp ?_
  | with_reducible refine' vC ?_
  | with_reducible refine' vCons ?_
  | with_reducible refine' vNil ?_
  | with_reducible refine' vCB ?_
  | with_reducible refine' vFldE ?_
  | with_reducible refine' vAddI ?_
  | with_reducible refine' vSub ?_
  | with_reducible refine' vCmp ?_
  | with_reducible refine' vEqI ?_
  | with_reducible refine' vEqS ?_
  | with_reducible refine' vNeI ?_
  | with_reducible refine' sIf ?_
  | with_reducible refine' vTest ?_
  | with_reducible refine' vTB ?_
  | with_reducible refine' vBl ?_
  | with_reducible refine' sRet ?_
  | with_reducible refine' sDrop ?_
  | with_reducible refine' sNext ?_
  | ((with_reducible refine' iT ?h1 ?_); (case h1 => tm_at "b"))
  | ((with_reducible refine' iN ?h1 ?_); (case h1 => tm_at "b"))
  | with_reducible refine' vMethE ?_
  | with_reducible refine' vCall ?_
  | with_reducible refine' vAnd ?_
  | with_reducible refine' vOr ?_
  | with_reducible refine' vNot ?_
  | with_reducible refine' vAndV ?_
  | with_reducible refine' vOrV ?_
  | with_reducible refine' vNotV ?_
  | with_reducible refine' vIfE ?_
  | with_reducible refine' vTup ?_
  | with_reducible refine' vLst ?_
  | with_reducible refine' vBM ?_
  | with_reducible refine' vBM0 ?_
  | with_reducible refine' vMax2 ?_
  | with_reducible refine' vMin2 ?_
  | with_reducible refine' vInt ?_
  | with_reducible refine' vIntB ?_
  | with_reducible refine' vUn ?_
  | with_reducible refine' vNeg ?_
  | ((with_reducible refine' sAug ?h1 ?_); (case h1 => rfl))
  | with_reducible refine' sIAdd ?_
  | with_reducible refine' sISub ?_
  | with_reducible refine' sStoE ?_
  | ((with_reducible refine' vFld ?h1 ?h2 ?_); (case h1 => tm_at "h"); (case h2 => rfl))
  | ((with_reducible refine' sSto ?h1 ?h2 ?_); (case h1 => tm_at "h"); (case h2 => first | (show 0 < 1000; decide) | (show 1 < 1000; decide) | (show 2 < 1000; decide) | (show 3 < 1000; decide) | (show 4 < 1000; decide) | (show 5 < 1000; decide)))
  | ((with_reducible refine' vLenL ?h1 ?_); (case h1 => tm_at "l"))
  | ((with_reducible refine' vLenT ?h1 ?_); (case h1 => tm_at "l"))
  | with_reducible refine' vSl ?_
  | with_reducible refine' vPart ?_
  | with_reducible refine' vPartI ?_
  | with_reducible refine' vNoPart ?_
  | with_reducible refine' sCons ?_
  | with_reducible refine' sNil ?_
  | with_reducible refine' wAnyE ?_
  | with_reducible refine' wRng1 ?_
  | with_reducible refine' wRng3 ?_
  | with_reducible refine' vRevE ?_
  | with_reducible refine' wEnum ?_
  | with_reducible refine' vDGet ?_
  | with_reducible refine' wRng2 ?_
  | with_reducible refine' wRng1I ?_
  | with_reducible refine' wRng2I ?_
  | with_reducible refine' sFor ?_
  | ((with_reducible refine' sTup ?h1 ?h2 ?_); (case h1 => tm_at "l"); (case h2 => rfl))
  | ((with_reducible refine' vTyL ?h1 ?_); (case h1 => tm_at "h"))
  | ((refine' vMod ?h1 ?_); (case h1 => (show (0 : Int) < _; omega)))
  | fail "stuck")
local macro_rules | `(tactic| tm_at "w") => `(tactic| repeat tm_at "w1")
section
variable {K : PySem.W.Frag} {B : Book} {n N m : Nat} {H : Hp} {Q : VK} {E : XK} {nd a dx cl w xa : Addr} {rl : List Addr} {ks : List MT} {nms : List (Str × MT)}
theorem x_Many (M : Mid K B H nd n .many a dx cl w xa rl ks) (hn : n ≤ 1000) (sm : SmS B (n + 1) (.nd .many (MT.shs ks))) (q : ∀ H', Same H H' → Q (.int (cn B (.nd .many (MT.shs ks)) n)) H') : W K (m + 1) .ManyMaker_next_count [.ref a, .int n] H Q E := by
  have h1 := M.ha
  have h2 := M.hw
  have h3 := M.hc
  obtain ⟨⟨k0, hk0⟩, x1⟩ : (∃ k0, ks = [k0]) ∧ rl = [] := M.hx
  have h7 := M.hk
  subst hk0
  rw [ks1] at *
  have Mk := h7.get (i := 0) rfl
  have sm0 := sm
  unfold SmS SmL at sm
  obtain ⟨_, _, sml, _⟩ := sm
  have iw : atI ([k0].map fun m => V.ref m.a) 0 = some (.ref k0.a) := rfl
  refine ⟨rfl, ?_⟩
  show t_ManyMaker_next_count K (W K m) _ _ _
  unfold t_ManyMaker_next_count
  cases n with
  | zero =>
    tm_at "w"
    have e : cn B (.nd .many [k0.sh]) 0 = 1 := by unfold cn; rw [val_many, if_pos rfl]; rfl
    rw [e] at q
    exact q H (Same.refl H)
  | succ j =>
    tm_at "w"
    refine vIxL (SqL.of h2) iw ?_
    refine vCnt Mk ?_
    tm_at "w"
    refine vLc ?_
    tm_at "w"
    refine ⟨by omega, by omega, ?_⟩
    refine lc_ints (fun i => ((cn B k0.sh i : Nat) : Int) * ((cn B (.nd .many [k0.sh]) (j - i) : Nat) : Int)) ?_ (fun _ => ?_) ?_ ?_
    · omega
    · rfl
    · intro i H' hi hS Qe hq
      rw [Int.toNat_natCast] at hi
      tm_at "w"
      refine vIxL (SqL.of (hS _ _ Mk.cnt)) (atI_nat (cts_get (by omega))) ?_
      tm_at "w"
      have e1 : ((j + 1 : Nat) : Int) - 1 - (i : Int) = ((j - i : Nat) : Int) := by omega
      rw [e1]
      refine vIxL (SqL.of (hS _ _ h3)) (atI_nat (cts_get (by omega))) ?_
      exact vMul (Sm.mul (sml.cn (by omega)) (sm0.cn (by omega))) hq
    · intro p H' hS hp
      tm_at "w"
      refine vSum (SqL.of hp) ?_
      rw [Int.toNat_natCast, ahead_sum]
      have e : cn B (.nd .many [k0.sh]) (j + 1) = ahead (cn B k0.sh) (cn B (.nd .many [k0.sh])) j (j + 1) := by
        have e0 : cn B (.nd .many [k0.sh]) (j + 1) = (val B (j + 1) (.nd .many [k0.sh])).length := rfl
        rw [e0, val_many, if_neg (Nat.succ_ne_zero j), blocks_len]
        rfl
      rw [e] at q
      exact q H' hS
theorem x_Alike {t : Nat} (M : Mid K B H nd n (.alike t) a dx cl w xa rl ks) (hn : n ≤ 1000) (q : Q (.int (cn B (.nd (.alike t) (MT.shs ks)) n)) H) : W K (m + 1) .AlikeMaker_next_count [.ref a, .int n] H Q E := by
  have h1 := M.ha
  have h2 := M.hw
  obtain ⟨⟨k0, hk0⟩, x1, ht0⟩ : (∃ k0, ks = [k0]) ∧ rl = [] ∧ 0 < t := M.hx
  have h7 := M.hk
  subst hk0
  rw [ks1] at *
  have Mk := h7.get (i := 0) rfl
  have iw : atI ([k0].map fun m => V.ref m.a) 0 = some (.ref k0.a) := rfl
  have e0 : cn B (.nd (.alike t) [k0.sh]) n = if n < t ∨ n % t ≠ 0 then 0 else cn B k0.sh (n / t - 1) := by
    have e0 : cn B (.nd (.alike t) [k0.sh]) n = (val B n (.nd (.alike t) [k0.sh])).length := rfl
    rw [e0, val_alike]
    by_cases hb : n < t ∨ n % t ≠ 0
    · rw [if_pos hb, if_pos hb]; rfl
    · rw [if_neg hb, if_neg hb, List.length_map]; rfl
  rw [e0] at q
  refine ⟨rfl, ?_⟩
  show t_AlikeMaker_next_count K (W K m) _ _ _
  unfold t_AlikeMaker_next_count
  tm_at "w"
  refine iD (fun hd => ?_) (fun hd => ?_)
  · tm_at "w"
    rw [if_pos (.inl (by omega))] at q
    exact q
  · tm_at "w"
    have em : (n : Int) % (t : Int) = ((n % t : Nat) : Int) := by rw [Int.natCast_emod]
    rw [em]
    refine iB (fun hb => ?_) (fun hb => ?_)
    · have hb2 : n % t ≠ 0 := by
        have h := hb
        simp at h
        intro z
        exact h (by rw [em, z]; rfl)
      rw [if_pos (.inr hb2)] at q
      tm_at "w"
      exact q
    · have hb2 : n % t = 0 := by
        have h := hb
        simp at h
        have h2 : ((n % t : Nat) : Int) = 0 := by rw [← em]; exact h
        omega
      rw [if_neg (by omega)] at q
      have h2' := Nat.div_pos (show t ≤ n by omega) ht0
      dsimp only
      tm_at "w"
      refine vIxL (SqL.of h2) iw ?_
      refine vCnt Mk ?_
      tm_at "w"
      refine vDiv (Sm.div (Sm.le (x := t) (by omega)) ht0) ?_
      tm_at "w"
      have e1 : (n : Int) / (t : Int) - 1 = ((n / t - 1 : Nat) : Int) := by rw [← Int.natCast_ediv]; omega
      rw [e1]
      refine vIxL (SqL.of Mk.cnt) (atI_nat (cts_get ?_)) q
      have := Nat.div_le_self n t
      omega
theorem picks_len {B : Book} {n : Nat} : ∀ {ms : List Str} {ss : List Sh}, ms.length = ss.length → (picksV B ms ss n).length = (ss.map fun s => cn B s n).sum
  | [], [], _ => rfl
  | m :: ms, s :: ss, h => by
    unfold picksV
    rw [List.length_append, List.length_map, picks_len (by simpa using h)]
    rfl
theorem sum_cast : ∀ {xs : List Nat}, (xs.map fun (x : Nat) => (x : Int)).sum = ((xs.sum : Nat) : Int)
  | [] => rfl
  | x :: xs => by
    rw [List.map_cons, List.sum_cons, List.sum_cons, sum_cast]; simp
theorem x_Pick {ms : List Str} (M : Mid K B H nd n (.pick ms) a dx cl w xa rl ks) (hn : n ≤ 1000) (q : ∀ H', Same H H' → Q (.int (cn B (.nd (.pick ms) (MT.shs ks)) n)) H') : W K (m + 1) .PickMaker_next_count [.ref a, .int n] H Q E := by
  have h1 := M.ha
  have h2 := M.hw
  obtain ⟨x1, x2, x3, x4⟩ : H xa = some (.lst (ms.map V.str)) ∧ ms.length = ks.length ∧ ks.length ≤ 1000 ∧ rl = [] := M.hx
  have h7 := M.hk
  have e : cn B (.nd (.pick ms) (MT.shs ks)) n = (ks.map fun k => cn B k.sh n).sum := by
    have e0 : cn B (.nd (.pick ms) (MT.shs ks)) n = (val B n (.nd (.pick ms) (MT.shs ks))).length := rfl
    rw [e0, val_pick, picks_len (by rw [shs_map, List.length_map]; exact x2), shs_map, List.map_map]
    rfl
  refine ⟨rfl, ?_⟩
  show t_PickMaker_next_count K (W K m) _ _ _
  unfold t_PickMaker_next_count
  tm_at "w"
  refine vLc ?_
  tm_at "w"
  refine wAnyL (SqL.of h2) ?_
  intro D hD
  refine lc_list (xs := ks.map fun m => V.ref m.a) (fun i H' => Same H H' ∧ H' D = some (.lst (((ks.take i).map fun k => V.int (cn B k.sh n))))) ⟨same_upd hD, upd_same⟩ ?_ ?_ ?_
  · rintro i H' hi ⟨hS, _⟩
    exact SqL.of (hS _ _ h2)
  · rintro i x H' hx ⟨hS, hF⟩
    rw [List.getElem?_map] at hx
    cases hk : ks[i]? with
    | none => rw [hk] at hx; cases hx
    | some mt =>
    rw [hk] at hx
    have e := Option.some.inj hx
    subst e
    have hi : i < ks.length := (List.getElem?_eq_some_iff.mp hk).1
    have Mk := (h7.get hk).same hS
    refine sName ⟨rfl, ?_⟩
    refine vYes ?_
    refine iT rfl ?_
    tm_at "w"
    refine vCnt Mk ?_
    tm_at "w"
    refine vIxL (SqL.of Mk.cnt) (atI_nat (cts_get (Nat.lt_succ_self n))) ?_
    refine ⟨_, hF, by rw [List.length_map, List.length_take]; have := sizeLine_eq; omega, Same.mut hS hD, ?_⟩
    rw [upd_same, List.take_succ, hk, List.map_append]
    rfl
  · rintro H' ⟨hS, hF⟩
    rw [List.length_map, List.take_length] at hF
    have hF2 : H' D = some (.lst ((ks.map fun k => ((cn B k.sh n : Nat) : Int)).map V.int)) := by rw [hF, List.map_map]; rfl
    tm_at "w"
    refine vSum (SqL.of hF2) ?_
    have e2 : (ks.map fun k => ((cn B k.sh n : Nat) : Int)).sum = ((cn B (.nd (.pick ms) (MT.shs ks)) n : Nat) : Int) := by
      rw [e, ← sum_cast, List.map_map]; rfl
    rw [e2]
    exact q H' hS
theorem x_Use {x : Str} (M : Mid K (bk nms) H nd n (.use x) a dx cl w xa rl ks) (G : NmG K H nd n nms) (hn : n ≤ 1000) (q : Q (.int (cn (bk nms) (.nd (.use x) (MT.shs ks)) n)) H) : W K (m + 1) .UseMaker_next_count [.ref a, .int n] H Q E := by
  have h1 := M.ha
  obtain ⟨x1, x2⟩ : ((bk nms).lookup x).isSome = true ∧ rl = [] := M.hx
  obtain ⟨mt, hl⟩ := bk_some x1
  obtain ⟨l1, l2, l3⟩ := look_bk hl
  have e0 : ∀ j, cn (bk nms) (.nd (.use x) (MT.shs ks)) j = if j = 0 then 0 else cn (bk nms) mt.sh (j - 1) := by
    intro j
    have e0 : cn (bk nms) (.nd (.use x) (MT.shs ks)) j = (val (bk nms) j (.nd (.use x) (MT.shs ks))).length := rfl
    rw [e0, val_use, l1]
    by_cases hz : j = 0
    · rw [if_pos hz, if_pos hz]; rfl
    · rw [if_neg hz, if_neg hz]; rfl
  rw [e0] at q
  refine ⟨rfl, ?_⟩
  show t_UseMaker_next_count K (W K m) _ _ _
  unfold t_UseMaker_next_count
  cases n with
  | zero =>
    tm_at "w"
    exact q
  | succ j =>
    tm_at "w"
    obtain ⟨c, dx', fs, xs, g1, g2, g3, g4⟩ := G.at_ _ l2
    refine ⟨nd, .ref mt.a, rfl, .inl ⟨_, (Sum.inr x : Key), G.dict, rfl, l3.symm⟩, ?_⟩
    refine vFld g1 g2 ?_
    tm_at "w"
    have e1 : ((j + 1 : Nat) : Int) - 1 = (j : Int) := by omega
    rw [e1]
    refine vIxL (SqL.of g3) (atI_nat (g4 j (Nat.lt_succ_self j))) ?_
    exact q
end
end Pk
set_option Elab.async false
set_option linter.all false
set_option maxRecDepth 100000
set_option maxHeartbeats 4000000
/-! Grow3: the next count of rows. -/
namespace Pk
open PySem PySem.Spec PyProof.Rows L2 Cw
local macro_rules | `(tactic| tm_at "h") => `(tactic| first
  | assumption
  | exact upd_same
  | ((with_reducible refine' upd_old ?h1 ?h2); (case h1 => assumption); (case h2 => tm_at "h"))
  | ((with_reducible refine' upd_oth ?h1 ?h2); (case h1 => first | assumption | (exact Ne.symm (by assumption)) | (exact ne_of_none (by assumption) (by assumption)) | (exact Ne.symm (ne_of_none (by assumption) (by assumption)))); (case h2 => tm_at "h"))
  | ((refine' Same.at (by assumption) ?h3); (case h3 => tm_at "h")))
local macro_rules | `(tactic| tm_at "l") => `(tactic| first
  | assumption
  | exact SqL.of (by tm_at "h")
  | exact SqT.of (by tm_at "h")
  | exact Same.seq (by assumption) (by tm_at "l")
  | exact Cw.Same.tup (by assumption) (by tm_at "l"))
local macro_rules | `(tactic| tm_at "b") => `(tactic| first
  | rfl
  | decide
  | exact decide_eq_true (by first | assumption | rfl | omega)
  | exact decide_eq_false (by first | assumption | omega))
local macro_rules | `(tactic| tm_at "w1") => `(tactic| first
  | ((with_reducible refine' vVar ?h1 ?_); (case h1 => rfl))
  | with_reducible refine' sSeq ?_
  | with_reducible refine' sAsg ?_
  | with_reducible refine' sName ?_
  | with_reducible refine' vOp ?_
  | with_reducible refine' vC ?_
  | with_reducible refine' vCons ?_
  | with_reducible refine' vNil ?_
  | with_reducible refine' vCB ?_
  | with_reducible refine' vFldE ?_
  | with_reducible refine' vAddI ?_
  | with_reducible refine' vSub ?_
  | with_reducible refine' vCmp ?_
  | with_reducible refine' vEqI ?_
  | with_reducible refine' vEqS ?_
  | with_reducible refine' vNeI ?_
  | with_reducible refine' sIf ?_
  | with_reducible refine' vTest ?_
  | with_reducible refine' vTB ?_
  | with_reducible refine' vBl ?_
  | with_reducible refine' sRet ?_
  | with_reducible refine' sDrop ?_
  | with_reducible refine' sNext ?_
  | ((with_reducible refine' iT ?h1 ?_); (case h1 => tm_at "b"))
  | ((with_reducible refine' iN ?h1 ?_); (case h1 => tm_at "b"))
  | with_reducible refine' vMethE ?_
  | with_reducible refine' vCall ?_
  | with_reducible refine' vAnd ?_
  | with_reducible refine' vOr ?_
  | with_reducible refine' vNot ?_
  | with_reducible refine' vAndV ?_
  | with_reducible refine' vOrV ?_
  | with_reducible refine' vNotV ?_
  | with_reducible refine' vIfE ?_
  | with_reducible refine' vTup ?_
  | with_reducible refine' vLst ?_
  | with_reducible refine' vBM ?_
  | with_reducible refine' vBM0 ?_
  | with_reducible refine' vMax2 ?_
  | with_reducible refine' vMin2 ?_
  | with_reducible refine' vInt ?_
  | with_reducible refine' vIntB ?_
  | with_reducible refine' vUn ?_
  | with_reducible refine' vNeg ?_
  | ((with_reducible refine' sAug ?h1 ?_); (case h1 => rfl))
  | with_reducible refine' sIAdd ?_
  | with_reducible refine' sISub ?_
  | with_reducible refine' sStoE ?_
  | ((with_reducible refine' vFld ?h1 ?h2 ?_); (case h1 => tm_at "h"); (case h2 => rfl))
  | ((with_reducible refine' sSto ?h1 ?h2 ?_); (case h1 => tm_at "h"); (case h2 => first | (show 0 < 1000; decide) | (show 1 < 1000; decide) | (show 2 < 1000; decide) | (show 3 < 1000; decide) | (show 4 < 1000; decide) | (show 5 < 1000; decide)))
  | ((with_reducible refine' vLenL ?h1 ?_); (case h1 => tm_at "l"))
  | ((with_reducible refine' vLenT ?h1 ?_); (case h1 => tm_at "l"))
  | with_reducible refine' vSl ?_
  | with_reducible refine' vPart ?_
  | with_reducible refine' vPartI ?_
  | with_reducible refine' vNoPart ?_
  | with_reducible refine' sCons ?_
  | with_reducible refine' sNil ?_
  | with_reducible refine' wAnyE ?_
  | with_reducible refine' wRng1 ?_
  | with_reducible refine' wRng3 ?_
  | with_reducible refine' vRevE ?_
  | with_reducible refine' wEnum ?_
  | with_reducible refine' vDGet ?_
  | with_reducible refine' wRng2 ?_
  | with_reducible refine' wRng1I ?_
  | with_reducible refine' wRng2I ?_
  | with_reducible refine' sFor ?_
  | ((with_reducible refine' sTup ?h1 ?h2 ?_); (case h1 => tm_at "l"); (case h2 => rfl))
  | ((with_reducible refine' vTyL ?h1 ?_); (case h1 => tm_at "h"))
  | ((refine' vMod ?h1 ?_); (case h1 => (show (0 : Int) < _; omega)))
  | fail "stuck")
local macro_rules | `(tactic| tm_at "w") => `(tactic| repeat tm_at "w1")
section
variable {K : PySem.W.Frag} {B : Book} {n N m : Nat} {H : Hp} {Q : VK} {E : XK} {nd a dx cl w xa : Addr} {rl : List Addr} {ks : List MT} {nms : List (Str × MT)}
theorem rn_nil : rn B [] n = if n = 0 then 1 else 0 := by
  show (rowsV B [] n).length = _
  rw [rowsV_nil]
  by_cases h : n = 0
  · rw [if_pos h, if_pos h]; rfl
  · rw [if_neg h, if_neg h]; rfl
theorem rn_cons {s : Sh} {ss : List Sh} : rn B (s :: ss) n = ahead (cn B s) (rn B ss) n (n + 1) := by
  show (rowsV B (s :: ss) n).length = _
  rw [rowsV_cons, blocks_len]
  rfl
theorem idx_inj {rl : List Addr} (hn : rl.Nodup) {i j : Nat} {r : Addr} (h : rl[i]? = some r) (h' : rl[j]? = some r) : i = j := by
  have hi := (List.getElem?_eq_some_iff.mp h).1
  exact (List.getElem?_inj hi hn).mp (h.trans h'.symm)
theorem row_upd {rl : List Addr} {H : Hp} {g : Nat → List V} {i : Nat} {r : Addr} {xs : List V} (hn : rl.Nodup) (hr : rl[i]? = some r) (h : ∀ (j : Nat) (q : Addr), rl[j]? = some q → H q = some (.lst (g j))) :
    ∀ (j : Nat) (q : Addr), rl[j]? = some q → L2.upd H r (.lst xs) q = some (.lst (if j = i then xs else g j)) := by
  intro j q hq
  by_cases e : j = i
  · subst e
    rw [hr] at hq
    cases hq
    rw [upd_same, if_pos rfl]
  · rw [if_neg e, upd_ne (fun z => by subst z; exact e (idx_inj hn hq hr))]
    exact h j q hq
theorem x_Row (M : Mid K B H nd n .row a dx cl w xa rl ks) (hn : n ≤ 1000) (sm : SmS B (n + 1) (.nd .row (MT.shs ks))) (hnd : rl.Nodup) (ha : a ∉ rl) (hw : w ∉ rl) (hxa : xa ∉ rl) (hks : ∀ b ∈ MT.adrs ks, b ∉ rl)
    (q : ∀ H', Fr rl H H' → xAt B H' (n + 1) .row xa rl ks → Q (.int (cn B (.nd .row (MT.shs ks)) n)) H') : W K (m + 1) .RowMaker_next_count [.ref a, .int n] H Q E := by
  have h1 := M.ha
  have h2 := M.hw
  obtain ⟨x1, x2, x3, x4⟩ : H xa = some (.lst (rl.map V.ref)) ∧ rl.length = ks.length + 1 ∧ ks.length ≤ 1000 ∧ rsAt B H n (MT.shs ks) rl := M.hx
  have h7 := M.hk
  unfold SmS at sm
  obtain ⟨_, smr, sml⟩ := sm
  have hsl : (MT.shs ks).length = ks.length := by rw [shs_map, List.length_map]
  have ix : ∀ {j : Nat} {r : Addr} {k : Int}, rl[j]? = some r → k = (j : Int) → atI (rl.map V.ref) k = some (.ref r) := by
    intro j r k hr e
    subst e
    exact atI_nat (by rw [List.getElem?_map, hr]; rfl)
  refine ⟨rfl, ?_⟩
  show t_RowMaker_next_count K (W K m) _ _ _
  unfold t_RowMaker_next_count
  tm_at "w"
  rw [List.length_map]
  obtain ⟨rz, hrz⟩ : ∃ rz, rl[ks.length]? = some rz := ⟨_, List.getElem?_eq_getElem (by omega)⟩
  refine vIxL (SqL.of x1) (ix hrz rfl) ?_
  have hz := x4 _ _ hrz
  tm_at "w"
  refine vApp hz (by rw [cts_len]; have := sizeLine_eq; omega) ?_
  have ez : cts (rn B ((MT.shs ks).drop ks.length)) n ++ [V.int (if decide ((n : Int) = 0) = true then 1 else 0)] = cts (rn B ((MT.shs ks).drop ks.length)) (n + 1) := by
    rw [← cts_snoc]
    congr 3
    rw [List.drop_eq_nil_of_le (by omega), rn_nil]
    by_cases h : n = 0
    · subst h; rfl
    · rw [if_neg h, if_neg (by simp; omega)]; rfl
  rw [ez]
  tm_at "w"
  refine ⟨_, _, _, _, rfl, RgC.neg (by omega) (by omega) (by decide) (by decide), ?_⟩
  refine for_rangeC (fun i σ H' => Fr rl H H' ∧ (∀ (j : Nat) (r : Addr), rl[j]? = some r → H' r = some (.lst (cts (rn B ((MT.shs ks).drop j)) (if ks.length ≤ j + i then n + 1 else n)))) ∧ ∃ x3 x4 x5 x6, σ = [some (.ref a), some (.int n), some (.int ks.length), x3, x4, x5, x6])
    ⟨Fr.upd (List.mem_of_getElem? hrz), ?_, none, none, none, none, rfl⟩ ?_ ?_
  · intro j r hr
    rw [row_upd hnd hrz x4 j r hr]
    have hj := (List.getElem?_eq_some_iff.mp hr).1
    by_cases e : j = ks.length
    · subst e
      rw [if_pos rfl, if_pos (by omega)]
    · rw [if_neg e, if_neg (by omega)]
  · rintro i σ H' hi ⟨hF, hR, y3, y4, y5, y6, rfl⟩
    have hi' : i < ks.length := by omega
    obtain ⟨j, hj⟩ : ∃ j, j + 1 + i = ks.length := ⟨ks.length - 1 - i, by omega⟩
    have ek : ((ks.length : Int) - 1 + (i : Nat) * -1) = (j : Int) := by omega
    rw [ek]
    obtain ⟨mt, hk⟩ : ∃ mt, ks[j]? = some mt := ⟨_, List.getElem?_eq_getElem (by omega)⟩
    obtain ⟨r0, hr0⟩ : ∃ r0, rl[j]? = some r0 := ⟨_, List.getElem?_eq_getElem (by omega)⟩
    obtain ⟨r1, hr1⟩ : ∃ r1, rl[j + 1]? = some r1 := ⟨_, List.getElem?_eq_getElem (by omega)⟩
    have hsh : (MT.shs ks)[j]? = some mt.sh := by rw [shs_map, List.getElem?_map, hk]; rfl
    have hdrop : (MT.shs ks).drop j = mt.sh :: (MT.shs ks).drop (j + 1) := by
      have hi2 : j < (MT.shs ks).length := (List.getElem?_eq_some_iff.mp hsh).1
      rw [List.drop_eq_getElem_cons hi2]
      congr 1
      exact (List.getElem?_eq_some_iff.mp hsh).2
    have hks2 : ∀ b ∈ mt.adr, b ∉ rl := fun b hb => hks b (adrs_mem hk hb)
    have Mk := (h7.get hk).mono mt (fun b hb o ho => hF b o (hks2 b hb) ho)
    have hfa := hF _ _ ha h1
    have hfw := hF _ _ hw h2
    have hfx := hF _ _ hxa x1
    have iw : atI (ks.map fun m => V.ref m.a) (j : Int) = some (.ref mt.a) := atI_nat (by rw [List.getElem?_map, hk]; rfl)
    have hv0 := hR _ _ hr0
    have hv1 := hR _ _ hr1
    rw [if_neg (by omega)] at hv0
    rw [if_pos (by omega)] at hv1
    tm_at "w"
    refine vIxL (SqL.of hfw) iw ?_
    refine vCnt Mk ?_
    tm_at "w"
    refine vIxL (SqL.of hfx) (ix hr1 (by omega)) ?_
    tm_at "w"
    refine vIxL (SqL.of hfx) (ix hr0 rfl) ?_
    tm_at "w"
    refine vLc ?_
    tm_at "w"
    refine ⟨by omega, by omega, ?_⟩
    refine lc_ints (fun f => ((cn B mt.sh f : Nat) : Int) * ((rn B ((MT.shs ks).drop (j + 1)) (n - f) : Nat) : Int)) ?_ (fun _ => ?_) ?_ ?_
    · omega
    · rfl
    · intro f H2 hf hS Qe hq
      have hf' : f < n + 1 := by omega
      tm_at "w"
      refine vIxL (SqL.of (hS _ _ Mk.cnt)) (atI_nat (cts_get (by omega))) ?_
      tm_at "w"
      have e1 : (n : Int) - (f : Int) = ((n - f : Nat) : Int) := by omega
      rw [e1]
      refine vIxL (SqL.of (hS _ _ hv1)) (atI_nat (cts_get (by omega))) ?_
      exact vMul (Sm.mul ((sml.get hsh).cn (by omega)) (smr _ _ (by omega))) hq
    · intro p H2 hS hp
      tm_at "w"
      refine vSum (SqL.of hp) ?_
      have e2 : ((n : Int) + 1).toNat = n + 1 := by omega
      rw [e2, ahead_sum, ← rn_cons, ← hdrop]
      tm_at "w"
      refine vApp (hS _ _ hv0) (by rw [cts_len]; have := sizeLine_eq; omega) ?_
      rw [cts_snoc]
      refine ⟨(hF.trans (Fr.of hS) (by simp)).trans (Fr.upd (List.mem_of_getElem? hr0)) (fun b h => h), ?_, _, _, _, _, rfl⟩
      intro j2 r2 hr2
      have hR2 : ∀ (j : Nat) (r : Addr), rl[j]? = some r → H2 r = some (.lst (cts (rn B ((MT.shs ks).drop j)) (if ks.length ≤ j + i then n + 1 else n))) := fun j r h => hS _ _ (hR j r h)
      rw [row_upd hnd hr0 hR2 j2 r2 hr2]
      by_cases e : j2 = j
      · subst e
        rw [if_pos rfl, if_pos (by omega)]
      · rw [if_neg e]
        by_cases e3 : ks.length ≤ j2 + i
        · rw [if_pos e3, if_pos (by omega)]
        · rw [if_neg e3, if_neg (by omega)]
  · rintro σ H' ⟨hF, hR, y3, y4, y5, y6, rfl⟩
    have en : ((ks.length : Int) - 1 - -1).toNat = ks.length := by omega
    rw [en] at hR
    have hfa := hF _ _ ha h1
    have hfx := hF _ _ hxa x1
    obtain ⟨r0, hr0⟩ : ∃ r0, rl[0]? = some r0 := ⟨_, List.getElem?_eq_getElem (by omega)⟩
    have hv0 := hR _ _ hr0
    rw [if_pos (by omega)] at hv0
    dsimp only
    tm_at "w"
    refine vIxL (SqL.of hfx) (ix hr0 rfl) ?_
    tm_at "w"
    refine vIxL (SqL.of hv0) (atI_nat (cts_get (Nat.lt_succ_self n))) ?_
    have e : rn B ((MT.shs ks).drop 0) n = cn B (.nd .row (MT.shs ks)) n := by
      have e0 : cn B (.nd .row (MT.shs ks)) n = (val B n (.nd .row (MT.shs ks))).length := rfl
      rw [e0, val_row, List.length_map]; rfl
    rw [e]
    refine q H' hF ⟨hfx, x2, x3, fun j r hr => ?_⟩
    have := hR j r hr
    rw [if_pos (by omega)] at this
    exact this
end
end Pk
set_option Elab.async false
set_option linter.all false
set_option maxRecDepth 100000
set_option maxHeartbeats 4000000
/-! Grow4: a maker grows by one size. -/
namespace Pk
open PySem PySem.Spec PyProof.Rows L2 Cw
local macro_rules | `(tactic| tm_at "h") => `(tactic| first
  | assumption
  | exact upd_same
  | ((with_reducible refine' upd_old ?h1 ?h2); (case h1 => assumption); (case h2 => tm_at "h"))
  | ((with_reducible refine' upd_oth ?h1 ?h2); (case h1 => first | assumption | (exact Ne.symm (by assumption)) | (exact ne_of_none (by assumption) (by assumption)) | (exact Ne.symm (ne_of_none (by assumption) (by assumption)))); (case h2 => tm_at "h"))
  | ((refine' Same.at (by assumption) ?h3); (case h3 => tm_at "h")))
local macro_rules | `(tactic| tm_at "l") => `(tactic| first
  | assumption
  | exact SqL.of (by tm_at "h")
  | exact SqT.of (by tm_at "h")
  | exact Same.seq (by assumption) (by tm_at "l")
  | exact Cw.Same.tup (by assumption) (by tm_at "l"))
local macro_rules | `(tactic| tm_at "b") => `(tactic| first
  | rfl
  | decide
  | exact decide_eq_true (by first | assumption | rfl | omega)
  | exact decide_eq_false (by first | assumption | omega))
local macro_rules | `(tactic| tm_at "w1") => `(tactic| first
  | ((with_reducible refine' vVar ?h1 ?_); (case h1 => rfl))
  | with_reducible refine' sSeq ?_
  | with_reducible refine' sAsg ?_
  | with_reducible refine' sName ?_
  | with_reducible refine' vOp ?_
  | with_reducible refine' vC ?_
  | with_reducible refine' vCons ?_
  | with_reducible refine' vNil ?_
  | with_reducible refine' vCB ?_
  | with_reducible refine' vFldE ?_
  | with_reducible refine' vAddI ?_
  | with_reducible refine' vSub ?_
  | with_reducible refine' vCmp ?_
  | with_reducible refine' vEqI ?_
  | with_reducible refine' vEqS ?_
  | with_reducible refine' vNeI ?_
  | with_reducible refine' sIf ?_
  | with_reducible refine' vTest ?_
  | with_reducible refine' vTB ?_
  | with_reducible refine' vBl ?_
  | with_reducible refine' sRet ?_
  | with_reducible refine' sDrop ?_
  | with_reducible refine' sNext ?_
  | ((with_reducible refine' iT ?h1 ?_); (case h1 => tm_at "b"))
  | ((with_reducible refine' iN ?h1 ?_); (case h1 => tm_at "b"))
  | with_reducible refine' vMethE ?_
  | with_reducible refine' vCall ?_
  | with_reducible refine' vAnd ?_
  | with_reducible refine' vOr ?_
  | with_reducible refine' vNot ?_
  | with_reducible refine' vAndV ?_
  | with_reducible refine' vOrV ?_
  | with_reducible refine' vNotV ?_
  | with_reducible refine' vIfE ?_
  | with_reducible refine' vTup ?_
  | with_reducible refine' vLst ?_
  | with_reducible refine' vBM ?_
  | with_reducible refine' vBM0 ?_
  | with_reducible refine' vMax2 ?_
  | with_reducible refine' vMin2 ?_
  | with_reducible refine' vInt ?_
  | with_reducible refine' vIntB ?_
  | with_reducible refine' vUn ?_
  | with_reducible refine' vNeg ?_
  | ((with_reducible refine' sAug ?h1 ?_); (case h1 => rfl))
  | with_reducible refine' sIAdd ?_
  | with_reducible refine' sISub ?_
  | with_reducible refine' sStoE ?_
  | ((with_reducible refine' vFld ?h1 ?h2 ?_); (case h1 => tm_at "h"); (case h2 => rfl))
  | ((with_reducible refine' sSto ?h1 ?h2 ?_); (case h1 => tm_at "h"); (case h2 => first | (show 0 < 1000; decide) | (show 1 < 1000; decide) | (show 2 < 1000; decide) | (show 3 < 1000; decide) | (show 4 < 1000; decide) | (show 5 < 1000; decide)))
  | ((with_reducible refine' vLenL ?h1 ?_); (case h1 => tm_at "l"))
  | ((with_reducible refine' vLenT ?h1 ?_); (case h1 => tm_at "l"))
  | with_reducible refine' vSl ?_
  | with_reducible refine' vPart ?_
  | with_reducible refine' vPartI ?_
  | with_reducible refine' vNoPart ?_
  | with_reducible refine' sCons ?_
  | with_reducible refine' sNil ?_
  | with_reducible refine' wAnyE ?_
  | with_reducible refine' wRng1 ?_
  | with_reducible refine' wRng3 ?_
  | with_reducible refine' vRevE ?_
  | with_reducible refine' wEnum ?_
  | with_reducible refine' vDGet ?_
  | with_reducible refine' wRng2 ?_
  | with_reducible refine' wRng1I ?_
  | with_reducible refine' wRng2I ?_
  | with_reducible refine' sFor ?_
  | ((with_reducible refine' sTup ?h1 ?h2 ?_); (case h1 => tm_at "l"); (case h2 => rfl))
  | ((with_reducible refine' vTyL ?h1 ?_); (case h1 => tm_at "h"))
  | ((refine' vMod ?h1 ?_); (case h1 => (show (0 : Int) < _; omega)))
  | fail "stuck")
local macro_rules | `(tactic| tm_at "w") => `(tactic| repeat tm_at "w1")
structure AdrN (k : Kd) (a cl w xa : Addr) (rl : List Addr) (ks : List MT) : Prop where
  acl : a ≠ cl
  aw : a ≠ w
  ax : a ∉ xadr k xa
  arl : a ∉ rl
  aks : a ∉ MT.adrs ks
  clw : cl ≠ w
  clx : cl ∉ xadr k xa
  clrl : cl ∉ rl
  clks : cl ∉ MT.adrs ks
  wx : w ∉ xadr k xa
  wrl : w ∉ rl
  wks : w ∉ MT.adrs ks
  xrl : ∀ b ∈ xadr k xa, b ∉ rl
  xks : ∀ b ∈ xadr k xa, b ∉ MT.adrs ks
  rn : rl.Nodup
  rks : ∀ b ∈ rl, b ∉ MT.adrs ks
  kn : (MT.adrs ks).Nodup
theorem adr_n {k : Kd} {a dx cl w xa : Addr} {rl : List Addr} {ks : List MT} (h : (MT.mk k a dx cl w xa rl ks).adr.Nodup) : AdrN k a cl w xa rl ks := by
  unfold MT.adr at h
  obtain ⟨h1, h⟩ := List.nodup_cons.mp h
  obtain ⟨h2, h⟩ := List.nodup_cons.mp h
  obtain ⟨h3, h⟩ := List.nodup_cons.mp h
  obtain ⟨h4, h5, h6⟩ := List.nodup_append.mp h
  obtain ⟨h7, h8, h9⟩ := List.nodup_append.mp h4
  simp only [List.mem_cons, List.mem_append, not_or] at h1 h2 h3
  exact ⟨h1.1, h1.2.1, h1.2.2.1.1, h1.2.2.1.2, h1.2.2.2, h2.1, h2.2.1.1, h2.2.1.2, h2.2.2, h3.1.1, h3.1.2, h3.2, fun b hb z => h9 b hb b z rfl,
    fun b hb z => h6 b (List.mem_append_left _ hb) b z rfl, h8, fun b hb z => h6 b (List.mem_append_right _ hb) b z rfl, h5⟩
theorem NmG.fr {K : PySem.W.Frag} {H H' : Hp} {nd : Addr} {n : Nat} {nms : List (Str × MT)} {S : List Addr} (h : NmG K H nd n nms) (f : Fr S H H') (hd : nd ∉ S) (hs : ∀ p ∈ nms, p.2.a ∉ S ∧ p.2.cl ∉ S) : NmG K H' nd n nms := by
  refine ⟨?_, fun p hp => ?_⟩
  · rcases h.dict with h | ⟨o, h⟩
    · exact .inl (f _ _ hd h)
    · exact .inr ⟨o, f _ _ hd h⟩
  · obtain ⟨c, dx, fs, xs, g1, g2, g3, g4⟩ := h.at_ p hp
    exact ⟨c, dx, fs, xs, f _ _ (hs p hp).1 g1, g2, f _ _ (hs p hp).2 g3, g4⟩
/-- a maker grows -/
def Grows (K : PySem.W.Frag) (nd : Addr) (nms : List (Str × MT)) (m : Nat) (mt : MT) (n : Nat) : Prop :=
  ∀ (H : Hp) (Q : VK) (E : XK), NmG K H nd n nms → MkAt K (bk nms) H nd n mt → SmS (bk nms) (n + 1) mt.sh → mt.adr.Nodup → nd ∉ mt.adr → (∀ p ∈ nms, p.2.a ∉ MT.adrs mt.ks ∧ p.2.cl ∉ MT.adrs mt.ks) →
    (∀ H', Fr mt.adr H H' → MkAt K (bk nms) H' nd (n + 1) mt → Q .non H') → W K m .Maker_grow [.ref mt.a] H Q E
section
variable {K : PySem.W.Frag} {B : Book} {n N m : Nat} {H : Hp} {Q : VK} {E : XK} {nd a dx cl w xa : Addr} {rl : List Addr} {ks : List MT} {nms : List (Str × MT)} {k : Kd}
theorem vGrow {mt : MT} (h : MkAt K B H nd N mt) {t : TA} {σ : L2.St} (q : t σ H fun vs H2 => W K m .Maker_grow (.ref mt.a :: vs) H2 Q E0) : rMeth (ca K) md_grow (W K m) "grow" t (.ref mt.a) σ H Q := by
  obtain ⟨dx, w, xa, h1, h2⟩ := md_told_k h
  exact vMeth h1 (by cases mt.k <;> rfl) (by cases mt.k <;> rfl) q
theorem xAt_up {H' : Hp} (hr : k ≠ .row) (h : xAt B H n k xa rl ks) (e : Same H H') : xAt B H' (n + 1) k xa rl ks := by
  have h2 := h.mono (H' := H') fun b _ o ho => e b o ho
  cases k with
  | row => exact absurd rfl hr
  | _ => exact h2
theorem x_all (M : Mid K (bk nms) H nd n k a dx cl w xa rl ks) (G : NmG K H nd n nms) (hn : n ≤ 1000) (sm : SmS (bk nms) (n + 1) (.nd k (MT.shs ks))) (D : AdrN k a cl w xa rl ks)
    (q : ∀ H', Fr rl H H' → xAt (bk nms) H' (n + 1) k xa rl ks → Q (.int (cn (bk nms) (.nd k (MT.shs ks)) n)) H') : W K (m + 1) (nxdf k) [.ref a, .int n] H Q E := by
  have up : k ≠ .row → ∀ H', Same H H' → Q (.int (cn (bk nms) (.nd k (MT.shs ks)) n)) H' := fun hr H' e => q H' (Fr.of e) (xAt_up hr M.hx e)
  cases k with
  | whole lo hi => exact x_Whole M hn (up (by intro h; cases h) H (Same.refl H))
  | text s => exact x_Text M hn (fun j hj => sm.cn (by omega)) (up (by intro h; cases h) H (Same.refl H))
  | row => exact x_Row M hn sm D.rn D.arl D.wrl (D.xrl xa (by simp [xadr])) (fun b hb z => D.rks b z hb) q
  | pick ms => exact x_Pick M hn (up (by intro h; cases h))
  | use x => exact x_Use M G hn (up (by intro h; cases h) H (Same.refl H))
  | many => exact x_Many M hn sm (up (by intro h; cases h))
  | alike t => exact x_Alike M hn (up (by intro h; cases h) H (Same.refl H))
  | rising => exact M.hx.elim
  | unlike => exact M.hx.elim
theorem MkAll.of : ∀ {ks : List MT}, (∀ (j : Nat) (mt : MT), ks[j]? = some mt → MkAt K B H nd n mt) → MkAll K B H nd n ks
  | [], _ => by unfold MkAll; trivial
  | k :: ks, h => by
    unfold MkAll
    exact ⟨h 0 k rfl, MkAll.of fun j mt hj => h (j + 1) mt (by simpa using hj)⟩
theorem w_grow (hn : n ≤ 1000) (ih : ∀ mt ∈ ks, Grows K nd nms (m + 1) mt n) : Grows K nd nms (m + 2) (.mk k a dx cl w xa rl ks) n := by
  intro H Q E G M sm hnod hnd hdj q
  have D := adr_n hnod
  have hadr : (MT.mk k a dx cl w xa rl ks).adr = a :: cl :: w :: (xadr k xa ++ rl ++ MT.adrs ks) := by unfold MT.adr; rfl
  have skids : ∀ b ∈ MT.adrs ks, b ∈ (MT.mk k a dx cl w xa rl ks).adr := fun b hb => by rw [hadr]; simp [hb]
  have srl : ∀ b ∈ rl, b ∈ (MT.mk k a dx cl w xa rl ks).adr := fun b hb => by rw [hadr]; simp [hb]
  have scl : cl ∈ (MT.mk k a dx cl w xa rl ks).adr := by rw [hadr]; simp
  have M0 := M
  unfold MkAt at M
  obtain ⟨h1, h2, h3, h4, h7⟩ := M
  have hdj : ∀ p ∈ nms, p.2.a ∉ MT.adrs ks ∧ p.2.cl ∉ MT.adrs ks := hdj
  have hndk : nd ∉ MT.adrs ks := fun z => hnd (skids _ z)
  have sml : SmL (bk nms) (n + 1) (MT.shs ks) := by unfold MT.sh SmS at sm; exact sm.2.2
  refine ⟨rfl, ?_⟩
  show t_Maker_grow K (W K (m + 1)) _ _ _
  unfold t_Maker_grow
  refine sSeq ?_
  refine sFor ?_
  refine wAnyE ?_
  refine vFldE ?_
  refine vVar rfl ?_
  refine vFld h1 rfl ?_
  refine wAnyL (SqL.of h2) ?_
  refine for_list (xs := ks.map fun m => V.ref m.a) (fun i σ H' => Fr (MT.adrs ks) H H' ∧ (∀ (j : Nat) (mt : MT), ks[j]? = some mt → MkAt K (bk nms) H' nd (if j < i then n + 1 else n) mt) ∧ ∃ x1, σ = [some (.ref a), x1])
    ⟨Fr.of (Same.refl H), fun j mt hj => h7.get hj, none, rfl⟩ ?_ ?_ ?_
  · rintro i σ H' hi ⟨hF, _⟩
    exact SqL.of (hF _ _ D.wks h2)
  · rintro i x σ H' hx ⟨hF, hK, y1, rfl⟩
    rw [List.getElem?_map] at hx
    cases hk : ks[i]? with
    | none => rw [hk] at hx; cases hx
    | some mt =>
    rw [hk] at hx
    have e := Option.some.inj hx
    subst e
    have hmem : mt ∈ ks := List.mem_of_getElem? hk
    have hsh : (MT.shs ks)[i]? = some mt.sh := by rw [shs_map, List.getElem?_map, hk]; rfl
    have Mk := hK i mt hk
    rw [if_neg (Nat.lt_irrefl i)] at Mk
    refine sName ?_
    refine sDrop ?_
    refine vMethE ?_
    refine vVar rfl ?_
    refine vGrow Mk ?_
    refine vNil ?_
    have hsub : ∀ b ∈ mt.adr, b ∈ MT.adrs ks := fun b hb => adrs_mem hk hb
    have hsub2 : ∀ b ∈ MT.adrs mt.ks, b ∈ mt.adr := by
      intro b hb
      cases mt with
      | mk k' a' dx' cl' w' xa' rl' ks' => unfold MT.adr; simp only [List.mem_cons, List.mem_append]; exact .inr (.inr (.inr (.inr hb)))
    refine ih mt hmem H' _ _ (G.fr hF hndk hdj) Mk (sml.get hsh) (adrs_sub hk D.kn) (fun z => hndk (hsub _ z)) (fun p hp => ⟨fun z => (hdj p hp).1 (hsub _ (hsub2 _ z)), fun z => (hdj p hp).2 (hsub _ (hsub2 _ z))⟩) ?_
    intro H2 hF2 Mk2
    refine ⟨hF.trans (hF2.mono hsub) (fun b h => h), fun j mt' hj => ?_, _, rfl⟩
    by_cases e : j = i
    · subst e
      rw [hk] at hj
      cases hj
      rw [if_pos (Nat.lt_succ_self _)]
      exact Mk2
    · have hb := (hK j mt' hj).mono (H' := H2) mt' fun b hb o ho => hF2 b o (adrs_disj D.kn hj hk e hb) ho
      by_cases hji : j < i
      · rw [if_pos hji] at hb
        rw [if_pos (by omega)]; exact hb
      · rw [if_neg hji] at hb
        rw [if_neg (by omega)]; exact hb
  · rintro σ H' ⟨hF, hK, y1, rfl⟩
    rw [List.length_map] at hK
    have g1 := hF _ _ D.aks h1
    have g3 := hF _ _ D.clks h3
    have Md : Mid K (bk nms) H' nd n k a dx cl w xa rl ks := ⟨g1, hF _ _ D.wks h2, g3, h4.mono fun b hb o ho => hF b o (by
        rcases List.mem_append.mp hb with h | h
        · exact D.xks b h
        · exact D.rks b h) ho, MkAll.of fun j mt hj => by
          have h := hK j mt hj
          rw [if_pos (List.getElem?_eq_some_iff.mp hj).1] at h
          exact h⟩
    dsimp only
    refine sDrop ?_
    refine vBM ?_
    refine vFldE ?_
    refine vVar rfl ?_
    refine vFld g1 rfl ?_
    refine vTyL g3 ?_
    refine vCons ?_
    refine vMethE ?_
    refine vVar rfl ?_
    have hmd : md_next_count (cls k) = some (nxdf k) := by
      have hx := h4
      cases k with
      | rising => exact hx.elim
      | unlike => exact hx.elim
      | _ => rfl
    refine vMeth g1 hmd (by cases k <;> rfl) ?_
    refine vCons ?_
    refine vCB ?_
    refine vCons ?_
    refine vFldE ?_
    refine vVar rfl ?_
    refine vFld g1 rfl ?_
    refine vNil ?_
    refine vLenL (SqL.of g3) ?_
    refine vNil ?_
    rw [cts_len]
    have sm' : SmS (bk nms) (n + 1) (.nd k (MT.shs ks)) := by unfold MT.sh at sm; exact sm
    refine x_all Md (G.fr hF hndk hdj) hn sm' D ?_
    intro H2 hF2 hx2
    have g3' := hF2 _ _ D.clrl g3
    refine vNil ?_
    refine vApp g3' (by rw [cts_len]; have := sizeLine_eq; omega) ?_
    rw [cts_snoc]
    refine q _ (((hF.mono skids).trans (hF2.mono srl) (fun b h => h)).trans (Fr.upd scl) (fun b h => h)) ?_
    unfold MkAt
    refine ⟨?_, ?_, upd_same, ?_, ?_⟩
    · rw [upd_ne D.acl]; exact hF2 _ _ D.arl g1
    · rw [upd_ne (Ne.symm D.clw)]; exact hF2 _ _ D.wrl Md.hw
    · refine hx2.mono fun b hb o ho => ?_
      rw [upd_ne (fun e => ?_)]
      · exact ho
      · subst e
        rcases List.mem_append.mp hb with h | h
        · exact D.clx h
        · exact D.clrl h
    · refine MkAll.mono ks (fun b hb o ho => ?_) Md.hk
      rw [upd_ne (fun e => ?_)]
      · exact hF2 _ _ (fun z => D.rks b z hb) ho
      · subst e
        exact D.clks hb
theorem grows_all (hn : n ≤ 1000) : ∀ (m : Nat) (mt : MT), mt.ht + 1 ≤ m → Grows K nd nms m mt n := by
  intro m
  induction m with
  | zero => intro mt h; omega
  | succ m ih =>
    intro mt h
    cases mt with
    | mk k a dx cl w xa rl ks =>
      have hht : (MT.mk k a dx cl w xa rl ks).ht = MT.hts ks + 1 := by unfold MT.ht; rfl
      rw [hht] at h
      obtain ⟨j, rfl⟩ : ∃ j, m = j + 1 := ⟨m - 1, by omega⟩
      refine w_grow hn fun mt hmt => ih mt ?_
      have := ht_kid hmt
      omega
end
end Pk
set_option Elab.async false
set_option linter.all false
set_option maxRecDepth 100000
set_option maxHeartbeats 4000000
/-! Grow5: the tables grow. -/
namespace Pk
open PySem PySem.Spec PyProof.Rows L2 Cw
local macro_rules | `(tactic| tm_at "h") => `(tactic| first
  | assumption
  | exact upd_same
  | ((with_reducible refine' upd_old ?h1 ?h2); (case h1 => assumption); (case h2 => tm_at "h"))
  | ((with_reducible refine' upd_oth ?h1 ?h2); (case h1 => first | assumption | (exact Ne.symm (by assumption)) | (exact ne_of_none (by assumption) (by assumption)) | (exact Ne.symm (ne_of_none (by assumption) (by assumption)))); (case h2 => tm_at "h"))
  | ((refine' Same.at (by assumption) ?h3); (case h3 => tm_at "h")))
local macro_rules | `(tactic| tm_at "l") => `(tactic| first
  | assumption
  | exact SqL.of (by tm_at "h")
  | exact SqT.of (by tm_at "h")
  | exact Same.seq (by assumption) (by tm_at "l")
  | exact Cw.Same.tup (by assumption) (by tm_at "l"))
local macro_rules | `(tactic| tm_at "b") => `(tactic| first
  | rfl
  | decide
  | exact decide_eq_true (by first | assumption | rfl | omega)
  | exact decide_eq_false (by first | assumption | omega))
local macro_rules | `(tactic| tm_at "w1") => `(tactic| first
  | ((with_reducible refine' vVar ?h1 ?_); (case h1 => rfl))
  | with_reducible refine' sSeq ?_
  | with_reducible refine' sAsg ?_
  | with_reducible refine' sName ?_
  | with_reducible refine' vOp ?_
  | with_reducible refine' vC ?_
  | with_reducible refine' vCons ?_
  | with_reducible refine' vNil ?_
  | with_reducible refine' vCB ?_
  | with_reducible refine' vFldE ?_
  | with_reducible refine' vAddI ?_
  | with_reducible refine' vSub ?_
  | with_reducible refine' vCmp ?_
  | with_reducible refine' vEqI ?_
  | with_reducible refine' vEqS ?_
  | with_reducible refine' vNeI ?_
  | with_reducible refine' sIf ?_
  | with_reducible refine' vTest ?_
  | with_reducible refine' vTB ?_
  | with_reducible refine' vBl ?_
  | with_reducible refine' sRet ?_
  | with_reducible refine' sDrop ?_
  | with_reducible refine' sNext ?_
  | ((with_reducible refine' iT ?h1 ?_); (case h1 => tm_at "b"))
  | ((with_reducible refine' iN ?h1 ?_); (case h1 => tm_at "b"))
  | with_reducible refine' vMethE ?_
  | with_reducible refine' vCall ?_
  | with_reducible refine' vAnd ?_
  | with_reducible refine' vOr ?_
  | with_reducible refine' vNot ?_
  | with_reducible refine' vAndV ?_
  | with_reducible refine' vOrV ?_
  | with_reducible refine' vNotV ?_
  | with_reducible refine' vIfE ?_
  | with_reducible refine' vTup ?_
  | with_reducible refine' vLst ?_
  | with_reducible refine' vBM ?_
  | with_reducible refine' vBM0 ?_
  | with_reducible refine' vMax2 ?_
  | with_reducible refine' vMin2 ?_
  | with_reducible refine' vInt ?_
  | with_reducible refine' vIntB ?_
  | with_reducible refine' vUn ?_
  | with_reducible refine' vNeg ?_
  | ((with_reducible refine' sAug ?h1 ?_); (case h1 => rfl))
  | with_reducible refine' sIAdd ?_
  | with_reducible refine' sISub ?_
  | with_reducible refine' sStoE ?_
  | ((with_reducible refine' vFld ?h1 ?h2 ?_); (case h1 => tm_at "h"); (case h2 => rfl))
  | ((with_reducible refine' sSto ?h1 ?h2 ?_); (case h1 => tm_at "h"); (case h2 => first | (show 0 < 1000; decide) | (show 1 < 1000; decide) | (show 2 < 1000; decide) | (show 3 < 1000; decide) | (show 4 < 1000; decide) | (show 5 < 1000; decide)))
  | ((with_reducible refine' vLenL ?h1 ?_); (case h1 => tm_at "l"))
  | ((with_reducible refine' vLenT ?h1 ?_); (case h1 => tm_at "l"))
  | with_reducible refine' vSl ?_
  | with_reducible refine' vPart ?_
  | with_reducible refine' vPartI ?_
  | with_reducible refine' vNoPart ?_
  | with_reducible refine' sCons ?_
  | with_reducible refine' sNil ?_
  | with_reducible refine' wAnyE ?_
  | with_reducible refine' wRng1 ?_
  | with_reducible refine' wRng3 ?_
  | with_reducible refine' vRevE ?_
  | with_reducible refine' wEnum ?_
  | with_reducible refine' vDGet ?_
  | with_reducible refine' wRng2 ?_
  | with_reducible refine' wRng1I ?_
  | with_reducible refine' wRng2I ?_
  | with_reducible refine' sFor ?_
  | ((with_reducible refine' sTup ?h1 ?h2 ?_); (case h1 => tm_at "l"); (case h2 => rfl))
  | ((with_reducible refine' vTyL ?h1 ?_); (case h1 => tm_at "h"))
  | ((refine' vMod ?h1 ?_); (case h1 => (show (0 : Int) < _; omega)))
  | fail "stuck")
local macro_rules | `(tactic| tm_at "w") => `(tactic| repeat tm_at "w1")
/-- the maker of the shape, and those of the names -/
def allM (nms : List (Str × MT)) (top : MT) : List MT := top :: nms.map (·.2)
structure TabS (tb nd : Addr) (nms : List (Str × MT)) (top : MT) (N hb : Nat) : Prop where
  nod : (MT.adrs (allM nms top)).Nodup
  tbn : tb ∉ MT.adrs (allM nms top)
  ndn : nd ∉ MT.adrs (allM nms top)
  tnd : tb ≠ nd
  sm : ∀ mt ∈ allM nms top, SmS (bk nms) N mt.sh
  ht : ∀ mt ∈ allM nms top, mt.ht ≤ hb
  hN : N ≤ 1000
structure Tab (K : PySem.W.Frag) (H : Hp) (tb nd : Addr) (nms : List (Str × MT)) (top : MT) (n : Nat) : Prop where
  obj : ∃ dx, H tb = some (.ins (ca K .Tables) dx [("named", .ref nd), ("top", .ref top.a)])
  dict : H nd = some (.dK (nms.map fun p => ((Sum.inr p.1 : Key), V.ref p.2.a)))
  mks : ∀ mt ∈ allM nms top, MkAt K (bk nms) H nd n mt
theorem dj_all {ms : List MT} {i j : Nat} {m m' : MT} (hn : (MT.adrs ms).Nodup) (h : ms[i]? = some m) (h' : ms[j]? = some m') : m'.a ∉ MT.adrs m.ks ∧ m'.cl ∉ MT.adrs m.ks := by
  have sub : ∀ b ∈ MT.adrs m.ks, b ∈ m.adr := by
    intro b hb
    cases m with
    | mk k' a' dx' cl' w' xa' rl' ks' => unfold MT.adr; simp only [List.mem_cons, List.mem_append]; exact .inr (.inr (.inr (.inr hb)))
  have ma : m'.a ∈ m'.adr ∧ m'.cl ∈ m'.adr := by
    cases m' with
    | mk k' a' dx' cl' w' xa' rl' ks' => unfold MT.adr; exact ⟨List.mem_cons_self, List.mem_cons_of_mem _ List.mem_cons_self⟩
  by_cases e : i = j
  · subst e
    rw [h] at h'
    cases h'
    have D := adrs_sub h hn
    cases m with
    | mk k' a' dx' cl' w' xa' rl' ks' => exact ⟨(adr_n D).aks, (adr_n D).clks⟩
  · exact ⟨fun z => adrs_disj hn h h' e (sub _ z) ma.1, fun z => adrs_disj hn h h' e (sub _ z) ma.2⟩
section
variable {K : PySem.W.Frag} {B : Book} {n N m hb : Nat} {H : Hp} {Q : VK} {E : XK} {tb nd : Addr} {nms : List (Str × MT)} {top : MT}
theorem MkAt.ng {H : Hp} {n : Nat} (hd : Rd H nd (.dK (nms.map fun p => ((Sum.inr p.1 : Key), V.ref p.2.a)))) (h : ∀ p ∈ nms, ∃ j, n ≤ j ∧ MkAt K (bk nms) H nd j p.2) : NmG K H nd n nms := by
  refine ⟨hd, fun p hp => ?_⟩
  obtain ⟨j, hj, M⟩ := h p hp
  obtain ⟨dx, w, xa, h1, h2⟩ := md_told_k M
  exact ⟨_, dx, _, _, h1, by cases p.2.k <;> rfl, M.cnt, fun i hi => cts_get (by omega)⟩
theorem w_grow_to {size : Nat} (S : TabS tb nd nms top N hb) (hs : size < N) (T : Tab K H tb nd nms top n) (hm : hb + 2 ≤ m) (q : ∀ H', Fr (MT.adrs (allM nms top)) H H' → Tab K H' tb nd nms top (max n (size + 1)) → Q .non H') :
    W K m .Tables_grow_to [.ref tb, .int size] H Q E := by
  obtain ⟨m, rfl⟩ : ∃ j, m = j + 1 := ⟨m - 1, by omega⟩
  have hN := S.hN
  refine ⟨rfl, ?_⟩
  show t_Tables_grow_to K (W K m) _ _ _
  unfold t_Tables_grow_to
  refine sWhile (fun u σ H' => ∃ (j : Nat) (x2 : Option V), size + 1 - j = u ∧ n ≤ j ∧ j ≤ max n (size + 1) ∧ Fr (MT.adrs (allM nms top)) H H' ∧ Tab K H' tb nd nms top j ∧ σ = [some (.ref tb), some (.int size), x2]) (size + 1 - n)
    ⟨n, none, rfl, Nat.le_refl _, by omega, Fr.of (Same.refl H), T, rfl⟩ ?_
  rintro u σ H' ⟨j, x2, rfl, hj1, hj2, hF, T', rfl⟩
  obtain ⟨dx, ho⟩ := T'.obj
  have hd := T'.dict
  have Mt := T'.mks top List.mem_cons_self
  tm_at "w"
  refine vCnt Mt ?_
  have hc := Mt.cnt
  tm_at "w"
  rw [cts_len]
  refine iD (fun hlt => ?_) (fun hlt => ?_)
  · have hjs : j ≤ size := by omega
    refine sTurn ?_
    refine sSeq ?_
    refine ⟨nd, _, hd, trivial, fun od => ?_⟩
    have ntb : tb ≠ nd := S.tnd
    have ho1 : L2.upd H' nd (.frz od (.dK (nms.map fun p => ((Sum.inr p.1 : Key), V.ref p.2.a)))) tb = some (.ins (ca K .Tables) dx [("named", .ref nd), ("top", .ref top.a)]) := by rw [upd_ne ntb]; exact ho
    refine sFor ?_
    refine vFldE ?_
    refine vVar rfl ?_
    refine vFld ho1 rfl ?_
    refine ⟨nd, od, _, rfl, upd_same, ?_⟩
    refine for_it walk_values (fun i σ H2 => Fr (nd :: MT.adrs (allM nms top)) H' H2 ∧ H2 nd = some (.frz od (.dK (nms.map fun p => ((Sum.inr p.1 : Key), V.ref p.2.a)))) ∧ MkAt K (bk nms) H2 nd j top ∧
        (∀ (c : Nat) (p : Str × MT), nms[c]? = some p → MkAt K (bk nms) H2 nd (if c < i then j + 1 else j) p.2) ∧ ∃ x2, σ = [some (.ref tb), some (.int size), x2]) ?_ ?_ ?_ ?_
    · refine ⟨Fr.upd List.mem_cons_self, upd_same, ?_, ?_, x2, rfl⟩
      · exact Mt.mono top fun b hb o ho => by
          rw [upd_ne (fun e => S.ndn (by rw [← e]; exact adrs_mem (i := 0) rfl hb))]; exact ho
      · intro c p hp
        have hp2 : (allM nms top)[c + 1]? = some p.2 := by show (nms.map (·.2))[c]? = _; rw [List.getElem?_map, hp]; rfl
        exact (T'.mks p.2 (List.mem_of_getElem? hp2)).mono p.2 fun b hb o ho => by
          rw [upd_ne (fun e => S.ndn (by rw [← e]; exact adrs_mem hp2 hb))]; exact ho
    · rintro i σ H2 hi ⟨_, h, _⟩
      exact h
    · rintro i x σ H2 H3 hi ⟨hF2, hn2, hT2, hK2, y2, rfl⟩ ⟨rfl, kk, hx⟩
      rw [List.getElem?_map] at hx
      cases hp : nms[i]? with
      | none => rw [hp] at hx; cases hx
      | some p =>
      rw [hp] at hx
      have e : x = V.ref p.2.a := by cases hx; rfl
      subst e
      have hpA : (allM nms top)[i + 1]? = some p.2 := by show (nms.map (·.2))[i]? = _; rw [List.getElem?_map, hp]; rfl
      have hpm := List.mem_of_getElem? hpA
      have Mk := hK2 i p hp
      rw [if_neg (Nat.lt_irrefl i)] at Mk
      refine sName ?_
      refine sDrop ?_
      refine vMethE ?_
      refine vVar rfl ?_
      refine vGrow Mk ?_
      refine vNil ?_
      refine grows_all (n := j) (by omega) m p.2 (by have := S.ht _ hpm; omega) H3 _ _ (MkAt.ng (.inr ⟨od, hn2⟩) fun p' hp' => ?_) Mk ?_ (adrs_sub hpA S.nod) (fun z => S.ndn (adrs_mem hpA z)) (fun p' hp' => ?_) ?_
      · obtain ⟨c, hc⟩ := List.mem_iff_getElem?.mp hp'
        refine ⟨_, ?_, hK2 c p' hc⟩
        by_cases e : c < i
        · rw [if_pos e]; omega
        · rw [if_neg e]; exact Nat.le_refl _
      · exact smS_le (by omega) (S.sm _ hpm)
      · obtain ⟨c, hc⟩ := List.mem_iff_getElem?.mp hp'
        have hcA : (allM nms top)[c + 1]? = some p'.2 := by show (nms.map (·.2))[c]? = _; rw [List.getElem?_map, hc]; rfl
        exact dj_all S.nod hpA hcA
      · intro H4 hF4 Mk4
        have hsub : ∀ b ∈ p.2.adr, b ∈ MT.adrs (allM nms top) := fun b hb => adrs_mem hpA hb
        refine ⟨hF2.trans (hF4.mono fun b hb => List.mem_cons_of_mem _ (hsub b hb)) (fun b h => h), hF4 _ _ (fun z => S.ndn (hsub _ z)) hn2, hT2.mono top fun b hb o ho => hF4 b o (adrs_disj (j := i + 1) S.nod (i := 0) rfl hpA (by omega) hb) ho, fun c p' hc => ?_, _, rfl⟩
        by_cases e : c = i
        · subst e
          rw [hp] at hc
          cases hc
          rw [if_pos (Nat.lt_succ_self _)]
          exact Mk4
        · have hcA : (allM nms top)[c + 1]? = some p'.2 := by show (nms.map (·.2))[c]? = _; rw [List.getElem?_map, hc]; rfl
          have hb := (hK2 c p' hc).mono (H' := H4) p'.2 fun b hb o ho => hF4 b o (adrs_disj S.nod hcA hpA (by omega) hb) ho
          by_cases hji : c < i
          · rw [if_pos hji] at hb
            rw [if_pos (by omega)]; exact hb
          · rw [if_neg hji] at hb
            rw [if_neg (by omega)]; exact hb
    · rintro σ H2 ⟨hF2, hn2, hT2, hK2, y2, rfl⟩
      rw [List.length_map] at hK2
      refine ⟨hn2, ?_⟩
      have ho2 : L2.upd H2 nd (.dK (nms.map fun p => ((Sum.inr p.1 : Key), V.ref p.2.a))) tb = some (.ins (ca K .Tables) dx [("named", .ref nd), ("top", .ref top.a)]) := by
        rw [upd_ne ntb]
        exact hF2 _ _ (by simp only [List.mem_cons, not_or]; exact ⟨ntb, S.tbn⟩) ho
      have un : ∀ mt ∈ allM nms top, ∀ j, MkAt K (bk nms) H2 nd j mt → MkAt K (bk nms) (L2.upd H2 nd (.dK (nms.map fun p => ((Sum.inr p.1 : Key), V.ref p.2.a)))) nd j mt := fun mt hmt j h => h.mono mt fun b hb o ho => by
        obtain ⟨c, hc⟩ := List.mem_iff_getElem?.mp hmt
        rw [upd_ne (fun e => S.ndn (by rw [← e]; exact adrs_mem hc hb))]; exact ho
      have Mt3 := un top List.mem_cons_self _ hT2
      have K3 : ∀ p ∈ nms, MkAt K (bk nms) (L2.upd H2 nd (.dK (nms.map fun p => ((Sum.inr p.1 : Key), V.ref p.2.a)))) nd (j + 1) p.2 := by
        intro p hp
        obtain ⟨c, hc⟩ := List.mem_iff_getElem?.mp hp
        have h := hK2 c p hc
        rw [if_pos (List.getElem?_eq_some_iff.mp hc).1] at h
        exact un _ (List.mem_cons_of_mem _ (List.mem_map_of_mem (f := (·.2)) hp)) _ h
      dsimp only
      refine sDrop ?_
      refine vMethE ?_
      refine vFldE ?_
      refine vVar rfl ?_
      refine vFld ho2 rfl ?_
      refine vGrow Mt3 ?_
      refine vNil ?_
      have tA : (allM nms top)[0]? = some top := rfl
      refine grows_all (n := j) (by omega) m top (by have := S.ht _ (List.mem_cons_self (a := top)); omega) _ _ _ (MkAt.ng (.inl upd_same) fun p' hp' => ⟨_, Nat.le_succ _, K3 p' hp'⟩) Mt3 (smS_le (by omega) (S.sm _ List.mem_cons_self)) (adrs_sub tA S.nod) (fun z => S.ndn (adrs_mem tA z)) (fun p' hp' => ?_) ?_
      · obtain ⟨c, hc⟩ := List.mem_iff_getElem?.mp hp'
        have hcA : (allM nms top)[c + 1]? = some p'.2 := by show (nms.map (·.2))[c]? = _; rw [List.getElem?_map, hc]; rfl
        exact dj_all S.nod tA hcA
      · intro H4 hF4 Mk4
        have hsub : ∀ b ∈ top.adr, b ∈ MT.adrs (allM nms top) := fun b hb => adrs_mem tA hb
        have hF24 : Fr (MT.adrs (allM nms top)) H H4 := by
          intro b o hb ho
          have h1 := hF b o hb ho
          refine hF4 b o (fun z => hb (hsub b z)) ?_
          by_cases e : b = nd
          · subst e
            rw [hd] at h1
            rw [upd_same]; exact h1
          · rw [upd_ne e]
            exact hF2 b o (by simp only [List.mem_cons, not_or]; exact ⟨e, hb⟩) h1
        refine ⟨size + 1 - (j + 1), by omega, j + 1, _, rfl, by omega, by omega, hF24, ⟨⟨dx, hF4 _ _ (fun z => S.tbn (hsub _ z)) ho2⟩, hF4 _ _ (fun z => S.ndn (hsub _ z)) upd_same, ?_⟩, rfl⟩
        intro mt hmt
        rcases List.mem_cons.mp hmt with rfl | hmt
        · exact Mk4
        · obtain ⟨p, hp, rfl⟩ := List.mem_map.mp hmt
          obtain ⟨c, hc⟩ := List.mem_iff_getElem?.mp hp
          have hcA : (allM nms top)[c + 1]? = some p.2 := by show (nms.map (·.2))[c]? = _; rw [List.getElem?_map, hc]; rfl
          exact (K3 p hp).mono p.2 fun b hb o ho => hF4 b o (adrs_disj (j := 0) S.nod hcA tA (by omega) hb) ho
  · have e : j = max n (size + 1) := by omega
    subst e
    exact q H' hF T'
end
end Pk
set_option Elab.async false
set_option linter.all false
set_option maxRecDepth 100000
set_option maxHeartbeats 4000000
/-! Con1: shapes as data; new makers. -/
namespace Pk
open PySem PySem.Spec PyProof.Rows L2 Cw
local macro_rules | `(tactic| tm_at "h") => `(tactic| first
  | assumption
  | exact upd_same
  | ((with_reducible refine' upd_old ?h1 ?h2); (case h1 => assumption); (case h2 => tm_at "h"))
  | ((with_reducible refine' upd_oth ?h1 ?h2); (case h1 => first | assumption | (exact Ne.symm (by assumption)) | (exact ne_of_none (by assumption) (by assumption)) | (exact Ne.symm (ne_of_none (by assumption) (by assumption)))); (case h2 => tm_at "h"))
  | ((refine' Same.at (by assumption) ?h3); (case h3 => tm_at "h")))
local macro_rules | `(tactic| tm_at "l") => `(tactic| first
  | assumption
  | exact SqL.of (by tm_at "h")
  | exact SqT.of (by tm_at "h")
  | exact Same.seq (by assumption) (by tm_at "l")
  | exact Cw.Same.tup (by assumption) (by tm_at "l"))
local macro_rules | `(tactic| tm_at "b") => `(tactic| first
  | rfl
  | decide
  | exact decide_eq_true (by first | assumption | rfl | omega)
  | exact decide_eq_false (by first | assumption | omega))
local macro_rules | `(tactic| tm_at "w1") => `(tactic| first
  | ((with_reducible refine' vVar ?h1 ?_); (case h1 => rfl))
  | with_reducible refine' sSeq ?_
  | with_reducible refine' sAsg ?_
  | with_reducible refine' sName ?_
  | with_reducible refine' vOp ?_
  | with_reducible refine' vC ?_
  | with_reducible refine' vCons ?_
  | with_reducible refine' vNil ?_
  | with_reducible refine' vCB ?_
  | with_reducible refine' vFldE ?_
  | with_reducible refine' vAddI ?_
  | with_reducible refine' vSub ?_
  | with_reducible refine' vCmp ?_
  | with_reducible refine' vEqI ?_
  | with_reducible refine' vEqS ?_
  | with_reducible refine' vNeI ?_
  | with_reducible refine' sIf ?_
  | with_reducible refine' vTest ?_
  | with_reducible refine' vTB ?_
  | with_reducible refine' vBl ?_
  | with_reducible refine' sRet ?_
  | with_reducible refine' sDrop ?_
  | with_reducible refine' sNext ?_
  | ((with_reducible refine' iT ?h1 ?_); (case h1 => tm_at "b"))
  | ((with_reducible refine' iN ?h1 ?_); (case h1 => tm_at "b"))
  | with_reducible refine' vMethE ?_
  | with_reducible refine' vCall ?_
  | with_reducible refine' vAnd ?_
  | with_reducible refine' vOr ?_
  | with_reducible refine' vNot ?_
  | with_reducible refine' vAndV ?_
  | with_reducible refine' vOrV ?_
  | with_reducible refine' vNotV ?_
  | with_reducible refine' vIfE ?_
  | with_reducible refine' vTup ?_
  | with_reducible refine' vLst ?_
  | with_reducible refine' vBM ?_
  | with_reducible refine' vBM0 ?_
  | with_reducible refine' vMax2 ?_
  | with_reducible refine' vMin2 ?_
  | with_reducible refine' vInt ?_
  | with_reducible refine' vIntB ?_
  | with_reducible refine' vUn ?_
  | with_reducible refine' vNeg ?_
  | ((with_reducible refine' sAug ?h1 ?_); (case h1 => rfl))
  | with_reducible refine' sIAdd ?_
  | with_reducible refine' sISub ?_
  | with_reducible refine' sStoE ?_
  | ((with_reducible refine' vFld ?h1 ?h2 ?_); (case h1 => tm_at "h"); (case h2 => rfl))
  | ((with_reducible refine' sSto ?h1 ?h2 ?_); (case h1 => tm_at "h"); (case h2 => first | (show 0 < 1000; decide) | (show 1 < 1000; decide) | (show 2 < 1000; decide) | (show 3 < 1000; decide) | (show 4 < 1000; decide) | (show 5 < 1000; decide)))
  | ((with_reducible refine' vLenL ?h1 ?_); (case h1 => tm_at "l"))
  | ((with_reducible refine' vLenT ?h1 ?_); (case h1 => tm_at "l"))
  | with_reducible refine' vSl ?_
  | with_reducible refine' vPart ?_
  | with_reducible refine' vPartI ?_
  | with_reducible refine' vNoPart ?_
  | with_reducible refine' sCons ?_
  | with_reducible refine' sNil ?_
  | with_reducible refine' wAnyE ?_
  | with_reducible refine' wRng1 ?_
  | with_reducible refine' wRng3 ?_
  | with_reducible refine' vRevE ?_
  | with_reducible refine' wEnum ?_
  | with_reducible refine' vDGet ?_
  | with_reducible refine' wRng2 ?_
  | with_reducible refine' wRng1I ?_
  | with_reducible refine' wRng2I ?_
  | with_reducible refine' sFor ?_
  | ((with_reducible refine' sTup ?h1 ?h2 ?_); (case h1 => tm_at "l"); (case h2 => rfl))
  | ((with_reducible refine' vTyL ?h1 ?_); (case h1 => tm_at "h"))
  | ((refine' vMod ?h1 ?_); (case h1 => (show (0 : Int) < _; omega)))
  | fail "stuck")
local macro_rules | `(tactic| tm_at "w") => `(tactic| repeat tm_at "w1")
/-! ### shapes as data -/
def pairs : List Str → List DT → List DT
  | m :: ms, d :: ds => .tuple [.str m, d] :: pairs ms ds
  | _, _ => []
mutual
def shD : Sh → DT
  | .nd (.whole lo hi) _ => .tuple [.str "whole", .int lo, .int hi]
  | .nd (.text s) _ => .tuple [.str "text", .str s]
  | .nd .row ks => .tuple [.str "row", .tuple (shDs ks)]
  | .nd (.pick ms) ks => .tuple [.str "pick", .tuple (pairs ms (shDs ks))]
  | .nd (.use x) _ => .tuple [.str "use", .str x]
  | .nd .many ks => .tuple [.str "many", (shDs ks).headD .none]
  | .nd .rising ks => .tuple [.str "rising", (shDs ks).headD .none]
  | .nd .unlike ks => .tuple [.str "unlike", (shDs ks).headD .none]
  | .nd (.alike t) ks => .tuple [.str "alike", (shDs ks).headD .none, .int t]
def shDs : List Sh → List DT
  | [] => []
  | s :: ss => shD s :: shDs ss
end
def WfK (B : Book) (k : Kd) (ks : List Sh) : Prop := match k with
  | .whole lo hi => lo ≤ hi ∧ ks = []
  | .text s => 0 < s.length ∧ s.length ≤ 100 ∧ ks = []
  | .row => ks.length ≤ 1000
  | .pick ms => ms.length = ks.length ∧ ks.length ≤ 1000
  | .use x => (B.lookup x).isSome = true ∧ ks = []
  | .many => ∃ k0, ks = [k0]
  | .alike t => 0 < t ∧ ∃ k0, ks = [k0]
  | _ => False
mutual
/-- a shape of the book -/
def WfS (B : Book) : Sh → Prop
  | .nd k ks => WfK B k ks ∧ WfL B ks
def WfL (B : Book) : List Sh → Prop
  | [] => True
  | s :: ss => WfS B s ∧ WfL B ss
end
mutual
theorem ht_sh : ∀ m : MT, m.sh.ht = m.ht
  | .mk k _ _ _ _ _ _ ks => by unfold MT.sh MT.ht Sh.ht; rw [hts_sh ks]
theorem hts_sh : ∀ ms : List MT, Sh.hts (MT.shs ms) = MT.hts ms
  | [] => by unfold MT.shs MT.hts Sh.hts; rfl
  | m :: ms => by unfold MT.shs MT.hts Sh.hts; rw [ht_sh m, hts_sh ms]
end
theorem shDs_map : ∀ ss : List Sh, shDs ss = ss.map shD
  | [] => by unfold shDs; rfl
  | s :: ss => by unfold shDs; rw [shDs_map ss]; rfl
theorem WfL.get {B : Book} : ∀ {ss : List Sh} {i : Nat} {s : Sh}, WfL B ss → ss[i]? = some s → WfS B s
  | [], i, s, _, h => by simp at h
  | s :: ss, 0, s', h, e => by
    have : s = s' := by simpa using e
    subst this
    unfold WfL at h; exact h.1
  | s :: ss, i + 1, s', h, e => by
    unfold WfL at h
    exact WfL.get h.2 (by simpa using e)
theorem ht_get {ss : List Sh} {i : Nat} {s : Sh} (e : ss[i]? = some s) : s.ht ≤ Sh.hts ss := by
  induction ss generalizing i with
  | nil => simp at e
  | cons k ks ih =>
    unfold Sh.hts
    cases i with
    | zero =>
      have : k = s := by simpa using e
      subst this
      exact Nat.le_max_left _ _
    | succ i => exact Nat.le_trans (ih (by simpa using e)) (Nat.le_max_right _ _)
/-! ### data that is read -/
theorem Dp.int_inv {K : PySem.W.Frag} {H : Hp} {v : V} {i : Int} (h : Dp K H v (.int i)) : v = .int i := by cases h; rfl
theorem Dp.str_inv {K : PySem.W.Frag} {H : Hp} {v : V} {i : Str} (h : Dp K H v (.str i)) : v = .str i := by cases h; rfl
theorem Dp.tup_inv {K : PySem.W.Frag} {H : Hp} {v : V} {ds : List DT} (h : Dp K H v (.tuple ds)) : ∃ a xs, v = .ref a ∧ SqT K H a xs ∧ DpAll K H xs ds := by cases h with | tup h q => exact ⟨_, _, rfl, h, q⟩
theorem Dp.lst_inv {K : PySem.W.Frag} {H : Hp} {v : V} {ds : List DT} (h : Dp K H v (.list ds)) : ∃ a xs, v = .ref a ∧ SqL K H a xs ∧ DpAll K H xs ds := by cases h with | lst h q => exact ⟨_, _, rfl, h, q⟩
theorem DpAll.cons_inv {K : PySem.W.Frag} {H : Hp} {vs : List V} {d : DT} {ds : List DT} (h : DpAll K H vs (d :: ds)) : ∃ v vs', vs = v :: vs' ∧ Dp K H v d ∧ DpAll K H vs' ds := by cases h with | cons h q => exact ⟨_, _, rfl, h, q⟩
theorem DpAll.nil_inv {K : PySem.W.Frag} {H : Hp} {vs : List V} (h : DpAll K H vs []) : vs = [] := by cases h; rfl
theorem DpAll.len {K : PySem.W.Frag} {H : Hp} : ∀ {vs : List V} {ds : List DT}, DpAll K H vs ds → vs.length = ds.length
  | _, _, .nil => rfl
  | _, _, .cons _ q => by rw [List.length_cons, List.length_cons, DpAll.len q]
theorem DpAll.get {K : PySem.W.Frag} {H : Hp} : ∀ {vs : List V} {ds : List DT} {i : Nat} {v : V}, DpAll K H vs ds → vs[i]? = some v → ∃ d, ds[i]? = some d ∧ Dp K H v d
  | _, _, i, v, .nil, h => by simp at h
  | _, _, 0, v, .cons h q, e => by
    simp at e
    subst e
    exact ⟨_, rfl, h⟩
  | _, _, i + 1, v, .cons h q, e => by simpa using DpAll.get (i := i) q (by simpa using e)
mutual
theorem Dp.mono {K : PySem.W.Frag} {H H' : Hp} (e : Same H H') : ∀ {v : V} {d : DT}, Dp K H v d → Dp K H' v d
  | _, _, .non => .non
  | _, _, .bl b => .bl b
  | _, _, .int i => .int i
  | _, _, .str x => .str x
  | _, _, .tup h q => .tup (Cw.Same.tup e h) (DpAll.mono e q)
  | _, _, .lst h q => .lst (Same.seq e h) (DpAll.mono e q)
theorem DpAll.mono {K : PySem.W.Frag} {H H' : Hp} (e : Same H H') : ∀ {vs : List V} {ds : List DT}, DpAll K H vs ds → DpAll K H' vs ds
  | _, _, .nil => .nil
  | _, _, .cons h q => .cons (Dp.mono e h) (DpAll.mono e q)
end
/-! ### new makers -/
mutual
/-- what stands at the addresses of a maker is known -/
theorem MkAt.there {K : PySem.W.Frag} {B : Book} {H : Hp} {nd : Addr} {n : Nat} : ∀ (m : MT), MkAt K B H nd n m → ∀ b ∈ m.adr, ∃ o, H b = some o
  | .mk k a dx cl w xa rl ks, h, b, hb => by
    unfold MkAt at h
    obtain ⟨h1, h2, h3, h4, h5⟩ := h
    unfold MT.adr at hb
    simp only [List.mem_cons, List.mem_append] at hb
    rcases hb with rfl | rfl | rfl | (hb | hb) | hb
    · exact ⟨_, h1⟩
    · exact ⟨_, h3⟩
    · exact ⟨_, h2⟩
    · cases k with
      | row =>
        have : b = xa := by simpa [xadr] using hb
        subst this
        exact ⟨_, h4.1⟩
      | pick ms =>
        have : b = xa := by simpa [xadr] using hb
        subst this
        exact ⟨_, h4.1⟩
      | rising => exact h4.elim
      | unlike => exact h4.elim
      | _ => simp [xadr] at hb
    · cases k with
      | row =>
        obtain ⟨j, hj⟩ := List.mem_iff_getElem?.mp hb
        exact ⟨_, h4.2.2.2 j b hj⟩
      | pick ms => rw [h4.2.2.2] at hb; simp at hb
      | rising => exact h4.elim
      | unlike => exact h4.elim
      | whole lo hi => rw [h4.2] at hb; simp at hb
      | text s => rw [h4.2.2] at hb; simp at hb
      | use x => rw [h4.2] at hb; simp at hb
      | many => rw [h4.2] at hb; simp at hb
      | alike t => rw [h4.2.1] at hb; simp at hb
    · exact MkAll.there ks h5 b hb
theorem MkAll.there {K : PySem.W.Frag} {B : Book} {H : Hp} {nd : Addr} {n : Nat} : ∀ (ms : List MT), MkAll K B H nd n ms → ∀ b ∈ MT.adrs ms, ∃ o, H b = some o
  | [], _, b, hb => by unfold MT.adrs at hb; simp at hb
  | m :: ms, h, b, hb => by
    unfold MkAll at h
    unfold MT.adrs at hb
    rcases List.mem_append.mp hb with hb | hb
    · exact MkAt.there m h.1 b hb
    · exact MkAll.there ms h.2 b hb
end
/-- a new maker -/
structure NewM (K : PySem.W.Frag) (B : Book) (nd : Addr) (sh : Sh) (H H' : Hp) (mt : MT) : Prop where
  same : Same H H'
  at_ : MkAt K B H' nd 0 mt
  sh_ : mt.sh = sh
  nod : mt.adr.Nodup
  fresh : ∀ b ∈ mt.adr, H b = none
theorem ne_none {H H' : Hp} {b : Addr} (e : Same H H') (h : H' b = none) : H b = none := by
  cases q : H b with
  | none => rfl
  | some o => rw [e _ _ q] at h; cases h
section
variable {K : PySem.W.Frag} {B : Book} {n N m hb : Nat} {H : Hp} {Q : VK} {E : XK} {x nd : Addr} {nms : List (Str × MT)} {wv : V} {c : Cn} {dx w : Addr}
theorem i_Maker (hx : H x = some (.ins (ca K c) dx [])) (q : ∀ H' cl, Fr [x] H H' → H cl = none → H' x = some (.ins (ca K c) dx [("within", wv), ("counts", .ref cl)]) → H' cl = some (.lst []) → Q .non H') :
    W K (m + 1) .Maker___init__ [.ref x, wv] H Q E := by
  refine ⟨rfl, ?_⟩
  show t_Maker___init__ K (W K m) _ _ _
  unfold t_Maker___init__
  tm_at "w"
  refine ⟨Nat.zero_le _, fun cl hcl => ?_⟩
  have hnx : cl ≠ x := fun e => by
    rw [e, upd_same] at hcl; cases hcl
  have hcl0 : H cl = none := by rw [upd_ne hnx] at hcl; exact hcl
  refine vVar rfl ?_
  refine sSto (upd_old hcl upd_same) (by show 1 < 1000; decide) ?_
  refine q _ cl ?_ hcl0 upd_same ?_
  · intro b o hb ho
    have hb' : b ≠ x := by simpa using hb
    rw [upd_ne hb', upd_ne (ne_of_none ho hcl0), upd_ne hb']; exact ho
  · rw [upd_ne hnx, upd_same]
end
end Pk
set_option Elab.async false
set_option linter.all false
set_option maxRecDepth 100000
set_option maxHeartbeats 4000000
/-! Con2: what the inits lay. -/
namespace Pk
open PySem PySem.Spec PyProof.Rows L2 Cw
local macro_rules | `(tactic| tm_at "h") => `(tactic| first
  | assumption
  | exact upd_same
  | ((with_reducible refine' upd_old ?h1 ?h2); (case h1 => assumption); (case h2 => tm_at "h"))
  | ((with_reducible refine' upd_oth ?h1 ?h2); (case h1 => first | assumption | (exact Ne.symm (by assumption)) | (exact ne_of_none (by assumption) (by assumption)) | (exact Ne.symm (ne_of_none (by assumption) (by assumption)))); (case h2 => tm_at "h"))
  | ((refine' Same.at (by assumption) ?h3); (case h3 => tm_at "h")))
local macro_rules | `(tactic| tm_at "l") => `(tactic| first
  | assumption
  | exact SqL.of (by tm_at "h")
  | exact SqT.of (by tm_at "h")
  | exact Same.seq (by assumption) (by tm_at "l")
  | exact Cw.Same.tup (by assumption) (by tm_at "l"))
local macro_rules | `(tactic| tm_at "b") => `(tactic| first
  | rfl
  | decide
  | exact decide_eq_true (by first | assumption | rfl | omega)
  | exact decide_eq_false (by first | assumption | omega))
local macro_rules | `(tactic| tm_at "w1") => `(tactic| first
  | ((with_reducible refine' vVar ?h1 ?_); (case h1 => rfl))
  | with_reducible refine' sSeq ?_
  | with_reducible refine' sAsg ?_
  | with_reducible refine' sName ?_
  | with_reducible refine' vOp ?_
  | with_reducible refine' vC ?_
  | with_reducible refine' vCons ?_
  | with_reducible refine' vNil ?_
  | with_reducible refine' vCB ?_
  | with_reducible refine' vFldE ?_
  | with_reducible refine' vAddI ?_
  | with_reducible refine' vSub ?_
  | with_reducible refine' vCmp ?_
  | with_reducible refine' vEqI ?_
  | with_reducible refine' vEqS ?_
  | with_reducible refine' vNeI ?_
  | with_reducible refine' sIf ?_
  | with_reducible refine' vTest ?_
  | with_reducible refine' vTB ?_
  | with_reducible refine' vBl ?_
  | with_reducible refine' sRet ?_
  | with_reducible refine' sDrop ?_
  | with_reducible refine' sNext ?_
  | ((with_reducible refine' iT ?h1 ?_); (case h1 => tm_at "b"))
  | ((with_reducible refine' iN ?h1 ?_); (case h1 => tm_at "b"))
  | with_reducible refine' vMethE ?_
  | with_reducible refine' vCall ?_
  | with_reducible refine' vAnd ?_
  | with_reducible refine' vOr ?_
  | with_reducible refine' vNot ?_
  | with_reducible refine' vAndV ?_
  | with_reducible refine' vOrV ?_
  | with_reducible refine' vNotV ?_
  | with_reducible refine' vIfE ?_
  | with_reducible refine' vTup ?_
  | with_reducible refine' vLst ?_
  | with_reducible refine' vBM ?_
  | with_reducible refine' vBM0 ?_
  | with_reducible refine' vMax2 ?_
  | with_reducible refine' vMin2 ?_
  | with_reducible refine' vInt ?_
  | with_reducible refine' vIntB ?_
  | with_reducible refine' vUn ?_
  | with_reducible refine' vNeg ?_
  | ((with_reducible refine' sAug ?h1 ?_); (case h1 => rfl))
  | with_reducible refine' sIAdd ?_
  | with_reducible refine' sISub ?_
  | with_reducible refine' sStoE ?_
  | ((with_reducible refine' vFld ?h1 ?h2 ?_); (case h1 => tm_at "h"); (case h2 => rfl))
  | ((with_reducible refine' sSto ?h1 ?h2 ?_); (case h1 => tm_at "h"); (case h2 => first | (show 0 < 1000; decide) | (show 1 < 1000; decide) | (show 2 < 1000; decide) | (show 3 < 1000; decide) | (show 4 < 1000; decide) | (show 5 < 1000; decide)))
  | ((with_reducible refine' vLenL ?h1 ?_); (case h1 => tm_at "l"))
  | ((with_reducible refine' vLenT ?h1 ?_); (case h1 => tm_at "l"))
  | with_reducible refine' vSl ?_
  | with_reducible refine' vPart ?_
  | with_reducible refine' vPartI ?_
  | with_reducible refine' vNoPart ?_
  | with_reducible refine' sCons ?_
  | with_reducible refine' sNil ?_
  | with_reducible refine' wAnyE ?_
  | with_reducible refine' wRng1 ?_
  | with_reducible refine' wRng3 ?_
  | with_reducible refine' vRevE ?_
  | with_reducible refine' wEnum ?_
  | with_reducible refine' vDGet ?_
  | with_reducible refine' wRng2 ?_
  | with_reducible refine' wRng1I ?_
  | with_reducible refine' wRng2I ?_
  | with_reducible refine' sFor ?_
  | ((with_reducible refine' sTup ?h1 ?h2 ?_); (case h1 => tm_at "l"); (case h2 => rfl))
  | ((with_reducible refine' vTyL ?h1 ?_); (case h1 => tm_at "h"))
  | ((refine' vMod ?h1 ?_); (case h1 => (show (0 : Int) < _; omega)))
  | fail "stuck")
local macro_rules | `(tactic| tm_at "w") => `(tactic| repeat tm_at "w1")
theorem fr_none {H H' : Hp} {b x : Addr} (f : Fr [x] H H') (hx : ∃ o, H x = some o) (h : H' b = none) (hb : b ≠ x) : H b = none := by
  cases q : H b with
  | none => rfl
  | some o => rw [f b o (by simpa using hb) q] at h; cases h
theorem fr1 {H H' : Hp} {x : Addr} {o : HO} (f : Fr [x] H H') : Fr [x] H (L2.upd H' x o) := f.trans (Fr.upd List.mem_cons_self) (fun b h => h)
theorem fr_new {H H' : Hp} {x p : Addr} {o : HO} (f : Fr [x] H H') (hp : H' p = none) : Fr [x] H (L2.upd H' p o) := f.trans (Fr.of (same_upd hp)) (by simp)
/-- an object just made -/
theorem mk_same {H H' : Hp} {x dx : Addr} {o o' : HO} (hx : H x = none) (hd : H dx = none) (f : Fr [x] (L2.upd (L2.upd H dx o) x o') H') : Same H H' := by
  intro b u h
  have h1 : b ≠ x := ne_of_none h hx
  have h2 : b ≠ dx := ne_of_none h hd
  exact f b u (by simpa using h1) (by rw [upd_ne h1, upd_ne h2]; exact h)
theorem mk_none {H : Hp} {x dx b : Addr} {o o' : HO} (h : L2.upd (L2.upd H dx o) x o' b = none) : H b = none ∧ b ≠ x ∧ b ≠ dx := by
  have h1 : b ≠ x := fun e => by rw [e, upd_same] at h; cases h
  rw [upd_ne h1] at h
  have h2 : b ≠ dx := fun e => by rw [e, upd_same] at h; cases h
  rw [upd_ne h2] at h
  exact ⟨h, h1, h2⟩
section
variable {K : PySem.W.Frag} {B : Book} {n N m hb : Nat} {H : Hp} {Q : VK} {E : XK} {x nd : Addr} {nms : List (Str × MT)} {wv : V} {c : Cn} {dx w xa : Addr}
theorem i_Whole {lo hi : Int} (hx : H x = some (.ins (ca K .WholeMaker) dx [])) (q : ∀ H' cl w, Fr [x] H H' → H cl = none → H w = none → cl ≠ w → H' x = some (.ins (ca K .WholeMaker) dx (flds (.whole lo hi) cl w xa nd)) → H' cl = some (.lst []) → H' w = some (.lst []) → Q .non H') :
    W K (m + 2) .WholeMaker___init__ [.ref x, .int lo, .int hi] H Q E := by
  refine ⟨rfl, ?_⟩
  show t_WholeMaker___init__ K (W K (m + 1)) _ _ _
  unfold t_WholeMaker___init__
  tm_at "w"
  refine ⟨Nat.zero_le _, fun w hw => ?_⟩
  have wx : w ≠ x := Ne.symm (ne_of_none hx hw)
  tm_at "w"
  refine i_Maker (upd_old hw hx) ?_
  intro H' cl f hcl h1 h2
  have clx : cl ≠ x := Ne.symm (ne_of_none (upd_old hw hx) hcl)
  have clw : cl ≠ w := fun e => by rw [e, upd_same] at hcl; cases hcl
  have hcl0 : H cl = none := by rw [upd_ne clw] at hcl; exact hcl
  have hw' : H' w = some (.lst []) := f _ _ (by simpa using wx) upd_same
  tm_at "w"
  refine q _ cl w (fr1 (fr1 (Fr.trans (fr_new (Fr.of (Same.refl H)) hw) f (fun b h => h)))) hcl0 hw clw upd_same ?_ ?_
  · rw [upd_ne clx, upd_ne clx]; exact h2
  · rw [upd_ne wx, upd_ne wx]; exact hw'
theorem i_Text {s : Str} (hx : H x = some (.ins (ca K .TextMaker) dx [])) (q : ∀ H' cl w, Fr [x] H H' → H cl = none → H w = none → cl ≠ w → H' x = some (.ins (ca K .TextMaker) dx (flds (.text s) cl w xa nd)) → H' cl = some (.lst []) → H' w = some (.lst []) → Q .non H') :
    W K (m + 2) .TextMaker___init__ [.ref x, .str s] H Q E := by
  refine ⟨rfl, ?_⟩
  show t_TextMaker___init__ K (W K (m + 1)) _ _ _
  unfold t_TextMaker___init__
  tm_at "w"
  refine ⟨Nat.zero_le _, fun w hw => ?_⟩
  have wx : w ≠ x := Ne.symm (ne_of_none hx hw)
  tm_at "w"
  refine i_Maker (upd_old hw hx) ?_
  intro H' cl f hcl h1 h2
  have clx : cl ≠ x := Ne.symm (ne_of_none (upd_old hw hx) hcl)
  have clw : cl ≠ w := fun e => by rw [e, upd_same] at hcl; cases hcl
  have hcl0 : H cl = none := by rw [upd_ne clw] at hcl; exact hcl
  have hw' : H' w = some (.lst []) := f _ _ (by simpa using wx) upd_same
  tm_at "w"
  refine q _ cl w (fr1 (Fr.trans (fr_new (Fr.of (Same.refl H)) hw) f (fun b h => h))) hcl0 hw clw upd_same ?_ ?_
  · rw [upd_ne clx]; exact h2
  · rw [upd_ne wx]; exact hw'
theorem i_Use {s : Str} (hx : H x = some (.ins (ca K .UseMaker) dx [])) (q : ∀ H' cl w, Fr [x] H H' → H cl = none → H w = none → cl ≠ w → H' x = some (.ins (ca K .UseMaker) dx (flds (.use s) cl w xa nd)) → H' cl = some (.lst []) → H' w = some (.lst []) → Q .non H') :
    W K (m + 2) .UseMaker___init__ [.ref x, .ref nd, .str s] H Q E := by
  refine ⟨rfl, ?_⟩
  show t_UseMaker___init__ K (W K (m + 1)) _ _ _
  unfold t_UseMaker___init__
  tm_at "w"
  refine ⟨Nat.zero_le _, fun w hw => ?_⟩
  have wx : w ≠ x := Ne.symm (ne_of_none hx hw)
  tm_at "w"
  refine i_Maker (upd_old hw hx) ?_
  intro H' cl f hcl h1 h2
  have clx : cl ≠ x := Ne.symm (ne_of_none (upd_old hw hx) hcl)
  have clw : cl ≠ w := fun e => by rw [e, upd_same] at hcl; cases hcl
  have hcl0 : H cl = none := by rw [upd_ne clw] at hcl; exact hcl
  have hw' : H' w = some (.lst []) := f _ _ (by simpa using wx) upd_same
  tm_at "w"
  refine q _ cl w (fr1 (fr1 (Fr.trans (fr_new (Fr.of (Same.refl H)) hw) f (fun b h => h)))) hcl0 hw clw upd_same ?_ ?_
  · rw [upd_ne clx, upd_ne clx]; exact h2
  · rw [upd_ne wx, upd_ne wx]; exact hw'
theorem i_Alike {t : Nat} (hx : H x = some (.ins (ca K .AlikeMaker) dx [])) (q : ∀ H' cl, Fr [x] H H' → H cl = none → H' x = some (.ins (ca K .AlikeMaker) dx (flds (.alike t) cl w xa nd)) → H' cl = some (.lst []) → Q .non H') :
    W K (m + 2) .AlikeMaker___init__ [.ref x, .ref w, .int t] H Q E := by
  refine ⟨rfl, ?_⟩
  show t_AlikeMaker___init__ K (W K (m + 1)) _ _ _
  unfold t_AlikeMaker___init__
  tm_at "w"
  refine i_Maker hx ?_
  intro H' cl f hcl h1 h2
  have clx : cl ≠ x := Ne.symm (ne_of_none hx hcl)
  tm_at "w"
  refine q _ cl (fr1 f) hcl upd_same ?_
  rw [upd_ne clx]; exact h2
theorem i_Pick {ms : List Str} (hx : H x = some (.ins (ca K .PickMaker) dx [])) (q : ∀ H' cl, Fr [x] H H' → H cl = none → H' x = some (.ins (ca K .PickMaker) dx (flds (.pick ms) cl w xa nd)) → H' cl = some (.lst []) → Q .non H') :
    W K (m + 2) .PickMaker___init__ [.ref x, .ref w, .ref xa] H Q E := by
  refine ⟨rfl, ?_⟩
  show t_PickMaker___init__ K (W K (m + 1)) _ _ _
  unfold t_PickMaker___init__
  tm_at "w"
  refine i_Maker hx ?_
  intro H' cl f hcl h1 h2
  have clx : cl ≠ x := Ne.symm (ne_of_none hx hcl)
  tm_at "w"
  refine q _ cl (fr1 f) hcl upd_same ?_
  rw [upd_ne clx]; exact h2
theorem i_Row {xs : List V} (hx : H x = some (.ins (ca K .RowMaker) dx [])) (hw : H w = some (.lst xs)) (hwx : w ≠ x) (hl : xs.length ≤ 1000)
    (q : ∀ (H' : Hp) (cl xa : Addr) (rl : List Addr), Fr [x] H H' → H cl = none → H xa = none → cl ≠ xa → (∀ r ∈ rl, H r = none ∧ r ≠ cl ∧ r ≠ xa ∧ H' r = some (.lst [])) → rl.Nodup → rl.length = xs.length + 1 → H' xa = some (.lst (rl.map V.ref)) → H' x = some (.ins (ca K .RowMaker) dx (flds .row cl w xa nd)) → H' cl = some (.lst []) → Q .non H') :
    W K (m + 2) .RowMaker___init__ [.ref x, .ref w] H Q E := by
  refine ⟨rfl, ?_⟩
  show t_RowMaker___init__ K (W K (m + 1)) _ _ _
  unfold t_RowMaker___init__
  tm_at "w"
  refine i_Maker hx ?_
  intro H' cl f hcl h1 h2
  have clx : cl ≠ x := Ne.symm (ne_of_none hx hcl)
  have hw' : H' w = some (.lst xs) := f _ _ (by simpa using hwx) hw
  tm_at "w"
  refine vLc ?_
  tm_at "w"
  refine ⟨by omega, by omega, ?_⟩
  intro D hD
  refine lc_range (fun i H2 => ∃ rl : List Addr, Same H' H2 ∧ H2 D = some (.lst (rl.map V.ref)) ∧ rl.length = i ∧ rl.Nodup ∧ D ∉ rl ∧ ∀ r ∈ rl, H2 r = some (.lst []) ∧ H' r = none)
    ⟨[], same_upd hD, upd_same, rfl, List.nodup_nil, by simp, by simp⟩ ?_ ?_
  · rintro i H2 hi ⟨rl, hS, hF, hrl, hnd, hDr, hr⟩
    refine sName ⟨rfl, ?_⟩
    refine vYes ?_
    refine iT rfl ?_
    tm_at "w"
    refine ⟨Nat.zero_le _, fun p hp => ?_⟩
    tm_at "w"
    have hpD : p ≠ D := Ne.symm (ne_of_none hF hp)
    have hprl : p ∉ rl := fun z => by rw [(hr p z).1] at hp; cases hp
    refine ⟨_, upd_old hp hF, by rw [List.length_map, hrl]; have := sizeLine_eq; omega, rl ++ [p], Same.mut (Same.trans hS (same_upd hp)) hD, by rw [upd_same, List.map_append]; rfl, by simp [hrl], ?_, by simp [hDr, Ne.symm hpD], ?_⟩
    · exact List.nodup_append.mpr ⟨hnd, by simp, fun a ha b hb e => by
        have e2 : b = p := by simpa using hb
        subst e2
        subst e
        exact hprl ha⟩
    · intro r hr'
      rcases List.mem_append.mp hr' with h | h
      · have e1 : r ≠ D := fun e => hDr (by rw [← e]; exact h)
        have e2 : r ≠ p := fun e => hprl (by rw [← e]; exact h)
        rw [upd_ne e1, upd_ne e2]
        exact hr r h
      · have e2 : r = p := by simpa using h
        subst e2
        rw [upd_ne hpD, upd_same]
        exact ⟨rfl, ne_none hS hp⟩
  · rintro H2 ⟨rl, hS, hF, hrl, hnd, hDr, hr⟩
    have h1' := hS _ _ h1
    have hDx : D ≠ x := Ne.symm (ne_of_none h1 hD)
    have hDcl : D ≠ cl := Ne.symm (ne_of_none h2 hD)
    tm_at "w"
    refine q _ cl D rl (fr1 (f.trans (Fr.of hS) (by simp))) hcl (fr_none f ⟨_, hx⟩ hD hDx) (Ne.symm hDcl) (fun r h => ?_) hnd (by rw [hrl]; omega) ?_ upd_same ?_
    · obtain ⟨g1, g2⟩ := hr r h
      have erx : r ≠ x := Ne.symm (ne_of_none h1 g2)
      refine ⟨fr_none f ⟨_, hx⟩ g2 erx, Ne.symm (ne_of_none h2 g2), fun e => hDr (by rw [← e]; exact h), ?_⟩
      rw [upd_ne erx]; exact g1
    · rw [upd_ne hDx]; exact hF
    · rw [upd_ne clx]; exact hS _ _ h2
end
end Pk
set_option Elab.async false
set_option linter.all false
set_option maxRecDepth 100000
set_option maxHeartbeats 4000000
/-! Con3: a maker of a shape. -/
namespace Pk
open PySem PySem.Spec PyProof.Rows L2 Cw
local macro_rules | `(tactic| tm_at "h") => `(tactic| first
  | assumption
  | exact upd_same
  | ((with_reducible refine' upd_old ?h1 ?h2); (case h1 => assumption); (case h2 => tm_at "h"))
  | ((with_reducible refine' upd_oth ?h1 ?h2); (case h1 => first | assumption | (exact Ne.symm (by assumption)) | (exact ne_of_none (by assumption) (by assumption)) | (exact Ne.symm (ne_of_none (by assumption) (by assumption)))); (case h2 => tm_at "h"))
  | ((refine' Same.at (by assumption) ?h3); (case h3 => tm_at "h")))
local macro_rules | `(tactic| tm_at "l") => `(tactic| first
  | assumption
  | exact SqL.of (by tm_at "h")
  | exact SqT.of (by tm_at "h")
  | exact Same.seq (by assumption) (by tm_at "l")
  | exact Cw.Same.tup (by assumption) (by tm_at "l"))
local macro_rules | `(tactic| tm_at "b") => `(tactic| first
  | rfl
  | decide
  | exact decide_eq_true (by first | assumption | rfl | omega)
  | exact decide_eq_false (by first | assumption | omega))
local macro_rules | `(tactic| tm_at "w1") => `(tactic| first
  | ((with_reducible refine' vVar ?h1 ?_); (case h1 => rfl))
  | with_reducible refine' sSeq ?_
  | with_reducible refine' sAsg ?_
  | with_reducible refine' sName ?_
  | with_reducible refine' vOp ?_
  | with_reducible refine' vC ?_
  | with_reducible refine' vCons ?_
  | with_reducible refine' vNil ?_
  | with_reducible refine' vCB ?_
  | with_reducible refine' vFldE ?_
  | with_reducible refine' vAddI ?_
  | with_reducible refine' vSub ?_
  | with_reducible refine' vCmp ?_
  | with_reducible refine' vEqI ?_
  | with_reducible refine' vEqS ?_
  | with_reducible refine' vNeI ?_
  | with_reducible refine' sIf ?_
  | with_reducible refine' vTest ?_
  | with_reducible refine' vTB ?_
  | with_reducible refine' vBl ?_
  | with_reducible refine' sRet ?_
  | with_reducible refine' sDrop ?_
  | with_reducible refine' sNext ?_
  | ((with_reducible refine' iT ?h1 ?_); (case h1 => tm_at "b"))
  | ((with_reducible refine' iN ?h1 ?_); (case h1 => tm_at "b"))
  | with_reducible refine' vMethE ?_
  | with_reducible refine' vCall ?_
  | with_reducible refine' vAnd ?_
  | with_reducible refine' vOr ?_
  | with_reducible refine' vNot ?_
  | with_reducible refine' vAndV ?_
  | with_reducible refine' vOrV ?_
  | with_reducible refine' vNotV ?_
  | with_reducible refine' vIfE ?_
  | with_reducible refine' vTup ?_
  | with_reducible refine' vLst ?_
  | with_reducible refine' vBM ?_
  | with_reducible refine' vBM0 ?_
  | with_reducible refine' vMax2 ?_
  | with_reducible refine' vMin2 ?_
  | with_reducible refine' vInt ?_
  | with_reducible refine' vIntB ?_
  | with_reducible refine' vUn ?_
  | with_reducible refine' vNeg ?_
  | ((with_reducible refine' sAug ?h1 ?_); (case h1 => rfl))
  | with_reducible refine' sIAdd ?_
  | with_reducible refine' sISub ?_
  | with_reducible refine' sStoE ?_
  | ((with_reducible refine' vFld ?h1 ?h2 ?_); (case h1 => tm_at "h"); (case h2 => rfl))
  | ((with_reducible refine' sSto ?h1 ?h2 ?_); (case h1 => tm_at "h"); (case h2 => first | (show 0 < 1000; decide) | (show 1 < 1000; decide) | (show 2 < 1000; decide) | (show 3 < 1000; decide) | (show 4 < 1000; decide) | (show 5 < 1000; decide)))
  | ((with_reducible refine' vLenL ?h1 ?_); (case h1 => tm_at "l"))
  | ((with_reducible refine' vLenT ?h1 ?_); (case h1 => tm_at "l"))
  | with_reducible refine' vSl ?_
  | with_reducible refine' vPart ?_
  | with_reducible refine' vPartI ?_
  | with_reducible refine' vNoPart ?_
  | with_reducible refine' sCons ?_
  | with_reducible refine' sNil ?_
  | with_reducible refine' wAnyE ?_
  | with_reducible refine' wRng1 ?_
  | with_reducible refine' wRng3 ?_
  | with_reducible refine' vRevE ?_
  | with_reducible refine' wEnum ?_
  | with_reducible refine' vDGet ?_
  | with_reducible refine' wRng2 ?_
  | with_reducible refine' wRng1I ?_
  | with_reducible refine' wRng2I ?_
  | with_reducible refine' sFor ?_
  | ((with_reducible refine' sTup ?h1 ?h2 ?_); (case h1 => tm_at "l"); (case h2 => rfl))
  | ((with_reducible refine' vTyL ?h1 ?_); (case h1 => tm_at "h"))
  | ((refine' vMod ?h1 ?_); (case h1 => (show (0 : Int) < _; omega)))
  | fail "stuck")
local macro_rules | `(tactic| tm_at "w") => `(tactic| repeat tm_at "w1")
/-- new makers -/
structure NewL (K : PySem.W.Frag) (B : Book) (nd : Addr) (ss : List Sh) (H H' : Hp) (mts : List MT) : Prop where
  same : Same H H'
  at_ : MkAll K B H' nd 0 mts
  sh_ : MT.shs mts = ss
  nod : (MT.adrs mts).Nodup
  fresh : ∀ b ∈ MT.adrs mts, H b = none
theorem NewL.nil {K : PySem.W.Frag} {B : Book} {nd : Addr} {H : Hp} : NewL K B nd [] H H [] := ⟨Same.refl H, by unfold MkAll; trivial, by unfold MT.shs; rfl, by unfold MT.adrs; exact List.nodup_nil, by unfold MT.adrs; simp⟩
theorem NewM.one {K : PySem.W.Frag} {B : Book} {nd : Addr} {H H' : Hp} {s : Sh} {mt : MT} (h : NewM K B nd s H H' mt) : NewL K B nd [s] H H' [mt] :=
  ⟨h.same, by unfold MkAll MkAll; exact ⟨h.at_, trivial⟩, by rw [ks1, h.sh_], by unfold MT.adrs MT.adrs; rw [List.append_nil]; exact h.nod, by unfold MT.adrs MT.adrs; rw [List.append_nil]; exact h.fresh⟩
theorem MkAll.same {K : PySem.W.Frag} {B : Book} {H H' : Hp} {nd : Addr} {n : Nat} {ms : List MT} (e : Same H H') (h : MkAll K B H nd n ms) : MkAll K B H' nd n ms := MkAll.mono ms (fun b _ o q => e b o q) h
theorem NewL.up {K : PySem.W.Frag} {B : Book} {nd : Addr} {ss : List Sh} {H H1 H2 : Hp} {mts : List MT} (h : NewL K B nd ss H H1 mts) (e : Same H1 H2) : NewL K B nd ss H H2 mts :=
  ⟨h.same.trans e, h.at_.same e, h.sh_, h.nod, h.fresh⟩
theorem adrs_app : ∀ (ms : List MT) (m : MT), MT.adrs (ms ++ [m]) = MT.adrs ms ++ m.adr
  | [], m => by simp [MT.adrs]
  | k :: ks, m => by
    rw [List.cons_append]
    unfold MT.adrs
    rw [adrs_app ks m, List.append_assoc]
theorem shs_app : ∀ (ms : List MT) (m : MT), MT.shs (ms ++ [m]) = MT.shs ms ++ [m.sh] := by intro ms m; rw [shs_map, shs_map, List.map_append]; rfl
theorem NewL.snoc {K : PySem.W.Frag} {B : Book} {nd : Addr} {ss : List Sh} {s : Sh} {H H1 H2 : Hp} {mts : List MT} {mt : MT} (h : NewL K B nd ss H H1 mts) (q : NewM K B nd s H1 H2 mt) : NewL K B nd (ss ++ [s]) H H2 (mts ++ [mt]) := by
  have h2 := h.up q.same
  refine ⟨h2.same, ?_, by rw [shs_app, h.sh_, q.sh_], ?_, ?_⟩
  · refine MkAll.of fun j m hj => ?_
    by_cases hl : j < mts.length
    · rw [List.getElem?_append_left hl] at hj
      exact h2.at_.get hj
    · rw [List.getElem?_append_right (by omega)] at hj
      have : mt = m := by
        have h0 : j - mts.length = 0 := by
          have := (List.getElem?_eq_some_iff.mp hj).1
          simp at this; omega
        rw [h0] at hj
        simpa using hj
      subst this
      exact q.at_
  · rw [adrs_app]
    refine List.nodup_append.mpr ⟨h.nod, q.nod, fun b hb c hc e => ?_⟩
    subst e
    obtain ⟨o, ho⟩ := MkAll.there mts h.at_ b hb
    rw [q.fresh b hc] at ho; cases ho
  · rw [adrs_app]
    intro b hb
    rcases List.mem_append.mp hb with hb | hb
    · exact h.fresh b hb
    · exact ne_none h.same (q.fresh b hb)
section
variable {K : PySem.W.Frag} {B : Book} {n N m hb : Nat} {Q : VK} {E : XK} {nd : Addr} {nms : List (Str × MT)} {wv : V} {c : Cn}
theorem new_mk {H H2 H' : Hp} {k : Kd} {ss : List Sh} {x dx cl w xa : Addr} {rl : List Addr} {mts : List MT} {o o' : HO} (L : NewL K B nd ss H H2 mts) (hw0 : H w = none) (hwk : w ∉ MT.adrs mts) (hwx : w ≠ x) (hwc : w ≠ cl) (hw : H' w = some (.lst (mts.map fun m => V.ref m.a)))
    (hx : H2 x = none) (hdx : H2 dx = none) (f : Fr [x] (L2.upd (L2.upd H2 dx o) x o') H') (hcl : L2.upd (L2.upd H2 dx o) x o' cl = none) (h1 : H' x = some (.ins (ca K (cls k)) dx (flds k cl w xa nd))) (h2 : H' cl = some (.lst []))
    (hX : ∀ b ∈ xadr k xa ++ rl, H b = none ∧ b ∉ MT.adrs mts ∧ b ≠ w ∧ b ≠ x ∧ b ≠ cl) (hXn : (xadr k xa ++ rl).Nodup) (hxat : xAt B H' 0 k xa rl mts) : NewM K B nd (.nd k ss) H H' (.mk k x dx cl w xa rl mts) := by
  have s2 : Same H2 H' := mk_same hx hdx f
  obtain ⟨c1, c2, c3⟩ := mk_none hcl
  have xk : x ∉ MT.adrs mts := fun z => by
    obtain ⟨o, ho⟩ := MkAll.there mts L.at_ x z
    rw [hx] at ho; cases ho
  have ck : cl ∉ MT.adrs mts := fun z => by
    obtain ⟨o, ho⟩ := MkAll.there mts L.at_ cl z
    rw [c1] at ho; cases ho
  refine ⟨L.same.trans s2, ?_, by unfold MT.sh; rw [L.sh_], ?_, ?_⟩
  · unfold MkAt
    exact ⟨h1, hw, h2, hxat, L.at_.same s2⟩
  · unfold MT.adr
    refine List.nodup_cons.mpr ⟨?_, List.nodup_cons.mpr ⟨?_, List.nodup_cons.mpr ⟨?_, List.nodup_append.mpr ⟨hXn, L.nod, fun b hb c hc e => ?_⟩⟩⟩⟩
    · intro z
      rcases List.mem_cons.mp z with z | z
      · exact c2 z.symm
      rcases List.mem_cons.mp z with z | z
      · exact hwx z.symm
      rcases List.mem_append.mp z with z | z
      · exact (hX _ z).2.2.2.1 rfl
      · exact xk z
    · intro z
      rcases List.mem_cons.mp z with z | z
      · exact hwc z.symm
      rcases List.mem_append.mp z with z | z
      · exact (hX _ z).2.2.2.2 rfl
      · exact ck z
    · intro z
      rcases List.mem_append.mp z with z | z
      · exact (hX _ z).2.2.1 rfl
      · exact hwk z
    · subst e
      exact (hX _ hb).2.1 hc
  · intro b hb
    unfold MT.adr at hb
    rcases List.mem_cons.mp hb with rfl | hb
    · exact ne_none L.same hx
    rcases List.mem_cons.mp hb with rfl | hb
    · exact ne_none L.same c1
    rcases List.mem_cons.mp hb with rfl | hb
    · exact hw0
    rcases List.mem_append.mp hb with hb | hb
    · exact (hX _ hb).1
    · exact L.fresh b hb
/-- maker_of makes a maker of the shape -/
def Makes (K : PySem.W.Frag) (B : Book) (nd : Addr) (m : Nat) (sh : Sh) : Prop :=
  ∀ (H : Hp) (v : V) (Q : VK) (E : XK), Dp K H v (shD sh) → WfS B sh → (∀ mt H', NewM K B nd sh H H' mt → Q (.ref mt.a) H') → W K m .maker_of [v, .ref nd] H Q E
theorem Dp.t2 {H : Hp} {v : V} {a b : DT} (h : Dp K H v (.tuple [a, b])) : ∃ p x y, v = .ref p ∧ SqT K H p [x, y] ∧ Dp K H x a ∧ Dp K H y b := by
  obtain ⟨p, xs, rfl, h1, h2⟩ := Dp.tup_inv h
  obtain ⟨x, xs1, rfl, h3, h4⟩ := DpAll.cons_inv h2
  obtain ⟨y, xs2, rfl, h5, h6⟩ := DpAll.cons_inv h4
  rw [DpAll.nil_inv h6] at h1
  exact ⟨p, x, y, rfl, h1, h3, h5⟩
theorem Dp.t3 {H : Hp} {v : V} {a b c : DT} (h : Dp K H v (.tuple [a, b, c])) : ∃ p x y z, v = .ref p ∧ SqT K H p [x, y, z] ∧ Dp K H x a ∧ Dp K H y b ∧ Dp K H z c := by
  obtain ⟨p, xs, rfl, h1, h2⟩ := Dp.tup_inv h
  obtain ⟨x, xs1, rfl, h3, h4⟩ := DpAll.cons_inv h2
  obtain ⟨y, xs2, rfl, h5, h6⟩ := DpAll.cons_inv h4
  obtain ⟨z, xs3, rfl, h7, h8⟩ := DpAll.cons_inv h6
  rw [DpAll.nil_inv h8] at h1
  exact ⟨p, x, y, z, rfl, h1, h3, h5, h7⟩
theorem mk_Whole {lo hi : Int} {ks : List Sh} : Makes K B nd (m + 3) (.nd (.whole lo hi) ks) := by
  intro H v Q E hd wf q
  unfold shD at hd
  unfold WfS at wf
  obtain ⟨hlh, rfl⟩ : lo ≤ hi ∧ ks = [] := wf.1
  obtain ⟨p, x0, x1, x2, rfl, hT, d0, d1, d2⟩ := Dp.t3 hd
  rw [Dp.str_inv d0, Dp.int_inv d1, Dp.int_inv d2] at hT
  refine ⟨rfl, ?_⟩
  show t_maker_of K (W K (m + 2)) _ _ _
  unfold t_maker_of
  tm_at "w"
  refine vIxT hT (v := .str "whole") rfl ?_
  tm_at "w"
  refine vMake ?_
  tm_at "w"
  refine vIxT hT (v := .int lo) rfl ?_
  tm_at "w"
  refine vIxT hT (v := .int hi) rfl ?_
  tm_at "w"
  intro x dx hx hdx hne
  refine i_Whole (nd := nd) (xa := x) upd_same ?_
  intro H' cl w f hcl hw clw h1 h2 h3
  obtain ⟨w1, w2, w3⟩ := mk_none hw
  exact ⟨rfl, q (.mk (.whole lo hi) x dx cl w x [] []) H' (new_mk NewL.nil w1 (by unfold MT.adrs; simp) w2 (Ne.symm clw) h3 hx hdx f hcl h1 h2 (by simp [xadr]) (by simp [xadr]) ⟨hlh, rfl⟩)⟩
theorem mk_Text {s : Str} {ks : List Sh} : Makes K B nd (m + 3) (.nd (.text s) ks) := by
  intro H v Q E hd wf q
  unfold shD at hd
  unfold WfS at wf
  obtain ⟨hl1, hl2, rfl⟩ : 0 < s.length ∧ s.length ≤ 100 ∧ ks = [] := wf.1
  obtain ⟨p, x0, x1, rfl, hT, d0, d1⟩ := Dp.t2 hd
  rw [Dp.str_inv d0, Dp.str_inv d1] at hT
  refine ⟨rfl, ?_⟩
  show t_maker_of K (W K (m + 2)) _ _ _
  unfold t_maker_of
  tm_at "w"
  refine vIxT hT (v := .str "text") rfl ?_
  tm_at "w"
  refine vMake ?_
  tm_at "w"
  refine vIxT hT (v := .str s) rfl ?_
  tm_at "w"
  intro x dx hx hdx hne
  refine i_Text (nd := nd) (xa := x) upd_same ?_
  intro H' cl w f hcl hw clw h1 h2 h3
  obtain ⟨w1, w2, w3⟩ := mk_none hw
  exact ⟨rfl, q (.mk (.text s) x dx cl w x [] []) H' (new_mk NewL.nil w1 (by unfold MT.adrs; simp) w2 (Ne.symm clw) h3 hx hdx f hcl h1 h2 (by simp [xadr]) (by simp [xadr]) ⟨hl1, hl2, rfl⟩)⟩
theorem mk_Use {s : Str} {ks : List Sh} : Makes K B nd (m + 3) (.nd (.use s) ks) := by
  intro H v Q E hd wf q
  unfold shD at hd
  unfold WfS at wf
  obtain ⟨hl1, rfl⟩ : (B.lookup s).isSome = true ∧ ks = [] := wf.1
  obtain ⟨p, x0, x1, rfl, hT, d0, d1⟩ := Dp.t2 hd
  rw [Dp.str_inv d0, Dp.str_inv d1] at hT
  refine ⟨rfl, ?_⟩
  show t_maker_of K (W K (m + 2)) _ _ _
  unfold t_maker_of
  tm_at "w"
  refine vIxT hT (v := .str "use") rfl ?_
  tm_at "w"
  refine vMake ?_
  tm_at "w"
  refine vIxT hT (v := .str s) rfl ?_
  tm_at "w"
  intro x dx hx hdx hne
  refine i_Use (nd := nd) (xa := x) upd_same ?_
  intro H' cl w f hcl hw clw h1 h2 h3
  obtain ⟨w1, w2, w3⟩ := mk_none hw
  exact ⟨rfl, q (.mk (.use s) x dx cl w x [] []) H' (new_mk NewL.nil w1 (by unfold MT.adrs; simp) w2 (Ne.symm clw) h3 hx hdx f hcl h1 h2 (by simp [xadr]) (by simp [xadr]) ⟨hl1, rfl⟩)⟩
end
end Pk
set_option Elab.async false
set_option linter.all false
set_option maxRecDepth 100000
set_option maxHeartbeats 4000000
/-! Con4: makers of shapes of shapes. -/
namespace Pk
open PySem PySem.Spec PyProof.Rows L2 Cw
local macro_rules | `(tactic| tm_at "h") => `(tactic| first
  | assumption
  | exact upd_same
  | ((with_reducible refine' upd_old ?h1 ?h2); (case h1 => assumption); (case h2 => tm_at "h"))
  | ((with_reducible refine' upd_oth ?h1 ?h2); (case h1 => first | assumption | (exact Ne.symm (by assumption)) | (exact ne_of_none (by assumption) (by assumption)) | (exact Ne.symm (ne_of_none (by assumption) (by assumption)))); (case h2 => tm_at "h"))
  | ((refine' Same.at (by assumption) ?h3); (case h3 => tm_at "h")))
local macro_rules | `(tactic| tm_at "l") => `(tactic| first
  | assumption
  | exact SqL.of (by tm_at "h")
  | exact SqT.of (by tm_at "h")
  | exact Same.seq (by assumption) (by tm_at "l")
  | exact Cw.Same.tup (by assumption) (by tm_at "l"))
local macro_rules | `(tactic| tm_at "b") => `(tactic| first
  | rfl
  | decide
  | exact decide_eq_true (by first | assumption | rfl | omega)
  | exact decide_eq_false (by first | assumption | omega))
local macro_rules | `(tactic| tm_at "w1") => `(tactic| first
  | ((with_reducible refine' vVar ?h1 ?_); (case h1 => rfl))
  | with_reducible refine' sSeq ?_
  | with_reducible refine' sAsg ?_
  | with_reducible refine' sName ?_
  | with_reducible refine' vOp ?_
  | with_reducible refine' vC ?_
  | with_reducible refine' vCons ?_
  | with_reducible refine' vNil ?_
  | with_reducible refine' vCB ?_
  | with_reducible refine' vFldE ?_
  | with_reducible refine' vAddI ?_
  | with_reducible refine' vSub ?_
  | with_reducible refine' vCmp ?_
  | with_reducible refine' vEqI ?_
  | with_reducible refine' vEqS ?_
  | with_reducible refine' vNeI ?_
  | with_reducible refine' sIf ?_
  | with_reducible refine' vTest ?_
  | with_reducible refine' vTB ?_
  | with_reducible refine' vBl ?_
  | with_reducible refine' sRet ?_
  | with_reducible refine' sDrop ?_
  | with_reducible refine' sNext ?_
  | ((with_reducible refine' iT ?h1 ?_); (case h1 => tm_at "b"))
  | ((with_reducible refine' iN ?h1 ?_); (case h1 => tm_at "b"))
  | with_reducible refine' vMethE ?_
  | with_reducible refine' vCall ?_
  | with_reducible refine' vAnd ?_
  | with_reducible refine' vOr ?_
  | with_reducible refine' vNot ?_
  | with_reducible refine' vAndV ?_
  | with_reducible refine' vOrV ?_
  | with_reducible refine' vNotV ?_
  | with_reducible refine' vIfE ?_
  | with_reducible refine' vTup ?_
  | with_reducible refine' vLst ?_
  | with_reducible refine' vBM ?_
  | with_reducible refine' vBM0 ?_
  | with_reducible refine' vMax2 ?_
  | with_reducible refine' vMin2 ?_
  | with_reducible refine' vInt ?_
  | with_reducible refine' vIntB ?_
  | with_reducible refine' vUn ?_
  | with_reducible refine' vNeg ?_
  | ((with_reducible refine' sAug ?h1 ?_); (case h1 => rfl))
  | with_reducible refine' sIAdd ?_
  | with_reducible refine' sISub ?_
  | with_reducible refine' sStoE ?_
  | ((with_reducible refine' vFld ?h1 ?h2 ?_); (case h1 => tm_at "h"); (case h2 => rfl))
  | ((with_reducible refine' sSto ?h1 ?h2 ?_); (case h1 => tm_at "h"); (case h2 => first | (show 0 < 1000; decide) | (show 1 < 1000; decide) | (show 2 < 1000; decide) | (show 3 < 1000; decide) | (show 4 < 1000; decide) | (show 5 < 1000; decide)))
  | ((with_reducible refine' vLenL ?h1 ?_); (case h1 => tm_at "l"))
  | ((with_reducible refine' vLenT ?h1 ?_); (case h1 => tm_at "l"))
  | with_reducible refine' vSl ?_
  | with_reducible refine' vPart ?_
  | with_reducible refine' vPartI ?_
  | with_reducible refine' vNoPart ?_
  | with_reducible refine' sCons ?_
  | with_reducible refine' sNil ?_
  | with_reducible refine' wAnyE ?_
  | with_reducible refine' wRng1 ?_
  | with_reducible refine' wRng3 ?_
  | with_reducible refine' vRevE ?_
  | with_reducible refine' wEnum ?_
  | with_reducible refine' vDGet ?_
  | with_reducible refine' wRng2 ?_
  | with_reducible refine' wRng1I ?_
  | with_reducible refine' wRng2I ?_
  | with_reducible refine' sFor ?_
  | ((with_reducible refine' sTup ?h1 ?h2 ?_); (case h1 => tm_at "l"); (case h2 => rfl))
  | ((with_reducible refine' vTyL ?h1 ?_); (case h1 => tm_at "h"))
  | ((refine' vMod ?h1 ?_); (case h1 => (show (0 : Int) < _; omega)))
  | fail "stuck")
local macro_rules | `(tactic| tm_at "w") => `(tactic| repeat tm_at "w1")
section
variable {K : PySem.W.Frag} {B : Book} {n N m hb : Nat} {Q : VK} {E : XK} {nd : Addr} {nms : List (Str × MT)} {wv : V} {c : Cn}
theorem hd1 {k0 : Sh} : (shDs [k0]).headD .none = shD k0 := by rw [shDs_map]; rfl
theorem mk_Many {ks : List Sh} (ih : ∀ s ∈ ks, Makes K B nd (m + 2) s) : Makes K B nd (m + 3) (.nd .many ks) := by
  intro H v Q E hd wf q
  unfold shD at hd
  unfold WfS at wf
  obtain ⟨⟨k0, rfl⟩, wk⟩ : (∃ k0, ks = [k0]) ∧ WfL B ks := wf
  rw [hd1] at hd
  obtain ⟨p, x0, x1, rfl, hT, d0, d1⟩ := Dp.t2 hd
  rw [Dp.str_inv d0] at hT
  refine ⟨rfl, ?_⟩
  show t_maker_of K (W K (m + 2)) _ _ _
  unfold t_maker_of
  tm_at "w"
  refine vIxT hT (v := .str "many") rfl ?_
  tm_at "w"
  refine vIxT hT (v := x1) rfl ?_
  tm_at "w"
  refine ih k0 (by simp) H x1 _ _ d1 (wk.get (i := 0) rfl) ?_
  intro km H1 nk
  tm_at "w"
  refine ⟨by show 1 ≤ sizeLine; decide, fun w hw => ?_⟩
  tm_at "w"
  refine vMake ?_
  tm_at "w"
  intro x dx hx hdx hne
  refine i_Maker upd_same ?_
  intro H' cl f hcl h1 h2
  have L : NewL K B nd [k0] H (L2.upd H1 w (.lst [.ref km.a])) [km] := nk.one.up (same_upd hw)
  have wx : w ≠ x := Ne.symm (ne_of_none upd_same hx).symm
  obtain ⟨c1, c2, c3⟩ := mk_none hcl
  have wc : w ≠ cl := ne_of_none upd_same c1
  have wk : w ∉ MT.adrs [km] := fun z => by
    obtain ⟨o, ho⟩ := MkAll.there _ nk.one.at_ w z
    rw [hw] at ho; cases ho
  exact ⟨rfl, q (.mk .many x dx cl w x [] [km]) H' (new_mk L (ne_none nk.same hw) wk wx wc (mk_same hx hdx f _ _ upd_same) hx hdx f hcl h1 h2 (by simp [xadr]) (by simp [xadr]) ⟨⟨km, rfl⟩, rfl⟩)⟩
theorem mk_Alike {t : Nat} {ks : List Sh} (ih : ∀ s ∈ ks, Makes K B nd (m + 2) s) : Makes K B nd (m + 3) (.nd (.alike t) ks) := by
  intro H v Q E hd wf q
  unfold shD at hd
  unfold WfS at wf
  obtain ⟨⟨ht0, k0, rfl⟩, wk⟩ : (0 < t ∧ ∃ k0, ks = [k0]) ∧ WfL B ks := wf
  rw [hd1] at hd
  obtain ⟨p, x0, x1, x2, rfl, hT, d0, d1, d2⟩ := Dp.t3 hd
  rw [Dp.str_inv d0, Dp.int_inv d2] at hT
  refine ⟨rfl, ?_⟩
  show t_maker_of K (W K (m + 2)) _ _ _
  unfold t_maker_of
  tm_at "w"
  refine vIxT hT (v := .str "alike") rfl ?_
  tm_at "w"
  refine vIxT hT (v := x1) rfl ?_
  tm_at "w"
  refine ih k0 (by simp) H x1 _ _ d1 (wk.get (i := 0) rfl) ?_
  intro km H1 nk
  tm_at "w"
  refine ⟨by show 1 ≤ sizeLine; decide, fun w hw => ?_⟩
  tm_at "w"
  refine vMake ?_
  tm_at "w"
  refine vIxT (Cw.Same.tup (nk.same.trans (same_upd hw)) hT) (v := .int t) rfl ?_
  tm_at "w"
  intro x dx hx hdx hne
  refine i_Alike (nd := nd) (xa := x) upd_same ?_
  intro H' cl f hcl h1 h2
  have L : NewL K B nd [k0] H (L2.upd H1 w (.lst [.ref km.a])) [km] := nk.one.up (same_upd hw)
  have wx : w ≠ x := ne_of_none upd_same hx
  obtain ⟨c1, c2, c3⟩ := mk_none hcl
  have wc : w ≠ cl := ne_of_none upd_same c1
  have wk : w ∉ MT.adrs [km] := fun z => by
    obtain ⟨o, ho⟩ := MkAll.there _ nk.one.at_ w z
    rw [hw] at ho; cases ho
  exact ⟨rfl, q (.mk (.alike t) x dx cl w x [] [km]) H' (new_mk L (ne_none nk.same hw) wk wx wc (mk_same hx hdx f _ _ upd_same) hx hdx f hcl h1 h2 (by simp [xadr]) (by simp [xadr]) ⟨⟨km, rfl⟩, rfl, ht0⟩)⟩
theorem NewL.updD {ss : List Sh} {H H' : Hp} {mts : List MT} {D : Addr} {o : HO} (h : NewL K B nd ss H H' mts) (hD : H D = none) (hm : D ∉ MT.adrs mts) : NewL K B nd ss H (L2.upd H' D o) mts :=
  ⟨Same.mut h.same hD, MkAll.mono mts (fun b hb o ho => by rw [upd_ne (fun e => hm (by rw [← e]; exact hb))]; exact ho) h.at_, h.sh_, h.nod, h.fresh⟩
theorem NewM.not {s : Sh} {H H' : Hp} {mt : MT} {D : Addr} {o : HO} (h : NewM K B nd s H H' mt) (hD : H D = some o) : D ∉ mt.adr := fun z => by
  rw [h.fresh _ z] at hD; cases hD
theorem mk_Row {ks : List Sh} (ih : ∀ s ∈ ks, Makes K B nd (m + 2) s) : Makes K B nd (m + 3) (.nd .row ks) := by
  intro H v Q E hd wf q
  unfold shD at hd
  unfold WfS at wf
  obtain ⟨hkl, wk⟩ : ks.length ≤ 1000 ∧ WfL B ks := wf
  obtain ⟨p, x0, x1, rfl, hT, d0, d1⟩ := Dp.t2 hd
  rw [Dp.str_inv d0] at hT
  obtain ⟨p1, xs, rfl, hT1, dA⟩ := Dp.tup_inv d1
  have hxl : xs.length = ks.length := by rw [DpAll.len dA, shDs_map, List.length_map]
  refine ⟨rfl, ?_⟩
  show t_maker_of K (W K (m + 2)) _ _ _
  unfold t_maker_of
  tm_at "w"
  refine vIxT hT (v := .str "row") rfl ?_
  tm_at "w"
  refine vMake ?_
  tm_at "w"
  refine vLc ?_
  tm_at "w"
  refine vIxT hT (v := .ref p1) rfl ?_
  refine wAnyT hT1 ?_
  intro D hD
  refine lc_tup (xs := xs) (fun i H' => ∃ mts, NewL K B nd (ks.take i) H H' mts ∧ H' D = some (.lst (mts.map fun m => V.ref m.a)) ∧ D ∉ MT.adrs mts ∧ mts.length = i)
    ⟨[], NewL.nil.up (same_upd hD), upd_same, by simp [MT.adrs], rfl⟩ ?_ ?_ ?_
  · rintro i H' hi ⟨mts, L, _⟩
    exact Cw.Same.tup L.same hT1
  · rintro i x H' hx ⟨mts, L, hF, hDm, hml⟩
    obtain ⟨d, hd1, hd2⟩ := DpAll.get dA hx
    rw [shDs_map, List.getElem?_map] at hd1
    cases hk : ks[i]? with
    | none => rw [hk] at hd1; cases hd1
    | some s =>
    rw [hk] at hd1
    have e := Option.some.inj hd1
    subst e
    refine sName ⟨rfl, ?_⟩
    refine vYes ?_
    refine iT rfl ?_
    tm_at "w"
    refine ih s (List.mem_of_getElem? hk) H' x _ _ (Dp.mono L.same hd2) (wk.get hk) ?_
    intro mt H2 nm
    have hDm2 : D ∉ MT.adrs (mts ++ [mt]) := by
      rw [adrs_app]
      intro z
      rcases List.mem_append.mp z with z | z
      · exact hDm z
      · exact nm.not hF z
    refine ⟨_, nm.same _ _ hF, by rw [List.length_map, hml]; have := sizeLine_eq; have := (List.getElem?_eq_some_iff.mp hk).1; omega, mts ++ [mt], ?_, by rw [upd_same, List.map_append]; rfl, hDm2, by simp [hml]⟩
    rw [List.take_succ, hk]
    exact (L.snoc nm).updD hD hDm2
  · rintro H2 ⟨mts, L, hF, hDm, hml⟩
    rw [hxl, List.take_length] at L
    tm_at "w"
    intro x dx hx hdx hne
    have wx : D ≠ x := ne_of_none hF hx
    have wdx : D ≠ dx := ne_of_none hF hdx
    refine i_Row (nd := nd) upd_same (xs := mts.map fun m => V.ref m.a) (by rw [upd_ne wx, upd_ne wdx]; exact hF) wx (by rw [List.length_map]; omega) ?_
    intro H' cl xa rl f hcl hxa hcx hr hrn hrl g1 h1 h2
    obtain ⟨c1, c2, c3⟩ := mk_none hcl
    obtain ⟨y1, y2, y3⟩ := mk_none hxa
    have nk : ∀ b, H2 b = none → H b = none ∧ b ∉ MT.adrs mts ∧ b ≠ D := by
      intro b hb
      refine ⟨ne_none L.same hb, fun z => ?_, Ne.symm (ne_of_none hF hb)⟩
      obtain ⟨o, ho⟩ := MkAll.there _ L.at_ b z
      rw [hb] at ho; cases ho
    refine ⟨rfl, q (.mk .row x dx cl D xa rl mts) H' (new_mk L hD hDm wx (ne_of_none hF c1) (f _ _ (by simpa using wx) (by rw [upd_ne wx, upd_ne wdx]; exact hF)) hx hdx f hcl h1 h2 ?_ ?_ ?_)⟩
    · intro b hb
      rcases List.mem_append.mp hb with hb | hb
      · have e : b = xa := by simpa [xadr] using hb
        subst e
        obtain ⟨z1, z2, z3⟩ := nk _ y1
        exact ⟨z1, z2, z3, y2, Ne.symm hcx⟩
      · obtain ⟨r1, r2, r3, r4⟩ := hr b hb
        obtain ⟨s1, s2, s3⟩ := mk_none r1
        obtain ⟨z1, z2, z3⟩ := nk _ s1
        exact ⟨z1, z2, z3, s2, r2⟩
    · refine List.nodup_append.mpr ⟨by simp [xadr], hrn, fun b hb c hc e => ?_⟩
      have e2 : b = xa := by simpa [xadr] using hb
      exact (hr c hc).2.2.1 (by rw [← e, e2])
    · rw [List.length_map] at hrl
      exact ⟨g1, hrl, by omega, fun j r hj => (hr r (List.mem_of_getElem? hj)).2.2.2⟩
theorem pairs_get : ∀ {ms : List Str} {ks : List Sh} {i : Nat} {d : DT}, (pairs ms (shDs ks))[i]? = some d → ∃ m s, ms[i]? = some m ∧ ks[i]? = some s ∧ d = .tuple [.str m, shD s]
  | [], ks, i, d, h => by unfold pairs at h; simp at h
  | m :: ms, [], i, d, h => by unfold shDs pairs at h; simp at h
  | m :: ms, s :: ss, 0, d, h => by
    unfold shDs pairs at h
    exact ⟨m, s, rfl, rfl, by simpa using h.symm⟩
  | m :: ms, s :: ss, i + 1, d, h => by
    unfold shDs pairs at h
    obtain ⟨m', s', h1, h2, h3⟩ := pairs_get (ms := ms) (ks := ss) (i := i) (by simpa using h)
    exact ⟨m', s', by simpa using h1, by simpa using h2, h3⟩
theorem pairs_len : ∀ {ms : List Str} {ks : List Sh}, ms.length = ks.length → (pairs ms (shDs ks)).length = ks.length
  | [], [], h => by unfold shDs pairs; rfl
  | m :: ms, s :: ss, h => by
    unfold shDs pairs
    rw [List.length_cons, List.length_cons, pairs_len (by simpa using h)]
theorem mk_Pick {ms : List Str} {ks : List Sh} (ih : ∀ s ∈ ks, Makes K B nd (m + 2) s) : Makes K B nd (m + 3) (.nd (.pick ms) ks) := by
  intro H v Q E hd wf q
  unfold shD at hd
  unfold WfS at wf
  obtain ⟨⟨hmk, hkl⟩, wk⟩ : (ms.length = ks.length ∧ ks.length ≤ 1000) ∧ WfL B ks := wf
  obtain ⟨p, x0, x1, rfl, hT, d0, d1⟩ := Dp.t2 hd
  rw [Dp.str_inv d0] at hT
  obtain ⟨p1, xs, rfl, hT1, dA⟩ := Dp.tup_inv d1
  have hxl : xs.length = ks.length := by rw [DpAll.len dA, pairs_len hmk]
  refine ⟨rfl, ?_⟩
  show t_maker_of K (W K (m + 2)) _ _ _
  unfold t_maker_of
  tm_at "w"
  refine vIxT hT (v := .str "pick") rfl ?_
  tm_at "w"
  refine vLc ?_
  tm_at "w"
  refine vIxT hT (v := .ref p1) rfl ?_
  refine wAnyT hT1 ?_
  intro D hD
  refine lc_tup (xs := xs) (fun i H' => ∃ mts, NewL K B nd (ks.take i) H H' mts ∧ H' D = some (.lst (mts.map fun m => V.ref m.a)) ∧ D ∉ MT.adrs mts ∧ mts.length = i)
    ⟨[], NewL.nil.up (same_upd hD), upd_same, by simp [MT.adrs], rfl⟩ ?_ ?_ ?_
  · rintro i H' hi ⟨mts, L, _⟩
    exact Cw.Same.tup L.same hT1
  · rintro i x H' hx ⟨mts, L, hF, hDm, hml⟩
    obtain ⟨d, hd1, hd2⟩ := DpAll.get dA hx
    obtain ⟨mk, s, e1, hk, rfl⟩ := pairs_get hd1
    obtain ⟨pb, b0, b1, rfl, hTb, db0, db1⟩ := Dp.t2 hd2
    refine sName ⟨rfl, ?_⟩
    refine vYes ?_
    refine iT rfl ?_
    tm_at "w"
    refine vIxT (Cw.Same.tup L.same hTb) (v := b1) rfl ?_
    tm_at "w"
    refine ih s (List.mem_of_getElem? hk) H' b1 _ _ (Dp.mono L.same db1) (wk.get hk) ?_
    intro mt H2 nm
    have hDm2 : D ∉ MT.adrs (mts ++ [mt]) := by
      rw [adrs_app]
      intro z
      rcases List.mem_append.mp z with z | z
      · exact hDm z
      · exact nm.not hF z
    refine ⟨_, nm.same _ _ hF, by rw [List.length_map, hml]; have := sizeLine_eq; have := (List.getElem?_eq_some_iff.mp hk).1; omega, mts ++ [mt], ?_, by rw [upd_same, List.map_append]; rfl, hDm2, by simp [hml]⟩
    rw [List.take_succ, hk]
    exact (L.snoc nm).updD hD hDm2
  · rintro H2 ⟨mts, L, hF, hDm, hml⟩
    rw [hxl, List.take_length] at L
    tm_at "w"
    refine vMake ?_
    tm_at "w"
    refine vLc ?_
    tm_at "w"
    refine vIxT (Cw.Same.tup L.same hT) (v := .ref p1) rfl ?_
    refine wAnyT (Cw.Same.tup L.same hT1) ?_
    intro xa hxa
    refine lc_tup (xs := xs) (fun i H' => Same H2 H' ∧ H' xa = some (.lst ((ms.take i).map V.str))) ⟨same_upd hxa, upd_same⟩ ?_ ?_ ?_
    · rintro i H' hi ⟨hS, _⟩
      exact Cw.Same.tup (L.same.trans hS) hT1
    · rintro i x H' hx ⟨hS, hF3⟩
      obtain ⟨d, hd1, hd2⟩ := DpAll.get dA hx
      obtain ⟨mk, s, e1, hk, rfl⟩ := pairs_get hd1
      obtain ⟨pb, b0, b1, rfl, hTb, db0, db1⟩ := Dp.t2 hd2
      rw [Dp.str_inv db0] at hTb
      refine sName ⟨rfl, ?_⟩
      refine vYes ?_
      refine iT rfl ?_
      tm_at "w"
      refine vIxT (Cw.Same.tup (L.same.trans hS) hTb) (v := .str mk) rfl ?_
      refine ⟨_, hF3, by rw [List.length_map, List.length_take]; have := sizeLine_eq; omega, Same.mut hS hxa, ?_⟩
      rw [upd_same, List.take_succ, e1, List.map_append]
      rfl
    · rintro H3 ⟨hS, hF3⟩
      rw [hxl, ← hmk, List.take_length] at hF3
      tm_at "w"
      intro x dx hx hdx hne
      have L3 := L.up hS
      have hFD := hS _ _ hF
      have wx : D ≠ x := ne_of_none hFD hx
      have wdx : D ≠ dx := ne_of_none hFD hdx
      have xx : xa ≠ x := ne_of_none hF3 hx
      have xdx : xa ≠ dx := ne_of_none hF3 hdx
      refine i_Pick (nd := nd) (ms := ms) upd_same ?_
      intro H' cl f hcl h1 h2
      obtain ⟨c1, c2, c3⟩ := mk_none hcl
      refine ⟨rfl, q (.mk (.pick ms) x dx cl D xa [] mts) H' (new_mk L3 hD hDm wx (ne_of_none hFD c1) (f _ _ (by simpa using wx) (by rw [upd_ne wx, upd_ne wdx]; exact hFD)) hx hdx f hcl h1 h2 ?_ (by simp [xadr]) ?_)⟩
      · intro b hb
        have e : b = xa := by simpa [xadr] using hb
        subst e
        refine ⟨ne_none L.same hxa, fun z => ?_, Ne.symm (ne_of_none hF hxa), xx, ne_of_none hF3 c1⟩
        obtain ⟨o, ho⟩ := MkAll.there _ L.at_ _ z
        rw [hxa] at ho; cases ho
      · exact ⟨f _ _ (by simpa using xx) (by rw [upd_ne xx, upd_ne xdx]; exact hF3), by omega, by omega, rfl⟩
theorem makes_all : ∀ (m : Nat) (sh : Sh), sh.ht + 2 ≤ m → Makes K B nd m sh := by
  intro m
  induction m with
  | zero => intro sh h; omega
  | succ m ih =>
    intro sh h
    cases sh with
    | nd k ks =>
      have hht : (Sh.nd k ks).ht = Sh.hts ks + 1 := by unfold Sh.ht; rfl
      rw [hht] at h
      obtain ⟨j, rfl⟩ : ∃ j, m = j + 2 := ⟨m - 2, by omega⟩
      have kid : ∀ s ∈ ks, Makes K B nd (j + 2) s := by
        intro s hs
        obtain ⟨i, hi⟩ := List.mem_iff_getElem?.mp hs
        have := ht_get hi
        exact ih s (by omega)
      cases k with
      | whole lo hi => exact mk_Whole
      | text s => exact mk_Text
      | row => exact mk_Row kid
      | pick ms => exact mk_Pick kid
      | use x => exact mk_Use
      | many => exact mk_Many kid
      | alike t => exact mk_Alike kid
      | rising =>
        intro H v Q E hd wf q
        unfold WfS at wf
        exact wf.1.elim
      | unlike =>
        intro H v Q E hd wf q
        unfold WfS at wf
        exact wf.1.elim
end
end Pk
set_option Elab.async false
set_option linter.all false
set_option maxRecDepth 100000
set_option maxHeartbeats 4000000
/-! Con5: the tables of a book and a shape; all values. -/
namespace Pk
open PySem PySem.Spec PyProof.Rows L2 Cw
local macro_rules | `(tactic| tm_at "h") => `(tactic| first
  | assumption
  | exact upd_same
  | ((with_reducible refine' upd_old ?h1 ?h2); (case h1 => assumption); (case h2 => tm_at "h"))
  | ((with_reducible refine' upd_oth ?h1 ?h2); (case h1 => first | assumption | (exact Ne.symm (by assumption)) | (exact ne_of_none (by assumption) (by assumption)) | (exact Ne.symm (ne_of_none (by assumption) (by assumption)))); (case h2 => tm_at "h"))
  | ((refine' Same.at (by assumption) ?h3); (case h3 => tm_at "h")))
local macro_rules | `(tactic| tm_at "l") => `(tactic| first
  | assumption
  | exact SqL.of (by tm_at "h")
  | exact SqT.of (by tm_at "h")
  | exact Same.seq (by assumption) (by tm_at "l")
  | exact Cw.Same.tup (by assumption) (by tm_at "l"))
local macro_rules | `(tactic| tm_at "b") => `(tactic| first
  | rfl
  | decide
  | exact decide_eq_true (by first | assumption | rfl | omega)
  | exact decide_eq_false (by first | assumption | omega))
local macro_rules | `(tactic| tm_at "w1") => `(tactic| first
  | ((with_reducible refine' vVar ?h1 ?_); (case h1 => rfl))
  | with_reducible refine' sSeq ?_
  | with_reducible refine' sAsg ?_
  | with_reducible refine' sName ?_
  | with_reducible refine' vOp ?_
  | with_reducible refine' vC ?_
  | with_reducible refine' vCons ?_
  | with_reducible refine' vNil ?_
  | with_reducible refine' vCB ?_
  | with_reducible refine' vFldE ?_
  | with_reducible refine' vAddI ?_
  | with_reducible refine' vSub ?_
  | with_reducible refine' vCmp ?_
  | with_reducible refine' vEqI ?_
  | with_reducible refine' vEqS ?_
  | with_reducible refine' vNeI ?_
  | with_reducible refine' sIf ?_
  | with_reducible refine' vTest ?_
  | with_reducible refine' vTB ?_
  | with_reducible refine' vBl ?_
  | with_reducible refine' sRet ?_
  | with_reducible refine' sDrop ?_
  | with_reducible refine' sNext ?_
  | ((with_reducible refine' iT ?h1 ?_); (case h1 => tm_at "b"))
  | ((with_reducible refine' iN ?h1 ?_); (case h1 => tm_at "b"))
  | with_reducible refine' vMethE ?_
  | with_reducible refine' vCall ?_
  | with_reducible refine' vAnd ?_
  | with_reducible refine' vOr ?_
  | with_reducible refine' vNot ?_
  | with_reducible refine' vAndV ?_
  | with_reducible refine' vOrV ?_
  | with_reducible refine' vNotV ?_
  | with_reducible refine' vIfE ?_
  | with_reducible refine' vTup ?_
  | with_reducible refine' vLst ?_
  | with_reducible refine' vBM ?_
  | with_reducible refine' vBM0 ?_
  | with_reducible refine' vMax2 ?_
  | with_reducible refine' vMin2 ?_
  | with_reducible refine' vInt ?_
  | with_reducible refine' vIntB ?_
  | with_reducible refine' vUn ?_
  | with_reducible refine' vNeg ?_
  | ((with_reducible refine' sAug ?h1 ?_); (case h1 => rfl))
  | with_reducible refine' sIAdd ?_
  | with_reducible refine' sISub ?_
  | with_reducible refine' sStoE ?_
  | ((with_reducible refine' vFld ?h1 ?h2 ?_); (case h1 => tm_at "h"); (case h2 => rfl))
  | ((with_reducible refine' sSto ?h1 ?h2 ?_); (case h1 => tm_at "h"); (case h2 => first | (show 0 < 1000; decide) | (show 1 < 1000; decide) | (show 2 < 1000; decide) | (show 3 < 1000; decide) | (show 4 < 1000; decide) | (show 5 < 1000; decide)))
  | ((with_reducible refine' vLenL ?h1 ?_); (case h1 => tm_at "l"))
  | ((with_reducible refine' vLenT ?h1 ?_); (case h1 => tm_at "l"))
  | with_reducible refine' vSl ?_
  | with_reducible refine' vPart ?_
  | with_reducible refine' vPartI ?_
  | with_reducible refine' vNoPart ?_
  | with_reducible refine' sCons ?_
  | with_reducible refine' sNil ?_
  | with_reducible refine' wAnyE ?_
  | with_reducible refine' wRng1 ?_
  | with_reducible refine' wRng3 ?_
  | with_reducible refine' vRevE ?_
  | with_reducible refine' wEnum ?_
  | with_reducible refine' vDGet ?_
  | with_reducible refine' wRng2 ?_
  | with_reducible refine' wRng1I ?_
  | with_reducible refine' wRng2I ?_
  | with_reducible refine' sFor ?_
  | ((with_reducible refine' sTup ?h1 ?h2 ?_); (case h1 => tm_at "l"); (case h2 => rfl))
  | ((with_reducible refine' vTyL ?h1 ?_); (case h1 => tm_at "h"))
  | ((refine' vMod ?h1 ?_); (case h1 => (show (0 : Int) < _; omega)))
  | fail "stuck")
local macro_rules | `(tactic| tm_at "w") => `(tactic| repeat tm_at "w1")
def bkD (B : Book) : DT := .list (B.map fun p => .tuple [.str p.1, shD p.2])
def dK (nms : List (Str × MT)) : HO := .dK (nms.map fun p => ((Sum.inr p.1 : Key), V.ref p.2.a))
theorem val_names {nms : List (Str × MT)} {x : Str} (h : x ∉ nms.map (·.1)) : valV (nms.map fun p => ((Sum.inr p.1 : Key), V.ref p.2.a)) (Sum.inr x : Key) = none := by
  induction nms with
  | nil => rfl
  | cons p ps ih =>
    rw [List.map_cons] at h ⊢
    simp only [List.mem_cons, not_or] at h
    rw [valV_neg (fun e => h.1 (Sum.inr.inj e).symm)]
    exact ih h.2
/-- a book and a shape that the tables take -/
structure BkOk (B : Book) (sh : Sh) (N hb : Nat) : Prop where
  nod : (B.map (·.1)).Nodup
  wfb : ∀ p ∈ B, WfS B p.2
  wfs : WfS B sh
  smb : ∀ p ∈ B, SmS B N p.2
  sms : SmS B N sh
  htb : ∀ p ∈ B, p.2.ht ≤ hb
  hts : sh.ht ≤ hb
  hN : N ≤ 1000
  hl : B.length ≤ 1000
/-- all but objects of classes stays -/
def Ins (H H' : Hp) : Prop := ∀ (a : Addr) (o : HO), (∀ c d f, o ≠ .ins c d f) → H a = some o → H' a = some o
theorem Ins.upd {H : Hp} {x c d : Addr} {f : List (Str × V)} {o : HO} (h : H x = some (.ins c d f)) : Ins H (L2.upd H x o) := fun a u hu e => by
  rw [upd_ne (fun z => by subst z; rw [h] at e; exact hu c d f (Option.some.inj e).symm)]; exact e
theorem Ins.sqL {K : PySem.W.Frag} {H H' : Hp} {a : Addr} {xs : List V} (e : Ins H H') (h : SqL K H a xs) : SqL K H' a xs := by
  rcases h with (h | ⟨o, h⟩) | h
  · exact .inl (.inl (e _ _ (by intro c d f z; cases z) h))
  · exact .inl (.inr ⟨o, e _ _ (by intro c d f z; cases z) h⟩)
  · exact .inr h
theorem Ins.sqT {K : PySem.W.Frag} {H H' : Hp} {a : Addr} {xs : List V} (e : Ins H H') (h : SqT K H a xs) : SqT K H' a xs := by
  rcases h with (h | ⟨o, h⟩) | h
  · exact .inl (.inl (e _ _ (by intro c d f z; cases z) h))
  · exact .inl (.inr ⟨o, e _ _ (by intro c d f z; cases z) h⟩)
  · exact .inr h
mutual
theorem Dp.ins {K : PySem.W.Frag} {H H' : Hp} (e : Ins H H') : ∀ {v : V} {d : DT}, Dp K H v d → Dp K H' v d
  | _, _, .non => .non
  | _, _, .bl b => .bl b
  | _, _, .int i => .int i
  | _, _, .str x => .str x
  | _, _, .tup h q => .tup (e.sqT h) (DpAll.ins e q)
  | _, _, .lst h q => .lst (e.sqL h) (DpAll.ins e q)
theorem DpAll.ins {K : PySem.W.Frag} {H H' : Hp} (e : Ins H H') : ∀ {vs : List V} {ds : List DT}, DpAll K H vs ds → DpAll K H' vs ds
  | _, _, .nil => .nil
  | _, _, .cons h q => .cons (Dp.ins e h) (DpAll.ins e q)
end
section
variable {K : PySem.W.Frag} {B : Book} {n N m hb : Nat} {H : Hp} {Q : VK} {E : XK} {tb nd dx : Addr} {nms : List (Str × MT)} {bv sv : V} {sh : Sh}
theorem w_Tables_init (ok : BkOk B sh N hb) (hm : hb + 3 ≤ m) (hx : H tb = some (.ins (ca K .Tables) dx [])) (hB : Dp K H bv (bkD B)) (hS : Dp K H sv (shD sh))
    (q : ∀ H' nd nms top, Fr [tb] H H' → bk nms = B → top.sh = sh → TabS tb nd nms top N hb → Tab K H' tb nd nms top 0 → H nd = none → (∀ b ∈ MT.adrs (allM nms top), H b = none) → Q .non H') :
    W K m .Tables___init__ [.ref tb, bv, sv] H Q E := by
  obtain ⟨m, rfl⟩ : ∃ j, m = j + 1 := ⟨m - 1, by omega⟩
  obtain ⟨p0, xs, rfl, hT, dA⟩ := Dp.lst_inv hB
  have hxl : xs.length = B.length := by rw [DpAll.len dA, List.length_map]
  refine ⟨rfl, ?_⟩
  show t_Tables___init__ K (W K m) _ _ _
  unfold t_Tables___init__
  tm_at "w"
  intro nd hnd
  have ntb : tb ≠ nd := ne_of_none hx hnd
  refine vVar rfl ?_
  refine sSto (upd_old hnd hx) (by show 0 < 1000; decide) ?_
  -- the base heap
  obtain ⟨Hb, hHb⟩ : ∃ Hb : Hp, Hb = L2.upd H tb (.ins (ca K .Tables) dx [("named", .ref nd)]) := ⟨_, rfl⟩
  have bnd : Hb nd = none := by rw [hHb, upd_ne (Ne.symm ntb)]; exact hnd
  have btb : Hb tb = some (.ins (ca K .Tables) dx [("named", .ref nd)]) := by rw [hHb, upd_same]
  have bno : ∀ b, Hb b = none → H b = none ∧ b ≠ tb := by
    intro b h
    have h1 : b ≠ tb := fun e => by rw [e, btb] at h; cases h
    rw [hHb, upd_ne h1] at h
    exact ⟨h, h1⟩
  have bH : ∀ b o, b ≠ tb → H b = some o → Hb b = some o := by
    intro b o h1 h
    rw [hHb, upd_ne h1]; exact h
  have eI : Ins H Hb := by rw [hHb]; exact Ins.upd hx
  have sT : SqL K Hb p0 xs := eI.sqL hT
  have dA' : DpAll K Hb xs _ := DpAll.ins eI dA
  have dS' : Dp K Hb sv (shD sh) := Dp.ins eI hS
  have s0 : Same Hb (L2.upd (L2.upd H nd (.dK [])) tb (.ins (ca K .Tables) dx (putF "named" (.ref nd) []))) := by
    intro b o h
    by_cases e : b = tb
    · subst e
      rw [btb] at h
      rw [upd_same]; exact h
    · have e2 : b ≠ nd := ne_of_none h bnd
      rw [upd_ne e, upd_ne e2]
      rw [hHb, upd_ne e] at h; exact h
  dsimp only
  refine sSeq ?_
  refine sFor ?_
  refine wAnyE ?_
  refine vVar rfl ?_
  refine wAnyL (Same.seq s0 sT) ?_
  refine for_list (xs := xs) (fun i σ H' => ∃ (nms : List (Str × MT)) (x3 x4 : Option V), bk nms = B.take i ∧ NewL K B nd ((B.take i).map (·.2)) Hb H' (nms.map (·.2)) ∧ H' nd = some (dK nms) ∧ nd ∉ MT.adrs (nms.map (·.2)) ∧ σ = [some (.ref tb), some (.ref p0), some sv, x3, x4])
    ⟨[], none, none, rfl, NewL.nil.up s0, by rw [upd_ne (Ne.symm ntb), upd_same]; rfl, by simp [MT.adrs], rfl⟩ ?_ ?_ ?_
  · rintro i σ H' hi ⟨nms, x3, x4, _, L, _⟩
    exact Same.seq L.same sT
  · rintro i x σ H' hx ⟨nms, x3, x4, hbk, L, hd, hdn, rfl⟩
    obtain ⟨d, hd1, hd2⟩ := DpAll.get dA' hx
    rw [List.getElem?_map] at hd1
    cases hk : B[i]? with
    | none => rw [hk] at hd1; cases hd1
    | some p =>
    rw [hk] at hd1
    have e := Option.some.inj hd1
    subst e
    have hil := (List.getElem?_eq_some_iff.mp hk).1
    have hpm : p ∈ B := List.mem_of_getElem? hk
    obtain ⟨pb, b0, b1, rfl, hTb, db0, db1⟩ := Dp.t2 hd2
    rw [Dp.str_inv db0] at hTb
    refine sTup (Cw.Same.tup L.same hTb) rfl ?_
    refine sCons ?_
    refine sName ?_
    refine sCons ?_
    refine sName ?_
    refine sNil ?_
    have htb : H' tb = some (.ins (ca K .Tables) dx [("named", .ref nd)]) := L.same _ _ btb
    refine vCall ?_
    refine vCons ?_
    refine vVar rfl ?_
    refine vCons ?_
    refine vFldE ?_
    refine vVar rfl ?_
    refine vFld htb rfl ?_
    refine vNil ?_
    refine makes_all m p.2 (by have := ok.htb _ hpm; omega) H' b1 _ _ (Dp.mono L.same db1) (ok.wfb _ hpm) ?_
    intro mt H2 nm
    have hd2' := nm.same _ _ hd
    refine vFldE ?_
    refine vVar rfl ?_
    refine vFld (nm.same _ _ htb) rfl ?_
    refine vVar rfl ?_
    have hnl : nms.length = i := by
      have h := congrArg List.length hbk
      unfold bk at h
      rw [List.length_map, List.length_take] at h
      omega
    have hnotin : p.1 ∉ nms.map (·.1) := by
      have h1 : nms.map (·.1) = (B.take i).map (·.1) := by
        rw [← hbk]; unfold bk; rw [List.map_map]; rfl
      rw [h1]
      intro z
      obtain ⟨q0, hq0, e0⟩ := List.mem_map.mp z
      obtain ⟨j, hj⟩ := List.mem_iff_getElem?.mp hq0
      have hj2 : j < i := by
        have := (List.getElem?_eq_some_iff.mp hj).1
        rw [List.length_take] at this; omega
      rw [List.getElem?_take, if_pos hj2] at hj
      have a1 : (B.map (·.1))[j]? = some p.1 := by rw [List.getElem?_map, hj]; show some q0.1 = _; rw [e0]
      have a2 : (B.map (·.1))[i]? = some p.1 := by rw [List.getElem?_map, hk]; rfl
      have hjl : j < (B.map (·.1)).length := by rw [List.length_map]; omega
      have := (List.getElem?_inj hjl ok.nod).mp (a1.trans a2.symm)
      omega
    refine ⟨nd, _, rfl, .inl ⟨_, (Sum.inr p.1 : Key), hd2', rfl, by rw [List.length_map, hnl]; have := sizeLine_eq; have := ok.hl; omega, rfl⟩, ?_⟩
    rw [putK_new _ (val_names hnotin)]
    have hdn2 : nd ∉ MT.adrs ((nms ++ [(p.1, mt)]).map (·.2)) := by
      rw [List.map_append]
      show nd ∉ MT.adrs (nms.map (·.2) ++ [mt])
      rw [adrs_app]
      intro z
      rcases List.mem_append.mp z with z | z
      · exact hdn z
      · exact nm.not hd z
    have htk : B.take (i + 1) = B.take i ++ [p] := by rw [List.take_succ, hk]; rfl
    refine ⟨nms ++ [(p.1, mt)], _, _, ?_, ?_, ?_, hdn2, rfl⟩
    · rw [htk, ← hbk]
      unfold bk
      rw [List.map_append]
      show _ ++ [(p.1, mt.sh)] = _
      rw [nm.sh_]
    · rw [htk, List.map_append]
      have h := (L.snoc nm).updD (o := dK (nms ++ [(p.1, mt)])) bnd (by
        have h2 := hdn2
        rw [List.map_append] at h2
        exact h2)
      rw [List.map_append]
      have e2 : dK (nms ++ [(p.1, mt)]) = .dK ((nms.map fun p => ((Sum.inr p.1 : Key), V.ref p.2.a)) ++ [((Sum.inr p.1 : Key), V.ref mt.a)]) := by
        unfold dK; rw [List.map_append]; rfl
      rw [e2] at h
      exact h
    · rw [upd_same]
      unfold dK; rw [List.map_append]; rfl
  · rintro σ H' ⟨nms, x3, x4, hbk, L, hd, hdn, rfl⟩
    rw [hxl, List.take_length] at hbk L
    have htb : H' tb = some (.ins (ca K .Tables) dx [("named", .ref nd)]) := L.same _ _ btb
    dsimp only
    refine sStoE ?_
    refine vCall ?_
    refine vCons ?_
    refine vVar rfl ?_
    refine vCons ?_
    refine vFldE ?_
    refine vVar rfl ?_
    refine vFld htb rfl ?_
    refine vNil ?_
    refine makes_all m sh (by have := ok.hts; omega) H' sv _ _ (Dp.mono L.same dS') ok.wfs ?_
    intro top H2 nm
    refine vVar rfl ?_
    refine sSto (nm.same _ _ htb) (by show 1 < 1000; decide) ?_
    have L2' := L.snoc nm
    have tbk : tb ∉ MT.adrs (nms.map (·.2) ++ [top]) := fun z => by rw [L2'.fresh _ z] at btb; cases btb
    have adr_all : ∀ b, b ∈ MT.adrs (allM nms top) ↔ b ∈ MT.adrs (nms.map (·.2) ++ [top]) := by
      intro b
      unfold allM
      rw [adrs_app]
      show b ∈ top.adr ++ MT.adrs (nms.map (·.2)) ↔ _
      rw [List.mem_append, List.mem_append]
      exact Or.comm
    have mem_all : ∀ mt, mt ∈ allM nms top → mt ∈ nms.map (·.2) ++ [top] := by
      intro mt h
      unfold allM at h
      rcases List.mem_cons.mp h with h | h
      · exact List.mem_append_right _ (by rw [h]; simp)
      · exact List.mem_append_left _ h
    have hsh : ∀ mt ∈ allM nms top, mt.sh = sh ∨ ∃ p ∈ B, mt.sh = p.2 := by
      intro mt h
      rcases List.mem_cons.mp h with h | h
      · left; rw [h]; exact nm.sh_
      · right
        obtain ⟨p, hp, rfl⟩ := List.mem_map.mp h
        refine ⟨(p.1, p.2.sh), ?_, rfl⟩
        rw [← hbk]
        exact List.mem_map_of_mem (f := fun p : Str × MT => (p.1, p.2.sh)) hp
    have ndk : nd ∉ MT.adrs (nms.map (·.2) ++ [top]) := by
      rw [adrs_app]
      intro z
      rcases List.mem_append.mp z with z | z
      · exact hdn z
      · exact nm.not hd z
    refine q _ nd nms top ?_ hbk nm.sh_ ⟨?_, fun z => tbk ((adr_all _).mp z), fun z => ndk ((adr_all _).mp z), ntb, ?_, ?_, ok.hN⟩ ⟨⟨dx, ?_⟩, ?_, ?_⟩ hnd ?_
    · intro b o h1 h
      have h1' : b ≠ tb := by simpa using h1
      rw [upd_ne h1']
      exact L2'.same _ _ (bH b o h1' h)
    · have hn := L2'.nod
      rw [adrs_app] at hn
      obtain ⟨n1, n2, n3⟩ := List.nodup_append.mp hn
      unfold allM MT.adrs
      exact List.nodup_append.mpr ⟨n2, n1, fun a ha b hb e => n3 b hb a ha e.symm⟩
    · intro mt h
      rw [hbk]
      rcases hsh mt h with e | ⟨p, hp, e⟩
      · rw [e]; exact ok.sms
      · rw [e]; exact ok.smb p hp
    · intro mt h
      rw [← ht_sh]
      rcases hsh mt h with e | ⟨p, hp, e⟩
      · rw [e]; exact ok.hts
      · rw [e]; exact ok.htb p hp
    · rw [upd_same]; rfl
    · rw [upd_ne (Ne.symm ntb)]; exact nm.same _ _ hd
    · intro mt h
      rw [hbk]
      obtain ⟨j, hj⟩ := List.mem_iff_getElem?.mp (mem_all mt h)
      exact (L2'.at_.get hj).mono mt fun b hb o ho => by
        rw [upd_ne (fun e => tbk (by rw [← e]; exact adrs_mem hj hb))]; exact ho
    · intro b hb
      exact (bno b (L2'.fresh b ((adr_all b).mp hb))).1
end
end Pk
set_option Elab.async false
set_option linter.all false
set_option maxRecDepth 100000
set_option maxHeartbeats 4000000
/-! All: all values. -/
namespace Pk
open PySem PySem.Spec PyProof.Rows L2 Cw
local macro_rules | `(tactic| tm_at "h") => `(tactic| first
  | assumption
  | exact upd_same
  | ((with_reducible refine' upd_old ?h1 ?h2); (case h1 => assumption); (case h2 => tm_at "h"))
  | ((with_reducible refine' upd_oth ?h1 ?h2); (case h1 => first | assumption | (exact Ne.symm (by assumption)) | (exact ne_of_none (by assumption) (by assumption)) | (exact Ne.symm (ne_of_none (by assumption) (by assumption)))); (case h2 => tm_at "h"))
  | ((refine' Same.at (by assumption) ?h3); (case h3 => tm_at "h")))
local macro_rules | `(tactic| tm_at "l") => `(tactic| first
  | assumption
  | exact SqL.of (by tm_at "h")
  | exact SqT.of (by tm_at "h")
  | exact Same.seq (by assumption) (by tm_at "l")
  | exact Cw.Same.tup (by assumption) (by tm_at "l"))
local macro_rules | `(tactic| tm_at "b") => `(tactic| first
  | rfl
  | decide
  | exact decide_eq_true (by first | assumption | rfl | omega)
  | exact decide_eq_false (by first | assumption | omega))
local macro_rules | `(tactic| tm_at "w1") => `(tactic| first
  | ((with_reducible refine' vVar ?h1 ?_); (case h1 => rfl))
  | with_reducible refine' sSeq ?_
  | with_reducible refine' sAsg ?_
  | with_reducible refine' sName ?_
  | with_reducible refine' vOp ?_
  | with_reducible refine' vC ?_
  | with_reducible refine' vCons ?_
  | with_reducible refine' vNil ?_
  | with_reducible refine' vCB ?_
  | with_reducible refine' vFldE ?_
  | with_reducible refine' vAddI ?_
  | with_reducible refine' vSub ?_
  | with_reducible refine' vCmp ?_
  | with_reducible refine' vEqI ?_
  | with_reducible refine' vEqS ?_
  | with_reducible refine' vNeI ?_
  | with_reducible refine' sIf ?_
  | with_reducible refine' vTest ?_
  | with_reducible refine' vTB ?_
  | with_reducible refine' vBl ?_
  | with_reducible refine' sRet ?_
  | with_reducible refine' sDrop ?_
  | with_reducible refine' sNext ?_
  | ((with_reducible refine' iT ?h1 ?_); (case h1 => tm_at "b"))
  | ((with_reducible refine' iN ?h1 ?_); (case h1 => tm_at "b"))
  | with_reducible refine' vMethE ?_
  | with_reducible refine' vCall ?_
  | with_reducible refine' vAnd ?_
  | with_reducible refine' vOr ?_
  | with_reducible refine' vNot ?_
  | with_reducible refine' vAndV ?_
  | with_reducible refine' vOrV ?_
  | with_reducible refine' vNotV ?_
  | with_reducible refine' vIfE ?_
  | with_reducible refine' vTup ?_
  | with_reducible refine' vLst ?_
  | with_reducible refine' vBM ?_
  | with_reducible refine' vBM0 ?_
  | with_reducible refine' vMax2 ?_
  | with_reducible refine' vMin2 ?_
  | with_reducible refine' vInt ?_
  | with_reducible refine' vIntB ?_
  | with_reducible refine' vUn ?_
  | with_reducible refine' vNeg ?_
  | ((with_reducible refine' sAug ?h1 ?_); (case h1 => rfl))
  | with_reducible refine' sIAdd ?_
  | with_reducible refine' sISub ?_
  | with_reducible refine' sStoE ?_
  | ((with_reducible refine' vFld ?h1 ?h2 ?_); (case h1 => tm_at "h"); (case h2 => rfl))
  | ((with_reducible refine' sSto ?h1 ?h2 ?_); (case h1 => tm_at "h"); (case h2 => first | (show 0 < 1000; decide) | (show 1 < 1000; decide) | (show 2 < 1000; decide) | (show 3 < 1000; decide) | (show 4 < 1000; decide) | (show 5 < 1000; decide)))
  | ((with_reducible refine' vLenL ?h1 ?_); (case h1 => tm_at "l"))
  | ((with_reducible refine' vLenT ?h1 ?_); (case h1 => tm_at "l"))
  | with_reducible refine' vSl ?_
  | with_reducible refine' vPart ?_
  | with_reducible refine' vPartI ?_
  | with_reducible refine' vNoPart ?_
  | with_reducible refine' sCons ?_
  | with_reducible refine' sNil ?_
  | with_reducible refine' wAnyE ?_
  | with_reducible refine' wRng1 ?_
  | with_reducible refine' wRng3 ?_
  | with_reducible refine' vRevE ?_
  | with_reducible refine' wEnum ?_
  | with_reducible refine' vDGet ?_
  | with_reducible refine' wRng2 ?_
  | with_reducible refine' wRng1I ?_
  | with_reducible refine' wRng2I ?_
  | with_reducible refine' sFor ?_
  | ((with_reducible refine' sTup ?h1 ?h2 ?_); (case h1 => tm_at "l"); (case h2 => rfl))
  | ((with_reducible refine' vTyL ?h1 ?_); (case h1 => tm_at "h"))
  | ((refine' vMod ?h1 ?_); (case h1 => (show (0 : Int) < _; omega)))
  | fail "stuck")
local macro_rules | `(tactic| tm_at "w") => `(tactic| repeat tm_at "w1")
section
variable {K : PySem.W.Frag} {B : Book} {n N m hb : Nat} {H : Hp} {Q : VK} {E : XK} {tb nd dx : Addr} {nms : List (Str × MT)} {bv sv : V} {sh : Sh} {top : MT}
theorem Tab.same {H' : Hp} (e : Same H H') (T : Tab K H tb nd nms top n) : Tab K H' tb nd nms top n := by
  obtain ⟨⟨dx, h1⟩, h2, h3⟩ := T
  exact ⟨⟨dx, e _ _ h1⟩, e _ _ h2, fun mt hmt => (h3 mt hmt).same e⟩
theorem Tab.nm (S : TabS tb nd nms top N hb) (T : Tab K H tb nd nms top n) (h : n ≤ N) : NmAt K H nd n nms :=
  ⟨T.dict, fun p hp => T.mks _ (List.mem_cons_of_mem _ (List.mem_map_of_mem (f := (·.2)) hp)), fun p hp => smS_le h (S.sm _ (List.mem_cons_of_mem _ (List.mem_map_of_mem (f := (·.2)) hp)))⟩
theorem w_counts_at {size : Nat} (T : Tab K H tb nd nms top n) (hs : size < n) (q : Q (.int (cn (bk nms) top.sh size)) H) : W K (m + 1) .Tables_counts_at [.ref tb, .int size] H Q E := by
  obtain ⟨dx, ho⟩ := T.obj
  have Mt := T.mks top List.mem_cons_self
  refine ⟨rfl, ?_⟩
  show t_Tables_counts_at K (W K m) _ _ _
  unfold t_Tables_counts_at
  tm_at "w"
  refine vCnt Mt ?_
  tm_at "w"
  exact vIxL (SqL.of Mt.cnt) (atI_nat (cts_get hs)) q
theorem w_Tables_told {size num : Nat} {d : DT} (S : TabS tb nd nms top N hb) (T : Tab K H tb nd nms top n) (hn : n ≤ N) (hs : size < n) (hm : size * (hb + 1) + hb + 2 ≤ m) (hd : (val (bk nms) size top.sh)[num]? = some d) (q : NewQ K H d Q) : W K m .Tables_told [.ref tb, .int size, .int num] H Q E := by
  obtain ⟨m, rfl⟩ : ∃ j, m = j + 1 := ⟨m - 1, by omega⟩
  obtain ⟨dx, ho⟩ := T.obj
  have Mt := T.mks top List.mem_cons_self
  have hN := S.hN
  have ht := S.ht _ (List.mem_cons_self (a := top))
  refine ⟨rfl, ?_⟩
  show t_Tables_told K (W K m) _ _ _
  unfold t_Tables_told
  tm_at "w"
  refine vTold Mt ?_
  tm_at "w"
  exact told_all (hb := hb) (N := n) (by omega) (fun p hp => S.ht _ (List.mem_cons_of_mem _ (List.mem_map_of_mem (f := (·.2)) hp))) m top size hs (by omega) H num d _ _ (T.nm S hn) Mt (smS_le hn (S.sm _ List.mem_cons_self)) hd q
/-- a book and a shape stand in the heap -/
theorem w_all_values {size : Nat} {most : Int} (ok : BkOk B sh N hb) (hs : size < N) (hm : size * (hb + 1) + hb + 5 ≤ m) (hB : Dp K H bv (bkD B)) (hS : Dp K H sv (shD sh)) (hc : ((cn B sh size : Nat) : Int) ≤ most) (hcs : cn B sh size ≤ 100000)
    (q : NewQ K H (.list (val B size sh)) Q) : W K m .all_values [bv, sv, .int size, .int most] H Q E := by
  obtain ⟨m, rfl⟩ : ∃ j, m = j + 1 := ⟨m - 1, by omega⟩
  refine ⟨rfl, ?_⟩
  show t_all_values K (W K m) _ _ _
  unfold t_all_values
  tm_at "w"
  refine vMake ?_
  tm_at "w"
  intro tb dx htb hdx hne
  have sI : Same H (L2.upd (L2.upd H dx (.own tb)) tb (.ins (ca K .Tables) dx [])) := mk_same (H' := L2.upd (L2.upd H dx (.own tb)) tb (.ins (ca K .Tables) dx [])) htb hdx (Fr.of (Same.refl _))
  refine w_Tables_init ok (by omega) upd_same (Dp.mono sI hB) (Dp.mono sI hS) ?_
  intro H1 nd nms top f1 hbk htop S T hnd hfr
  subst hbk
  subst htop
  refine ⟨rfl, ?_⟩
  have s1 : Same H H1 := mk_same htb hdx f1
  have hfr0 : ∀ b ∈ MT.adrs (allM nms top), H b = none := fun b hb => (mk_none (hfr b hb)).1
  obtain ⟨dx1, ho1⟩ := T.obj
  tm_at "w"
  refine vMeth ho1 (d := .Tables_grow_to) rfl rfl ?_
  tm_at "w"
  refine w_grow_to S hs T (by omega) ?_
  intro H2 f2 T2
  have en : max 0 (size + 1) = size + 1 := by omega
  rw [en] at T2
  have s2 : Same H H2 := fun b o h => f2 b o (fun z => by rw [hfr0 b z] at h; cases h) (s1 b o h)
  obtain ⟨dx2, ho2⟩ := T2.obj
  tm_at "w"
  refine vMeth ho2 (d := .Tables_counts_at) rfl rfl ?_
  tm_at "w"
  obtain ⟨m, rfl⟩ : ∃ j, m = j + 1 := ⟨m - 1, by omega⟩
  refine w_counts_at T2 (Nat.lt_succ_self _) ?_
  tm_at "w"
  refine vLc ?_
  tm_at "w"
  refine ⟨by omega, by omega, ?_⟩
  intro D hD
  have hD0 : H D = none := ne_none s2 hD
  refine lc_range (fun i H' => ∃ (xs : List V) (L : List Addr), Same H2 H' ∧ H' D = some (.lst xs) ∧ xs.length = i ∧ OwnL K H' xs ((val (bk nms) size top.sh).take i) L ∧ L.Nodup ∧ (∀ b ∈ L, H b = none) ∧ D ∉ L)
    ⟨[], [], same_upd hD, upd_same, rfl, .nil, List.nodup_nil, by simp, by simp⟩ ?_ ?_
  · rintro i H' hi ⟨xs, L, hS', hF, hxl, hO, hLn, hLf, hFL⟩
    rw [Int.toNat_natCast] at hi
    rw [Int.zero_add]
    obtain ⟨x, hx⟩ : ∃ x, (val (bk nms) size top.sh)[i]? = some x := ⟨_, List.getElem?_eq_getElem hi⟩
    have T3 := T2.same hS'
    refine sName ⟨rfl, ?_⟩
    refine vYes ?_
    refine iT rfl ?_
    tm_at "w"
    refine vMeth (hS' _ _ ho2) (d := .Tables_told) rfl rfl ?_
    tm_at "w"
    refine w_Tables_told S T3 (by omega) (Nat.lt_succ_self _) (by omega) hx ?_
    intro v H3 M hS3 hO3 hMn hMf
    have hFM : D ∉ M := by
      intro z
      have h := hMf _ z
      rw [hF] at h
      cases h
    have nf : (L ++ M).Nodup ∧ ∀ b ∈ L ++ M, H b = none := new_both (H := H) (H1 := H') (Same.trans s2 hS') hO hLn hMn hLf hMf
    have hi2 : i < (val (bk nms) size top.sh).length := hi
    have hcl : (val (bk nms) size top.sh).length ≤ 100000 := hcs
    refine ⟨xs, hS3 _ _ hF, by rw [hxl]; have := sizeLine_eq; omega, xs ++ [v], L ++ M, Same.mut (Same.trans hS' hS3) hD, upd_same, by simp [hxl], ?_, nf.1, nf.2, by simp [hFL, hFM]⟩
    rw [List.take_succ, hx]
    exact (OwnL.snoc hO3 (hO.mono hS3)).upd (hS3 _ _ hF) (by simp [hFL, hFM])
  · rintro H' ⟨xs, L, hS', hF, hxl, hO, hLn, hLf, hFL⟩
    rw [Int.toNat_natCast] at hO
    have e : (val (bk nms) size top.sh).take (cn (bk nms) top.sh size) = val (bk nms) size top.sh := List.take_length
    rw [e] at hO
    exact q _ _ (D :: L) (Same.trans s2 hS') (.lst hF hO) (List.nodup_cons.mpr ⟨hFL, hLn⟩) (by
      intro b hb
      rcases List.mem_cons.mp hb with rfl | hb
      · exact hD0
      · exact hLf b hb)
end
end Pk
set_option Elab.async false
set_option linter.all false
set_option maxRecDepth 100000
set_option maxHeartbeats 4000000
/-! Lw1: the law's names and leaves. -/
namespace Pk
open PySem PySem.Spec PyProof.Rows L2 Cw
local macro_rules | `(tactic| tm_at "h") => `(tactic| first
  | assumption
  | exact upd_same
  | ((with_reducible refine' upd_old ?h1 ?h2); (case h1 => assumption); (case h2 => tm_at "h"))
  | ((with_reducible refine' upd_oth ?h1 ?h2); (case h1 => first | assumption | (exact Ne.symm (by assumption)) | (exact ne_of_none (by assumption) (by assumption)) | (exact Ne.symm (ne_of_none (by assumption) (by assumption)))); (case h2 => tm_at "h"))
  | ((refine' Same.at (by assumption) ?h3); (case h3 => tm_at "h")))
local macro_rules | `(tactic| tm_at "l") => `(tactic| first
  | assumption
  | exact SqL.of (by tm_at "h")
  | exact SqT.of (by tm_at "h")
  | exact Same.seq (by assumption) (by tm_at "l")
  | exact Cw.Same.tup (by assumption) (by tm_at "l"))
local macro_rules | `(tactic| tm_at "b") => `(tactic| first
  | rfl
  | decide
  | exact decide_eq_true (by first | assumption | rfl | omega)
  | exact decide_eq_false (by first | assumption | omega))
local macro_rules | `(tactic| tm_at "w1") => `(tactic| first
  | ((with_reducible refine' vVar ?h1 ?_); (case h1 => rfl))
  | with_reducible refine' sSeq ?_
  | with_reducible refine' sAsg ?_
  | with_reducible refine' sName ?_
  | with_reducible refine' vOp ?_
  | with_reducible refine' vC ?_
  | with_reducible refine' vCons ?_
  | with_reducible refine' vNil ?_
  | with_reducible refine' vCB ?_
  | with_reducible refine' vFldE ?_
  | with_reducible refine' vAddI ?_
  | with_reducible refine' vSub ?_
  | with_reducible refine' vCmp ?_
  | with_reducible refine' vEqI ?_
  | with_reducible refine' vEqS ?_
  | with_reducible refine' vNeI ?_
  | with_reducible refine' sIf ?_
  | with_reducible refine' vTest ?_
  | with_reducible refine' vTB ?_
  | with_reducible refine' vBl ?_
  | with_reducible refine' sRet ?_
  | with_reducible refine' sDrop ?_
  | with_reducible refine' sNext ?_
  | ((with_reducible refine' iT ?h1 ?_); (case h1 => tm_at "b"))
  | ((with_reducible refine' iN ?h1 ?_); (case h1 => tm_at "b"))
  | with_reducible refine' vMethE ?_
  | with_reducible refine' vCall ?_
  | with_reducible refine' vAnd ?_
  | with_reducible refine' vOr ?_
  | with_reducible refine' vNot ?_
  | with_reducible refine' vAndV ?_
  | with_reducible refine' vOrV ?_
  | with_reducible refine' vNotV ?_
  | with_reducible refine' vIfE ?_
  | with_reducible refine' vTup ?_
  | with_reducible refine' vLst ?_
  | with_reducible refine' vBM ?_
  | with_reducible refine' vBM0 ?_
  | with_reducible refine' vMax2 ?_
  | with_reducible refine' vMin2 ?_
  | with_reducible refine' vInt ?_
  | with_reducible refine' vIntB ?_
  | with_reducible refine' vUn ?_
  | with_reducible refine' vNeg ?_
  | ((with_reducible refine' sAug ?h1 ?_); (case h1 => rfl))
  | with_reducible refine' sIAdd ?_
  | with_reducible refine' sISub ?_
  | with_reducible refine' sStoE ?_
  | ((with_reducible refine' vFld ?h1 ?h2 ?_); (case h1 => tm_at "h"); (case h2 => rfl))
  | ((with_reducible refine' sSto ?h1 ?h2 ?_); (case h1 => tm_at "h"); (case h2 => first | (show 0 < 1000; decide) | (show 1 < 1000; decide) | (show 2 < 1000; decide) | (show 3 < 1000; decide) | (show 4 < 1000; decide) | (show 5 < 1000; decide)))
  | ((with_reducible refine' vLenL ?h1 ?_); (case h1 => tm_at "l"))
  | ((with_reducible refine' vLenT ?h1 ?_); (case h1 => tm_at "l"))
  | with_reducible refine' vSl ?_
  | with_reducible refine' vPart ?_
  | with_reducible refine' vPartI ?_
  | with_reducible refine' vNoPart ?_
  | with_reducible refine' sCons ?_
  | with_reducible refine' sNil ?_
  | with_reducible refine' wAnyE ?_
  | with_reducible refine' wRng1 ?_
  | with_reducible refine' wRng3 ?_
  | with_reducible refine' vRevE ?_
  | with_reducible refine' wEnum ?_
  | with_reducible refine' vDGet ?_
  | with_reducible refine' wRng2 ?_
  | with_reducible refine' wRng1I ?_
  | with_reducible refine' wRng2I ?_
  | with_reducible refine' sFor ?_
  | ((with_reducible refine' sTup ?h1 ?h2 ?_); (case h1 => tm_at "l"); (case h2 => rfl))
  | ((with_reducible refine' vTyL ?h1 ?_); (case h1 => tm_at "h"))
  | ((refine' vMod ?h1 ?_); (case h1 => (show (0 : Int) < _; omega)))
  | fail "stuck")
local macro_rules | `(tactic| tm_at "w") => `(tactic| repeat tm_at "w1")
theorem Sm.le' {x : Nat} (h : x ≤ 1000000) : Sm x := Nat.lt_of_lt_of_le (by omega : x < 2 ^ 20) (Nat.pow_le_pow_right (by decide) (by decide))
theorem mul_small {i j : Int} (hi : i.natAbs ≤ 1000000) (hj : j.natAbs ≤ 1000000) : CMulX i j ∨ CMul i j :=
  .inl (mulx_ok (a := 20) (b := 20) (Nat.lt_of_le_of_lt hi (by decide)) (Nat.lt_of_le_of_lt hj (by decide)) (by decide))
theorem div_small {i j : Int} (h : 0 < j) (h2 : j ≤ 1000000) : CDivP i j := by
  obtain ⟨y, rfl⟩ : ∃ y : Nat, j = (y : Int) := ⟨j.toNat, by omega⟩
  exact Sm.div (Sm.le' (by omega)) (by omega)
theorem sOk_app {a b : Str} (h : PyData.strOk a = true) (h' : PyData.strOk b = true) : PyData.strOk (a ++ b) = true := by
  unfold PyData.strOk at *
  rw [Str.cps_append]
  rw [Array.all_append, h, h']; rfl
theorem sOk_one {c : Nat} (h : c < 0x110000) : PyData.strOk ⟨#[c]⟩ = true := by
  unfold PyData.strOk
  simp [h]
theorem sOk_iff {s : Str} : PyData.strOk s = true ↔ ∀ c ∈ s.cps.toList, c < 0x110000 := by
  unfold PyData.strOk
  rw [Array.all_eq_true']
  simp
def cellAt (cs : List Int) (k : Nat) : Int := cs.getD k 0
section
variable {K : PySem.W.Frag} {B : Book} {n N m hb : Nat} {H : Hp} {Q : VK} {E : XK}
theorem w_cell_at {cs : List Int} {sa : Addr} {k : Nat} (hS : SqL K H sa (cs.map V.int)) (q : Q (.int (cellAt cs k)) H) : W K (m + 1) ._law_cell_at [.ref sa, .int k] H Q E := by
  refine ⟨rfl, ?_⟩
  show t__law_cell_at K (W K m) _ _ _
  unfold t__law_cell_at
  tm_at "w"
  rw [List.length_map]
  unfold cellAt at q
  refine iD (fun h => ?_) (fun h => ?_)
  · have hk : k < cs.length := by omega
    have e : cs[k]? = some (cs.getD k 0) := by rw [List.getD_eq_getElem?_getD, List.getElem?_eq_getElem hk]; rfl
    tm_at "w"
    exact vIxL hS (atI_nat (by rw [List.getElem?_map, e]; rfl)) q
  · have hk : cs.length ≤ k := by omega
    have e : cs.getD k 0 = 0 := by rw [List.getD_eq_getElem?_getD, List.getElem?_eq_none hk]; rfl
    rw [e] at q
    dsimp only
    tm_at "w"
    exact q
def abc : Str := "abcdefghijklmnopqrstuvwxyz"
theorem abc_get {i : Int} (h0 : 0 ≤ i) (h1 : i < 26) : ∃ c, atI abc.cps.toList i = some c ∧ c < 0x110000 := by
  have h : ∀ j : Fin 26, ∃ c, abc.cps.toList[j.val]? = some c ∧ c < 0x110000 := by
    intro j
    have h2 : ∀ j : Fin 26, (abc.cps.toList[j.val]?.any fun c => decide (c < 0x110000)) = true := by decide
    have h3 := h2 j
    cases e : abc.cps.toList[j.val]? with
    | none => rw [e] at h3; cases h3
    | some c =>
      rw [e] at h3
      exact ⟨c, rfl, of_decide_eq_true h3⟩
  obtain ⟨j, rfl⟩ : ∃ j : Nat, i = (j : Int) := ⟨i.toNat, by omega⟩
  obtain ⟨c, h2, h3⟩ := h ⟨j, by omega⟩
  exact ⟨c, atI_nat h2, h3⟩
theorem w_name {c k : Int} (q : ∀ s : Str, s.length ≤ 8 → PyData.strOk s = true → Q (.str s) H) : W K (m + 1) ._law_name [.int c, .int k] H Q E := by
  refine ⟨rfl, ?_⟩
  show t__law_name K (W K m) _ _ _
  unfold t__law_name
  have m8 := Int.emod_nonneg c (by decide : (8 : Int) ≠ 0)
  have m8' := Int.emod_lt_of_pos c (by decide : (0 : Int) < 8)
  tm_at "w"
  refine vDiv (div_small (by decide) (by decide)) ?_
  tm_at "w"
  refine ⟨by omega, by omega, ?_⟩
  refine for_range (fun i σ H' => H' = H ∧ ∃ (s : Str) (x6 x7 : Option V), s.length = i ∧ PyData.strOk s = true ∧ σ = [some (.int c), some (.int k), some (.str abc), some (.int (1 + c % 8)), some (.int (c / 8 % (1 + c % 8))), some (.str s), x6, x7])
    ⟨rfl, "", none, none, rfl, by decide +kernel, rfl⟩ ?_ ?_
  · rintro i σ H' hi ⟨rfl, s, x6, x7, hs, hok, rfl⟩
    have hi8 : i < 8 := by omega
    tm_at "w"
    refine vMul (mul_small (by decide) (by omega)) ?_
    refine vDiv (div_small (by omega) (by omega)) ?_
    tm_at "w"
    refine vMul (mul_small (by omega) (by omega)) ?_
    tm_at "w"
    refine iD (fun hd => ?_) (fun hd => ?_)
    all_goals
      dsimp only
      tm_at "w"
      obtain ⟨u, hu, hu2⟩ := abc_get (Int.emod_nonneg _ (by decide : (26 : Int) ≠ 0)) (Int.emod_lt_of_pos _ (by decide : (0 : Int) < 26))
      refine vIxS (by show 26 ≤ sizeLine; decide) hu ?_
      refine vAddS (by rw [hs]; show i + 1 ≤ sizeLine; rw [sizeLine_eq]; omega) ?_
      tm_at "w"
      refine ⟨rfl, s ++ ⟨#[u]⟩, _, _, ?_, sOk_app hok (sOk_one hu2), rfl⟩
      rw [str_len, KE_app, List.length_append, ← str_len, hs]
      rfl
  · rintro σ H' ⟨rfl, s, x6, x7, hs, hok, rfl⟩
    dsimp only
    tm_at "w"
    exact q s (by omega) hok
end
end Pk
set_option Elab.async false
set_option linter.all false
set_option maxRecDepth 100000
set_option maxHeartbeats 4000000
/-! Lw2: the law's leaves and shapes. -/
namespace Pk
open PySem PySem.Spec PyProof.Rows L2 Cw
local macro_rules | `(tactic| tm_at "h") => `(tactic| first
  | assumption
  | exact upd_same
  | ((with_reducible refine' upd_old ?h1 ?h2); (case h1 => assumption); (case h2 => tm_at "h"))
  | ((with_reducible refine' upd_oth ?h1 ?h2); (case h1 => first | assumption | (exact Ne.symm (by assumption)) | (exact ne_of_none (by assumption) (by assumption)) | (exact Ne.symm (ne_of_none (by assumption) (by assumption)))); (case h2 => tm_at "h"))
  | ((refine' Same.at (by assumption) ?h3); (case h3 => tm_at "h")))
local macro_rules | `(tactic| tm_at "l") => `(tactic| first
  | assumption
  | exact SqL.of (by tm_at "h")
  | exact SqT.of (by tm_at "h")
  | exact Same.seq (by assumption) (by tm_at "l")
  | exact Cw.Same.tup (by assumption) (by tm_at "l"))
local macro_rules | `(tactic| tm_at "b") => `(tactic| first
  | rfl
  | decide
  | exact decide_eq_true (by first | assumption | rfl | omega)
  | exact decide_eq_false (by first | assumption | omega))
local macro_rules | `(tactic| tm_at "w1") => `(tactic| first
  | ((with_reducible refine' vVar ?h1 ?_); (case h1 => rfl))
  | with_reducible refine' sSeq ?_
  | with_reducible refine' sAsg ?_
  | with_reducible refine' sName ?_
  | with_reducible refine' vOp ?_
  | with_reducible refine' vC ?_
  | with_reducible refine' vCons ?_
  | with_reducible refine' vNil ?_
  | with_reducible refine' vCB ?_
  | with_reducible refine' vFldE ?_
  | with_reducible refine' vAddI ?_
  | with_reducible refine' vSub ?_
  | with_reducible refine' vCmp ?_
  | with_reducible refine' vEqI ?_
  | with_reducible refine' vEqS ?_
  | with_reducible refine' vNeI ?_
  | with_reducible refine' sIf ?_
  | with_reducible refine' vTest ?_
  | with_reducible refine' vTB ?_
  | with_reducible refine' vBl ?_
  | with_reducible refine' sRet ?_
  | with_reducible refine' sDrop ?_
  | with_reducible refine' sNext ?_
  | ((with_reducible refine' iT ?h1 ?_); (case h1 => tm_at "b"))
  | ((with_reducible refine' iN ?h1 ?_); (case h1 => tm_at "b"))
  | with_reducible refine' vMethE ?_
  | with_reducible refine' vCall ?_
  | with_reducible refine' vAnd ?_
  | with_reducible refine' vOr ?_
  | with_reducible refine' vNot ?_
  | with_reducible refine' vAndV ?_
  | with_reducible refine' vOrV ?_
  | with_reducible refine' vNotV ?_
  | with_reducible refine' vIfE ?_
  | with_reducible refine' vTup ?_
  | with_reducible refine' vLst ?_
  | with_reducible refine' vBM ?_
  | with_reducible refine' vBM0 ?_
  | with_reducible refine' vMax2 ?_
  | with_reducible refine' vMin2 ?_
  | with_reducible refine' vInt ?_
  | with_reducible refine' vIntB ?_
  | with_reducible refine' vUn ?_
  | with_reducible refine' vNeg ?_
  | ((with_reducible refine' sAug ?h1 ?_); (case h1 => rfl))
  | with_reducible refine' sIAdd ?_
  | with_reducible refine' sISub ?_
  | with_reducible refine' sStoE ?_
  | ((with_reducible refine' vFld ?h1 ?h2 ?_); (case h1 => tm_at "h"); (case h2 => rfl))
  | ((with_reducible refine' sSto ?h1 ?h2 ?_); (case h1 => tm_at "h"); (case h2 => first | (show 0 < 1000; decide) | (show 1 < 1000; decide) | (show 2 < 1000; decide) | (show 3 < 1000; decide) | (show 4 < 1000; decide) | (show 5 < 1000; decide)))
  | ((with_reducible refine' vLenL ?h1 ?_); (case h1 => tm_at "l"))
  | ((with_reducible refine' vLenT ?h1 ?_); (case h1 => tm_at "l"))
  | with_reducible refine' vSl ?_
  | with_reducible refine' vPart ?_
  | with_reducible refine' vPartI ?_
  | with_reducible refine' vNoPart ?_
  | with_reducible refine' sCons ?_
  | with_reducible refine' sNil ?_
  | with_reducible refine' wAnyE ?_
  | with_reducible refine' wRng1 ?_
  | with_reducible refine' wRng3 ?_
  | with_reducible refine' vRevE ?_
  | with_reducible refine' wEnum ?_
  | with_reducible refine' vDGet ?_
  | with_reducible refine' wRng2 ?_
  | with_reducible refine' wRng1I ?_
  | with_reducible refine' wRng2I ?_
  | with_reducible refine' sFor ?_
  | ((with_reducible refine' sTup ?h1 ?h2 ?_); (case h1 => tm_at "l"); (case h2 => rfl))
  | ((with_reducible refine' vTyL ?h1 ?_); (case h1 => tm_at "h"))
  | ((refine' vMod ?h1 ?_); (case h1 => (show (0 : Int) < _; omega)))
  | fail "stuck")
local macro_rules | `(tactic| tm_at "w") => `(tactic| repeat tm_at "w1")
/-- a leaf as the law draws it -/
def Lf (sh : Sh) : Prop := (∃ lo d : Int, sh = .nd (.whole lo (lo + d)) [] ∧ 0 ≤ d ∧ d ≤ 6) ∨ ∃ s : Str, sh = .nd (.text s) [] ∧ 1 ≤ s.length ∧ s.length ≤ 3 ∧ PyData.strOk s = true
def l62 : Str := "abcdefghijklmnopqrstuvwxyzABCDEFGHIJKLMNOPQRSTUVWXYZ0123456789"
theorem cut62 {a b : Int} (h0 : 0 ≤ a) (h1 : a < 60) (h2 : 0 ≤ b) (h3 : b < 3) : 1 ≤ (cutS l62 (some a) (some (a + 1 + b))).length ∧ (cutS l62 (some a) (some (a + 1 + b))).length ≤ 3 ∧ PyData.strOk (cutS l62 (some a) (some (a + 1 + b))) = true := by
  have h : ∀ (i : Fin 60) (j : Fin 3), (decide (1 ≤ (cutS l62 (some ((i.val : Nat) : Int)) (some (((i.val : Nat) : Int) + 1 + ((j.val : Nat) : Int)))).length) && (decide ((cutS l62 (some ((i.val : Nat) : Int)) (some (((i.val : Nat) : Int) + 1 + ((j.val : Nat) : Int)))).length ≤ 3) &&
      PyData.strOk (cutS l62 (some ((i.val : Nat) : Int)) (some (((i.val : Nat) : Int) + 1 + ((j.val : Nat) : Int)))))) = true := by decide +kernel
  obtain ⟨i, rfl⟩ : ∃ j : Nat, a = (j : Int) := ⟨a.toNat, by omega⟩
  obtain ⟨j, rfl⟩ : ∃ k : Nat, b = (k : Int) := ⟨b.toNat, by omega⟩
  have q := h ⟨i, by omega⟩ ⟨j, by omega⟩
  obtain ⟨q1, q2⟩ := Bool.and_eq_true_iff.mp q
  obtain ⟨q2, q3⟩ := Bool.and_eq_true_iff.mp q2
  exact ⟨of_decide_eq_true q1, of_decide_eq_true q2, q3⟩
theorem rev_len {s : Str} : (revS s).length = s.length := by
  show (s.cps.toList.reverse.toArray).size = s.cps.size
  simp
theorem rev_ok {s : Str} (h : PyData.strOk s = true) : PyData.strOk (revS s) = true := by
  rw [sOk_iff] at *
  intro c hc
  refine h c ?_
  have : c ∈ s.cps.toList.reverse.toArray.toList := hc
  simpa using this
section
variable {K : PySem.W.Frag} {B : Book} {n N m hb : Nat} {H : Hp} {Q : VK} {E : XK}
theorem leaf_w (q : ∀ v H' sh, Same H H' → Lf sh → Dp K H' v (shD sh) → Q v H') {lo v : Int} {p : Addr} {H' : Hp} (h0 : 0 ≤ v) (h6 : v ≤ 6) (s : Same H H') (hT : SqT K H' p [.str "whole", .int lo, .int (lo + v)]) : Q (.ref p) H' := by
  refine q _ _ (.nd (.whole lo (lo + v)) []) s (.inl ⟨lo, v, rfl, h0, h6⟩) ?_
  unfold shD
  exact .tup hT (.cons (.str _) (.cons (.int _) (.cons (.int _) .nil)))
theorem w_leaf {c : Int} (q : ∀ v H' sh, Same H H' → Lf sh → Dp K H' v (shD sh) → Q v H') : W K (m + 1) ._law_leaf [.int c] H Q E := by
  refine ⟨rfl, ?_⟩
  show t__law_leaf K (W K m) _ _ _
  unfold t__law_leaf
  have a1 := Int.emod_nonneg (c / 2) (by decide : (4 : Int) ≠ 0)
  have a2 := Int.emod_lt_of_pos (c / 2) (by decide : (0 : Int) < 4)
  have b1 := Int.emod_nonneg (c / 2) (by decide : (60 : Int) ≠ 0)
  have b2 := Int.emod_lt_of_pos (c / 2) (by decide : (0 : Int) < 60)
  have c1 := Int.emod_nonneg (c / 120) (by decide : (3 : Int) ≠ 0)
  have c2 := Int.emod_lt_of_pos (c / 120) (by decide : (0 : Int) < 3)
  have d1 := Int.emod_nonneg (c / 360) (by decide : (2 : Int) ≠ 0)
  have d2 := Int.emod_lt_of_pos (c / 360) (by decide : (0 : Int) < 2)
  tm_at "w"
  refine iD (fun hd => ?_) (fun hd => ?_)
  · tm_at "w"
    refine vDiv (div_small (by decide) (by decide)) ?_
    tm_at "w"
    refine vPow ⟨by decide, by decide, by decide⟩ ?_
    refine vMod (by decide) ?_
    tm_at "w"
    refine vPow ⟨by decide, by decide, by decide⟩ ?_
    refine vMul (.inl (mulx_ok (a := 200) (b := 200) (by decide) (by decide) (by decide))) ?_
    tm_at "w"
    refine ⟨by show 4 ≤ sizeLine; decide, fun p hp => ?_⟩
    tm_at "w"
    refine vDiv (div_small (by decide) (by decide)) ?_
    tm_at "w"
    obtain ⟨v, hv, h0, h6⟩ : ∃ v : Int, atI [V.int 0, .int 1, .int 3, .int 6] (c / 2 % 4) = some (.int v) ∧ 0 ≤ v ∧ v ≤ 6 := by
      rcases (by omega : c / 2 % 4 = 0 ∨ c / 2 % 4 = 1 ∨ c / 2 % 4 = 2 ∨ c / 2 % 4 = 3) with h | h | h | h <;> rw [h] <;> exact ⟨_, rfl, by decide, by decide⟩
    refine vIxL (SqL.of upd_same) hv ?_
    tm_at "w"
    refine ⟨by show 3 ≤ sizeLine; decide, fun p2 hp2 => ?_⟩
    exact leaf_w q h0 h6 ((same_upd hp).trans (same_upd hp2)) (SqT.of upd_same)
  · dsimp only
    tm_at "w"
    refine vDiv (div_small (by decide) (by decide)) ?_
    tm_at "w"
    refine vDiv (div_small (by decide) (by decide)) ?_
    tm_at "w"
    obtain ⟨e1, e2, e3⟩ := cut62 b1 b2 c1 c2
    refine vSlS (by show 62 ≤ sizeLine; decide) ?_
    tm_at "w"
    refine vRevS (Nat.le_trans e2 (by decide)) ?_
    tm_at "w"
    refine ⟨by show 2 ≤ sizeLine; decide, fun p hp => ?_⟩
    tm_at "w"
    refine vDiv (div_small (by decide) (by decide)) ?_
    tm_at "w"
    obtain ⟨v, hv, h0, h6, h7⟩ : ∃ v : Str, atI [V.str (cutS l62 (some (c / 2 % 60)) (some (c / 2 % 60 + 1 + c / 120 % 3))), .str (revS (cutS l62 (some (c / 2 % 60)) (some (c / 2 % 60 + 1 + c / 120 % 3))))] (c / 360 % 2) = some (.str v) ∧ 1 ≤ v.length ∧ v.length ≤ 3 ∧ PyData.strOk v = true := by
      rcases (by omega : c / 360 % 2 = 0 ∨ c / 360 % 2 = 1) with h | h <;> rw [h]
      · exact ⟨_, rfl, e1, e2, e3⟩
      · exact ⟨_, rfl, by rw [rev_len]; exact e1, by rw [rev_len]; exact e2, rev_ok e3⟩
    refine vIxL (SqL.of upd_same) hv ?_
    tm_at "w"
    refine ⟨by show 2 ≤ sizeLine; decide, fun p2 hp2 => ?_⟩
    refine q _ _ _ ((same_upd hp).trans (same_upd hp2)) (.inr ⟨v, rfl, h0, h6, h7⟩) ?_
    unfold shD
    exact .tup (SqT.of upd_same) (.cons (.str _) (.cons (.str _) .nil))
/-- a shape as the law draws it: leaves, or of shapes one less deep -/
def Shp (x : Str) : Nat → Sh → Prop
  | 0, sh => Lf sh
  | d + 1, sh => Lf sh ∨ (∃ a, Shp x d a ∧ sh = .nd .many [a]) ∨ (∃ a t, Shp x d a ∧ 1 ≤ t ∧ t ≤ 3 ∧ sh = .nd (.alike t) [a]) ∨ sh = .nd (.use x) [] ∨
    (∃ a b, Shp x d a ∧ Shp x d b ∧ sh = .nd .row [a, b]) ∨ ∃ a b m1 m2, Shp x d a ∧ Shp x d b ∧ PyData.strOk m1 = true ∧ PyData.strOk m2 = true ∧ sh = .nd (.pick [m1, m2]) [a, b]
theorem hd1s {k0 : Sh} : (shDs [k0]).headD .none = shD k0 := by rw [shDs_map]; rfl
theorem w_shape {cs : List Int} {sa : Addr} {x : Str} : ∀ (d m : Nat) (at_ : Nat) (H : Hp) (Q : VK) (E : XK), d + 2 ≤ m → at_ + 2 ≤ 100000 * 2 ^ (4 - d) → d ≤ 4 → SqL K H sa (cs.map V.int) → (∀ v H' sh, Same H H' → Shp x d sh → Dp K H' v (shD sh) → Q v H') →
    W K m ._law_shape [.ref sa, .int d, .int at_, .str x] H Q E := by
  intro d
  induction d with
  | zero =>
    intro m at_ H Q E hm hat hd hS q
    obtain ⟨m, rfl⟩ : ∃ j, m = j + 2 := ⟨m - 2, by omega⟩
    refine ⟨rfl, ?_⟩
    show t__law_shape K (W K (m + 1)) _ _ _
    unfold t__law_shape
    tm_at "w"
    refine w_cell_at hS ?_
    tm_at "w"
    refine vDiv (div_small (by decide) (by decide)) ?_
    tm_at "w"
    exact w_leaf q
  | succ d ih =>
    intro m at_ H Q E hm hat hd hS q
    obtain ⟨m, rfl⟩ : ∃ j, m = j + 2 := ⟨m - 2, by omega⟩
    have hpow : (2 : Nat) ^ (4 - d) = 2 * 2 ^ (4 - (d + 1)) := by
      rw [show 4 - d = (4 - (d + 1)) + 1 by omega, Nat.pow_succ, Nat.mul_comm]
    have hp16 : (2 : Nat) ^ (4 - (d + 1)) ≤ 8 := Nat.pow_le_pow_right (i := 4 - (d + 1)) (j := 3) (by decide) (by omega)
    refine ⟨rfl, ?_⟩
    show t__law_shape K (W K (m + 1)) _ _ _
    unfold t__law_shape
    tm_at "w"
    refine w_cell_at hS ?_
    tm_at "w"
    have a1 := Int.emod_nonneg (cellAt cs at_) (by decide : (7 : Int) ≠ 0)
    have a2 := Int.emod_lt_of_pos (cellAt cs at_) (by decide : (0 : Int) < 7)
    refine iD (fun h2 => ?_) (fun h2 => ?_)
    · tm_at "w"
      refine vDiv (div_small (by decide) (by decide)) ?_
      tm_at "w"
      exact w_leaf fun v H' sh s l => q v H' sh s (.inl l)
    dsimp only
    tm_at "w"
    refine vMul (mul_small (by decide) (by have : at_ + 2 ≤ 100000 * 8 := Nat.le_trans hat (Nat.mul_le_mul_left _ hp16); omega)) ?_
    tm_at "w"
    have e1 : ((d + 1 : Nat) : Int) - 1 = (d : Int) := by omega
    have e2 : 2 * (at_ : Int) + 1 = ((2 * at_ + 1 : Nat) : Int) := by omega
    have e3 : 2 * (at_ : Int) + 2 = ((2 * at_ + 2 : Nat) : Int) := by omega
    have hp1 : 1 ≤ (2 : Nat) ^ (4 - (d + 1)) := Nat.two_pow_pos _
    have hb1 : 2 * at_ + 2 + 2 ≤ 100000 * 2 ^ (4 - d) := by rw [hpow, Nat.mul_left_comm]; omega
    rw [e1, e2]
    refine ih (m + 1) (2 * at_ + 1) H _ _ (by omega) (by omega) (by omega) hS ?_
    intro v1 H1 sa1 s1 ha1 hd1
    tm_at "w"
    refine iD (fun h3 => ?_) (fun h3 => ?_)
    · tm_at "w"
      refine ⟨by show 2 ≤ sizeLine; decide, fun p hp => ?_⟩
      refine q _ _ (.nd .many [sa1]) (s1.trans (same_upd hp)) (.inr (.inl ⟨sa1, ha1, rfl⟩)) ?_
      unfold shD
      rw [hd1s]
      exact .tup (SqT.of upd_same) (.cons (.str _) (.cons (Dp.mono (same_upd hp) hd1) .nil))
    dsimp only
    tm_at "w"
    refine iD (fun h4 => ?_) (fun h4 => ?_)
    · tm_at "w"
      refine vDiv (div_small (by decide) (by decide)) ?_
      tm_at "w"
      refine ⟨by show 3 ≤ sizeLine; decide, fun p hp => ?_⟩
      have t1 := Int.emod_nonneg (cellAt cs at_ / 7) (by decide : (3 : Int) ≠ 0)
      have t2 := Int.emod_lt_of_pos (cellAt cs at_ / 7) (by decide : (0 : Int) < 3)
      obtain ⟨t, ht⟩ : ∃ t : Nat, 1 + cellAt cs at_ / 7 % 3 = (t : Int) := ⟨(1 + cellAt cs at_ / 7 % 3).toNat, by omega⟩
      rw [ht]
      refine q _ _ (.nd (.alike t) [sa1]) (s1.trans (same_upd hp)) (.inr (.inr (.inl ⟨sa1, t, ha1, by omega, by omega, rfl⟩))) ?_
      unfold shD
      rw [hd1s]
      exact .tup (SqT.of upd_same) (.cons (.str _) (.cons (Dp.mono (same_upd hp) hd1) (.cons (.int _) .nil)))
    dsimp only
    tm_at "w"
    refine iD (fun h5 => ?_) (fun h5 => ?_)
    · tm_at "w"
      refine ⟨by show 2 ≤ sizeLine; decide, fun p hp => ?_⟩
      refine q _ _ (.nd (.use x) []) (s1.trans (same_upd hp)) (.inr (.inr (.inr (.inl rfl)))) ?_
      unfold shD
      exact .tup (SqT.of upd_same) (.cons (.str _) (.cons (.str _) .nil))
    dsimp only
    tm_at "w"
    refine vMul (mul_small (by decide) (by have : at_ + 2 ≤ 100000 * 8 := Nat.le_trans hat (Nat.mul_le_mul_left _ hp16); omega)) ?_
    tm_at "w"
    rw [e1, e3]
    refine ih (m + 1) (2 * at_ + 2) H1 _ _ (by omega) (by omega) (by omega) (Same.seq s1 hS) ?_
    intro v2 H2 sb s2 hb1 hd2
    have hd1b := Dp.mono s2 hd1
    tm_at "w"
    refine iD (fun h6 => ?_) (fun h6 => ?_)
    · tm_at "w"
      refine ⟨by show 2 ≤ sizeLine; decide, fun p hp => ?_⟩
      tm_at "w"
      refine ⟨by show 2 ≤ sizeLine; decide, fun p2 hp2 => ?_⟩
      refine q _ _ (.nd .row [sa1, sb]) (((s1.trans s2).trans (same_upd hp)).trans (same_upd hp2)) (.inr (.inr (.inr (.inr (.inl ⟨sa1, sb, ha1, hb1, rfl⟩))))) ?_
      unfold shD
      rw [shDs_map]
      refine .tup (SqT.of upd_same) (.cons (.str _) (.cons (.tup (SqT.of (upd_old hp2 upd_same)) ?_) .nil))
      have sx : Same H2 (L2.upd (L2.upd H2 p (.tup [v1, v2])) p2 (.tup [.str "row", .ref p])) := (same_upd hp (o := .tup [v1, v2])).trans (same_upd hp2)
      exact .cons (Dp.mono sx hd1b) (.cons (Dp.mono sx hd2) .nil)
    dsimp only
    tm_at "w"
    refine vDiv (div_small (by decide) (by decide)) ?_
    tm_at "w"
    refine w_name fun m1 l1 o1 => ?_
    tm_at "w"
    refine ⟨by show 2 ≤ sizeLine; decide, fun p1 hp1 => ?_⟩
    tm_at "w"
    refine vDiv (div_small (by decide) (by decide)) ?_
    tm_at "w"
    refine w_name fun m2 l2 o2 => ?_
    tm_at "w"
    refine ⟨by show 2 ≤ sizeLine; decide, fun p2 hp2 => ?_⟩
    tm_at "w"
    refine ⟨by show 2 ≤ sizeLine; decide, fun p3 hp3 => ?_⟩
    tm_at "w"
    refine ⟨by show 2 ≤ sizeLine; decide, fun p4 hp4 => ?_⟩
    have sx : Same H2 _ := (((same_upd hp1 (o := .tup [.str m1, v1])).trans (same_upd hp2 (o := .tup [.str m2, v2]))).trans (same_upd hp3 (o := .tup [.ref p1, .ref p2]))).trans (same_upd hp4 (o := .tup [.str "pick", .ref p3]))
    refine q _ _ (.nd (.pick [m1, m2]) [sa1, sb]) ((s1.trans s2).trans sx) (.inr (.inr (.inr (.inr (.inr ⟨sa1, sb, m1, m2, ha1, hb1, o1, o2, rfl⟩))))) ?_
    unfold shD
    rw [shDs_map]
    refine .tup (SqT.of upd_same) (.cons (.str _) (.cons (.tup (SqT.of (upd_old hp4 upd_same)) ?_) .nil))
    refine .cons (.tup (SqT.of (upd_old hp4 (upd_old hp3 (upd_old hp2 upd_same)))) (.cons (.str _) (.cons (Dp.mono sx hd1b) .nil))) (.cons (.tup (SqT.of (upd_old hp4 (upd_old hp3 upd_same))) (.cons (.str _) (.cons (Dp.mono sx hd2) .nil))) .nil)
end
end Pk
set_option Elab.async false
set_option linter.all false
set_option maxRecDepth 100000
set_option maxHeartbeats 4000000
/-! Lw3: the law's texts and numbers. -/
namespace Pk
open PySem PySem.Spec PyProof.Rows L2 Cw
local macro_rules | `(tactic| tm_at "h") => `(tactic| first
  | assumption
  | exact upd_same
  | ((with_reducible refine' upd_old ?h1 ?h2); (case h1 => assumption); (case h2 => tm_at "h"))
  | ((with_reducible refine' upd_oth ?h1 ?h2); (case h1 => first | assumption | (exact Ne.symm (by assumption)) | (exact ne_of_none (by assumption) (by assumption)) | (exact Ne.symm (ne_of_none (by assumption) (by assumption)))); (case h2 => tm_at "h"))
  | ((refine' Same.at (by assumption) ?h3); (case h3 => tm_at "h")))
local macro_rules | `(tactic| tm_at "l") => `(tactic| first
  | assumption
  | exact SqL.of (by tm_at "h")
  | exact SqT.of (by tm_at "h")
  | exact Same.seq (by assumption) (by tm_at "l")
  | exact Cw.Same.tup (by assumption) (by tm_at "l"))
local macro_rules | `(tactic| tm_at "b") => `(tactic| first
  | rfl
  | decide
  | exact decide_eq_true (by first | assumption | rfl | omega)
  | exact decide_eq_false (by first | assumption | omega))
local macro_rules | `(tactic| tm_at "w1") => `(tactic| first
  | ((with_reducible refine' vVar ?h1 ?_); (case h1 => rfl))
  | with_reducible refine' sSeq ?_
  | with_reducible refine' sAsg ?_
  | with_reducible refine' sName ?_
  | with_reducible refine' vOp ?_
  | with_reducible refine' vC ?_
  | with_reducible refine' vCons ?_
  | with_reducible refine' vNil ?_
  | with_reducible refine' vCB ?_
  | with_reducible refine' vFldE ?_
  | with_reducible refine' vAddI ?_
  | with_reducible refine' vSub ?_
  | with_reducible refine' vCmp ?_
  | with_reducible refine' vEqI ?_
  | with_reducible refine' vEqS ?_
  | with_reducible refine' vNeI ?_
  | with_reducible refine' sIf ?_
  | with_reducible refine' vTest ?_
  | with_reducible refine' vTB ?_
  | with_reducible refine' vBl ?_
  | with_reducible refine' sRet ?_
  | with_reducible refine' sDrop ?_
  | with_reducible refine' sNext ?_
  | ((with_reducible refine' iT ?h1 ?_); (case h1 => tm_at "b"))
  | ((with_reducible refine' iN ?h1 ?_); (case h1 => tm_at "b"))
  | with_reducible refine' vMethE ?_
  | with_reducible refine' vCall ?_
  | with_reducible refine' vAnd ?_
  | with_reducible refine' vOr ?_
  | with_reducible refine' vNot ?_
  | with_reducible refine' vAndV ?_
  | with_reducible refine' vOrV ?_
  | with_reducible refine' vNotV ?_
  | with_reducible refine' vIfE ?_
  | with_reducible refine' vTup ?_
  | with_reducible refine' vLst ?_
  | with_reducible refine' vBM ?_
  | with_reducible refine' vBM0 ?_
  | with_reducible refine' vMax2 ?_
  | with_reducible refine' vMin2 ?_
  | with_reducible refine' vInt ?_
  | with_reducible refine' vIntB ?_
  | with_reducible refine' vUn ?_
  | with_reducible refine' vNeg ?_
  | ((with_reducible refine' sAug ?h1 ?_); (case h1 => rfl))
  | with_reducible refine' sIAdd ?_
  | with_reducible refine' sISub ?_
  | with_reducible refine' sStoE ?_
  | ((with_reducible refine' vFld ?h1 ?h2 ?_); (case h1 => tm_at "h"); (case h2 => rfl))
  | ((with_reducible refine' sSto ?h1 ?h2 ?_); (case h1 => tm_at "h"); (case h2 => first | (show 0 < 1000; decide) | (show 1 < 1000; decide) | (show 2 < 1000; decide) | (show 3 < 1000; decide) | (show 4 < 1000; decide) | (show 5 < 1000; decide)))
  | ((with_reducible refine' vLenL ?h1 ?_); (case h1 => tm_at "l"))
  | ((with_reducible refine' vLenT ?h1 ?_); (case h1 => tm_at "l"))
  | with_reducible refine' vSl ?_
  | with_reducible refine' vPart ?_
  | with_reducible refine' vPartI ?_
  | with_reducible refine' vNoPart ?_
  | with_reducible refine' sCons ?_
  | with_reducible refine' sNil ?_
  | with_reducible refine' wAnyE ?_
  | with_reducible refine' wRng1 ?_
  | with_reducible refine' wRng3 ?_
  | with_reducible refine' vRevE ?_
  | with_reducible refine' wEnum ?_
  | with_reducible refine' vDGet ?_
  | with_reducible refine' wRng2 ?_
  | with_reducible refine' wRng1I ?_
  | with_reducible refine' wRng2I ?_
  | with_reducible refine' sFor ?_
  | ((with_reducible refine' sTup ?h1 ?h2 ?_); (case h1 => tm_at "l"); (case h2 => rfl))
  | ((with_reducible refine' vTyL ?h1 ?_); (case h1 => tm_at "h"))
  | ((refine' vMod ?h1 ?_); (case h1 => (show (0 : Int) < _; omega)))
  | fail "stuck")
local macro_rules | `(tactic| tm_at "w") => `(tactic| repeat tm_at "w1")
section
variable {K : PySem.W.Frag} {B : Book} {n N m hb : Nat} {H : Hp} {Q : VK} {E : XK}
/-- the texts with one sign more of the first j -/
def moreT (s : Str) (ws : List Str) : List V := ws.flatMap fun w => s.cps.toList.map fun c => V.str (w ++ (⟨#[c]⟩ : Str))
theorem moreT_len {s : Str} : ∀ {ws : List Str}, (moreT s ws).length = ws.length * s.length
  | [] => by simp [moreT]
  | w :: ws => by
    unfold moreT
    rw [List.flatMap_cons, List.length_append, List.length_map, ← str_len]
    have := moreT_len (s := s) (ws := ws)
    unfold moreT at this
    rw [this, List.length_cons, Nat.succ_mul, Nat.add_comm]
theorem moreT_all {s : Str} {n : Nat} : moreT s (textsS s n) = (textsS s (n + 1)).map V.str := by
  unfold moreT
  show _ = ((textsS s n).flatMap fun w => s.cps.toList.map fun c => w ++ (⟨#[c]⟩ : Str)).map V.str
  rw [List.map_flatMap]
  congr 1
  funext w
  rw [List.map_map]
  rfl
theorem w_texts {s : Str} (hn : n ≤ 1000) (hl : ∀ j, j ≤ n → (textsS s j).length ≤ 100000) (hsl : s.length ≤ 100) (q : ∀ p H', Same H H' → H' p = some (.lst ((textsS s n).map V.str)) → Q (.ref p) H') : W K (m + 1) ._law_texts [.str s, .int n] H Q E := by
  refine ⟨rfl, ?_⟩
  show t__law_texts K (W K m) _ _ _
  unfold t__law_texts
  tm_at "w"
  refine ⟨by show 1 ≤ sizeLine; decide, fun p0 hp0 => ?_⟩
  tm_at "w"
  refine ⟨by omega, by omega, ?_⟩
  rw [Int.toNat_natCast]
  refine for_range (fun i σ H' => ∃ (pf : Addr) (x3 x4 x5 x6 : Option V), Same H H' ∧ H' pf = some (.lst ((textsS s i).map V.str)) ∧ σ = [some (.str s), some (.int n), some (.ref pf), x3, x4, x5, x6])
    ⟨p0, none, none, none, none, same_upd hp0, upd_same, rfl⟩ ?_ ?_
  · rintro i σ H1 hi ⟨pf, x3, x4, x5, x6, hS, hF, rfl⟩
    tm_at "w"
    refine ⟨Nat.zero_le _, fun pm hpm => ?_⟩
    tm_at "w"
    refine wAnyL (SqL.of (upd_old hpm hF)) ?_
    refine for_list (xs := (textsS s i).map V.str) (fun j σ H' => ∃ (pm : Addr) (x5 x6 : Option V), Same H1 H' ∧ H' pm = some (.lst (moreT s ((textsS s i).take j))) ∧ σ = [some (.str s), some (.int n), some (.ref pf), some (.int (0 + (i : Int))), some (.ref pm), x5, x6])
      ⟨pm, _, _, same_upd hpm, upd_same, rfl⟩ ?_ ?_ ?_
    · rintro j σ H' hj ⟨pm, y5, y6, hS1, _⟩
      exact SqL.of (hS1 _ _ hF)
    · rintro j x σ H2 hx ⟨pm, y5, y6, hS1, hM, rfl⟩
      rw [List.getElem?_map] at hx
      cases hw : (textsS s i)[j]? with
      | none => rw [hw] at hx; cases hx
      | some w =>
      rw [hw] at hx
      have e := Option.some.inj hx
      subst e
      have hwl := textsS_len (List.mem_of_getElem? hw)
      have hj := (List.getElem?_eq_some_iff.mp hw).1
      tm_at "w"
      refine vLc ?_
      tm_at "w"
      refine wAnyS ?_
      intro D hD
      refine lc_it walk_str (fun k H' => Same H2 H' ∧ H' D = some (.lst ((s.cps.toList.take k).map fun c => V.str (w ++ (⟨#[c]⟩ : Str))))) ⟨same_upd hD, upd_same⟩ ?_ ?_ ?_
      · intros; trivial
      · rintro k x H3 H4 hk ⟨hS3, hF3⟩ ⟨rfl, c, hc, rfl⟩
        have hc2 : s.cps.toList[k]? = some c := by rw [Array.getElem?_toList]; exact hc
        refine sName ⟨rfl, ?_⟩
        refine vYes ?_
        refine iT rfl ?_
        tm_at "w"
        refine vAddS (by show w.length + 1 ≤ sizeLine; rw [hwl, sizeLine_eq]; omega) ?_
        refine ⟨_, hF3, by rw [List.length_map, List.length_take]; have := sizeLine_eq; have h2 : s.cps.toList.length = s.length := str_len.symm; omega, Same.mut hS3 hD, ?_⟩
        rw [upd_same, List.take_succ, hc2, List.map_append]
        rfl
      · rintro H3 ⟨hS3, hF3⟩
        have et : s.cps.toList.take s.cps.size = s.cps.toList := by
          have h2 : s.cps.size = s.cps.toList.length := by simp
          rw [h2, List.take_length]
        rw [et] at hF3
        have hl1 := hl (i + 1) (by omega)
        rw [texts_len] at hl1
        have hml : ((j + 1) * s.length) ≤ (textsS s i).length * s.length := Nat.mul_le_mul_right _ hj
        rw [Nat.succ_mul] at hml
        refine vAddL (hS3 _ _ hM) hF3 ?_ ?_
        · rw [moreT_len, List.length_take, List.length_map, ← str_len, Nat.min_eq_left (Nat.le_of_lt hj), sizeLine_eq]
          omega
        · intro p hp
          tm_at "w"
          refine ⟨p, _, _, (hS1.trans hS3).trans (same_upd hp), ?_, rfl⟩
          rw [upd_same, List.take_succ, hw]
          unfold moreT
          rw [List.flatMap_append]
          congr 3
          exact (List.append_nil _).symm
    · rintro σ H2 ⟨pm, y5, y6, hS1, hM, rfl⟩
      rw [List.length_map, List.take_length, moreT_all] at hM
      dsimp only
      tm_at "w"
      exact ⟨pm, _, _, _, _, hS.trans hS1, hM, rfl⟩
  · rintro σ H' ⟨pf, x3, x4, x5, x6, hS, hF, rfl⟩
    dsimp only
    tm_at "w"
    exact q pf H' hS hF
theorem w_numbers {lo hi : Int} (hlh : lo ≤ hi) (hn : n ≤ 60) (hl : (wholes lo hi n).length ≤ 100000) (q : ∀ p H', Same H H' → H' p = some (.lst ((wholes lo hi n).map fun d => match d with | .int i => V.int i | _ => V.non)) → Q (.ref p) H') :
    W K (m + 1) ._law_numbers [.int lo, .int hi, .int n] H Q E := by
  refine ⟨rfl, ?_⟩
  show t__law_numbers K (W K m) _ _ _
  unfold t__law_numbers
  cases n with
  | zero =>
    tm_at "w"
    refine ⟨by show 1 ≤ sizeLine; decide, fun p0 hp0 => ?_⟩
    exact q p0 _ (same_upd hp0) upd_same
  | succ n =>
    tm_at "w"
    refine ⟨by omega, by omega, ?_⟩
    have e0 : (((n + 1 : Nat) : Int) - 1).toNat = n := by omega
    rw [e0]
    refine for_range (fun i σ H' => H' = H ∧ ∃ (x4 x5 : Option V), σ = [some (.int lo), some (.int hi), some (.int ((n + 1 : Nat) : Int)), some (.int ((2 ^ i : Nat) : Int)), x4, x5]) ⟨rfl, none, none, rfl⟩ ?_ ?_
    · rintro i σ H' hii ⟨rfl, x4, x5, rfl⟩
      have hp : 2 ^ i < 2 ^ 60 := Nat.pow_lt_pow_right (by decide) (by omega)
      tm_at "w"
      refine vMul (.inl (mulx_ok (a := 2) (b := 60) (by decide) (by rw [Int.natAbs_natCast]; exact hp) (by decide))) ?_
      tm_at "w"
      rw [show (2 : Int) * ((2 ^ i : Nat) : Int) = ((2 ^ (i + 1) : Nat) : Int) by rw [Nat.pow_succ]; omega]
      exact ⟨rfl, _, _, rfl⟩
    · rintro σ H1 ⟨eH, x4, x5, rfl⟩
      subst eH
      have hp : 2 ^ n < 2 ^ 60 := Nat.pow_lt_pow_right (by decide) (by omega)
      have hp1 : 1 ≤ 2 ^ n := Nat.two_pow_pos n
      have hwl : (wholes lo hi (n + 1)).length = (min (hi - lo) (2 * 2 ^ n - 1) - 2 ^ n + 1).toNat := by
        unfold wholes; rw [List.length_map, List.length_range]
      have hc : ((2 ^ n : Nat) : Int) = (2 : Int) ^ n := by simp
      dsimp only
      tm_at "w"
      refine vLc ?_
      tm_at "w"
      refine vMul (.inl (mulx_ok (a := 2) (b := 60) (by decide) (by rw [Int.natAbs_natCast]; exact hp) (by decide))) ?_
      tm_at "w"
      refine ⟨⟨by omega, by omega, by omega, by omega⟩, ?_⟩
      have e2 : (min (2 * ((2 ^ n : Nat) : Int)) (hi - lo + 1) - ((2 ^ n : Nat) : Int)).toNat = (min (hi - lo) (2 * 2 ^ n - 1) - 2 ^ n + 1).toNat := by omega
      rw [e2, ← hwl]
      intro D hD
      refine lc_range (fun i H' => Same H1 H' ∧ H' D = some (.lst ((List.range i).map fun k => V.int (lo + (((2 ^ n : Nat) : Int) + (k : Nat)))))) ⟨same_upd hD, upd_same⟩ ?_ ?_
      · rintro i H' hii ⟨hS, hF⟩
        refine sName ⟨rfl, ?_⟩
        refine vYes ?_
        refine iT rfl ?_
        tm_at "w"
        refine ⟨_, hF, by rw [List.length_map, List.length_range, sizeLine_eq]; omega, Same.mut hS hD, ?_⟩
        rw [upd_same, List.range_succ, List.map_append]
        rfl
      · rintro H' ⟨hS, hF⟩
        refine q D H' hS ?_
        rw [hF]
        have e3 : (wholes lo hi (n + 1)).length = (min (hi - lo) (2 * 2 ^ n - 1) - 2 ^ n + 1).toNat := hwl
        rw [e3]
        unfold wholes
        rw [List.map_map]
        congr 2
        apply List.map_congr_left
        intro k _
        show V.int (lo + (((2 ^ n : Nat) : Int) + (k : Nat))) = V.int (lo + 2 ^ n + (k : Int))
        rw [hc, Int.add_assoc]
end
end Pk
set_option Elab.async false
set_option linter.all false
set_option maxRecDepth 100000
set_option maxHeartbeats 4000000
/-! Lw4: the law's own rows and lists. -/
namespace Pk
open PySem PySem.Spec PyProof.Rows L2 Cw
local macro_rules | `(tactic| tm_at "h") => `(tactic| first
  | assumption
  | exact upd_same
  | ((with_reducible refine' upd_old ?h1 ?h2); (case h1 => assumption); (case h2 => tm_at "h"))
  | ((with_reducible refine' upd_oth ?h1 ?h2); (case h1 => first | assumption | (exact Ne.symm (by assumption)) | (exact ne_of_none (by assumption) (by assumption)) | (exact Ne.symm (ne_of_none (by assumption) (by assumption)))); (case h2 => tm_at "h"))
  | ((refine' Same.at (by assumption) ?h3); (case h3 => tm_at "h")))
local macro_rules | `(tactic| tm_at "l") => `(tactic| first
  | assumption
  | exact SqL.of (by tm_at "h")
  | exact SqT.of (by tm_at "h")
  | exact Same.seq (by assumption) (by tm_at "l")
  | exact Cw.Same.tup (by assumption) (by tm_at "l"))
local macro_rules | `(tactic| tm_at "b") => `(tactic| first
  | rfl
  | decide
  | exact decide_eq_true (by first | assumption | rfl | omega)
  | exact decide_eq_false (by first | assumption | omega))
local macro_rules | `(tactic| tm_at "w1") => `(tactic| first
  | ((with_reducible refine' vVar ?h1 ?_); (case h1 => rfl))
  | with_reducible refine' sSeq ?_
  | with_reducible refine' sAsg ?_
  | with_reducible refine' sName ?_
  | with_reducible refine' vOp ?_
  | with_reducible refine' vC ?_
  | with_reducible refine' vCons ?_
  | with_reducible refine' vNil ?_
  | with_reducible refine' vCB ?_
  | with_reducible refine' vFldE ?_
  | with_reducible refine' vAddI ?_
  | with_reducible refine' vSub ?_
  | with_reducible refine' vCmp ?_
  | with_reducible refine' vEqI ?_
  | with_reducible refine' vEqS ?_
  | with_reducible refine' vNeI ?_
  | with_reducible refine' sIf ?_
  | with_reducible refine' vTest ?_
  | with_reducible refine' vTB ?_
  | with_reducible refine' vBl ?_
  | with_reducible refine' sRet ?_
  | with_reducible refine' sDrop ?_
  | with_reducible refine' sNext ?_
  | ((with_reducible refine' iT ?h1 ?_); (case h1 => tm_at "b"))
  | ((with_reducible refine' iN ?h1 ?_); (case h1 => tm_at "b"))
  | with_reducible refine' vMethE ?_
  | with_reducible refine' vCall ?_
  | with_reducible refine' vAnd ?_
  | with_reducible refine' vOr ?_
  | with_reducible refine' vNot ?_
  | with_reducible refine' vAndV ?_
  | with_reducible refine' vOrV ?_
  | with_reducible refine' vNotV ?_
  | with_reducible refine' vIfE ?_
  | with_reducible refine' vTup ?_
  | with_reducible refine' vLst ?_
  | with_reducible refine' vBM ?_
  | with_reducible refine' vBM0 ?_
  | with_reducible refine' vMax2 ?_
  | with_reducible refine' vMin2 ?_
  | with_reducible refine' vInt ?_
  | with_reducible refine' vIntB ?_
  | with_reducible refine' vUn ?_
  | with_reducible refine' vNeg ?_
  | ((with_reducible refine' sAug ?h1 ?_); (case h1 => rfl))
  | with_reducible refine' sIAdd ?_
  | with_reducible refine' sISub ?_
  | with_reducible refine' sStoE ?_
  | ((with_reducible refine' vFld ?h1 ?h2 ?_); (case h1 => tm_at "h"); (case h2 => rfl))
  | ((with_reducible refine' sSto ?h1 ?h2 ?_); (case h1 => tm_at "h"); (case h2 => first | (show 0 < 1000; decide) | (show 1 < 1000; decide) | (show 2 < 1000; decide) | (show 3 < 1000; decide) | (show 4 < 1000; decide) | (show 5 < 1000; decide)))
  | ((with_reducible refine' vLenL ?h1 ?_); (case h1 => tm_at "l"))
  | ((with_reducible refine' vLenT ?h1 ?_); (case h1 => tm_at "l"))
  | with_reducible refine' vSl ?_
  | with_reducible refine' vPart ?_
  | with_reducible refine' vPartI ?_
  | with_reducible refine' vNoPart ?_
  | with_reducible refine' sCons ?_
  | with_reducible refine' sNil ?_
  | with_reducible refine' wAnyE ?_
  | with_reducible refine' wRng1 ?_
  | with_reducible refine' wRng3 ?_
  | with_reducible refine' vRevE ?_
  | with_reducible refine' wEnum ?_
  | with_reducible refine' vDGet ?_
  | with_reducible refine' wRng2 ?_
  | with_reducible refine' wRng1I ?_
  | with_reducible refine' wRng2I ?_
  | with_reducible refine' sFor ?_
  | ((with_reducible refine' sTup ?h1 ?h2 ?_); (case h1 => tm_at "l"); (case h2 => rfl))
  | ((with_reducible refine' vTyL ?h1 ?_); (case h1 => tm_at "h"))
  | ((refine' vMod ?h1 ?_); (case h1 => (show (0 : Int) < _; omega)))
  | fail "stuck")
local macro_rules | `(tactic| tm_at "w") => `(tactic| repeat tm_at "w1")
mutual
/-- no list of the law is long -/
def LiS (B : Book) (N : Nat) : Sh → Prop
  | .nd k ks => (∀ j, j < N → cn B (.nd k ks) j ≤ 100000) ∧ (∀ i j, j < N → rn B (ks.drop i) j ≤ 100000) ∧ LiL B N ks
def LiL (B : Book) (N : Nat) : List Sh → Prop
  | [] => True
  | s :: ss => LiS B N s ∧ LiL B N ss
end
theorem LiS.cn {B : Book} {N : Nat} {s : Sh} {j : Nat} (h : LiS B N s) (hj : j < N) : Pk.cn B s j ≤ 100000 := by
  cases s with
  | nd k ks => unfold LiS at h; exact h.1 j hj
mutual
theorem LiS.sm {B : Book} {N : Nat} : ∀ {s : Sh}, LiS B N s → SmS B N s
  | .nd k ks, h => by
    unfold LiS at h
    unfold SmS
    exact ⟨fun j hj => Sm.le' (Nat.le_trans (h.1 j hj) (by decide)), fun i j hj => Sm.le' (Nat.le_trans (h.2.1 i j hj) (by decide)), LiL.sm h.2.2⟩
theorem LiL.sm {B : Book} {N : Nat} : ∀ {ss : List Sh}, LiL B N ss → SmL B N ss
  | [], h => by unfold SmL; trivial
  | s :: ss, h => by
    unfold LiL at h
    unfold SmL
    exact ⟨LiS.sm h.1, LiL.sm h.2⟩
end
theorem LiL.get {B : Book} {N : Nat} : ∀ {ss : List Sh} {s : Sh}, LiL B N ss → s ∈ ss → LiS B N s
  | s :: ss, s', h, e => by
    unfold LiL at h
    rcases List.mem_cons.mp e with rfl | e
    · exact h.1
    · exact LiL.get h.2 e
def OkK : Kd → Prop
  | .text s => PyData.strOk s = true
  | .pick ms => ∀ m ∈ ms, PyData.strOk m = true
  | .use x => PyData.strOk x = true
  | .alike t => t ≤ 1000
  | _ => True
mutual
def OkS : Sh → Prop
  | .nd k ks => OkK k ∧ OkL ks
def OkL : List Sh → Prop
  | [] => True
  | s :: ss => OkS s ∧ OkL ss
end
theorem lay_hd {ds : List DT} (h : PyData.canLayAll0 ds = true) : (ds.headD .none).canLay0 = true := by
  cases ds with
  | nil => rfl
  | cons d ds => exact (Bool.and_eq_true_iff.mp h).1
theorem lay_pairs : ∀ {ms : List Str} {ds : List DT}, (∀ m ∈ ms, PyData.strOk m = true) → PyData.canLayAll0 ds = true → PyData.canLayAll0 (pairs ms ds) = true
  | [], ds, _, _ => by unfold pairs; rfl
  | m :: ms, [], _, _ => by unfold pairs; rfl
  | m :: ms, d :: ds, h, q => by
    obtain ⟨q1, q2⟩ := Bool.and_eq_true_iff.mp q
    unfold pairs
    have h1 := h m (List.mem_cons_self)
    have h2 := lay_pairs (ms := ms) (ds := ds) (fun x hx => h x (List.mem_cons_of_mem _ hx)) q2
    simp [PyData.canLayAll0, PyData.canLay0, h1, q1, h2]
mutual
theorem lay_sh : ∀ {s : Sh}, OkS s → (shD s).canLay0 = true
  | .nd k ks, h => by
    unfold OkS at h
    have hk := lay_shs h.2
    have hh := lay_hd hk
    cases k with
    | whole lo hi => unfold shD; simp [PyData.canLayAll0, PyData.canLay0]; decide +kernel
    | text s => unfold shD; have h1 : PyData.strOk s = true := h.1; simp [PyData.canLayAll0, PyData.canLay0, h1]; decide +kernel
    | row => unfold shD; simp [PyData.canLayAll0, PyData.canLay0, hk]; decide +kernel
    | pick ms => unfold shD; have h1 : ∀ m ∈ ms, PyData.strOk m = true := h.1; simp [PyData.canLayAll0, PyData.canLay0, lay_pairs h1 hk]; decide +kernel
    | use x => unfold shD; have h1 : PyData.strOk x = true := h.1; simp [PyData.canLayAll0, PyData.canLay0, h1]; decide +kernel
    | many => unfold shD; simp [PyData.canLayAll0, PyData.canLay0] at hh ⊢; exact ⟨by decide +kernel, hh⟩
    | rising => unfold shD; simp [PyData.canLayAll0, PyData.canLay0] at hh ⊢; exact ⟨by decide +kernel, hh⟩
    | unlike => unfold shD; simp [PyData.canLayAll0, PyData.canLay0] at hh ⊢; exact ⟨by decide +kernel, hh⟩
    | alike t => unfold shD; simp [PyData.canLayAll0, PyData.canLay0] at hh ⊢; exact ⟨by decide +kernel, hh⟩
theorem lay_shs : ∀ {ss : List Sh}, OkL ss → PyData.canLayAll0 (shDs ss) = true
  | [], h => by unfold shDs; rfl
  | s :: ss, h => by
    unfold OkL at h
    unfold shDs PyData.canLayAll0
    rw [lay_sh h.1, lay_shs h.2]; rfl
end
theorem OkL.drop : ∀ {ss : List Sh} {i : Nat}, OkL ss → OkL (ss.drop i)
  | [], i, h => by rw [List.drop_nil]; exact h
  | s :: ss, 0, h => h
  | s :: ss, i + 1, h => by
    unfold OkL at h
    show OkL (ss.drop i)
    exact OkL.drop h.2
theorem dep_pairs : ∀ {ms : List Str} {ds : List DT}, PyData.depthAll (pairs ms ds) ≤ PyData.depthAll ds + 1
  | [], ds => by unfold pairs; simp [PyData.depthAll]
  | m :: ms, [] => by unfold pairs; simp [PyData.depthAll]
  | m :: ms, d :: ds => by
    have := dep_pairs (ms := ms) (ds := ds)
    unfold pairs
    simp only [PyData.depthAll, PyData.depth] at *
    omega
mutual
theorem dep_sh : ∀ {s : Sh}, (shD s).depth ≤ 3 * s.ht
  | .nd k ks => by
    have hk := dep_shs (ss := ks)
    have hh : ((shDs ks).headD .none).depth ≤ 3 * Sh.hts ks := by
      cases e : shDs ks with
      | nil => simp [PyData.depth]
      | cons d ds =>
        rw [e] at hk
        simp only [PyData.depthAll] at hk
        show d.depth ≤ _
        omega
    have hp := fun ms => dep_pairs (ms := ms) (ds := shDs ks)
    unfold Sh.ht
    cases k with
    | pick ms =>
      have := hp ms
      unfold shD
      simp only [PyData.depthAll, PyData.depth]
      omega
    | _ =>
      unfold shD
      simp only [PyData.depthAll, PyData.depth]
      omega
theorem dep_shs : ∀ {ss : List Sh}, PyData.depthAll (shDs ss) ≤ 3 * Sh.hts ss
  | [] => by unfold shDs Sh.hts; simp [PyData.depthAll]
  | s :: ss => by
    have h1 := dep_sh (s := s)
    have h2 := dep_shs (ss := ss)
    unfold shDs Sh.hts
    simp only [PyData.depthAll]
    omega
end
theorem shaped_tup {ss : List Sh} (h : OkL ss) (hh : Sh.hts ss ≤ 20) : SeqAt.shaped (.tuple (shDs ss)) = true := by
  unfold SeqAt.shaped
  refine Bool.and_eq_true_iff.mpr ⟨lay_shs h, decide_eq_true ?_⟩
  have := dep_shs (ss := ss)
  simp only [PyData.depth]
  omega
theorem DpAll.app {K : PySem.W.Frag} {H : Hp} : ∀ {xs ys : List V} {ds es : List DT}, DpAll K H xs ds → DpAll K H ys es → DpAll K H (xs ++ ys) (ds ++ es)
  | _, _, _, _, .nil, q => q
  | _, _, _, _, .cons h p, q => .cons h (DpAll.app p q)
/-- the heap but for one object -/
def rem (H : Hp) (D : Addr) : Hp := fun b => if b = D then none else H b
theorem rem_ne {H : Hp} {D b : Addr} (h : b ≠ D) : rem H D b = H b := if_neg h
theorem rem_at {H : Hp} {D : Addr} : rem H D D = none := if_pos rfl
theorem rem_same {H : Hp} {D : Addr} : Same (rem H D) H := fun b o h => by
  by_cases e : b = D
  · subst e; rw [rem_at] at h; cases h
  · rw [rem_ne e] at h; exact h
theorem rem_upd {H : Hp} {D : Addr} {o : HO} : Same (rem H D) (L2.upd H D o) := fun b u h => by
  by_cases e : b = D
  · subst e; rw [rem_at] at h; cases h
  · rw [rem_ne e] at h; rw [upd_ne e]; exact h
theorem rem_upd2 {H : Hp} {D : Addr} {o : HO} : Same (rem H D) (rem (L2.upd H D o) D) := fun b u h => by
  by_cases e : b = D
  · subst e; rw [rem_at] at h; cases h
  · rw [rem_ne e] at h; rw [rem_ne e, upd_ne e]; exact h
theorem rem_mono {H H' : Hp} {D : Addr} (s : Same H H') : Same (rem H D) (rem H' D) := fun b u h => by
  by_cases e : b = D
  · subst e; rw [rem_at] at h; cases h
  · rw [rem_ne e] at h; rw [rem_ne e]; exact s _ _ h
theorem same_rem {H H' : Hp} {D : Addr} (s : Same H H') (h : H D = none) : Same H (rem H' D) := fun b u q => by
  rw [rem_ne (ne_of_none q h)]; exact s _ _ q
theorem SqT.rem {K : PySem.W.Frag} {H : Hp} {D a : Addr} {xs zs : List V} (h : SqT K H a xs) (hD : H D = some (.lst zs)) : SqT K (rem H D) a xs := by
  rcases h with (h | ⟨o, h⟩) | h
  · exact .inl (.inl (by rw [rem_ne (ne_of h hD (by intro z; cases z))]; exact h))
  · exact .inl (.inr ⟨o, by rw [rem_ne (ne_of h hD (by intro z; cases z))]; exact h⟩)
  · exact .inr h
/-! ### data whose lists are tracked -/
def Dq (K : PySem.W.Frag) (H : Hp) (v : V) (d : DT) : Prop := ∃ L, Own K H v d L
def DqAll (K : PySem.W.Frag) (H : Hp) (vs : List V) (ds : List DT) : Prop := ∃ L, OwnL K H vs ds L
section
variable {K : PySem.W.Frag} {H H' : Hp} {v : V} {d : DT} {vs ws : List V} {ds es : List DT} {a : Addr}
theorem Dq.mono (e : Same H H') (h : Dq K H v d) : Dq K H' v d := ⟨_, h.choose_spec.mono e⟩
theorem DqAll.mono (e : Same H H') (h : DqAll K H vs ds) : DqAll K H' vs ds := ⟨_, h.choose_spec.mono e⟩
theorem Dq.dp (h : Dq K H v d) : Dp K H v d := h.choose_spec.dp
theorem DqAll.dp (h : DqAll K H vs ds) : DpAll K H vs ds := h.choose_spec.dp
theorem Dq.int (i : Int) : Dq K H (.int i) (.int i) := ⟨_, .int i⟩
theorem Dq.str (i : Str) : Dq K H (.str i) (.str i) := ⟨_, .str i⟩
theorem Dq.tup (h : SqT K H a vs) (q : DqAll K H vs ds) : Dq K H (.ref a) (.tuple ds) := ⟨_, .tup h q.choose_spec⟩
theorem Dq.lst (h : H a = some (.lst vs)) (q : DqAll K H vs ds) : Dq K H (.ref a) (.list ds) := ⟨_, .lst h q.choose_spec⟩
theorem DqAll.nil : DqAll K H [] [] := ⟨_, .nil⟩
theorem DqAll.cons (h : Dq K H v d) (q : DqAll K H vs ds) : DqAll K H (v :: vs) (d :: ds) := ⟨_, .cons h.choose_spec q.choose_spec⟩
theorem Dq.tup_inv (h : Dq K H v (.tuple ds)) : ∃ a xs, v = .ref a ∧ SqT K H a xs ∧ DqAll K H xs ds := by
  obtain ⟨L, h⟩ := h
  cases h with | tup h q => exact ⟨_, _, rfl, h, _, q⟩
theorem Dq.lst_inv (h : Dq K H v (.list ds)) : ∃ a xs, v = .ref a ∧ H a = some (.lst xs) ∧ DqAll K H xs ds := by
  obtain ⟨L, h⟩ := h
  cases h with | lst h q => exact ⟨_, _, rfl, h, _, q⟩
theorem DqAll.cons_inv (h : DqAll K H vs (d :: ds)) : ∃ v vs', vs = v :: vs' ∧ Dq K H v d ∧ DqAll K H vs' ds := by
  obtain ⟨L, h⟩ := h
  cases h with | cons h q => exact ⟨_, _, rfl, ⟨_, h⟩, _, q⟩
theorem DqAll.nil_inv (h : DqAll K H vs []) : vs = [] := by
  obtain ⟨L, h⟩ := h
  cases h; rfl
theorem DqAll.len (h : DqAll K H vs ds) : vs.length = ds.length := DpAll.len h.dp
end
theorem DqAll.app {K : PySem.W.Frag} {H : Hp} : ∀ {ds es : List DT} {xs ys : List V}, DqAll K H xs ds → DqAll K H ys es → DqAll K H (xs ++ ys) (ds ++ es)
  | [], es, xs, ys, h, q => by rw [h.nil_inv]; exact q
  | d :: ds, es, xs, ys, h, q => by
    obtain ⟨v, vs, rfl, h1, h2⟩ := h.cons_inv
    exact .cons h1 (DqAll.app h2 q)
theorem DqAll.get {K : PySem.W.Frag} {H : Hp} : ∀ {ds : List DT} {vs : List V} {i : Nat} {v : V}, DqAll K H vs ds → vs[i]? = some v → ∃ d, ds[i]? = some d ∧ Dq K H v d
  | [], vs, i, v, h, e => by rw [h.nil_inv] at e; simp at e
  | d :: ds, vs, i, v, h, e => by
    obtain ⟨w, ws, rfl, h1, h2⟩ := h.cons_inv
    cases i with
    | zero =>
      simp at e
      subst e
      exact ⟨d, rfl, h1⟩
    | succ i => simpa using DqAll.get (i := i) h2 (by simpa using e)
theorem rows_len {B : Book} : ∀ {ss : List Sh} {m : Nat} {r : List DT}, r ∈ rowsV B ss m → r.length = ss.length
  | [], m, r, h => by
    rw [rowsV_nil] at h
    by_cases h0 : m = 0
    · rw [if_pos h0] at h; rw [List.mem_singleton.mp h]; rfl
    · rw [if_neg h0] at h; cases h
  | s :: ss, m, r, h => by
    rw [rowsV_cons] at h
    obtain ⟨i, hi⟩ := List.mem_iff_getElem?.mp h
    obtain ⟨f, p, q, x, y, hf, hx, hy, e, _⟩ := blocks_inv hi
    rw [e, List.length_cons, rows_len (List.mem_of_getElem? hy), List.length_cons]
end Pk
set_option Elab.async false
set_option linter.all false
set_option maxRecDepth 100000
set_option maxHeartbeats 4000000
/-! Lw5: the law's own rows and lists are the rows and lists of values. -/
namespace Pk
open PySem PySem.Spec PyProof.Rows L2 Cw
local macro_rules | `(tactic| tm_at "h") => `(tactic| first
  | assumption
  | exact upd_same
  | ((with_reducible refine' upd_old ?h1 ?h2); (case h1 => assumption); (case h2 => tm_at "h"))
  | ((with_reducible refine' upd_oth ?h1 ?h2); (case h1 => first | assumption | (exact Ne.symm (by assumption)) | (exact ne_of_none (by assumption) (by assumption)) | (exact Ne.symm (ne_of_none (by assumption) (by assumption)))); (case h2 => tm_at "h"))
  | ((refine' Same.at (by assumption) ?h3); (case h3 => tm_at "h")))
local macro_rules | `(tactic| tm_at "l") => `(tactic| first
  | assumption
  | exact SqL.of (by tm_at "h")
  | exact SqT.of (by tm_at "h")
  | exact Same.seq (by assumption) (by tm_at "l")
  | exact Cw.Same.tup (by assumption) (by tm_at "l"))
local macro_rules | `(tactic| tm_at "b") => `(tactic| first
  | rfl
  | decide
  | exact decide_eq_true (by first | assumption | rfl | omega)
  | exact decide_eq_false (by first | assumption | omega))
local macro_rules | `(tactic| tm_at "w1") => `(tactic| first
  | ((with_reducible refine' vVar ?h1 ?_); (case h1 => rfl))
  | with_reducible refine' sSeq ?_
  | with_reducible refine' sAsg ?_
  | with_reducible refine' sName ?_
  | with_reducible refine' vOp ?_
  | with_reducible refine' vC ?_
  | with_reducible refine' vCons ?_
  | with_reducible refine' vNil ?_
  | with_reducible refine' vCB ?_
  | with_reducible refine' vFldE ?_
  | with_reducible refine' vAddI ?_
  | with_reducible refine' vSub ?_
  | with_reducible refine' vCmp ?_
  | with_reducible refine' vEqI ?_
  | with_reducible refine' vEqS ?_
  | with_reducible refine' vNeI ?_
  | with_reducible refine' sIf ?_
  | with_reducible refine' vTest ?_
  | with_reducible refine' vTB ?_
  | with_reducible refine' vBl ?_
  | with_reducible refine' sRet ?_
  | with_reducible refine' sDrop ?_
  | with_reducible refine' sNext ?_
  | ((with_reducible refine' iT ?h1 ?_); (case h1 => tm_at "b"))
  | ((with_reducible refine' iN ?h1 ?_); (case h1 => tm_at "b"))
  | with_reducible refine' vMethE ?_
  | with_reducible refine' vCall ?_
  | with_reducible refine' vAnd ?_
  | with_reducible refine' vOr ?_
  | with_reducible refine' vNot ?_
  | with_reducible refine' vAndV ?_
  | with_reducible refine' vOrV ?_
  | with_reducible refine' vNotV ?_
  | with_reducible refine' vIfE ?_
  | with_reducible refine' vTup ?_
  | with_reducible refine' vLst ?_
  | with_reducible refine' vBM ?_
  | with_reducible refine' vBM0 ?_
  | with_reducible refine' vMax2 ?_
  | with_reducible refine' vMin2 ?_
  | with_reducible refine' vInt ?_
  | with_reducible refine' vIntB ?_
  | with_reducible refine' vUn ?_
  | with_reducible refine' vNeg ?_
  | ((with_reducible refine' sAug ?h1 ?_); (case h1 => rfl))
  | with_reducible refine' sIAdd ?_
  | with_reducible refine' sISub ?_
  | with_reducible refine' sStoE ?_
  | ((with_reducible refine' vFld ?h1 ?h2 ?_); (case h1 => tm_at "h"); (case h2 => rfl))
  | ((with_reducible refine' sSto ?h1 ?h2 ?_); (case h1 => tm_at "h"); (case h2 => first | (show 0 < 1000; decide) | (show 1 < 1000; decide) | (show 2 < 1000; decide) | (show 3 < 1000; decide) | (show 4 < 1000; decide) | (show 5 < 1000; decide)))
  | ((with_reducible refine' vLenL ?h1 ?_); (case h1 => tm_at "l"))
  | ((with_reducible refine' vLenT ?h1 ?_); (case h1 => tm_at "l"))
  | with_reducible refine' vSl ?_
  | with_reducible refine' vPart ?_
  | with_reducible refine' vPartI ?_
  | with_reducible refine' vNoPart ?_
  | with_reducible refine' sCons ?_
  | with_reducible refine' sNil ?_
  | with_reducible refine' wAnyE ?_
  | with_reducible refine' wRng1 ?_
  | with_reducible refine' wRng3 ?_
  | with_reducible refine' vRevE ?_
  | with_reducible refine' wEnum ?_
  | with_reducible refine' vDGet ?_
  | with_reducible refine' wRng2 ?_
  | with_reducible refine' wRng1I ?_
  | with_reducible refine' wRng2I ?_
  | with_reducible refine' sFor ?_
  | ((with_reducible refine' sTup ?h1 ?h2 ?_); (case h1 => tm_at "l"); (case h2 => rfl))
  | ((with_reducible refine' vTyL ?h1 ?_); (case h1 => tm_at "h"))
  | ((refine' vMod ?h1 ?_); (case h1 => (show (0 : Int) < _; omega)))
  | fail "stuck")
local macro_rules | `(tactic| tm_at "w") => `(tactic| repeat tm_at "w1")
def LAll (K : PySem.W.Frag) (B : Book) (m : Nat) (sh : Sh) (n : Nat) : Prop :=
  ∀ (H : Hp) (bv sv : V) (Q : VK) (E : XK), Dp K H bv (bkD B) → Dp K H sv (shD sh) → (∀ p H' xs, Same H H' → H' p = some (.lst xs) → DqAll K H' xs (val B n sh) → Q (.ref p) H') → W K m ._law_all [bv, sv, .int n] H Q E
def LRows (K : PySem.W.Frag) (B : Book) (m : Nat) (ks : List Sh) (n : Nat) : Prop :=
  ∀ (H : Hp) (bv sv : V) (Q : VK) (E : XK), Dp K H bv (bkD B) → Dp K H sv (.tuple (shDs ks)) → (∀ p H' xs, Same H H' → H' p = some (.lst xs) → DqAll K H' xs ((rowsV B ks n).map .tuple) → Q (.ref p) H') → W K m ._law_rows [bv, sv, .int n] H Q E
def LLists (K : PySem.W.Frag) (B : Book) (m : Nat) (k0 : Sh) (n : Nat) : Prop :=
  ∀ (H : Hp) (bv sv : V) (Q : VK) (E : XK), Dp K H bv (bkD B) → Dp K H sv (shD k0) → (∀ p H' xs, Same H H' → H' p = some (.lst xs) → DqAll K H' xs (val B n (.nd .many [k0])) → Q (.ref p) H') → W K m ._law_lists [bv, sv, .int n] H Q E
theorem cut_tail {x : V} {xs : List V} : cutV (x :: xs) (some 1) none = xs := by
  unfold cutV HT.sIx
  simp
section
variable {K : PySem.W.Frag} {B : Book} {n N m hb : Nat} {ks : List Sh} {s k0 : Sh}
theorem s_rows_nil : LRows K B (m + 1) [] n := by
  intro H bv sv Q E hB hS q
  obtain ⟨p1, xs, rfl, hT, dA⟩ := Dp.tup_inv hS
  refine ⟨rfl, ?_⟩
  show t__law_rows K (W K m) _ _ _
  unfold t__law_rows
  tm_at "w"
  refine ⟨Nat.zero_le _, fun p hp => ?_⟩
  refine vEqD (Dp.mono (same_upd hp) hS) (.tup (SqT.of upd_same) .nil) (shaped_tup (ss := []) (by unfold OkL; trivial) (by unfold Sh.hts; decide)) (by decide) ?_
  tm_at "w"
  refine ⟨Nat.zero_le _, fun q1 hq1 => ?_⟩
  tm_at "w"
  refine ⟨Nat.zero_le _, fun q2 hq2 => ?_⟩
  tm_at "w"
  refine ⟨by show 1 ≤ sizeLine; decide, fun q3 hq3 => ?_⟩
  tm_at "w"
  refine ⟨by show 2 ≤ sizeLine; decide, fun q4 hq4 => ?_⟩
  tm_at "w"
  have sAll := ((((same_upd hp (o := .tup [])).trans (same_upd hq1 (o := .lst []))).trans (same_upd hq2 (o := .tup []))).trans (same_upd hq3 (o := .lst [.ref q2]))).trans (same_upd hq4 (o := .lst [.ref q1, .ref q3]))
  by_cases h0 : n = 0
  · subst h0
    refine vIxL (SqL.of upd_same) (v := .ref q3) rfl ?_
    refine q q3 _ [.ref q2] sAll (upd_old hq4 upd_same) ?_
    rw [rowsV_nil, if_pos rfl]
    exact .cons (.tup (SqT.of (upd_old hq4 (upd_old hq3 upd_same))) .nil) .nil
  · have e : (if decide ((n : Int) = 0) = true then (1 : Int) else 0) = 0 := if_neg (by simp; omega)
    rw [e]
    refine vIxL (SqL.of upd_same) (v := .ref q1) rfl ?_
    refine q q1 _ [] sAll (upd_old hq4 (upd_old hq3 (upd_old hq2 upd_same))) ?_
    rw [rowsV_nil, if_neg h0]
    exact .nil
/-- the firsts of t with each of rs -/
theorem s_rows {rs : List Sh} (hok : OkL (s :: rs)) (hht : Sh.hts (s :: rs) ≤ 20) (hln : rs.length ≤ 1000) (hn : n ≤ 1000) (hl : ∀ j, j ≤ n → rn B (s :: rs) j ≤ 100000)
    (ihr : ∀ j, j ≤ n → LRows K B (m + 1) rs j) (iha : ∀ j, j ≤ n → LAll K B (m + 1) s j) : LRows K B (m + 2) (s :: rs) n := by
  intro H bv sv Q E hB hS q
  obtain ⟨p1, xs0, rfl, hT, dA0⟩ := Dp.tup_inv hS
  have dA1 : DpAll K H xs0 (shD s :: shDs rs) := by
    have h := dA0
    unfold shDs at h
    exact h
  obtain ⟨x0, xs, rfl, hx0, hxs⟩ := DpAll.cons_inv dA1
  refine ⟨rfl, ?_⟩
  show t__law_rows K (W K (m + 1)) _ _ _
  unfold t__law_rows
  tm_at "w"
  refine ⟨Nat.zero_le _, fun pe hpe => ?_⟩
  refine vEqD (Dp.mono (same_upd hpe) hS) (.tup (SqT.of upd_same) .nil) (shaped_tup hok hht) (by decide) ?_
  tm_at "w"
  refine ⟨Nat.zero_le _, fun pf hpf => ?_⟩
  tm_at "w"
  refine ⟨by omega, by omega, ?_⟩
  have en : ((n : Int) + 1).toNat = n + 1 := by omega
  rw [en]
  refine for_range (fun f σ H' => ∃ (pf : Addr) (ys : List V) (x4 x5 x6 x7 : Option V), Same H H' ∧ H' pf = some (.lst ys) ∧ DqAll K H' ys ((blocks (fun a => val B a s) (rowsV B rs) List.cons n f).map .tuple) ∧ σ = [some bv, some (.ref p1), some (.int n), some (.ref pf), x4, x5, x6, x7])
    ⟨pf, [], none, none, none, none, (same_upd hpe).trans (same_upd hpf), upd_same, .nil, rfl⟩ ?_ ?_
  · rintro f σ H1 hf ⟨pf, ys, x4, x5, x6, x7, hS1, hF1, hY1, rfl⟩
    rw [Int.zero_add]
    tm_at "w"
    refine vSlT (Cw.Same.tup hS1 hT) ?_
    intro p2 H2 hS2 hT2
    rw [cut_tail] at hT2
    tm_at "w"
    have e1 : (n : Int) - (f : Int) = ((n - f : Nat) : Int) := by omega
    rw [e1]
    have s02 := Same.trans hS1 hS2
    refine ihr (n - f) (by omega) H2 bv (.ref p2) _ _ (Dp.mono s02 hB) (.tup hT2 (DpAll.mono s02 hxs)) ?_
    intro pr H3 rv hS3 hR3 hRd
    tm_at "w"
    have s03 := Same.trans s02 hS3
    refine vIxT (Cw.Same.tup s03 hT) (v := x0) (show atI (x0 :: xs) ((0 : Nat) : Int) = some x0 from atI_nat rfl) ?_
    tm_at "w"
    refine iha f (by omega) H3 bv x0 _ _ (Dp.mono s03 hB) (Dp.mono s03 hx0) ?_
    intro pt H4 ts hS4 hT4 hTd
    have s04 := Same.trans s03 hS4
    have s14 : Same H1 H4 := (hS2.trans hS3).trans hS4
    refine wAnyL (SqL.of hT4) ?_
    refine for_list (xs := ts) (fun j σ H' => ∃ (pf : Addr) (ys : List V) (x6 x7 : Option V), Same H4 H' ∧ H' pf = some (.lst ys) ∧ DqAll K H' ys ((blocks (fun a => val B a s) (rowsV B rs) List.cons n f ++ ((val B f s).take j).flatMap fun t => (rowsV B rs (n - f)).map (List.cons t)).map .tuple) ∧
        σ = [some bv, some (.ref p1), some (.int n), some (.ref pf), some (.int f), some (.ref pr), x6, x7])
      ⟨pf, ys, _, _, Same.refl H4, s14 _ _ hF1, by simpa using DqAll.mono s14 hY1, rfl⟩ ?_ ?_ ?_
    · rintro j σ H' hj ⟨pf, ys, y6, y7, hS5, _⟩
      exact SqL.of (hS5 _ _ hT4)
    · rintro j x σ H5 hx ⟨pf, ys, y6, y7, hS5, hF5, hY5, rfl⟩
      obtain ⟨t, ht, htd⟩ := DqAll.get hTd hx
      have hj := (List.getElem?_eq_some_iff.mp ht).1
      tm_at "w"
      refine vLc ?_
      tm_at "w"
      have hR5 := hS5 _ _ (hS4 _ _ hR3)
      have hRd5 := DqAll.mono (Same.trans hS4 hS5) hRd
      refine wAnyL (SqL.of hR5) ?_
      intro D hD
      refine lc_list (xs := rv) (fun k H' => ∃ zs, Same H5 H' ∧ H' D = some (.lst zs) ∧ zs.length = k ∧ DqAll K (rem H' D) zs (((rowsV B rs (n - f)).take k).map fun r => .tuple (t :: r))) ⟨[], same_upd hD, upd_same, rfl, .nil⟩ ?_ ?_ ?_
      · rintro k H' hk ⟨zs, hS6, _⟩
        exact SqL.of (hS6 _ _ hR5)
      · rintro k r H6 hr ⟨zs, hS6, hF6, hzl, hZ6⟩
        obtain ⟨rd, hrd, hrD⟩ := DqAll.get hRd5 hr
        rw [List.getElem?_map] at hrd
        cases hrr : (rowsV B rs (n - f))[k]? with
        | none => rw [hrr] at hrd; cases hrd
        | some row =>
        rw [hrr] at hrd
        have e := Option.some.inj hrd
        subst e
        obtain ⟨pr2, rxs, rfl, hrT, hrA⟩ := Dq.tup_inv hrD
        have hrl : rxs.length = rs.length := by rw [DqAll.len hrA, rows_len (List.mem_of_getElem? hrr)]
        have hkl := (List.getElem?_eq_some_iff.mp hrr).1
        refine sName ⟨rfl, ?_⟩
        refine vYes ?_
        refine iT rfl ?_
        tm_at "w"
        refine ⟨by show 1 ≤ sizeLine; decide, fun p3 hp3 => ?_⟩
        tm_at "w"
        refine vAddT (SqT.of upd_same) (Cw.Same.tup (Same.trans hS6 (same_upd hp3)) hrT) (by show 1 + rxs.length ≤ sizeLine; rw [sizeLine_eq]; omega) ?_
        intro p4 H7 hS7 hT7
        have s67 : Same H6 H7 := (same_upd hp3).trans hS7
        have s57 := Same.trans hS6 s67
        have hrnj : (rowsV B rs (n - f)).length ≤ 100000 := by
          have h1 := hl n (Nat.le_refl n)
          rw [rn_cons] at h1
          have h2 := ahead_mono (cf := cn B s) (cr := rn B rs) (size := n) (f := f + 1) (g := n + 1) (by omega)
          have h3 : ahead (cn B s) (rn B rs) n (f + 1) = ahead (cn B s) (rn B rs) n f + cn B s f * rn B rs (n - f) := rfl
          have h4 : 1 ≤ cn B s f := by show 1 ≤ (val B f s).length; omega
          have h5 : rn B rs (n - f) ≤ cn B s f * rn B rs (n - f) := Nat.le_mul_of_pos_left _ h4
          show rn B rs (n - f) ≤ _
          omega
        refine ⟨zs, s67 _ _ hF6, by rw [hzl, sizeLine_eq]; omega, zs ++ [.ref p4], Same.mut s57 hD, upd_same, by simp [hzl], ?_⟩
        have hD7 := s67 _ _ hF6
        have hDp : Dq K (rem H7 D) (.ref p4) (.tuple (t :: row)) := by
          refine .tup (SqT.rem hT7 hD7) (.cons (Dq.mono (same_rem (Same.trans hS5 s57) ?_) htd) (DqAll.mono (same_rem s57 hD) hrA))
          exact ne_none hS5 hD
        rw [List.take_succ, hrr, List.map_append]
        exact DqAll.mono rem_upd2 (DqAll.app (DqAll.mono (rem_mono s67) hZ6) (.cons hDp .nil))
      · rintro H6 ⟨zs, hS6, hF6, hzl, hZ6⟩
        have hrvl : rv.length = (rowsV B rs (n - f)).length := by rw [DqAll.len hRd, List.length_map]
        rw [hrvl, List.take_length] at hZ6
        have hZ := DqAll.mono rem_same hZ6
        have hln2 : (blocks (fun a => val B a s) (rowsV B rs) List.cons n f).length + (j + 1) * rn B rs (n - f) ≤ 100000 := by
          have h1 := hl n (Nat.le_refl n)
          rw [rn_cons] at h1
          have h2 := ahead_mono (cf := cn B s) (cr := rn B rs) (size := n) (f := f + 1) (g := n + 1) (by omega)
          have h3 : ahead (cn B s) (rn B rs) n (f + 1) = ahead (cn B s) (rn B rs) n f + cn B s f * rn B rs (n - f) := rfl
          have h4 : (j + 1) * rn B rs (n - f) ≤ cn B s f * rn B rs (n - f) := Nat.mul_le_mul_right _ hj
          have h5 : (blocks (fun a => val B a s) (rowsV B rs) List.cons n f).length = ahead (cn B s) (rn B rs) n f := by rw [blocks_len]; rfl
          omega
        have hyl : ys.length = (blocks (fun a => val B a s) (rowsV B rs) List.cons n f).length + j * rn B rs (n - f) := by
          rw [DqAll.len hY5, List.length_map, List.length_append, flat_len, List.length_take, Nat.min_eq_left (Nat.le_of_lt hj)]
          rfl
        refine vAddL (hS6 _ _ hF5) hF6 ?_ ?_
        · rw [hyl, hzl, hrvl, sizeLine_eq]
          rw [Nat.succ_mul] at hln2
          show _ + (rowsV B rs (n - f)).length ≤ _
          have : rn B rs (n - f) = (rowsV B rs (n - f)).length := rfl
          omega
        · intro p hp
          tm_at "w"
          refine ⟨p, _, _, _, (Same.trans hS5 hS6).trans (same_upd hp), upd_same, ?_, rfl⟩
          rw [List.take_succ, ht, List.flatMap_append, ← List.append_assoc, List.map_append]
          refine DqAll.app (DqAll.mono (Same.trans hS6 (same_upd hp)) hY5) (DqAll.mono (same_upd hp) ?_)
          have e3 : ((Option.toList (some t)).flatMap fun t => (rowsV B rs (n - f)).map (List.cons t)).map PyData.tuple = (rowsV B rs (n - f)).map fun r => PyData.tuple (t :: r) := by
            show (((rowsV B rs (n - f)).map (List.cons t)) ++ []).map PyData.tuple = _
            rw [List.append_nil, List.map_map]; rfl
          rw [e3]
          exact hZ
    · rintro σ H5 ⟨pf, ys, y6, y7, hS5, hF5, hY5, rfl⟩
      have htl : ts.length = (val B f s).length := DqAll.len hTd
      rw [htl, List.take_length] at hY5
      exact ⟨pf, ys, _, _, _, _, Same.trans s04 hS5, hF5, hY5, rfl⟩
  · rintro σ H1 ⟨pf, ys, x4, x5, x6, x7, hS1, hF1, hY1, rfl⟩
    dsimp only
    tm_at "w"
    refine q pf H1 ys hS1 hF1 ?_
    rw [rowsV_cons]
    exact hY1
theorem s_lists_nil : LLists K B (m + 1) k0 0 := by
  intro H bv sv Q E hB hS q
  refine ⟨rfl, ?_⟩
  show t__law_lists K (W K m) _ _ _
  unfold t__law_lists
  tm_at "w"
  refine ⟨Nat.zero_le _, fun q1 hq1 => ?_⟩
  tm_at "w"
  refine ⟨by show 1 ≤ sizeLine; decide, fun q2 hq2 => ?_⟩
  refine q q2 _ [.ref q1] ((same_upd hq1).trans (same_upd hq2)) upd_same ?_
  rw [val_many, if_pos rfl]
  exact .cons (.lst (upd_old hq2 upd_same) .nil) .nil
theorem many_len {n : Nat} {ds : List DT} : (.list ds) ∈ val B n (.nd .many [k0]) → ds.length ≤ n := by
  induction n using Nat.strongRecOn generalizing ds with
  | _ n ih =>
    intro h
    rw [val_many] at h
    by_cases hn : n = 0
    · rw [if_pos hn] at h
      have := List.mem_singleton.mp h
      cases this
      exact Nat.zero_le _
    · rw [if_neg hn] at h
      obtain ⟨num, hnum⟩ := List.mem_iff_getElem?.mp h
      obtain ⟨f, p, r, x, y, hf, hx, hy, e, _⟩ := blocks_inv hnum
      obtain ⟨yl, rfl⟩ := many_list (List.mem_of_getElem? hy)
      have e2 : ds = x :: yl := by
        have h2 : PyData.list ds = .list (x :: yl) := e
        cases h2; rfl
      have := ih (n - 1 - f) (by omega) (List.mem_of_getElem? hy)
      rw [e2, List.length_cons]
      omega
theorem s_lists (hn : n + 1 ≤ 1000) (hl : ∀ j, j ≤ n + 1 → cn B (.nd .many [k0]) j ≤ 100000)
    (ihr : ∀ j, j ≤ n → LLists K B (m + 1) k0 j) (iha : ∀ j, j ≤ n → LAll K B (m + 1) k0 j) : LLists K B (m + 2) k0 (n + 1) := by
  intro H bv sv Q E hB hS q
  have hcn : cn B (.nd .many [k0]) (n + 1) = ahead (cn B k0) (cn B (.nd .many [k0])) n (n + 1) := by
    have e0 : cn B (.nd .many [k0]) (n + 1) = (val B (n + 1) (.nd .many [k0])).length := rfl
    rw [e0, val_many, if_neg (Nat.succ_ne_zero n), blocks_len]
    rfl
  refine ⟨rfl, ?_⟩
  show t__law_lists K (W K (m + 1)) _ _ _
  unfold t__law_lists
  tm_at "w"
  refine ⟨Nat.zero_le _, fun pf hpf => ?_⟩
  tm_at "w"
  refine ⟨by omega, by omega, ?_⟩
  rw [Int.toNat_natCast]
  refine for_range (fun f σ H' => ∃ (pf : Addr) (ys : List V) (x4 x5 x6 x7 : Option V), Same H H' ∧ H' pf = some (.lst ys) ∧ DqAll K H' ys (blocks (fun a => val B a k0) (fun a => val B a (.nd .many [k0])) consD n f) ∧ σ = [some bv, some sv, some (.int ((n + 1 : Nat) : Int)), some (.ref pf), x4, x5, x6, x7])
    ⟨pf, [], none, none, none, none, same_upd hpf, upd_same, .nil, rfl⟩ ?_ ?_
  · rintro f σ H1 hf ⟨pf, ys, x4, x5, x6, x7, hS1, hF1, hY1, rfl⟩
    rw [Int.zero_add]
    tm_at "w"
    have e1 : ((n + 1 : Nat) : Int) - 1 - (f : Int) = ((n - f : Nat) : Int) := by omega
    rw [e1]
    refine ihr (n - f) (by omega) H1 bv sv _ _ (Dp.mono hS1 hB) (Dp.mono hS1 hS) ?_
    intro pr H3 rv hS3 hR3 hRd
    tm_at "w"
    have s03 := Same.trans hS1 hS3
    refine iha f (by omega) H3 bv sv _ _ (Dp.mono s03 hB) (Dp.mono s03 hS) ?_
    intro pt H4 ts hS4 hT4 hTd
    have s04 := Same.trans s03 hS4
    have s14 : Same H1 H4 := Same.trans hS3 hS4
    refine wAnyL (SqL.of hT4) ?_
    refine for_list (xs := ts) (fun j σ H' => ∃ (pf : Addr) (ys : List V) (x6 x7 : Option V), Same H4 H' ∧ H' pf = some (.lst ys) ∧ DqAll K H' ys (blocks (fun a => val B a k0) (fun a => val B a (.nd .many [k0])) consD n f ++ ((val B f k0).take j).flatMap fun t => (val B (n - f) (.nd .many [k0])).map (consD t)) ∧
        σ = [some bv, some sv, some (.int ((n + 1 : Nat) : Int)), some (.ref pf), some (.int f), some (.ref pr), x6, x7])
      ⟨pf, ys, _, _, Same.refl H4, s14 _ _ hF1, by simpa using DqAll.mono s14 hY1, rfl⟩ ?_ ?_ ?_
    · rintro j σ H' hj ⟨pf, ys, y6, y7, hS5, _⟩
      exact SqL.of (hS5 _ _ hT4)
    · rintro j x σ H5 hx ⟨pf, ys, y6, y7, hS5, hF5, hY5, rfl⟩
      obtain ⟨t, ht, htd⟩ := DqAll.get hTd hx
      have hj := (List.getElem?_eq_some_iff.mp ht).1
      have hln2 : (blocks (fun a => val B a k0) (fun a => val B a (.nd .many [k0])) consD n f).length + (j + 1) * cn B (.nd .many [k0]) (n - f) ≤ 100000 := by
        have h1 := hl (n + 1) (Nat.le_refl _)
        rw [hcn] at h1
        have h2 := ahead_mono (cf := cn B k0) (cr := cn B (.nd .many [k0])) (size := n) (f := f + 1) (g := n + 1) (by omega)
        have h3 : ahead (cn B k0) (cn B (.nd .many [k0])) n (f + 1) = ahead (cn B k0) (cn B (.nd .many [k0])) n f + cn B k0 f * cn B (.nd .many [k0]) (n - f) := rfl
        have h4 : (j + 1) * cn B (.nd .many [k0]) (n - f) ≤ cn B k0 f * cn B (.nd .many [k0]) (n - f) := Nat.mul_le_mul_right _ hj
        have h5 : (blocks (fun a => val B a k0) (fun a => val B a (.nd .many [k0])) consD n f).length = ahead (cn B k0) (cn B (.nd .many [k0])) n f := by rw [blocks_len]; rfl
        omega
      have hcm : cn B (.nd .many [k0]) (n - f) = (val B (n - f) (.nd .many [k0])).length := rfl
      tm_at "w"
      refine vLc ?_
      tm_at "w"
      have hR5 := hS5 _ _ (hS4 _ _ hR3)
      have hRd5 := DqAll.mono (Same.trans hS4 hS5) hRd
      refine wAnyL (SqL.of hR5) ?_
      intro D hD
      refine lc_list (xs := rv) (fun k H' => ∃ zs, Same H5 H' ∧ H' D = some (.lst zs) ∧ zs.length = k ∧ DqAll K (rem H' D) zs (((val B (n - f) (.nd .many [k0])).take k).map (consD t))) ⟨[], same_upd hD, upd_same, rfl, .nil⟩ ?_ ?_ ?_
      · rintro k H' hk ⟨zs, hS6, _⟩
        exact SqL.of (hS6 _ _ hR5)
      · rintro k r H6 hr ⟨zs, hS6, hF6, hzl, hZ6⟩
        obtain ⟨rd, hrr, hrD⟩ := DqAll.get hRd5 hr
        obtain ⟨row, rfl⟩ := many_list (List.mem_of_getElem? hrr)
        obtain ⟨pr2, rxs, rfl, hrT, hrA⟩ := Dq.lst_inv hrD
        have hrl : rxs.length ≤ n - f := by rw [DqAll.len hrA]; exact many_len (List.mem_of_getElem? hrr)
        have hkl := (List.getElem?_eq_some_iff.mp hrr).1
        refine sName ⟨rfl, ?_⟩
        refine vYes ?_
        refine iT rfl ?_
        tm_at "w"
        refine ⟨by show 1 ≤ sizeLine; decide, fun p3 hp3 => ?_⟩
        tm_at "w"
        refine vAddL upd_same (upd_old hp3 (hS6 _ _ hrT)) (by show 1 + rxs.length ≤ sizeLine; rw [sizeLine_eq]; omega) ?_
        intro p4 hp4
        have s67 : Same H6 _ := (same_upd hp3 (o := .lst [x])).trans (same_upd hp4 (o := .lst ([x] ++ rxs)))
        have s57 := Same.trans hS6 s67
        have hD7 := s67 _ _ hF6
        have h4D : p4 ≠ D := Ne.symm (ne_of_none (upd_old hp3 hF6) hp4)
        refine ⟨zs, hD7, by rw [hzl, sizeLine_eq]; have : 1 * cn B (.nd .many [k0]) (n - f) ≤ (j + 1) * cn B (.nd .many [k0]) (n - f) := Nat.mul_le_mul_right _ (by omega); omega, zs ++ [.ref p4], Same.mut s57 hD, upd_same, by simp [hzl], ?_⟩
        rw [List.take_succ, hrr, List.map_append]
        refine DqAll.mono rem_upd2 (DqAll.app (DqAll.mono (rem_mono s67) hZ6) (.cons ?_ .nil))
        refine Dq.lst (vs := x :: rxs) (by rw [rem_ne h4D, upd_same]; rfl) (.cons (Dq.mono (same_rem (Same.trans hS5 s57) ?_) htd) (DqAll.mono (same_rem s57 hD) hrA))
        exact ne_none hS5 hD
      · rintro H6 ⟨zs, hS6, hF6, hzl, hZ6⟩
        have hrvl : rv.length = (val B (n - f) (.nd .many [k0])).length := DqAll.len hRd
        rw [hrvl, List.take_length] at hZ6
        have hZ := DqAll.mono rem_same hZ6
        have hyl : ys.length = (blocks (fun a => val B a k0) (fun a => val B a (.nd .many [k0])) consD n f).length + j * cn B (.nd .many [k0]) (n - f) := by
          rw [DqAll.len hY5, List.length_append, flat_len, List.length_take, Nat.min_eq_left (Nat.le_of_lt hj)]
          rfl
        refine vAddL (hS6 _ _ hF5) hF6 ?_ ?_
        · rw [hyl, hzl, hrvl, sizeLine_eq]
          rw [Nat.succ_mul] at hln2
          omega
        · intro p hp
          tm_at "w"
          refine ⟨p, _, _, _, (Same.trans hS5 hS6).trans (same_upd hp), upd_same, ?_, rfl⟩
          rw [List.take_succ, ht, List.flatMap_append, ← List.append_assoc]
          refine DqAll.app (DqAll.mono (Same.trans hS6 (same_upd hp)) hY5) (DqAll.mono (same_upd hp) ?_)
          have e3 : ((Option.toList (some t)).flatMap fun t => (val B (n - f) (.nd .many [k0])).map (consD t)) = (val B (n - f) (.nd .many [k0])).map (consD t) := List.append_nil _
          rw [e3]
          exact hZ
    · rintro σ H5 ⟨pf, ys, y6, y7, hS5, hF5, hY5, rfl⟩
      have htl : ts.length = (val B f k0).length := DqAll.len hTd
      rw [htl, List.take_length] at hY5
      exact ⟨pf, ys, _, _, _, _, Same.trans s04 hS5, hF5, hY5, rfl⟩
  · rintro σ H1 ⟨pf, ys, x4, x5, x6, x7, hS1, hF1, hY1, rfl⟩
    dsimp only
    tm_at "w"
    refine q pf H1 ys hS1 hF1 ?_
    rw [val_many, if_neg (Nat.succ_ne_zero n)]
    exact hY1
end
end Pk
set_option Elab.async false
set_option linter.all false
set_option maxRecDepth 100000
set_option maxHeartbeats 4000000
/-! Lw6: the law's own values are the values. -/
namespace Pk
open PySem PySem.Spec PyProof.Rows L2 Cw
local macro_rules | `(tactic| tm_at "h") => `(tactic| first
  | assumption
  | exact upd_same
  | ((with_reducible refine' upd_old ?h1 ?h2); (case h1 => assumption); (case h2 => tm_at "h"))
  | ((with_reducible refine' upd_oth ?h1 ?h2); (case h1 => first | assumption | (exact Ne.symm (by assumption)) | (exact ne_of_none (by assumption) (by assumption)) | (exact Ne.symm (ne_of_none (by assumption) (by assumption)))); (case h2 => tm_at "h"))
  | ((refine' Same.at (by assumption) ?h3); (case h3 => tm_at "h")))
local macro_rules | `(tactic| tm_at "l") => `(tactic| first
  | assumption
  | exact SqL.of (by tm_at "h")
  | exact SqT.of (by tm_at "h")
  | exact Same.seq (by assumption) (by tm_at "l")
  | exact Cw.Same.tup (by assumption) (by tm_at "l"))
local macro_rules | `(tactic| tm_at "b") => `(tactic| first
  | rfl
  | decide
  | exact decide_eq_true (by first | assumption | rfl | omega)
  | exact decide_eq_false (by first | assumption | omega))
local macro_rules | `(tactic| tm_at "w1") => `(tactic| first
  | ((with_reducible refine' vVar ?h1 ?_); (case h1 => rfl))
  | with_reducible refine' sSeq ?_
  | with_reducible refine' sAsg ?_
  | with_reducible refine' sName ?_
  | with_reducible refine' vOp ?_
  | with_reducible refine' vC ?_
  | with_reducible refine' vCons ?_
  | with_reducible refine' vNil ?_
  | with_reducible refine' vCB ?_
  | with_reducible refine' vFldE ?_
  | with_reducible refine' vAddI ?_
  | with_reducible refine' vSub ?_
  | with_reducible refine' vCmp ?_
  | with_reducible refine' vEqI ?_
  | with_reducible refine' vEqS ?_
  | with_reducible refine' vNeI ?_
  | with_reducible refine' sIf ?_
  | with_reducible refine' vTest ?_
  | with_reducible refine' vTB ?_
  | with_reducible refine' vBl ?_
  | with_reducible refine' sRet ?_
  | with_reducible refine' sDrop ?_
  | with_reducible refine' sNext ?_
  | ((with_reducible refine' iT ?h1 ?_); (case h1 => tm_at "b"))
  | ((with_reducible refine' iN ?h1 ?_); (case h1 => tm_at "b"))
  | with_reducible refine' vMethE ?_
  | with_reducible refine' vCall ?_
  | with_reducible refine' vAnd ?_
  | with_reducible refine' vOr ?_
  | with_reducible refine' vNot ?_
  | with_reducible refine' vAndV ?_
  | with_reducible refine' vOrV ?_
  | with_reducible refine' vNotV ?_
  | with_reducible refine' vIfE ?_
  | with_reducible refine' vTup ?_
  | with_reducible refine' vLst ?_
  | with_reducible refine' vBM ?_
  | with_reducible refine' vBM0 ?_
  | with_reducible refine' vMax2 ?_
  | with_reducible refine' vMin2 ?_
  | with_reducible refine' vInt ?_
  | with_reducible refine' vIntB ?_
  | with_reducible refine' vUn ?_
  | with_reducible refine' vNeg ?_
  | ((with_reducible refine' sAug ?h1 ?_); (case h1 => rfl))
  | with_reducible refine' sIAdd ?_
  | with_reducible refine' sISub ?_
  | with_reducible refine' sStoE ?_
  | ((with_reducible refine' vFld ?h1 ?h2 ?_); (case h1 => tm_at "h"); (case h2 => rfl))
  | ((with_reducible refine' sSto ?h1 ?h2 ?_); (case h1 => tm_at "h"); (case h2 => first | (show 0 < 1000; decide) | (show 1 < 1000; decide) | (show 2 < 1000; decide) | (show 3 < 1000; decide) | (show 4 < 1000; decide) | (show 5 < 1000; decide)))
  | ((with_reducible refine' vLenL ?h1 ?_); (case h1 => tm_at "l"))
  | ((with_reducible refine' vLenT ?h1 ?_); (case h1 => tm_at "l"))
  | with_reducible refine' vSl ?_
  | with_reducible refine' vPart ?_
  | with_reducible refine' vPartI ?_
  | with_reducible refine' vNoPart ?_
  | with_reducible refine' sCons ?_
  | with_reducible refine' sNil ?_
  | with_reducible refine' wAnyE ?_
  | with_reducible refine' wRng1 ?_
  | with_reducible refine' wRng3 ?_
  | with_reducible refine' vRevE ?_
  | with_reducible refine' wEnum ?_
  | with_reducible refine' vDGet ?_
  | with_reducible refine' wRng2 ?_
  | with_reducible refine' wRng1I ?_
  | with_reducible refine' wRng2I ?_
  | with_reducible refine' sFor ?_
  | ((with_reducible refine' sTup ?h1 ?h2 ?_); (case h1 => tm_at "l"); (case h2 => rfl))
  | ((with_reducible refine' vTyL ?h1 ?_); (case h1 => tm_at "h"))
  | ((refine' vMod ?h1 ?_); (case h1 => (show (0 : Int) < _; omega)))
  | fail "stuck")
local macro_rules | `(tactic| tm_at "w") => `(tactic| repeat tm_at "w1")
theorem dq_strs {K : PySem.W.Frag} {H : Hp} : ∀ ws : List Str, DqAll K H (ws.map V.str) (ws.map PyData.str)
  | [] => .nil
  | w :: ws => .cons (.str w) (dq_strs ws)
theorem dq_ints {K : PySem.W.Frag} {H : Hp} : ∀ {ds : List DT}, (∀ d ∈ ds, ∃ i, d = .int i) → DqAll K H (ds.map fun d => match d with | .int i => V.int i | _ => V.non) ds
  | [], _ => .nil
  | d :: ds, h => by
    obtain ⟨i, rfl⟩ := h d List.mem_cons_self
    exact .cons (.int i) (dq_ints fun d hd => h d (List.mem_cons_of_mem _ hd))
theorem wholes_ints {lo hi : Int} {n : Nat} : ∀ d ∈ wholes lo hi n, ∃ i, d = .int i := by
  intro d hd
  cases n with
  | zero => exact ⟨lo, List.mem_singleton.mp hd⟩
  | succ n =>
    unfold wholes at hd
    obtain ⟨k, _, rfl⟩ := List.mem_map.mp hd
    exact ⟨_, rfl⟩
section
variable {K : PySem.W.Frag} {B : Book} {n N m hb : Nat} {ks : List Sh} {s k0 : Sh}
theorem a_whole {lo hi : Int} (hlh : lo ≤ hi) (hn : n ≤ 60) (hl : cn B (.nd (.whole lo hi) ks) n ≤ 100000) : LAll K B (m + 2) (.nd (.whole lo hi) ks) n := by
  intro H bv sv Q E hB hS q
  have hv : val B n (.nd (.whole lo hi) ks) = wholes lo hi n := by rw [val_eq]; rfl
  have hl2 : (wholes lo hi n).length ≤ 100000 := by rw [← hv]; exact hl
  unfold shD at hS
  obtain ⟨p, x0, x1, x2, rfl, hT, d0, d1, d2⟩ := Dp.t3 hS
  rw [Dp.str_inv d0, Dp.int_inv d1, Dp.int_inv d2] at hT
  refine ⟨rfl, ?_⟩
  show t__law_all K (W K (m + 1)) _ _ _
  unfold t__law_all
  tm_at "w"
  refine vIxT hT (v := .str "whole") rfl ?_
  tm_at "w"
  refine vIxT hT (v := .int lo) rfl ?_
  tm_at "w"
  refine vIxT hT (v := .int hi) rfl ?_
  tm_at "w"
  refine w_numbers hlh hn hl2 fun p H' hS hp => q p H' _ hS hp ?_
  rw [hv]
  exact dq_ints wholes_ints
theorem a_text {s : Str} (hs : s.length ≤ 100) (hn : n ≤ 1000) (hl : ∀ j, j ≤ n → cn B (.nd (.text s) ks) j ≤ 100000) : LAll K B (m + 2) (.nd (.text s) ks) n := by
  intro H bv sv Q E hB hS q
  have hv : ∀ n, val B n (.nd (.text s) ks) = (textsS s n).map .str := by intro n; rw [val_eq]; rfl
  have hl2 : ∀ j, j ≤ n → (textsS s j).length ≤ 100000 := by
    intro j hj
    have h := hl j hj
    unfold cn at h
    rw [hv, List.length_map] at h; exact h
  unfold shD at hS
  obtain ⟨p, x0, x1, rfl, hT, d0, d1⟩ := Dp.t2 hS
  rw [Dp.str_inv d0, Dp.str_inv d1] at hT
  refine ⟨rfl, ?_⟩
  show t__law_all K (W K (m + 1)) _ _ _
  unfold t__law_all
  tm_at "w"
  refine vIxT hT (v := .str "text") rfl ?_
  tm_at "w"
  refine vIxT hT (v := .str "text") rfl ?_
  tm_at "w"
  refine vIxT hT (v := .str s) rfl ?_
  tm_at "w"
  refine w_texts hn hl2 hs fun p H' hS hp => q p H' _ hS hp ?_
  rw [hv]
  exact dq_strs _
theorem a_row (ih : LRows K B (m + 1) ks n) : LAll K B (m + 2) (.nd .row ks) n := by
  intro H bv sv Q E hB hS q
  unfold shD at hS
  obtain ⟨p, x0, x1, rfl, hT, d0, d1⟩ := Dp.t2 hS
  rw [Dp.str_inv d0] at hT
  refine ⟨rfl, ?_⟩
  show t__law_all K (W K (m + 1)) _ _ _
  unfold t__law_all
  tm_at "w"
  refine vIxT hT (v := .str "row") rfl ?_
  tm_at "w"
  refine vIxT hT (v := .str "row") rfl ?_
  tm_at "w"
  refine vIxT hT (v := .str "row") rfl ?_
  tm_at "w"
  refine vIxT hT (v := x1) rfl ?_
  tm_at "w"
  refine ih H bv x1 _ _ hB d1 fun p H' xs hS hp hd => q p H' xs hS hp ?_
  rw [val_row]
  exact hd
theorem a_many (ih : LLists K B (m + 1) k0 n) : LAll K B (m + 2) (.nd .many [k0]) n := by
  intro H bv sv Q E hB hS q
  unfold shD at hS
  rw [hd1] at hS
  obtain ⟨p, x0, x1, rfl, hT, d0, d1⟩ := Dp.t2 hS
  rw [Dp.str_inv d0] at hT
  refine ⟨rfl, ?_⟩
  show t__law_all K (W K (m + 1)) _ _ _
  unfold t__law_all
  tm_at "w"
  refine vIxT hT (v := .str "many") rfl ?_
  tm_at "w"
  refine vIxT hT (v := .str "many") rfl ?_
  tm_at "w"
  refine vIxT hT (v := .str "many") rfl ?_
  tm_at "w"
  refine vIxT hT (v := .str "many") rfl ?_
  tm_at "w"
  refine vIxT hT (v := x1) rfl ?_
  tm_at "w"
  exact ih H bv x1 _ _ hB d1 q
theorem a_use {x : Str} (hb1 : B = [(x, s)]) (ih : ∀ j, j < n → LAll K B (m + 1) s j) : LAll K B (m + 2) (.nd (.use x) ks) n := by
  intro H bv sv Q E hB hS q
  have hlk : look B x = s := by rw [hb1]; unfold look; simp
  unfold shD at hS
  obtain ⟨p, x0, x1, rfl, hT, d0, d1⟩ := Dp.t2 hS
  rw [Dp.str_inv d0, Dp.str_inv d1] at hT
  refine ⟨rfl, ?_⟩
  show t__law_all K (W K (m + 1)) _ _ _
  unfold t__law_all
  tm_at "w"
  refine vIxT hT (v := .str "use") rfl ?_
  tm_at "w"
  refine vIxT hT (v := .str "use") rfl ?_
  tm_at "w"
  refine vIxT hT (v := .str "use") rfl ?_
  tm_at "w"
  refine vIxT hT (v := .str "use") rfl ?_
  tm_at "w"
  refine vIxT hT (v := .str "use") rfl ?_
  tm_at "w"
  refine iD (fun h0 => ?_) (fun h0 => ?_)
  · have h0' : n = 0 := by omega
    subst h0'
    tm_at "w"
    refine ⟨Nat.zero_le _, fun q1 hq1 => ?_⟩
    refine q q1 _ [] (same_upd hq1) upd_same ?_
    rw [val_use, if_pos rfl]
    exact .nil
  · dsimp only
    tm_at "w"
    have hB2 := hB
    rw [hb1] at hB2
    obtain ⟨pb, bs, rfl, hbT, hbA⟩ := Dp.lst_inv hB2
    obtain ⟨b0, bs', rfl, hb0, hbN⟩ := DpAll.cons_inv hbA
    have hbn := DpAll.nil_inv hbN
    subst hbn
    obtain ⟨pt, y0, y1, rfl, hyT, e0, e1⟩ := Dp.t2 hb0
    rw [Dp.str_inv e0] at hyT
    refine ⟨pb, [pt], [((Sum.inr x : Key), y1)], rfl, hbT, .cons hyT .nil, fun pd hpd => ?_⟩
    tm_at "w"
    refine vIxT (Cw.Same.tup (same_upd hpd) hT) (v := .str x) rfl ?_
    refine ⟨pd, y1, rfl, dgetS upd_same ?_, ?_⟩
    · show valV (putK [] (Sum.inr x) y1) (Sum.inr x) = some y1
      rw [valV_put, if_pos rfl]
    · tm_at "w"
      have e2 : (n : Int) - 1 = ((n - 1 : Nat) : Int) := by omega
      rw [e2]
      refine ih (n - 1) (by omega) _ _ y1 _ _ (Dp.mono (same_upd hpd) hB) (Dp.mono (same_upd hpd) e1) ?_
      intro p2 H2 xs hS2 hp2 hd2
      refine q p2 H2 xs ((same_upd hpd).trans hS2) hp2 ?_
      rw [val_use, if_neg (by omega), hlk]
      exact hd2
theorem a_alike {t : Nat} (ht0 : 0 < t) (ht1 : t ≤ 1000) (hn : n ≤ 1000) (hl : cn B (.nd (.alike t) [k0]) n ≤ 100000) (ih : ∀ j, j < n → LAll K B (m + 1) k0 j) : LAll K B (m + 2) (.nd (.alike t) [k0]) n := by
  intro H bv sv Q E hB hS q
  unfold shD at hS
  rw [hd1] at hS
  obtain ⟨p, x0, x1, x2, rfl, hT, d0, d1, d2⟩ := Dp.t3 hS
  rw [Dp.str_inv d0, Dp.int_inv d2] at hT
  refine ⟨rfl, ?_⟩
  show t__law_all K (W K (m + 1)) _ _ _
  unfold t__law_all
  tm_at "w"
  refine vIxT hT (v := .str "alike") rfl ?_
  tm_at "w"
  refine vIxT hT (v := .str "alike") rfl ?_
  tm_at "w"
  refine vIxT hT (v := .str "alike") rfl ?_
  tm_at "w"
  refine vIxT hT (v := .str "alike") rfl ?_
  tm_at "w"
  refine vIxT hT (v := .str "alike") rfl ?_
  tm_at "w"
  refine vIxT hT (v := .str "alike") rfl ?_
  tm_at "w"
  refine vIxT hT (v := .int t) rfl ?_
  tm_at "w"
  have bad : (n < t ∨ n % t ≠ 0) → tRet (tLst tNil) ⟨fun _ _ => False, Q, fun _ _ => False, fun _ _ => False⟩ [] H := by
    intro hb
    refine sRet ?_
    refine vLst ?_
    refine vNil ⟨Nat.zero_le _, fun q1 hq1 => ?_⟩
    refine q q1 _ [] (same_upd hq1) upd_same ?_
    rw [val_alike, if_pos hb]
    exact .nil
  have em : (n : Int) % (t : Int) = ((n % t : Nat) : Int) := by rw [Int.natCast_emod]
  refine iD (fun hd => ?_) (fun hd => ?_)
  · exact bad (.inl (by omega))
  · refine vTest ?_
    refine vOp ?_
    refine vOp ?_
    refine vVar rfl ?_
    refine vOp ?_
    refine vVar rfl ?_
    refine vC ?_
    refine vIxT hT (v := .int t) rfl ?_
    refine vMod (by omega) ?_
    refine vC ?_
    refine vCmp ?_
    refine vBl ?_
    refine iD (fun hd2 => ?_) (fun hd2 => ?_)
    · exact bad (.inr (by rw [em] at hd2; omega))
    · have hmod : n % t = 0 := by rw [em] at hd2; omega
      have h2' := Nat.div_pos (show t ≤ n by omega) ht0
      have hdl := Nat.div_le_self n t
      have hvv : val B n (.nd (.alike t) [k0]) = (val B (n / t - 1) k0).map fun d => .list (List.replicate t d) := by rw [val_alike, if_neg (by omega)]
      have hcl : (val B (n / t - 1) k0).length ≤ 100000 := by
        have h := hl
        unfold cn at h
        rw [hvv, List.length_map] at h; exact h
      dsimp only
      tm_at "w"
      refine vIxT hT (v := x1) rfl ?_
      tm_at "w"
      refine vIxT hT (v := .int t) rfl ?_
      refine vDiv (div_small (by omega) (by omega)) ?_
      tm_at "w"
      have e1 : (n : Int) / (t : Int) - 1 = ((n / t - 1 : Nat) : Int) := by rw [← Int.natCast_ediv]; omega
      rw [e1]
      refine ih _ (by omega) H bv x1 _ _ hB d1 ?_
      intro pt H2 ts hS2 hT2 hTd
      tm_at "w"
      refine vLc ?_
      tm_at "w"
      refine wAnyL (SqL.of hT2) ?_
      intro D hD
      refine lc_list (xs := ts) (fun i H' => ∃ zs, Same H2 H' ∧ H' D = some (.lst zs) ∧ zs.length = i ∧ DqAll K (rem H' D) zs (((val B (n / t - 1) k0).take i).map fun d => .list (List.replicate t d))) ⟨[], same_upd hD, upd_same, rfl, .nil⟩ ?_ ?_ ?_
      · rintro i H' hi ⟨zs, hS3, _⟩
        exact SqL.of (hS3 _ _ hT2)
      · rintro i x H3 hx ⟨zs, hS3, hF3, hzl, hZ3⟩
        obtain ⟨d, hd, hdq⟩ := DqAll.get hTd hx
        have hil := (List.getElem?_eq_some_iff.mp hd).1
        refine sName ⟨rfl, ?_⟩
        refine vYes ?_
        refine iT rfl ?_
        tm_at "w"
        refine vLc ?_
        tm_at "w"
        refine vIxT (Cw.Same.tup (Same.trans hS2 hS3) hT) (v := .int t) rfl ?_
        tm_at "w"
        refine ⟨by omega, by omega, ?_⟩
        rw [Int.toNat_natCast]
        intro D2 hD2
        refine lc_range (fun k H' => Same H3 H' ∧ H' D2 = some (.lst (List.replicate k x))) ⟨same_upd hD2, upd_same⟩ ?_ ?_
        · rintro k H4 hk ⟨hS4, hF4⟩
          refine sName ⟨rfl, ?_⟩
          refine vYes ?_
          refine iT rfl ?_
          tm_at "w"
          refine ⟨_, hF4, by rw [List.length_replicate, sizeLine_eq]; omega, Same.mut hS4 hD2, ?_⟩
          rw [upd_same, show List.replicate (k + 1) x = List.replicate k x ++ [x] from List.replicate_succ']
        · rintro H4 ⟨hS4, hF4⟩
          have hD2D : D2 ≠ D := Ne.symm (ne_of_none hF3 hD2)
          have s24 := Same.trans hS3 hS4
          refine ⟨zs, hS4 _ _ hF3, by rw [hzl, sizeLine_eq]; omega, zs ++ [.ref D2], Same.mut s24 hD, upd_same, by simp [hzl], ?_⟩
          rw [List.take_succ, hd, List.map_append]
          refine DqAll.mono rem_upd2 (DqAll.app (DqAll.mono (rem_mono hS4) hZ3) (.cons ?_ .nil))
          refine Dq.lst (by rw [rem_ne hD2D]; exact hF4) ?_
          have hdq4 := Dq.mono (same_rem s24 hD) hdq
          clear hF4
          have rep : ∀ k, DqAll K (rem H4 D) (List.replicate k x) (List.replicate k d) := by
            intro k
            induction k with
            | zero => exact .nil
            | succ k ih2 => exact .cons hdq4 ih2
          exact rep t
      · rintro H3 ⟨zs, hS3, hF3, hzl, hZ3⟩
        have htl : ts.length = (val B (n / t - 1) k0).length := DqAll.len hTd
        rw [htl, List.take_length, ← hvv] at hZ3
        exact q D H3 zs (Same.trans hS2 hS3) hF3 (DqAll.mono rem_same hZ3)
end
end Pk
set_option Elab.async false
set_option linter.all false
set_option maxRecDepth 100000
set_option maxHeartbeats 4000000
/-! Lw7: the law's own values, all kinds. -/
namespace Pk
open PySem PySem.Spec PyProof.Rows L2 Cw
local macro_rules | `(tactic| tm_at "h") => `(tactic| first
  | assumption
  | exact upd_same
  | ((with_reducible refine' upd_old ?h1 ?h2); (case h1 => assumption); (case h2 => tm_at "h"))
  | ((with_reducible refine' upd_oth ?h1 ?h2); (case h1 => first | assumption | (exact Ne.symm (by assumption)) | (exact ne_of_none (by assumption) (by assumption)) | (exact Ne.symm (ne_of_none (by assumption) (by assumption)))); (case h2 => tm_at "h"))
  | ((refine' Same.at (by assumption) ?h3); (case h3 => tm_at "h")))
local macro_rules | `(tactic| tm_at "l") => `(tactic| first
  | assumption
  | exact SqL.of (by tm_at "h")
  | exact SqT.of (by tm_at "h")
  | exact Same.seq (by assumption) (by tm_at "l")
  | exact Cw.Same.tup (by assumption) (by tm_at "l"))
local macro_rules | `(tactic| tm_at "b") => `(tactic| first
  | rfl
  | decide
  | exact decide_eq_true (by first | assumption | rfl | omega)
  | exact decide_eq_false (by first | assumption | omega))
local macro_rules | `(tactic| tm_at "w1") => `(tactic| first
  | ((with_reducible refine' vVar ?h1 ?_); (case h1 => rfl))
  | with_reducible refine' sSeq ?_
  | with_reducible refine' sAsg ?_
  | with_reducible refine' sName ?_
  | with_reducible refine' vOp ?_
  | with_reducible refine' vC ?_
  | with_reducible refine' vCons ?_
  | with_reducible refine' vNil ?_
  | with_reducible refine' vCB ?_
  | with_reducible refine' vFldE ?_
  | with_reducible refine' vAddI ?_
  | with_reducible refine' vSub ?_
  | with_reducible refine' vCmp ?_
  | with_reducible refine' vEqI ?_
  | with_reducible refine' vEqS ?_
  | with_reducible refine' vNeI ?_
  | with_reducible refine' sIf ?_
  | with_reducible refine' vTest ?_
  | with_reducible refine' vTB ?_
  | with_reducible refine' vBl ?_
  | with_reducible refine' sRet ?_
  | with_reducible refine' sDrop ?_
  | with_reducible refine' sNext ?_
  | ((with_reducible refine' iT ?h1 ?_); (case h1 => tm_at "b"))
  | ((with_reducible refine' iN ?h1 ?_); (case h1 => tm_at "b"))
  | with_reducible refine' vMethE ?_
  | with_reducible refine' vCall ?_
  | with_reducible refine' vAnd ?_
  | with_reducible refine' vOr ?_
  | with_reducible refine' vNot ?_
  | with_reducible refine' vAndV ?_
  | with_reducible refine' vOrV ?_
  | with_reducible refine' vNotV ?_
  | with_reducible refine' vIfE ?_
  | with_reducible refine' vTup ?_
  | with_reducible refine' vLst ?_
  | with_reducible refine' vBM ?_
  | with_reducible refine' vBM0 ?_
  | with_reducible refine' vMax2 ?_
  | with_reducible refine' vMin2 ?_
  | with_reducible refine' vInt ?_
  | with_reducible refine' vIntB ?_
  | with_reducible refine' vUn ?_
  | with_reducible refine' vNeg ?_
  | ((with_reducible refine' sAug ?h1 ?_); (case h1 => rfl))
  | with_reducible refine' sIAdd ?_
  | with_reducible refine' sISub ?_
  | with_reducible refine' sStoE ?_
  | ((with_reducible refine' vFld ?h1 ?h2 ?_); (case h1 => tm_at "h"); (case h2 => rfl))
  | ((with_reducible refine' sSto ?h1 ?h2 ?_); (case h1 => tm_at "h"); (case h2 => first | (show 0 < 1000; decide) | (show 1 < 1000; decide) | (show 2 < 1000; decide) | (show 3 < 1000; decide) | (show 4 < 1000; decide) | (show 5 < 1000; decide)))
  | ((with_reducible refine' vLenL ?h1 ?_); (case h1 => tm_at "l"))
  | ((with_reducible refine' vLenT ?h1 ?_); (case h1 => tm_at "l"))
  | with_reducible refine' vSl ?_
  | with_reducible refine' vPart ?_
  | with_reducible refine' vPartI ?_
  | with_reducible refine' vNoPart ?_
  | with_reducible refine' sCons ?_
  | with_reducible refine' sNil ?_
  | with_reducible refine' wAnyE ?_
  | with_reducible refine' wRng1 ?_
  | with_reducible refine' wRng3 ?_
  | with_reducible refine' vRevE ?_
  | with_reducible refine' wEnum ?_
  | with_reducible refine' vDGet ?_
  | with_reducible refine' wRng2 ?_
  | with_reducible refine' wRng1I ?_
  | with_reducible refine' wRng2I ?_
  | with_reducible refine' sFor ?_
  | ((with_reducible refine' sTup ?h1 ?h2 ?_); (case h1 => tm_at "l"); (case h2 => rfl))
  | ((with_reducible refine' vTyL ?h1 ?_); (case h1 => tm_at "h"))
  | ((refine' vMod ?h1 ?_); (case h1 => (show (0 : Int) < _; omega)))
  | fail "stuck")
local macro_rules | `(tactic| tm_at "w") => `(tactic| repeat tm_at "w1")
theorem picks_snoc {B : Book} {n : Nat} : ∀ {ms : List Str} {ss : List Sh} {m : Str} {s : Sh}, ms.length = ss.length → picksV B (ms ++ [m]) (ss ++ [s]) n = picksV B ms ss n ++ (val B n s).map fun d => .tuple [.str m, d]
  | [], [], m, s, _ => by
    show (val B n s).map (fun d => PyData.tuple [.str m, d]) ++ picksV B [] [] n = _
    unfold picksV
    rw [List.append_nil]; rfl
  | a :: ms, b :: ss, m, s, h => by
    show (val B n b).map (fun d => PyData.tuple [.str a, d]) ++ picksV B (ms ++ [m]) (ss ++ [s]) n = ((val B n b).map (fun d => PyData.tuple [.str a, d]) ++ picksV B ms ss n) ++ _
    rw [picks_snoc (by simpa using h), List.append_assoc]
mutual
def Sh.wt : Sh → Nat
  | .nd _ ks => Sh.wts ks + ks.length + 2
def Sh.wts : List Sh → Nat
  | [] => 0
  | s :: ss => max (Sh.wt s) (Sh.wts ss)
end
theorem wt_mem {ss : List Sh} {s : Sh} (e : s ∈ ss) : Sh.wt s ≤ Sh.wts ss := by
  induction ss with
  | nil => cases e
  | cons k ks ih =>
    unfold Sh.wts
    rcases List.mem_cons.mp e with rfl | e
    · exact Nat.le_max_left _ _
    · exact Nat.le_trans (ih e) (Nat.le_max_right _ _)
section
variable {K : PySem.W.Frag} {B : Book} {n N m hb : Nat} {ks : List Sh} {s k0 : Sh}
theorem a_pick {ms : List Str} (hmk : ms.length = ks.length) (hl : cn B (.nd (.pick ms) ks) n ≤ 100000) (ih : ∀ s ∈ ks, LAll K B (m + 1) s n) : LAll K B (m + 2) (.nd (.pick ms) ks) n := by
  intro H bv sv Q E hB hS q
  have hlp : (picksV B ms ks n).length ≤ 100000 := by rw [← val_pick]; exact hl
  have hpre : ∀ i, i ≤ ks.length → (picksV B (ms.take i) (ks.take i) n).length ≤ (picksV B ms ks n).length := by
    have gen : ∀ (ms : List Str) (ks : List Sh) (i : Nat), (picksV B (ms.take i) (ks.take i) n).length ≤ (picksV B ms ks n).length := by
      intro ms
      induction ms with
      | nil => intro ks i; cases i <;> simp [picksV]
      | cons m ms ih =>
        intro ks i
        cases i with
        | zero => simp [picksV]
        | succ i =>
          cases ks with
          | nil => simp [picksV]
          | cons k ks =>
            have := ih ks i
            simp only [List.take_succ_cons, picksV, List.length_append]
            omega
    intro i _
    exact gen ms ks i
  unfold shD at hS
  obtain ⟨p, x0, x1, rfl, hT, d0, d1⟩ := Dp.t2 hS
  rw [Dp.str_inv d0] at hT
  obtain ⟨p1, xs, rfl, hT1, dA⟩ := Dp.tup_inv d1
  have hxl : xs.length = ks.length := by rw [DpAll.len dA, pairs_len hmk]
  refine ⟨rfl, ?_⟩
  show t__law_all K (W K (m + 1)) _ _ _
  unfold t__law_all
  tm_at "w"
  refine vIxT hT (v := .str "pick") rfl ?_
  tm_at "w"
  refine vIxT hT (v := .str "pick") rfl ?_
  tm_at "w"
  refine vIxT hT (v := .str "pick") rfl ?_
  tm_at "w"
  refine vIxT hT (v := .str "pick") rfl ?_
  tm_at "w"
  refine vIxT hT (v := .str "pick") rfl ?_
  tm_at "w"
  refine vIxT hT (v := .str "pick") rfl ?_
  tm_at "w"
  refine ⟨Nat.zero_le _, fun pf hpf => ?_⟩
  tm_at "w"
  refine vIxT (Cw.Same.tup (same_upd hpf) hT) (v := .ref p1) rfl ?_
  refine wAnyT (Cw.Same.tup (same_upd hpf) hT1) ?_
  refine for_tup (xs := xs) (fun i σ H' => ∃ (pf : Addr) (ys : List V) (x5 x6 x7 x8 : Option V), Same H H' ∧ H' pf = some (.lst ys) ∧ DqAll K H' ys (picksV B (ms.take i) (ks.take i) n) ∧ σ = [some bv, some (.ref p), some (.int n), none, some (.ref pf), x5, x6, x7, x8])
    ⟨pf, [], none, none, none, none, same_upd hpf, upd_same, .nil, rfl⟩ ?_ ?_ ?_
  · rintro i σ H' hi ⟨pf, ys, y5, y6, y7, y8, hS1, _⟩
    exact Cw.Same.tup hS1 hT1
  · rintro i x σ H1 hx ⟨pf, ys, y5, y6, y7, y8, hS1, hF1, hY1, rfl⟩
    obtain ⟨d, hd1, hd2⟩ := DpAll.get dA hx
    obtain ⟨mk, s, e1, hk, rfl⟩ := pairs_get hd1
    obtain ⟨pb, b0, b1, rfl, hTb, db0, db1⟩ := Dp.t2 hd2
    rw [Dp.str_inv db0] at hTb
    have hik := (List.getElem?_eq_some_iff.mp hk).1
    refine sTup (Cw.Same.tup hS1 hTb) rfl ?_
    refine sCons ?_
    refine sName ?_
    refine sCons ?_
    refine sName ?_
    refine sNil ?_
    tm_at "w"
    refine vLc ?_
    tm_at "w"
    refine ih s (List.mem_of_getElem? hk) H1 bv b1 _ _ (Dp.mono hS1 hB) (Dp.mono hS1 db1) ?_
    intro pt H2 ts hS2 hT2 hTd
    refine wAnyL (SqL.of hT2) ?_
    intro D hD
    refine lc_list (xs := ts) (fun j H' => ∃ zs, Same H2 H' ∧ H' D = some (.lst zs) ∧ zs.length = j ∧ DqAll K (rem H' D) zs (((val B n s).take j).map fun d => .tuple [.str mk, d])) ⟨[], same_upd hD, upd_same, rfl, .nil⟩ ?_ ?_ ?_
    · rintro j H' hj ⟨zs, hS3, _⟩
      exact SqL.of (hS3 _ _ hT2)
    · rintro j x H3 hx ⟨zs, hS3, hF3, hzl, hZ3⟩
      obtain ⟨d, hd, hdq⟩ := DqAll.get hTd hx
      have hjl := (List.getElem?_eq_some_iff.mp hd).1
      have hvl : (val B n s).length ≤ 100000 := by
        have h1 := hpre (i + 1) (by omega)
        rw [List.take_succ, List.take_succ, e1, hk] at h1
        have h2 := picks_snoc (B := B) (n := n) (ms := ms.take i) (ss := ks.take i) (m := mk) (s := s) (by rw [List.length_take, List.length_take, hmk])
        have h3 : (picksV B (ms.take i ++ (some mk).toList) (ks.take i ++ (some s).toList) n).length = (picksV B (ms.take i) (ks.take i) n).length + (val B n s).length := by
          show (picksV B (ms.take i ++ [mk]) (ks.take i ++ [s]) n).length = _
          rw [h2, List.length_append, List.length_map]
        omega
      refine sName ⟨rfl, ?_⟩
      refine vYes ?_
      refine iT rfl ?_
      tm_at "w"
      refine ⟨by show 2 ≤ sizeLine; decide, fun p3 hp3 => ?_⟩
      have s23 := Same.trans hS3 (same_upd hp3 (o := .tup [.str mk, x]))
      have hF4 := upd_old (w := .tup [.str mk, x]) hp3 hF3
      refine ⟨zs, hF4, by rw [hzl, sizeLine_eq]; omega, zs ++ [.ref p3], Same.mut s23 hD, upd_same, by simp [hzl], ?_⟩
      rw [List.take_succ, hd, List.map_append]
      refine DqAll.mono rem_upd2 (DqAll.app (DqAll.mono (rem_mono (same_upd hp3)) hZ3) (.cons ?_ .nil))
      exact Dq.tup (SqT.rem (SqT.of upd_same) hF4) (.cons (.str mk) (.cons (Dq.mono (same_rem s23 hD) hdq) .nil))
    · rintro H3 ⟨zs, hS3, hF3, hzl, hZ3⟩
      have htl : ts.length = (val B n s).length := DqAll.len hTd
      rw [htl, List.take_length] at hZ3
      have hnew : (picksV B (ms.take (i + 1)) (ks.take (i + 1)) n) = picksV B (ms.take i) (ks.take i) n ++ (val B n s).map fun d => .tuple [.str mk, d] := by
        rw [List.take_succ, List.take_succ, e1, hk]
        exact picks_snoc (by rw [List.length_take, List.length_take, hmk])
      have hyl := DqAll.len hY1
      have hll := hpre (i + 1) (by omega)
      rw [hnew, List.length_append, List.length_map] at hll
      refine vAddL (hS3 _ _ (hS2 _ _ hF1)) hF3 ?_ ?_
      · rw [hyl, hzl, htl, sizeLine_eq]; omega
      · intro p4 hp4
        tm_at "w"
        refine ⟨p4, _, _, _, _, _, ((Same.trans hS1 hS2).trans hS3).trans (same_upd hp4), upd_same, ?_, rfl⟩
        rw [hnew]
        exact DqAll.app (DqAll.mono ((Same.trans hS2 hS3).trans (same_upd hp4)) hY1) (DqAll.mono (Same.trans rem_same (same_upd hp4)) hZ3)
  · rintro σ H1 ⟨pf, ys, y5, y6, y7, y8, hS1, hF1, hY1, rfl⟩
    rw [hxl, List.take_length, ← hmk, List.take_length] at hY1
    dsimp only
    tm_at "w"
    refine q pf H1 ys hS1 hF1 ?_
    rw [val_pick]
    exact hY1
/-- a good shape -/
structure Gd (B : Book) (N : Nat) (s : Sh) : Prop where
  wf : WfS B s
  li : LiS B N s
  ok : OkS s
  ht : s.ht ≤ 20
theorem okL_mem : ∀ {ss : List Sh} {s : Sh}, OkL ss → s ∈ ss → OkS s
  | s :: ss, s', h, e => by
    unfold OkL at h
    rcases List.mem_cons.mp e with rfl | e
    · exact h.1
    · exact okL_mem h.2 e
theorem ht_mem {ss : List Sh} {s : Sh} (e : s ∈ ss) : s.ht ≤ Sh.hts ss := by
  obtain ⟨i, hi⟩ := List.mem_iff_getElem?.mp e
  exact ht_get hi
theorem Gd.kid {k : Kd} (h : Gd B N (.nd k ks)) : ∀ s ∈ ks, Gd B N s := by
  intro s hs
  obtain ⟨h1, h2, h3, h4⟩ := h
  unfold WfS at h1
  unfold LiS at h2
  unfold OkS at h3
  unfold Sh.ht at h4
  have h5 := ht_mem hs
  obtain ⟨i, hi⟩ := List.mem_iff_getElem?.mp hs
  exact ⟨h1.2.get hi, h2.2.2.get hs, okL_mem h3.2 hs, by omega⟩
theorem all_main {x0 : Str} {s0 : Sh} {A : Nat} (hB : B = [(x0, s0)]) (g0 : Gd B N s0) (hA : Sh.wt s0 + 2 ≤ A) (hN : N ≤ 60) : ∀ m : Nat,
    (∀ (sh : Sh) (n : Nat), n < N → Gd B N sh → n * A + Sh.wt sh + 1 ≤ m → LAll K B m sh n) ∧
    (∀ (ks : List Sh) (n : Nat), n < N → (∀ s ∈ ks, Gd B N s) → OkL ks → Sh.hts ks ≤ 20 → ks.length ≤ 1000 → (∀ i j, j < N → rn B (ks.drop i) j ≤ 100000) → n * A + Sh.wts ks + ks.length + 2 ≤ m → LRows K B m ks n) ∧
    (∀ (k0 : Sh) (n : Nat), n < N → Gd B N k0 → (∀ j, j < N → cn B (.nd .many [k0]) j ≤ 100000) → n * A + Sh.wt k0 + 2 ≤ m → LLists K B m k0 n) := by
  intro m
  induction m with
  | zero => exact ⟨fun sh n _ _ h => by omega, fun ks n _ _ _ _ _ _ h => by omega, fun k0 n _ _ _ h => by omega⟩
  | succ m ih =>
    obtain ⟨ihA, ihR, ihL⟩ := ih
    refine ⟨?_, ?_, ?_⟩
    · intro sh n hn g h
      cases sh with
      | nd k ks =>
        have kid := g.kid
        have g' := g
        obtain ⟨h1, h2, h3, h4⟩ := g
        have hw : Sh.wt (.nd k ks) = Sh.wts ks + ks.length + 2 := by unfold Sh.wt; rfl
        rw [hw] at h
        have hcn : cn B (.nd k ks) n ≤ 100000 := h2.cn hn
        have hcnj : ∀ j, j ≤ n → cn B (.nd k ks) j ≤ 100000 := fun j hj => h2.cn (by omega)
        have hmono : ∀ j, j ≤ n → j * A ≤ n * A := fun j hj => Nat.mul_le_mul_right _ hj
        unfold WfS at h1
        unfold LiS at h2
        unfold OkS at h3
        unfold Sh.ht at h4
        obtain ⟨j, rfl⟩ : ∃ j, m = j + 1 := ⟨m - 1, by omega⟩
        cases k with
        | whole lo hi => exact a_whole h1.1.1 (by omega) hcn
        | text s => exact a_text h1.1.2.1 (by omega) hcnj
        | row => exact a_row (ihR ks n hn kid h3.2 (by omega) h1.1 h2.2.1 (by omega))
        | pick ms => exact a_pick h1.1.1 hcn fun s hs => ihA s n hn (kid s hs) (by have := wt_mem hs; omega)
        | use x =>
          refine a_use (s := s0) ?_ fun i hi => ihA s0 i (by omega) g0 ?_
          · have hx : (B.lookup x).isSome = true := h1.1.1
            rw [hB] at hx ⊢
            have e : x = x0 := by
              rcases Decidable.em (x = x0) with e | e
              · exact e
              · rw [List.lookup_cons, beq_false_of_ne e] at hx
                cases hx
            rw [e]
          · have h5 := hmono (i + 1) (by omega)
            rw [Nat.succ_mul] at h5
            omega
        | many =>
          obtain ⟨k0, rfl⟩ : ∃ k0, ks = [k0] := h1.1
          have hw0 := wt_mem (ss := [k0]) (s := k0) (by simp)
          exact a_many (ihL k0 n hn (kid k0 (by simp)) (fun j hj => h2.1 j hj) (by simp at h; omega))
        | alike t =>
          obtain ⟨ht0, k0, rfl⟩ : 0 < t ∧ ∃ k0, ks = [k0] := h1.1
          have hw0 := wt_mem (ss := [k0]) (s := k0) (by simp)
          have htl : t ≤ 1000 := h3.1
          exact a_alike ht0 htl (by omega) hcn fun i hi => ihA k0 i (by omega) (kid k0 (by simp)) (by have := hmono i (by omega); simp at h; omega)
        | rising => exact h1.1.elim
        | unlike => exact h1.1.elim
    · intro ks n hn kid hok hht hln hrn h
      obtain ⟨j, rfl⟩ : ∃ j, m = j + 1 := ⟨m - 1, by omega⟩
      cases ks with
      | nil => exact s_rows_nil
      | cons s rs =>
        have hmono : ∀ j, j ≤ n → j * A ≤ n * A := fun j hj => Nat.mul_le_mul_right _ hj
        have hw1 : Sh.wt s ≤ Sh.wts (s :: rs) := wt_mem (by simp)
        have hw2 : Sh.wts rs ≤ Sh.wts (s :: rs) := by unfold Sh.wts; cases rs <;> exact Nat.le_max_right _ _
        have hh2 : Sh.hts rs ≤ Sh.hts (s :: rs) := by unfold Sh.hts; cases rs <;> exact Nat.le_max_right _ _
        rw [List.length_cons] at hln h
        have hok2 : OkL rs := by unfold OkL at hok; exact hok.2
        exact s_rows hok hht (by omega) (by omega) (fun i hi => hrn 0 i (by omega))
          (fun i hi => ihR rs i (by omega) (fun s' hs' => kid s' (List.mem_cons_of_mem _ hs')) hok2 (by omega) (by omega) (fun a b hb => hrn (a + 1) b hb) (by have := hmono i hi; omega))
          (fun i hi => ihA s i (by omega) (kid s (by simp)) (by have := hmono i hi; omega))
    · intro k0 n hn g hcn h
      obtain ⟨j, rfl⟩ : ∃ j, m = j + 1 := ⟨m - 1, by omega⟩
      cases n with
      | zero => exact s_lists_nil
      | succ n =>
        have hmono : ∀ j, j ≤ n → j * A ≤ n * A := fun j hj => Nat.mul_le_mul_right _ hj
        rw [Nat.succ_mul] at h
        exact s_lists (by omega) (fun i hi => hcn i (by omega)) (fun i hi => ihL k0 i (by omega) g hcn (by have := hmono i hi; omega)) (fun i hi => ihA k0 i (by omega) g (by have := hmono i hi; omega))
end
end Pk
set_option Elab.async false
set_option linter.all false
set_option maxRecDepth 100000
set_option maxHeartbeats 4000000
/-! Lw8: of a drawn shape there are not many values. -/
namespace Pk
open PySem PySem.Spec PyProof.Rows L2 Cw
theorem ahead_le {cf cr cf' cr' : Nat → Nat} {m : Nat} : ∀ {n : Nat}, (∀ a, a < n → cf a ≤ cf' a) → (∀ a, a < n → cr (m - a) ≤ cr' (m - a)) → ahead cf cr m n ≤ ahead cf' cr' m n
  | 0, _, _ => Nat.le_refl _
  | n + 1, h, h' => Nat.add_le_add (ahead_le (fun a ha => h a (by omega)) fun a ha => h' a (by omega)) (Nat.mul_le_mul (h n (by omega)) (h' n (by omega)))
/-- the most values of a shape so deep -/
def mostT : Nat → Nat → Nat
  | 0, n => 3 ^ n
  | 1, n => [2, 6, 27, 108, 405, 1458].getD n 0
  | _, n => [4, 24, 144, 756, 3645, 20000].getD n 0
theorem most_rec : ∀ d, d < 2 → ∀ n, n ≤ 5 → ahead (mostT d) (mostT d) n (n + 1) ≤ mostT (d + 1) n ∧ 2 * mostT d n ≤ mostT (d + 1) n ∧ mostT d n ≤ mostT (d + 1) n ∧ 1 ≤ mostT (d + 1) n ∧ 3 ^ n ≤ mostT (d + 1) n ∧ (n < 5 → ahead (mostT d) (mostT (d + 1)) n (n + 1) ≤ mostT (d + 1) (n + 1)) ∧
    (∀ j, j < n → mostT d j ≤ mostT (d + 1) n) ∧ mostT (d + 1) n ≤ 20000 := by
  intro d hd n hn
  have h : ∀ d : Fin 2, ∀ n : Fin 6, ahead (mostT d.val) (mostT d.val) n.val (n.val + 1) ≤ mostT (d.val + 1) n.val ∧ 2 * mostT d.val n.val ≤ mostT (d.val + 1) n.val ∧ mostT d.val n.val ≤ mostT (d.val + 1) n.val ∧ 1 ≤ mostT (d.val + 1) n.val ∧ 3 ^ n.val ≤ mostT (d.val + 1) n.val ∧
    (n.val < 5 → ahead (mostT d.val) (mostT (d.val + 1)) n.val (n.val + 1) ≤ mostT (d.val + 1) (n.val + 1)) ∧ (∀ j : Fin 6, j.val < n.val → mostT d.val j.val ≤ mostT (d.val + 1) n.val) ∧ mostT (d.val + 1) n.val ≤ 20000 := by decide +kernel
  obtain ⟨h1, h2, h3, h4, h5, h6, h7, h8⟩ := h ⟨d, hd⟩ ⟨n, by omega⟩
  exact ⟨h1, h2, h3, h4, h5, h6, fun j hj => h7 ⟨j, by omega⟩ hj, h8⟩
theorem three_le : ∀ n, n ≤ 5 → 3 ^ n ≤ 20000 := by
  intro n hn
  have h : ∀ n : Fin 6, 3 ^ n.val ≤ 20000 := by decide +kernel
  exact h ⟨n, by omega⟩
section
variable {B : Book} {x : Str} {s0 : Sh}
theorem rn_drop_nil {j : Nat} : rn B [] j ≤ 1 := by
  rw [rn_nil]
  by_cases h : j = 0
  · rw [if_pos h]; decide
  · rw [if_neg h]; decide
theorem leaf_cn {sh : Sh} (h : Lf sh) : ∀ n, n ≤ 5 → cn B sh n ≤ 3 ^ n := by
  intro n hn
  rcases h with ⟨lo, d, rfl, h0, h6⟩ | ⟨s, rfl, h1, h3, _⟩
  · have e : cn B (.nd (.whole lo (lo + d)) []) n = (wholes lo (lo + d) n).length := by unfold cn; rw [val_eq]; rfl
    rw [e]
    cases n with
    | zero => exact Nat.le_refl 1
    | succ n =>
      unfold wholes
      rw [List.length_map, List.length_range]
      have e2 : lo + d - lo = d := by omega
      rw [e2]
      rcases (by omega : n = 0 ∨ n = 1 ∨ n = 2 ∨ n = 3 ∨ n = 4) with h | h | h | h | h <;> subst h <;> omega
  · have e : cn B (.nd (.text s) []) n = (textsS s n).length := by unfold cn; rw [val_eq]; exact List.length_map _
    rw [e]
    clear e hn
    induction n with
    | zero => exact Nat.le_refl 1
    | succ n ih =>
      rw [texts_len, Nat.pow_succ]
      exact Nat.mul_le_mul ih h3
theorem li_leaf {k : Kd} (h : ∀ n, n ≤ 5 → cn B (.nd k []) n ≤ 20000) : LiS B 6 (.nd k []) := by
  unfold LiS
  refine ⟨fun j hj => Nat.le_trans (h j (by omega)) (by decide), fun i j hj => ?_, by unfold LiL; trivial⟩
  rw [List.drop_nil]
  exact Nat.le_trans rn_drop_nil (by decide)
theorem leaf_gd {sh : Sh} (h : Lf sh) : Gd B 6 sh := by
  have hc := leaf_cn (B := B) h
  rcases h with ⟨lo, d, rfl, h0, h6⟩ | ⟨s, rfl, h1, h3, h4⟩
  · refine ⟨?_, li_leaf fun n hn => Nat.le_trans (hc n hn) (three_le n hn), ?_, by unfold Sh.ht Sh.hts; decide⟩
    · unfold WfS WfL; exact ⟨⟨by omega, rfl⟩, trivial⟩
    · unfold OkS OkL; exact ⟨trivial, trivial⟩
  · refine ⟨?_, li_leaf fun n hn => Nat.le_trans (hc n hn) (three_le n hn), ?_, by unfold Sh.ht Sh.hts; decide⟩
    · unfold WfS WfL; exact ⟨⟨by omega, by omega, rfl⟩, trivial⟩
    · unfold OkS OkL; exact ⟨h4, trivial⟩
theorem rn_one {a : Sh} {j : Nat} : rn B [a] j = cn B a j := by
  rw [rn_cons]
  have h0 : ∀ k, k ≤ j → ahead (cn B a) (rn B []) j k = 0 := by
    intro k
    induction k with
    | zero => intro _; rfl
    | succ k ih =>
      intro hk
      show ahead (cn B a) (rn B []) j k + cn B a k * rn B [] (j - k) = 0
      rw [ih (by omega), rn_nil, if_neg (by omega), Nat.mul_zero]
  show ahead (cn B a) (rn B []) j j + cn B a j * rn B [] (j - j) = _
  rw [h0 j (Nat.le_refl _), Nat.sub_self, rn_nil, if_pos rfl, Nat.mul_one, Nat.zero_add]
theorem rn_two {a b : Sh} {j : Nat} : rn B [a, b] j = ahead (cn B a) (cn B b) j (j + 1) := by
  rw [rn_cons]
  have e : rn B [b] = cn B b := by funext k; exact rn_one
  rw [e]
/-- drawn shapes are good, and have few values -/
theorem shp_gd (hB : B = [(x, s0)]) (hx : PyData.strOk x = true) (h0 : Lf s0) : ∀ d, d ≤ 2 → ∀ sh, Shp x d sh → Gd B 6 sh ∧ (∀ n, n ≤ 5 → cn B sh n ≤ mostT d n) ∧ sh.ht ≤ d + 1 := by
  intro d
  induction d with
  | zero =>
    intro _ sh h
    refine ⟨leaf_gd h, leaf_cn h, ?_⟩
    rcases h with ⟨lo, d, rfl, _⟩ | ⟨s, rfl, _⟩ <;> unfold Sh.ht Sh.hts <;> decide
  | succ d ih =>
    intro hd sh h
    have ih := ih (by omega)
    have mr := most_rec d (by omega)
    have r2 : ∀ a b n, Shp x d a → Shp x d b → n ≤ 5 → rn B [a, b] n ≤ mostT (d + 1) n := by
      intro a b n ha hb hn
      rw [rn_two]
      refine Nat.le_trans (ahead_le (fun i hi => (ih a ha).2.1 i (by omega)) fun i hi => (ih b hb).2.1 _ (by omega)) (mr n hn).1
    have hs1 : ∀ a n, Shp x d a → n ≤ 5 → cn B a n ≤ 20000 := by
      intro a n ha hn
      exact Nat.le_trans ((ih a ha).2.1 n hn) (Nat.le_trans (mr n hn).2.2.1 (mr n hn).2.2.2.2.2.2.2)
    have m20 : ∀ n, n ≤ 5 → mostT (d + 1) n ≤ 20000 := fun n hn => (mr n hn).2.2.2.2.2.2.2
    have drop2 : ∀ a b i j, Shp x d a → Shp x d b → j < 6 → rn B ([a, b].drop i) j ≤ 100000 := by
      intro a b i j ha hb hj
      rcases (by omega : i = 0 ∨ i = 1 ∨ 2 ≤ i) with h | h | h
      · subst h; exact Nat.le_trans (r2 a b j ha hb (by omega)) (Nat.le_trans (m20 j (by omega)) (by decide))
      · subst h
        show rn B [b] j ≤ _
        rw [rn_one]
        exact Nat.le_trans (hs1 b j hb (by omega)) (by decide)
      · rw [List.drop_eq_nil_of_le (by simpa using h)]
        exact Nat.le_trans rn_drop_nil (by decide)
    have drop1 : ∀ a i j, Shp x d a → j < 6 → rn B ([a].drop i) j ≤ 100000 := by
      intro a i j ha hj
      rcases (by omega : i = 0 ∨ 1 ≤ i) with h | h
      · subst h
        show rn B [a] j ≤ _
        rw [rn_one]
        exact Nat.le_trans (hs1 a j ha (by omega)) (by decide)
      · rw [List.drop_eq_nil_of_le (by simpa using h)]
        exact Nat.le_trans rn_drop_nil (by decide)
    have dropn : ∀ i j, j < 6 → rn B (([] : List Sh).drop i) j ≤ 100000 := by
      intro i j hj
      rw [List.drop_nil]
      exact Nat.le_trans rn_drop_nil (by decide)
    -- all together, from the counts
    have fin : ∀ (k : Kd) (ks : List Sh), WfS B (.nd k ks) → OkS (.nd k ks) → (∀ n, n ≤ 5 → cn B (.nd k ks) n ≤ mostT (d + 1) n) → (∀ i j, j < 6 → rn B (ks.drop i) j ≤ 100000) → LiL B 6 ks → Sh.hts ks ≤ d + 1 →
        Gd B 6 (.nd k ks) ∧ (∀ n, n ≤ 5 → cn B (.nd k ks) n ≤ mostT (d + 1) n) ∧ (Sh.nd k ks).ht ≤ d + 1 + 1 := by
      intro k ks w o hc hr hl hh
      have e : (Sh.nd k ks).ht = Sh.hts ks + 1 := by unfold Sh.ht; rfl
      refine ⟨⟨w, ?_, o, by omega⟩, hc, by omega⟩
      unfold LiS
      exact ⟨fun j hj => Nat.le_trans (hc j (by omega)) (Nat.le_trans (m20 j (by omega)) (by decide)), hr, hl⟩
    rcases h with h | ⟨a, ha, rfl⟩ | ⟨a, t, ha, ht1, ht3, rfl⟩ | rfl | ⟨a, b, ha, hb, rfl⟩ | ⟨a, b, m1, m2, ha, hb, o1, o2, rfl⟩
    · refine ⟨leaf_gd h, fun n hn => Nat.le_trans (leaf_cn h n hn) (mr n hn).2.2.2.2.1, ?_⟩
      have : sh.ht = 1 := by rcases h with ⟨lo, d, rfl, _⟩ | ⟨s, rfl, _⟩ <;> unfold Sh.ht Sh.hts <;> rfl
      omega
    · obtain ⟨g, hc, hh⟩ := ih a ha
      refine fin _ _ (by unfold WfS WfL WfL; exact ⟨⟨a, rfl⟩, g.wf, trivial⟩) (by unfold OkS OkL OkL; exact ⟨trivial, g.ok, trivial⟩) ?_ (fun i j hj => drop1 a i j ha hj) (by unfold LiL LiL; exact ⟨g.li, trivial⟩) (by unfold Sh.hts Sh.hts; omega)
      intro n
      induction n using Nat.strongRecOn with
      | _ n ihn =>
        intro hn
        cases n with
        | zero =>
          have e0 : cn B (.nd .many [a]) 0 = 1 := by unfold cn; rw [val_many, if_pos rfl]; rfl
          rw [e0]
          exact (mr 0 (by decide)).2.2.2.1
        | succ n =>
          have e0 : cn B (.nd .many [a]) (n + 1) = ahead (cn B a) (cn B (.nd .many [a])) n (n + 1) := by
            have e0 : cn B (.nd .many [a]) (n + 1) = (val B (n + 1) (.nd .many [a])).length := rfl
            rw [e0, val_many, if_neg (Nat.succ_ne_zero n), blocks_len]
            rfl
          rw [e0]
          refine Nat.le_trans (ahead_le (fun i hi => hc i (by omega)) fun i hi => ihn (n - i) (by omega) (by omega)) ((mr n (by omega)).2.2.2.2.2.1 (by omega))
    · obtain ⟨g, hc, hh⟩ := ih a ha
      refine fin _ _ (by unfold WfS WfL WfL; exact ⟨⟨by omega, a, rfl⟩, g.wf, trivial⟩) (by unfold OkS OkL OkL; exact ⟨by show t ≤ 1000; omega, g.ok, trivial⟩) ?_ (fun i j hj => drop1 a i j ha hj) (by unfold LiL LiL; exact ⟨g.li, trivial⟩) (by unfold Sh.hts Sh.hts; omega)
      intro n hn
      have e0 : cn B (.nd (.alike t) [a]) n = (val B n (.nd (.alike t) [a])).length := rfl
      rw [e0, val_alike]
      by_cases hb : n < t ∨ n % t ≠ 0
      · rw [if_pos hb]; exact Nat.zero_le _
      · rw [if_neg hb, List.length_map]
        have h2 := Nat.div_pos (show t ≤ n by omega) (by omega : 0 < t)
        have h3 := Nat.div_le_self n t
        exact Nat.le_trans (hc (n / t - 1) (by omega)) ((mr n hn).2.2.2.2.2.2.1 _ (by omega))
    · refine fin _ _ (by unfold WfS WfL; exact ⟨⟨by rw [hB]; simp, rfl⟩, trivial⟩) (by unfold OkS OkL; exact ⟨hx, trivial⟩) ?_ dropn (by unfold LiL; trivial) (by unfold Sh.hts; omega)
      intro n hn
      have hlk : look B x = s0 := by rw [hB]; unfold look; simp
      have e0 : cn B (.nd (.use x) []) n = (val B n (.nd (.use x) [])).length := rfl
      rw [e0, val_use, hlk]
      by_cases hb : n = 0
      · rw [if_pos hb]; exact Nat.zero_le _
      · rw [if_neg hb]
        have h1 := leaf_cn (B := B) h0 (n - 1) (by omega)
        have h2 : 3 ^ (n - 1) ≤ 3 ^ n := Nat.pow_le_pow_right (by decide) (by omega)
        exact Nat.le_trans h1 (Nat.le_trans h2 (mr n hn).2.2.2.2.1)
    · obtain ⟨g, hc, hh⟩ := ih a ha
      obtain ⟨g2, hc2, hh2⟩ := ih b hb
      refine fin _ _ (by unfold WfS WfL WfL WfL; exact ⟨by show 2 ≤ 1000; decide, g.wf, g2.wf, trivial⟩) (by unfold OkS OkL OkL OkL; exact ⟨trivial, g.ok, g2.ok, trivial⟩) ?_ (fun i j hj => drop2 a b i j ha hb hj) (by unfold LiL LiL LiL; exact ⟨g.li, g2.li, trivial⟩) (by unfold Sh.hts Sh.hts Sh.hts; omega)
      intro n hn
      have e0 : cn B (.nd .row [a, b]) n = (val B n (.nd .row [a, b])).length := rfl
      rw [e0, val_row, List.length_map]
      exact r2 a b n ha hb hn
    · obtain ⟨g, hc, hh⟩ := ih a ha
      obtain ⟨g2, hc2, hh2⟩ := ih b hb
      refine fin _ _ (by unfold WfS WfL WfL WfL; exact ⟨⟨rfl, by show 2 ≤ 1000; decide⟩, g.wf, g2.wf, trivial⟩) (by unfold OkS OkL OkL OkL; exact ⟨by intro m hm; rcases List.mem_cons.mp hm with rfl | hm; exact o1; rw [List.mem_singleton.mp hm]; exact o2, g.ok, g2.ok, trivial⟩) ?_ (fun i j hj => drop2 a b i j ha hb hj) (by unfold LiL LiL LiL; exact ⟨g.li, g2.li, trivial⟩) (by unfold Sh.hts Sh.hts Sh.hts; omega)
      intro n hn
      have e0 : cn B (.nd (.pick [m1, m2]) [a, b]) n = (val B n (.nd (.pick [m1, m2]) [a, b])).length := rfl
      rw [e0, val_pick, picks_len rfl]
      show cn B a n + (cn B b n + 0) ≤ _
      have h1 := hc n hn
      have h2 := hc2 n hn
      have h3 := (mr n hn).2.1
      omega
end
end Pk
set_option Elab.async false
set_option linter.all false
set_option maxRecDepth 100000
set_option maxHeartbeats 4000000
/-! Lw9: the law's sameness; its lists. -/
namespace Pk
open PySem PySem.Spec PyProof.Rows L2 Cw
local macro_rules | `(tactic| tm_at "h") => `(tactic| first
  | assumption
  | exact upd_same
  | ((with_reducible refine' upd_old ?h1 ?h2); (case h1 => assumption); (case h2 => tm_at "h"))
  | ((with_reducible refine' upd_oth ?h1 ?h2); (case h1 => first | assumption | (exact Ne.symm (by assumption)) | (exact ne_of_none (by assumption) (by assumption)) | (exact Ne.symm (ne_of_none (by assumption) (by assumption)))); (case h2 => tm_at "h"))
  | ((refine' Same.at (by assumption) ?h3); (case h3 => tm_at "h")))
local macro_rules | `(tactic| tm_at "l") => `(tactic| first
  | assumption
  | exact SqL.of (by tm_at "h")
  | exact SqT.of (by tm_at "h")
  | exact Same.seq (by assumption) (by tm_at "l")
  | exact Cw.Same.tup (by assumption) (by tm_at "l"))
local macro_rules | `(tactic| tm_at "b") => `(tactic| first
  | rfl
  | decide
  | exact decide_eq_true (by first | assumption | rfl | omega)
  | exact decide_eq_false (by first | assumption | omega))
local macro_rules | `(tactic| tm_at "w1") => `(tactic| first
  | ((with_reducible refine' vVar ?h1 ?_); (case h1 => rfl))
  | with_reducible refine' sSeq ?_
  | with_reducible refine' sAsg ?_
  | with_reducible refine' sName ?_
  | with_reducible refine' vOp ?_
  | with_reducible refine' vC ?_
  | with_reducible refine' vCons ?_
  | with_reducible refine' vNil ?_
  | with_reducible refine' vCB ?_
  | with_reducible refine' vFldE ?_
  | with_reducible refine' vAddI ?_
  | with_reducible refine' vSub ?_
  | with_reducible refine' vCmp ?_
  | with_reducible refine' vEqI ?_
  | with_reducible refine' vEqS ?_
  | with_reducible refine' vNeI ?_
  | with_reducible refine' sIf ?_
  | with_reducible refine' vTest ?_
  | with_reducible refine' vTB ?_
  | with_reducible refine' vBl ?_
  | with_reducible refine' sRet ?_
  | with_reducible refine' sDrop ?_
  | with_reducible refine' sNext ?_
  | ((with_reducible refine' iT ?h1 ?_); (case h1 => tm_at "b"))
  | ((with_reducible refine' iN ?h1 ?_); (case h1 => tm_at "b"))
  | with_reducible refine' vMethE ?_
  | with_reducible refine' vCall ?_
  | with_reducible refine' vAnd ?_
  | with_reducible refine' vOr ?_
  | with_reducible refine' vNot ?_
  | with_reducible refine' vAndV ?_
  | with_reducible refine' vOrV ?_
  | with_reducible refine' vNotV ?_
  | with_reducible refine' vIfE ?_
  | with_reducible refine' vTup ?_
  | with_reducible refine' vLst ?_
  | with_reducible refine' vBM ?_
  | with_reducible refine' vBM0 ?_
  | with_reducible refine' vMax2 ?_
  | with_reducible refine' vMin2 ?_
  | with_reducible refine' vInt ?_
  | with_reducible refine' vIntB ?_
  | with_reducible refine' vUn ?_
  | with_reducible refine' vNeg ?_
  | ((with_reducible refine' sAug ?h1 ?_); (case h1 => rfl))
  | with_reducible refine' sIAdd ?_
  | with_reducible refine' sISub ?_
  | with_reducible refine' sStoE ?_
  | ((with_reducible refine' vFld ?h1 ?h2 ?_); (case h1 => tm_at "h"); (case h2 => rfl))
  | ((with_reducible refine' sSto ?h1 ?h2 ?_); (case h1 => tm_at "h"); (case h2 => first | (show 0 < 1000; decide) | (show 1 < 1000; decide) | (show 2 < 1000; decide) | (show 3 < 1000; decide) | (show 4 < 1000; decide) | (show 5 < 1000; decide)))
  | ((with_reducible refine' vLenL ?h1 ?_); (case h1 => tm_at "l"))
  | ((with_reducible refine' vLenT ?h1 ?_); (case h1 => tm_at "l"))
  | with_reducible refine' vSl ?_
  | with_reducible refine' vPart ?_
  | with_reducible refine' vPartI ?_
  | with_reducible refine' vNoPart ?_
  | with_reducible refine' sCons ?_
  | with_reducible refine' sNil ?_
  | with_reducible refine' wAnyE ?_
  | with_reducible refine' wRng1 ?_
  | with_reducible refine' wRng3 ?_
  | with_reducible refine' vRevE ?_
  | with_reducible refine' wEnum ?_
  | with_reducible refine' vDGet ?_
  | with_reducible refine' wRng2 ?_
  | with_reducible refine' wRng1I ?_
  | with_reducible refine' wRng2I ?_
  | with_reducible refine' sFor ?_
  | ((with_reducible refine' sTup ?h1 ?h2 ?_); (case h1 => tm_at "l"); (case h2 => rfl))
  | ((with_reducible refine' vTyL ?h1 ?_); (case h1 => tm_at "h"))
  | ((refine' vMod ?h1 ?_); (case h1 => (show (0 : Int) < _; omega)))
  | fail "stuck")
local macro_rules | `(tactic| tm_at "w") => `(tactic| repeat tm_at "w1")
def tyN : DT → String
  | .none => "NoneType"
  | .bool _ => "bool"
  | .int _ => "int"
  | .str _ => "str"
  | .list _ => "list"
  | .tuple _ => "tuple"
  | .dict _ => "dict"
theorem Dp.ty {K : PySem.W.Frag} {H : Hp} {v : V} {d : DT} (h : Dp K H v d) : TyX K H v (.type (tyN d)) := by
  cases h with
  | non => exact .base .non
  | bl b => exact .base (.bl b)
  | int i => exact .base (.int i)
  | str x => exact .base (.str x)
  | lst h _ =>
    rcases h with (h | ⟨o, h⟩) | ⟨o, its, n, e, c, _⟩
    · exact .base (.lst h)
    · exact .base (.frz h)
    · exact .kList e c
  | tup h _ =>
    rcases h with (h | ⟨o, h⟩) | ⟨o, its, n, e, c, _⟩
    · exact .base (.tup h)
    · exact .fTuple h
    · exact .kTuple e c
theorem vIsi {K : PySem.W.Frag} {H : Hp} {x : V} {T c : String} {b : Bool} {Q : VK} (ht : TyX K H x (.type T)) (hk : kitB T c = some b) (q : Q (.bl b) H) : rIsi K [x, .ty c] H Q :=
  ⟨x, .ty c, .type T, .type c, b, rfl, .ty c, ht, kit_ty hk, q⟩
def isL : DT → Bool
  | .list _ => true
  | _ => false
def isT : DT → Bool
  | .tuple _ => true
  | _ => false
def isB : DT → Bool
  | .bool _ => true
  | _ => false
theorem kit_l (d : DT) : kitB (tyN d) "list" = some (isL d) := by
  cases d
  · show kitB "NoneType" "list" = some false; decide +kernel
  · show kitB "bool" "list" = some false; decide +kernel
  · show kitB "int" "list" = some false; decide +kernel
  · show kitB "str" "list" = some false; decide +kernel
  · show kitB "list" "list" = some true; decide +kernel
  · show kitB "tuple" "list" = some false; decide +kernel
  · show kitB "dict" "list" = some false; decide +kernel
theorem kit_t (d : DT) : kitB (tyN d) "tuple" = some (isT d) := by
  cases d
  · show kitB "NoneType" "tuple" = some false; decide +kernel
  · show kitB "bool" "tuple" = some false; decide +kernel
  · show kitB "int" "tuple" = some false; decide +kernel
  · show kitB "str" "tuple" = some false; decide +kernel
  · show kitB "list" "tuple" = some false; decide +kernel
  · show kitB "tuple" "tuple" = some true; decide +kernel
  · show kitB "dict" "tuple" = some false; decide +kernel
theorem kit_b (d : DT) : kitB (tyN d) "bool" = some (isB d) := by
  cases d
  · show kitB "NoneType" "bool" = some false; decide +kernel
  · show kitB "bool" "bool" = some true; decide +kernel
  · show kitB "int" "bool" = some false; decide +kernel
  · show kitB "str" "bool" = some false; decide +kernel
  · show kitB "list" "bool" = some false; decide +kernel
  · show kitB "tuple" "bool" = some false; decide +kernel
  · show kitB "dict" "bool" = some false; decide +kernel
mutual
def rk : DT → Nat
  | .list ds => rks ds + 1
  | .tuple ds => rks ds + 1
  | _ => 0
def rks : List DT → Nat
  | [] => 0
  | d :: ds => max (rk d) (rks ds)
end
mutual
/-- no part is long -/
def Sml : DT → Prop
  | .list ds => ds.length ≤ 100000 ∧ SmlL ds
  | .tuple ds => ds.length ≤ 100000 ∧ SmlL ds
  | _ => True
def SmlL : List DT → Prop
  | [] => True
  | d :: ds => Sml d ∧ SmlL ds
end
theorem smlL_mem : ∀ {ds : List DT} {d : DT}, SmlL ds → d ∈ ds → Sml d
  | e :: ds, d, h, hd => by
    unfold SmlL at h
    rcases List.mem_cons.mp hd with rfl | hd
    · exact h.1
    · exact smlL_mem h.2 hd
theorem smlL_of : ∀ {ds : List DT}, (∀ d ∈ ds, Sml d) → SmlL ds
  | [], _ => by unfold SmlL; trivial
  | d :: ds, h => by
    unfold SmlL
    exact ⟨h d List.mem_cons_self, smlL_of fun e he => h e (List.mem_cons_of_mem _ he)⟩
theorem rks_mem {ds : List DT} {d : DT} (h : d ∈ ds) : rk d ≤ rks ds := by
  induction ds with
  | nil => cases h
  | cons e ds ih =>
    unfold rks
    rcases List.mem_cons.mp h with rfl | h
    · exact Nat.le_max_left _ _
    · exact Nat.le_trans (ih h) (Nat.le_max_right _ _)
theorem rks_of {ds : List DT} {k : Nat} (h : ∀ d ∈ ds, rk d ≤ k) : rks ds ≤ k := by
  induction ds with
  | nil => unfold rks; exact Nat.zero_le _
  | cons e ds ih =>
    unfold rks
    exact Nat.max_le.mpr ⟨h e List.mem_cons_self, ih fun d hd => h d (List.mem_cons_of_mem _ hd)⟩
theorem layAll_mem {ds : List DT} {d : DT} (h : PyData.canLayAll0 ds = true) (hd : d ∈ ds) : d.canLay0 = true := by
  induction ds with
  | nil => cases hd
  | cons e ds ih =>
    obtain ⟨h1, h2⟩ := Bool.and_eq_true_iff.mp h
    rcases List.mem_cons.mp hd with rfl | hd
    · exact h1
    · exact ih h2 hd
theorem layAll_of {ds : List DT} (h : ∀ d ∈ ds, d.canLay0 = true) : PyData.canLayAll0 ds = true := by
  induction ds with
  | nil => rfl
  | cons e ds ih => exact Bool.and_eq_true_iff.mpr ⟨h e List.mem_cons_self, ih fun d hd => h d (List.mem_cons_of_mem _ hd)⟩
def SameT (K : PySem.W.Frag) (m : Nat) (d : DT) : Prop := ∀ (H : Hp) (v w : V) (Q : VK) (E : XK), Dp K H v d → Dp K H w d → d.canLay0 = true → Sml d → (∀ H', Same H H' → Q (.bl true) H') → W K m ._law_same [v, w] H Q E
section
variable {K : PySem.W.Frag} {n m : Nat} {H : Hp} {Q : VK} {E : XK} {a b : Addr} {xs ys : List V} {ds : List DT}
theorem len_any (h : SqL K H a xs ∨ SqT K H a xs) (q : Q (.int xs.length) H) : rLenU K [.ref a] H Q := ⟨_, h, q⟩
theorem ix_any {i : Int} {v : V} (h : SqL K H a xs ∨ SqT K H a xs) (hi : atI xs i = some v) (q : Q v H) : rIxU K (.ref a) (.int i) H Q := ⟨_, _, h, hi, q⟩
theorem any_same {H' : Hp} (e : Same H H') (h : SqL K H a xs ∨ SqT K H a xs) : SqL K H' a xs ∨ SqT K H' a xs := h.imp (Same.seq e) (Cw.Same.tup e)
theorem w_rows_same (ha : SqL K H a xs ∨ SqT K H a xs) (hb : SqL K H b ys ∨ SqT K H b ys) (hx : DpAll K H xs ds) (hy : DpAll K H ys ds) (hl : PyData.canLayAll0 ds = true) (hs : SmlL ds) (hn : ds.length ≤ 100000) (ih : ∀ d ∈ ds, SameT K (m + 1) d)
    (q : ∀ H', Same H H' → Q (.bl true) H') : W K (m + 2) ._law_rows_same [.ref a, .ref b] H Q E := by
  have lx := DpAll.len hx
  have ly := DpAll.len hy
  refine ⟨rfl, ?_⟩
  show t__law_rows_same K (W K (m + 1)) _ _ _
  unfold t__law_rows_same
  refine sSeq ?_
  refine sIf ?_
  refine vTest ?_
  refine vOp ?_
  refine vCB ?_
  refine vCons ?_
  refine vVar rfl ?_
  refine vNil ?_
  refine len_any ha ?_
  refine vCB ?_
  refine vCons ?_
  refine vVar rfl ?_
  refine vNil ?_
  refine len_any hb ?_
  refine vNeI ?_
  refine vBl ?_
  rw [lx, ly]
  refine iN (by simp) ?_
  refine sNext ?_
  dsimp only
  refine sRet ?_
  refine vOp ?_
  refine vLc ?_
  refine wRng1 ?_
  refine vCons ?_
  refine vCB ?_
  refine vCons ?_
  refine vVar rfl ?_
  refine vNil ?_
  refine len_any ha ?_
  refine vNil ?_
  refine wRng1I ?_
  rw [lx]
  refine ⟨by omega, by omega, ?_⟩
  rw [Int.toNat_natCast]
  intro D hD
  refine lc_range (fun i H' => Same H H' ∧ H' D = some (.lst [])) ⟨same_upd hD, upd_same⟩ ?_ ?_
  · rintro i H1 hi ⟨hS, hF⟩
    rw [Int.zero_add]
    refine sName ⟨rfl, ?_⟩
    obtain ⟨x, hxi⟩ : ∃ x, xs[i]? = some x := ⟨_, List.getElem?_eq_getElem (by omega)⟩
    obtain ⟨y, hyi⟩ : ∃ y, ys[i]? = some y := ⟨_, List.getElem?_eq_getElem (by omega)⟩
    obtain ⟨d, hd, hxd⟩ := DpAll.get hx hxi
    obtain ⟨d', hd', hyd⟩ := DpAll.get hy hyi
    rw [hd] at hd'
    cases hd'
    have hm := List.mem_of_getElem? hd
    refine vNot ?_
    refine vTB ?_
    refine vCall ?_
    refine vCons ?_
    refine vOp ?_
    refine vVar rfl ?_
    refine vVar rfl ?_
    refine ix_any (any_same hS ha) (atI_nat hxi) ?_
    refine vCons ?_
    refine vOp ?_
    refine vVar rfl ?_
    refine vVar rfl ?_
    refine ix_any (any_same hS hb) (atI_nat hyi) ?_
    refine vNil ?_
    refine ih d hm H1 x y _ _ (Dp.mono hS hxd) (Dp.mono hS hyd) (layAll_mem hl hm) (smlL_mem hs hm) ?_
    intro H2 hS2
    refine vBl ?_
    refine iN rfl ?_
    exact ⟨Same.trans hS hS2, hS2 _ _ hF⟩
  · rintro H1 ⟨hS, hF⟩
    refine vLst ?_
    refine vNil ⟨Nat.zero_le _, fun p hp => ?_⟩
    refine vEqD (d := .list []) (e := .list []) (.lst (SqL.of (upd_old hp hF)) .nil) (.lst (SqL.of upd_same) .nil) (by decide) (by decide) ?_
    exact q _ (Same.trans hS (same_upd hp))
theorem same_all : ∀ (m : Nat) (d : DT), 2 * rk d + 1 ≤ m → SameT K m d := by
  intro m
  induction m using Nat.strongRecOn with
  | _ m ih =>
    intro d hm H v w Q E hv hw hl hs q
    obtain ⟨m, rfl⟩ : ∃ j, m = j + 1 := ⟨m - 1, by omega⟩
    have tv := Dp.ty hv
    have tw := Dp.ty hw
    have sub : ∀ ds, rks ds + 1 = rk d → ∀ e ∈ ds, ∀ j, m = j + 2 → SameT K (j + 1) e := by
      intro ds hds e he j hj
      have := rks_mem he
      exact ih (j + 1) (by omega) e (by omega)
    refine ⟨rfl, ?_⟩
    show t__law_same K (W K m) _ _ _
    unfold t__law_same
    refine sSeq ?_
    refine sIf ?_
    refine vTB ?_
    refine vCB ?_
    refine vCons ?_
    refine vVar rfl ?_
    refine vCons ?_
    refine vC ?_
    refine vNil ?_
    refine vIsi tv (kit_l d) ?_
    refine vBl ?_
    cases hdl : isL d with
    | true =>
      cases d with
      | list ds =>
        obtain ⟨a, xs, rfl, h1, h2⟩ := Dp.lst_inv hv
        obtain ⟨b, ys, rfl, h3, h4⟩ := Dp.lst_inv hw
        unfold rk at hm
        obtain ⟨j, rfl⟩ : ∃ j, m = j + 2 := ⟨m - 2, by omega⟩
        unfold Sml at hs
        refine iT rfl ?_
        refine sRet ?_
        refine vAndV ?_
        refine vCB ?_
        refine vCons ?_
        refine vVar rfl ?_
        refine vCons ?_
        refine vC ?_
        refine vNil ?_
        refine vIsi tw (kit_l _) ?_
        refine ⟨true, rfl, iT rfl ?_⟩
        refine vCall ?_
        refine vCons ?_
        refine vVar rfl ?_
        refine vCons ?_
        refine vVar rfl ?_
        refine vNil ?_
        exact w_rows_same (.inl h1) (.inl h3) h2 h4 hl hs.2 hs.1 (fun e he => sub ds (by unfold rk; rfl) e he j rfl) q
      | _ => cases hdl
    | false =>
      refine iN rfl ?_
      refine sNext ?_
      dsimp only
      refine sSeq ?_
      refine sIf ?_
      refine vTB ?_
      refine vCB ?_
      refine vCons ?_
      refine vVar rfl ?_
      refine vCons ?_
      refine vC ?_
      refine vNil ?_
      refine vIsi tv (kit_t d) ?_
      refine vBl ?_
      cases hdt : isT d with
      | true =>
        cases d with
        | tuple ds =>
          obtain ⟨a, xs, rfl, h1, h2⟩ := Dp.tup_inv hv
          obtain ⟨b, ys, rfl, h3, h4⟩ := Dp.tup_inv hw
          unfold rk at hm
          obtain ⟨j, rfl⟩ : ∃ j, m = j + 2 := ⟨m - 2, by omega⟩
          unfold Sml at hs
          refine iT rfl ?_
          refine sRet ?_
          refine vAndV ?_
          refine vCB ?_
          refine vCons ?_
          refine vVar rfl ?_
          refine vCons ?_
          refine vC ?_
          refine vNil ?_
          refine vIsi tw (kit_t _) ?_
          refine ⟨true, rfl, iT rfl ?_⟩
          refine vCall ?_
          refine vCons ?_
          refine vVar rfl ?_
          refine vCons ?_
          refine vVar rfl ?_
          refine vNil ?_
          exact w_rows_same (.inr h1) (.inr h3) h2 h4 hl hs.2 hs.1 (fun e he => sub ds (by unfold rk; rfl) e he j rfl) q
        | _ => cases hdt
      | false =>
        refine iN rfl ?_
        refine sNext ?_
        dsimp only
        refine sRet ?_
        refine vAndV ?_
        refine vOp ?_
        refine vVar rfl ?_
        refine vVar rfl ?_
        have sh : SeqAt.shaped d = true := by
          unfold SeqAt.shaped
          refine Bool.and_eq_true_iff.mpr ⟨hl, decide_eq_true ?_⟩
          cases d with
          | list ds => cases hdl
          | tuple ds => cases hdt
          | dict ds => cases hl
          | _ => simp [PyData.depth]
        refine vEqD hv hw sh sh ?_
        rw [SeqAt.eqv_refl d hl]
        refine ⟨true, rfl, iT rfl ?_⟩
        refine vOp ?_
        refine vCB ?_
        refine vCons ?_
        refine vVar rfl ?_
        refine vCons ?_
        refine vC ?_
        refine vNil ?_
        refine vIsi tv (kit_b d) ?_
        refine vCB ?_
        refine vCons ?_
        refine vVar rfl ?_
        refine vCons ?_
        refine vC ?_
        refine vNil ?_
        refine vIsi tw (kit_b d) ?_
        refine vEqB ?_
        have e : decide (isB d = isB d) = true := decide_eq_true rfl
        rw [e]
        exact q H (Same.refl H)
end
end Pk
set_option Elab.async false
set_option linter.all false
set_option maxRecDepth 100000
set_option maxHeartbeats 4000000
/-! Lw10: each list stands at one place. -/
namespace Pk
open PySem PySem.Spec PyProof.Rows L2 Cw
local macro_rules | `(tactic| tm_at "h") => `(tactic| first
  | assumption
  | exact upd_same
  | ((with_reducible refine' upd_old ?h1 ?h2); (case h1 => assumption); (case h2 => tm_at "h"))
  | ((with_reducible refine' upd_oth ?h1 ?h2); (case h1 => first | assumption | (exact Ne.symm (by assumption)) | (exact ne_of_none (by assumption) (by assumption)) | (exact Ne.symm (ne_of_none (by assumption) (by assumption)))); (case h2 => tm_at "h"))
  | ((refine' Same.at (by assumption) ?h3); (case h3 => tm_at "h")))
local macro_rules | `(tactic| tm_at "l") => `(tactic| first
  | assumption
  | exact SqL.of (by tm_at "h")
  | exact SqT.of (by tm_at "h")
  | exact Same.seq (by assumption) (by tm_at "l")
  | exact Cw.Same.tup (by assumption) (by tm_at "l"))
local macro_rules | `(tactic| tm_at "b") => `(tactic| first
  | rfl
  | decide
  | exact decide_eq_true (by first | assumption | rfl | omega)
  | exact decide_eq_false (by first | assumption | omega))
local macro_rules | `(tactic| tm_at "w1") => `(tactic| first
  | ((with_reducible refine' vVar ?h1 ?_); (case h1 => rfl))
  | with_reducible refine' sSeq ?_
  | with_reducible refine' sAsg ?_
  | with_reducible refine' sName ?_
  | with_reducible refine' vOp ?_
  | with_reducible refine' vC ?_
  | with_reducible refine' vCons ?_
  | with_reducible refine' vNil ?_
  | with_reducible refine' vCB ?_
  | with_reducible refine' vFldE ?_
  | with_reducible refine' vAddI ?_
  | with_reducible refine' vSub ?_
  | with_reducible refine' vCmp ?_
  | with_reducible refine' vEqI ?_
  | with_reducible refine' vEqS ?_
  | with_reducible refine' vNeI ?_
  | with_reducible refine' sIf ?_
  | with_reducible refine' vTest ?_
  | with_reducible refine' vTB ?_
  | with_reducible refine' vBl ?_
  | with_reducible refine' sRet ?_
  | with_reducible refine' sDrop ?_
  | with_reducible refine' sNext ?_
  | ((with_reducible refine' iT ?h1 ?_); (case h1 => tm_at "b"))
  | ((with_reducible refine' iN ?h1 ?_); (case h1 => tm_at "b"))
  | with_reducible refine' vMethE ?_
  | with_reducible refine' vCall ?_
  | with_reducible refine' vAnd ?_
  | with_reducible refine' vOr ?_
  | with_reducible refine' vNot ?_
  | with_reducible refine' vAndV ?_
  | with_reducible refine' vOrV ?_
  | with_reducible refine' vNotV ?_
  | with_reducible refine' vIfE ?_
  | with_reducible refine' vTup ?_
  | with_reducible refine' vLst ?_
  | with_reducible refine' vBM ?_
  | with_reducible refine' vBM0 ?_
  | with_reducible refine' vMax2 ?_
  | with_reducible refine' vMin2 ?_
  | with_reducible refine' vInt ?_
  | with_reducible refine' vIntB ?_
  | with_reducible refine' vUn ?_
  | with_reducible refine' vNeg ?_
  | ((with_reducible refine' sAug ?h1 ?_); (case h1 => rfl))
  | with_reducible refine' sIAdd ?_
  | with_reducible refine' sISub ?_
  | with_reducible refine' sStoE ?_
  | ((with_reducible refine' vFld ?h1 ?h2 ?_); (case h1 => tm_at "h"); (case h2 => rfl))
  | ((with_reducible refine' sSto ?h1 ?h2 ?_); (case h1 => tm_at "h"); (case h2 => first | (show 0 < 1000; decide) | (show 1 < 1000; decide) | (show 2 < 1000; decide) | (show 3 < 1000; decide) | (show 4 < 1000; decide) | (show 5 < 1000; decide)))
  | ((with_reducible refine' vLenL ?h1 ?_); (case h1 => tm_at "l"))
  | ((with_reducible refine' vLenT ?h1 ?_); (case h1 => tm_at "l"))
  | with_reducible refine' vSl ?_
  | with_reducible refine' vPart ?_
  | with_reducible refine' vPartI ?_
  | with_reducible refine' vNoPart ?_
  | with_reducible refine' sCons ?_
  | with_reducible refine' sNil ?_
  | with_reducible refine' wAnyE ?_
  | with_reducible refine' wRng1 ?_
  | with_reducible refine' wRng3 ?_
  | with_reducible refine' vRevE ?_
  | with_reducible refine' wEnum ?_
  | with_reducible refine' vDGet ?_
  | with_reducible refine' wRng2 ?_
  | with_reducible refine' wRng1I ?_
  | with_reducible refine' wRng2I ?_
  | with_reducible refine' sFor ?_
  | ((with_reducible refine' sTup ?h1 ?h2 ?_); (case h1 => tm_at "l"); (case h2 => rfl))
  | ((with_reducible refine' vTyL ?h1 ?_); (case h1 => tm_at "h"))
  | ((refine' vMod ?h1 ?_); (case h1 => (show (0 : Int) < _; omega)))
  | fail "stuck")
local macro_rules | `(tactic| tm_at "w") => `(tactic| repeat tm_at "w1")
mutual
def nl : DT → Nat
  | .list ds => nls ds + 1
  | .tuple ds => nls ds
  | _ => 0
def nls : List DT → Nat
  | [] => 0
  | d :: ds => nl d + nls ds
end
mutual
theorem Own.nl {K : PySem.W.Frag} {H : Hp} : ∀ {v : V} {d : DT} {L : List Addr}, Own K H v d L → L.length = Pk.nl d
  | _, _, _, .int i => by unfold Pk.nl; rfl
  | _, _, _, .str x => by unfold Pk.nl; rfl
  | _, _, _, .tup h q => by unfold Pk.nl; exact OwnL.nl q
  | _, _, _, .lst h q => by unfold Pk.nl; rw [List.length_cons, OwnL.nl q]
theorem OwnL.nl {K : PySem.W.Frag} {H : Hp} : ∀ {vs : List V} {ds : List DT} {L : List Addr}, OwnL K H vs ds L → L.length = nls ds
  | _, _, _, .nil => by unfold nls; rfl
  | _, _, _, .cons h q => by unfold nls; rw [List.length_append, Own.nl h, OwnL.nl q]
end
/-- the lists of the first i -/
theorem OwnL.parts {K : PySem.W.Frag} {H : Hp} : ∀ {vs : List V} {ds : List DT} {L : List Addr}, OwnL K H vs ds L → ∃ Ls : List (List Addr), L = Ls.flatten ∧ Ls.length = vs.length ∧ ∀ (i : Nat) (v : V) (d : DT) (M : List Addr), vs[i]? = some v → ds[i]? = some d → Ls[i]? = some M → Own K H v d M
  | _, _, _, .nil => ⟨[], rfl, rfl, by intro i v d M h; simp at h⟩
  | _, _, _, .cons (L := L) h q => by
    obtain ⟨Ls, h1, h2, h3⟩ := OwnL.parts q
    refine ⟨L :: Ls, by rw [List.flatten_cons, h1], by rw [List.length_cons, List.length_cons, h2], ?_⟩
    intro i v d M a b c
    cases i with
    | zero =>
      simp at a b c
      subst a b c
      exact h
    | succ i => exact h3 i v d M (by simpa using a) (by simpa using b) (by simpa using c)
def LisIn (K : PySem.W.Frag) (m : Nat) (d : DT) : Prop := ∀ (H : Hp) (v : V) (L : List Addr) (Q : VK) (E : XK), Own K H v d L → Sml d → nl d ≤ 100000 → (∀ p H', Same H H' → H p = none → H' p = some (.lst (L.map V.ref)) → Q (.ref p) H') → W K m ._law_lists_in [v] H Q E
theorem nls_mem {ds : List DT} {d : DT} (h : d ∈ ds) : nl d ≤ nls ds := by
  induction ds with
  | nil => cases h
  | cons e ds ih =>
    unfold nls
    rcases List.mem_cons.mp h with rfl | h
    · omega
    · have := ih h; omega
section
variable {K : PySem.W.Frag} {n m : Nat} {H : Hp} {Q : VK} {E : XK} {a b : Addr} {xs ys : List V} {ds : List DT}
/-- the loop over the parts -/
theorem li_loop {pf : Addr} {L : List Addr} {pre : List Addr} {H0 : Hp} (O0 : OwnL K H0 xs ds L) (ha0 : SqL K H0 a xs ∨ SqT K H0 a xs) (hs : SmlL ds) (hn : pre.length + nls ds ≤ 100000) (ih : ∀ d ∈ ds, LisIn K m d) (s0 : Same H0 H) (hp0 : H0 pf = none) (hF : H pf = some (.lst (pre.map V.ref)))
    {D : Ends} (q : ∀ (y2 : Option V) H', Same H0 H' → H' pf = some (.lst ((pre ++ L).map V.ref)) → D.nx [some (.ref a), some (.ref pf), y2] H') (x2 : Option V) :
    tFor (iAny K (tVar 0)) (gName 2) (tDrop (tBM K "list" rExtend (tVar 1) (tCons (tCall (W K m ._law_lists_in) [] E0 (tCons (tVar 2) tNil)) tNil))) D [some (.ref a), some (.ref pf), x2] H := by
  obtain ⟨Ls, hL, hLl, hLi⟩ := OwnL.parts O0
  have hLn := OwnL.nl O0
  have hds : xs.length = ds.length := DpAll.len O0.dp
  have step : ∀ (i : Nat) (x : V) (σ : L2.St) (H1 : Hp) (De : Ends), xs[i]? = some x → (∃ y2, Same H0 H1 ∧ H1 pf = some (.lst ((pre ++ (Ls.take i).flatten).map V.ref)) ∧ σ = [some (.ref a), some (.ref pf), y2]) →
      (∀ σ H', (∃ y2, Same H0 H' ∧ H' pf = some (.lst ((pre ++ (Ls.take (i + 1)).flatten).map V.ref)) ∧ σ = [some (.ref a), some (.ref pf), y2]) → De.nx σ H') →
      gName 2 x σ H1 fun σ2 H2 => tDrop (tBM K "list" rExtend (tVar 1) (tCons (tCall (W K m ._law_lists_in) [] E0 (tCons (tVar 2) tNil)) tNil)) De σ2 H2 := by
    rintro i x σ H1 De hx ⟨y2, hS, hF1, rfl⟩ hDe
    have hi := (List.getElem?_eq_some_iff.mp hx).1
    obtain ⟨d, hd⟩ : ∃ d, ds[i]? = some d := ⟨_, List.getElem?_eq_getElem (by omega)⟩
    obtain ⟨M, hM⟩ : ∃ M, Ls[i]? = some M := ⟨_, List.getElem?_eq_getElem (by omega)⟩
    have hm := List.mem_of_getElem? hd
    have o := hLi i x d M hx hd hM
    have htk : (Ls.take (i + 1)).flatten = (Ls.take i).flatten ++ M := by rw [List.take_succ, hM, List.flatten_append]; simp
    have hlen : (Ls.take (i + 1)).flatten.length ≤ L.length := by
      have e : Ls.flatten = (Ls.take (i + 1)).flatten ++ (Ls.drop (i + 1)).flatten := by rw [← List.flatten_append, List.take_append_drop]
      rw [hL, e, List.length_append]; omega
    refine sName ?_
    refine sDrop ?_
    refine vBM ?_
    refine vVar rfl ?_
    refine vTyL hF1 ?_
    refine vCons ?_
    refine vCall ?_
    refine vCons ?_
    refine vVar rfl ?_
    refine vNil ?_
    refine ih d hm H1 x M _ _ (o.mono hS) (smlL_mem hs hm) (by have := nls_mem hm; omega) ?_
    intro p H2 hS2 hp hp2
    refine vNil ?_
    refine vExt (hS2 _ _ hF1) hp2 ?_ ?_
    · rw [htk, List.length_append] at hlen
      rw [List.length_map, List.length_map, List.length_append, sizeLine_eq]
      omega
    · refine hDe _ _ ⟨_, Same.mut (Same.trans hS hS2) hp0, ?_, rfl⟩
      rw [upd_same, htk, ← List.append_assoc, List.map_append (l₁ := pre ++ _)]
  refine sFor ?_
  refine wAnyE ?_
  refine vVar rfl ?_
  have h0 : (∃ y2, Same H0 H ∧ H pf = some (.lst ((pre ++ (Ls.take 0).flatten).map V.ref)) ∧ [some (V.ref a), some (.ref pf), x2] = [some (.ref a), some (.ref pf), y2]) := ⟨x2, s0, by simpa using hF, rfl⟩
  have hend : ∀ σ H', (∃ y2, Same H0 H' ∧ H' pf = some (.lst ((pre ++ (Ls.take xs.length).flatten).map V.ref)) ∧ σ = [some (V.ref a), some (.ref pf), y2]) → D.nx σ H' := by
    rintro σ H' ⟨y2, hS, hF1, rfl⟩
    rw [← hLl, List.take_length, ← hL] at hF1
    exact q y2 H' hS hF1
  rcases ha0 with ha0 | ha0
  · refine wAnyL (Same.seq s0 ha0) ?_
    exact for_list (xs := xs) (fun i σ H' => ∃ y2, Same H0 H' ∧ H' pf = some (.lst ((pre ++ (Ls.take i).flatten).map V.ref)) ∧ σ = [some (.ref a), some (.ref pf), y2]) h0
      (fun i σ H' _ h => Same.seq h.choose_spec.1 ha0) (fun i x σ H' hx h => step i x σ H' _ hx h fun _ _ z => z) hend
  · refine wAnyT (Cw.Same.tup s0 ha0) ?_
    exact for_tup (xs := xs) (fun i σ H' => ∃ y2, Same H0 H' ∧ H' pf = some (.lst ((pre ++ (Ls.take i).flatten).map V.ref)) ∧ σ = [some (.ref a), some (.ref pf), y2]) h0
      (fun i σ H' _ h => Cw.Same.tup h.choose_spec.1 ha0) (fun i x σ H' hx h => step i x σ H' _ hx h fun _ _ z => z) hend
theorem lis_all : ∀ (m : Nat) (d : DT), rk d + 1 ≤ m → LisIn K m d := by
  intro m
  induction m with
  | zero => intro d h; omega
  | succ m ih =>
    intro d hm H v L Q E O hs hn q
    have tv := Dp.ty O.dp
    refine ⟨rfl, ?_⟩
    show t__law_lists_in K (W K m) _ _ _
    unfold t__law_lists_in
    refine sSeq ?_
    refine sAsg ?_
    refine vLst ?_
    refine vNil ⟨Nat.zero_le _, fun pf hpf => ?_⟩
    have tv1 := Dp.ty (Dp.mono (same_upd hpf (o := .lst [])) O.dp)
    refine sName ?_
    dsimp only
    refine sSeq ?_
    refine sIf ?_
    refine vTB ?_
    refine vCB ?_
    refine vCons ?_
    refine vVar rfl ?_
    refine vCons ?_
    refine vC ?_
    refine vNil ?_
    refine vIsi tv1 (kit_l d) ?_
    refine vBl ?_
    cases O with
    | int i =>
      refine iN rfl ?_
      refine sNext ?_
      dsimp only
      refine sSeq ?_
      refine sIf ?_
      refine vOr ?_
      refine vTB ?_
      refine vCB ?_
      refine vCons ?_
      refine vVar rfl ?_
      refine vCons ?_
      refine vC ?_
      refine vNil ?_
      refine vIsi tv1 (kit_l _) ?_
      refine vBl ?_
      refine iN rfl ?_
      refine vTB ?_
      refine vCB ?_
      refine vCons ?_
      refine vVar rfl ?_
      refine vCons ?_
      refine vC ?_
      refine vNil ?_
      refine vIsi tv1 (kit_t _) ?_
      refine vBl ?_
      refine iN rfl ?_
      refine sNext ?_
      dsimp only
      refine sRet ?_
      refine vVar rfl ?_
      exact q pf _ (same_upd hpf) hpf upd_same
    | str i =>
      refine iN rfl ?_
      refine sNext ?_
      dsimp only
      refine sSeq ?_
      refine sIf ?_
      refine vOr ?_
      refine vTB ?_
      refine vCB ?_
      refine vCons ?_
      refine vVar rfl ?_
      refine vCons ?_
      refine vC ?_
      refine vNil ?_
      refine vIsi tv1 (kit_l _) ?_
      refine vBl ?_
      refine iN rfl ?_
      refine vTB ?_
      refine vCB ?_
      refine vCons ?_
      refine vVar rfl ?_
      refine vCons ?_
      refine vC ?_
      refine vNil ?_
      refine vIsi tv1 (kit_t _) ?_
      refine vBl ?_
      refine iN rfl ?_
      refine sNext ?_
      dsimp only
      refine sRet ?_
      refine vVar rfl ?_
      exact q pf _ (same_upd hpf) hpf upd_same
    | @tup a xs ds L hT hO =>
      unfold Sml at hs
      unfold nl at hn
      unfold rk at hm
      refine iN rfl ?_
      refine sNext ?_
      dsimp only
      refine sSeq ?_
      refine sIf ?_
      refine vOr ?_
      refine vTB ?_
      refine vCB ?_
      refine vCons ?_
      refine vVar rfl ?_
      refine vCons ?_
      refine vC ?_
      refine vNil ?_
      refine vIsi tv1 (kit_l _) ?_
      refine vBl ?_
      refine iN rfl ?_
      refine vTB ?_
      refine vCB ?_
      refine vCons ?_
      refine vVar rfl ?_
      refine vCons ?_
      refine vC ?_
      refine vNil ?_
      refine vIsi tv1 (kit_t _) ?_
      refine vBl ?_
      refine iT rfl ?_
      refine li_loop (pre := []) (H0 := H) hO (.inr hT) hs.2 (by simpa using hn) (fun d hd => ih d (by have := rks_mem hd; omega)) (same_upd hpf) hpf upd_same ?_ none
      intro y2 H' hS hF
      dsimp only
      refine sRet ?_
      refine vVar rfl ?_
      exact q pf H' hS hpf (by simpa using hF)
    | @lst a xs ds L hT hO =>
      unfold Sml at hs
      unfold nl at hn
      unfold rk at hm
      refine iT rfl ?_
      refine sDrop ?_
      refine vBM ?_
      refine vVar rfl ?_
      refine vTyL upd_same ?_
      refine vCons ?_
      refine vVar rfl ?_
      refine vNil ?_
      refine vApp upd_same (by show 0 < sizeLine; decide) ?_
      have ss : Same H (L2.upd (L2.upd H pf (.lst [])) pf (.lst ([] ++ [V.ref a]))) := Same.mut (same_upd hpf) hpf
      have tv2 := Dp.ty (Dp.mono ss (.lst (SqL.of hT) hO.dp : Dp K H (.ref a) (.list ds)))
      dsimp only
      refine sSeq ?_
      refine sIf ?_
      refine vOr ?_
      refine vTB ?_
      refine vCB ?_
      refine vCons ?_
      refine vVar rfl ?_
      refine vCons ?_
      refine vC ?_
      refine vNil ?_
      refine vIsi tv2 (kit_l _) ?_
      refine vBl ?_
      refine iT rfl ?_
      refine iT rfl ?_
      refine li_loop (pre := [a]) (H0 := H) hO (.inl (SqL.of hT)) hs.2 (by simp; omega) (fun d hd => ih d (by have := rks_mem hd; omega)) ss hpf upd_same ?_ none
      intro y2 H' hS hF
      dsimp only
      refine sRet ?_
      refine vVar rfl ?_
      exact q pf H' hS hpf hF
end
end Pk
set_option Elab.async false
set_option linter.all false
set_option maxRecDepth 100000
set_option maxHeartbeats 4000000
/-! Lw11: own lists; the size; values as data. -/
namespace Pk
open PySem PySem.Spec PyProof.Rows L2 Cw
local macro_rules | `(tactic| tm_at "h") => `(tactic| first
  | assumption
  | exact upd_same
  | ((with_reducible refine' upd_old ?h1 ?h2); (case h1 => assumption); (case h2 => tm_at "h"))
  | ((with_reducible refine' upd_oth ?h1 ?h2); (case h1 => first | assumption | (exact Ne.symm (by assumption)) | (exact ne_of_none (by assumption) (by assumption)) | (exact Ne.symm (ne_of_none (by assumption) (by assumption)))); (case h2 => tm_at "h"))
  | ((refine' Same.at (by assumption) ?h3); (case h3 => tm_at "h")))
local macro_rules | `(tactic| tm_at "l") => `(tactic| first
  | assumption
  | exact SqL.of (by tm_at "h")
  | exact SqT.of (by tm_at "h")
  | exact Same.seq (by assumption) (by tm_at "l")
  | exact Cw.Same.tup (by assumption) (by tm_at "l"))
local macro_rules | `(tactic| tm_at "b") => `(tactic| first
  | rfl
  | decide
  | exact decide_eq_true (by first | assumption | rfl | omega)
  | exact decide_eq_false (by first | assumption | omega))
local macro_rules | `(tactic| tm_at "w1") => `(tactic| first
  | ((with_reducible refine' vVar ?h1 ?_); (case h1 => rfl))
  | with_reducible refine' sSeq ?_
  | with_reducible refine' sAsg ?_
  | with_reducible refine' sName ?_
  | with_reducible refine' vOp ?_
  | with_reducible refine' vC ?_
  | with_reducible refine' vCons ?_
  | with_reducible refine' vNil ?_
  | with_reducible refine' vCB ?_
  | with_reducible refine' vFldE ?_
  | with_reducible refine' vAddI ?_
  | with_reducible refine' vSub ?_
  | with_reducible refine' vCmp ?_
  | with_reducible refine' vEqI ?_
  | with_reducible refine' vEqS ?_
  | with_reducible refine' vNeI ?_
  | with_reducible refine' sIf ?_
  | with_reducible refine' vTest ?_
  | with_reducible refine' vTB ?_
  | with_reducible refine' vBl ?_
  | with_reducible refine' sRet ?_
  | with_reducible refine' sDrop ?_
  | with_reducible refine' sNext ?_
  | ((with_reducible refine' iT ?h1 ?_); (case h1 => tm_at "b"))
  | ((with_reducible refine' iN ?h1 ?_); (case h1 => tm_at "b"))
  | with_reducible refine' vMethE ?_
  | with_reducible refine' vCall ?_
  | with_reducible refine' vAnd ?_
  | with_reducible refine' vOr ?_
  | with_reducible refine' vNot ?_
  | with_reducible refine' vAndV ?_
  | with_reducible refine' vOrV ?_
  | with_reducible refine' vNotV ?_
  | with_reducible refine' vIfE ?_
  | with_reducible refine' vTup ?_
  | with_reducible refine' vLst ?_
  | with_reducible refine' vBM ?_
  | with_reducible refine' vBM0 ?_
  | with_reducible refine' vMax2 ?_
  | with_reducible refine' vMin2 ?_
  | with_reducible refine' vInt ?_
  | with_reducible refine' vIntB ?_
  | with_reducible refine' vUn ?_
  | with_reducible refine' vNeg ?_
  | ((with_reducible refine' sAug ?h1 ?_); (case h1 => rfl))
  | with_reducible refine' sIAdd ?_
  | with_reducible refine' sISub ?_
  | with_reducible refine' sStoE ?_
  | ((with_reducible refine' vFld ?h1 ?h2 ?_); (case h1 => tm_at "h"); (case h2 => rfl))
  | ((with_reducible refine' sSto ?h1 ?h2 ?_); (case h1 => tm_at "h"); (case h2 => first | (show 0 < 1000; decide) | (show 1 < 1000; decide) | (show 2 < 1000; decide) | (show 3 < 1000; decide) | (show 4 < 1000; decide) | (show 5 < 1000; decide)))
  | ((with_reducible refine' vLenL ?h1 ?_); (case h1 => tm_at "l"))
  | ((with_reducible refine' vLenT ?h1 ?_); (case h1 => tm_at "l"))
  | with_reducible refine' vSl ?_
  | with_reducible refine' vPart ?_
  | with_reducible refine' vPartI ?_
  | with_reducible refine' vNoPart ?_
  | with_reducible refine' sCons ?_
  | with_reducible refine' sNil ?_
  | with_reducible refine' wAnyE ?_
  | with_reducible refine' wRng1 ?_
  | with_reducible refine' wRng3 ?_
  | with_reducible refine' vRevE ?_
  | with_reducible refine' wEnum ?_
  | with_reducible refine' vDGet ?_
  | with_reducible refine' wRng2 ?_
  | with_reducible refine' wRng1I ?_
  | with_reducible refine' wRng2I ?_
  | with_reducible refine' sFor ?_
  | ((with_reducible refine' sTup ?h1 ?h2 ?_); (case h1 => tm_at "l"); (case h2 => rfl))
  | ((with_reducible refine' vTyL ?h1 ?_); (case h1 => tm_at "h"))
  | ((refine' vMod ?h1 ?_); (case h1 => (show (0 : Int) < _; omega)))
  | fail "stuck")
local macro_rules | `(tactic| tm_at "w") => `(tactic| repeat tm_at "w1")
mutual
theorem Own.small {K : PySem.W.Frag} {H : Hp} : ∀ {v : V} {d : DT} {L : List Addr}, Own K H v d L → Sml d → ∀ b ∈ L, ∃ xs, H b = some (.lst xs) ∧ xs.length ≤ 100000
  | _, _, _, .int i, _, b, hb => by cases hb
  | _, _, _, .str x, _, b, hb => by cases hb
  | _, _, _, .tup h q, hs, b, hb => by unfold Sml at hs; exact OwnL.small q hs.2 b hb
  | _, _, _, .lst h q, hs, b, hb => by
    unfold Sml at hs
    rcases List.mem_cons.mp hb with rfl | hb
    · exact ⟨_, h, by rw [DpAll.len q.dp]; exact hs.1⟩
    · exact OwnL.small q hs.2 b hb
theorem OwnL.small {K : PySem.W.Frag} {H : Hp} : ∀ {vs : List V} {ds : List DT} {L : List Addr}, OwnL K H vs ds L → SmlL ds → ∀ b ∈ L, ∃ xs, H b = some (.lst xs) ∧ xs.length ≤ 100000
  | _, _, _, .nil, _, b, hb => by cases hb
  | _, _, _, .cons h q, hs, b, hb => by
    unfold SmlL at hs
    rcases List.mem_append.mp hb with hb | hb
    · exact Own.small h hs.1 b hb
    · exact OwnL.small q hs.2 b hb
end
theorem dp_ints {K : PySem.W.Frag} {H : Hp} : ∀ is : List Int, DpAll K H (is.map V.int) (is.map PyData.int)
  | [] => .nil
  | i :: is => .cons (.int i) (dp_ints is)
theorem shaped_ints (is : List Int) : SeqAt.shaped (.list (is.map PyData.int)) = true := by
  unfold SeqAt.shaped
  refine Bool.and_eq_true_iff.mpr ⟨layAll_of fun d hd => ?_, decide_eq_true ?_⟩
  · obtain ⟨i, _, rfl⟩ := List.mem_map.mp hd
    rfl
  · have : ∀ is : List Int, PyData.depthAll (is.map PyData.int) ≤ 1 := by
      intro is
      induction is with
      | nil => simp [PyData.depthAll]
      | cons i is ih => simp only [List.map_cons, PyData.depthAll, PyData.depth]; omega
    have := this is
    simp only [PyData.depth]
    omega
section
variable {K : PySem.W.Frag} {n m : Nat} {H : Hp} {Q : VK} {E : XK} {v : V} {d : DT} {L : List Addr}
theorem w_own (O : Own K H v d L) (hnd : L.Nodup) (hs : Sml d) (hnl : nl d ≤ 100000) (hm : rk d + 2 ≤ m) (q : ∀ H', Fr L H H' → Q (.bl true) H') : W K m ._law_own [v] H Q E := by
  obtain ⟨m, rfl⟩ : ∃ j, m = j + 1 := ⟨m - 1, by omega⟩
  obtain ⟨cont, hcont⟩ : ∃ cont : Addr → List V, ∀ b ∈ L, H b = some (.lst (cont b)) ∧ (cont b).length ≤ 100000 := by
    refine ⟨fun b => match H b with | some (.lst xs) => xs | _ => [], fun b hb => ?_⟩
    obtain ⟨xs, h1, h2⟩ := Own.small O hs b hb
    simp only [h1]
    exact ⟨trivial, h2⟩
  have hLl : L.length ≤ 100000 := by rw [Own.nl O]; exact hnl
  refine ⟨rfl, ?_⟩
  show t__law_own K (W K m) _ _ _
  unfold t__law_own
  refine sSeq ?_
  refine sAsg ?_
  refine vCall ?_
  refine vCons ?_
  refine vVar rfl ?_
  refine vNil ?_
  refine lis_all m d (by omega) H v L _ _ O hs hnl ?_
  intro p H1 hS1 hp hp1
  refine sName ?_
  dsimp only
  refine sSeq ?_
  refine sAsg ?_
  refine vLc ?_
  refine wAnyE ?_
  refine vVar rfl ?_
  refine wAnyL (SqL.of hp1) ?_
  intro D1 hD1
  have lens : ∀ (Hx : Hp) (D : Addr) (g : Addr → Nat) (i : Nat) (x : V) (H2 : Hp) (Pn : Hp → Prop), (∀ b ∈ L, ∃ xs, Hx b = some (.lst xs) ∧ xs.length = g b) → Hx D = none → (L.map V.ref)[i]? = some x → (Same Hx H2 ∧ H2 D = some (.lst ((L.take i).map fun b => V.int (g b)))) →
      (∀ H', (Same Hx H' ∧ H' D = some (.lst ((L.take (i + 1)).map fun b => V.int (g b)))) → Pn H') → rLenU K [x] H2 fun y H4 => ∃ acc, H4 D = some (.lst acc) ∧ acc.length < sizeLine ∧ Pn (L2.upd H4 D (.lst (acc ++ [y]))) := by
    rintro Hx D g i x H2 Pn hg hD hx ⟨hS, hF⟩ hP
    rw [List.getElem?_map] at hx
    cases hb : L[i]? with
    | none => rw [hb] at hx; cases hx
    | some b =>
    rw [hb] at hx
    have e := Option.some.inj hx
    subst e
    obtain ⟨xs, h1, h2⟩ := hg b (List.mem_of_getElem? hb)
    refine vLenL (SqL.of (hS _ _ h1)) ?_
    refine ⟨_, hF, by rw [List.length_map, List.length_take, sizeLine_eq]; omega, hP _ ⟨Same.mut hS hD, ?_⟩⟩
    rw [upd_same, List.take_succ, hb, List.map_append, h2]
    rfl
  refine lc_list (xs := L.map V.ref) (fun i H' => Same H1 H' ∧ H' D1 = some (.lst ((L.take i).map fun b => V.int ((cont b).length : Nat)))) ⟨same_upd hD1, upd_same⟩ ?_ ?_ ?_
  · rintro i H' hi ⟨hS, _⟩
    exact SqL.of (hS _ _ hp1)
  · rintro i x H2 hx hP
    refine sName ⟨rfl, ?_⟩
    refine vYes ?_
    refine iT rfl ?_
    refine vCB ?_
    refine vCons ?_
    refine vVar rfl ?_
    refine vNil ?_
    exact lens H1 D1 (fun b => (cont b).length) i x H2 _ (fun b hb => ⟨_, hS1 _ _ (hcont b hb).1, rfl⟩) hD1 hx hP fun H' h => h
  rintro H2 ⟨hS2, hF2⟩
  rw [List.length_map, List.take_length] at hF2
  have s02 := Same.trans hS1 hS2
  have hpL : p ∉ L := fun z => by rw [(hcont p z).1] at hp; cases hp
  have hDL : D1 ∉ L := fun z => by have := hS1 _ _ (hcont D1 z).1; rw [hD1] at this; cases this
  refine sName ?_
  dsimp only
  refine sSeq ?_
  refine sFor ?_
  refine wAnyE ?_
  refine vVar rfl ?_
  refine wAnyL (SqL.of (hS2 _ _ hp1)) ?_
  refine for_list (xs := L.map V.ref) (fun i σ H' => Fr L H H' ∧ H' p = some (.lst (L.map V.ref)) ∧ H' D1 = some (.lst (L.map fun b => V.int ((cont b).length : Nat))) ∧ (∀ (j : Nat) (b : Addr), L[j]? = some b → H' b = some (.lst (if j < i then cont b ++ [.non] else cont b))) ∧ ∃ y3 y4, σ = [some v, some (.ref p), some (.ref D1), y3, y4])
    ⟨Fr.of s02, hS2 _ _ hp1, hF2, fun j b hb => s02 _ _ (hcont b (List.mem_of_getElem? hb)).1, none, none, rfl⟩ ?_ ?_ ?_
  · rintro i σ H' hi ⟨_, h, _⟩
    exact SqL.of h
  · rintro i x σ H3 hx ⟨hFr, hp3, hD3, hC, y3, y4, rfl⟩
    rw [List.getElem?_map] at hx
    cases hb : L[i]? with
    | none => rw [hb] at hx; cases hx
    | some b =>
    rw [hb] at hx
    have e := Option.some.inj hx
    subst e
    have hbm := List.mem_of_getElem? hb
    have hbc := hC i b hb
    rw [if_neg (Nat.lt_irrefl i)] at hbc
    refine sName ?_
    refine sDrop ?_
    refine vBM ?_
    refine vVar rfl ?_
    refine vTyL hbc ?_
    refine vCons ?_
    refine vC ?_
    refine vNil ?_
    refine vApp hbc (by have := (hcont b hbm).2; rw [sizeLine_eq]; omega) ?_
    refine ⟨hFr.trans (Fr.upd hbm) (fun b h => h), ?_, ?_, fun j b' hb' => ?_, _, _, rfl⟩
    · rw [upd_ne (fun e => hpL (by rw [e]; exact hbm))]; exact hp3
    · rw [upd_ne (fun e => hDL (by rw [e]; exact hbm))]; exact hD3
    · have h := row_upd (g := fun j => match L[j]? with | some b' => if j < i then cont b' ++ [.non] else cont b' | none => []) (xs := cont b ++ [.non]) hnd hb (fun j b'' hb'' => by simp only [hb'']; exact hC j b'' hb'') j b' hb'
      rw [h]
      by_cases e : j = i
      · subst e
        rw [if_pos rfl, if_pos (Nat.lt_succ_self _)]
        rw [hb] at hb'
        cases hb'
        rfl
      · rw [if_neg e]
        simp only [hb']
        by_cases hji : j < i
        · rw [if_pos hji, if_pos (by omega)]
        · rw [if_neg hji, if_neg (by omega)]
  rintro σ H3 ⟨hFr, hp3, hD3, hC, y3, y4, rfl⟩
  rw [List.length_map] at hC
  have hC' : ∀ b ∈ L, H3 b = some (.lst (cont b ++ [.non])) := by
    intro b hb
    obtain ⟨j, hj⟩ := List.mem_iff_getElem?.mp hb
    have h := hC j b hj
    rw [if_pos (List.getElem?_eq_some_iff.mp hj).1] at h
    exact h
  dsimp only
  refine sRet ?_
  refine vOp ?_
  refine vLc ?_
  refine wAnyE ?_
  refine vVar rfl ?_
  refine wAnyL (SqL.of hp3) ?_
  intro D2 hD2
  refine lc_list (xs := L.map V.ref) (fun i H' => Same H3 H' ∧ H' D2 = some (.lst ((L.take i).map fun b => V.int ((cont b).length + 1 : Nat)))) ⟨same_upd hD2, upd_same⟩ ?_ ?_ ?_
  · rintro i H' hi ⟨hS, _⟩
    exact SqL.of (hS _ _ hp3)
  · rintro i x H4 hx hP
    refine sName ⟨rfl, ?_⟩
    refine vYes ?_
    refine iT rfl ?_
    refine vCB ?_
    refine vCons ?_
    refine vVar rfl ?_
    refine vNil ?_
    exact lens H3 D2 (fun b => (cont b).length + 1) i x H4 _ (fun b hb => ⟨_, hC' b hb, by simp⟩) hD2 hx hP fun H' h => h
  rintro H4 ⟨hS4, hF4⟩
  rw [List.length_map, List.take_length] at hF4
  refine vLc ?_
  refine wAnyE ?_
  refine vVar rfl ?_
  refine wAnyL (SqL.of (hS4 _ _ hD3)) ?_
  intro D3 hD3'
  refine lc_list (xs := L.map fun b => V.int ((cont b).length : Nat)) (fun i H' => Same H4 H' ∧ H' D3 = some (.lst ((L.take i).map fun b => V.int ((cont b).length + 1 : Nat)))) ⟨same_upd hD3', upd_same⟩ ?_ ?_ ?_
  · rintro i H' hi ⟨hS, _⟩
    exact SqL.of (hS _ _ (hS4 _ _ hD3))
  · rintro i x H5 hx ⟨hS, hF⟩
    rw [List.getElem?_map] at hx
    cases hb : L[i]? with
    | none => rw [hb] at hx; cases hx
    | some b =>
    rw [hb] at hx
    have e := Option.some.inj hx
    subst e
    refine sName ⟨rfl, ?_⟩
    refine vYes ?_
    refine iT rfl ?_
    refine vOp ?_
    refine vVar rfl ?_
    refine vC ?_
    refine vAddI ?_
    refine ⟨_, hF, by rw [List.length_map, List.length_take, sizeLine_eq]; omega, Same.mut hS hD3', ?_⟩
    rw [upd_same, List.take_succ, hb, List.map_append]
    rfl
  rintro H5 ⟨hS5, hF5⟩
  rw [List.length_map, List.take_length] at hF5
  have e1 : (L.map fun b => V.int ((cont b).length + 1 : Nat)) = (L.map fun b => (((cont b).length + 1 : Nat) : Int)).map V.int := by rw [List.map_map]; rfl
  rw [e1] at hF4 hF5
  refine vEqD (.lst (SqL.of (hS5 _ _ hF4)) (dp_ints _)) (.lst (SqL.of hF5) (dp_ints _)) (shaped_ints _) (shaped_ints _) ?_
  rw [SeqAt.eqv_refl _ (SeqAt.canLay_of_shaped (shaped_ints _))]
  exact q H5 (hFr.trans (Fr.of (Same.trans hS4 hS5)) (by simp))
end
/-! ### the size -/
theorem w_size {K : PySem.W.Frag} {B : Book} {H : Hp} {Q : VK} {E : XK} {m want : Nat} {sh : Sh} {bv sv : V} (hB : Dp K H bv (bkD B)) (hS : Dp K H sv (shD sh)) (ih : ∀ n, n ≤ want → LAll K B m sh n)
    (q : ∀ H' n, Same H H' → n ≤ want → (n = 0 ∨ cn B sh n ≤ 60) → Q (.int n) H') : W K (m + 1) ._law_size [bv, sv, .int want, .int 60] H Q E := by
  refine ⟨rfl, ?_⟩
  show t__law_size K (W K m) _ _ _
  unfold t__law_size
  refine sSeq ?_
  refine sAsg ?_
  refine vC ?_
  refine sName ?_
  dsimp only
  refine sSeq ?_
  refine sWhile (fun u σ H' => ∃ n : Nat, want - n = u ∧ n ≤ want ∧ Same H H' ∧ (n = 0 ∨ cn B sh n ≤ 60) ∧ σ = [some bv, some sv, some (.int want), some (.int 60), some (.int n)]) want ⟨0, rfl, Nat.zero_le _, Same.refl H, .inl rfl, rfl⟩ ?_
  rintro u σ H1 ⟨n, rfl, hn, hS1, hc, rfl⟩
  refine vAnd ?_
  refine vTest ?_
  refine vOp ?_
  refine vVar rfl ?_
  refine vVar rfl ?_
  refine vCmp ?_
  refine vBl ?_
  have done : ∀ H2, Same H H2 → tRet (tVar 4) ⟨fun _ _ => False, Q, fun _ _ => False, fun _ _ => False⟩ [some bv, some sv, some (.int want), some (.int 60), some (.int n)] H2 := by
    intro H2 hS2
    refine sRet ?_
    refine vVar rfl ?_
    exact q H2 n hS2 hn hc
  refine iD (fun h => ?_) (fun h => ?_)
  · refine vTest ?_
    refine vOp ?_
    refine vCB ?_
    refine vCons ?_
    refine vCall ?_
    refine vCons ?_
    refine vVar rfl ?_
    refine vCons ?_
    refine vVar rfl ?_
    refine vCons ?_
    refine vOp ?_
    refine vVar rfl ?_
    refine vC ?_
    refine vAddI ?_
    refine vNil ?_
    rw [cast_succ']
    refine ih (n + 1) (by omega) H1 bv sv _ _ (Dp.mono hS1 hB) (Dp.mono hS1 hS) ?_
    intro p H2 xs hS2 hp hd
    refine vNil ?_
    refine vLenL (SqL.of hp) ?_
    rw [DqAll.len hd]
    refine vVar rfl ?_
    refine vCmp ?_
    refine vBl ?_
    refine iD (fun h2 => ?_) (fun h2 => ?_)
    · refine sTurn ?_
      refine sAsg ?_
      refine vOp ?_
      refine vVar rfl ?_
      refine vC ?_
      refine vAddI ?_
      refine sName ?_
      rw [cast_succ']
      refine ⟨want - (n + 1), by omega, n + 1, rfl, by omega, Same.trans hS1 hS2, .inr ?_, rfl⟩
      show (val B (n + 1) sh).length ≤ 60
      omega
    · exact done H2 (Same.trans hS1 hS2)
  · refine iN rfl ?_
    exact done H1 hS1
end Pk
set_option Elab.async false
set_option linter.all false
set_option maxRecDepth 100000
set_option maxHeartbeats 4000000
/-! Lw12: the values of a drawn shape are plain data, not deep, with few lists. -/
namespace Pk
open PySem PySem.Spec PyProof.Rows L2 Cw
structure Vd (d : Nat) (v : DT) : Prop where
  lay : v.canLay0 = true
  sml : Sml v
  rk_ : rk v ≤ d
  nl_ : nl v ≤ 6 ^ d
theorem Vd.int {d : Nat} (i : Int) : Vd d (.int i) := ⟨rfl, by unfold Sml; trivial, by unfold rk; exact Nat.zero_le _, by unfold nl; exact Nat.zero_le _⟩
theorem Vd.str {d : Nat} {s : Str} (h : PyData.strOk s = true) : Vd d (.str s) := ⟨h, by unfold Sml; trivial, by unfold rk; exact Nat.zero_le _, by unfold nl; exact Nat.zero_le _⟩
theorem nls_le {k : Nat} : ∀ {ds : List DT}, (∀ e ∈ ds, nl e ≤ k) → nls ds ≤ ds.length * k
  | [], _ => by unfold nls; exact Nat.zero_le _
  | d :: ds, h => by
    unfold nls
    rw [List.length_cons, Nat.succ_mul]
    have h1 := h d List.mem_cons_self
    have h2 := nls_le (ds := ds) fun e he => h e (List.mem_cons_of_mem _ he)
    omega
theorem Vd.list {d : Nat} {ds : List DT} (h : ∀ e ∈ ds, Vd d e) (hl : ds.length ≤ 5) : Vd (d + 1) (.list ds) := by
  have h1 := nls_le (k := 6 ^ d) fun e he => (h e he).nl_
  have h2 := rks_of (k := d) fun e he => (h e he).rk_
  have h3 : ds.length * 6 ^ d ≤ 5 * 6 ^ d := Nat.mul_le_mul_right _ hl
  have h4 : 1 ≤ 6 ^ d := Nat.pow_pos (by decide)
  refine ⟨layAll_of fun e he => (h e he).lay, ?_, ?_, ?_⟩
  · unfold Sml; exact ⟨by omega, smlL_of fun e he => (h e he).sml⟩
  · unfold rk; omega
  · unfold nl; rw [Nat.pow_succ]; omega
theorem Vd.tup {d : Nat} {ds : List DT} (h : ∀ e ∈ ds, Vd d e) (hl : ds.length ≤ 5) : Vd (d + 1) (.tuple ds) := by
  have h1 := nls_le (k := 6 ^ d) fun e he => (h e he).nl_
  have h2 := rks_of (k := d) fun e he => (h e he).rk_
  have h3 : ds.length * 6 ^ d ≤ 5 * 6 ^ d := Nat.mul_le_mul_right _ hl
  have h4 : 1 ≤ 6 ^ d := Nat.pow_pos (by decide)
  refine ⟨layAll_of fun e he => (h e he).lay, ?_, ?_, ?_⟩
  · unfold Sml; exact ⟨by omega, smlL_of fun e he => (h e he).sml⟩
  · unfold rk; omega
  · unfold nl; rw [Nat.pow_succ]; omega
theorem Vd.up {d : Nat} {v : DT} (h : Vd d v) : Vd (d + 1) v :=
  ⟨h.lay, h.sml, Nat.le_succ_of_le h.rk_, Nat.le_trans h.nl_ (Nat.pow_le_pow_right (by decide) (Nat.le_succ d))⟩
section
variable {B : Book} {x : Str} {s0 : Sh}
theorem texts_ok {s : Str} (h : PyData.strOk s = true) : ∀ {n : Nat} {w : Str}, w ∈ textsS s n → PyData.strOk w = true
  | 0, w, hw => by
    unfold textsS at hw
    rw [List.mem_singleton.mp hw]
    decide +kernel
  | n + 1, w, hw => by
    unfold textsS at hw
    obtain ⟨u, hu, hw⟩ := List.mem_flatMap.mp hw
    obtain ⟨c, hc, rfl⟩ := List.mem_map.mp hw
    exact sOk_app (texts_ok h hu) (sOk_one (sOk_iff.mp h c hc))
theorem leaf_vd {sh : Sh} (h : Lf sh) {n : Nat} {v : DT} (hv : v ∈ val B n sh) : Vd 0 v := by
  rcases h with ⟨lo, d, rfl, h0, h6⟩ | ⟨s, rfl, h1, h3, h4⟩
  · have e : val B n (.nd (.whole lo (lo + d)) []) = wholes lo (lo + d) n := by rw [val_eq]; rfl
    rw [e] at hv
    obtain ⟨i, rfl⟩ := wholes_ints v hv
    exact .int i
  · have e : val B n (.nd (.text s) []) = (textsS s n).map .str := by rw [val_eq]; rfl
    rw [e] at hv
    obtain ⟨w, hw, rfl⟩ := List.mem_map.mp hv
    exact .str (texts_ok h4 hw)
theorem rows_mem : ∀ {ss : List Sh} {m : Nat} {r : List DT}, r ∈ rowsV B ss m → ∀ e ∈ r, ∃ s ∈ ss, ∃ f, f ≤ m ∧ e ∈ val B f s
  | [], m, r, h, e, he => by
    have := rows_len h
    simp at this
    subst this
    cases he
  | s :: ss, m, r, h, e, he => by
    rw [rowsV_cons] at h
    obtain ⟨i, hi⟩ := List.mem_iff_getElem?.mp h
    obtain ⟨f, p, q, x, y, hf, hx, hy, e1, _⟩ := blocks_inv hi
    subst e1
    rcases List.mem_cons.mp he with rfl | he
    · exact ⟨s, by simp, f, by omega, List.mem_of_getElem? hx⟩
    · obtain ⟨s', h1, f', h2, h3⟩ := rows_mem (List.mem_of_getElem? hy) e he
      exact ⟨s', by simp [h1], f', by omega, h3⟩
theorem many_mem {a : Sh} {n : Nat} {ds : List DT} : (.list ds) ∈ val B n (.nd .many [a]) → ∀ e ∈ ds, ∃ f, f ≤ n ∧ e ∈ val B f a := by
  induction n using Nat.strongRecOn generalizing ds with
  | _ n ih =>
    intro h e he
    rw [val_many] at h
    by_cases hn : n = 0
    · rw [if_pos hn] at h
      have := List.mem_singleton.mp h
      cases this
      cases he
    · rw [if_neg hn] at h
      obtain ⟨num, hnum⟩ := List.mem_iff_getElem?.mp h
      obtain ⟨f, p, r, x, y, hf, hx, hy, e1, _⟩ := blocks_inv hnum
      obtain ⟨yl, rfl⟩ := many_list (List.mem_of_getElem? hy)
      have e2 : ds = x :: yl := by
        have h2 : PyData.list ds = .list (x :: yl) := e1
        cases h2; rfl
      subst e2
      rcases List.mem_cons.mp he with rfl | he
      · exact ⟨f, by omega, List.mem_of_getElem? hx⟩
      · obtain ⟨f', h1, h2⟩ := ih (n - 1 - f) (by omega) (List.mem_of_getElem? hy) e he
        exact ⟨f', by omega, h2⟩
theorem picks_mem {n : Nat} : ∀ {ms : List Str} {ks : List Sh} {v : DT}, v ∈ picksV B ms ks n → ∃ m ∈ ms, ∃ s ∈ ks, ∃ e, e ∈ val B n s ∧ v = .tuple [.str m, e]
  | [], ks, v, h => by unfold picksV at h; cases h
  | m :: ms, [], v, h => by unfold picksV at h; cases h
  | m :: ms, s :: ss, v, h => by
    unfold picksV at h
    rcases List.mem_append.mp h with h | h
    · obtain ⟨e, he, rfl⟩ := List.mem_map.mp h
      exact ⟨m, by simp, s, by simp, e, he, rfl⟩
    · obtain ⟨m', h1, s', h2, e, h3, h4⟩ := picks_mem h
      exact ⟨m', by simp [h1], s', by simp [h2], e, h3, h4⟩
theorem shp_vd (hB : B = [(x, s0)]) (h0 : Lf s0) : ∀ d sh, Shp x d sh → ∀ n, n ≤ 5 → ∀ v ∈ val B n sh, Vd d v := by
  intro d
  induction d with
  | zero => exact fun sh h n hn v hv => leaf_vd h hv
  | succ d ih =>
    intro sh h n hn v hv
    rcases h with h | ⟨a, ha, rfl⟩ | ⟨a, t, ha, ht1, ht3, rfl⟩ | rfl | ⟨a, b, ha, hb, rfl⟩ | ⟨a, b, m1, m2, ha, hb, o1, o2, rfl⟩
    · have := leaf_vd h hv
      exact ⟨this.lay, this.sml, Nat.le_trans this.rk_ (Nat.zero_le _), Nat.le_trans this.nl_ (Nat.pow_le_pow_right (by decide) (Nat.zero_le _))⟩
    · obtain ⟨ds, rfl⟩ := many_list hv
      refine Vd.list (fun e he => ?_) (Nat.le_trans (many_len hv) hn)
      obtain ⟨f, h1, h2⟩ := many_mem hv e he
      exact ih a ha f (by omega) e h2
    · rw [val_alike] at hv
      by_cases hbb : n < t ∨ n % t ≠ 0
      · rw [if_pos hbb] at hv; cases hv
      · rw [if_neg hbb] at hv
        obtain ⟨e, he, rfl⟩ := List.mem_map.mp hv
        have h3 := Nat.div_le_self n t
        refine Vd.list (fun e' he' => ?_) (by rw [List.length_replicate]; omega)
        rw [List.eq_of_mem_replicate he']
        exact ih a ha (n / t - 1) (by omega) e he
    · rw [val_use] at hv
      have hlk : look B x = s0 := by rw [hB]; unfold look; simp
      by_cases hz : n = 0
      · rw [if_pos hz] at hv; cases hv
      · rw [if_neg hz, hlk] at hv
        have := leaf_vd h0 hv
        exact ⟨this.lay, this.sml, Nat.le_trans this.rk_ (Nat.zero_le _), Nat.le_trans this.nl_ (Nat.pow_le_pow_right (by decide) (Nat.zero_le _))⟩
    · rw [val_row] at hv
      obtain ⟨r, hr, rfl⟩ := List.mem_map.mp hv
      refine Vd.tup (fun e he => ?_) (by rw [rows_len hr]; show 2 ≤ 5; decide)
      obtain ⟨s, hs, f, h1, h2⟩ := rows_mem hr e he
      rcases List.mem_cons.mp hs with rfl | hs
      · exact ih _ ha f (by omega) e h2
      · rw [List.mem_singleton.mp hs] at h2
        exact ih _ hb f (by omega) e h2
    · rw [val_pick] at hv
      obtain ⟨m, hm, s, hs, e, he, rfl⟩ := picks_mem hv
      have hme : PyData.strOk m = true := by
        rcases List.mem_cons.mp hm with rfl | hm
        · exact o1
        · rw [List.mem_singleton.mp hm]; exact o2
      have hv2 : Vd d e := by
        rcases List.mem_cons.mp hs with rfl | hs
        · exact ih _ ha n hn e he
        · rw [List.mem_singleton.mp hs] at he
          exact ih _ hb n hn e he
      refine Vd.tup (fun e' he' => ?_) (by show 2 ≤ 5; decide)
      rcases List.mem_cons.mp he' with rfl | he'
      · exact .str hme
      · rw [List.mem_singleton.mp he']; exact hv2
end
end Pk
set_option Elab.async false
set_option linter.all false
set_option maxRecDepth 100000
set_option maxHeartbeats 4000000
/-! Lw13: the law. -/
namespace Pk
open PySem PySem.Spec PyProof.Rows L2 Cw
local macro_rules | `(tactic| tm_at "h") => `(tactic| first
  | assumption
  | exact upd_same
  | ((with_reducible refine' upd_old ?h1 ?h2); (case h1 => assumption); (case h2 => tm_at "h"))
  | ((with_reducible refine' upd_oth ?h1 ?h2); (case h1 => first | assumption | (exact Ne.symm (by assumption)) | (exact ne_of_none (by assumption) (by assumption)) | (exact Ne.symm (ne_of_none (by assumption) (by assumption)))); (case h2 => tm_at "h"))
  | ((refine' Same.at (by assumption) ?h3); (case h3 => tm_at "h")))
local macro_rules | `(tactic| tm_at "l") => `(tactic| first
  | assumption
  | exact SqL.of (by tm_at "h")
  | exact SqT.of (by tm_at "h")
  | exact Same.seq (by assumption) (by tm_at "l")
  | exact Cw.Same.tup (by assumption) (by tm_at "l"))
local macro_rules | `(tactic| tm_at "b") => `(tactic| first
  | rfl
  | decide
  | exact decide_eq_true (by first | assumption | rfl | omega)
  | exact decide_eq_false (by first | assumption | omega))
local macro_rules | `(tactic| tm_at "w1") => `(tactic| first
  | ((with_reducible refine' vVar ?h1 ?_); (case h1 => rfl))
  | with_reducible refine' sSeq ?_
  | with_reducible refine' sAsg ?_
  | with_reducible refine' sName ?_
  | with_reducible refine' vOp ?_
  | with_reducible refine' vC ?_
  | with_reducible refine' vCons ?_
  | with_reducible refine' vNil ?_
  | with_reducible refine' vCB ?_
  | with_reducible refine' vFldE ?_
  | with_reducible refine' vAddI ?_
  | with_reducible refine' vSub ?_
  | with_reducible refine' vCmp ?_
  | with_reducible refine' vEqI ?_
  | with_reducible refine' vEqS ?_
  | with_reducible refine' vNeI ?_
  | with_reducible refine' sIf ?_
  | with_reducible refine' vTest ?_
  | with_reducible refine' vTB ?_
  | with_reducible refine' vBl ?_
  | with_reducible refine' sRet ?_
  | with_reducible refine' sDrop ?_
  | with_reducible refine' sNext ?_
  | ((with_reducible refine' iT ?h1 ?_); (case h1 => tm_at "b"))
  | ((with_reducible refine' iN ?h1 ?_); (case h1 => tm_at "b"))
  | with_reducible refine' vMethE ?_
  | with_reducible refine' vCall ?_
  | with_reducible refine' vAnd ?_
  | with_reducible refine' vOr ?_
  | with_reducible refine' vNot ?_
  | with_reducible refine' vAndV ?_
  | with_reducible refine' vOrV ?_
  | with_reducible refine' vNotV ?_
  | with_reducible refine' vIfE ?_
  | with_reducible refine' vTup ?_
  | with_reducible refine' vLst ?_
  | with_reducible refine' vBM ?_
  | with_reducible refine' vBM0 ?_
  | with_reducible refine' vMax2 ?_
  | with_reducible refine' vMin2 ?_
  | with_reducible refine' vInt ?_
  | with_reducible refine' vIntB ?_
  | with_reducible refine' vUn ?_
  | with_reducible refine' vNeg ?_
  | ((with_reducible refine' sAug ?h1 ?_); (case h1 => rfl))
  | with_reducible refine' sIAdd ?_
  | with_reducible refine' sISub ?_
  | with_reducible refine' sStoE ?_
  | ((with_reducible refine' vFld ?h1 ?h2 ?_); (case h1 => tm_at "h"); (case h2 => rfl))
  | ((with_reducible refine' sSto ?h1 ?h2 ?_); (case h1 => tm_at "h"); (case h2 => first | (show 0 < 1000; decide) | (show 1 < 1000; decide) | (show 2 < 1000; decide) | (show 3 < 1000; decide) | (show 4 < 1000; decide) | (show 5 < 1000; decide)))
  | ((with_reducible refine' vLenL ?h1 ?_); (case h1 => tm_at "l"))
  | ((with_reducible refine' vLenT ?h1 ?_); (case h1 => tm_at "l"))
  | with_reducible refine' vSl ?_
  | with_reducible refine' vPart ?_
  | with_reducible refine' vPartI ?_
  | with_reducible refine' vNoPart ?_
  | with_reducible refine' sCons ?_
  | with_reducible refine' sNil ?_
  | with_reducible refine' wAnyE ?_
  | with_reducible refine' wRng1 ?_
  | with_reducible refine' wRng3 ?_
  | with_reducible refine' vRevE ?_
  | with_reducible refine' wEnum ?_
  | with_reducible refine' vDGet ?_
  | with_reducible refine' wRng2 ?_
  | with_reducible refine' wRng1I ?_
  | with_reducible refine' wRng2I ?_
  | with_reducible refine' sFor ?_
  | ((with_reducible refine' sTup ?h1 ?h2 ?_); (case h1 => tm_at "l"); (case h2 => rfl))
  | ((with_reducible refine' vTyL ?h1 ?_); (case h1 => tm_at "h"))
  | ((refine' vMod ?h1 ?_); (case h1 => (show (0 : Int) < _; omega)))
  | fail "stuck")
local macro_rules | `(tactic| tm_at "w") => `(tactic| repeat tm_at "w1")
theorem shp_wt {x : Str} : ∀ d sh, Shp x d sh → Sh.wt sh ≤ 4 * d + 2 := by
  intro d
  induction d with
  | zero =>
    intro sh h
    rcases h with ⟨lo, d, rfl, _⟩ | ⟨s, rfl, _⟩ <;> unfold Sh.wt Sh.wts <;> exact Nat.le_refl 2
  | succ d ih =>
    intro sh h
    rcases h with h | ⟨a, ha, rfl⟩ | ⟨a, t, ha, ht1, ht3, rfl⟩ | rfl | ⟨a, b, ha, hb, rfl⟩ | ⟨a, b, m1, m2, ha, hb, o1, o2, rfl⟩
    · have : Sh.wt sh = 2 := by rcases h with ⟨lo, d, rfl, _⟩ | ⟨s, rfl, _⟩ <;> unfold Sh.wt Sh.wts <;> rfl
      omega
    · have := ih a ha
      unfold Sh.wt Sh.wts Sh.wts
      simp only [List.length_cons, List.length_nil]; omega
    · have := ih a ha
      unfold Sh.wt Sh.wts Sh.wts
      simp only [List.length_cons, List.length_nil]; omega
    · unfold Sh.wt Sh.wts
      simp only [List.length_nil]; omega
    · have := ih a ha
      have := ih b hb
      unfold Sh.wt Sh.wts Sh.wts Sh.wts
      simp only [List.length_cons, List.length_nil]; omega
    · have := ih a ha
      have := ih b hb
      unfold Sh.wt Sh.wts Sh.wts Sh.wts
      simp only [List.length_cons, List.length_nil]; omega
section
variable {K : PySem.W.Frag} {m : Nat} {H : Hp} {Q : VK} {E : XK} {sa : Addr} {cs : List Int}
theorem shaped_bk {x : Str} {s0 : Sh} (hx : PyData.strOk x = true) (h : OkS s0) (hh : s0.ht ≤ 15) : SeqAt.shaped (bkD [(x, s0)]) = true := by
  unfold SeqAt.shaped bkD
  have h1 := lay_sh h
  have h2 := dep_sh (s := s0)
  refine Bool.and_eq_true_iff.mpr ⟨?_, decide_eq_true ?_⟩
  · simp [PyData.canLay0, PyData.canLayAll0, hx, h1]
  · simp only [List.map_cons, List.map_nil, PyData.depth, PyData.depthAll]
    omega
theorem w_law_rest {B : Book} {sh : Sh} {n : Nat} {most : Int} {x1 x7 x8 : Option V} {svv : V} {pb pd p : Addr} (ok : BkOk B sh 6 3) (hn5 : n ≤ 5) (hm : 33 ≤ m) (hc60 : cn B sh n ≤ 60) (hbk : Dp K H (.ref pb) (bkD B)) (hsd : Dp K H svv (shD sh)) (hb : H pb = some (.lst [.ref p])) (hdue : Dp K H (.ref pd) (.list (val B n sh)))
    (tlay : (PyData.list (val B n sh)).canLay0 = true) (tsml : Sml (.list (val B n sh))) (trk : rk (.list (val B n sh)) ≤ 3) (tnl : nl (.list (val B n sh)) ≤ 100000) (sbk : SeqAt.shaped (bkD B) = true) (hmo : most ≥ (cn B sh n : Int)) (q : ∀ H', Q (.bl true) H') {D : Ends} (hD : D.rt = Q) {s0 : Option V} :
    (tSeq (tAsg (tCB (rListU K) (tCons (tVar 2) tNil)) (gName 7))
    (tSeq (tAsg (tCall (W K m .all_values) [] E0 (tCons (tVar 7) (tCons (tVar 3) (tCons (tVar 4) (tCons (tVar 6) tNil))))) (gName 8))
    (tSeq (tIfS (tOr (tNot (tB (tCB (rIsi K) (tCons (tVar 8) (tCons (tC (.ty "list")) tNil))))) (tOr (tNot (tB (tCall (W K m ._law_same) [] E0 (tCons (tVar 8) (tCons (tVar 5) tNil))))) (tTest (tOp (rNeU K) (tVar 7) (tVar 2))))) (tRet (tC (.bl false))) tNext)
    (tSeq (tIfS (tNot (tB (tCall (W K m ._law_own) [] E0 (tCons (tVar 8) tNil)))) (tRet (tC (.bl false))) tNext)
    (tRet (tCall (W K m ._law_same) [] E0 (tCons (tCall (W K m .all_values) [.int 400] E0 (tCons (tVar 7) (tCons (tVar 3) (tCons (tVar 4) tNil)))) (tCons (tVar 5) tNil)))))))) D
      [s0, x1, some (.ref pb), some svv, some (.int n), some (.ref pd), some (.int most), x7, x8] H := by
  obtain ⟨pb', bs, e1, hbL, hbA⟩ := Dp.lst_inv hbk
  cases e1
  tm_at "w"
  refine vListL hbL ?_
  intro ph hph
  have s1 := same_upd hph (o := .lst bs)
  have hhd : Dp K (L2.upd H ph (.lst bs)) (.ref ph) (bkD B) := .lst (SqL.of upd_same) (DpAll.mono s1 hbA)
  tm_at "w"
  refine w_all_values ok (by omega) (by omega) hhd (Dp.mono s1 hsd) hmo (by omega) ?_
  intro v H2 L s2 hO hLn hLf
  have s02 := s1.trans s2
  tm_at "w"
  refine vIsi (Dp.ty hO.dp) (kit_l _) ?_
  tm_at "w"
  refine same_all m _ (by omega) H2 v (.ref pd) _ _ hO.dp (Dp.mono s02 hdue) tlay tsml ?_
  intro H3 s3
  tm_at "w"
  have s03 := Same.trans s02 s3
  refine vNeD (Dp.mono (Same.trans s2 s3) hhd) (Dp.mono s03 hbk) sbk sbk ?_
  rw [SeqAt.eqv_refl _ (SeqAt.canLay_of_shaped sbk)]
  tm_at "w"
  refine w_own (hO.mono s3) hLn tsml tnl (by omega) ?_
  intro H4 f4
  have s24 : Same (L2.upd H ph (.lst bs)) H4 := fun b o h => f4 b o (fun z => by rw [hLf b z] at h; cases h) (s3 _ _ (s2 _ _ h))
  tm_at "w"
  refine vCallD ?_
  tm_at "w"
  refine w_all_values ok (by omega) (by omega) (Dp.mono s24 hhd) (Dp.mono (s1.trans s24) hsd) (by omega) (by omega) ?_
  intro v5 H5 L5 s5 hO5 _ _
  tm_at "w"
  refine same_all m _ (by omega) H5 v5 (.ref pd) _ _ hO5.dp (Dp.mono ((s1.trans s24).trans s5) hdue) tlay tsml ?_
  intro H6 s6
  rw [hD]
  exact q H6
theorem w_law (hS : SqL K H sa (cs.map V.int)) (hm : 40 ≤ m) (q : ∀ H', Q (.bl true) H') : W K m .law [.ref sa] H Q E := by
  obtain ⟨m, rfl⟩ : ∃ j, m = j + 2 := ⟨m - 2, by omega⟩
  refine ⟨rfl, ?_⟩
  show t_law K (W K (m + 1)) _ _ _
  unfold t_law
  tm_at "w"
  refine w_cell_at (k := 7) hS ?_
  tm_at "w"
  refine w_name fun x hxl hxo => ?_
  tm_at "w"
  refine w_cell_at (k := 8) hS ?_
  tm_at "w"
  refine w_leaf ?_
  intro v0 H1 s0 hS1 hL0 hd0
  tm_at "w"
  refine ⟨by show 2 ≤ sizeLine; decide, fun p hp => ?_⟩
  tm_at "w"
  refine ⟨by show 1 ≤ sizeLine; decide, fun pb hpb => ?_⟩
  tm_at "w"
  obtain ⟨B, hB⟩ : ∃ B : Book, B = [(x, s0)] := ⟨_, rfl⟩
  obtain ⟨H2, hH2⟩ : ∃ H2 : Hp, H2 = L2.upd (L2.upd H1 p (.tup [.str x, v0])) pb (.lst [.ref p]) := ⟨_, rfl⟩
  have s12 : Same H1 H2 := by rw [hH2]; exact (same_upd hp).trans (same_upd hpb)
  have hb2 : H2 pb = some (.lst [.ref p]) := by rw [hH2]; exact upd_same
  have hbd : DpAll K H2 [.ref p] (B.map fun p => .tuple [.str p.1, shD p.2]) := by
    rw [hB]
    refine .cons (.tup (SqT.of (xs := [.str x, v0]) ?_) (.cons (.str x) (.cons (Dp.mono s12 hd0) .nil))) .nil
    rw [hH2]; exact upd_old hpb upd_same
  have hbk : Dp K H2 (.ref pb) (bkD B) := .lst (SqL.of hb2) hbd
  rw [← hH2]
  have s02 := Same.trans hS1 s12
  refine w_shape (cs := cs) 2 (m + 1) 0 H2 _ _ (by omega) (by decide) (by decide) (Same.seq s02 hS) ?_
  intro sv H3 sh s23 hsh hsd
  obtain ⟨g, hcn, hht⟩ := shp_gd hB hxo hL0 2 (Nat.le_refl 2) sh hsh
  have g0 : Gd B 6 s0 := leaf_gd hL0
  have h0t : s0.ht = 1 := by rcases hL0 with ⟨lo, d, rfl, _⟩ | ⟨s, rfl, _⟩ <;> unfold Sh.ht Sh.hts <;> rfl
  have w0 : Sh.wt s0 = 2 := by rcases hL0 with ⟨lo, d, rfl, _⟩ | ⟨s, rfl, _⟩ <;> unfold Sh.wt Sh.wts <;> rfl
  have wsh := shp_wt 2 sh hsh
  have LA : ∀ n, n ≤ 5 → ∀ j, 33 ≤ j → LAll K B j sh n := by
    intro n hn j hj
    refine (all_main (A := 4) hB g0 (by omega) (by decide) j).1 sh n (by omega) g ?_
    omega
  have hS3 := Same.seq (Same.trans s02 s23) hS
  have hbk3 := Dp.mono s23 hbk
  tm_at "w"
  refine w_cell_at (k := 9) hS3 ?_
  tm_at "w"
  have w1 := Int.emod_nonneg (cellAt cs 9) (by decide : (6 : Int) ≠ 0)
  have w2 := Int.emod_lt_of_pos (cellAt cs 9) (by decide : (0 : Int) < 6)
  obtain ⟨want, hwant⟩ : ∃ want : Nat, cellAt cs 9 % 6 = (want : Int) := ⟨(cellAt cs 9 % 6).toNat, by omega⟩
  rw [hwant]
  refine w_size hbk3 hsd (fun n hn => LA n (by omega) m (by omega)) ?_
  intro H4 n s34 hn hc
  have hn5 : n ≤ 5 := by omega
  have hc60 : cn B sh n ≤ 60 := by
    rcases hc with h | h
    · subst h
      exact Nat.le_trans (hcn 0 (by decide)) (by decide)
    · exact h
  have hcv : (val B n sh).length = cn B sh n := rfl
  have hbk4 := Dp.mono s34 hbk3
  have hsd4 := Dp.mono s34 hsd
  have hS4 := Same.seq s34 hS3
  tm_at "w"
  refine LA n hn5 (m + 1) (by omega) H4 _ _ _ _ hbk4 hsd4 ?_
  intro pd H5 ds s45 hpd hdq
  have hdue : Dp K H5 (.ref pd) (.list (val B n sh)) := .lst (SqL.of hpd) hdq.dp
  have hdl : ds.length = cn B sh n := DqAll.len hdq
  have hS5 := Same.seq s45 hS4
  have hbk5 := Dp.mono s45 hbk4
  have hsd5 := Dp.mono s45 hsd4
  have hb5 : H5 pb = some (.lst [.ref p]) := s45 _ _ (s34 _ _ (s23 _ _ hb2))
  tm_at "w"
  refine w_cell_at (k := 10) hS5 ?_
  tm_at "w"
  refine w_cell_at (k := 9) hS5 ?_
  tm_at "w"
  refine vDiv (div_small (by decide) (by decide)) ?_
  tm_at "w"
  have m1 := Int.emod_nonneg (cellAt cs 10) (by decide : (2000 : Int) ≠ 0)
  have hmB : min 2000 ((ds.length : Int) + cellAt cs 10 % 2000) ≥ (cn B sh n : Int) := by rw [hdl]; omega
  have hmA : (ds.length : Int) ≥ (cn B sh n : Int) := by rw [hdl]; omega
  have ok : BkOk B sh 6 3 := by
    rw [hB]
    rw [hB] at g g0
    refine ⟨by simp, ?_, g.wf, ?_, LiS.sm g.li, ?_, by omega, by decide, by show 1 ≤ 1000; decide⟩
    · intro p hp; rw [List.mem_singleton.mp hp]; exact g0.wf
    · intro p hp; rw [List.mem_singleton.mp hp]; exact LiS.sm g0.li
    · intro p hp; rw [List.mem_singleton.mp hp]; show s0.ht ≤ 3; omega
  have vd := shp_vd hB hL0 2 sh hsh n hn5
  have tlay : (PyData.list (val B n sh)).canLay0 = true := layAll_of fun e he => (vd e he).lay
  have tsml : Sml (.list (val B n sh)) := by unfold Sml; exact ⟨by omega, smlL_of fun e he => (vd e he).sml⟩
  have trk : rk (.list (val B n sh)) ≤ 3 := by
    have := rks_of (k := 2) fun e he => (vd e he).rk_
    unfold rk; omega
  have tnl : nl (.list (val B n sh)) ≤ 100000 := by
    have h1 := nls_le (k := 36) fun e he => (vd e he).nl_
    have h2 : (val B n sh).length * 36 ≤ 60 * 36 := Nat.mul_le_mul_right _ (by omega)
    unfold nl; omega
  have sbk := shaped_bk hxo g0.ok (by omega : s0.ht ≤ 15)
  rw [← hB] at sbk
  refine iD (fun hc3 => ?_) (fun hc3 => ?_)
  · refine sAsg ?_
    refine vCB ?_
    refine vCons ?_
    refine vVar rfl ?_
    refine vNil ?_
    refine vLenL (SqL.of hpd) ?_
    refine sName ?_
    dsimp only
    generalize (ds.length : Int) = most at hmA ⊢
    refine w_law_rest (m := m + 1) ok hn5 (by omega) hc60 hbk5 hsd5 hb5 hdue tlay tsml trk tnl sbk hmA q ?_
    rfl
  · refine sNext ?_
    dsimp only
    refine w_law_rest (m := m + 1) ok hn5 (by omega) hc60 hbk5 hsd5 hb5 hdue tlay tsml trk tnl sbk hmB q ?_
    rfl
end
end Pk
set_option Elab.async false
set_option linter.all false
set_option maxRecDepth 100000
set_option maxHeartbeats 4000000
/-! Fin: the law holds. -/
namespace Pk
open PySem PySem.Spec PyProof.Rows L2 Cw
theorem law_facts {P : Program} {w : World} {K : PySem.W.Frag} {h : Heap} {mg : Str → Option Value} {f : Addr} (X : K.In h) (G : h.Ns mainGlobals mg) (hfa : mg ("law" : Str) = some (.ref f)) (c : SaysC fa fn exb K) :
    ∃ fd : FuncData, (∀ (s : Shared) (v : Value), BindsTo s fd ⟨[v], []⟩ [("_law_script", v)]) ∧ ∀ base : Heap, K.In base → base.Ns mainGlobals mg → FnOk P w K mg base CX0 80 f fd ["_law_script"] (W K 40 .law) := by
  have T : Txt K mg := ⟨⟨h, X, G⟩, c⟩
  obtain ⟨fd, F⟩ := c.2.def_ 45 (d := D_law) rfl
  have e := hfa.symm.trans T.law
  cases e
  have b := FunD.bindsA (ps := ["_law_script"]) F fun _ _ _ _ _ _ us hl => match us, hl with | [_], _ => rfl
  exact ⟨fd, fun s v => b s [v] rfl, fun base _ _ => F.ok (k := 79) sc_law (fun _ _ _ _ h => h.1) (fun _ _ _ _ _ _ _ _ hr h => ⟨t_law K (W K 39), PSs.nox (d_law T (sound T 39) hr), h.2⟩)⟩
end Pk
open PySem PySem.W PySem.Calls PyProof.Rows
theorem PySem.Challenge.cw_countgen_k40_all_values_holds : PySem.Challenge.rw_countgen_k40_all_values.Holds := by
  w_on; o_law
  refine HandSHeadRun.head_any (r := OpenLaw.row PySem.Challenge.rw_countgen_k40_all_values) (q := view (OpenLaw.row PySem.Challenge.rw_countgen_k40_all_values).prog [44]) (H := Pk.hk) (ob := Pk.ob) (M := 60000) (loose := Pk.loose) (d := HandSHeadRun.topDef (OpenLaw.row PySem.Challenge.rw_countgen_k40_all_values).prog 44) (kwd := []) Pk.ob_eq
    (by kernel_rfl) (fun s => by kernel_rfl) Pk.run (by kernel_rfl) (by kernel_rfl) (by kernel_rfl) (by rfl) (by first | assumption | decide +kernel) (by decide +kernel) ⟨rfl, rfl, rfl, rfl, rfl, by decide +kernel⟩ ?hw ?hc
  case hw => w_witness2
  case hc =>
    refine L2.walk_ofE (l := PySem.Challenge.rw_countgen_k40_all_values) (n := 63) (k := 80) (x := "_law_script") (CX := L2.CX0) rfl (by decide) (by kernel_rfl) ⟨rfl, by decide, by decide⟩ ?F (fun _ _ _ _ z => z)
    intro w mg fa h Y G hmg0
    obtain ⟨K, KX, c⟩ := Y
    have hmg : mg ("law" : PySem.Str) = some (.ref fa) := by
      have e : (HandSHeadRun.topDef (OpenLaw.row PySem.Challenge.rw_countgen_k40_all_values).prog 44).name = ("law" : PySem.Str) := by kernel_rfl
      rw [← e]
      exact hmg0
    obtain ⟨fd, hb, hF⟩ := Pk.law_facts (P := (PySem.Challenge.rw_countgen_k40_all_values).prog) (w := w) KX G hmg c
    exact ⟨K, fd, Pk.W K 40 .law, KX, hb, fun H a ns hl _ hS => Pk.w_law hS (Nat.le_refl 40) fun _ => rfl, hF⟩
