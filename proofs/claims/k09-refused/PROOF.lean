import PyProof.Rows.All
import Wide.All
import OpenK.AllK
import Wide.FinOn
import HandS.ForMost
import HandS.Zip
import HandS.Rev
import HandS.Style
import HandS.Deep
import HandS.StrMore
import HandS.IsInst
import HandS.Codes
import HandS.Conv
import HandS.DictTup
import PyProof.Rows.TupDisplay
import HandS.ForExc
import HandS.ExcOwn
import HandS.ExcIs
import HandS.ExcCtx
import HandS.HotCalls
import HandS.WordsExc
import HandS.Sort
import HandS.Comp
import KE.GoesComp
import KE.KAsSuite
import PySem.Challenge.RW_unison_k09_refused
set_option Elab.async false
set_option linter.all false
set_option maxRecDepth 100000
set_option maxHeartbeats 4000000
set_option Elab.async false
set_option linter.all false
set_option maxRecDepth 100000
set_option maxHeartbeats 4000000
namespace U
open PySem PySem.Spec PyProof.Rows L2

/-! ### heaps that only grow -/
def Ex (H H' : Hp) : Prop := ∀ a o, H a = some o → H' a = some o
theorem Ex.refl (H : Hp) : Ex H H := fun _ _ h => h
theorem Ex.trans {H H1 H2 : Hp} (a : Ex H H1) (b : Ex H1 H2) : Ex H H2 := fun x o h => b x o (a x o h)
theorem Ex.new {H : Hp} {p : Addr} {o : HO} (h : H p = none) : Ex H (upd H p o) := fun a u e => by
  rw [upd_ne (ne_of_none e h)]
  exact e
theorem Ex.mut {H H' : Hp} {p : Addr} {o : HO} (e : Ex H H') (h : H p = none) : Ex H (upd H' p o) := fun a u ha => by
  rw [upd_ne (ne_of_none ha h)]
  exact e a u ha
theorem Ex.mk {H H' : Hp} {p : Addr} {o : HO} (e : Ex H H') (h : H' p = none) : Ex H (upd H' p o) := e.trans (Ex.new h)
theorem Ex.use {H H' : Hp} {a : Addr} {o : HO} (e : Ex H H') (h : H a = some o) : H' a = some o := e a o h
theorem Ex.free {H H' : Hp} {p : Addr} (e : Ex H H') (h : H' p = none) : H p = none := by
  cases h1 : H p with
  | none => rfl
  | some o =>
    rw [e p o h1] at h
    cases h
theorem Ex.sql {K : PySem.W.Frag} {H H' : Hp} {a : Addr} {xs : List V} (e : Ex H H') (h : SqL K H a xs) : SqL K H' a xs := by
  rcases h with (h | ⟨o, h⟩) | h
  · exact .inl (.inl (e _ _ h))
  · exact .inl (.inr ⟨o, e _ _ h⟩)
  · exact .inr h
theorem Ex.sqt {K : PySem.W.Frag} {H H' : Hp} {a : Addr} {xs : List V} (e : Ex H H') (h : SqT K H a xs) : SqT K H' a xs := by
  rcases h with (h | ⟨o, h⟩) | h
  · exact .inl (.inl (e _ _ h))
  · exact .inl (.inr ⟨o, e _ _ h⟩)
  · exact .inr h
theorem upd_nofree {H : Hp} {p q : Addr} {o : HO} (h : upd H p o q = none) : H q = none := by
  by_cases e : q = p
  · subst e
    rw [upd_same] at h
    cases h
  · rwa [upd_ne e] at h
theorem line_le {n : Nat} (h : n ≤ 16777216) : n ≤ sizeLine := by rw [sizeLine_eq]; exact h
theorem line_lt {n : Nat} (h : n < 16777216) : n < sizeLine := by rw [sizeLine_eq]; exact h

/-! ### a look-up in a heap that has grown; a list or a tuple that stands there -/
local macro_rules | `(tactic| walk_at "hp") => `(tactic| first
  | assumption
  | exact upd_same
  | (refine Ex.use (Ex.new (by assumption)) ?_; walk_at "hp")
  | (refine Ex.use (by assumption) ?_; walk_at "hp"))
local macro_rules | `(tactic| walk_at "sq") => `(tactic| first
  | assumption
  | (refine SqL.of ?_; walk_at "hp"; done)
  | (refine SqT.of ?_; walk_at "hp"; done)
  | (refine Ex.sql (Ex.new (by assumption)) ?_; walk_at "sq")
  | (refine Ex.sqt (Ex.new (by assumption)) ?_; walk_at "sq")
  | (refine Ex.sql (by assumption) ?_; walk_at "sq")
  | (refine Ex.sqt (by assumption) ?_; walk_at "sq"))
local macro_rules | `(tactic| walk_at "ex") => `(tactic| first
  | assumption
  | exact Ex.refl _
  | exact Ex.new (by assumption)
  | (refine Ex.mk ?_ (by assumption); walk_at "ex")
  | (refine Ex.trans ?_ (by assumption); walk_at "ex"))
local macro_rules | `(tactic| walk_at "ln") => `(tactic| first
  | (apply line_le; simp only [List.length_cons, List.length_nil, List.length_append, List.length_map, List.length_range]; omega)
  | (apply line_lt; simp only [List.length_cons, List.length_nil, List.length_append, List.length_map, List.length_range]; omega))
section
variable {K : PySem.W.Frag} {H H1 H2 H3 : Hp} {a p q : Addr} {xs : List V} {o : HO}
example (h : H a = some (.lst xs)) (e : Ex H H1) (hp : H1 p = none) : upd H1 p o a = some (.lst xs) := by walk_at "hp"
example (h : H a = some (.lst xs)) (e : Ex H H1) (hp : H1 p = none) (hq : upd H1 p o q = none) : SqL K (upd (upd H1 p o) q o) a xs := by walk_at "sq"
example (h : SqL K H a xs) (e : Ex H H1) (hp : H1 p = none) (hq : upd H1 p o q = none) : SqL K (upd (upd H1 p o) q o) a xs := by walk_at "sq"
example (e : Ex H H1) (hp : H1 p = none) (hq : upd H1 p o q = none) : Ex H (upd (upd H1 p o) q o) := by walk_at "ex"
end
end U

set_option Elab.async false
set_option linter.all false
set_option maxRecDepth 100000
set_option maxHeartbeats 4000000
namespace U
open PySem PySem.Spec PyProof.Rows L2
section
variable {X : Cx}
/-! ### operators of several kinds -/
def rCatS (K : PySem.W.Frag) : R2 := fun x y H Q => ∃ l b xs zs, x = .ref l ∧ y = .ref b ∧ SqL K H l xs ∧ SqL K H b zs ∧ xs.length + zs.length ≤ sizeLine ∧ ∀ p, H p = none → Q (.ref p) (upd H p (.lst (xs ++ zs)))
theorem op_catS : OpR X (binaryOp .Add) (rCatS X.K) := by
  intro pins s σ H x y v u Q I rx ry h
  obtain ⟨l, b, xs, zs, rfl, rfl, hH, hB, hz, q⟩ := h
  cases rx
  cases ry
  obtain ⟨its, r, pl, hl⟩ := I.list hH
  obtain ⟨its2, r2, pl2, hl2⟩ := I.list hB
  obtain ⟨⟨cls, dd, data, sl⟩, n, e, hc, hd, hdat⟩ := pl
  obtain ⟨⟨cls2, dd2, data2, sl2⟩, n2, e2, hc2, hd2, hdat2⟩ := pl2
  simp only at hc hd hdat hc2 hd2 hdat2
  subst hc hd hdat hc2 hd2 hdat2
  have l1 := r.length
  have l2 := r2.length
  have ea : its.toArray ++ its2.toArray = (its ++ its2).toArray := by simp
  refine concat_meets ⟨_, e, rfl⟩ ⟨_, e2, rfl⟩ noFill_list_add seq_list_add PySem.F.slot_list_add PySem.F.entry_list_add (PySem.F.args_list_add_2 _ _) (list_addW l b its.toArray its2.toArray n n2 none none sl sl2 (by rw [List.size_toArray, List.size_toArray]; omega)) ⟨e, e2, ?_⟩
  rw [ea]
  exact ⟨.ref _, _, I.lnew (t' := s.toks) (r.append r2) (by rw [List.length_append]; omega), rfl, q _ I.fresh⟩
def rAddS : R2 := fun x y H Q => ∃ i j, x = .str i ∧ y = .str j ∧ i.length + j.length ≤ sizeLine ∧ Q (.str (i ++ j)) H
/-- x + y: ints, texts, lists -/
def rAddU (K : PySem.W.Frag) : R2 := fun x y H Q => rI0 (fun i j => .int (i + j)) x y H Q ∨ rAddS x y H Q ∨ rCatS K x y H Q
theorem op_addU : OpR X (binaryOp .Add) (rAddU X.K) := (op_add (X := X)).or ((op_add_str (X := X)).or op_catS)
/-- x == y: scalars, data -/
def rEqU (K : PySem.W.Frag) : R2 := fun x y H Q => rEq x y H Q ∨ rEqD K x y H Q
def rNeU (K : PySem.W.Frag) : R2 := fun x y H Q => rNe x y H Q ∨ rNeD K x y H Q
theorem op_eqU (hu : X.A.units + 64 < cLine) : OpR X (compareOp .Eq) (rEqU X.K) := (op_eq (X := X)).or (op_eqD hu)
theorem op_neU (hu : X.A.units + 64 < cLine) : OpR X (compareOp .NotEq) (rNeU X.K) := (op_ne (X := X)).or (op_neD hu)
/-- len of a list, a tuple, a text -/
def rLenU (K : PySem.W.Frag) : List V → Hp → VK → Prop := fun xs H Q => (∃ p ys, xs = [.ref p] ∧ (SqL K H p ys ∨ SqT K H p ys) ∧ Q (.int ys.length) H) ∨ ∃ z, xs = [.str z] ∧ z.length ≤ sizeLine ∧ Q (.int z.length) H
theorem call_lenU : CallR X (.builtin "len") (rLenU X.K) := (call_len_seq (X := X)).or call_len_str

/-- text * int -/
def rMulS : R2 := fun x y H Q => ∃ z n, x = .str z ∧ y = .int n ∧ n < 2 ^ 31 ∧ -(2 ^ 31) < n ∧ z.length * n.toNat ≤ 16777216 ∧ Q (.str ⟨(List.replicate n.toNat z.cps.toList).flatten.toArray⟩) H
theorem fold_rep (a : Array Nat) : ∀ (k : Nat) (acc : Array Nat), (List.replicate k a).foldl (· ++ ·) acc = acc ++ (List.replicate k a.toList).flatten.toArray
  | 0, acc => by simp
  | k + 1, acc => by
    rw [List.replicate_succ, List.foldl_cons, fold_rep a k, List.replicate_succ, List.flatten_cons]
    apply Array.ext'
    simp
theorem mul_txt (z : Str) (n : Int) : Txt.mul z n = ⟨(List.replicate n.toNat z.cps.toList).flatten.toArray⟩ := by
  unfold Txt.mul
  by_cases h1 : n < 1
  · rw [if_pos h1, show n.toNat = 0 by omega]
    rfl
  · rw [if_neg h1]
    by_cases h2 : (n == 1 || z.length == 0) = true
    · rw [if_pos h2]
      rw [Bool.or_eq_true] at h2
      rcases h2 with h2 | h2
      · have e : n = 1 := eq_of_beq h2
        subst e
        obtain ⟨c⟩ := z
        show _ = Str.mk (List.flatten [c.toList]).toArray
        simp
      · have e : z.cps.size = 0 := eq_of_beq h2
        obtain ⟨c⟩ := z
        have e2 : c = #[] := Array.eq_empty_of_size_eq_zero e
        subst e2
        have : ∀ k : Nat, (List.replicate k ([] : List Nat)).flatten = [] := fun k => by induction k with
          | zero => rfl
          | succ k ih => rw [List.replicate_succ, List.flatten_cons, ih]; rfl
        show _ = Str.mk (List.flatten (List.replicate _ [])).toArray
        rw [this]
    · rw [if_neg h2, fold_rep]
      simp
theorem op_mulS : OpR X (binaryOp .Mult) rMulS := by
  intro pins s σ H x y v u Q I rx ry h
  obtain ⟨z, n, rfl, rfl, h1, h2, h3, q⟩ := h
  obtain ⟨t, rfl⟩ := rx
  obtain ⟨t', rfl⟩ := ry
  rw [← mul_txt] at q
  refine SB.mul ⟨?_, fun h4 _ h5 => ?_, fun _ _ => ?_⟩ fun t2 k => ⟨.str _, H, I.tok _, ⟨_, rfl⟩, q⟩
  · rw [decide_eq_false (show ¬ n < -(2 ^ 63 : Int) by omega), decide_eq_false (show ¬ n ≥ (2 ^ 63 : Int) by omega)]
    rfl
  · have hn : 0 < n := by omega
    have hz : (z.length : Int) * n ≤ 16777216 := by
      have e : ((n.toNat : Nat) : Int) = n := Int.toNat_of_nonneg (by omega)
      have q : ((z.length * n.toNat : Nat) : Int) ≤ ((16777216 : Nat) : Int) := Int.ofNat_le.mpr h3
      rw [Int.natCast_mul, e] at q
      omega
    have h7 : (z.length : Int) ≤ (2 ^ 63 - 1) / n := (Int.le_ediv_iff_mul_le hn).mpr (by omega)
    omega
  · unfold PySem.Builtin.Str.tooLong
    refine decide_eq_false ?_
    rw [sizeLine_eq]
    omega
end
end U

set_option Elab.async false
set_option linter.all false
set_option maxRecDepth 100000
set_option maxHeartbeats 4000000
namespace U
open PySem PySem.Spec PyProof.Rows L2
/-! ### text[::-1] -/
theorem rev_idx (n : Nat) : Builtin.Str.strSliceIndices none none (-1) n = (List.range n).map fun k => n - 1 - k := by
  have e : Builtin.Str.strSliceIndices none none (-1) n = sliceRange ((n : Int) - 1) (-1) (-1) := by
    unfold Builtin.Str.strSliceIndices
    rfl
  rw [e, PySem.W.krv_sliceRange]
theorem rev_pick (a : Array Nat) : (Builtin.Str.strSliceIndices none none (-1) a.size).filterMap (a[·]?) = a.toList.reverse := by
  rw [rev_idx, PySem.W.krv_range, List.filterMap_reverse, PySem.W.krv_all]
def tRevS (te : TE) : TE := fun σ H Q => te σ H fun x H1 => ∃ z, x = .str z ∧ z.length ≤ sizeLine ∧ Q (.str ⟨z.cps.toList.reverse.toArray⟩) H1
section
variable {X : Cx}
theorem pe_revS {e : Expr} {te : TE} {k : Nat} {p1 p2 p3 pos : Pos} (he : PE X e te) : PE X (.Subscript e (.Slice none none (some (.UnaryOp .USub (.Constant (.int 1) k p1) p2)) p3) pos) (tRevS te) := by
  refine ⟨fun pins s σ H Q I h => ?_⟩
  refine Subscript_ (thn (he.run pins s σ H _ I h) fun v s1 ⟨x, H1, I1, r1, q1⟩ => ?_)
  obtain ⟨z, ex, hz, q⟩ := q1
  subst ex
  obtain ⟨t, rfl⟩ := r1
  have hst : PO X (some (.UnaryOp .USub (.Constant (.int 1) k p1) p2)) (tPart (tUn (rU fun i => .int (-i)) (tC (.int 1)))) := po_some (pe_un un_neg pe_int)
  refine wpAny_Slice (thn (po_none.run pins s1 σ H1 (fun o H2 => o = none ∧ H2 = H1) I1 ⟨rfl, rfl⟩) fun vl s2 ⟨l, H2, I2, pl, el, e2⟩ => ?_)
  subst el e2
  refine thn (po_none.run pins s2 σ H2 (fun o H3 => o = none ∧ H3 = H2) I2 ⟨rfl, rfl⟩) fun vu s3 ⟨u, H3, I3, pu, eu, e3⟩ => ?_
  subst eu e3
  refine thn (hst.run pins s3 σ H3 (fun o H4 => o = some (-1) ∧ H4 = H3) I3 ⟨1, rfl, -1, rfl, rfl, rfl⟩) fun vs s4 ⟨o, H4, I4, ps, eo, e4⟩ => ?_
  subst eo e4
  have I5 : Inv X pins σ H4 { s4 with heap := s4.heap.push { cls := .type "slice", data := .fields #[vl, vu, vs] } } := I4.kept (t' := s4.toks) fun b ob q => Heap.get?_push_of_some _ q
  obtain ⟨l, rfl, el⟩ := IsPart.raw pl
  obtain ⟨u, rfl, eu⟩ := IsPart.raw pu
  obtain ⟨w, rfl, ew⟩ := IsPart.raw ps
  cases l with
  | some l => cases el
  | none =>
  cases u with
  | some u => cases eu
  | none =>
  cases w with
  | none => cases ew
  | some w =>
  have hw : w.1 = -1 := (Option.some.inj ew)
  obtain ⟨w1, w2⟩ := w
  simp only at hw
  subst hw
  show wpAny (model X.prog X.w) X.A (subscriptTail e (.Slice none none (some (.UnaryOp .USub (.Constant (.int 1) k p1) p2)) p3) (.str z t) (.ref s4.heap.objs.size)) (EP X pins σ Q) X.xe { s4 with heap := s4.heap.push { cls := .type "slice", data := .fields #[.none, .none, .int (-1) w2] } }
  refine tail_any (T := "str") (ops := [.ref s4.heap.objs.size, .str z t]) (typeIs_str _ _ _) F.slot_str_getitem.lookup ?_ (by with_unfolding_all rfl)
  refine wpAny_getItem_str_slice (l := none) (u := none) (st := some (-1, w2)) ⟨_, Heap.get?_push_size _ rfl, rfl, rfl⟩ rfl ?_
  have hl : ((Builtin.Str.strSliceIndices none none (-1) z.length).filterMap (z.cps[·]?)) = z.cps.toList.reverse := rev_pick z.cps
  have hn : (({ cps := ((Builtin.Str.strSliceIndices none none (-1) z.length).filterMap (z.cps[·]?)).toArray } : Str)).length ≤ sizeLine := by
    rw [hl]
    show z.cps.toList.reverse.toArray.size ≤ sizeLine
    rw [List.size_toArray, List.length_reverse]
    exact hz
  show Made.post (if ((-1 : Int) == 1 && (Builtin.Str.strSliceIndices none none (-1) z.length).length == z.length) = true then Made.val (.str z t)
    else Made.str ⟨((Builtin.Str.strSliceIndices none none (-1) z.length).filterMap (z.cps[·]?)).toArray⟩) (EP X pins σ Q) _
  have hc : ((-1 : Int) == 1 && (Builtin.Str.strSliceIndices none none (-1) z.length).length == z.length) = false := rfl
  rw [hc, if_neg Bool.false_ne_true]
  rw [← hl] at q
  exact ⟨hn, .str _, H4, I5.tok _, ⟨_, rfl⟩, q⟩
end
end U

set_option Elab.async false
set_option linter.all false
set_option maxRecDepth 100000
set_option maxHeartbeats 4000000
namespace U
open PySem PySem.Spec PyProof.Rows L2
/-! ### readings, step by step: what must hold ahead of a step -/
section
variable {σ : L2.St} {H : Hp} {Q : VK} {D : Ends} {ta tb tc te : TE} {tr : TA} {g : TG} {t u : TS} {K : PySem.W.Frag}
theorem k_var {i : Nat} {v : V} (h : σ[i]? = some (some v)) (k : Q v H) : tVar i σ H Q := ⟨v, h, k⟩
theorem k_c {v : V} (k : Q v H) : tC v σ H Q := k
theorem k_nil {Q : List V → Hp → Prop} (k : Q [] H) : tNil σ H Q := k
theorem k_cons {Q : List V → Hp → Prop} (k : te σ H fun x H1 => tr σ H1 fun xs H2 => Q (x :: xs) H2) : tCons te tr σ H Q := k
theorem k_op {r : R2} (k : ta σ H fun x H1 => tb σ H1 fun y H2 => r x y H2 Q) : tOp r ta tb σ H Q := k
theorem k_un {r : V → Hp → VK → Prop} (k : ta σ H fun x H1 => r x H1 Q) : tUn r ta σ H Q := k
theorem k_seq (k : t { D with nx := u D } σ H) : tSeq t u D σ H := k
theorem k_asg (k : te σ H fun x H1 => g x σ H1 D.nx) : tAsg te g D σ H := k
theorem k_name {i : Nat} {v : V} {Q : L2.St → Hp → Prop} (k : Q (σ.set i (some v)) H) : gName i v σ H Q := k
theorem k_ret (k : te σ H D.rt) : tRet te D σ H := k
theorem k_retN (k : D.rt .non H) : tRetN D σ H := k
theorem k_drop (k : te σ H fun _ H1 => D.nx σ H1) : tDrop te D σ H := k
theorem k_next (k : D.nx σ H) : tNext D σ H := k
theorem k_nx {n : L2.St → Hp → Prop} {r : VK} {b c : L2.St → Hp → Prop} (k : n σ H) : Ends.nx ⟨n, r, b, c⟩ σ H := k
theorem k_rt {n : L2.St → Hp → Prop} {r : VK} {b c : L2.St → Hp → Prop} {v : V} (k : r v H) : Ends.rt ⟨n, r, b, c⟩ v H := k
theorem k_ifS {c : TT} (k : c σ H fun b H1 => if b = true then t D σ H1 else u D σ H1) : tIfS c t u D σ H := k
theorem k_ifE {c : TT} (k : c σ H fun b H1 => if b = true then ta σ H1 Q else tb σ H1 Q) : tIf c ta tb σ H Q := k
theorem k_test {Q : Bool → Hp → Prop} (k : te σ H fun x H' => ∃ b, x = .bl b ∧ Q b H') : tTest te σ H Q := k
theorem k_B {Q : Bool → Hp → Prop} (k : te σ H fun x H' => ∃ b, x = .bl b ∧ Q b H') : tB te σ H Q := k
theorem k_not {c : TT} {Q : Bool → Hp → Prop} (k : c σ H fun b H1 => Q (!b) H1) : tNot c σ H Q := k
theorem k_or {c d : TT} {Q : Bool → Hp → Prop} (k : c σ H fun b H1 => if b = true then Q true H1 else d σ H1 Q) : tOr c d σ H Q := k
theorem k_and {c d : TT} {Q : Bool → Hp → Prop} (k : c σ H fun b H1 => if b = true then d σ H1 Q else Q false H1) : tAnd c d σ H Q := k
theorem k_notV (k : ta σ H fun x H1 => ∃ c, x = .bl c ∧ Q (.bl (!c)) H1) : tNotV ta σ H Q := k
theorem k_andV (k : ta σ H fun x H1 => ∃ c, x = .bl c ∧ if c = true then tb σ H1 Q else Q (.bl false) H1) : tAndV ta tb σ H Q := k
theorem k_orV (k : ta σ H fun x H1 => ∃ c, x = .bl c ∧ if c = true then Q (.bl true) H1 else tb σ H1 Q) : tOrV ta tb σ H Q := k
theorem k_bl {b : Bool} {G : Bool → Prop} (k : G b) : ∃ c, V.bl b = .bl c ∧ G c := ⟨b, rfl, k⟩
theorem k_call {sp : Sp} {dvs : List V} {E : XK} (k : tr σ H fun vs H1 => sp (vs ++ dvs) H1 Q E) : tCall sp dvs E tr σ H Q := k
theorem k_cb {r : List V → Hp → VK → Prop} (k : tr σ H fun vs H1 => r vs H1 Q) : tCB r tr σ H Q := k
theorem k_tup (k : tr σ H fun xs H1 => xs.length ≤ sizeLine ∧ ∀ p, H1 p = none → Q (.ref p) (upd H1 p (.tup xs))) : tTup tr σ H Q := k
theorem k_lst (k : tr σ H fun xs H1 => xs.length ≤ sizeLine ∧ ∀ p, H1 p = none → Q (.ref p) (upd H1 p (.lst xs))) : tLst tr σ H Q := k
theorem k_sl {r : V → Option Int → Option Int → Hp → VK → Prop} {tl th : TO} (k : te σ H fun x H1 => tl σ H1 fun l H2 => th σ H2 fun u H3 => r x l u H3 Q) : tSl r te tl th σ H Q := k
theorem k_noPart {Q : Option Int → Hp → Prop} (k : Q none H) : tNoPart σ H Q := k
theorem k_part {Q : Option Int → Hp → Prop} (k : te σ H fun x H1 => ∃ i, x = .int i ∧ Q (some i) H1) : tPart te σ H Q := k
theorem k_int {i : Int} {G : Int → Prop} (k : G i) : ∃ j, V.int i = .int j ∧ G j := ⟨i, rfl, k⟩
theorem k_I0 {f : Int → Int → V} {i j : Int} (k : Q (f i j) H) : rI0 f (.int i) (.int j) H Q := ⟨i, j, rfl, rfl, k⟩
theorem k_I {C : Int → Int → Prop} {f : Int → Int → V} {i j : Int} (c : C i j) (k : Q (f i j) H) : rI C f (.int i) (.int j) H Q := ⟨i, j, rfl, rfl, c, k⟩
theorem k_U {f : Int → V} {i : Int} (k : Q (f i) H) : rU f (.int i) H Q := ⟨i, rfl, k⟩
theorem k_addI {i j : Int} (k : Q (.int (i + j)) H) : rAddU K (.int i) (.int j) H Q := .inl ⟨i, j, rfl, rfl, k⟩
theorem k_addS {i j : Str} (hl : i.length + j.length ≤ sizeLine) (k : Q (.str (i ++ j)) H) : rAddU K (.str i) (.str j) H Q := .inr (.inl ⟨i, j, rfl, rfl, hl, k⟩)
theorem k_addL {l b : Addr} {xs zs : List V} (h1 : SqL K H l xs) (h2 : SqL K H b zs) (hl : xs.length + zs.length ≤ sizeLine) (k : ∀ p, H p = none → Q (.ref p) (upd H p (.lst (xs ++ zs)))) : rAddU K (.ref l) (.ref b) H Q := .inr (.inr ⟨l, b, xs, zs, rfl, rfl, h1, h2, hl, k⟩)
theorem k_eqI {i j : Int} (k : Q (.bl (decide (i = j))) H) : rEqU K (.int i) (.int j) H Q := .inl ⟨rfl, by rw [dec_int, Bool.beq_eq_decide_eq]; exact k⟩
theorem k_neI {i j : Int} (k : Q (.bl (!decide (i = j))) H) : rNeU K (.int i) (.int j) H Q := .inl ⟨rfl, by rw [dec_int, Bool.beq_eq_decide_eq]; exact k⟩
theorem k_eqS {i j : Str} (k : Q (.bl (decide (i = j))) H) : rEqU K (.str i) (.str j) H Q := .inl ⟨rfl, by rw [dec_str, Bool.beq_eq_decide_eq]; exact k⟩
theorem k_neS {i j : Str} (k : Q (.bl (!decide (i = j))) H) : rNeU K (.str i) (.str j) H Q := .inl ⟨rfl, by rw [dec_str, Bool.beq_eq_decide_eq]; exact k⟩
theorem k_eqB {i j : Bool} (k : Q (.bl (decide (i = j))) H) : rEqU K (.bl i) (.bl j) H Q := .inl ⟨rfl, by rw [dec_bl, Bool.beq_eq_decide_eq]; exact k⟩
theorem k_neB {i j : Bool} (k : Q (.bl (!decide (i = j))) H) : rNeU K (.bl i) (.bl j) H Q := .inl ⟨rfl, by rw [dec_bl, Bool.beq_eq_decide_eq]; exact k⟩
theorem k_eqD {x y : V} {d e : PyData} (h1 : Dp K H x d) (h2 : Dp K H y e) (s1 : SeqAt.shaped d = true) (s2 : SeqAt.shaped e = true) (k : Q (.bl (PyData.eqv d e)) H) : rEqU K x y H Q := .inr ⟨d, e, h1, h2, s1, s2, k⟩
theorem k_neD {x y : V} {d e : PyData} (h1 : Dp K H x d) (h2 : Dp K H y e) (s1 : SeqAt.shaped d = true) (s2 : SeqAt.shaped e = true) (k : Q (.bl (!PyData.eqv d e)) H) : rNeU K x y H Q := .inr ⟨d, e, h1, h2, s1, s2, k⟩
theorem k_ixL {p : Addr} {xs : List V} {i : Int} {v : V} (h : SqL K H p xs) (ha : atI xs i = some v) (k : Q v H) : rIx K (.ref p) (.int i) H Q := .inl ⟨p, xs, i, v, rfl, rfl, h, ha, k⟩
theorem k_ixT {p : Addr} {xs : List V} {i : Int} {v : V} (h : SqT K H p xs) (ha : atI xs i = some v) (k : Q v H) : rIx K (.ref p) (.int i) H Q := .inr (.inl ⟨p, xs, i, v, rfl, rfl, h, ha, k⟩)
theorem k_ixS {z : Str} {i : Int} {c : Nat} (hz : z.length ≤ sizeLine) (ha : atI z.cps.toList i = some c) (k : Q (.str ⟨#[c]⟩) H) : rIx K (.str z) (.int i) H Q := .inr (.inr ⟨z, i, c, rfl, rfl, hz, ha, k⟩)
theorem k_lenL {p : Addr} {ys : List V} (h : SqL K H p ys) (k : Q (.int ys.length) H) : rLenU K [.ref p] H Q := .inl ⟨p, ys, rfl, .inl h, k⟩
theorem k_lenT {p : Addr} {ys : List V} (h : SqT K H p ys) (k : Q (.int ys.length) H) : rLenU K [.ref p] H Q := .inl ⟨p, ys, rfl, .inr h, k⟩
theorem k_lenS {z : Str} (hz : z.length ≤ sizeLine) (k : Q (.int z.length) H) : rLenU K [.str z] H Q := .inr ⟨z, rfl, hz, k⟩
/-- xs.append(e), the list's name evaluated to .ref l -/
theorem k_bm {T : String} {r : V → List V → Hp → VK → Prop} {to : TE} (k : to σ H fun x H1 => tyV K T x H1 ∧ tr σ H1 fun xs H2 => r x xs H2 Q) : tBM K T r to tr σ H Q := k
theorem k_bm0 {T : String} {r : V → List V → Hp → VK → Prop} {to : TE} (k : to σ H fun x H1 => tyV K T x H1 ∧ r x [] H1 Q) : tBM0 K T r to σ H Q := k
theorem k_tyL {l : Addr} {xs : List V} {P : Prop} (h : H l = some (.lst xs)) (k : P) : tyV K "list" (.ref l) H ∧ P := ⟨.inl ⟨rfl, _, SqL.of h⟩, k⟩
theorem k_app {l : Addr} {xs : List V} {y : V} (h : H l = some (.lst xs)) (hz : xs.length < sizeLine) (k : Q .non (upd H l (.lst (xs ++ [y])))) : rAppend (.ref l) [y] H Q := ⟨l, xs, y, rfl, rfl, h, hz, k⟩
theorem k_gTup {n : Nat} {tg : TGs} {p : Addr} {xs : List V} {Q : L2.St → Hp → Prop} (h : SqT K H p xs) (hn : xs.length = n) (k : tg xs σ H Q) : gTup K n tg (.ref p) σ H Q := ⟨p, xs, rfl, h, hn, k⟩
theorem k_gCons {tg : TG} {u : TGs} {v : V} {r : List V} {Q : L2.St → Hp → Prop} (k : tg v σ H fun σ' H' => u r σ' H' Q) : gCons tg u (v :: r) σ H Q := ⟨v, r, rfl, k⟩
theorem k_gNil {Q : L2.St → Hp → Prop} (k : Q σ H) : gNil [] σ H Q := ⟨rfl, k⟩
theorem k_par {i j : Nat} {ta : TA} (k : ta σ H fun vs H1 => ∃ v w, vs = [v, w] ∧ D.nx ((σ.set i (some v)).set j (some w)) H1) : tPar i j ta D σ H := k
theorem k_vs2 {v w : V} {G : V → V → Prop} (k : G v w) : ∃ a b, [v, w] = [a, b] ∧ G a b := ⟨v, w, rfl, k⟩
theorem k_chain {r r' : R2} (k : ta σ H fun x H1 => tb σ H1 fun y H2 => r x y H2 fun z H3 => ∃ k, z = .bl k ∧ (if k = true then tc σ H3 fun w' H4 => r' y w' H4 Q else Q (.bl false) H3)) : tChain r r' ta tb tc σ H Q := k
theorem k_for {wi : TI} {g : TG} {tb : TS} (k : wi σ H fun J H1 => ∃ W : Nat → Nat → L2.St → Hp → Prop, (∃ m, W 0 m σ H1) ∧ ∀ i m σ H, W i m σ H → (J.stop i H ∧ D.nx σ H) ∨ (J.go i H ∧ ∃ N : L2.St → Hp → Prop, (∀ σ' H', N σ' H' → ∃ m', m' < m ∧ W (i + 1) m' σ' H') ∧
    ∀ x H', J.yld i H x H' → g x σ H' fun σ2 H2 => tb { D with nx := N, ct := N, bk := D.nx } σ2 H2)) : tFor wi g tb D σ H := k
theorem k_iStr {R : It → Hp → Prop} (k : te σ H fun v H1 => ∃ x, v = .str x ∧ R (Its x) H1) : iStr te σ H R := k
theorem k_iList {R : It → Hp → Prop} (k : te σ H fun x H1 => ∃ a, x = .ref a ∧ (∃ xs, SqL K H1 a xs) ∧ R (Itl K a) H1) : iList K te σ H R := k
theorem k_iTup {R : It → Hp → Prop} (k : te σ H fun x H1 => ∃ a, x = .ref a ∧ (∃ xs, SqT K H1 a xs) ∧ R (Itt K a) H1) : iTup K te σ H R := k
theorem k_iRng1 {R : It → Hp → Prop} (k : tr σ H fun vs H1 => ∃ j : Int, vs = [.int j] ∧ -(2 ^ 62) ≤ j ∧ j < 2 ^ 62 ∧ R (Itr 0 j.toNat) H1) : iRng1 tr σ H R := k
theorem k_lc {wi : TI} {g : TG} {tt : TT} {vs : List Nat} (k : wi σ H fun J H1 => ∀ D, H1 D = none → ∃ W : Nat → Nat → Hp → Prop, (∃ m, W 0 m (upd H1 D (.lst []))) ∧ ∀ i m H, W i m H →
    (J.stop i H ∧ Q (.ref D) H) ∨ (J.go i H ∧ ∃ Nx : Hp → Prop, (∀ H', Nx H' → ∃ m', m' < m ∧ W (i + 1) m' H') ∧ ∀ x H', J.yld i H x H' → g x (wipe σ vs) H' fun σ2 H2 => wipe σ2 vs = wipe σ vs ∧ tt σ2 H2 fun b H3 =>
      if b = true then te σ2 H3 fun y H4 => ∃ acc, H4 D = some (.lst acc) ∧ acc.length < sizeLine ∧ Nx (upd H4 D (.lst (acc ++ [y]))) else Nx H3)) : tLc wi g tt te vs σ H Q := k
theorem k_M1 {r : V → List V → Hp → VK → Prop} {to : TE} (k : to σ H fun x H1 => (∃ a, x = .str a) ∧ te σ H1 fun y H2 => r x [y] H2 Q) : tM1 r to te σ H Q := k
theorem k_isStr {s : Str} {P : Prop} (k : P) : (∃ a, V.str s = .str a) ∧ P := ⟨⟨s, rfl⟩, k⟩
theorem k_rev {R : It → Hp → Prop} (k : te σ H fun v H1 => ∃ (a : Addr) (xs : List V), v = .ref a ∧ ((SqL K H1 a xs ∧ R (Itv K a xs.length) H1) ∨ (SqT K H1 a xs ∧ R (RT.ItvT K a xs.length) H1))) : RT.iRevA K te σ H R := k
theorem k_revS (k : te σ H fun x H1 => ∃ z, x = .str z ∧ z.length ≤ sizeLine ∧ Q (.str ⟨z.cps.toList.reverse.toArray⟩) H1) : tRevS te σ H Q := k
theorem k_revL (k : te σ H fun x H1 => ∃ a xs, x = .ref a ∧ SqL K H1 a xs ∧ ∀ p, H1 p = none → Q (.ref p) (upd H1 p (.lst xs.reverse))) : tRevL K te σ H Q := k
theorem k_isN {v : V} {Q' : VK} (k : Q' (.bl (decide (v = .non))) H) : (fun x y H Q => y = V.non ∧ Q (.bl (decide (x = .non))) H : R2) v .non H Q' := ⟨rfl, k⟩
end
/-- a test that decides -/
theorem k_if {P A B : Prop} [Decidable P] (h1 : P → A) (h2 : ¬ P → B) : if decide P = true then A else B := by
  by_cases h : P
  · rw [decide_eq_true h, if_pos rfl]
    exact h1 h
  · rw [decide_eq_false h, if_neg Bool.false_ne_true]
    exact h2 h
theorem k_ifn {P A B : Prop} [Decidable P] (h1 : ¬ P → A) (h2 : P → B) : if (!decide P) = true then A else B := by
  by_cases h : P
  · rw [decide_eq_true h]
    exact h2 h
  · rw [decide_eq_false h]
    exact h1 h
theorem k_iT {A B : Prop} (h : A) : if true = true then A else B := by rw [if_pos rfl]; exact h
theorem k_iF {A B : Prop} (h : B) : if false = true then A else B := by rw [if_neg Bool.false_ne_true]; exact h
theorem k_ib {b c : Bool} {A B : Prop} (e : b = c) (h : if c = true then A else B) : if b = true then A else B := by rw [e]; exact h

theorem k_ntT {A B : Prop} (h : B) : if (!true) = true then A else B := by rw [show (!true) = false from rfl, if_neg Bool.false_ne_true]; exact h
theorem k_ntF {A B : Prop} (h : A) : if (!false) = true then A else B := by rw [show (!false) = true from rfl, if_pos rfl]; exact h
theorem k_tyS {K : PySem.W.Frag} {H : Hp} {z : Str} {P : Prop} (k : P) : tyV K "str" (.str z) H ∧ P := ⟨rfl, k⟩
theorem k_strip {H : Hp} {Q : VK} {a b : Str} (hz : a.length ≤ sizeLine) (k : Q (.str (Txt.stripChars a b)) H) : ∃ a' b', V.str a = V.str a' ∧ [V.str b] = [V.str b'] ∧ a'.length ≤ sizeLine ∧ Q (V.str (Txt.stripChars a' b')) H := ⟨a, b, rfl, rfl, hz, k⟩
theorem k_isi {K : PySem.W.Frag} {H : Hp} {Q : VK} {x : V} {n t : String} {b : Bool} (ty : TyX K H x (.type t)) (e : kitB t n = some b) (k : Q (.bl b) H) : rIsi K [x, .ty n] H Q := ⟨x, .ty n, .type t, .type n, b, rfl, .ty n, ty, kit_ty e, k⟩
theorem k_join {K : PySem.W.Frag} {H : Hp} {Q : VK} {a : Str} {p : Addr} {ls : List Nat} (h : SqL K H p ((ls.map fun c => (⟨#[c]⟩ : Str)).map V.str)) (hz : ls.length + ls.length * a.length ≤ 16777216) (k : Q (.str (Txt.join a (ls.map fun c => (⟨#[c]⟩ : Str)))) H) :
    ∃ a' p', ∃ ys : List Str, V.str a = V.str a' ∧ [V.ref p] = [V.ref p'] ∧ (SqL K H p' (ys.map V.str) ∨ SqT K H p' (ys.map V.str)) ∧ (ys.map (·.length)).sum + ys.length * a'.length ≤ 16777216 ∧ Q (.str (Txt.join a' ys)) H := by
  refine ⟨a, p, _, rfl, rfl, .inl h, ?_, k⟩
  rw [List.map_map, List.length_map]
  have e : (ls.map ((fun x : Str => x.length) ∘ fun c => (⟨#[c]⟩ : Str))).sum = ls.length := by
    clear h k hz
    induction ls with
    | nil => rfl
    | cons c r ih => rw [List.map_cons, List.sum_cons, ih, List.length_cons]; show 1 + r.length = _; omega
  rw [e]
  exact hz
/-! ### the context's written part -/
theorem cxK {CX : CXT} {P : Program} {w : World} {K : PySem.W.Frag} {mg : Str → Option Value} {base : Heap} {N : List Str} {qual : Str} {scope : Scope} {f : Addr} {cd : Value} {A : Around} {outer : List Env} {s : Shared} {H : Hp} {E : XK} :
    (cxOf CX P w K mg base N qual scope f cd A outer s H E).K = K := rfl
theorem cxKn {CX : CXT} {P : Program} {w : World} {K : PySem.W.Frag} {mg : Str → Option Value} {base : Heap} {N : List Str} {qual : Str} {scope : Scope} {f : Addr} {cd : Value} {A : Around} {outer : List Env} {s : Shared} {H : Hp} {E : XK} :
    (cxOf CX P w K mg base N qual scope f cd A outer s H E).nox.K = K := rfl
/-! ### a def that may be called by its name -/
structure Cal (P : Program) (w : World) (K : PySem.W.Frag) (mg : Str → Option Value) (base : Heap) (CX : CXT) (k : Nat) (x : Str) (sp : Sp) : Prop where
  ex : ∃ (f : Addr) (fd : FuncData) (ps : List Str), FnOk P w K mg base CX k f fd ps sp ∧ mg x = some (.ref f) ∧ PySem.W.keepIn K (.ref f) = true ∧ Binds K fd ps []
theorem cal_mk {P : Program} {w : World} {K : PySem.W.Frag} {mg : Str → Option Value} {base : Heap} {CX : CXT} {k : Nat} {x : Str} {sp : Sp} {f : Addr} {fd : FuncData} {ps : List Str} (F : FnOk P w K mg base CX k f fd ps sp) (hm : mg x = some (.ref f)) (hk : PySem.W.keepIn K (.ref f) = true) (hb : Binds K fd ps []) : Cal P w K mg base CX k x sp := ⟨f, fd, ps, F, hm, hk, hb⟩
section
variable {X : Cx} {k j : Nat} {C : Addr} {x m : Str} {sp : Sp} {dvs : List V} {p pos apos : Pos} {e o : Expr} {es : List Expr} {ta : TE} {t : TA} {CX : CXT}
theorem pe_c0 (c : Cal X.prog X.w X.K X.mg X.base CX0 k x sp) (hr : Room j X.A) (hk : k ≤ j) (hg : Gl X x) (ha : PA X (e :: es) t)
    (hdb : (x == ("__debug__" : Str)) = false := by decide) (he : starEach (e :: es) X.env = (false, eval e X.env) :: starEach es X.env := by rfl) (hpl : (backTo pos (starEach es X.env)).any (·.1) = false := by rfl) :
    PE X (.Call (.Name x p) (e :: es) [] pos) (tCall sp [] E0 t) := by
  obtain ⟨f, fd, ps, F, hm, kp, b⟩ := c.ex
  exact pe_call F (hr.mono hk) hg hm kp b .nil pass0 ha hdb he hpl
/-- a module's name, by its value -/
theorem pe_gv {v : V} (hg : Gl X x) (h : ∃ u, X.mg x = some u ∧ RelV v u) (hd : (x == ("__debug__" : Str)) = false := by decide) : PE X (.Name x pos) (tC v) := by
  obtain ⟨u, hm, r⟩ := h
  exact pe_glob hg hm r hd
end

/-! ### the rules with the written part said apart (a comprehension's block has it in another form) -/
section
variable {X : Cx} {K : PySem.W.Frag} {e : Expr} {te to : TE} {t : TA} {r : V → List V → Hp → VK → Prop} {T : String} {tg l : Expr} {st : Stmt}
theorem ix_seqK (q : X.K = K) : IxR X (rIx K) := q ▸ ix_seq
theorem op_addUK (q : X.K = K) : OpR X (binaryOp .Add) (rAddU K) := q ▸ op_addU
theorem op_eqUK (q : X.K = K) (hu : X.A.units + 64 < cLine) : OpR X (compareOp .Eq) (rEqU K) := q ▸ op_eqU hu
theorem op_neUK (q : X.K = K) (hu : X.A.units + 64 < cLine) : OpR X (compareOp .NotEq) (rNeU K) := q ▸ op_neU hu
theorem op_inK (q : X.K = K) : OpR X (compareOp .In) (rIn K false) := q ▸ op_in_seq
theorem op_notInK (q : X.K = K) : OpR X (compareOp .NotIn) (rIn K true) := q ▸ op_notIn_seq
theorem op_inDK (q : X.K = K) (hu : X.A.units + 65 < cLine) : OpR X (compareOp .In) (rInD K) := q ▸ op_inD hu
theorem op_notInDK (q : X.K = K) (hu : X.A.units + 65 < cLine) : OpR X (compareOp .NotIn) (rNotInD K) := q ▸ op_notInD hu
theorem call_lenUK (q : X.K = K) : CallR X (.builtin "len") (rLenU K) := q ▸ call_lenU
theorem call_isiK2 (q : X.K = K) : CallR X (.builtin "isinstance") (rIsi K) := q ▸ call_isi
theorem cr_sumK (q : X.K = K) (hc : X.calm = true) : CallR X (.builtin "sum") (rSum K) := q ▸ cr_sum hc
theorem cr_minK2 (q : X.K = K) (hc : X.calm = true) : CallR X (.builtin "min") (rMin K) := q ▸ cr_min hc
theorem cr_maxK (q : X.K = K) (hc : X.calm = true) : CallR X (.builtin "max") (rMax K) := q ▸ cr_max hc
theorem cr_anyK (q : X.K = K) (hc : X.calm = true) : CallR X (.builtin "any") (rAny K) := q ▸ cr_any hc
theorem cr_allK (q : X.K = K) (hc : X.calm = true) : CallR X (.builtin "all") (rAll K) := q ▸ cr_all hc
def rListOf (K : PySem.W.Frag) : List V → Hp → VK → Prop := fun xs H Q => ∃ p ys, xs = [.ref p] ∧ (SqL K H p ys ∨ SqT K H p ys) ∧ ∀ l, H l = none → Q (.ref l) (upd H l (.lst ys))
theorem call_list_ofK (q : X.K = K) : CallR X (.type "list") (rListOf K) := q ▸ call_list_of
theorem sl_listK (q : X.K = K) : SlR X (rSlL K) := q ▸ sl_list
theorem mt_indexK (q : X.K = K) : MtR X "list.index" (rIndex K) := q ▸ mt_index
theorem bmK (q : X.K = K) (h : PE X e (tBM X.K T r to t)) : PE X e (tBM K T r to t) := q ▸ h
theorem bm0K (q : X.K = K) (h : PE X e (tBM0 X.K T r to)) : PE X e (tBM0 K T r to) := q ▸ h
theorem revLK (q : X.K = K) (h : PE X e (tRevL X.K te)) : PE X e (tRevL K te) := q ▸ h
theorem fldK {f : Str} (q : X.K = K) (h : PE X e (tFld X.K te f)) : PE X e (tFld K te f) := q ▸ h
def rJoin (K : PySem.W.Frag) : V → List V → Hp → VK → Prop := fun x xs H Q => ∃ a p, ∃ ys : List Str, x = .str a ∧ xs = [.ref p] ∧ (SqL K H p (ys.map V.str) ∨ SqT K H p (ys.map V.str)) ∧ (ys.map (·.length)).sum + ys.length * a.length ≤ 16777216 ∧ Q (.str (Txt.join a ys)) H
theorem joinK (q : X.K = K) (h : PE X e (tM1 (rJoin X.K) to te)) : PE X e (tM1 (rJoin K) to te) := q ▸ h
theorem listIK (q : X.K = K) (h : PI X tg l (iList X.K te)) : PI X tg l (iList K te) := q ▸ h
theorem tupIK (q : X.K = K) (h : PI X tg l (iTup X.K te)) : PI X tg l (iTup K te) := q ▸ h
theorem revIK (q : X.K = K) (h : PI X tg l (RT.iRevA X.K te)) : PI X tg l (RT.iRevA K te) := q ▸ h
theorem zipIK (q : X.K = K) (h : PI X tg l (iZip X.K t)) : PI X tg l (iZip K t) := q ▸ h
theorem tupGK {n : Nat} {u : TGs} (q : X.K = K) (h : PG X e (gTup X.K n u)) : PG X e (gTup K n u) := q ▸ h
theorem fldSK {f : Str} {tv : TE} (q : X.K = K) (h : PS X st (sFld X.K te tv f)) : PS X st (sFld K te tv f) := q ▸ h
end
/-! ### loops over a text -/
theorem for_str {z : Str} {g : TG} {tb : TS} {D : Ends} {σ : L2.St} {H : Hp} (Pv : Nat → L2.St → Hp → Prop) (h0 : Pv 0 σ H)
    (hs : ∀ i c σ H, z.cps.toList[i]? = some c → Pv i σ H → g (.str ⟨#[c]⟩) σ H fun σ2 H2 => tb { D with nx := Pv (i + 1), ct := Pv (i + 1), bk := D.nx } σ2 H2) (hd : ∀ σ H, Pv z.cps.toList.length σ H → D.nx σ H) :
    ∃ W : Nat → Nat → L2.St → Hp → Prop, (∃ m, W 0 m σ H) ∧ ∀ i m σ H, W i m σ H → ((Its z).stop i H ∧ D.nx σ H) ∨ ((Its z).go i H ∧ ∃ N : L2.St → Hp → Prop, (∀ σ' H', N σ' H' → ∃ m', m' < m ∧ W (i + 1) m' σ' H') ∧
      ∀ x H', (Its z).yld i H x H' → g x σ H' fun σ2 H2 => tb { D with nx := N, ct := N, bk := D.nx } σ2 H2) := by
  refine ⟨fun i m σ H => m = z.cps.size - i ∧ i ≤ z.cps.size ∧ Pv i σ H, ⟨z.cps.size, by simp, Nat.zero_le _, h0⟩, ?_⟩
  rintro i m σ H ⟨rfl, hi, p⟩
  by_cases hlt : i < z.cps.size
  · refine .inr ⟨hlt, Pv (i + 1), fun σ' H' p' => ⟨z.cps.size - (i + 1), by omega, rfl, hlt, p'⟩, fun x H' y => ?_⟩
    obtain ⟨e, c, hc, ex⟩ := y
    subst e ex
    exact hs i c σ _ (by rw [Array.getElem?_toList]; exact hc) p
  · have e : i = z.cps.size := by omega
    subst e
    exact .inl ⟨Nat.le_refl _, hd σ H (by rw [Array.length_toList]; exact p)⟩
theorem lc_str {z : Str} {g : TG} {tt : TT} {te : TE} {vs : List Nat} {σ : L2.St} {H1 : Hp} {D : Addr} {Qd : Hp → Prop} (Pv : Nat → Hp → Prop) (h0 : Pv 0 (upd H1 D (.lst [])))
    (hs : ∀ i c H, z.cps.toList[i]? = some c → Pv i H → g (.str ⟨#[c]⟩) (wipe σ vs) H fun σ2 H2 => wipe σ2 vs = wipe σ vs ∧ tt σ2 H2 fun b H3 =>
      if b = true then te σ2 H3 fun y H4 => ∃ acc, H4 D = some (.lst acc) ∧ acc.length < sizeLine ∧ Pv (i + 1) (upd H4 D (.lst (acc ++ [y]))) else Pv (i + 1) H3) (hd : ∀ H, Pv z.cps.toList.length H → Qd H) :
    ∃ W : Nat → Nat → Hp → Prop, (∃ m, W 0 m (upd H1 D (.lst []))) ∧ ∀ i m H, W i m H →
      ((Its z).stop i H ∧ Qd H) ∨ ((Its z).go i H ∧ ∃ Nx : Hp → Prop, (∀ H', Nx H' → ∃ m', m' < m ∧ W (i + 1) m' H') ∧ ∀ x H', (Its z).yld i H x H' → g x (wipe σ vs) H' fun σ2 H2 => wipe σ2 vs = wipe σ vs ∧ tt σ2 H2 fun b H3 =>
        if b = true then te σ2 H3 fun y H4 => ∃ acc, H4 D = some (.lst acc) ∧ acc.length < sizeLine ∧ Nx (upd H4 D (.lst (acc ++ [y]))) else Nx H3) := by
  refine ⟨fun i m H => m = z.cps.size - i ∧ i ≤ z.cps.size ∧ Pv i H, ⟨z.cps.size, by simp, Nat.zero_le _, h0⟩, ?_⟩
  rintro i m H ⟨rfl, hi, p⟩
  by_cases hlt : i < z.cps.size
  · refine .inr ⟨hlt, Pv (i + 1), fun H' p' => ⟨z.cps.size - (i + 1), by omega, rfl, hlt, p'⟩, fun x H' y => ?_⟩
    obtain ⟨e, c, hc, ex⟩ := y
    subst e ex
    exact hs i c _ (by rw [Array.getElem?_toList]; exact hc) p
  · have e : i = z.cps.size := by omega
    subst e
    exact .inl ⟨Nat.le_refl _, hd H (by rw [Array.length_toList]; exact p)⟩

/-! ### comprehensions: [e for c in text], [e for x in list], each element a value -/
abbrev T (l : List Nat) : Str := ⟨l.toArray⟩
theorem lcS_map {l : List Nat} {F : Nat → V} {j : Nat} {te : TE} {vs : List Nat} {σ : L2.St} {H1 : Hp} {Q : VK} (hw : ∀ x, wipe ((wipe σ vs).set j (some x)) vs = wipe σ vs) (hz : l.length < 16777216)
    (he : ∀ (i c : Nat) H2, l[i]? = some c → Ex H1 H2 → ∀ Q : VK, (∀ H3, Ex H2 H3 → Q (F c) H3) → te ((wipe σ vs).set j (some (.str (T [c])))) H2 Q)
    (k : ∀ p H2, H1 p = none → Ex H1 H2 → H2 p = some (.lst (l.map F)) → Q (.ref p) H2) :
    ∀ D, H1 D = none → ∃ W : Nat → Nat → Hp → Prop, (∃ m, W 0 m (upd H1 D (.lst []))) ∧ ∀ i m H, W i m H →
      ((Its (T l)).stop i H ∧ Q (.ref D) H) ∨ ((Its (T l)).go i H ∧ ∃ Nx : Hp → Prop, (∀ H', Nx H' → ∃ m', m' < m ∧ W (i + 1) m' H') ∧ ∀ x H', (Its (T l)).yld i H x H' → gName j x (wipe σ vs) H' fun σ2 H2 => wipe σ2 vs = wipe σ vs ∧ tYes σ2 H2 fun b H3 =>
        if b = true then te σ2 H3 fun y H4 => ∃ acc, H4 D = some (.lst acc) ∧ acc.length < sizeLine ∧ Nx (upd H4 D (.lst (acc ++ [y]))) else Nx H3) := fun D hD => by
  refine lc_str (z := T l) (fun i H => Ex H1 H ∧ H D = some (.lst ((l.take i).map F))) ⟨Ex.new hD, upd_same⟩ (fun i c H hc p => ⟨hw _, ?_⟩) (fun H p => ?_)
  · show te ((wipe σ vs).set j (some (.str (T [c])))) H _
    refine he i c H hc p.1 _ fun H3 e => ?_
    refine ⟨_, e _ _ p.2, ?_, Ex.mut (p.1.trans e) hD, ?_⟩
    · rw [List.length_map]
      rw [List.length_take]
      exact line_lt (by omega)
    · rw [upd_same, List.take_add_one, show l[i]? = some c from hc, List.map_append]
      rfl
  · obtain ⟨e, h⟩ := p
    have h' : H D = some (.lst ((l.take l.length).map F)) := h
    rw [List.take_length] at h'
    exact k D H hD e h'
theorem lcL_map {K : PySem.W.Frag} {a : Addr} {xs : List V} {F : V → V} {j : Nat} {te : TE} {vs : List Nat} {σ : L2.St} {H1 : Hp} {Q : VK} (hx : SqL K H1 a xs) (hw : ∀ x, wipe ((wipe σ vs).set j (some x)) vs = wipe σ vs) (hz : xs.length < 16777216)
    (he : ∀ (i : Nat) (x : V) H2, xs[i]? = some x → Ex H1 H2 → ∀ Q : VK, (∀ H3, Ex H2 H3 → Q (F x) H3) → te ((wipe σ vs).set j (some x)) H2 Q)
    (k : ∀ p H2, H1 p = none → Ex H1 H2 → H2 p = some (.lst (xs.map F)) → Q (.ref p) H2) :
    ∀ D, H1 D = none → ∃ W : Nat → Nat → Hp → Prop, (∃ m, W 0 m (upd H1 D (.lst []))) ∧ ∀ i m H, W i m H →
      ((Itl K a).stop i H ∧ Q (.ref D) H) ∨ ((Itl K a).go i H ∧ ∃ Nx : Hp → Prop, (∀ H', Nx H' → ∃ m', m' < m ∧ W (i + 1) m' H') ∧ ∀ x H', (Itl K a).yld i H x H' → gName j x (wipe σ vs) H' fun σ2 H2 => wipe σ2 vs = wipe σ vs ∧ tYes σ2 H2 fun b H3 =>
        if b = true then te σ2 H3 fun y H4 => ∃ acc, H4 D = some (.lst acc) ∧ acc.length < sizeLine ∧ Nx (upd H4 D (.lst (acc ++ [y]))) else Nx H3) := fun D hD => by
  refine lc_list (xs := xs) (fun i H => Ex H1 H ∧ H D = some (.lst ((xs.take i).map F))) ⟨Ex.new hD, upd_same⟩ (fun i H _ p => p.1.sql hx) (fun i x H hc p => ⟨hw _, ?_⟩) (fun H p => ?_)
  · show te ((wipe σ vs).set j (some x)) H _
    refine he i x H hc p.1 _ fun H3 e => ?_
    refine ⟨_, e _ _ p.2, ?_, Ex.mut (p.1.trans e) hD, ?_⟩
    · rw [List.length_map]
      rw [List.length_take]
      exact line_lt (by omega)
    · rw [upd_same, List.take_add_one, hc, List.map_append]
      rfl
  · obtain ⟨e, h⟩ := p
    rw [List.take_length] at h
    exact k D H hD e h
theorem k_lcS {l : List Nat} {F : Nat → V} {j : Nat} {t0 te : TE} {vs : List Nat} {σ : L2.St} {H : Hp} {Q : VK} (h0 : ∀ R : VK, (∀ H1, Ex H H1 → R (.str (T l)) H1) → t0 σ H R) (hw : ∀ x, wipe ((wipe σ vs).set j (some x)) vs = wipe σ vs) (hz : l.length < 16777216)
    (he : ∀ (i c : Nat) H2, l[i]? = some c → Ex H H2 → ∀ Q : VK, (∀ H3, Ex H2 H3 → Q (F c) H3) → te ((wipe σ vs).set j (some (.str (T [c])))) H2 Q)
    (k : ∀ p H2, H p = none → Ex H H2 → H2 p = some (.lst (l.map F)) → Q (.ref p) H2) : tLc (iStr t0) (gName j) tYes te vs σ H Q :=
  h0 _ fun H1 e1 => ⟨_, rfl, lcS_map (l := l) hw hz (fun i c H2 hc e Q => he i c H2 hc (e1.trans e) Q) fun p H2 hp e h => k p H2 (e1.free hp) (e1.trans e) h⟩
theorem k_lcL {K : PySem.W.Frag} {xs : List V} {F : V → V} {j : Nat} {t0 te : TE} {vs : List Nat} {σ : L2.St} {H : Hp} {Q : VK} (h0 : ∀ R : VK, (∀ a H1, Ex H H1 → SqL K H1 a xs → R (.ref a) H1) → t0 σ H R) (hw : ∀ x, wipe ((wipe σ vs).set j (some x)) vs = wipe σ vs) (hz : xs.length < 16777216)
    (he : ∀ (i : Nat) (x : V) H2, xs[i]? = some x → Ex H H2 → ∀ Q : VK, (∀ H3, Ex H2 H3 → Q (F x) H3) → te ((wipe σ vs).set j (some x)) H2 Q)
    (k : ∀ p H2, H p = none → Ex H H2 → H2 p = some (.lst (xs.map F)) → Q (.ref p) H2) : tLc (iList K t0) (gName j) tYes te vs σ H Q :=
  h0 _ fun a H1 e1 hx => ⟨a, rfl, ⟨xs, hx⟩, lcL_map hx hw hz (fun i x H2 hc e Q => he i x H2 hc (e1.trans e) Q) fun p H2 hp e h => k p H2 (e1.free hp) (e1.trans e) h⟩
end U

set_option Elab.async false
set_option linter.all false
set_option maxRecDepth 100000
set_option maxHeartbeats 4000000
namespace U
open PySem PySem.Spec PyProof.Rows L2
/-! ### texts of one sign -/
theorem ofs_u : Str.ofString "u" = ⟨#[117]⟩ := by decide +kernel
theorem ofs_d : Str.ofString "d" = ⟨#[100]⟩ := by decide +kernel
theorem ofs_f : Str.ofString "f" = ⟨#[102]⟩ := by decide +kernel
theorem ofs_b : Str.ofString "b" = ⟨#[98]⟩ := by decide +kernel
theorem ofs_0 : Str.ofString "" = ⟨#[]⟩ := by decide +kernel
theorem ofs_ud : Str.ofString "ud" = ⟨#[117, 100]⟩ := by decide +kernel
theorem one_iff {c d : Nat} : (⟨#[c]⟩ : Str) = ⟨#[d]⟩ ↔ c = d := ⟨fun h => by injection h with h; simpa using h, fun h => by rw [h]⟩
theorem isU {c : Nat} : (⟨#[c]⟩ : Str) = Str.ofString "u" ↔ c = 117 := by rw [ofs_u]; exact one_iff
theorem isF {c : Nat} : (⟨#[c]⟩ : Str) = Str.ofString "f" ↔ c = 102 := by rw [ofs_f]; exact one_iff
/-! ### heights -/
def sgn (c : Nat) : Int := if c = 117 then 1 else -1
def hAt (l : List Nat) : Int := (l.map sgn).sum
def ht (l : List Nat) (i : Nat) : Int := hAt (l.take i)
def hts (l : List Nat) : List Int := (List.range (l.length + 1)).map (ht l)
theorem ht_zero (l : List Nat) : ht l 0 = 0 := rfl
theorem ht_succ {l : List Nat} {i c : Nat} (h : l[i]? = some c) : ht l (i + 1) = ht l i + sgn c := by
  unfold ht hAt
  rw [List.take_add_one, h, List.map_append, List.sum_append]
  simp
theorem hts_length (l : List Nat) : (hts l).length = l.length + 1 := by unfold hts; simp
theorem hts_get {l : List Nat} {i : Nat} (h : i ≤ l.length) : (hts l)[i]? = some (ht l i) := by
  unfold hts
  rw [List.getElem?_map, List.getElem?_range (by omega)]
  rfl
/-- the heights of the places 0 .. i -/
def htsN (l : List Nat) (i : Nat) : List Int := (List.range (i + 1)).map (ht l)
theorem htsN_succ (l : List Nat) (i : Nat) : htsN l (i + 1) = htsN l i ++ [ht l (i + 1)] := by
  unfold htsN
  rw [List.range_succ, List.map_append]
  rfl
theorem htsN_last (l : List Nat) (i : Nat) : ∃ r, htsN l i = r ++ [ht l i] := ⟨(List.range i).map (ht l), by
  unfold htsN
  rw [List.range_succ, List.map_append]
  rfl⟩
theorem htsN_atI (l : List Nat) (i : Nat) : atI ((htsN l i).map V.int) (-1) = some (.int (ht l i)) := by
  obtain ⟨r, e⟩ := htsN_last l i
  rw [e, List.map_append]
  exact atI_last _ _
theorem htsN_length (l : List Nat) (i : Nat) : (htsN l i).length = i + 1 := by unfold htsN; simp
/-- one more height -/
theorem htsN_more {l : List Nat} {i c : Nat} {y : Int} (h : l[i]? = some c) (e : y = ht l i + sgn c) : (htsN l i).map V.int ++ [.int y] = (htsN l (i + 1)).map V.int := by
  rw [htsN_succ, List.map_append, ht_succ h, e]
  rfl
/-! ### ridges -/
def UD (l : List Nat) : Prop := ∀ c ∈ l, c = 117 ∨ c = 100
abbrev Big : Nat := 16000000
theorem T_len (l : List Nat) : (T l).length = l.length := rfl
theorem T_inj {a b : List Nat} : T a = T b ↔ a = b := ⟨fun h => by injection h with h; exact congrArg Array.toList h, fun h => by rw [h]⟩
theorem T_cat (a b : List Nat) : T a ++ T b = T (a ++ b) := SX.S_cat a b
theorem tw_all {p : Nat → Bool} : ∀ {l : List Nat}, (∀ c ∈ l, p c = true) → l.takeWhile p = l
  | [], _ => rfl
  | c :: r, h => by rw [List.takeWhile_cons, if_pos (h c (List.mem_cons_self ..)), tw_all fun d hd => h d (List.mem_cons_of_mem _ hd)]
theorem strip_ud {l : List Nat} (h : UD l) : Txt.stripChars (T l) (Str.ofString "ud") = T [] := by
  rw [ofs_ud]
  have hp : ∀ c ∈ l, (#[117, 100] : Array Nat).contains c = true := fun c hc => by
    rcases h c hc with e | e <;> subst e <;> simp
  have e1 : stripLo (#[117, 100] : Array Nat).contains true (T l) = l.length := by
    show (l.takeWhile _).length = _
    rw [tw_all hp]
  have e2 : stripHi (#[117, 100] : Array Nat).contains true (T l) l.length = l.length := by
    show (T l).length - ((l.drop l.length).reverse.takeWhile _).length = l.length
    rw [List.drop_length]
    rfl
  show Txt.stripBy (#[117, 100] : Array Nat).contains true true (T l) = _
  unfold Txt.stripBy stripSame stripped
  rw [e1, e2]
  cases l with
  | nil => rfl
  | cons c r =>
    rw [if_neg (by simp)]
    unfold Builtin.Str.strSub
    simp
def flipc (c : Nat) : Nat := if c = 117 then 100 else 117
theorem joinL_one : ∀ ls : List Nat, TL.joinL [] (ls.map fun c => [c]) = ls
  | [] => rfl
  | [_] => rfl
  | c :: d :: r => by
    show [c] ++ ([] ++ TL.joinL [] ((d :: r).map fun c => [c])) = c :: d :: r
    rw [joinL_one (d :: r)]
    rfl
theorem join_one (ls : List Nat) : Txt.join (Str.ofString "") (ls.map fun c => T [c]) = T ls := by
  have h := SX.join_S [] (ls.map fun c => [c])
  rw [joinL_one, List.map_map] at h
  rw [ofs_0]
  exact h
theorem k_join0 {K : PySem.W.Frag} {H : Hp} {Q : VK} {p : Addr} {ls : List Nat} (h : SqL K H p ((ls.map fun c => T [c]).map V.str)) (hz : ls.length ≤ 16777216) (k : Q (.str (T ls)) H) : rJoin K (.str (Str.ofString "")) [.ref p] H Q :=
  k_join (a := Str.ofString "") (ls := ls) h (by rw [ofs_0]; show ls.length + ls.length * 0 ≤ _; omega) (by rw [join_one]; exact k)
end U

set_option Elab.async false
set_option linter.all false
set_option maxRecDepth 100000
set_option maxHeartbeats 4000000
namespace U
open PySem PySem.Spec PyProof.Rows L2
/-! ### lists of ints as data -/
def dI (ns : List Int) : PyData := .list (ns.map PyData.int)
theorem dpAllInts {K : PySem.W.Frag} {H : Hp} : ∀ ns : List Int, DpAll K H (ns.map V.int) (ns.map PyData.int)
  | [] => .nil
  | n :: r => .cons (.int n) (dpAllInts r)
theorem dpInts {K : PySem.W.Frag} {H : Hp} {p : Addr} {ns : List Int} (h : SqL K H p (ns.map V.int)) : Dp K H (.ref p) (dI ns) := .lst h (dpAllInts ns)
theorem canInts : ∀ ns : List Int, PyData.canLayAll0 (ns.map PyData.int) = true
  | [] => by simp [PyData.canLayAll0]
  | n :: r => by simp [PyData.canLayAll0, PyData.canLay0, canInts r]
theorem depInts : ∀ ns : List Int, PyData.depthAll (ns.map PyData.int) = 0
  | [] => by simp [PyData.depthAll]
  | n :: r => by simp [PyData.depthAll, PyData.depth, depInts r]
theorem shInts (ns : List Int) : SeqAt.shaped (dI ns) = true := by
  unfold SeqAt.shaped dI
  simp [PyData.canLay0, PyData.depth, canInts, depInts]
theorem eqvAllInts : ∀ as bs : List Int, PyData.eqvAll (as.map PyData.int) (bs.map PyData.int) = decide (as = bs)
  | [], [] => by simp [PyData.eqvAll]
  | [], _ :: _ => by simp [PyData.eqvAll]
  | _ :: _, [] => by simp [PyData.eqvAll]
  | a :: r, b :: t => by
    simp only [List.map_cons, PyData.eqvAll, PyData.eqv, eqvAllInts r t, List.cons.injEq]
    by_cases h : a = b
    · simp [h]
    · simp [h]
theorem eqvInts (as bs : List Int) : PyData.eqv (dI as) (dI bs) = decide (as = bs) := by
  unfold dI
  simp only [PyData.eqv]
  exact eqvAllInts as bs
theorem k_eqInts {K : PySem.W.Frag} {H : Hp} {Q : VK} {p q : Addr} {as bs : List Int} (h1 : SqL K H p (as.map V.int)) (h2 : SqL K H q (bs.map V.int)) (k : Q (.bl (decide (as = bs))) H) : rEqU K (.ref p) (.ref q) H Q :=
  k_eqD (dpInts h1) (dpInts h2) (shInts _) (shInts _) (by rw [eqvInts]; exact k)
theorem k_neInts {K : PySem.W.Frag} {H : Hp} {Q : VK} {p q : Addr} {as bs : List Int} (h1 : SqL K H p (as.map V.int)) (h2 : SqL K H q (bs.map V.int)) (k : Q (.bl (!decide (as = bs))) H) : rNeU K (.ref p) (.ref q) H Q :=
  k_neD (dpInts h1) (dpInts h2) (shInts _) (shInts _) (by rw [eqvInts]; exact k)
/-! ### {"u": 1, "d": -1}[step] -/
theorem tPairs_nil {σ : L2.St} {H : Hp} {Q : List (V × V) → Hp → Prop} (k : Q [] H) : tPairs [] σ H Q := k
theorem tPairs_cons {tk tv : TE} {r : List (TE × TE)} {σ : L2.St} {H : Hp} {Q : List (V × V) → Hp → Prop} (k : tk σ H fun x H1 => tv σ H1 fun y H2 => tPairs r σ H2 fun ps H3 => Q ((x, y) :: ps) H3) : tPairs ((tk, tv) :: r) σ H Q := k
theorem k_disp {trs : List (TE × TE)} {σ : L2.St} {H : Hp} {Q : VK} (k : ∀ p, H p = none → tPairs trs σ (upd H p (.dK [])) fun ps H2 => H2 p = some (.dK []) ∧ ∃ kvs : List (Key × V), ps = kvs.map (fun kv => (kV kv.1, kv.2)) ∧ kvs.length ≤ 15 ∧ Q (.ref p) (upd H2 p (.dK (mergeK [] kvs)))) : tDisp trs σ H Q := k
theorem k_dget {td ty : TE} {σ : L2.St} {H : Hp} {Q : VK} (k : td σ H fun x H1 => ty σ H1 fun y H2 => ∃ a v, x = .ref a ∧ DGet H2 a y (some v) ∧ Q v H2) : tDGet td ty σ H Q := k
/-- a dict of two signs -/
def two (a b : Nat) (x y : V) : List (Key × V) := [(.inr (T [a]), x), (.inr (T [b]), y)]
theorem merge_two {a b : Nat} {x y : V} (h : a ≠ b) : mergeK [] (two a b x y) = two a b x y := by
  unfold two mergeK
  simp only [List.foldl_cons, List.foldl_nil]
  unfold putK
  simp [T_inj, h]
theorem val_two {a b c : Nat} {x y : V} (h : a ≠ b) : valV (two a b x y) (.inr (T [c])) = if c = a then some x else if c = b then some y else none := by
  unfold two
  by_cases h1 : c = a
  · subst h1
    rw [if_pos rfl]
    exact valV_pos rfl
  · rw [if_neg h1, valV_neg (fun z => h1 (by injection z with z; simpa using (T_inj.mp z).symm))]
    by_cases h2 : c = b
    · subst h2
      rw [if_pos rfl]
      exact valV_pos rfl
    · rw [if_neg h2, valV_neg (fun z => h2 (by injection z with z; simpa using (T_inj.mp z).symm))]
      rfl
theorem k_udGet {σ : L2.St} {H : Hp} {Q : VK} {i c : Nat} (hs : σ[i]? = some (some (.str (T [c])))) (hc : c = 117 ∨ c = 100) (k : ∀ H', Ex H H' → Q (.int (sgn c)) H') :
    tDGet (tDisp [(tC (.str (Str.ofString "u")), tC (.int 1)), (tC (.str (Str.ofString "d")), tUn (rU fun i => .int (-i)) (tC (.int 1)))]) (tVar i) σ H Q := by
  refine k_dget (k_disp fun p hp => ?_)
  refine tPairs_cons (k_c (k_c (tPairs_cons (k_c (k_un (k_c (k_U (tPairs_nil ?_))))))))
  refine ⟨upd_same, two 117 100 (.int 1) (.int (-1)), by rw [ofs_u, ofs_d]; rfl, by unfold two; decide, ?_⟩
  rw [merge_two (by decide), upd_upd]
  refine k_var hs ⟨p, _, rfl, ?_, k _ (Ex.new hp)⟩
  have h := DGet.k (k := .inr (T [c])) (show upd H p (.dK (two 117 100 (.int 1) (.int (-1)))) p = _ from upd_same)
  rw [val_two (by decide)] at h
  unfold sgn
  rcases hc with e | e <;> subst e <;> exact h
/-! ### lists of truths -/
theorem k_any {K : PySem.W.Frag} {H : Hp} {Q : VK} {a : Addr} {bs : List Bool} (h : SqL K H a (bs.map V.bl)) (k : Q (.bl (bs.any id)) H) : rAny K [.ref a] H Q := ⟨a, bs, rfl, h, k⟩
theorem k_all {K : PySem.W.Frag} {H : Hp} {Q : VK} {a : Addr} {bs : List Bool} (h : SqL K H a (bs.map V.bl)) (k : Q (.bl (bs.all id)) H) : rAll K [.ref a] H Q := ⟨a, bs, rfl, h, k⟩
/-- a function of ints, on values -/
def FV (f : Int → V) : V → V
  | .int n => f n
  | _ => .non
theorem FV_map (f : Int → V) (ns : List Int) : (ns.map V.int).map (FV f) = ns.map f := by rw [List.map_map]; rfl
theorem ints_at {ns : List Int} {i : Nat} {x : V} (h : (ns.map V.int)[i]? = some x) : ∃ n, ns[i]? = some n ∧ x = .int n := by
  rw [List.getElem?_map] at h
  cases e : ns[i]? with
  | none => rw [e] at h; cases h
  | some n => rw [e] at h; exact ⟨n, rfl, (Option.some.inj h).symm⟩
/-! ### ridges turned over, from the end -/
theorem flip_flip {l : List Nat} (h : UD l) : (l.map flipc).map flipc = l := by
  rw [List.map_map]
  conv => rhs; rw [← List.map_id l]
  refine List.map_congr_left fun c hc => ?_
  rcases h c hc with e | e <;> subst e <;> rfl
theorem flip_ud (l : List Nat) : UD (l.map flipc) := fun c hc => by
  obtain ⟨d, _, rfl⟩ := List.mem_map.mp hc
  unfold flipc
  split
  · exact .inr rfl
  · exact .inl rfl
theorem rev_ud {l : List Nat} (h : UD l) : UD l.reverse := fun c hc => h c (List.mem_reverse.mp hc)
theorem sgn_flip {c : Nat} : sgn (flipc c) = -sgn c := by
  unfold sgn flipc
  by_cases h : c = 117 <;> simp [h]
theorem hAt_flip (l : List Nat) : hAt (l.map flipc) = -hAt l := by
  induction l with
  | nil => rfl
  | cons c r ih =>
    unfold hAt at ih ⊢
    simp only [List.map_cons, List.sum_cons, ih, sgn_flip]
    omega
theorem hAt_append (a b : List Nat) : hAt (a ++ b) = hAt a + hAt b := by
  unfold hAt
  rw [List.map_append, List.sum_append]
theorem hAt_reverse (l : List Nat) : hAt l.reverse = hAt l := by
  unfold hAt
  rw [List.map_reverse, List.sum_reverse]
theorem ht_flip (l : List Nat) (i : Nat) : ht (l.map flipc) i = -ht l i := by
  unfold ht
  rw [← List.map_take, hAt_flip]
theorem hts_flip (l : List Nat) : hts (l.map flipc) = (hts l).map fun x => -x := by
  unfold hts
  rw [List.length_map, List.map_map]
  exact List.map_congr_left fun i _ => ht_flip l i
theorem ht_full (l : List Nat) : ht l l.length = hAt l := by unfold ht; rw [List.take_length]
theorem ht_split (l : List Nat) (i : Nat) : ht l i + hAt (l.drop i) = hAt l := by
  unfold ht
  rw [← hAt_append, List.take_append_drop]
theorem ht_back (l : List Nat) (i : Nat) (hi : i ≤ l.length) : ht (l.reverse.map flipc) i = ht l (l.length - i) - hAt l := by
  rw [ht_flip]
  have e : ht l.reverse i = hAt (l.drop (l.length - i)) := by
    unfold ht
    rw [← hAt_reverse, List.take_reverse, List.reverse_reverse]
  rw [e]
  have := ht_split l (l.length - i)
  omega
theorem hts_back (l : List Nat) : hts (l.reverse.map flipc) = ((hts l).reverse).map fun x => x - hAt l := by
  apply List.ext_getElem?
  intro i
  have n1 : (hts (l.reverse.map flipc)).length = l.length + 1 := by rw [hts_length, List.length_map, List.length_reverse]
  have n2 : (hts l).length = l.length + 1 := hts_length l
  by_cases hi : i ≤ l.length
  · rw [hts_get (by rw [List.length_map, List.length_reverse]; exact hi), List.getElem?_map, List.getElem?_reverse (by omega), n2, hts_get (by omega), ht_back l i hi]
    rw [show l.length + 1 - 1 - i = l.length - i by omega]
    rfl
  · rw [List.getElem?_eq_none (by omega), List.getElem?_eq_none (by rw [List.length_map, List.length_reverse]; omega)]
theorem hts_last (l : List Nat) : atI ((hts l).map V.int) (-1) = some (.int (hAt l)) := by
  have h := htsN_atI l l.length
  rw [ht_full] at h
  exact h
end U

set_option Elab.async false
set_option linter.all false
set_option maxRecDepth 100000
set_option maxHeartbeats 4000000
namespace U
open PySem PySem.Spec PyProof.Rows L2
/-! ### the steps that ask nothing, found by their form -/
class Stp (A : Prop) (B : outParam Prop) : Prop where
  h : B → A
class Lk (σ : L2.St) (i : Nat) (v : outParam V) : Prop where
  h : σ[i]? = some (some v)
instance lk0 {v : V} {σ : L2.St} : Lk (some v :: σ) 0 v := ⟨rfl⟩
instance lkS {x : Option V} {v : V} {σ : L2.St} {i : Nat} [q : Lk σ i v] : Lk (x :: σ) (i + 1) v := ⟨by have := q.h; simpa using this⟩
class StAt (σ : L2.St) (i : Nat) (v : Option V) (σ' : outParam L2.St) : Prop where
  h : σ.set i v = σ'
instance st0 {x v : Option V} {σ : L2.St} : StAt (x :: σ) 0 v (v :: σ) := ⟨rfl⟩
instance stS {x v : Option V} {σ σ' : L2.St} {i : Nat} [q : StAt σ i v σ'] : StAt (x :: σ) (i + 1) v (x :: σ') := ⟨by rw [List.set_cons_succ, q.h]⟩
section
variable {σ σ' σ'' : L2.St} {H : Hp} {Q : VK} {D : Ends} {ta tb tc te : TE} {tr : TA} {g : TG} {t u : TS} {K : PySem.W.Frag}
instance i_var {i : Nat} {v : V} [q : Lk σ i v] : Stp (tVar i σ H Q) (Q v H) := ⟨k_var q.h⟩
instance i_c {v : V} : Stp (tC v σ H Q) (Q v H) := ⟨k_c⟩
instance i_nil {Q : List V → Hp → Prop} : Stp (tNil σ H Q) (Q [] H) := ⟨k_nil⟩
instance i_cons {Q : List V → Hp → Prop} : Stp (tCons te tr σ H Q) (te σ H fun x H1 => tr σ H1 fun xs H2 => Q (x :: xs) H2) := ⟨k_cons⟩
instance i_op {r : R2} : Stp (tOp r ta tb σ H Q) (ta σ H fun x H1 => tb σ H1 fun y H2 => r x y H2 Q) := ⟨k_op⟩
instance i_un {r : V → Hp → VK → Prop} : Stp (tUn r ta σ H Q) (ta σ H fun x H1 => r x H1 Q) := ⟨k_un⟩
instance i_seq : Stp (tSeq t u D σ H) (t { D with nx := u D } σ H) := ⟨k_seq⟩
instance i_asg : Stp (tAsg te g D σ H) (te σ H fun x H1 => g x σ H1 D.nx) := ⟨k_asg⟩
instance i_name {i : Nat} {v : V} {Q : L2.St → Hp → Prop} [q : StAt σ i (some v) σ'] : Stp (gName i v σ H Q) (Q σ' H) := ⟨fun k => k_name (by rw [q.h]; exact k)⟩
instance i_ret : Stp (tRet te D σ H) (te σ H D.rt) := ⟨k_ret⟩
instance i_retN : Stp (tRetN D σ H) (D.rt .non H) := ⟨k_retN⟩
instance i_drop : Stp (tDrop te D σ H) (te σ H fun _ H1 => D.nx σ H1) := ⟨k_drop⟩
instance i_next : Stp (tNext D σ H) (D.nx σ H) := ⟨k_next⟩
instance i_brk : Stp (tBreak D σ H) (D.bk σ H) := ⟨id⟩
instance i_nx {n : L2.St → Hp → Prop} {r : VK} {b c : L2.St → Hp → Prop} : Stp (Ends.nx ⟨n, r, b, c⟩ σ H) (n σ H) := ⟨k_nx⟩
instance i_bk {n : L2.St → Hp → Prop} {r : VK} {b c : L2.St → Hp → Prop} : Stp (Ends.bk ⟨n, r, b, c⟩ σ H) (b σ H) := ⟨id⟩
instance i_rt {n : L2.St → Hp → Prop} {r : VK} {b c : L2.St → Hp → Prop} {v : V} : Stp (Ends.rt ⟨n, r, b, c⟩ v H) (r v H) := ⟨k_rt⟩
instance i_ifS {c : TT} : Stp (tIfS c t u D σ H) (c σ H fun b H1 => if b = true then t D σ H1 else u D σ H1) := ⟨k_ifS⟩
instance i_ifE {c : TT} : Stp (tIf c ta tb σ H Q) (c σ H fun b H1 => if b = true then ta σ H1 Q else tb σ H1 Q) := ⟨k_ifE⟩
instance i_test {Q : Bool → Hp → Prop} : Stp (tTest te σ H Q) (te σ H fun x H' => ∃ b, x = .bl b ∧ Q b H') := ⟨k_test⟩
instance i_B {Q : Bool → Hp → Prop} : Stp (tB te σ H Q) (te σ H fun x H' => ∃ b, x = .bl b ∧ Q b H') := ⟨k_B⟩
instance i_not {c : TT} {Q : Bool → Hp → Prop} : Stp (tNot c σ H Q) (c σ H fun b H1 => Q (!b) H1) := ⟨k_not⟩
instance i_or {c d : TT} {Q : Bool → Hp → Prop} : Stp (tOr c d σ H Q) (c σ H fun b H1 => if b = true then Q true H1 else d σ H1 Q) := ⟨k_or⟩
instance i_and {c d : TT} {Q : Bool → Hp → Prop} : Stp (tAnd c d σ H Q) (c σ H fun b H1 => if b = true then d σ H1 Q else Q false H1) := ⟨k_and⟩
instance i_notV : Stp (tNotV ta σ H Q) (ta σ H fun x H1 => ∃ c, x = .bl c ∧ Q (.bl (!c)) H1) := ⟨k_notV⟩
instance i_andV : Stp (tAndV ta tb σ H Q) (ta σ H fun x H1 => ∃ c, x = .bl c ∧ if c = true then tb σ H1 Q else Q (.bl false) H1) := ⟨k_andV⟩
instance i_orV : Stp (tOrV ta tb σ H Q) (ta σ H fun x H1 => ∃ c, x = .bl c ∧ if c = true then Q (.bl true) H1 else tb σ H1 Q) := ⟨k_orV⟩
instance i_call {sp : Sp} {dvs : List V} {E : XK} : Stp (tCall sp dvs E tr σ H Q) (tr σ H fun vs H1 => sp (vs ++ dvs) H1 Q E) := ⟨k_call⟩
instance i_cb {r : List V → Hp → VK → Prop} : Stp (tCB r tr σ H Q) (tr σ H fun vs H1 => r vs H1 Q) := ⟨k_cb⟩
instance i_tup : Stp (tTup tr σ H Q) (tr σ H fun xs H1 => xs.length ≤ sizeLine ∧ ∀ p, H1 p = none → Q (.ref p) (upd H1 p (.tup xs))) := ⟨k_tup⟩
instance i_lst : Stp (tLst tr σ H Q) (tr σ H fun xs H1 => xs.length ≤ sizeLine ∧ ∀ p, H1 p = none → Q (.ref p) (upd H1 p (.lst xs))) := ⟨k_lst⟩
instance i_sl {r : V → Option Int → Option Int → Hp → VK → Prop} {tl th : TO} : Stp (tSl r te tl th σ H Q) (te σ H fun x H1 => tl σ H1 fun l H2 => th σ H2 fun u H3 => r x l u H3 Q) := ⟨k_sl⟩
instance i_noPart {Q : Option Int → Hp → Prop} : Stp (tNoPart σ H Q) (Q none H) := ⟨k_noPart⟩
instance i_part {Q : Option Int → Hp → Prop} : Stp (tPart te σ H Q) (te σ H fun x H1 => ∃ i, x = .int i ∧ Q (some i) H1) := ⟨k_part⟩
instance i_bl {b : Bool} {G : Bool → Prop} : Stp (∃ c, V.bl b = .bl c ∧ G c) (G b) := ⟨k_bl⟩
instance i_int {i : Int} {G : Int → Prop} : Stp (∃ j, V.int i = .int j ∧ G j) (G i) := ⟨k_int⟩
instance i_str {s : Str} {G : Str → Prop} : Stp (∃ j, V.str s = .str j ∧ G j) (G s) := ⟨fun k => ⟨s, rfl, k⟩⟩
instance i_vs2 {v w : V} {G : V → V → Prop} : Stp (∃ a b, [v, w] = [a, b] ∧ G a b) (G v w) := ⟨k_vs2⟩
instance i_I0 {f : Int → Int → V} {i j : Int} : Stp (rI0 f (.int i) (.int j) H Q) (Q (f i j) H) := ⟨k_I0⟩
instance i_U {f : Int → V} {i : Int} : Stp (rU f (.int i) H Q) (Q (f i) H) := ⟨k_U⟩
instance i_addI {i j : Int} : Stp (rAddU K (.int i) (.int j) H Q) (Q (.int (i + j)) H) := ⟨k_addI⟩
instance i_eqI {i j : Int} : Stp (rEqU K (.int i) (.int j) H Q) (Q (.bl (decide (i = j))) H) := ⟨k_eqI⟩
instance i_neI {i j : Int} : Stp (rNeU K (.int i) (.int j) H Q) (Q (.bl (!decide (i = j))) H) := ⟨k_neI⟩
instance i_eqS {i j : Str} : Stp (rEqU K (.str i) (.str j) H Q) (Q (.bl (decide (i = j))) H) := ⟨k_eqS⟩
instance i_neS {i j : Str} : Stp (rNeU K (.str i) (.str j) H Q) (Q (.bl (!decide (i = j))) H) := ⟨k_neS⟩
instance i_eqB {i j : Bool} : Stp (rEqU K (.bl i) (.bl j) H Q) (Q (.bl (decide (i = j))) H) := ⟨k_eqB⟩
instance i_neB {i j : Bool} : Stp (rNeU K (.bl i) (.bl j) H Q) (Q (.bl (!decide (i = j))) H) := ⟨k_neB⟩
instance i_bm {T : String} {r : V → List V → Hp → VK → Prop} {to : TE} : Stp (tBM K T r to tr σ H Q) (to σ H fun x H1 => tyV K T x H1 ∧ tr σ H1 fun xs H2 => r x xs H2 Q) := ⟨k_bm⟩
instance i_bm0 {T : String} {r : V → List V → Hp → VK → Prop} {to : TE} : Stp (tBM0 K T r to σ H Q) (to σ H fun x H1 => tyV K T x H1 ∧ r x [] H1 Q) := ⟨k_bm0⟩
instance i_tyS {z : Str} {P : Prop} : Stp (tyV K "str" (.str z) H ∧ P) P := ⟨k_tyS⟩
instance i_gCons {tg : TG} {u : TGs} {v : V} {r : List V} {Q : L2.St → Hp → Prop} : Stp (gCons tg u (v :: r) σ H Q) (tg v σ H fun σ' H' => u r σ' H' Q) := ⟨k_gCons⟩
instance i_gNil {Q : L2.St → Hp → Prop} : Stp (gNil [] σ H Q) (Q σ H) := ⟨k_gNil⟩
instance i_par {i j : Nat} {ta : TA} : Stp (tPar i j ta D σ H) (ta σ H fun vs H1 => ∃ v w, vs = [v, w] ∧ D.nx ((σ.set i (some v)).set j (some w)) H1) := ⟨k_par⟩
instance i_chain {r r' : R2} : Stp (tChain r r' ta tb tc σ H Q) (ta σ H fun x H1 => tb σ H1 fun y H2 => r x y H2 fun z H3 => ∃ k, z = .bl k ∧ (if k = true then tc σ H3 fun w' H4 => r' y w' H4 Q else Q (.bl false) H3)) := ⟨k_chain⟩
instance i_nx2 {i j : Nat} {v w : V} {n : L2.St → Hp → Prop} {r : VK} {b c : L2.St → Hp → Prop} [q : StAt σ i (some v) σ'] [q2 : StAt σ' j (some w) σ''] : Stp (Ends.nx ⟨n, r, b, c⟩ ((σ.set i (some v)).set j (some w)) H) (n σ'' H) := ⟨fun k => by rw [q.h, q2.h]; exact k⟩
instance i_for {wi : TI} {tb : TS} : Stp (tFor wi g tb D σ H) (wi σ H fun J H1 => ∃ W : Nat → Nat → L2.St → Hp → Prop, (∃ m, W 0 m σ H1) ∧ ∀ i m σ H, W i m σ H → (J.stop i H ∧ D.nx σ H) ∨ (J.go i H ∧ ∃ N : L2.St → Hp → Prop, (∀ σ' H', N σ' H' → ∃ m', m' < m ∧ W (i + 1) m' σ' H') ∧
    ∀ x H', J.yld i H x H' → g x σ H' fun σ2 H2 => tb { D with nx := N, ct := N, bk := D.nx } σ2 H2)) := ⟨k_for⟩
instance i_iStr {R : It → Hp → Prop} : Stp (iStr te σ H R) (te σ H fun v H1 => ∃ x, v = .str x ∧ R (Its x) H1) := ⟨k_iStr⟩
instance i_iList {R : It → Hp → Prop} : Stp (iList K te σ H R) (te σ H fun x H1 => ∃ a, x = .ref a ∧ (∃ xs, SqL K H1 a xs) ∧ R (Itl K a) H1) := ⟨k_iList⟩
instance i_iTup {R : It → Hp → Prop} : Stp (iTup K te σ H R) (te σ H fun x H1 => ∃ a, x = .ref a ∧ (∃ xs, SqT K H1 a xs) ∧ R (Itt K a) H1) := ⟨k_iTup⟩
instance i_iRng1 {R : It → Hp → Prop} : Stp (iRng1 tr σ H R) (tr σ H fun vs H1 => ∃ j : Int, vs = [.int j] ∧ -(2 ^ 62) ≤ j ∧ j < 2 ^ 62 ∧ R (Itr 0 j.toNat) H1) := ⟨k_iRng1⟩
instance i_M1 {r : V → List V → Hp → VK → Prop} {to : TE} : Stp (tM1 r to te σ H Q) (to σ H fun x H1 => (∃ a, x = .str a) ∧ te σ H1 fun y H2 => r x [y] H2 Q) := ⟨k_M1⟩
instance i_isStr {s : Str} {P : Prop} : Stp ((∃ a, V.str s = .str a) ∧ P) P := ⟨k_isStr⟩
instance i_rev {R : It → Hp → Prop} : Stp (RT.iRevA K te σ H R) (te σ H fun v H1 => ∃ (a : Addr) (xs : List V), v = .ref a ∧ ((SqL K H1 a xs ∧ R (Itv K a xs.length) H1) ∨ (SqT K H1 a xs ∧ R (RT.ItvT K a xs.length) H1))) := ⟨k_rev⟩
instance i_revS : Stp (tRevS te σ H Q) (te σ H fun x H1 => ∃ z, x = .str z ∧ z.length ≤ sizeLine ∧ Q (.str ⟨z.cps.toList.reverse.toArray⟩) H1) := ⟨k_revS⟩
instance i_revL : Stp (tRevL K te σ H Q) (te σ H fun x H1 => ∃ a xs, x = .ref a ∧ SqL K H1 a xs ∧ ∀ p, H1 p = none → Q (.ref p) (upd H1 p (.lst xs.reverse))) := ⟨k_revL⟩
instance i_dget {td ty : TE} : Stp (tDGet td ty σ H Q) (td σ H fun x H1 => ty σ H1 fun y H2 => ∃ a v, x = .ref a ∧ DGet H2 a y (some v) ∧ Q v H2) := ⟨k_dget⟩
instance i_iT {A B : Prop} : Stp (if true = true then A else B) A := ⟨k_iT⟩
instance i_iF {A B : Prop} : Stp (if false = true then A else B) B := ⟨k_iF⟩
instance i_ntT {A B : Prop} : Stp (if (!true) = true then A else B) B := ⟨k_ntT⟩
instance i_ntF {A B : Prop} : Stp (if (!false) = true then A else B) A := ⟨k_ntF⟩
end
theorem start_cons {N : List Str} {x : Str} {v : V} {vs : List V} : L2.start (x :: N) (v :: vs) = some v :: L2.start N vs := by
  unfold L2.start
  rw [List.map_cons, List.length_cons, List.length_cons, Nat.add_sub_add_right, List.cons_append]
theorem start_nil {N : List Str} {x : Str} : L2.start (x :: N) [] = none :: L2.start N [] := rfl
theorem start_end : L2.start [] [] = [] := rfl
/-! ### comprehensions again, over slots that are told one by one -/
class Wp (σ : L2.St) (vs : List Nat) (σ' : outParam L2.St) : Prop where
  h : wipe σ vs = σ'
instance wp0 {σ : L2.St} : Wp σ [] σ := ⟨rfl⟩
instance wpS {σ σ1 σ2 : L2.St} {v : Nat} {vs : List Nat} [q : Wp σ vs σ1] [q2 : StAt σ1 v none σ2] : Wp σ (v :: vs) σ2 := ⟨by unfold wipe; rw [q.h, q2.h]⟩
theorem lcV {X : Cx} {e : Expr} {own : List (Str × Nat)} {vs : List Nat} {wi : TI} {g : TG} {tt : TT} {te : TE} (q : own.map (·.2) = vs) (h : PE X e (tLc wi g tt te (own.map (·.2)))) : PE X e (tLc wi g tt te vs) := q ▸ h
theorem setLcV {X : Cx} {st : Stmt} {own : List (Str × Nat)} {vs : List Nat} {wi : TI} {g g2 : TG} {tt : TT} {te : TE} (q : own.map (·.2) = vs) (h : PS X st (tAsg (tLc wi g tt te (own.map (·.2))) g2)) : PS X st (tAsg (tLc wi g tt te vs) g2) := q ▸ h
section
variable {σ σ0 : L2.St} {σ2 : V → L2.St} {H : Hp} {Q : VK} {K : PySem.W.Frag} {j : Nat} {t0 te : TE} {vs : List Nat}
theorem m_lcS [q0 : Wp σ vs σ0] [q2 : ∀ x, StAt σ0 j (some x) (σ2 x)] {l : List Nat} {F : Nat → V} (h0 : ∀ R : VK, (∀ H1, Ex H H1 → R (.str (T l)) H1) → t0 σ H R) (hz : l.length < 16777216)
    (he : ∀ (i c : Nat) H2, l[i]? = some c → Ex H H2 → ∀ Q : VK, (∀ H3, Ex H2 H3 → Q (F c) H3) → te (σ2 (.str (T [c]))) H2 Q)
    (k : ∀ p H2, H p = none → Ex H H2 → H2 p = some (.lst (l.map F)) → Q (.ref p) H2) (hw : ∀ x, wipe (σ2 x) vs = σ0 := by intro _; rfl) : tLc (iStr t0) (gName j) tYes te vs σ H Q :=
  k_lcS h0 (fun x => by rw [q0.h, (q2 x).h]; exact hw x) hz (fun i c H2 hc e Q k => by rw [q0.h, (q2 _).h]; exact he i c H2 hc e Q k) k
theorem m_lcL [q0 : Wp σ vs σ0] [q2 : ∀ x, StAt σ0 j (some x) (σ2 x)] {xs : List V} {F : V → V} (h0 : ∀ R : VK, (∀ a H1, Ex H H1 → SqL K H1 a xs → R (.ref a) H1) → t0 σ H R) (hz : xs.length < 16777216)
    (he : ∀ (i : Nat) (x : V) H2, xs[i]? = some x → Ex H H2 → ∀ Q : VK, (∀ H3, Ex H2 H3 → Q (F x) H3) → te (σ2 x) H2 Q)
    (k : ∀ p H2, H p = none → Ex H H2 → H2 p = some (.lst (xs.map F)) → Q (.ref p) H2) (hw : ∀ x, wipe (σ2 x) vs = σ0 := by intro _; rfl) : tLc (iList K t0) (gName j) tYes te vs σ H Q :=
  k_lcL h0 (fun x => by rw [q0.h, (q2 x).h]; exact hw x) hz (fun i x H2 hc e Q k => by rw [q0.h, (q2 _).h]; exact he i x H2 hc e Q k) k
end
end U

set_option Elab.async false
set_option linter.all false
set_option maxRecDepth 100000
set_option maxHeartbeats 4000000
namespace U
open PySem PySem.Spec PyProof.Rows L2
/-! ### moves, as two truths: is the letter an f -/
abbrev Mv := Bool × Bool
def chM (b : Bool) : Nat := if b then 102 else 98
def mt (m : Mv) : Str := T [chM m.1, chM m.2]
def inv (m : Mv) : Mv := (!m.1, !m.2)
theorem inv_inv (m : Mv) : inv (inv m) = m := by obtain ⟨a, b⟩ := m; cases a <;> cases b <;> rfl
theorem chM_inj {a b : Bool} : chM a = chM b → a = b := by cases a <;> cases b <;> intro h <;> first | rfl | cases h
theorem mt_inj {m n : Mv} : mt m = mt n ↔ m = n := ⟨fun h => by
  have h := T_inj.mp h
  obtain ⟨a, b⟩ := m
  obtain ⟨c, d⟩ := n
  injection h with h1 h2
  injection h2 with h2 _
  rw [show a = c from chM_inj h1, show b = d from chM_inj h2], fun h => by rw [h]⟩
abbrev vM (m : Mv) : V := .str (mt m)
abbrev mvs (l : List Mv) : List V := l.map vM
def FM (f : Mv → V) : V → V
  | .str z => if z = mt (true, true) then f (true, true) else if z = mt (true, false) then f (true, false) else if z = mt (false, true) then f (false, true) else f (false, false)
  | _ => .non
theorem FM_at (f : Mv → V) (m : Mv) : FM f (vM m) = f m := by
  obtain ⟨a, b⟩ := m
  cases a <;> cases b <;> (unfold FM vM; simp [mt_inj])
theorem FM_map (f : Mv → V) (l : List Mv) : (mvs l).map (FM f) = l.map f := by
  rw [List.map_map]
  exact List.map_congr_left fun m _ => FM_at f m
theorem mvs_at {l : List Mv} {i : Nat} {x : V} (h : (mvs l)[i]? = some x) : ∃ m, l[i]? = some m ∧ x = vM m := by
  rw [List.getElem?_map] at h
  cases e : l[i]? with
  | none => rw [e] at h; cases h
  | some m => rw [e] at h; exact ⟨m, rfl, (Option.some.inj h).symm⟩
/-! ### thinning -/
def cr (m : Mv) (l : List Mv) : List Mv := match l with
  | [] => [m]
  | x :: t => if x = inv m then t else m :: x :: t
def nf (w : List Mv) : List Mv := w.foldr cr []
def Rdu (l : List Mv) : Prop := ∀ u v a, l ≠ u ++ a :: inv a :: v
theorem Rdu.tail {m : Mv} {l : List Mv} (h : Rdu (m :: l)) : Rdu l := fun u v a e => h (m :: u) v a (by rw [e]; rfl)
theorem Rdu.rev {l : List Mv} (h : Rdu l) : Rdu l.reverse := fun u v a e => h v.reverse u.reverse (inv a) (by
  have e := congrArg List.reverse e
  rw [List.reverse_reverse] at e
  rw [e, inv_inv]
  simp)
theorem cr_rdu {m : Mv} : ∀ {l : List Mv}, Rdu l → Rdu (cr m l)
  | [], _ => fun u v a e => by
    have := congrArg List.length e
    simp [cr] at this
    omega
  | x :: t, h => by
    unfold cr
    by_cases e : x = inv m
    · simp only [e, if_true]
      exact h.tail
    · simp only [e, if_false]
      intro u v a z
      cases u with
      | nil =>
        injection z with z1 z2
        injection z2 with z2 _
        exact e (by rw [z2, z1])
      | cons y u =>
        injection z with z1 z2
        exact h u v a z2
theorem nf_rdu : ∀ w, Rdu (nf w)
  | [] => fun u v a e => by simp [nf] at e
  | m :: w => cr_rdu (nf_rdu w)
theorem cr_inv {m : Mv} : ∀ {l : List Mv}, Rdu l → cr (inv m) (cr m l) = l
  | [], _ => by simp [cr, inv_inv]
  | x :: t, h => by
    by_cases e : x = inv m
    · subst e
      simp only [cr, if_true]
      cases t with
      | nil => rfl
      | cons y t =>
        have : y ≠ inv (inv m) := fun z => h [] t (inv m) (by rw [z]; rfl)
        simp only [cr, this, if_false]
    · simp only [cr, e, if_false, inv_inv, if_true]
theorem nf_id : ∀ {w : List Mv}, Rdu w → nf w = w
  | [], _ => rfl
  | m :: w, h => by
    show cr m (nf w) = _
    rw [nf_id h.tail]
    cases w with
    | nil => rfl
    | cons x t =>
      have : x ≠ inv m := fun z => h [] t m (by rw [z]; rfl)
      simp only [cr, this, if_false]
theorem nf_app (u v : List Mv) : nf (u ++ v) = u.foldr cr (nf v) := by unfold nf; rw [List.foldr_append]
theorem nf_two (u v : List Mv) (m : Mv) : nf (u ++ inv m :: m :: v) = nf (u ++ v) := by
  rw [nf_app, nf_app]
  show u.foldr cr (cr (inv m) (cr m (nf v))) = _
  rw [cr_inv (nf_rdu v)]
theorem nf_back : ∀ (w v : List Mv), nf ((nf w).reverse ++ v) = nf (w.reverse ++ v)
  | [], v => rfl
  | m :: w, v => by
    have h : nf ((cr m (nf w)).reverse ++ v) = nf ((nf w).reverse ++ m :: v) := by
      cases hl : nf w with
      | nil => rfl
      | cons x t =>
        by_cases e : x = inv m
        · subst e
          simp only [cr, if_true]
          rw [List.reverse_cons, List.append_assoc]
          exact (nf_two _ _ _).symm
        · simp only [cr, e, if_false]
          rw [List.reverse_cons, List.append_assoc]
          rfl
    show nf ((cr m (nf w)).reverse ++ v) = _
    rw [h, nf_back w, List.reverse_cons, List.append_assoc]
    rfl
/-- one more move on the stack -/
def push (st : List Mv) (m : Mv) : List Mv := if st.getLast? = some (inv m) then st.dropLast else st ++ [m]
def red (w : List Mv) : List Mv := w.foldl push []
theorem push_rev (m : Mv) (st : List Mv) : push st m = (cr m st.reverse).reverse := by
  unfold push
  rcases List.eq_nil_or_concat st with e | ⟨r, x, e⟩
  · subst e; rfl
  · rw [List.concat_eq_append] at e
    subst e
    rw [List.getLast?_concat, List.dropLast_concat, List.reverse_append]
    show _ = (cr m (x :: r.reverse)).reverse
    by_cases h : x = inv m
    · simp [cr, h]
    · simp [cr, h]
theorem red_nf (w : List Mv) : red w = (nf w.reverse).reverse := by
  unfold red nf
  rw [List.foldr_reverse]
  suffices h : ∀ (w s : List Mv), w.foldl push s = (w.foldl (fun y x => cr x y) s.reverse).reverse by
    have := h w []
    simpa using this
  intro w
  induction w with
  | nil => intro s; simp
  | cons m w ih =>
    intro s
    show w.foldl push (push s m) = _
    rw [ih, push_rev, List.reverse_reverse]
    rfl
theorem red_rdu (w : List Mv) : Rdu (red w) := by rw [red_nf]; exact (nf_rdu _).rev
theorem red_id {w : List Mv} (h : Rdu w) : red w = w := by rw [red_nf, nf_id h.rev, List.reverse_reverse]
theorem red_red (w : List Mv) : red (red w) = red w := red_id (red_rdu w)
theorem red_flip (w : List Mv) : (red w.reverse).reverse = red w := by
  have h := nf_back w.reverse []
  rw [List.append_nil, List.append_nil, List.reverse_reverse] at h
  rw [nf_id (nf_rdu _).rev] at h
  rw [red_nf w, h, red_nf, List.reverse_reverse, List.reverse_reverse]
theorem nf_undo : ∀ (w v : List Mv), nf (w.map inv ++ (w.reverse ++ v)) = nf v
  | [], v => rfl
  | m :: w, v => by
    rw [List.reverse_cons, List.append_assoc]
    show cr (inv m) (nf (w.map inv ++ (w.reverse ++ (m :: v)))) = _
    rw [nf_undo w]
    exact cr_inv (nf_rdu v)
theorem red_undo (w : List Mv) : red (w ++ w.reverse.map inv) = [] := by
  rw [red_nf, List.reverse_append]
  have h := nf_undo w []
  rw [List.append_nil] at h
  rw [← List.map_reverse, List.reverse_reverse, h]
  rfl
theorem rdu_at {l : List Mv} (h : Rdu l) {i : Nat} {a b : Mv} (ha : l[i]? = some a) (hb : l[i + 1]? = some b) : b ≠ inv a := fun e => h (l.take i) (l.drop (i + 2)) a (by
  obtain ⟨h1, e1⟩ := List.getElem?_eq_some_iff.mp ha
  obtain ⟨h2, e2⟩ := List.getElem?_eq_some_iff.mp hb
  rw [← e, ← e1, ← e2]
  conv => lhs; rw [← List.take_append_drop i l]
  rw [List.drop_eq_getElem_cons h1, List.drop_eq_getElem_cons h2])
theorem red_take {w : List Mv} {i : Nat} {m : Mv} (h : w[i]? = some m) : red (w.take (i + 1)) = push (red (w.take i)) m := by
  unfold red
  rw [List.take_add_one, h, List.foldl_append]
  rfl
theorem push_len (st : List Mv) (m : Mv) : (push st m).length ≤ st.length + 1 := by
  unfold push
  by_cases h : st.getLast? = some (inv m)
  · rw [if_pos h, List.length_dropLast]; omega
  · rw [if_neg h, List.length_append]; simp
theorem red_len (w : List Mv) : (red w).length ≤ w.length := by
  suffices h : ∀ i, (red (w.take i)).length ≤ i ∧ (red (w.take i)).length ≤ w.length by
    have := (h w.length).2
    rwa [List.take_length] at this
  intro i
  induction i with
  | zero => simp [red]
  | succ i ih =>
    cases e : w[i]? with
    | none => rw [List.take_add_one, e]; simpa using ⟨by have := ih.1; omega, ih.2⟩
    | some m =>
      rw [red_take e]
      have := push_len (red (w.take i)) m
      have := (List.getElem?_eq_some_iff.mp e).1
      omega
/-! ### lists of moves as data -/
def dM (ns : List Mv) : PyData := .list (ns.map fun m => PyData.str (mt m))
theorem dpAllMvs {K : PySem.W.Frag} {H : Hp} : ∀ ns : List Mv, DpAll K H (mvs ns) (ns.map fun m => PyData.str (mt m))
  | [] => .nil
  | n :: ns => .cons (.str _) (dpAllMvs ns)
theorem dpMvs {K : PySem.W.Frag} {H : Hp} {p : Addr} {ns : List Mv} (h : SqL K H p (mvs ns)) : Dp K H (.ref p) (dM ns) := .lst h (dpAllMvs ns)
theorem canMvs : ∀ ns : List Mv, PyData.canLayAll0 (ns.map fun m => PyData.str (mt m)) = true
  | [] => by simp [PyData.canLayAll0]
  | n :: r => by
    have h : PyData.strOk (mt n) = true := by
      obtain ⟨a, b⟩ := n
      cases a <;> cases b <;> decide +kernel
    simp [PyData.canLayAll0, PyData.canLay0, canMvs r, h]
theorem depMvs : ∀ ns : List Mv, PyData.depthAll (ns.map fun m => PyData.str (mt m)) = 0
  | [] => by simp [PyData.depthAll]
  | n :: r => by simp [PyData.depthAll, PyData.depth, depMvs r]
theorem shMvs (ns : List Mv) : SeqAt.shaped (dM ns) = true := by
  unfold SeqAt.shaped dM
  simp [PyData.canLay0, PyData.depth, canMvs, depMvs]
theorem eqvAllMvs : ∀ as bs : List Mv, PyData.eqvAll (as.map fun m => PyData.str (mt m)) (bs.map fun m => PyData.str (mt m)) = decide (as = bs)
  | [], [] => by simp [PyData.eqvAll]
  | [], _ :: _ => by simp [PyData.eqvAll]
  | _ :: _, [] => by simp [PyData.eqvAll]
  | a :: r, b :: t => by
    simp only [List.map_cons, PyData.eqvAll, PyData.eqv, eqvAllMvs r t, List.cons.injEq]
    by_cases h : a = b
    · simp [h]
    · have h' : ¬ mt a = mt b := fun z => h (mt_inj.mp z)
      simp [h, h']
theorem eqvMvs (as bs : List Mv) : PyData.eqv (dM as) (dM bs) = decide (as = bs) := by
  unfold dM
  simp only [PyData.eqv]
  exact eqvAllMvs as bs
theorem k_eqMvs {K : PySem.W.Frag} {H : Hp} {Q : VK} {p q : Addr} {as bs : List Mv} (h1 : SqL K H p (mvs as)) (h2 : SqL K H q (mvs bs)) (k : Q (.bl (decide (as = bs))) H) : rEqU K (.ref p) (.ref q) H Q :=
  k_eqD (dpMvs h1) (dpMvs h2) (shMvs _) (shMvs _) (by rw [eqvMvs]; exact k)
theorem k_neMvs {K : PySem.W.Frag} {H : Hp} {Q : VK} {p q : Addr} {as bs : List Mv} (h1 : SqL K H p (mvs as)) (h2 : SqL K H q (mvs bs)) (k : Q (.bl (!decide (as = bs))) H) : rNeU K (.ref p) (.ref q) H Q :=
  k_neD (dpMvs h1) (dpMvs h2) (shMvs _) (shMvs _) (by rw [eqvMvs]; exact k)
/-! ### a comprehension over a range -/
theorem m_lcR {σ σ0 : L2.St} {σ2 : V → L2.St} {H : Hp} {Q : VK} {j : Nat} {tr : TA} {te : TE} {vs : List Nat} [q0 : Wp σ vs σ0] [q2 : ∀ x, StAt σ0 j (some x) (σ2 x)] {n : Nat} {F : Nat → V}
    (h0 : ∀ R : List V → Hp → Prop, (∀ (z : Int) H1, z.toNat = n → -(2 ^ 62) ≤ z → z < 2 ^ 62 → Ex H H1 → R [.int z] H1) → tr σ H R) (hz : n < 16777216)
    (he : ∀ (i : Nat) H2, i < n → Ex H H2 → ∀ Q : VK, (∀ H3, Ex H2 H3 → Q (F i) H3) → te (σ2 (.int i)) H2 Q)
    (k : ∀ p H2, H p = none → Ex H H2 → H2 p = some (.lst ((List.range n).map F)) → Q (.ref p) H2) (hw : ∀ x, wipe (σ2 x) vs = σ0 := by intro _; rfl) : tLc (iRng1 tr) (gName j) tYes te vs σ H Q :=
  h0 _ fun z H1 ez hz1 hz2 e1 => ⟨z, rfl, hz1, hz2, fun D hD => by
    rw [ez]
    refine lc_range (n := n) (fun i H => Ex H1 H ∧ H D = some (.lst ((List.range i).map F))) ⟨Ex.new hD, upd_same⟩ (fun i H3 hi p => ?_) (fun H3 p => ?_)
    · show wipe ((wipe σ vs).set j (some (.int (0 + i)))) vs = wipe σ vs ∧ te ((wipe σ vs).set j (some (.int (0 + i)))) H3 _
      rw [q0.h, (q2 _).h, Int.zero_add]
      refine ⟨hw _, ?_⟩
      refine he i H3 hi (e1.trans p.1) _ fun H4 e => ?_
      refine ⟨_, e _ _ p.2, ?_, Ex.mut (p.1.trans e) hD, ?_⟩
      · rw [List.length_map, List.length_range]
        exact line_lt (by omega)
      · rw [upd_same, List.range_succ, List.map_append]
        rfl
    · exact k D H3 (e1.free hD) (e1.trans p.1) p.2⟩
/-! ### steps on the stack -/
theorem k_pop {l : Addr} {xs : List V} {y : V} {H : Hp} {Q : VK} (h : H l = some (.lst (xs ++ [y]))) (k : Q y (upd H l (.lst xs))) : rPop (.ref l) [] H Q := ⟨l, _, y, rfl, rfl, h, by simp, by rw [List.dropLast_concat]; exact k⟩
theorem k_slL {K : PySem.W.Frag} {H : Hp} {Q : VK} {a : Addr} {xs : List V} {lo hi : Option Int} (h : SqL K H a xs) (k : ∀ p, H p = none → Q (.ref p) (upd H p (.lst (cutV xs lo hi)))) : rSlL K (.ref a) lo hi H Q := ⟨a, xs, rfl, h, k⟩
theorem cut_last (xs : List V) (y : V) : cutV (xs ++ [y]) none (some (-1)) = xs := by
  unfold cutV
  have h0 : HT.sIx (xs ++ [y]).length 0 none = 0 := by simp [HT.sIx]
  have h1 : HT.sIx (xs ++ [y]).length (xs ++ [y]).length (some (-1)) = xs.length := by simp [HT.sIx]; omega
  rw [h0, h1]
  simp
theorem mvs_snoc (l : List Mv) (m : Mv) : mvs (l ++ [m]) = mvs l ++ [vM m] := by unfold mvs; rw [List.map_append]; rfl
theorem mvs_len (l : List Mv) : (mvs l).length = l.length := List.length_map _
theorem k_tySqL {K : PySem.W.Frag} {H : Hp} {a : Addr} {xs : List V} (h : SqL K H a xs) : TyX K H (.ref a) (.type "list") := by
  rcases h with (h | ⟨o, h⟩) | ⟨o, its, n, hk, hc, _⟩
  · exact .base (.lst h)
  · exact .base (.frz h)
  · exact .kList hk hc
end U
namespace U
open PySem PySem.Spec PyProof.Rows L2
/-- a tuple of the module -/
theorem sqt_const {K : PySem.W.Frag} {aM : Addr} {d : Option Addr} {its : Array Value} {n : Nat} {sl : Array (Option Value)} {xs : List V} (l : K.lookup aM = some ⟨.type "tuple", d, .seq its n, sl⟩) (hz : its.size ≤ sizeLine) (r : Vals xs its.toList) : ∀ H, SqT K H aM xs :=
  fun H => .inr ⟨_, its, n, l, rfl, rfl, hz, r⟩
end U

set_option Elab.async false
set_option linter.all false
set_option maxRecDepth 100000
set_option maxHeartbeats 4000000
namespace U
open PySem PySem.Spec PyProof.Rows L2
/-! ### a display of one pair, its key a tuple -/
def tDispT (tk tv : TE) : TE := fun σ H Q => ∀ p, H p = none → tk σ (upd H p (.dT [])) fun x H1 => tv σ H1 fun y H2 => ∃ (b : Addr) (k : List Key), x = .ref b ∧ H2 p = some (.dT []) ∧ H2 b = some (.tup (k.map kV)) ∧ Q (.ref p) (upd H2 p (.dT [(k, y)]))
theorem pe_dispT {X : Cx} {k v : Expr} {pos : Pos} {tk tv : TE} (hk : PE X k tk) (hv : PE X v tv) (hu : X.A.units < cLine) : PE X (.Dict [some k] [v] pos) (tDispT tk tv) := by
  refine ⟨fun pins s σ H Q I q => ?_⟩
  have hn := I.hok.fresh (Nat.le_refl s.heap.objs.size)
  have I1 := I.laid (a := s.heap.objs.size) (o := .dT []) (h' := s.heap.push { cls := .type "dict", data := .dict #[] }) (t' := s.toks) (fun _ _ q => Heap.get?_push_of_some _ q) (Nat.le_refl _) (dt_empty s.heap I.big)
  rw [arm_eval_Dict, zip_pairTrees [some k] [v] X.env pos rfl rfl, dictDisplay_pairs (pairTrees [some k] [v] X.env pos) (by simp [pairTrees]) (by simp [pairTrees])]
  refine wpAny_bind (wpAny_standAt (wpAny_bind (wpAny_subDict_any (by simp [pairTrees]) ?_)))
  refine thn (pairTrees_cons_walk (Q := fun vs s1 => ∃ H2 b kk y u1 u2, Inv X pins σ H2 s1 ∧ vs = [(u1, u2)] ∧ u1 = .ref b ∧ RelV y u2 ∧ H2 s.heap.objs.size = some (.dT []) ∧ H2 b = some (.tup (kk.map kV)) ∧ Q (.ref s.heap.objs.size) (upd H2 s.heap.objs.size (.dT [(kk, y)]))) (thn (hk.run pins _ σ _ _ I1 (q _ hn)) fun u s1 ⟨x, H1, I2, rx, q1⟩ => thn (hv.run pins s1 σ H1 _ I2 q1) fun u2 s2 ⟨y, H2, I3, ry, q2⟩ => pairTrees_nil_walk ?_)) fun vs s1 h => ?_
  · obtain ⟨b, kk, rfl, e1, e2, q3⟩ := q2
    exact ⟨H2, b, kk, y, u, u2, I3, rfl, rx, ry, e1, e2, q3⟩
  · obtain ⟨H2, b, kk, y, u1, u2, I3, rfl, rfl, ry, e1, e2, q3⟩ := h
    unfold storeAll
    rw [List.forIn_cons]
    obtain ⟨z, hd, xs, rel, dd⟩ := dt_of I3.hok e1
    cases rel
    refine wpAny_bind (wpAny_bind (wpAny_dictSet_heap (hsz := Nat.zero_le _) hu (key_of I3.hok e2) dd fun h' dd' hs => wpAny_pure ?_))
    dsimp only
    rw [List.forIn_nil]
    refine wpAny_pure (wpAny_pure ?_)
    obtain ⟨q, es, ep, hq, h2, h3, h4, _, h5⟩ := dd'
    have rel : KT H2 [] [] := .nil
    refine ⟨.ref s.heap.objs.size, _, d_write (ob := .dT [(kk, y)]) I3 (by rw [e1]; exact True.intro) hs ⟨q, hq⟩ ⟨?_, hd, _, (rel.put kk e2 ry).keeps fun c ys ec => ?_, q, es, ep, hq, h2, h3, h4, h5⟩, rfl, q3⟩
    · rw [sizeLine_eq]; show 1 ≤ 16777216; decide
    · rw [upd_ne (ne_of ec e1 (fun z => nomatch z))]
      exact ec
end U

set_option Elab.async false
set_option linter.all false
set_option maxRecDepth 100000
set_option maxHeartbeats 4000000
namespace U
open PySem PySem.Spec PyProof.Rows L2
/-! ### two climbs, their places, the moves between them -/
abbrev Pl := Nat × Nat
def nb (A : List Int) (i : Nat) (b : Bool) : Option Int := if b then A[i + 1]? else if i = 0 then none else A[i - 1]?
def sh (i : Nat) (b : Bool) : Nat := if b then i + 1 else i - 1
def nextP (A B : List Int) (p : Pl) (m : Mv) : Option Pl := if nb A p.1 m.1 ≠ none ∧ nb A p.1 m.1 = nb B p.2 m.2 then some (sh p.1 m.1, sh p.2 m.2) else none
structure Vd (A B : List Int) (p : Pl) : Prop where
  one : p.1 < A.length
  two : p.2 < B.length
  same : A[p.1]? = B[p.2]?
theorem nb_sh {A : List Int} {i : Nat} {b : Bool} {a : Int} (h : nb A i b = some a) : A[sh i b]? = some a := by
  unfold nb at h
  unfold sh
  cases b
  · rw [if_neg Bool.false_ne_true] at h ⊢
    by_cases e : i = 0
    · rw [if_pos e] at h; cases h
    · rw [if_neg e] at h; exact h
  · rw [if_pos rfl] at h ⊢; exact h
theorem nextP_iff {A B : List Int} {p q : Pl} {m : Mv} : nextP A B p m = some q ↔ ∃ a, nb A p.1 m.1 = some a ∧ nb B p.2 m.2 = some a ∧ q = (sh p.1 m.1, sh p.2 m.2) := by
  unfold nextP
  constructor
  · intro h
    by_cases c : nb A p.1 m.1 ≠ none ∧ nb A p.1 m.1 = nb B p.2 m.2
    · rw [if_pos c] at h
      obtain ⟨a, ha⟩ := Option.ne_none_iff_exists'.mp c.1
      exact ⟨a, ha, by rw [← c.2, ha], (Option.some.inj h).symm⟩
    · rw [if_neg c] at h; cases h
  · rintro ⟨a, h1, h2, rfl⟩
    rw [if_pos ⟨by rw [h1]; simp, by rw [h1, h2]⟩]
theorem nextP_vd {A B : List Int} {p q : Pl} {m : Mv} (h : nextP A B p m = some q) : Vd A B q := by
  obtain ⟨a, h1, h2, rfl⟩ := nextP_iff.mp h
  have g1 := nb_sh h1
  have g2 := nb_sh h2
  exact ⟨(List.getElem?_eq_some_iff.mp g1).1, (List.getElem?_eq_some_iff.mp g2).1, by show A[sh _ _]? = _; rw [g1, g2]⟩
theorem sh_back {A : List Int} {i : Nat} {b : Bool} {a : Int} (h : nb A i b = some a) : sh (sh i b) (!b) = i ∧ nb A (sh i b) (!b) = A[i]? := by
  unfold nb at h
  unfold sh nb
  cases b
  · rw [if_neg Bool.false_ne_true] at h
    by_cases e : i = 0
    · rw [if_pos e] at h; cases h
    · simp only [Bool.not_false, if_true, Bool.false_eq_true, if_false]
      rw [show i - 1 + 1 = i by omega]
      exact ⟨rfl, rfl⟩
  · simp
theorem nextP_back {A B : List Int} {p q : Pl} {m : Mv} (v : Vd A B p) (h : nextP A B p m = some q) : nextP A B q (inv m) = some p := by
  obtain ⟨a, h1, h2, rfl⟩ := nextP_iff.mp h
  obtain ⟨s1, n1⟩ := sh_back h1
  obtain ⟨s2, n2⟩ := sh_back h2
  refine nextP_iff.mpr ⟨A[p.1]'v.one, ?_, ?_, ?_⟩
  · show nb A (sh _ _) (!m.1) = _
    rw [n1, List.getElem?_eq_getElem v.one]
  · show nb B (sh _ _) (!m.2) = _
    rw [n2, ← v.same, List.getElem?_eq_getElem v.one]
  · show p = (sh (sh _ _) (!m.1), sh (sh _ _) (!m.2))
    rw [s1, s2]
theorem sh_ne {A : List Int} {i : Nat} {b : Bool} {a : Int} (h : nb A i b = some a) : sh i b ≠ i := by
  unfold nb at h
  unfold sh
  cases b
  · rw [if_neg Bool.false_ne_true] at h ⊢
    by_cases e : i = 0
    · rw [if_pos e] at h; cases h
    · omega
  · simp
theorem nextP_ne {A B : List Int} {p q : Pl} {m : Mv} (h : nextP A B p m = some q) : q ≠ p := by
  obtain ⟨a, h1, _, rfl⟩ := nextP_iff.mp h
  intro e
  exact sh_ne h1 (congrArg Prod.fst e)
/-! ### an even number -/
theorem even_of_inv {α : Type} [DecidableEq α] (σ : α → α) : ∀ (n : Nat) (l : List α), l.length ≤ n → l.Nodup → (∀ x ∈ l, σ x ∈ l ∧ σ (σ x) = x ∧ σ x ≠ x) → l.length % 2 = 0
  | 0, l, hn, _, _ => by
    have : l.length = 0 := by omega
    rw [this]
  | n + 1, [], _, _, _ => rfl
  | n + 1, x :: t, hn, hd, hs => by
    obtain ⟨h1, h2, h3⟩ := hs x List.mem_cons_self
    have hx := List.nodup_cons.mp hd
    have hm : σ x ∈ t := by
      rcases List.mem_cons.mp h1 with e | e
      · exact (h3 e).elim
      · exact e
    have hlen := List.length_erase_of_mem hm
    have hpos : 0 < t.length := List.length_pos_of_mem hm
    have ih := even_of_inv σ n (t.erase (σ x)) (by rw [hlen]; rw [List.length_cons] at hn; omega) (hx.2.erase _) (fun y hy => by
      have hy' := (List.Nodup.mem_erase_iff hx.2).mp hy
      obtain ⟨g1, g2, g3⟩ := hs y (List.mem_cons_of_mem _ hy'.2)
      refine ⟨(List.Nodup.mem_erase_iff hx.2).mpr ⟨fun e => ?_, ?_⟩, g2, g3⟩
      · have : y = x := by rw [← g2, e, h2]
        exact hx.1 (this ▸ hy'.2)
      · rcases List.mem_cons.mp g1 with e | e
        · exact (hy'.1 (by rw [← e, g2])).elim
        · exact e)
    rw [hlen] at ih
    rw [List.length_cons]
    omega
/-! ### the moves from a place -/
def allM : List Mv := [(true, true), (true, false), (false, true), (false, false)]
theorem allM_mem (m : Mv) : m ∈ allM := by obtain ⟨a, b⟩ := m; cases a <;> cases b <;> decide
theorem allM_nodup : allM.Nodup := by decide
def nexts (A B : List Int) (p : Pl) : List (Mv × Pl) := allM.filterMap fun m => (nextP A B p m).map fun q => (m, q)
def outM (A B : List Int) (p : Pl) : List Mv := allM.filter fun m => (nextP A B p m).isSome
def darts (A B : List Int) (L : List Pl) : List (Pl × Mv) := L.flatMap fun p => (outM A B p).map fun m => (p, m)
def flipD (A B : List Int) (d : Pl × Mv) : Pl × Mv := ((nextP A B d.1 d.2).getD d.1, inv d.2)
theorem mem_darts {A B : List Int} {L : List Pl} {p : Pl} {m : Mv} : (p, m) ∈ darts A B L ↔ p ∈ L ∧ ∃ q, nextP A B p m = some q := by
  unfold darts outM
  rw [List.mem_flatMap]
  constructor
  · rintro ⟨p', hp, h⟩
    obtain ⟨m', hm, e⟩ := List.mem_map.mp h
    injection e with e1 e2
    subst e1 e2
    exact ⟨hp, Option.isSome_iff_exists.mp (List.mem_filter.mp hm).2⟩
  · rintro ⟨hp, q, hq⟩
    exact ⟨p, hp, List.mem_map.mpr ⟨m, List.mem_filter.mpr ⟨allM_mem m, by rw [hq]; rfl⟩, rfl⟩⟩
theorem darts_nodup {A B : List Int} : ∀ {L : List Pl}, L.Nodup → (darts A B L).Nodup
  | [], _ => List.nodup_nil
  | p :: L, h => by
    have hp := List.nodup_cons.mp h
    show ((outM A B p).map (fun m => (p, m)) ++ darts A B L).Nodup
    refine List.nodup_append.mpr ⟨?_, darts_nodup hp.2, ?_⟩
    · exact List.Pairwise.map _ (fun a b hab e => hab (congrArg Prod.snd e)) (allM_nodup.filter _)
    · rintro ⟨a, m⟩ ha ⟨b, m'⟩ hb e
      obtain ⟨m2, _, e2⟩ := List.mem_map.mp ha
      injection e2 with e2 e3
      injection e with e4 e5
      have := (mem_darts.mp hb).1
      rw [← e4, ← e2] at this
      exact hp.1 this
theorem darts_even {A B : List Int} {L : List Pl} (hd : L.Nodup) (hv : ∀ p ∈ L, Vd A B p) (hc : ∀ p ∈ L, ∀ m q, nextP A B p m = some q → q ∈ L) : (darts A B L).length % 2 = 0 := by
  refine even_of_inv (flipD A B) _ _ (Nat.le_refl _) (darts_nodup hd) ?_
  rintro ⟨p, m⟩ h
  obtain ⟨hp, q, hq⟩ := mem_darts.mp h
  have hb := nextP_back (hv p hp) hq
  unfold flipD
  simp only [hq, Option.getD_some]
  refine ⟨mem_darts.mpr ⟨hc p hp m q hq, p, hb⟩, ?_, ?_⟩
  · rw [hb, inv_inv]; rfl
  · intro e
    injection e with e1 e2
    exact nextP_ne hq e1
/-- heights of a climb: from 0 to M, between them, steps of one -/
structure Cl (A : List Int) (M : Int) : Prop where
  pos : 0 < A.length
  foot : A[0]? = some 0
  top : A[A.length - 1]? = some M
  low : ∀ (i : Nat) (a : Int), A[i]? = some a → 0 ≤ a
  high : ∀ (i : Nat) (a : Int), A[i]? = some a → a ≤ M
  step : ∀ (i : Nat) (a b : Int), A[i]? = some a → A[i + 1]? = some b → b = a + 1 ∨ b = a - 1
theorem Cl.nbr {A : List Int} {M : Int} (c : Cl A M) {i : Nat} {h : Int} (hi : A[i]? = some h) (b : Bool) {a : Int} (e : nb A i b = some a) : (a = h + 1 ∨ a = h - 1) ∧ 0 ≤ a ∧ a ≤ M := by
  have g := nb_sh e
  refine ⟨?_, c.low _ _ g, c.high _ _ g⟩
  unfold sh at g
  cases b
  · unfold nb at e
    rw [if_neg Bool.false_ne_true] at e g
    by_cases z : i = 0
    · rw [if_pos z] at e; cases e
    · have := c.step (i - 1) a h g (by rw [show i - 1 + 1 = i by omega]; exact hi)
      omega
  · rw [if_pos rfl] at g
    exact c.step i h a hi g
theorem nb_f {A : List Int} {i : Nat} (h : i < A.length) : nb A i true = none ↔ i = A.length - 1 := by
  unfold nb
  rw [if_pos rfl, List.getElem?_eq_none_iff]
  omega
theorem nb_b {A : List Int} {i : Nat} (h : i < A.length) : nb A i false = none ↔ i = 0 := by
  unfold nb
  rw [if_neg Bool.false_ne_true]
  by_cases e : i = 0
  · simp [e]
  · rw [if_neg e, List.getElem?_eq_none_iff]
    omega
theorem outM_len (A B : List Int) (p : Pl) : (outM A B p).length = (if nb A p.1 true ≠ none ∧ nb A p.1 true = nb B p.2 true then 1 else 0) + (if nb A p.1 true ≠ none ∧ nb A p.1 true = nb B p.2 false then 1 else 0)
    + (if nb A p.1 false ≠ none ∧ nb A p.1 false = nb B p.2 true then 1 else 0) + (if nb A p.1 false ≠ none ∧ nb A p.1 false = nb B p.2 false then 1 else 0) := by
  have hs : ∀ m : Mv, (nextP A B p m).isSome = decide (nb A p.1 m.1 ≠ none ∧ nb A p.1 m.1 = nb B p.2 m.2) := fun m => by
    unfold nextP
    by_cases c : nb A p.1 m.1 ≠ none ∧ nb A p.1 m.1 = nb B p.2 m.2
    · rw [if_pos c, decide_eq_true c]; rfl
    · rw [if_neg c, decide_eq_false c]; rfl
  unfold outM allM
  simp only [List.filter_cons, List.filter_nil, hs, decide_eq_true_eq]
  split <;> split <;> split <;> split <;> simp
/-- the moves from a place of two climbs: even in number but at both feet and both tops -/
theorem outM_odd {A B : List Int} {M : Int} (ca : Cl A M) (cb : Cl B M) (hM : 0 < M) {p : Pl} (v : Vd A B p) :
    (outM A B p).length % 2 = if p = (0, 0) ∨ p = (A.length - 1, B.length - 1) then 1 else 0 := by
  obtain ⟨i, j⟩ := p
  obtain ⟨h1, h2, hs⟩ := v
  have h1 : i < A.length := h1
  have h2 : j < B.length := h2
  have hs : A[i]? = B[j]? := hs
  obtain ⟨h, hi⟩ : ∃ h, A[i]? = some h := ⟨_, List.getElem?_eq_getElem h1⟩
  have hj : B[j]? = some h := by rw [← hs, hi]
  have k1 := fun b a e => ca.nbr hi b (a := a) e
  have k2 := fun b a e => cb.nbr hj b (a := a) e
  have f1 := nb_f h1
  have f2 := nb_f h2
  have b1 := nb_b h1
  have b2 := nb_b h2
  rw [outM_len]
  simp only [Prod.mk.injEq]
  have l0 : i = 0 → h = 0 := fun e => by subst e; rw [ca.foot] at hi; exact (Option.some.inj hi).symm
  have l1 : j = 0 → h = 0 := fun e => by subst e; rw [cb.foot] at hj; exact (Option.some.inj hj).symm
  have t0 : i = A.length - 1 → h = M := fun e => by subst e; rw [ca.top] at hi; exact (Option.some.inj hi).symm
  have t1 : j = B.length - 1 → h = M := fun e => by subst e; rw [cb.top] at hj; exact (Option.some.inj hj).symm
  have c1 := k1 true
  have c2 := k1 false
  have c3 := k2 true
  have c4 := k2 false
  clear k1 k2
  generalize nb A i true = x1 at *
  generalize nb A i false = x2 at *
  generalize nb B j true = y1 at *
  generalize nb B j false = y2 at *
  have key : ∀ (x : Option Int), x = none ∨ ∃ a, x = some a := fun x => by cases x <;> simp
  rcases key x1 with e1 | ⟨u1, e1⟩ <;> rcases key x2 with e2 | ⟨u2, e2⟩ <;> rcases key y1 with e3 | ⟨v1, e3⟩ <;> rcases key y2 with e4 | ⟨v2, e4⟩ <;> subst e1 e2 e3 e4 <;> simp only [ne_eq, reduceCtorEq, not_true_eq_false, not_false_eq_true, true_and, false_and, and_self, if_false, if_true, Option.some.injEq, false_iff, true_iff, iff_false, iff_true] at * <;>
    (try have c1 := c1 _ rfl) <;> (try have c2 := c2 _ rfl) <;> (try have c3 := c3 _ rfl) <;> (try have c4 := c4 _ rfl) <;> (repeat' split) <;> omega
end U

set_option Elab.async false
set_option linter.all false
set_option maxRecDepth 100000
set_option maxHeartbeats 4000000
namespace U
open PySem PySem.Spec PyProof.Rows L2
theorem darts_par {A B : List Int} {M : Int} (ca : Cl A M) (cb : Cl B M) (hM : 0 < M) : ∀ {L : List Pl}, L.Nodup → (∀ p ∈ L, Vd A B p) → (A.length - 1, B.length - 1) ∉ L → (darts A B L).length % 2 = if (0, 0) ∈ L then 1 else 0
  | [], _, _, _ => rfl
  | p :: L, hd, hv, ht => by
    have hp := List.nodup_cons.mp hd
    have ih := darts_par ca cb hM hp.2 (fun q hq => hv q (List.mem_cons_of_mem _ hq)) (fun z => ht (List.mem_cons_of_mem _ z))
    have h1 := outM_odd ca cb hM (hv p List.mem_cons_self)
    have e : (darts A B (p :: L)).length = (outM A B p).length + (darts A B L).length := by
      show ((outM A B p).map (fun m => (p, m)) ++ darts A B L).length = _
      rw [List.length_append, List.length_map]
    have ne : p ≠ (A.length - 1, B.length - 1) := fun z => ht (z ▸ List.mem_cons_self)
    rw [e, Nat.add_mod, ih, h1]
    by_cases h0 : p = (0, 0)
    · subst h0
      rw [if_pos (.inl rfl), if_neg hp.1, if_pos List.mem_cons_self]
    · rw [if_neg (fun z => z.elim h0 ne)]
      by_cases g : ((0, 0) : Pl) ∈ L
      · rw [if_pos g, if_pos (List.mem_cons_of_mem _ g)]
      · rw [if_neg g, if_neg (fun z => (List.mem_cons.mp z).elim (fun z => h0 z.symm) g)]
theorem Cl.nonneg {A : List Int} {M : Int} (c : Cl A M) : 0 ≤ M := c.low _ _ c.top
theorem Cl.one {A : List Int} (c : Cl A 0) : A.length = 1 := by
  have hp := c.pos
  by_cases h : 1 < A.length
  · have e : A[1]? = some (A[1]'h) := List.getElem?_eq_getElem h
    have h1 := c.step 0 0 _ c.foot e
    have h2 := c.low _ _ e
    have h3 := c.high _ _ e
    omega
  · omega
/-- both tops are found from both feet -/
theorem reach {A B : List Int} {M : Int} (ca : Cl A M) (cb : Cl B M) {L : List Pl} (hd : L.Nodup) (hv : ∀ p ∈ L, Vd A B p) (hc : ∀ p ∈ L, ∀ m q, nextP A B p m = some q → q ∈ L) (h0 : ((0, 0) : Pl) ∈ L) : (A.length - 1, B.length - 1) ∈ L := by
  by_cases hM : 0 < M
  · by_cases ht : (A.length - 1, B.length - 1) ∈ L
    · exact ht
    · have h1 := darts_even hd hv hc
      have h2 := darts_par ca cb hM hd hv ht
      rw [if_pos h0] at h2
      omega
  · have hz : M = 0 := by have := ca.nonneg; omega
    subst hz
    rw [ca.one, cb.one]
    exact h0
/-! ### walks -/
def walkP (A B : List Int) : Pl → List Mv → Option Pl
  | p, [] => some p
  | p, m :: ms => (nextP A B p m).bind fun q => walkP A B q ms
theorem walkP_app {A B : List Int} : ∀ (ms ns : List Mv) (p : Pl), walkP A B p (ms ++ ns) = (walkP A B p ms).bind fun q => walkP A B q ns
  | [], ns, p => rfl
  | m :: ms, ns, p => by
    show (nextP A B p m).bind (fun q => walkP A B q (ms ++ ns)) = ((nextP A B p m).bind fun q => walkP A B q ms).bind _
    cases nextP A B p m with
    | none => rfl
    | some q => exact walkP_app ms ns q
/-! ### what is found, in its order -/
abbrev En := Pl × Pl × Str
structure Bfs (A B : List Int) (n : Nat) (Es : List En) : Prop where
  start : Es[0]? = some ((0, 0), (0, 0), Str.ofString "")
  nodup : (Es.map (·.1)).Nodup
  vd : ∀ e ∈ Es, Vd A B e.1
  par : ∀ (k : Nat) (e : En), 0 < k → Es[k]? = some e → ∃ (j : Nat) (m : Mv) (e' : En), j < k ∧ Es[j]? = some e' ∧ e.2.1 = e'.1 ∧ e.2.2 = mt m ∧ nextP A B e'.1 m = some e.1
  shut : ∀ (k : Nat) (e : En), k < n → Es[k]? = some e → ∀ m q, nextP A B e.1 m = some q → q ∈ Es.map (·.1)
theorem Bfs.init {A B : List Int} (h : Vd A B (0, 0)) : Bfs A B 0 [((0, 0), (0, 0), Str.ofString "")] where
  start := rfl
  nodup := by simp
  vd := fun e he => by rw [List.mem_singleton.mp he]; exact h
  par := fun k e hk he => by
    have := (List.getElem?_eq_some_iff.mp he).1
    simp at this
    omega
  shut := fun k e hk => absurd hk (Nat.not_lt_zero _)
theorem Bfs.grow {A B : List Int} {n : Nat} {Es : List En} (b : Bfs A B n Es) {j : Nat} {e' : En} {m : Mv} {q : Pl} (hj : Es[j]? = some e') (hn : nextP A B e'.1 m = some q) (hq : q ∉ Es.map (·.1)) (hl0 : n ≤ Es.length) : Bfs A B n (Es ++ [(q, e'.1, mt m)]) where
  start := by
    rw [List.getElem?_append_left (List.getElem?_eq_some_iff.mp b.start).1]
    exact b.start
  nodup := by
    rw [List.map_append]
    refine List.nodup_append.mpr ⟨b.nodup, by simp, fun x hx y hy e => ?_⟩
    rw [List.map_cons, List.map_nil, List.mem_singleton] at hy
    subst e hy
    exact hq hx
  vd := fun e he => by
    rcases List.mem_append.mp he with he | he
    · exact b.vd e he
    · rw [List.mem_singleton.mp he]
      exact nextP_vd hn
  par := fun k e hk he => by
    by_cases hl : k < Es.length
    · rw [List.getElem?_append_left hl] at he
      obtain ⟨j, m, e2, h1, h2, h3⟩ := b.par k e hk he
      exact ⟨j, m, e2, h1, by rw [List.getElem?_append_left (by omega)]; exact h2, h3⟩
    · rw [List.getElem?_append_right (by omega)] at he
      have hj2 := (List.getElem?_eq_some_iff.mp hj).1
      have h0 := (List.getElem?_eq_some_iff.mp he).1
      rw [List.length_singleton] at h0
      rw [show k - Es.length = 0 by omega] at he
      have he := (Option.some.inj he).symm
      subst he
      exact ⟨j, m, e', by omega, by rw [List.getElem?_append_left hj2]; exact hj, rfl, rfl, hn⟩
  shut := fun k e hk he m' q' hq' => by
    rw [List.map_append]
    by_cases hl : k < Es.length
    · rw [List.getElem?_append_left hl] at he
      exact List.mem_append_left _ (b.shut k e hk he m' q' hq')
    · omega
theorem Bfs.next {A B : List Int} {n : Nat} {Es : List En} (b : Bfs A B n Es) {e : En} (he : Es[n]? = some e) (h : ∀ m q, nextP A B e.1 m = some q → q ∈ Es.map (·.1)) : Bfs A B (n + 1) Es := { b with
  shut := fun k e2 hk he2 => by
    by_cases hl : k < n
    · exact b.shut k e2 hl he2
    · have : k = n := by omega
      subst this
      rw [he] at he2
      rw [← Option.some.inj he2]
      exact h }
/-- the way to what is found -/
theorem Bfs.way {A B : List Int} {n : Nat} {Es : List En} (b : Bfs A B n Es) : ∀ (N k : Nat) (e : En), k < N → Es[k]? = some e → ∃ ms, walkP A B (0, 0) ms = some e.1
  | 0, k, _, h, _ => absurd h (Nat.not_lt_zero _)
  | N + 1, k, e, h, he => by
    by_cases hk : 0 < k
    · obtain ⟨j, m, e', h1, h2, h3, h4, h5⟩ := b.par k e hk he
      obtain ⟨ms, hm⟩ := b.way N j e' (by omega) h2
      exact ⟨ms ++ [m], by rw [walkP_app, hm]; show (nextP A B e'.1 m).bind _ = _; rw [h5]; rfl⟩
    · have : k = 0 := by omega
      subst this
      rw [b.start] at he
      exact ⟨[], by rw [← Option.some.inj he]; rfl⟩
theorem Bfs.all {A B : List Int} {Es : List En} (b : Bfs A B Es.length Es) : ∀ p ∈ Es.map (·.1), ∀ m q, nextP A B p m = some q → q ∈ Es.map (·.1) := fun p hp m q hq => by
  obtain ⟨e, he, rfl⟩ := List.mem_map.mp hp
  obtain ⟨k, hk⟩ := List.getElem?_of_mem he
  exact b.shut k e (List.getElem?_eq_some_iff.mp hk).1 hk m q hq
theorem Bfs.top {A B : List Int} {M : Int} (ca : Cl A M) (cb : Cl B M) {Es : List En} (b : Bfs A B Es.length Es) : (A.length - 1, B.length - 1) ∈ Es.map (·.1) :=
  reach ca cb b.nodup (fun p hp => by obtain ⟨e, he, rfl⟩ := List.mem_map.mp hp; exact b.vd e he) b.all (List.mem_map.mpr ⟨_, List.mem_of_getElem? b.start, rfl⟩)
/-! ### how many places there are -/
theorem nodup_sub {α : Type} [DecidableEq α] : ∀ {l t : List α}, l.Nodup → (∀ x ∈ l, x ∈ t) → l.length ≤ t.length
  | [], _, _, _ => Nat.zero_le _
  | x :: l, t, hd, hs => by
    have hx := List.nodup_cons.mp hd
    have hm := hs x List.mem_cons_self
    have := nodup_sub (t := t.erase x) hx.2 (fun y hy => (List.mem_erase_of_ne (a := y) (b := x) (fun e => hx.1 (e ▸ hy))).mpr (hs y (List.mem_cons_of_mem _ hy)))
    rw [List.length_erase_of_mem hm] at this
    have hp := List.length_pos_of_mem hm
    rw [List.length_cons]
    omega
def grid (n m : Nat) : List Pl := (List.range n).flatMap fun i => (List.range m).map fun j => (i, j)
theorem grid_len (n m : Nat) : (grid n m).length = n * m := by
  unfold grid
  rw [List.length_flatMap]
  simp [List.map_const']
theorem grid_mem {n m : Nat} {p : Pl} (h1 : p.1 < n) (h2 : p.2 < m) : p ∈ grid n m := by
  unfold grid
  exact List.mem_flatMap.mpr ⟨p.1, List.mem_range.mpr h1, List.mem_map.mpr ⟨p.2, List.mem_range.mpr h2, rfl⟩⟩
theorem few {A B : List Int} {L : List Pl} (hd : L.Nodup) (hv : ∀ p ∈ L, Vd A B p) : L.length ≤ A.length * B.length := by
  rw [← grid_len]
  exact nodup_sub hd fun p hp => grid_mem (hv p hp).one (hv p hp).two
end U

set_option Elab.async false
set_option linter.all false
set_option maxRecDepth 100000
set_option maxHeartbeats 4000000
namespace U
open PySem PySem.Spec PyProof.Rows L2
/-! ### places, moves and what is found, as objects -/
def Tx (H H' : Hp) : Prop := ∀ a xs, H a = some (.tup xs) → H' a = some (.tup xs)
theorem Ex.tx {H H' : Hp} (e : Ex H H') : Tx H H' := fun a xs h => e a _ h
theorem Tx.refl (H : Hp) : Tx H H := fun _ _ h => h
theorem Tx.trans {H H1 H2 : Hp} (a : Tx H H1) (b : Tx H1 H2) : Tx H H2 := fun x xs h => b x xs (a x xs h)
theorem Tx.lst {H : Hp} {l : Addr} {xs : List V} {o : HO} (h : H l = some (.lst xs)) : Tx H (upd H l o) := fun a ys e => by
  rw [upd_ne (fun z => by subst z; rw [h] at e; cases e)]
  exact e
theorem Tx.dT {H : Hp} {l : Addr} {kvs : List (List Key × V)} {o : HO} (h : H l = some (.dT kvs)) : Tx H (upd H l o) := fun a ys e => by
  rw [upd_ne (fun z => by subst z; rw [h] at e; cases e)]
  exact e
def TP (H : Hp) (a : Addr) (p : Pl) : Prop := H a = some (.tup [.int p.1, .int p.2])
def keyP (p : Pl) : List Key := [.inl p.1, .inl p.2]
theorem keyP_inj {p q : Pl} : keyP p = keyP q ↔ p = q := ⟨fun h => by
  unfold keyP at h
  injection h with h1 h2
  injection h2 with h2 _
  injection h1 with h1
  injection h2 with h2
  exact Prod.ext (Int.ofNat.inj h1) (Int.ofNat.inj h2), fun h => by rw [h]⟩
theorem TP.key {H : Hp} {a : Addr} {p : Pl} (h : TP H a p) : H a = some (.tup ((keyP p).map kV)) := h
def PlR (H : Hp) (x : Pl) (v : V) : Prop := ∃ a, v = .ref a ∧ TP H a x
def MvR (H : Hp) (x : Mv × Pl) (v : V) : Prop := ∃ c b, v = .ref c ∧ H c = some (.tup [vM x.1, .ref b]) ∧ TP H b x.2
def EnR (H : Hp) (x : En) (v : List Key × V) : Prop := v.1 = keyP x.1 ∧ ∃ c b, v.2 = .ref c ∧ H c = some (.tup [.ref b, .str x.2.2]) ∧ TP H b x.2.1
theorem PlR.tx {H H' : Hp} (t : Tx H H') {x : Pl} {v : V} (h : PlR H x v) : PlR H' x v := by obtain ⟨a, e, h⟩ := h; exact ⟨a, e, t _ _ h⟩
theorem MvR.tx {H H' : Hp} (t : Tx H H') {x : Mv × Pl} {v : V} (h : MvR H x v) : MvR H' x v := by obtain ⟨c, b, e, h, g⟩ := h; exact ⟨c, b, e, t _ _ h, t _ _ g⟩
theorem EnR.tx {H H' : Hp} (t : Tx H H') {x : En} {v : List Key × V} (h : EnR H x v) : EnR H' x v := by obtain ⟨k, c, b, e, h, g⟩ := h; exact ⟨k, c, b, e, t _ _ h, t _ _ g⟩
theorem pair_at {α β : Type} {F : α → β → Prop} : ∀ {l : List α} {m : List β} {i : Nat} {x : α}, Paired F l m → l[i]? = some x → ∃ y, m[i]? = some y ∧ F x y
  | _, _, i, x, .nil, h => by simp at h
  | _, _, 0, x, .cons (a := a) (b := b) q t, h => ⟨b, rfl, (show a = x by simpa using h) ▸ q⟩
  | _, _, i + 1, x, .cons q t, h => by
    obtain ⟨y, h1, h2⟩ := pair_at t (i := i) (x := x) (by simpa using h)
    exact ⟨y, by simpa using h1, h2⟩
theorem pair_ta {α β : Type} {F : α → β → Prop} : ∀ {l : List α} {m : List β} {i : Nat} {y : β}, Paired F l m → m[i]? = some y → ∃ x, l[i]? = some x ∧ F x y
  | _, _, i, x, .nil, h => by simp at h
  | _, _, 0, y, .cons (a := a) (b := b) q t, h => ⟨a, rfl, (show b = y by simpa using h) ▸ q⟩
  | _, _, i + 1, y, .cons q t, h => by
    obtain ⟨x, h1, h2⟩ := pair_ta t (i := i) (y := y) (by simpa using h)
    exact ⟨x, by simpa using h1, h2⟩
theorem val_none {H : Hp} {p : Pl} : ∀ {Es : List En} {kvs : List (List Key × V)}, Paired (EnR H) Es kvs → p ∉ Es.map (·.1) → valV kvs (keyP p) = none
  | _, _, .nil, _ => rfl
  | _, _, .cons (a := e) q t, h => by
    rw [valV_neg (fun z => h (by rw [q.1] at z; rw [List.map_cons]; rw [keyP_inj.mp z]; exact List.mem_cons_self))]
    exact val_none t (fun z => h (List.mem_cons_of_mem _ z))
theorem val_some {H : Hp} : ∀ {Es : List En} {kvs : List (List Key × V)} {i : Nat} {e : En}, Paired (EnR H) Es kvs → (Es.map (·.1)).Nodup → Es[i]? = some e → ∃ c b, valV kvs (keyP e.1) = some (.ref c) ∧ H c = some (.tup [.ref b, .str e.2.2]) ∧ TP H b e.2.1
  | _, _, i, e, .nil, _, h => by simp at h
  | _, _, 0, e, .cons (a := a) (b := kv) q t, _, h => by
    have h : a = e := by simpa using h
    subst h
    obtain ⟨k, c, b, e1, e2, e3⟩ := q
    exact ⟨c, b, by rw [valV_pos k, e1], e2, e3⟩
  | _, _, i + 1, e, .cons (a := a) (b := kv) (l₁ := l1) q t, hd, h => by
    have h : l1[i]? = some e := by simpa using h
    have hd := List.nodup_cons.mp hd
    obtain ⟨c, b, e1, e2⟩ := val_some t hd.2 h
    refine ⟨c, b, ?_, e2⟩
    rw [valV_neg (fun z => ?_)]
    · exact e1
    · rw [q.1] at z
      exact hd.1 (List.mem_map.mpr ⟨e, List.mem_of_getElem? h, (keyP_inj.mp z).symm⟩)
theorem pair_map {H : Hp} {α β γ : Type} {F : γ → β → Prop} (f : α → γ) : ∀ {l : List α} {m : List β}, Paired (fun x y => F (f x) y) l m → Paired F (l.map f) m
  | _, _, .nil => .nil
  | _, _, .cons q t => .cons q (pair_map (H := H) f t)
/-! ### == of pairs of numbers -/
def dPl (p : Pl) : PyData := .tuple [.int p.1, .int p.2]
theorem dpPl {K : PySem.W.Frag} {H : Hp} {a : Addr} {p : Pl} (h : TP H a p) : Dp K H (.ref a) (dPl p) := .tup (SqT.of h) (.cons (.int _) (.cons (.int _) .nil))
theorem dpNil {K : PySem.W.Frag} {H : Hp} {a : Addr} (h : H a = some (.tup [])) : Dp K H (.ref a) (.tuple []) := .tup (SqT.of h) .nil
theorem shPl (p : Pl) : SeqAt.shaped (dPl p) = true := by
  unfold SeqAt.shaped dPl
  simp [PyData.canLay0, PyData.canLayAll0, PyData.depth, PyData.depthAll]
theorem shNil : SeqAt.shaped (.tuple []) = true := by decide +kernel
theorem eqvPl (p q : Pl) : PyData.eqv (dPl p) (dPl q) = decide (p = q) := by
  unfold dPl
  simp only [PyData.eqv, PyData.eqvAll]
  by_cases h : p = q
  · subst h; simp
  · rw [decide_eq_false h]
    have : ¬ (p.1 = q.1 ∧ p.2 = q.2) := fun z => h (Prod.ext z.1 z.2)
    simp
    intro z1 z2
    exact this ⟨by omega, by omega⟩
theorem k_eqPl {K : PySem.W.Frag} {H : Hp} {Q : VK} {a b : Addr} {p q : Pl} (h1 : TP H a p) (h2 : TP H b q) (k : Q (.bl (decide (p = q))) H) : rEqU K (.ref a) (.ref b) H Q :=
  k_eqD (dpPl h1) (dpPl h2) (shPl _) (shPl _) (by rw [eqvPl]; exact k)
theorem k_nePl {K : PySem.W.Frag} {H : Hp} {Q : VK} {a b : Addr} {p q : Pl} (h1 : TP H a p) (h2 : TP H b q) (k : Q (.bl (!decide (p = q))) H) : rNeU K (.ref a) (.ref b) H Q :=
  k_neD (dpPl h1) (dpPl h2) (shPl _) (shPl _) (by rw [eqvPl]; exact k)
theorem k_nePlN {K : PySem.W.Frag} {H : Hp} {Q : VK} {a b : Addr} {p : Pl} (h1 : TP H a p) (h2 : H b = some (.tup [])) (k : Q (.bl true) H) : rNeU K (.ref a) (.ref b) H Q :=
  k_neD (dpPl h1) (dpNil h2) (shPl _) shNil (by
    rw [show PyData.eqv (dPl p) (.tuple []) = false by unfold dPl; simp [PyData.eqv, PyData.eqvAll]]
    exact k)
theorem k_neNN {K : PySem.W.Frag} {H : Hp} {Q : VK} {a b : Addr} (h1 : H a = some (.tup [])) (h2 : H b = some (.tup [])) (k : Q (.bl false) H) : rNeU K (.ref a) (.ref b) H Q :=
  k_neD (dpNil h1) (dpNil h2) shNil shNil (by
    rw [show PyData.eqv (.tuple []) (.tuple []) = true by simp [PyData.eqv, PyData.eqvAll]]
    exact k)
/-! ### more steps found by their form -/
section
variable {σ : L2.St} {H : Hp} {Q : VK} {D : Ends} {ta tb tc td ty tv : L2.TE}
instance i_dput : Stp (sDPut td ty tv D σ H) (tv σ H fun v H1 => td σ H1 fun x H2 => ty σ H2 fun y H3 => ∃ a H4, x = .ref a ∧ DPut H3 a y v H4 ∧ D.nx σ H4) := ⟨id⟩
instance i_dispT : Stp (tDispT ta tb σ H Q) (∀ p, H p = none → ta σ (upd H p (.dT [])) fun x H1 => tb σ H1 fun y H2 => ∃ (b : Addr) (k : List Key), x = .ref b ∧ H2 p = some (.dT []) ∧ H2 b = some (.tup (k.map kV)) ∧ Q (.ref p) (upd H2 p (.dT [(k, y)]))) := ⟨id⟩
end
end U
namespace U
open PySem PySem.Spec PyProof.Rows L2
def vMOVES : List V := [.str (Str.ofString "ff"), .str (Str.ofString "fb"), .str (Str.ofString "bf"), .str (Str.ofString "bb")]
theorem vMOVES_eq : vMOVES = mvs allM := by
  have h1 : Str.ofString "ff" = mt (true, true) := by decide +kernel
  have h2 : Str.ofString "fb" = mt (true, false) := by decide +kernel
  have h3 : Str.ofString "bf" = mt (false, true) := by decide +kernel
  have h4 : Str.ofString "bb" = mt (false, false) := by decide +kernel
  unfold vMOVES
  rw [h1, h2, h3, h4]
  rfl
def nextsL (A B : List Int) (p : Pl) (l : List Mv) : List (Mv × Pl) := l.filterMap fun m => (nextP A B p m).map fun q => (m, q)
theorem nextsL_more {A B : List Int} {p : Pl} {i : Nat} {m : Mv} (h : allM[i]? = some m) : nextsL A B p (allM.take (i + 1)) = nextsL A B p (allM.take i) ++ (match nextP A B p m with | none => [] | some q => [(m, q)]) := by
  unfold nextsL
  rw [List.take_add_one, h, List.filterMap_append]
  congr 1
  cases e : nextP A B p m <;> simp [e]
theorem mem_nexts {A B : List Int} {p q : Pl} {m : Mv} : (m, q) ∈ nexts A B p ↔ nextP A B p m = some q := by
  unfold nexts
  rw [List.mem_filterMap]
  constructor
  · rintro ⟨m', _, h⟩
    cases e : nextP A B p m' with
    | none => rw [e] at h; cases h
    | some q' =>
      rw [e] at h
      have h := Option.some.inj h
      injection h with h1 h2
      rw [← h1, e, h2]
  · intro h
    exact ⟨m, allM_mem m, by rw [h]; rfl⟩
end U
namespace U
open PySem PySem.Spec PyProof.Rows L2
instance i_dnotin {σ : L2.St} {H : Hp} {Q : VK} {td ty : L2.TE} : Stp (tDNotIn ty td σ H Q) (ty σ H fun y H1 => td σ H1 fun x H2 => ∃ a o, x = .ref a ∧ DGet H2 a y o ∧ Q (.bl (!o.isSome)) H2) := ⟨id⟩
theorem Bfs.few {A B : List Int} {n N : Nat} {Es : List En} (b : Bfs A B n Es) (h : ∀ L : List Pl, L.Nodup → (∀ p ∈ L, Vd A B p) → L.length ≤ N) : Es.length ≤ N := by
  have := h (Es.map (·.1)) b.nodup (fun p hp => by obtain ⟨e, he, rfl⟩ := List.mem_map.mp hp; exact b.vd e he)
  rwa [List.length_map] at this
/-- how far the measure of the search has to go -/
def togo (N : Nat) (σ : L2.St) (_ : Hp) : Nat := match (σ[4]? : Option (Option V)) with
  | some (some (V.int i)) => N + 1 - i.toNat
  | _ => 0
end U

set_option Elab.async false
set_option linter.all false
set_option maxRecDepth 100000
set_option maxHeartbeats 4000000
namespace U
open PySem PySem.Spec PyProof.Rows L2
/-! ### climbs cut out of ridges -/
theorem ht_take {l : List Nat} {k i : Nat} (h : i ≤ k) : ht (l.take k) i = ht l i := by
  unfold ht
  rw [List.take_take, Nat.min_eq_left h]
theorem hts_at {l : List Nat} {i : Nat} {a : Int} : (hts l)[i]? = some a ↔ i ≤ l.length ∧ a = ht l i := by
  constructor
  · intro h
    have hl := (List.getElem?_eq_some_iff.mp h).1
    rw [hts_length] at hl
    have hi : i ≤ l.length := by omega
    rw [hts_get hi] at h
    exact ⟨hi, (Option.some.inj h).symm⟩
  · rintro ⟨hi, rfl⟩
    exact hts_get hi
theorem hts_take {l : List Nat} {k i : Nat} {a : Int} (hk : k ≤ l.length) : (hts (l.take k))[i]? = some a ↔ i ≤ k ∧ a = ht l i := by
  rw [hts_at, List.length_take, Nat.min_eq_left hk]
  constructor
  · rintro ⟨h1, h2⟩
    exact ⟨h1, by rw [h2, ht_take h1]⟩
  · rintro ⟨h1, h2⟩
    exact ⟨h1, by rw [h2, ht_take h1]⟩
theorem ht_step {l : List Nat} {i : Nat} (h : i < l.length) : ht l (i + 1) = ht l i + 1 ∨ ht l (i + 1) = ht l i - 1 := by
  rw [ht_succ (List.getElem?_eq_getElem h)]
  unfold sgn
  by_cases e : l[i] = 117
  · rw [if_pos e]; exact .inl rfl
  · rw [if_neg e]; exact .inr rfl
theorem cl_take {l : List Nat} {k : Nat} {M : Int} (hk : k ≤ l.length) (hM : ht l k = M) (h : ∀ i, i ≤ k → 0 ≤ ht l i ∧ ht l i ≤ M) : Cl (hts (l.take k)) M where
  pos := by rw [hts_length]; omega
  foot := (hts_take hk).mpr ⟨Nat.zero_le _, rfl⟩
  top := by
    rw [hts_length, List.length_take, Nat.min_eq_left hk, Nat.add_sub_cancel]
    exact (hts_take hk).mpr ⟨Nat.le_refl _, hM.symm⟩
  low := fun i a ha => by
    obtain ⟨h1, rfl⟩ := (hts_take hk).mp ha
    exact (h i h1).1
  high := fun i a ha => by
    obtain ⟨h1, rfl⟩ := (hts_take hk).mp ha
    exact (h i h1).2
  step := fun i a b ha hb => by
    obtain ⟨h1, rfl⟩ := (hts_take hk).mp ha
    obtain ⟨h2, rfl⟩ := (hts_take hk).mp hb
    exact ht_step (by omega)
/-! ### walks along one ridge, from both ends -/
def gM (m : Mv) : Mv := (m.1, !m.2)
def swM (m : Mv) : Mv := (m.2, m.1)
def swP (p : Pl) : Pl := (p.2, p.1)
theorem nb_of {t : List Int} {i : Nat} {b : Bool} {a : Int} (h : t[sh i b]? = some a) (hb : b = false → i ≠ 0) : nb t i b = some a := by
  unfold nb
  unfold sh at h
  cases b
  · rw [if_neg Bool.false_ne_true] at h ⊢
    rw [if_neg (hb rfl)]
    exact h
  · rw [if_pos rfl] at h ⊢
    exact h
theorem nb_zero {t : List Int} {i : Nat} {b : Bool} {a : Int} (h : nb t i b = some a) (hb : b = false) : i ≠ 0 := fun z => by
  subst hb z
  unfold nb at h
  rw [if_neg Bool.false_ne_true, if_pos rfl] at h
  cases h
theorem next_fold {A B t : List Int} {n : Nat} (hA : ∀ (i : Nat) (a : Int), A[i]? = some a → t[i]? = some a) (hB : ∀ (j : Nat) (a : Int), B[j]? = some a → j ≤ n ∧ t[n - j]? = some a) {p q : Pl} {m : Mv} (hp : p.2 ≤ n) (h : nextP A B p m = some q) :
    nextP t t (p.1, n - p.2) (gM m) = some (q.1, n - q.2) := by
  obtain ⟨a, h1, h2, rfl⟩ := nextP_iff.mp h
  have g1 := hA _ _ (nb_sh h1)
  obtain ⟨hj, g2⟩ := hB _ _ (nb_sh h2)
  have e2 : sh (n - p.2) (!m.2) = n - sh p.2 m.2 := by
    unfold sh at hj ⊢
    cases hm : m.2
    · have := nb_zero h2 hm
      simp only [hm, Bool.not_false, if_true, Bool.false_eq_true, if_false] at hj ⊢
      omega
    · simp only [hm, Bool.not_true, if_true, Bool.false_eq_true, if_false] at hj ⊢
      omega
  refine nextP_iff.mpr ⟨a, nb_of g1 (nb_zero h1), nb_of (by show t[sh (n - p.2) (!m.2)]? = _; rw [e2]; exact g2) (fun z => ?_), ?_⟩
  · have hm : m.2 = true := by simpa [gM] using z
    unfold sh at hj
    rw [hm, if_pos rfl] at hj
    show n - p.2 ≠ 0
    omega
  · show _ = (sh p.1 m.1, sh (n - p.2) (!m.2))
    rw [e2]
theorem walk_fold {A B t : List Int} {n : Nat} (hA : ∀ (i : Nat) (a : Int), A[i]? = some a → t[i]? = some a) (hB : ∀ (j : Nat) (a : Int), B[j]? = some a → j ≤ n ∧ t[n - j]? = some a) : ∀ (ms : List Mv) (p q : Pl), p.2 ≤ n → walkP A B p ms = some q → walkP t t (p.1, n - p.2) (ms.map gM) = some (q.1, n - q.2)
  | [], p, q, _, h => by
    have h : p = q := Option.some.inj h
    rw [← h]; rfl
  | m :: ms, p, q, hp, h => by
    have h : (nextP A B p m).bind (fun q => walkP A B q ms) = some q := h
    cases e : nextP A B p m with
    | none => rw [e] at h; cases h
    | some r =>
      rw [e] at h
      have hr : r.2 ≤ n := by
        obtain ⟨a, h1, h2, rfl⟩ := nextP_iff.mp e
        exact (hB _ _ (nb_sh h2)).1
      show (nextP t t (p.1, n - p.2) (gM m)).bind (fun q => walkP t t q (ms.map gM)) = _
      rw [next_fold hA hB hp e]
      exact walk_fold hA hB ms r q hr h
theorem nextP_swap {t : List Int} {p q : Pl} {m : Mv} (h : nextP t t p m = some q) : nextP t t (swP p) (swM m) = some (swP q) := by
  obtain ⟨a, h1, h2, rfl⟩ := nextP_iff.mp h
  exact nextP_iff.mpr ⟨a, h2, h1, rfl⟩
theorem walk_vd {A B : List Int} : ∀ (ms : List Mv) (p q : Pl), Vd A B p → walkP A B p ms = some q → Vd A B q
  | [], p, q, v, h => by
    have h : p = q := Option.some.inj h
    rw [← h]; exact v
  | m :: ms, p, q, v, h => by
    have h : (nextP A B p m).bind (fun q => walkP A B q ms) = some q := h
    cases e : nextP A B p m with
    | none => rw [e] at h; cases h
    | some r =>
      rw [e] at h
      exact walk_vd ms r q (nextP_vd e) h
/-- there, and back by the other one's steps -/
theorem walk_turn {t : List Int} : ∀ (ms : List Mv) (p q : Pl), Vd t t p → walkP t t p (ms.map gM) = some q → walkP t t (swP q) ((ms.reverse.map swM).map gM) = some (swP p)
  | [], p, q, _, h => by
    have h : p = q := Option.some.inj h
    rw [← h]; rfl
  | m :: ms, p, q, v, h => by
    have h : (nextP t t p (gM m)).bind (fun q => walkP t t q (ms.map gM)) = some q := h
    cases e : nextP t t p (gM m) with
    | none => rw [e] at h; cases h
    | some r =>
      rw [e] at h
      have ih := walk_turn ms r q (nextP_vd e) h
      have hb := nextP_swap (nextP_back v e)
      rw [List.reverse_cons, List.map_append, List.map_append, walkP_app, ih]
      show (nextP t t (swP r) (gM (swM m))).bind _ = _
      rw [show gM (swM m) = swM (inv (gM m)) by obtain ⟨a, b⟩ := m; cases a <;> cases b <;> rfl, hb]
      rfl
/-! ### a range: above its ends -/
structure Rg (l : List Nat) : Prop where
  ud : UD l
  low : ∀ i, i ≤ l.length → 0 ≤ ht l i
  zero : hAt l = 0
/-- the heights from the end -/
theorem rg_back {l : List Nat} (h : Rg l) {i : Nat} (hi : i ≤ l.length) : ht (l.reverse.map flipc) i = ht l (l.length - i) := by
  rw [ht_back l i hi, h.zero, Int.sub_zero]
theorem drop_back {l : List Nat} {k : Nat} (hk : k ≤ l.length) : (l.drop k).reverse.map flipc = (l.reverse.map flipc).take (l.length - k) := by
  rw [← List.map_take, List.take_reverse]
  rw [show l.length - (l.length - k) = k by omega]
structure Pk (l : List Nat) (k : Nat) (M : Int) : Prop where
  le : k ≤ l.length
  at_ : ht l k = M
  high : ∀ i, i ≤ l.length → ht l i ≤ M
theorem Rg.one {l : List Nat} {k : Nat} {M : Int} (h : Rg l) (p : Pk l k M) : Cl (hts (l.take k)) M :=
  cl_take p.le p.at_ fun i hi => ⟨h.low i (Nat.le_trans hi p.le), p.high i (Nat.le_trans hi p.le)⟩
theorem back_len (l : List Nat) : (l.reverse.map flipc).length = l.length := by rw [List.length_map, List.length_reverse]
theorem Rg.two {l : List Nat} {k : Nat} {M : Int} (h : Rg l) (p : Pk l k M) : Cl (hts ((l.drop k).reverse.map flipc)) M := by
  have hk := p.le
  rw [drop_back hk]
  refine cl_take (by rw [back_len]; omega) (by rw [rg_back h (by omega), show l.length - (l.length - k) = k by omega]; exact p.at_) fun i hi => ?_
  rw [rg_back h (by omega)]
  exact ⟨h.low _ (by omega), p.high _ (by omega)⟩
theorem Rg.fold1 {l : List Nat} {k : Nat} {M : Int} (h : Rg l) (p : Pk l k M) : ∀ (i : Nat) (a : Int), (hts (l.take k))[i]? = some a → (hts l)[i]? = some a := fun i a ha => by
  obtain ⟨h1, h2⟩ := (hts_take p.le).mp ha
  exact hts_at.mpr ⟨Nat.le_trans h1 p.le, h2⟩
theorem Rg.fold2 {l : List Nat} {k : Nat} {M : Int} (h : Rg l) (p : Pk l k M) : ∀ (j : Nat) (a : Int), (hts ((l.drop k).reverse.map flipc))[j]? = some a → j ≤ l.length ∧ (hts l)[l.length - j]? = some a := fun j a ha => by
  have hk := p.le
  rw [drop_back hk] at ha
  obtain ⟨h1, h2⟩ := (hts_take (by rw [back_len]; omega)).mp ha
  rw [rg_back h (by omega)] at h2
  exact ⟨by omega, hts_at.mpr ⟨by omega, h2⟩⟩
/-- what the law asks of the meeting -/
theorem meet_ends {l : List Nat} {k : Nat} {M : Int} (h : Rg l) (p : Pk l k M) {ms : List Mv} (hw : walkP (hts (l.take k)) (hts ((l.drop k).reverse.map flipc)) (0, 0) ms = some ((l.take k).length, ((l.drop k).reverse.map flipc).length)) :
    walkP (hts l) (hts l) (0, l.length) (ms.map gM) = some (k, k) := by
  have w := walk_fold (h.fold1 p) (h.fold2 p) ms (0, 0) _ (Nat.zero_le _) hw
  have hk := p.le
  simp only [List.length_take, List.length_map, List.length_reverse, List.length_drop] at w
  rw [show min k l.length = k by omega, show l.length - (l.length - k) = k by omega] at w
  exact w
theorem rg_vd {l : List Nat} (h : Rg l) : Vd (hts l) (hts l) (0, l.length) := ⟨by rw [hts_length]; show 0 < _; omega, by rw [hts_length]; show l.length < _; omega, by
  show (hts l)[0]? = (hts l)[l.length]?
  rw [hts_get (Nat.zero_le _), hts_get (Nat.le_refl _), ht_full, h.zero]
  rfl⟩
theorem turn_ends {l : List Nat} {k : Nat} (h : Rg l) {ms : List Mv} (hw : walkP (hts l) (hts l) (0, l.length) (ms.map gM) = some (k, k)) : walkP (hts l) (hts l) (0, l.length) ((ms ++ ms.reverse.map swM).map gM) = some (l.length, 0) := by
  rw [List.map_append, walkP_app, hw]
  exact walk_turn ms _ _ (rg_vd h) hw
end U

set_option Elab.async false
set_option linter.all false
set_option maxRecDepth 100000
set_option maxHeartbeats 4000000
namespace U
open PySem PySem.Spec PyProof.Rows L2
/-! ### a comprehension over a list from its end -/
theorem m_lcV {K : PySem.W.Frag} {σ σ0 : L2.St} {σ2 : V → L2.St} {H : Hp} {Q : VK} {j : Nat} {t0 te : L2.TE} {vs : List Nat} [q0 : Wp σ vs σ0] [q2 : ∀ x, StAt σ0 j (some x) (σ2 x)] {xs : List V} {F : V → V}
    (h0 : ∀ R : VK, (∀ a H1, Ex H H1 → SqL K H1 a xs → R (.ref a) H1) → t0 σ H R) (hz : xs.length < 16777216)
    (he : ∀ (x : V) H2, x ∈ xs → Ex H H2 → ∀ Q : VK, (∀ H3, Ex H2 H3 → Q (F x) H3) → te (σ2 x) H2 Q)
    (k : ∀ p H2, H p = none → Ex H H2 → H2 p = some (.lst (xs.reverse.map F)) → Q (.ref p) H2) (hw : ∀ x, wipe (σ2 x) vs = σ0 := by intro _; rfl) : tLc (RT.iRevA K t0) (gName j) tYes te vs σ H Q :=
  h0 _ fun a H1 e1 hx => ⟨a, xs, rfl, .inl ⟨hx, fun D hD => by
    refine ⟨fun i m H => m = xs.length - i ∧ i ≤ xs.length ∧ Ex H1 H ∧ H D = some (.lst ((xs.reverse.take i).map F)), ⟨_, rfl, Nat.zero_le _, Ex.new hD, upd_same⟩, ?_⟩
    rintro i m H ⟨rfl, hi, e, hd⟩
    by_cases hlt : i < xs.length
    · have hlt2 : xs.length - 1 - i < xs.length := by omega
      refine .inr ⟨⟨hlt, xs, xs[xs.length - 1 - i], e.sql hx, List.getElem?_eq_getElem hlt2⟩, fun H' => i + 1 ≤ xs.length ∧ Ex H1 H' ∧ H' D = some (.lst ((xs.reverse.take (i + 1)).map F)), fun H' h => ⟨xs.length - (i + 1), by omega, rfl, h⟩, fun x H' hy => ?_⟩
      obtain ⟨rfl, hy⟩ := hy
      have hy := hy xs (e.sql hx)
      have hy2 : xs.reverse[i]? = some x := by rw [List.getElem?_reverse hlt]; exact hy
      show wipe ((wipe σ vs).set j (some x)) vs = wipe σ vs ∧ te ((wipe σ vs).set j (some x)) H' _
      rw [q0.h, (q2 _).h]
      refine ⟨hw _, he x H' (List.mem_of_getElem? hy) (e1.trans e) _ fun H3 e3 => ⟨_, e3 _ _ hd, ?_, hlt, Ex.mut (e.trans e3) hD, ?_⟩⟩
      · rw [List.length_map, List.length_take, List.length_reverse]
        exact line_lt (by omega)
      · rw [upd_same, List.take_add_one, hy2, List.map_append]
        rfl
    · have hii : i = xs.length := by omega
      subst hii
      rw [← List.length_reverse, List.take_length] at hd
      exact .inl ⟨Nat.le_refl _, k D H (e1.free hD) (e1.trans e) hd⟩⟩⟩
/-! ### cutting a text -/
theorem eqV_int (a b : Int) : eqV (.int a) (.int b) = decide (a = b) := by
  show (a == b) = _
  rw [Bool.beq_eq_decide_eq]
theorem flat_ints (ns : List Int) : (ns.map V.int).all flatV = true := by
  rw [List.all_map]
  exact List.all_eq_true.mpr fun _ _ => rfl
theorem first_at {ns : List Int} {m : Int} (h : m ∈ ns) : ∃ j : Nat, ns[j]? = some m ∧ ∀ i, i < j → ns[i]? ≠ some m := by
  induction ns with
  | nil => cases h
  | cons x t ih =>
    by_cases e : x = m
    · exact ⟨0, by rw [e]; rfl, fun i hi => absurd hi (Nat.not_lt_zero _)⟩
    · have : m ∈ t := by
        rcases List.mem_cons.mp h with z | z
        · exact (e z.symm).elim
        · exact z
      obtain ⟨j, hj, hm⟩ := ih this
      refine ⟨j + 1, by simpa using hj, fun i hi => ?_⟩
      cases i with
      | zero => simpa using e
      | succ i => simpa using hm i (by omega)
theorem k_index {K : PySem.W.Frag} {H : Hp} {Q : VK} {a : Addr} {ns : List Int} {m : Int} (h : SqL K H a (ns.map V.int)) (hm : m ∈ ns) (k : ∀ j : Nat, ns[j]? = some m → Q (.int j) H) : rIndex K (.ref a) [.int m] H Q := by
  obtain ⟨j, hj, hf⟩ := first_at hm
  refine ⟨a, _, _, j, .int m, rfl, rfl, h, rfl, flat_ints _, by rw [List.getElem?_map, hj]; rfl, by rw [eqV_int]; simp, fun i z hi hz => ?_, k j hj⟩
  obtain ⟨n, hn, rfl⟩ := ints_at hz
  rw [eqV_int]
  exact decide_eq_false fun e => hf i hi (by rw [hn, e])
theorem k_max {K : PySem.W.Frag} {H : Hp} {Q : VK} {a : Addr} {ns : List Int} (h : SqL K H a (ns.map V.int)) (hz : 0 < ns.length) (k : ∀ m, m ∈ ns → (∀ y ∈ ns, y ≤ m) → Q (.int m) H) : rMax K [.ref a] H Q := ⟨a, ns, rfl, h, hz, k⟩
theorem k_min {K : PySem.W.Frag} {H : Hp} {Q : VK} {a : Addr} {ns : List Int} (h : SqL K H a (ns.map V.int)) (hz : 0 < ns.length) (k : ∀ m, m ∈ ns → (∀ y ∈ ns, m ≤ y) → Q (.int m) H) : rMin K [.ref a] H Q := ⟨a, ns, rfl, h, hz, k⟩
end U

set_option Elab.async false
set_option linter.all false
set_option maxRecDepth 100000
set_option maxHeartbeats 4000000
namespace U
open PySem PySem.Spec PyProof.Rows L2
/-! ### defs that may raise: their errors' context is None -/
/-- what a raising def lets out -/
def CXN (P : Program) (w : World) : CXT := L2N.CX P w
theorem Fun.okN {P : Program} {w : World} {K : PySem.W.Frag} {mg : Str → Option Value} {base : Heap} {x qual : Str} {st : Stmt} {f : Addr} {fd : FuncData} {N ps : List Str} {k : Nat} {sp : Sp} (F : Fun K x qual st f fd) (S : FnScope N ps (defScope st)) (len : ∀ vs H Q E, sp vs H Q E → vs.length = ps.length)
    (hbody : ∀ (cdv : Value) (A : Around) (outer : List Env) (s : Shared) (H : Hp) (vs : List V) (Q : VK) (E : XK), Room k (A.deeper (envOfC qual (defScope st) s.heap.objs.size f cdv)) → sp vs H Q E →
      ∃ t, PSs (cxOf (L2N.CX P w) P w K mg base N qual (defScope st) f cdv A outer s H E) (defBody st) t ∧ t { nx := fun _ H' => Q .non H', rt := Q } (L2.start N vs) H) : FnOk P w K mg base (L2N.CX P w) (k + 1) f fd ps sp := by
  obtain ⟨oc, od, kV, doc, pm, an, cdv, ct, osl, rfl, lk, hcd⟩ := F.ex
  exact fn_of lk hcd S len fun A outer s H vs Q E hr hsp => hbody cdv A outer s H vs Q E hr hsp
section
variable {X : Cx} {k j : Nat} {x : Str} {sp : Sp} {p pos : Pos} {e : Expr} {es : List Expr} {t : TA}
theorem passLN {X : Cx} : Passes (L2N.CX X.prog X.w) X E0 := fun _ _ _ _ _ _ _ h => by
  obtain ⟨_, _, _, _, _, _, _, _, _, _, _, _, z⟩ := h
  exact z.elim
theorem takes0N {X : Cx} : L2N.Takes X (fun _ _ _ _ => False) := fun _ _ x => by
  obtain ⟨_, _, _, _, _, _, _, _, _, _, _, _, _, _, _, _, z⟩ := x
  exact z.elim
theorem pe_cX {E : XK} (c : Cal X.prog X.w X.K X.mg X.base (L2N.CX X.prog X.w) k x sp) (hr : Room j X.A) (hk : k ≤ j) (hg : Gl X x) (hx : Passes (L2N.CX X.prog X.w) X E) (ha : PA X (e :: es) t)
    (hdb : (x == ("__debug__" : Str)) = false := by decide) (he : starEach (e :: es) X.env = (false, eval e X.env) :: starEach es X.env := by rfl) (hpl : (backTo pos (starEach es X.env)).any (·.1) = false := by rfl) :
    PE X (.Call (.Name x p) (e :: es) [] pos) (tCall sp [] E t) := by
  obtain ⟨f, fd, ps, F, hm, kp, b⟩ := c.ex
  exact pe_call F (hr.mono hk) hg hm kp b .nil hx ha hdb he hpl
/-- out of a def that lets it out -/
theorem pex {X : Cx} {E : XK} (tk : L2N.Takes X (fun cls d _ H => E cls d H)) : Passes (L2N.CX X.prog X.w) X E := L2N.passes_call tk (fun _ _ _ _ h => h)
/-- in a try's body -/
theorem pe_cW {W : WX} (c : Cal X.prog X.w X.K X.mg X.base (L2N.CX X.prog X.w) k x sp) (hr : Room j X.A) (hk : k ≤ j) (hg : Gl X x) (tk : L2N.Takes X W) (ha : PA X (e :: es) t)
    (hdb : (x == ("__debug__" : Str)) = false := by decide) (he : starEach (e :: es) X.env = (false, eval e X.env) :: starEach es X.env := by rfl) (hpl : (backTo pos (starEach es X.env)).any (·.1) = false := by rfl) :
    PE X (.Call (.Name x p) (e :: es) [] pos) (tCallS sp (WE W) t) := by
  obtain ⟨f, fd, ps, F, hm, kp, b⟩ := c.ex
  exact pe_callS F (hr.mono hk) hg hm kp b (fun σ => L2N.passAt tk σ) ha hdb he hpl
end
/-! ### isinstance of a caught error -/
theorem zc_of {cls : Value} {d : Option Addr} {oe : Obj} (hz : L2N.Zn cls d oe) : Zc cls d oe := ⟨hz.1, hz.2.1⟩
def rIsG (K : PySem.W.Frag) (cls : Value) (d : Option Addr) (a : Addr) : List V → Hp → VK → Prop := fun xs H Q => ∃ (D : Addr) (c : V) (cv : Value) (b : Bool), cls = .ref D ∧ d = none ∧ ExcC K D ∧ xs = [.ref a, c] ∧ (∀ u, RelV c u → u = cv) ∧ PySem.W.kitOne K (.ref D) cv = some b ∧ Q (.bl b) H
theorem call_isG {X : Cx} {a : Addr} {oe : Obj} {cls : Value} {d : Option Addr} {pn : List (Addr × Obj)} (hz : Zc cls d oe) (hf : ∃ vs, oe.data = .fields vs) : CallR (X.suite a ((a, oe) :: pn)) (.builtin "isinstance") (rIsG X.K cls d a) := by
  intro pins s σ H xs us Q I r h
  obtain ⟨D, c, cv, b, rfl, rfl, C, h⟩ := h
  exact call_isE C hz hf pins s σ H xs us Q I r ⟨c, cv, b, h⟩
theorem call_isGK {X : Cx} {K : PySem.W.Frag} {a : Addr} {oe : Obj} {cls : Value} {d : Option Addr} {pn : List (Addr × Obj)} (q : X.K = K) (hz : L2N.Zn cls d oe) (hf : ∃ vs, oe.data = .fields vs) : CallR (X.suite a ((a, oe) :: pn)) (.builtin "isinstance") (rIsG K cls d a) := q ▸ call_isG (zc_of hz) hf
/-! ### an own class of errors -/
structure OwnX (K : PySem.W.Frag) (mg : Str → Option Value) (x : Str) (C : Addr) : Prop where
  g : mg x = some (.ref C)
  k : PySem.W.keepIn K (.ref C) = true
  s : PySem.W.subIn K (.ref C) (.type "BaseException") = some true
  t : PySem.W.typeIn K (.ref C) = some (.type "type")
  ex : ∃ (bmB : List Value) (B newId initId : String), ExcBaseFacts B newId initId bmB ∧ PySem.W.excIn K C bmB newId = true
theorem OwnX.pmk {X : Cx} {x m : Str} {C : Addr} {j : Nat} {p p2 pos : Pos} (o : OwnX X.K X.mg x C) (hg : Gl X x) (hdb : (x == ("__debug__" : Str)) = false := by decide) : L2N.PMk X (.Call (.Name x p) [.Constant (.str m) j p2] [] pos) (fun _ H Q => Q (.ref C) none H) := by
  obtain ⟨bmB, B, newId, initId, F, q⟩ := o.ex
  exact L2N.pmk_own F q o.g o.k (raises_own o.s o.t) hg hdb
theorem OwnX.names {X : Cx} {x : Str} {C : Addr} (o : OwnX X.K X.mg x C) (hg : Gl X x) (hdb : (x == ("__debug__" : Str)) = false := by decide) : Names X x (.ref C) := ⟨hg, hdb, .inl o.g⟩
end U

set_option Elab.async false
set_option linter.all false
set_option maxRecDepth 100000
set_option maxHeartbeats 4000000
namespace U
open PySem PySem.Spec PyProof.Rows L2 HotX
/-! ### any(xs) where an error is handled -/
theorem list_end_hot {prog : Program} {w : World} {A : Around} {E : Value → Shared → Prop} {s : Shared} {it l x1 : Addr} {i : Nat} {items : Array Value} {Q : Option Value → Shared → Prop} (hot : HotAt A x1 s.heap)
    (hit : s.heap.IsListIter it l i) (hl : s.heap.IsList l items) (hx : items[i]? = none) (hne : x1 ≠ it)
    (hQ : ∀ h', (∀ b o, b ≠ it → s.heap.get? b = some o → h'.get? b = some o) → Q none { s with heap := h' }) : wpAny (model prog w) A (pyNext (.ref it)) Q E s := by
  obtain ⟨o, ho, hc, hd⟩ := id hit
  obtain ⟨ol, hol, _, nl, hdl⟩ := hl
  obtain ⟨hh, o1, vs1, h1, d1, c1⟩ := hot
  unfold pyNext
  refine wpAny_bind (wpAny_attempt (wpAny_callSpecial?_slot (name := Str.ofString "__next__") hit.typeIs slot_listiter_next
    (wpAny_call_entry slot_listiter_next hit.typeIs entry_listiter_next ?_ (args_listiter_next _))))
  show wpAny _ _ (field (.ref it) 0 >>= _) _ _ s
  refine wpAny_bind (wpAny_field ho hd (x := .ref l) rfl ?_)
  show wpAny _ _ (if (Value.ref l == Value.none) = true then _ else _) _ _ s
  rw [if_neg (show ¬ ((Value.ref l == Value.none) = true) from Bool.false_ne_true)]
  show wpAny _ _ (field (.ref it) 1 >>= _) _ _ s
  refine wpAny_bind (wpAny_field ho hd (x := .int i 0) rfl ?_)
  show wpAny _ _ (seqItems? (.ref l) >>= _) _ _ s
  refine wpAny_bind (wpAny_seqItems hol hdl ?_)
  simp only [Int.toNat_natCast, hx]
  refine wpAny_bind (wpAny_rule (wpAny_bind (wpAny_setField ho hd (by simp) ?_)))
  show wpAny _ _ (newExc (.type "StopIteration") [] >>= _) _ _ _
  refine wpAny_bind ?_
  simp only [newExc, newTuple]
  refine wpAny_bind (wpAny_newObj_type ?_ (by size_fits))
  refine wpAny_bind (m := firstArgMember _ _) (wpAny_of_eq (a := Value.none) (by first | rfl | (simp only [firstArgMember]; rfl)) ?_)
  refine wpAny_newObj_type ?_ (by size_fits)
  have h1' : ∀ f : Obj → Obj, (s.heap.update it f).get? x1 = some o1 := fun f => by rw [Heap.get?_update_other _ _ (Ne.symm hne)]; exact h1
  refine raiseNew_hot ⟨hh, o1, vs1, Heap.get?_push_of_some _ (Heap.get?_push_of_some _ (h1' _)), d1, c1⟩ (Nat.ne_of_lt (Heap.lt_size (Heap.get?_push_of_some _ (h1' _)))) (Heap.get?_push_size _ rfl) rfl (by first | (simp; done) | (simp; omega) | (simp only [Array.size_append]; simp; omega)) ?_
  refine wpAny_bind (wpAny_isInstance (T := "StopIteration") (b := true) ⟨_, Heap.get?_update_self _ (Heap.get?_push_size _ rfl) rfl, rfl⟩ isSubtype_stop ?_)
  refine wpAny_pure (hQ _ fun b o hb e => ?_)
  have e' : ∀ f : Obj → Obj, (s.heap.update it f).get? b = some o := fun f => by rw [Heap.get?_update_other _ _ (Ne.symm hb)]; exact e
  rw [Heap.get?_update_other _ _ (Nat.ne_of_gt (Heap.lt_size (Heap.get?_push_of_some _ (e' _))))]
  exact Heap.get?_push_of_some _ (Heap.get?_push_of_some _ (e' _))
theorem walks_list_hot {prog : Program} {w : World} {A : Around} (I ax x1 : Addr) (hne : ax ≠ I) (hx : x1 ≠ I) (items : Array Value) :
    Walks prog w A I [I, ax, x1] [I] items.size (fun i v => items[i]? = some v) (fun i h => h.IsListIter I ax i ∧ h.IsList ax items ∧ HotAt A x1 h) where
  sub := fun b hb => by simp at hb; simp [hb]
  frame := fun _ _ _ st hk => ⟨st.1.at fun o e => hk I (by simp) o e, st.2.1.at fun o e => hk ax (by simp) o e, by
    obtain ⟨hh, o1, vs1, h1, d1, c1⟩ := st.2.2
    exact ⟨hh, o1, vs1, hk x1 (by simp) _ h1, d1, c1⟩⟩
  item := fun i s Q E hi st hQ => by
    refine wpAny_pyNext_list_item st.1 st.2.1 (x := items[i]) (by simp [hi]) fun h' hit' hs' => ?_
    refine hQ _ h' s.toks (by simp [hi]) ⟨hit', st.2.1.extBut hs'.extBut hne, ?_⟩ fun b o hb e => hs'.extBut b o (fun h => hb (by simp [h])) e
    obtain ⟨hh, o1, vs1, h1, d1, c1⟩ := st.2.2
    exact ⟨hh, o1, vs1, hs'.extBut x1 o1 hx h1, d1, c1⟩
  done := fun s Q E st hQ => list_end_hot st.2.2 st.1 st.2.1 (by simp) hx fun h' he' => hQ h' s.toks fun b o hb e => he' b o (fun h => hb (by simp [h])) e
  self := fun _ _ _ _ st hQ => wpAny_pyIter_listiter st.1 hQ
theorem hotC_suite {X : Cx} {a : Addr} {oe : Obj} {cls : Value} {d : Option Addr} {pn : List (Addr × Obj)} (hz : L2N.Zn cls d oe) (hf : ∃ vs, oe.data = .fields vs) : L2H.HotC (X.suite a ((a, oe) :: pn)) := by
  obtain ⟨vs, hv⟩ := hf
  exact ⟨(a, oe), ⟨rfl, vs, hv, hz.2.2 vs hv⟩, List.mem_cons_self⟩
theorem cr_anyH {X : Cx} (c : L2H.HotC X) : CallR X (.builtin "any") (rAny X.K) := by
  intro pins s σ H vs us Q I r h
  obtain ⟨a, bs, rfl, hs, q⟩ := h
  obtain ⟨its, rv, hl, _⟩ := I.list hs
  rw [Vals.ref1 r]
  have hb := rv.bls
  obtain ⟨x1, hot⟩ := c.at I
  refine call_any_walk (iter_any hl.isList fun s₂ e2 st hne => ?_)
  subst e2
  have hx1 : x1 < s.heap.objs.size := by obtain ⟨_, o, _, e, _⟩ := hot; exact Heap.lt_size e
  have hot2 : HotAt X.A.in1 x1 (s.heap.push { cls := .type "list_iterator", data := .fields #[.ref a, .int 0 0] }) := by
    obtain ⟨hh, o1, vs1, h1, d1, c1⟩ := hot
    exact ⟨hh, o1, vs1, Heap.get?_push_of_some _ h1, d1, c1⟩
  refine ⟨_, _, _, _, _, _, _, rfl, walks_list_hot (A := X.A.in1) _ a x1 hne (Nat.ne_of_lt hx1) its.toArray, ⟨st.1, st.2, hot2⟩, truth_bools hb, fun h' tk hk => ?_⟩
  refine ⟨.bl _, H, I.kept fun b o eo => hk b o (fun hmem => ?_) (Heap.get?_push_of_some _ eo), ?_, q⟩
  · rcases List.mem_cons.mp hmem with e1 | hmem
    · exact absurd (e1 ▸ Heap.lt_size eo) (Nat.lt_irrefl _)
    · cases hmem
  · show Value.bool _ = Value.bool _
    rw [← L2.any_range, hb, List.size_toArray, List.length_map]
theorem cr_anyHK {X : Cx} {K : PySem.W.Frag} {a : Addr} {oe : Obj} {cls : Value} {d : Option Addr} {pn : List (Addr × Obj)} (q : X.K = K) (hz : L2N.Zn cls d oe) (hf : ∃ vs, oe.data = .fields vs) : CallR (X.suite a ((a, oe) :: pn)) (.builtin "any") (rAny K) := q ▸ cr_anyH (hotC_suite hz hf)
end U

set_option Elab.async false
set_option linter.all false
set_option maxRecDepth 100000
set_option maxHeartbeats 4000000
namespace U
open PySem PySem.Spec PyProof.Rows L2
theorem for_listN {K : PySem.W.Frag} {a : Addr} {xs : List V} {g : TG} {tb : TS} {nx : L2.St → Hp → Prop} {rt : VK} {σ : L2.St} {H : Hp} (Pv : Nat → L2.St → Hp → Prop) (h0 : Pv 0 σ H) (hl : ∀ i σ H, i ≤ xs.length → Pv i σ H → SqL K H a xs)
    (hs : ∀ i x σ H, xs[i]? = some x → Pv i σ H → g x σ H fun σ2 H2 => tb ⟨Pv (i + 1), rt, nx, Pv (i + 1)⟩ σ2 H2) (hd : ∀ σ H, Pv xs.length σ H → nx σ H) :
    ∃ W : Nat → Nat → L2.St → Hp → Prop, (∃ m, W 0 m σ H) ∧ ∀ i m σ H, W i m σ H →
      ((Itl K a).stop i H ∧ nx σ H) ∨ ((Itl K a).go i H ∧ ∃ N : L2.St → Hp → Prop, (∀ σ' H', N σ' H' → ∃ m', m' < m ∧ W (i + 1) m' σ' H') ∧ ∀ x H', (Itl K a).yld i H x H' → g x σ H' fun σ2 H2 => tb ⟨N, rt, nx, N⟩ σ2 H2) :=
  for_list (D := ⟨nx, rt, nx, nx⟩) Pv h0 hl hs hd
def sI (b : Bool) : Int := if b then 1 else -1
theorem in_MOVES (m : Mv) : inV (vM m) vMOVES = true := by
  obtain ⟨a, b⟩ := m
  cases a <;> cases b <;> decide +kernel
theorem nb_int {t : List Int} {i : Nat} {b : Bool} {a : Int} (h : nb t i b = some a) : (i : Int) + sI b = (sh i b : Nat) ∧ sh i b < t.length ∧ t[sh i b]? = some a := by
  have g := nb_sh h
  refine ⟨?_, (List.getElem?_eq_some_iff.mp g).1, g⟩
  unfold nb at h
  unfold sI sh
  cases b
  · rw [if_neg Bool.false_ne_true] at h
    by_cases e : i = 0
    · rw [if_pos e] at h; cases h
    · rw [if_neg Bool.false_ne_true, if_neg Bool.false_ne_true]; omega
  · rw [if_pos rfl, if_pos rfl]; rfl
theorem sI_not (b : Bool) : sI (!b) = -sI b := by cases b <;> rfl
end U

set_option Elab.async false
set_option linter.all false
set_option maxRecDepth 100000
set_option maxHeartbeats 4000000
namespace U
open PySem PySem.Spec PyProof.Rows L2
/-! ### a caught error: what its class says -/
instance i_callS {σ : L2.St} {H : Hp} {Q : VK} {sp : Sp} {E : L2.St → XK} {tr : L2.TA} : Stp (tCallS sp E tr σ H Q) (tr σ H fun vs H1 => sp vs H1 Q (E σ)) := ⟨id⟩
/-- what the written part says of the class U of a caught error, R the class that is named -/
structure CatX (K : PySem.W.Frag) (U R : Addr) : Prop where
  ex : ExcC K U
  te : PySem.W.exmOne K (.ref U) (.ref R) = some true
  me : PySem.W.kitOne K (.ref U) (.ref U) = some true
  ve : PySem.W.kitOne K (.ref U) (.type "ValueError") = some true
theorem k_isG {K : PySem.W.Frag} {U D a : Addr} {b : Bool} {H : Hp} {Q : VK} (x : ExcC K U) (e : PySem.W.kitOne K (.ref U) (.ref D) = some b) (k : Q (.bl b) H) : rIsG K (.ref U) none a [.ref a, .ref D] H Q := ⟨U, .ref D, .ref D, b, rfl, rfl, x, rfl, fun u h => h, e, k⟩
theorem k_isGT {K : PySem.W.Frag} {U a : Addr} {n : String} {b : Bool} {H : Hp} {Q : VK} (x : ExcC K U) (e : PySem.W.kitOne K (.ref U) (.type n) = some b) (k : Q (.bl b) H) : rIsG K (.ref U) none a [.ref a, .ty n] H Q := ⟨U, .ty n, .type n, b, rfl, rfl, x, rfl, fun u h => h, e, k⟩

/-! ### cut lists -/
theorem cut_to (xs : List V) (k : Nat) : cutV xs none (some (k : Int)) = xs.take k := by
  unfold cutV
  rw [HT.sIx_none, HT.sIx_nat, List.drop_zero, Nat.sub_zero]
  rcases Nat.le_total k xs.length with h | h
  · rw [Nat.min_eq_left h]
  · rw [Nat.min_eq_right h, List.take_length, List.take_of_length_le h]
theorem cut_from (xs : List V) (k : Nat) : cutV xs (some (k : Int)) none = xs.drop k := by
  unfold cutV
  rw [HT.sIx_none, HT.sIx_nat]
  rcases Nat.le_total k xs.length with h | h
  · rw [Nat.min_eq_left h]
    exact List.take_of_length_le (by rw [List.length_drop]; omega)
  · rw [Nat.min_eq_right h, List.drop_length, List.drop_of_length_le h, List.take_nil]
/-! ### climbs one step higher -/
theorem cl_last {l : List Nat} {M : Int} (c : Cl (hts l) M) : hAt l = M := by
  have h := c.top
  rw [hts_length, Nat.add_sub_cancel, hts_get (Nat.le_refl _), ht_full] at h
  exact Option.some.inj h
theorem ht_app {l r : List Nat} {i : Nat} (h : i ≤ l.length) : ht (l ++ r) i = ht l i := by
  unfold ht
  rw [List.take_append_of_le_length h]
theorem cl_up {l : List Nat} {t : Int} (c : Cl (hts l) t) : Cl (hts (l ++ [117])) (t + 1) := by
  have hl : hAt l = t := cl_last c
  have he : hAt (l ++ [117]) = t + 1 := by
    rw [hAt_append, hl]
    rfl
  have hr : ∀ i, i ≤ (l ++ [117]).length → 0 ≤ ht (l ++ [117]) i ∧ ht (l ++ [117]) i ≤ t + 1 := fun i hi => by
    rw [List.length_append, List.length_singleton] at hi
    by_cases h : i ≤ l.length
    · rw [ht_app h]
      have h1 := c.low i _ (hts_at.mpr ⟨h, rfl⟩)
      have h2 := c.high i _ (hts_at.mpr ⟨h, rfl⟩)
      omega
    · have e : i = (l ++ [117]).length := by rw [List.length_append, List.length_singleton]; omega
      rw [e, ht_full, he]
      have := c.nonneg
      omega
  have h := cl_take (l := l ++ [117]) (k := (l ++ [117]).length) (Nat.le_refl _) (by rw [ht_full]; exact he) hr
  rwa [List.take_length] at h
theorem ud_up {l : List Nat} (h : UD l) : UD (l ++ [117]) := fun c hc => by
  rcases List.mem_append.mp hc with hc | hc
  · exact h c hc
  · exact .inl (List.mem_singleton.mp hc)
theorem cl_nil : Cl (hts []) 0 where
  pos := by decide
  foot := rfl
  top := rfl
  low := fun i a ha => by
    obtain ⟨h1, rfl⟩ := hts_at.mp ha
    have : i = 0 := by simpa using h1
    rw [this]; exact Int.le_refl _
  high := fun i a ha => by
    obtain ⟨h1, rfl⟩ := hts_at.mp ha
    have : i = 0 := by simpa using h1
    rw [this]; exact Int.le_refl _
  step := fun i a b ha hb => by
    obtain ⟨h1, _⟩ := hts_at.mp hb
    simp at h1
theorem walk_nil {ms : List Mv} {q : Pl} (h : walkP (hts []) (hts []) (0, 0) ms = some q) : ms = [] := by
  cases ms with
  | nil => rfl
  | cons m ms =>
    have e : nextP (hts []) (hts []) (0, 0) m = none := by obtain ⟨a, b⟩ := m; cases a <;> cases b <;> rfl
    unfold walkP at h
    rw [e] at h
    cases h
end U

set_option Elab.async false
set_option linter.all false
set_option maxRecDepth 100000
set_option maxHeartbeats 4000000
namespace U
open PySem PySem.Spec PyProof.Rows L2
/-! ### words: where one is behind k letters -/
def plc (w : List Bool) (k : Nat) : Nat := (w.take k).foldl sh 0
theorem plc_succ {w : List Bool} {k : Nat} {b : Bool} (h : w[k]? = some b) : plc w (k + 1) = sh (plc w k) b := by
  unfold plc
  rw [List.take_add_one, h, List.foldl_append]
  rfl
/-- a word on the heights A, by which one is at the heights C -/
structure Wd (A C : List Int) (w : List Bool) : Prop where
  len : C.length = w.length + 1
  zero : A[0]? = C[0]?
  step : ∀ (k : Nat) (b : Bool), w[k]? = some b → nb A (plc w k) b = C[k + 1]?
  top : plc w w.length = A.length - 1
theorem Wd.at_ {A C : List Int} {w : List Bool} (h : Wd A C w) {k : Nat} (hk : k ≤ w.length) : A[plc w k]? = C[k]? := by
  cases k with
  | zero => exact h.zero
  | succ k =>
    have hw : w[k]? = some w[k] := List.getElem?_eq_getElem (by omega)
    have s := h.step k _ hw
    have hc : C[k + 1]? = some (C[k + 1]'(by have := h.len; omega)) := List.getElem?_eq_getElem _
    rw [hc] at s ⊢
    rw [plc_succ hw]
    exact nb_sh s
theorem plc_rep (n : Nat) : ∀ k, k ≤ n → plc (List.replicate n true) k = k
  | 0, _ => rfl
  | k + 1, h => by
    rw [plc_succ (b := true) (by rw [List.getElem?_replicate, if_pos (by omega)]), plc_rep n k (by omega)]
    rfl
theorem wd_id (l : List Nat) : Wd (hts l) (hts l) (List.replicate l.length true) where
  len := by rw [hts_length, List.length_replicate]
  zero := rfl
  step := fun k b h => by
    have hk := (List.getElem?_eq_some_iff.mp h).1
    rw [List.length_replicate] at hk
    rw [List.getElem?_replicate, if_pos hk] at h
    have h := Option.some.inj h
    subst h
    rw [plc_rep _ _ (by omega)]
    rfl
  top := by rw [List.length_replicate, plc_rep _ _ (Nat.le_refl _), hts_length]; rfl
/-! ### a walk of two, as two words -/
def plcF (p : Nat) (w : List Bool) (k : Nat) : Nat := (w.take k).foldl sh p
theorem walk_words {A B : List Int} : ∀ (ms : List Mv) (p q : Pl), walkP A B p ms = some q →
    (∀ (k : Nat) (m : Mv), ms[k]? = some m → ∃ a, nb A (plcF p.1 (ms.map (·.1)) k) m.1 = some a ∧ nb B (plcF p.2 (ms.map (·.2)) k) m.2 = some a) ∧ plcF p.1 (ms.map (·.1)) ms.length = q.1 ∧ plcF p.2 (ms.map (·.2)) ms.length = q.2
  | [], p, q, h => by
    have h : p = q := Option.some.inj h
    subst h
    exact ⟨fun k m hk => by simp at hk, rfl, rfl⟩
  | m :: ms, p, q, h => by
    have h : (nextP A B p m).bind (fun q => walkP A B q ms) = some q := h
    cases e : nextP A B p m with
    | none => rw [e] at h; cases h
    | some r =>
      rw [e] at h
      obtain ⟨a, h1, h2, rfl⟩ := nextP_iff.mp e
      obtain ⟨s, t1, t2⟩ := walk_words ms _ q h
      refine ⟨fun k m' hk => ?_, t1, t2⟩
      cases k with
      | zero =>
        have : m = m' := by simpa using hk
        subst this
        exact ⟨a, h1, h2⟩
      | succ k => exact s k m' (by simpa using hk)
def trk (A : List Int) (w : List Bool) : List Int := (List.range (w.length + 1)).map fun k => (A[plc w k]?).getD 0
theorem trk_at {A : List Int} {w : List Bool} {k : Nat} {a : Int} (hk : k ≤ w.length) (h : A[plc w k]? = some a) : (trk A w)[k]? = some a := by
  unfold trk
  rw [List.getElem?_map, List.getElem?_range (by omega)]
  show some ((A[plc w k]?).getD 0) = _
  rw [h]
  rfl
theorem walk_wd {A B : List Int} {ms : List Mv} {x : Int} (hA : A[0]? = some x) (hB : B[0]? = some x) (h : walkP A B (0, 0) ms = some (A.length - 1, B.length - 1)) :
    Wd A (trk A (ms.map (·.1))) (ms.map (·.1)) ∧ Wd B (trk A (ms.map (·.1))) (ms.map (·.2)) := by
  obtain ⟨s, t1, t2⟩ := walk_words ms _ _ h
  have hz : (trk A (ms.map (·.1)))[0]? = some x := trk_at (Nat.zero_le _) hA
  have hs : ∀ (k : Nat) (m : Mv), ms[k]? = some m → ∃ a, nb A (plc (ms.map (·.1)) k) m.1 = some a ∧ nb B (plc (ms.map (·.2)) k) m.2 = some a ∧ (trk A (ms.map (·.1)))[k + 1]? = some a := fun k m hk => by
    obtain ⟨a, h1, h2⟩ := s k m hk
    have hl := (List.getElem?_eq_some_iff.mp hk).1
    refine ⟨a, h1, h2, trk_at (by rw [List.length_map]; omega) ?_⟩
    rw [plc_succ (b := m.1) (by rw [List.getElem?_map, hk]; rfl)]
    exact nb_sh h1
  refine ⟨⟨?_, ?_, fun k b hk => ?_, ?_⟩, ⟨?_, ?_, fun k b hk => ?_, ?_⟩⟩
  · unfold trk; simp
  · rw [hz, hA]
  · rw [List.getElem?_map] at hk
    cases e : ms[k]? with
    | none => rw [e] at hk; cases hk
    | some m =>
      rw [e] at hk
      have hk : m.1 = b := Option.some.inj hk
      obtain ⟨a, h1, h2, h3⟩ := hs k m e
      rw [← hk, h1, h3]
  · rw [List.length_map]
    exact t1
  · unfold trk; simp
  · rw [hz, hB]
  · rw [List.getElem?_map] at hk
    cases e : ms[k]? with
    | none => rw [e] at hk; cases hk
    | some m =>
      rw [e] at hk
      have hk : m.2 = b := Option.some.inj hk
      obtain ⟨a, h1, h2, h3⟩ := hs k m e
      rw [← hk, h2, h3]
  · rw [List.length_map]
    exact t2
/-! ### a word as it is walked when all that walked it go by moves -/
def ltr (w m1 : List Bool) (i : Nat) : Bool := if m1.getD i true then w.getD (plc m1 i) true else !(w.getD (plc m1 i - 1) true)
def alongW (w m1 : List Bool) : List Bool := (List.range m1.length).map (ltr w m1)
theorem alongW_len (w m1 : List Bool) : (alongW w m1).length = m1.length := by unfold alongW; simp
theorem alongW_at {w m1 : List Bool} {i : Nat} (h : i < m1.length) : (alongW w m1)[i]? = some (ltr w m1 i) := by
  unfold alongW
  rw [List.getElem?_map, List.getElem?_range h]
  rfl
/-- one letter of it -/
theorem along_step {A C C' : List Int} {w m1 : List Bool} (h : Wd A C w) (g : Wd C C' m1) {i : Nat} {b : Bool} (hb : m1[i]? = some b) :
    sh (plc w (plc m1 i)) (ltr w m1 i) = plc w (plc m1 (i + 1)) ∧ nb A (plc w (plc m1 i)) (ltr w m1 i) = C'[i + 1]? ∧
    (if b then plc m1 i < w.length ∧ w[plc m1 i]? = some (ltr w m1 i) else plc m1 i ≠ 0 ∧ w[plc m1 i - 1]? = some (!(ltr w m1 i))) := by
  have hi := (List.getElem?_eq_some_iff.mp hb).1
  have hd : m1.getD i true = b := by rw [List.getD_eq_getElem?_getD, hb]; rfl
  have s := g.step i b hb
  have hl := h.len
  have hc : C'[i + 1]? = some (C'[i + 1]'(by have := g.len; omega)) := List.getElem?_eq_getElem _
  rw [hc] at s ⊢
  rw [plc_succ hb]
  unfold ltr
  rw [hd]
  cases b
  · simp only [Bool.false_eq_true, if_false]
    have z := nb_zero s rfl
    have n := nb_sh s
    have hx : sh (plc m1 i) false = plc m1 i - 1 := rfl
    rw [hx] at n ⊢
    have hx2 := (List.getElem?_eq_some_iff.mp (g.at_ (Nat.le_of_lt hi) |>.trans (List.getElem?_eq_getElem (by have := g.len; omega)))).1
    obtain ⟨y, hy⟩ : ∃ y, plc m1 i = y + 1 := ⟨plc m1 i - 1, by omega⟩
    rw [hy] at n z hx2 ⊢
    rw [Nat.add_sub_cancel] at n ⊢
    have hyl : y < w.length := by omega
    have hw : w[y]? = some w[y] := List.getElem?_eq_getElem hyl
    rw [List.getD_eq_getElem?_getD, hw]
    have sy := h.step y _ hw
    have hcy : C[y + 1]? = some (C[y + 1]'(by omega)) := List.getElem?_eq_getElem _
    rw [hcy] at sy
    obtain ⟨b1, b2⟩ := sh_back sy
    rw [plc_succ hw]
    refine ⟨b1, ?_, by omega, ?_⟩
    · show nb A (sh (plc w y) w[y]) (!w[y]) = _
      rw [b2, h.at_ (by omega), n]
    · show some w[y] = some (!!w[y])
      rw [Bool.not_not]
  · simp only [if_true]
    have n := nb_sh s
    have hx : sh (plc m1 i) true = plc m1 i + 1 := rfl
    rw [hx] at n ⊢
    have hx2 := (List.getElem?_eq_some_iff.mp n).1
    have hxl : plc m1 i < w.length := by omega
    have hw : w[plc m1 i]? = some w[plc m1 i] := List.getElem?_eq_getElem hxl
    rw [List.getD_eq_getElem?_getD, hw]
    refine ⟨(plc_succ hw).symm, ?_, hxl, rfl⟩
    have := h.step _ _ hw
    rw [n] at this
    exact this
theorem along_plc {A C C' : List Int} {w m1 : List Bool} (h : Wd A C w) (g : Wd C C' m1) : ∀ i, i ≤ m1.length → plc (alongW w m1) i = plc w (plc m1 i)
  | 0, _ => rfl
  | i + 1, hi => by
    rw [plc_succ (alongW_at (by omega)), along_plc h g i (by omega)]
    exact (along_step h g (List.getElem?_eq_getElem (by omega))).1
theorem along_wd {A C C' : List Int} {w m1 : List Bool} (h : Wd A C w) (g : Wd C C' m1) : Wd A C' (alongW w m1) where
  len := by rw [alongW_len]; exact g.len
  zero := h.zero.trans g.zero
  step := fun k b hk => by
    have hl := (List.getElem?_eq_some_iff.mp hk).1
    rw [alongW_len] at hl
    rw [alongW_at hl] at hk
    rw [← Option.some.inj hk, along_plc h g k (by omega)]
    exact (along_step h g (List.getElem?_eq_getElem hl)).2.1
  top := by
    rw [alongW_len, along_plc h g _ (Nat.le_refl _), g.top, h.len, Nat.add_sub_cancel, h.top]
/-! ### what is walked, as a climb -/
theorem Wd.cl {B C : List Int} {w : List Bool} {t : Int} (h : Wd B C w) (c : Cl B t) : Cl C t where
  pos := by have := h.len; omega
  foot := by rw [← h.zero]; exact c.foot
  top := by rw [h.len, Nat.add_sub_cancel, ← h.at_ (Nat.le_refl _), h.top]; exact c.top
  low := fun i a ha => by
    have hl := (List.getElem?_eq_some_iff.mp ha).1
    rw [h.len] at hl
    rw [← h.at_ (by omega)] at ha
    exact c.low _ _ ha
  high := fun i a ha => by
    have hl := (List.getElem?_eq_some_iff.mp ha).1
    rw [h.len] at hl
    rw [← h.at_ (by omega)] at ha
    exact c.high _ _ ha
  step := fun i a b ha hb => by
    have hl := (List.getElem?_eq_some_iff.mp hb).1
    rw [h.len] at hl
    have hw : w[i]? = some (w[i]'(by omega)) := List.getElem?_eq_getElem _
    have s := h.step i _ hw
    rw [hb] at s
    rw [← h.at_ (by omega)] at ha
    exact (c.nbr ha _ s).1
def stp (C : List Int) (k : Nat) : Nat := if C.getD (k + 1) 0 > C.getD k 0 then 117 else 100
def stepsOf (C : List Int) (n : Nat) : List Nat := (List.range n).map (stp C)
theorem stepsOf_ud (C : List Int) (n : Nat) : UD (stepsOf C n) := fun c hc => by
  obtain ⟨k, _, rfl⟩ := List.mem_map.mp hc
  unfold stp
  split
  · exact .inl rfl
  · exact .inr rfl
theorem stepsOf_len (C : List Int) (n : Nat) : (stepsOf C n).length = n := by unfold stepsOf; simp
theorem stepsOf_at {C : List Int} {n k : Nat} (h : k < n) : (stepsOf C n)[k]? = some (stp C k) := by
  unfold stepsOf
  rw [List.getElem?_map, List.getElem?_range h]
  rfl
theorem stepsOf_ht {C : List Int} {t : Int} (c : Cl C t) {n : Nat} (hn : C.length = n + 1) : ∀ k, k ≤ n → C[k]? = some (ht (stepsOf C n) k)
  | 0, _ => c.foot
  | k + 1, hk => by
    have ih := stepsOf_ht c hn k (by omega)
    have hb : C[k + 1]? = some (C[k + 1]'(by omega)) := List.getElem?_eq_getElem _
    have s := c.step k _ _ ih hb
    rw [ht_succ (stepsOf_at (C := C) (n := n) (by omega)), hb]
    have e1 : C.getD k 0 = ht (stepsOf C n) k := by rw [List.getD_eq_getElem?_getD, ih]; rfl
    have e2 : C.getD (k + 1) 0 = C[k + 1]'(by omega) := by rw [List.getD_eq_getElem?_getD, hb]; rfl
    unfold stp sgn
    rw [e1, e2]
    rcases s with s | s
    · rw [if_pos (show C[k + 1]'(by omega) > ht (stepsOf C n) k by omega), if_pos rfl, s]
    · rw [if_neg (show ¬ C[k + 1]'(by omega) > ht (stepsOf C n) k by omega), if_neg (by decide), s]
      rfl
theorem stepsOf_hts {C : List Int} {t : Int} (c : Cl C t) {n : Nat} (hn : C.length = n + 1) : hts (stepsOf C n) = C := by
  apply List.ext_getElem?
  intro i
  by_cases h : i ≤ n
  · rw [hts_get (by rw [stepsOf_len]; exact h), stepsOf_ht c hn i h]
  · rw [List.getElem?_eq_none (by rw [hts_length, stepsOf_len]; omega), List.getElem?_eq_none (by omega)]
/-! ### how many pairs of places there are, told more narrowly -/
def Mult (B : List Int) (c : Nat) : Prop := ∀ x : Option Int, ((List.range B.length).filter fun j => decide (B[j]? = x)).length ≤ c
theorem few2 {A B : List Int} {c : Nat} (hB : Mult B c) {L : List Pl} (hd : L.Nodup) (hv : ∀ p ∈ L, Vd A B p) : L.length ≤ A.length * c := by
  have h := nodup_sub (t := (List.range A.length).flatMap fun i => ((List.range B.length).filter fun j => decide (B[j]? = A[i]?)).map fun j => (i, j)) hd (fun p hp => by
    have v := hv p hp
    exact List.mem_flatMap.mpr ⟨p.1, List.mem_range.mpr v.one, List.mem_map.mpr ⟨p.2, List.mem_filter.mpr ⟨List.mem_range.mpr v.two, decide_eq_true v.same.symm⟩, rfl⟩⟩)
  refine Nat.le_trans h ?_
  rw [List.length_flatMap]
  have : ∀ l : List Nat, (l.map fun i => (((List.range B.length).filter fun j => decide (B[j]? = A[i]?)).map fun j => (i, j)).length).sum ≤ l.length * c := fun l => by
    induction l with
    | nil => simp
    | cons i l ih =>
      rw [List.map_cons, List.sum_cons, List.length_cons, List.length_map, Nat.succ_mul]
      have := hB A[i]?
      omega
  have h2 := this (List.range A.length)
  rwa [List.length_range] at h2
/-- places at one height: one more than the steps down -/
theorem mult_pre {l : List Nat} (hl : UD l) (a : Int) : ∀ k, k ≤ l.length → ((List.range (k + 1)).filter fun j => decide (ht l j = a)).length ≤ (l.take k).count 100 + if a ≤ ht l k then 1 else 0
  | 0, _ => by
    rw [show List.range (0 + 1) = [0] from rfl]
    by_cases e : ht l 0 = a
    · rw [if_pos (by omega)]
      exact Nat.le_trans (List.length_filter_le _ _) (by simp)
    · rw [List.filter_cons_of_neg (by simpa using e)]
      simp
  | k + 1, hk => by
    have ih := mult_pre hl a k (by omega)
    have hc : l[k]? = some l[k] := List.getElem?_eq_getElem (by omega)
    have hs := ht_succ hc
    rw [List.range_succ, List.filter_append, List.length_append, List.take_add_one, hc, List.count_append]
    have h1 : ((List.filter (fun j => decide (ht l j = a)) [k + 1])).length = if ht l (k + 1) = a then 1 else 0 := by
      by_cases e : ht l (k + 1) = a
      · rw [if_pos e, List.filter_cons_of_pos (by simpa using e)]; rfl
      · rw [if_neg e, List.filter_cons_of_neg (by simpa using e)]; rfl
    rw [h1]
    have h2 : (Option.toList (some l[k])).count 100 = if l[k] = 100 then 1 else 0 := by
      show [l[k]].count 100 = _
      rw [List.count_singleton]
      by_cases e : l[k] = 100
      · simp [e]
      · simp [e]
    rw [h2]
    rcases hl l[k] (List.getElem_mem _) with e | e
    · rw [e] at hs ⊢
      have hs : ht l (k + 1) = ht l k + 1 := hs
      rw [show (if (117 : Nat) = 100 then (1 : Nat) else 0) = 0 from rfl]
      repeat' split
      all_goals (repeat' split at ih) <;> omega
    · rw [e] at hs ⊢
      have hs : ht l (k + 1) = ht l k + -1 := hs
      rw [show (if (100 : Nat) = 100 then (1 : Nat) else 0) = 1 from rfl]
      repeat' split
      all_goals (repeat' split at ih) <;> omega
theorem mult_cl {l : List Nat} (hl : UD l) {D : Nat} (hD : l.count 100 ≤ D) : Mult (hts l) (D + 1) := fun x => by
  cases x with
  | none =>
    have : ((List.range (hts l).length).filter fun j => decide ((hts l)[j]? = none)) = [] := by
      rw [List.filter_eq_nil_iff]
      intro j hj
      have hj := List.mem_range.mp hj
      rw [List.getElem?_eq_getElem hj]
      simp
    rw [this]
    exact Nat.zero_le _
  | some a =>
    have h := mult_pre hl a l.length (Nat.le_refl _)
    rw [List.take_length] at h
    have e : ((List.range (hts l).length).filter fun j => decide ((hts l)[j]? = some a)) = ((List.range (l.length + 1)).filter fun j => decide (ht l j = a)) := by
      rw [hts_length]
      refine List.filter_congr fun j hj => ?_
      have hj := List.mem_range.mp hj
      rw [hts_get (by omega)]
      simp
    rw [e]
    refine Nat.le_trans h ?_
    split <;> omega
/-! ### the bound of the walks' lengths -/
def bnd (c x : Nat) : Nat → Nat
  | 0 => x
  | k + 1 => c * bnd c x k + 1
theorem bnd_mono {c x : Nat} (hc : 1 ≤ c) : ∀ {k n : Nat}, k ≤ n → bnd c x k ≤ bnd c x n := by
  intro k n h
  induction n with
  | zero => rw [show k = 0 by omega]; exact Nat.le_refl _
  | succ n ih =>
    by_cases e : k = n + 1
    · rw [e]; exact Nat.le_refl _
    · refine Nat.le_trans (ih (by omega)) ?_
      show _ ≤ c * bnd c x n + 1
      have := Nat.mul_le_mul_right (bnd c x n) hc
      omega
end U

set_option Elab.async false
set_option linter.all false
set_option maxRecDepth 100000
set_option maxHeartbeats 4000000
namespace U
open PySem PySem.Spec PyProof.Rows L2
/-! ### xs[i::k] -/
def pickS {α : Type} (xs : List α) (lo st : Int) : List α := (sliceRange (min lo xs.length) xs.length st).filterMap (xs[·]?)
theorem pickS_map {α β : Type} (f : α → β) (xs : List α) (lo st : Int) : pickS (xs.map f) lo st = (pickS xs lo st).map f := by
  unfold pickS
  rw [List.length_map, List.map_filterMap]
  refine congrArg (fun f => List.filterMap f _) (funext fun i => ?_)
  rw [List.getElem?_map]
theorem pickS_len {α : Type} (xs : List α) (lo : Nat) (st : Nat) (hs : 0 < st) : (pickS xs lo st).length ≤ (xs.length - lo + (st - 1)) / st := by
  unfold pickS
  refine Nat.le_trans (List.length_filterMap_le _ _) ?_
  unfold sliceRange
  rw [List.length_map, List.length_range, if_pos (show ((st : Nat) : Int) > 0 by omega)]
  by_cases h : lo < xs.length
  · rw [if_pos (by omega)]
    have e : (((xs.length : Nat) : Int) - min (lo : Int) (xs.length : Int) + (st : Int) - 1) = ((xs.length - lo + (st - 1) : Nat) : Int) := by omega
    rw [e]
    have e2 : ((xs.length - lo + (st - 1) : Nat) : Int) / ((st : Nat) : Int) = (((xs.length - lo + (st - 1)) / st : Nat) : Int) := (Int.natCast_ediv _ _).symm
    rw [e2, Int.toNat_natCast]
    exact Nat.le_refl _
  · rw [if_neg (by omega)]
    exact Nat.zero_le _
theorem vals_pick {xs : List V} {us : List Value} (r : Vals xs us) : ∀ idx : List Nat, Vals (idx.filterMap (xs[·]?)) (idx.filterMap (us[·]?))
  | [] => .nil
  | i :: idx => by
    cases e : xs[i]? with
    | none =>
      rw [List.filterMap_cons_none e, List.filterMap_cons_none (r.none_of e)]
      exact vals_pick r idx
    | some x =>
      obtain ⟨u, hu, q⟩ := r.get e
      rw [List.filterMap_cons_some e, List.filterMap_cons_some hu]
      exact .cons q (vals_pick r idx)
def tStepL (K : PySem.W.Frag) (te tl ts : TE) : TE := fun σ H Q => te σ H fun x H1 => tPart tl σ H1 fun l H2 => tPart ts σ H2 fun st H3 => ∃ a xs lo k, x = .ref a ∧ l = some lo ∧ st = some k ∧ 0 ≤ lo ∧ 0 < k ∧ SqL K H3 a xs ∧ ∀ p, H3 p = none → Q (.ref p) (upd H3 p (.lst (pickS xs lo k)))
theorem slicePick_eq {items : Array Value} {lo k : Int} (h0 : 0 ≤ lo) (hk : 0 < k) : slicePick items (some lo) none (some k) = (pickS items.toList lo k).toArray := by
  have e : sliceBounds (some lo) none (some k) items.size = (min lo (items.size : Int), (items.size : Int), k) := by
    unfold sliceBounds
    simp only [Option.getD_some, if_neg (show ¬ lo < 0 by omega), if_pos (show k > 0 from hk)]
    rw [show max 0 (min lo (items.size : Int)) = min lo (items.size : Int) by omega]
  unfold slicePick
  rw [e]
  show ((sliceRange (min lo (items.size : Int)) (items.size : Int) k).filterMap (items[·]?)).toArray = _
  unfold pickS
  rw [Array.length_toList]
  refine congrArg List.toArray (congrArg (fun f => List.filterMap f _) (funext fun i => ?_))
  rw [Array.getElem?_toList]
theorem pe_stepL {X : Cx} {e lo st : Expr} {te tl ts : TE} {p3 pos : Pos} (he : PE X e te) (hl : PE X lo tl) (hs : PE X st ts) : PE X (.Subscript e (.Slice (some lo) none (some st) p3) pos) (tStepL X.K te tl ts) := by
  refine ⟨fun pins s σ H Q I h => ?_⟩
  refine Subscript_ (thn (he.run pins s σ H _ I h) fun v s1 ⟨x, H1, I1, r1, q1⟩ => ?_)
  refine wpAny_Slice (thn ((po_some hl).run pins s1 σ H1 _ I1 q1) fun vl s2 ⟨l, H2, I2, pl, q2⟩ => ?_)
  refine thn (po_none.run pins s2 σ H2 (fun o H3 => o = none ∧ H3 = H2) I2 ⟨rfl, rfl⟩) fun vu s3 ⟨u, H3, I3, pu, eu, e3⟩ => ?_
  subst eu e3
  refine thn ((po_some hs).run pins s3 σ H3 _ I3 q2) fun vs s4 ⟨o, H4, I4, ps, q3⟩ => ?_
  obtain ⟨a, xs, i, k, rfl, rfl, rfl, h0, hk, hx, q⟩ := q3
  cases r1
  have I5 : Inv X pins σ H4 { s4 with heap := s4.heap.push { cls := .type "slice", data := .fields #[vl, vu, vs] } } := I4.kept (t' := s4.toks) fun b ob q => Heap.get?_push_of_some _ q
  obtain ⟨its, r, ht, hz⟩ := I5.list hx
  have hlen := r.length
  show wpAny (model X.prog X.w) X.A (subscriptTail e (.Slice (some lo) none (some st) p3) (.ref a) (.ref s4.heap.objs.size)) (EP X pins σ Q) X.xe { s4 with heap := s4.heap.push { cls := .type "slice", data := .fields #[vl, vu, vs] } }
  refine tail_any (ops := [.ref a, .ref s4.heap.objs.size]) ht.isList.typeIs (PySem.slot_list_getitem.lookup) ?_ (by with_unfolding_all rfl)
  refine wpAny_getItem_list_slice ht.isList (Heap.IsSliceOf.new _ vl vu vs) pl pu ps (by intro z; injection z with z; omega) ?_ (by rw [List.size_toArray]; omega)
  rw [slicePick_eq h0 hk]
  have hv : Vals (pickS xs i k) (pickS its.toArray.toList i k) := by
    unfold pickS
    rw [show its.toArray.toList = its from rfl, ← hlen]
    exact vals_pick r _
  have hl2 : (pickS xs i k).length ≤ sizeLine := by
    obtain ⟨k', rfl⟩ : ∃ k' : Nat, k = k' := ⟨k.toNat, by omega⟩
    obtain ⟨i', rfl⟩ : ∃ i' : Nat, i = i' := ⟨i.toNat, by omega⟩
    refine Nat.le_trans (pickS_len xs i' k' (by omega)) (Nat.le_trans ?_ hz)
    rw [Nat.div_le_iff_le_mul_add_pred (by omega)]
    have : xs.length ≤ k' * xs.length := Nat.le_mul_of_pos_left _ (by omega)
    omega
  refine ⟨.ref _, _, I5.laid (t' := s4.toks) (o := .lst (pickS xs i k)) (fun b ob q => Heap.get?_push_of_some _ q) (Nat.le_refl _) ?_, rfl, q _ (I5.hok.fresh (Nat.le_refl _))⟩
  exact ⟨hl2, _, 0, hv, Heap.get?_push_size _ rfl⟩
theorem stepLK {X : Cx} {K : PySem.W.Frag} {e : Expr} {te tl ts : TE} (q : X.K = K) (h : PE X e (tStepL X.K te tl ts)) : PE X e (tStepL K te tl ts) := q ▸ h
instance i_stepL {σ : L2.St} {H : Hp} {Q : VK} {K : PySem.W.Frag} {te tl ts : L2.TE} : Stp (tStepL K te tl ts σ H Q) (te σ H fun x H1 => tPart tl σ H1 fun l H2 => tPart ts σ H2 fun st H3 => ∃ a xs lo k, x = .ref a ∧ l = some lo ∧ st = some k ∧ 0 ≤ lo ∧ 0 < k ∧ SqL K H3 a xs ∧ ∀ p, H3 p = none → Q (.ref p) (upd H3 p (.lst (pickS xs lo k)))) := ⟨id⟩
/-! ### comprehensions, of each element a word alone -/
section
variable {σ σ0 : L2.St} {σ2 : V → L2.St} {H : Hp} {Q : VK} {K : PySem.W.Frag} {j : Nat} {t0 te : L2.TE} {vs : List Nat}
theorem m_lcLP [q0 : Wp σ vs σ0] [q2 : ∀ x, StAt σ0 j (some x) (σ2 x)] {xs : List V} (G : Nat → V → V → Prop)
    (h0 : ∀ R : VK, (∀ a H1, Ex H H1 → SqL K H1 a xs → R (.ref a) H1) → t0 σ H R) (hz : xs.length < 16777216)
    (he : ∀ (i : Nat) (x : V) H2, xs[i]? = some x → Ex H H2 → ∀ Q : VK, (∀ y H3, G i x y → Ex H2 H3 → Q y H3) → te (σ2 x) H2 Q)
    (k : ∀ p H2 (ys : List V), H p = none → Ex H H2 → H2 p = some (.lst ys) → ys.length = xs.length → (∀ (i : Nat) (x y : V), xs[i]? = some x → ys[i]? = some y → G i x y) → Q (.ref p) H2) (hw : ∀ x, wipe (σ2 x) vs = σ0 := by intro _; rfl) : tLc (iList K t0) (gName j) tYes te vs σ H Q :=
  h0 _ fun a H1 e1 hx => ⟨a, rfl, ⟨xs, hx⟩, fun D hD => by
    refine lc_list (xs := xs) (fun i H => Ex H1 H ∧ ∃ ys : List V, H D = some (.lst ys) ∧ ys.length = i ∧ i ≤ xs.length ∧ ∀ (j : Nat) (x y : V), xs[j]? = some x → ys[j]? = some y → G j x y) ⟨Ex.new hD, [], upd_same, rfl, Nat.zero_le _, fun j x y _ h => by simp at h⟩ (fun i H _ p => p.1.sql hx) (fun i x H2 hc p => ?_) (fun H2 p => ?_)
    · show wipe ((wipe σ vs).set j (some x)) vs = wipe σ vs ∧ te ((wipe σ vs).set j (some x)) H2 _
      rw [q0.h, (q2 _).h]
      refine ⟨hw _, ?_⟩
      obtain ⟨e, ys, hy, hl, hi, hg⟩ := p
      have hi3 := (List.getElem?_eq_some_iff.mp hc).1
      refine he i x H2 hc (e1.trans e) _ fun y H3 g3 e3 => ⟨ys, e3 _ _ hy, line_lt (by omega), Ex.mut (e.trans e3) hD, ys ++ [y], upd_same, by rw [List.length_append, List.length_singleton]; omega, by omega, fun j x' y' hx' hy' => ?_⟩
      by_cases hj : j < ys.length
      · rw [List.getElem?_append_left hj] at hy'
        exact hg j x' y' hx' hy'
      · have hj2 := (List.getElem?_eq_some_iff.mp hy').1
        rw [List.length_append, List.length_singleton] at hj2
        have : j = i := by omega
        subst this
        rw [List.getElem?_append_right (by omega), hl, Nat.sub_self] at hy'
        rw [hc] at hx'
        rw [← Option.some.inj hx', ← (Option.some.inj hy' : y = y')]
        exact g3
    · obtain ⟨e, ys, hy, hl, hi, hg⟩ := p
      exact k D H2 ys (e1.free hD) (e1.trans e) hy hl hg⟩
theorem m_lcRP {tr : L2.TA} [q0 : Wp σ vs σ0] [q2 : ∀ x, StAt σ0 j (some x) (σ2 x)] {n : Nat} (G : Nat → V → Prop)
    (h0 : ∀ R : List V → Hp → Prop, (∀ (z : Int) H1, z.toNat = n → -(2 ^ 62) ≤ z → z < 2 ^ 62 → Ex H H1 → R [.int z] H1) → tr σ H R) (hz : n < 16777216)
    (he : ∀ (i : Nat) H2, i < n → Ex H H2 → ∀ Q : VK, (∀ y H3, G i y → Ex H2 H3 → Q y H3) → te (σ2 (.int i)) H2 Q)
    (k : ∀ p H2 (ys : List V), H p = none → Ex H H2 → H2 p = some (.lst ys) → ys.length = n → (∀ (i : Nat) (y : V), ys[i]? = some y → G i y) → Q (.ref p) H2) (hw : ∀ x, wipe (σ2 x) vs = σ0 := by intro _; rfl) : tLc (iRng1 tr) (gName j) tYes te vs σ H Q :=
  h0 _ fun z H1 ez hz1 hz2 e1 => ⟨z, rfl, hz1, hz2, fun D hD => by
    rw [ez]
    refine lc_range (n := n) (fun i H => Ex H1 H ∧ ∃ ys : List V, H D = some (.lst ys) ∧ ys.length = i ∧ ∀ (j : Nat) (y : V), ys[j]? = some y → G j y) ⟨Ex.new hD, [], upd_same, rfl, fun j y h => by simp at h⟩ (fun i H3 hi p => ?_) (fun H3 p => ?_)
    · show wipe ((wipe σ vs).set j (some (.int (0 + i)))) vs = wipe σ vs ∧ te ((wipe σ vs).set j (some (.int (0 + i)))) H3 _
      rw [q0.h, (q2 _).h, Int.zero_add]
      refine ⟨hw _, ?_⟩
      obtain ⟨e, ys, hy, hl, hg⟩ := p
      refine he i H3 hi (e1.trans e) _ fun y H4 g4 e4 => ⟨ys, e4 _ _ hy, line_lt (by omega), Ex.mut (e.trans e4) hD, ys ++ [y], upd_same, by rw [List.length_append, List.length_singleton]; omega, fun j y' hy' => ?_⟩
      by_cases hj : j < ys.length
      · rw [List.getElem?_append_left hj] at hy'
        exact hg j y' hy'
      · have hj2 := (List.getElem?_eq_some_iff.mp hy').1
        rw [List.length_append, List.length_singleton] at hj2
        have : j = i := by omega
        subst this
        rw [List.getElem?_append_right (by omega), hl, Nat.sub_self] at hy'
        rw [← (Option.some.inj hy' : y = y')]
        exact g4
    · obtain ⟨e, ys, hy, hl, hg⟩ := p
      exact k D H3 ys (e1.free hD) (e1.trans e) hy hl hg⟩
end
/-! ### lists of texts as data -/
abbrev TT (l : List (List Nat)) : List V := l.map fun x => V.str (T x)
def dT (l : List (List Nat)) : PyData := .list (l.map fun x => PyData.str (T x))
def Okc (l : List Nat) : Prop := PyData.strOk (T l) = true
theorem dpAllT {K : PySem.W.Frag} {H : Hp} : ∀ ns : List (List Nat), DpAll K H (TT ns) (ns.map fun x => PyData.str (T x))
  | [] => .nil
  | n :: ns => .cons (.str _) (dpAllT ns)
theorem dpT {K : PySem.W.Frag} {H : Hp} {p : Addr} {ns : List (List Nat)} (h : SqL K H p (TT ns)) : Dp K H (.ref p) (dT ns) := .lst h (dpAllT ns)
theorem canT : ∀ ns : List (List Nat), (∀ x ∈ ns, Okc x) → PyData.canLayAll0 (ns.map fun x => PyData.str (T x)) = true
  | [], _ => by simp [PyData.canLayAll0]
  | n :: r, h => by
    have h1 : PyData.strOk (T n) = true := h n List.mem_cons_self
    simp [PyData.canLayAll0, PyData.canLay0, canT r (fun x hx => h x (List.mem_cons_of_mem _ hx)), h1]
theorem depT : ∀ ns : List (List Nat), PyData.depthAll (ns.map fun x => PyData.str (T x)) = 0
  | [] => by simp [PyData.depthAll]
  | n :: r => by simp [PyData.depthAll, PyData.depth, depT r]
theorem shT (ns : List (List Nat)) (h : ∀ x ∈ ns, Okc x) : SeqAt.shaped (dT ns) = true := by
  unfold SeqAt.shaped dT
  simp [PyData.canLay0, PyData.depth, canT ns h, depT]
theorem eqvAllT : ∀ as bs : List (List Nat), PyData.eqvAll (as.map fun x => PyData.str (T x)) (bs.map fun x => PyData.str (T x)) = decide (as = bs)
  | [], [] => by simp [PyData.eqvAll]
  | [], _ :: _ => by simp [PyData.eqvAll]
  | _ :: _, [] => by simp [PyData.eqvAll]
  | a :: r, b :: t => by
    simp only [List.map_cons, PyData.eqvAll, PyData.eqv, eqvAllT r t, List.cons.injEq]
    by_cases h : a = b
    · simp [h]
    · have h' : ¬ T a = T b := fun z => h (T_inj.mp z)
      simp [h]
theorem eqvT (as bs : List (List Nat)) : PyData.eqv (dT as) (dT bs) = decide (as = bs) := by
  unfold dT
  simp only [PyData.eqv]
  exact eqvAllT as bs
theorem k_eqT {K : PySem.W.Frag} {H : Hp} {Q : VK} {p q : Addr} {as bs : List (List Nat)} (h1 : SqL K H p (TT as)) (h2 : SqL K H q (TT bs)) (o1 : ∀ x ∈ as, Okc x) (o2 : ∀ x ∈ bs, Okc x) (k : Q (.bl (decide (as = bs))) H) : rEqU K (.ref p) (.ref q) H Q :=
  k_eqD (dpT h1) (dpT h2) (shT _ o1) (shT _ o2) (by rw [eqvT]; exact k)
theorem k_neT {K : PySem.W.Frag} {H : Hp} {Q : VK} {p q : Addr} {as bs : List (List Nat)} (h1 : SqL K H p (TT as)) (h2 : SqL K H q (TT bs)) (o1 : ∀ x ∈ as, Okc x) (o2 : ∀ x ∈ bs, Okc x) (k : Q (.bl (!decide (as = bs))) H) : rNeU K (.ref p) (.ref q) H Q :=
  k_neD (dpT h1) (dpT h2) (shT _ o1) (shT _ o2) (by rw [eqvT]; exact k)
theorem okc_of {l : List Nat} (h : ∀ c ∈ l, c < 128) : Okc l := by
  show (l.toArray.all fun c => decide (c < 0x110000)) = true
  rw [List.all_toArray, List.all_eq_true]
  intro c hc
  exact decide_eq_true (Nat.lt_trans (h c hc) (by decide))
theorem okc_ud {l : List Nat} (h : UD l) : Okc l := okc_of fun c hc => by rcases h c hc with e | e <;> rw [e] <;> decide
theorem okc_w (w : List Bool) : Okc (w.map chM) := okc_of fun c hc => by
  obtain ⟨b, _, rfl⟩ := List.mem_map.mp hc
  cases b <;> decide
/-- a conditional expression, one value either way -/
theorem k_tIfV {c : Bool} {ta tb : L2.TE} {σ : L2.St} {H : Hp} {Q : VK} (v : V) (hA : c = true → ∀ R : VK, R v H → ta σ H R) (hB : c = false → ∀ R : VK, R v H → tb σ H R) (k : Q v H) : if c = true then ta σ H Q else tb σ H Q := by
  cases c
  · rw [if_neg Bool.false_ne_true]; exact hB rfl Q k
  · rw [if_pos rfl]; exact hA rfl Q k
theorem rep_txt (n c : Nat) : (⟨(List.replicate n (T [c]).cps.toList).flatten.toArray⟩ : Str) = T (List.replicate n c) := by
  show T (List.replicate n [c]).flatten = _
  rw [T_inj]
  induction n with
  | zero => rfl
  | succ n ih => rw [List.replicate_succ, List.replicate_succ, List.flatten_cons, ih]; rfl
theorem tt_at {ls : List (List Nat)} {i : Nat} {y : V} (h : (TT ls)[i]? = some y) : ∃ l, ls[i]? = some l ∧ y = .str (T l) := by
  rw [List.getElem?_map] at h
  cases e : ls[i]? with
  | none => rw [e] at h; cases h
  | some l => rw [e] at h; exact ⟨l, rfl, (Option.some.inj h).symm⟩
theorem Mult.mono {B : List Int} {c d : Nat} (h : Mult B c) (hd : c ≤ d) : Mult B d := fun x => Nat.le_trans (h x) hd
theorem atI_zero (x : V) (xs : List V) : atI (x :: xs) 0 = some x := atI_nat (j := 0) (by rfl)
theorem for_zipN {K : PySem.W.Frag} {a b : Addr} {xs ys : List V} {g : TG} {tb : TS} {nx : L2.St → Hp → Prop} {rt : VK} {σ : L2.St} {H : Hp} (hl : xs.length = ys.length) (Pv : Nat → L2.St → Hp → Prop) (h0 : Pv 0 σ H) (hq : ∀ i σ H, Pv i σ H → SqL K H a xs ∧ SqL K H b ys)
    (hs : ∀ (i : Nat) (x y : V) (T : Addr) (σ : L2.St) (H : Hp), xs[i]? = some x → ys[i]? = some y → Pv i σ H → H T = none → g (.ref T) σ (upd H T (.tup [x, y])) fun σ2 H2 => tb ⟨Pv (i + 1), rt, nx, Pv (i + 1)⟩ σ2 H2) (hd : ∀ σ H, Pv xs.length σ H → nx σ H) :
    ∃ W : Nat → Nat → L2.St → Hp → Prop, (∃ m, W 0 m σ H) ∧ ∀ i m σ H, W i m σ H →
      ((Itz K a b).stop i H ∧ nx σ H) ∨ ((Itz K a b).go i H ∧ ∃ N : L2.St → Hp → Prop, (∀ σ' H', N σ' H' → ∃ m', m' < m ∧ W (i + 1) m' σ' H') ∧ ∀ v H', (Itz K a b).yld i H v H' → g v σ H' fun σ2 H2 => tb ⟨N, rt, nx, N⟩ σ2 H2) :=
  RZ.for_zipL (D := ⟨nx, rt, nx, nx⟩) hl Pv h0 hq hs hd
instance i_zip {σ : L2.St} {H : Hp} {K : PySem.W.Frag} {ta : L2.TA} {R : It → Hp → Prop} : Stp (iZip K ta σ H R) (ta σ H fun vs H1 => ∃ a b xs ys, vs = [.ref a, .ref b] ∧ SqL K H1 a xs ∧ SqL K H1 b ys ∧ R (Itz K a b) H1) := ⟨id⟩
theorem k_fbGet3 {σ : L2.St} {H : Hp} {Q : VK} {i : Nat} {z : Int} {b : Bool} {td : L2.TE} (hs : σ[i]? = some (some (.str (T [chM b])))) (hd : ∀ H' (R : VK), Ex H H' → R (.int z) H' → td σ H' R) (k : ∀ H', Ex H H' → Q (.int (sI b)) H') :
    tDGet2 (tDisp [(tC (.str (Str.ofString "f")), tC (.int 1)), (tC (.str (Str.ofString "b")), tUn (rU fun i => .int (-i)) (tC (.int 1)))]) (tVar i) td σ H Q := by
  refine k_disp fun p hp => ?_
  refine tPairs_cons (k_c (k_c (tPairs_cons (k_c (k_un (k_c (k_U (tPairs_nil ?_))))))))
  refine ⟨upd_same, two 102 98 (.int 1) (.int (-1)), by rw [ofs_f, ofs_b]; rfl, by unfold two; decide, ?_⟩
  rw [merge_two (by decide), upd_upd]
  refine ⟨p, rfl, .inl ⟨_, .inl upd_same⟩, k_var hs (hd _ _ (Ex.new hp) ⟨some (.int (sI b)), ?_, k _ (Ex.new hp)⟩)⟩
  have h := DGet.k (k := .inr (T [chM b])) (show upd H p (.dK (two 102 98 (.int 1) (.int (-1)))) p = _ from upd_same)
  rw [val_two (by decide)] at h
  cases b <;> exact h
theorem isN_ref {a : Addr} : decide ((V.ref a) = V.non) = false := decide_eq_false (fun h => by cases h)
end U

set_option Elab.async false
set_option linter.all false
set_option maxRecDepth 100000
set_option maxHeartbeats 4000000
namespace U
open PySem PySem.Spec PyProof.Rows L2
/-! ### comprehensions with any target -/
section
variable {σ σ0 : L2.St} {H : Hp} {Q : VK} {K : PySem.W.Frag} {t0 te : L2.TE} {g : L2.TG} {vs : List Nat}
theorem lcG [q0 : Wp σ vs σ0] {a : Addr} {xs : List V} (G : Nat → V → V → Prop) (hx : SqL K H a xs) (hz : xs.length < 16777216)
    (he : ∀ (i : Nat) (x : V) H2, xs[i]? = some x → Ex H H2 → ∀ Q : VK, (∀ y H3, G i x y → Ex H2 H3 → Q y H3) → g x σ0 H2 fun σ2 H3 => wipe σ2 vs = σ0 ∧ te σ2 H3 Q)
    (k : ∀ p H2 (ys : List V), H p = none → Ex H H2 → H2 p = some (.lst ys) → ys.length = xs.length → (∀ (i : Nat) (x y : V), xs[i]? = some x → ys[i]? = some y → G i x y) → Q (.ref p) H2) :
    ∀ D, H D = none → ∃ W : Nat → Nat → Hp → Prop, (∃ m, W 0 m (upd H D (.lst []))) ∧ ∀ i m H, W i m H →
      ((Itl K a).stop i H ∧ Q (.ref D) H) ∨ ((Itl K a).go i H ∧ ∃ Nx : Hp → Prop, (∀ H', Nx H' → ∃ m', m' < m ∧ W (i + 1) m' H') ∧ ∀ x H', (Itl K a).yld i H x H' → g x (wipe σ vs) H' fun σ2 H2 => wipe σ2 vs = wipe σ vs ∧ tYes σ2 H2 fun b H3 =>
        if b = true then te σ2 H3 fun y H4 => ∃ acc, H4 D = some (.lst acc) ∧ acc.length < sizeLine ∧ Nx (upd H4 D (.lst (acc ++ [y]))) else Nx H3) := fun D hD => by
  refine lc_list (xs := xs) (fun i H2 => Ex H H2 ∧ ∃ ys : List V, H2 D = some (.lst ys) ∧ ys.length = i ∧ i ≤ xs.length ∧ ∀ (j : Nat) (x y : V), xs[j]? = some x → ys[j]? = some y → G j x y) ⟨Ex.new hD, [], upd_same, rfl, Nat.zero_le _, fun j x y _ h => by simp at h⟩ (fun i H _ p => p.1.sql hx) (fun i x H2 hc p => ?_) (fun H2 p => ?_)
  · rw [q0.h]
    obtain ⟨e, ys, hy, hl, hi, hg⟩ := p
    have hi3 := (List.getElem?_eq_some_iff.mp hc).1
    refine he i x H2 hc e _ fun y H3 g3 e3 => ⟨ys, e3 _ _ hy, line_lt (by omega), Ex.mut (e.trans e3) hD, ys ++ [y], upd_same, by rw [List.length_append, List.length_singleton]; omega, by omega, fun j x' y' hx' hy' => ?_⟩
    by_cases hj : j < ys.length
    · rw [List.getElem?_append_left hj] at hy'
      exact hg j x' y' hx' hy'
    · have hj2 := (List.getElem?_eq_some_iff.mp hy').1
      rw [List.length_append, List.length_singleton] at hj2
      have : j = i := by omega
      subst this
      rw [List.getElem?_append_right (by omega), hl, Nat.sub_self] at hy'
      rw [hc] at hx'
      rw [← Option.some.inj hx', ← (Option.some.inj hy' : y = y')]
      exact g3
  · obtain ⟨e, ys, hy, hl, hi, hg⟩ := p
    exact k D H2 ys hD e hy hl hg
end
/-! ### a step along the heights, by the letter's number -/
theorem nb_sI {A : List Int} {i : Nat} (h : i < A.length) (b : Bool) : (nb A i b = none ∧ ¬ (0 ≤ (i : Int) + sI b ∧ (i : Int) + sI b < A.length)) ∨
    ∃ a, nb A i b = some a ∧ (i : Int) + sI b = (sh i b : Nat) ∧ sh i b < A.length ∧ A[sh i b]? = some a := by
  cases hn : nb A i b with
  | some a =>
    obtain ⟨h1, h2, h3⟩ := nb_int hn
    exact .inr ⟨a, rfl, h1, h2, h3⟩
  | none =>
    refine .inl ⟨rfl, ?_⟩
    unfold nb at hn
    unfold sI
    cases b
    · rw [if_neg Bool.false_ne_true] at hn ⊢
      by_cases e : i = 0
      · omega
      · rw [if_neg e, List.getElem?_eq_none_iff] at hn
        omega
    · rw [if_pos rfl, List.getElem?_eq_none_iff] at hn
      rw [if_pos rfl]
      omega
theorem nexts_out (A B : List Int) (p : Pl) : (nexts A B p).map (·.1) = outM A B p := by
  unfold nexts outM
  induction allM with
  | nil => rfl
  | cons m l ih =>
    cases e : nextP A B p m with
    | none =>
      rw [List.filterMap_cons_none (by rw [e]; rfl), List.filter_cons_of_neg (by rw [e]; exact Bool.false_ne_true)]
      exact ih
    | some q =>
      rw [List.filterMap_cons_some (b := (m, q)) (by rw [e]; rfl), List.filter_cons_of_pos (by rw [e]; rfl), List.map_cons, ih]
/-- the moves at a place, one after the other -/
theorem outM_more {A B : List Int} {p : Pl} {i : Nat} {m : Mv} (h : allM[i]? = some m) : ((allM.take (i + 1)).filter fun m => (nextP A B p m).isSome) = ((allM.take i).filter fun m => (nextP A B p m).isSome) ++ if (nextP A B p m).isSome = true then [m] else [] := by
  rw [List.take_add_one, h, List.filter_append]
  show _ ++ List.filter _ [m] = _
  by_cases e : (nextP A B p m).isSome = true
  · rw [if_pos e, List.filter_cons_of_pos (p := fun m => (nextP A B p m).isSome) e]; rfl
  · rw [if_neg e, List.filter_cons_of_neg (p := fun m => (nextP A B p m).isSome) e]; rfl
/-! ### the feet and the tops of two climbs -/
theorem cl_len {A : List Int} {M : Int} (c : Cl A M) (h : 0 < M) : 1 < A.length := by
  by_cases e : 1 < A.length
  · exact e
  · have hp := c.pos
    have h1 := c.foot
    have h2 := c.top
    rw [show A.length - 1 = 0 by omega, h1] at h2
    have := Option.some.inj h2
    omega
theorem cl_first {A : List Int} {M : Int} (c : Cl A M) (h : 0 < M) : nb A 0 true = some 1 ∧ nb A 0 false = none := by
  have hl := cl_len c h
  have e : A[1]? = some (A[1]'hl) := List.getElem?_eq_getElem hl
  have s := c.step 0 0 _ c.foot e
  have l := c.low _ _ e
  refine ⟨?_, rfl⟩
  show A[1]? = some 1
  rw [e]
  congr 1
  omega
theorem cl_end {A : List Int} {M : Int} (c : Cl A M) (h : 0 < M) : nb A (A.length - 1) false = some (M - 1) ∧ nb A (A.length - 1) true = none := by
  have hl := cl_len c h
  have e : A[A.length - 2]? = some (A[A.length - 2]'(by omega)) := List.getElem?_eq_getElem _
  have t := c.top
  have s := c.step (A.length - 2) _ _ e (by rw [show A.length - 2 + 1 = A.length - 1 by omega]; exact t)
  have l := c.high _ _ e
  constructor
  · unfold nb
    rw [if_neg Bool.false_ne_true, if_neg (by omega), show A.length - 1 - 1 = A.length - 2 by omega, e]
    congr 1
    omega
  · unfold nb
    rw [if_pos rfl, List.getElem?_eq_none_iff]
    omega
theorem out_feet {A B : List Int} {M : Int} (ca : Cl A M) (cb : Cl B M) (h : 0 < M) : outM A B (0, 0) = [(true, true)] := by
  obtain ⟨a1, a2⟩ := cl_first ca h
  obtain ⟨b1, b2⟩ := cl_first cb h
  have e : ∀ m : Mv, (nextP A B (0, 0) m).isSome = decide (m = (true, true)) := fun m => by
    obtain ⟨x, y⟩ := m
    unfold nextP
    cases x <;> cases y <;> simp [a1, a2, b1, b2]
  unfold outM
  rw [show (fun m => (nextP A B (0, 0) m).isSome) = fun m => decide (m = (true, true)) from funext e]
  rfl
theorem out_tops {A B : List Int} {M : Int} (ca : Cl A M) (cb : Cl B M) (h : 0 < M) : outM A B (A.length - 1, B.length - 1) = [(false, false)] := by
  obtain ⟨a1, a2⟩ := cl_end ca h
  obtain ⟨b1, b2⟩ := cl_end cb h
  have e : ∀ m : Mv, (nextP A B (A.length - 1, B.length - 1) m).isSome = decide (m = (false, false)) := fun m => by
    obtain ⟨x, y⟩ := m
    unfold nextP
    cases x <;> cases y <;> simp [a1, a2, b1, b2]
  unfold outM
  rw [show (fun m => (nextP A B (A.length - 1, B.length - 1) m).isSome) = fun m => decide (m = (false, false)) from funext e]
  rfl
/-! ### pairs of texts, lists of pairs of numbers, as data -/
def d2T (u v : List Nat) : PyData := .tuple [.str (T u), .str (T v)]
theorem dp2T {K : PySem.W.Frag} {H : Hp} {a : Addr} {u v : List Nat} (h : SqT K H a [.str (T u), .str (T v)]) : Dp K H (.ref a) (d2T u v) := .tup h (.cons (.str _) (.cons (.str _) .nil))
theorem sh2T {u v : List Nat} (hu : Okc u) (hv : Okc v) : SeqAt.shaped (d2T u v) = true := by
  have h1 : PyData.strOk (T u) = true := hu
  have h2 : PyData.strOk (T v) = true := hv
  unfold SeqAt.shaped d2T
  simp [PyData.canLay0, PyData.canLayAll0, PyData.depth, PyData.depthAll, h1, h2]
theorem eqv2T (u v u' v' : List Nat) : PyData.eqv (d2T u v) (d2T u' v') = decide (u = u' ∧ v = v') := by
  unfold d2T
  simp only [PyData.eqv, PyData.eqvAll]
  by_cases h1 : u = u'
  · by_cases h2 : v = v'
    · simp [h1, h2]
    · have : ¬ T v = T v' := fun z => h2 (T_inj.mp z)
      simp [h1, h2]
  · have : ¬ T u = T u' := fun z => h1 (T_inj.mp z)
    simp [h1]
theorem k_eq2T {K : PySem.W.Frag} {H : Hp} {Q : VK} {a b : Addr} {u v u' v' : List Nat} (h1 : SqT K H a [.str (T u), .str (T v)]) (h2 : SqT K H b [.str (T u'), .str (T v')]) (o1 : Okc u) (o2 : Okc v) (o3 : Okc u') (o4 : Okc v') (k : Q (.bl (decide (u = u' ∧ v = v'))) H) : rEqU K (.ref a) (.ref b) H Q :=
  k_eqD (dp2T h1) (dp2T h2) (sh2T o1 o2) (sh2T o3 o4) (by rw [eqv2T]; exact k)
/-- objects of pairs of numbers -/
def PlsR (H : Hp) (ps : List Pl) (xs : List V) : Prop := Paired (PlR H) ps xs
theorem dpAllPl {K : PySem.W.Frag} {H : Hp} : ∀ {ps : List Pl} {xs : List V}, Paired (PlR H) ps xs → DpAll K H xs (ps.map dPl)
  | _, _, .nil => .nil
  | _, _, .cons q t => by
    obtain ⟨a, rfl, h⟩ := q
    exact .cons (dpPl h) (dpAllPl t)
theorem canPl : ∀ ps : List Pl, PyData.canLayAll0 (ps.map dPl) = true
  | [] => by simp [PyData.canLayAll0]
  | p :: r => by
    have := canPl r
    simp [PyData.canLayAll0, PyData.canLay0, dPl] at this ⊢
    exact this
theorem depPl : ∀ ps : List Pl, PyData.depthAll (ps.map dPl) ≤ 1
  | [] => by simp [PyData.depthAll]
  | p :: r => by
    have := depPl r
    simp [PyData.depthAll, PyData.depth, dPl] at this ⊢
    omega
theorem shPls (ps : List Pl) : SeqAt.shaped (.list (ps.map dPl)) = true := by
  have h1 := canPl ps
  have h2 := depPl ps
  unfold SeqAt.shaped
  simp [PyData.canLay0, PyData.depth, h1]
  omega
theorem anyPl (p : Pl) : ∀ ps : List Pl, ((ps.map dPl).any fun z => PyData.eqv z (dPl p)) = decide (p ∈ ps)
  | [] => rfl
  | x :: ps => by
    rw [List.map_cons, List.any_cons, anyPl p ps, eqvPl]
    by_cases h : x = p
    · simp [h]
    · have : ¬ p = x := fun z => h z.symm
      simp [h, this]
theorem k_inPl {K : PySem.W.Frag} {H : Hp} {Q : VK} {a b : Addr} {p : Pl} {ps : List Pl} {xs : List V} (h1 : TP H a p) (h2 : SqL K H b xs) (h3 : Paired (PlR H) ps xs) (k : Q (.bl (decide (p ∈ ps))) H) : rInD K (.ref a) (.ref b) H Q :=
  ⟨dPl p, ps.map dPl, dpPl h1, .lst h2 (dpAllPl h3), shPl _, shPls _, by rw [anyPl]; exact k⟩
theorem k_notInPl {K : PySem.W.Frag} {H : Hp} {Q : VK} {a b : Addr} {p : Pl} {ps : List Pl} {xs : List V} (h1 : TP H a p) (h2 : SqL K H b xs) (h3 : Paired (PlR H) ps xs) (k : Q (.bl (!decide (p ∈ ps))) H) : rNotInD K (.ref a) (.ref b) H Q :=
  ⟨dPl p, ps.map dPl, dpPl h1, .lst h2 (dpAllPl h3), shPl _, shPls _, by rw [anyPl]; exact k⟩
/-! ### ridges by cells -/
def udc (n : Int) : Nat := if n % 2 = 0 then 117 else 100
theorem udc_ud (ns : List Int) : UD (ns.map udc) := fun c hc => by
  obtain ⟨n, _, rfl⟩ := List.mem_map.mp hc
  unfold udc
  split
  · exact .inl rfl
  · exact .inr rfl
theorem udc_at (n : Int) : atI (Str.ofString "ud").cps.toList (n % 2) = some (udc n) := by
  rw [ofs_ud]
  unfold udc
  have h : n % 2 = 0 ∨ n % 2 = 1 := by omega
  rcases h with h | h <;> rw [h] <;> rfl
theorem slT_to (l : List Nat) (k : Nat) : Txt.slice (T l) none (some (k : Int)) = T (l.take k) := SX.slice_to (a := l) (by omega)
theorem slT_from (l : List Nat) (k : Nat) : Txt.slice (T l) (some (k : Int)) none = T (l.drop k) := SX.slice_from (a := l) (by omega)
theorem emod_nat (n : Int) {k : Nat} (h : 0 < k) : ∃ i : Nat, n % (k : Int) = (i : Int) ∧ i < k := by
  have h1 := Int.emod_nonneg n (show (k : Int) ≠ 0 by omega)
  have h2 := Int.emod_lt_of_pos n (show (0 : Int) < k by omega)
  exact ⟨(n % (k : Int)).toNat, by omega, by omega⟩
theorem hu65_of {A : Around} {k : Nat} (hr : Room k A) : A.units + 65 < cLine := by
  have := hr.un
  omega
theorem of_ff : Str.ofString "ff" = mt (true, true) := by decide +kernel
theorem of_fb : Str.ofString "fb" = mt (true, false) := by decide +kernel
theorem of_bf : Str.ofString "bf" = mt (false, true) := by decide +kernel
theorem of_bb : Str.ofString "bb" = mt (false, false) := by decide +kernel
end U

set_option Elab.async false
set_option linter.all false
set_option maxRecDepth 100000
set_option maxHeartbeats 4000000
namespace U
open PySem PySem.Spec PyProof.Rows L2
/-! ### sorted(d), d a dict whose keys are pairs of ints -/
def rSortedDT : List V → Hp → VK → Prop := fun vs H Q => ∃ d kvs, vs = [V.ref d] ∧ Rd H d (.dT kvs) ∧ (∀ kv ∈ kvs, ∃ i j : Int, kv.1 = [.inl i, .inl j]) ∧ ∀ ys p bs, H p = none → IsKeys H kvs bs → List.Perm ys (bs.map V.ref) → Q (.ref p) (upd H p (.lst ys))
theorem perm_back {bs : List Addr} {out : List Value} (h : out.Perm (bs.map Value.ref)) : ∃ cs : List Addr, out = cs.map Value.ref ∧ cs.Perm bs := by
  have hm : ∀ l : List Value, (∀ v ∈ l, ∃ a, v = Value.ref a) → ∃ cs : List Addr, l = cs.map Value.ref := by
    intro l
    induction l with
    | nil => intro _; exact ⟨[], rfl⟩
    | cons v l ih =>
      intro hl
      obtain ⟨a, rfl⟩ := hl v List.mem_cons_self
      obtain ⟨cs, rfl⟩ := ih fun x hx => hl x (List.mem_cons_of_mem _ hx)
      exact ⟨a :: cs, rfl⟩
  obtain ⟨cs, rfl⟩ := hm out fun v hv => by
    obtain ⟨a, _, e⟩ := List.mem_map.mp (h.mem_iff.mp hv)
    exact ⟨a, e.symm⟩
  refine ⟨cs, rfl, ?_⟩
  have g := h.map fun v => match v with | Value.ref a => a | _ => 0
  rw [List.map_map, List.map_map] at g
  have e : ∀ l : List Addr, l.map ((fun v => match v with | Value.ref a => a | _ => 0) ∘ Value.ref) = l := fun l => by
    conv => rhs; rw [← List.map_id l]
    exact List.map_congr_left fun _ _ => rfl
  rw [e, e] at g
  exact g
theorem cr_sortedDT {X : Cx} (hc : X.calm = true) : CallR X (.builtin "sorted") rSortedDT := by
  intro pins s σ H xs us Q I r h
  obtain ⟨d, kvs, rfl, hd, hk2, q⟩ := h
  obtain ⟨u, rfl, rx⟩ := r.one
  cases rx
  obtain ⟨z, hs, ks, pr, o, es, ep, ho, hx, hdt, he, hn⟩ := (show ObjOk X.prog X.w H s.heap d (.dT kvs) from hd.ok I.hok)
  have l1 : es.size = ks.length := size_of_entries he
  have l2 : kvs.length = ks.length := Paired.length pr
  refine Calls.call_function_entry PyProof.Rows.kind_sorted PyProof.Rows.plain_sorted PyProof.Rows.entry_sorted (PyProof.Rows.args_sorted1 _) ?_
  unfold Builtin.«sorted»
  refine wpAny_bind (m := checkCount "sorted" 1 1 _) (wpAny_pure ?_)
  refine wpAny_bind (PySem.W.kdu_collect (A := X.A.in1) (kdl_raw hs hx hdt) (I.ok.hd hc) ho (by omega) fun h' tk acc hk it => ?_)
  have eb : acc.toList = (ks.map fun x => x.2.1).map Value.ref := by
    have hl : acc.toList.length = ks.length := by rw [Array.length_toList, it.1]; exact l1
    rw [List.map_map]
    apply List.ext_getElem?
    intro j
    rw [List.getElem?_map]
    cases hj : acc.toList[j]? with
    | none =>
      have h1 := List.getElem?_eq_none_iff.mp hj
      rw [List.getElem?_eq_none (by omega)]
      rfl
    | some v =>
      obtain ⟨en, hen, hv⟩ := it.2 j v (by rw [← Array.getElem?_toList]; exact hj)
      have qe := entry_at he j
      rw [hen] at qe
      cases hb : ks[j]? with
      | none =>
        rw [hb] at qe
        exact nomatch (show some en = none from qe)
      | some b =>
        rw [hb] at qe
        have e2 : en = entryOfKey (tupleKind (mixKind X.prog X.w)) b := Option.some.inj qe
        rw [hv, e2]
        rfl
  have I1 : Inv X pins σ H { s with heap := h', toks := tk } := I.kept hk
  have hz : acc.toList.length ≤ sizeLine := by rw [eb, List.length_map, List.length_map]; omega
  refine wpAny_bind (wpAny_newList ?_ hz)
  have hoL : (h'.push (seqObj "list" acc.toList.toArray 0)).get? h'.objs.size = some (seqObj "list" acc.toList.toArray 0) := Heap.get?_push_size _ rfl
  show wpAny _ _ _ _ _ { s with heap := h'.push (seqObj "list" acc.toList.toArray 0), toks := tk }
  have I2 : Inv X pins σ H { s with heap := h'.push (seqObj "list" acc.toList.toArray 0), toks := tk } := I1.kept (t' := tk) fun b ob e => Heap.get?_push_of_some _ e
  have hpair : ∀ v ∈ acc.toList, ∃ x y, Srt.IsPair (h'.push (seqObj "list" acc.toList.toArray 0)) v x y := fun v hv => by
    rw [eb] at hv
    obtain ⟨b, hb, rfl⟩ := List.mem_map.mp hv
    obtain ⟨k, hkk, rfl⟩ := List.mem_map.mp hb
    obtain ⟨j, hj⟩ := List.getElem?_of_mem hkk
    obtain ⟨kv, hkv, e1, e2, _⟩ := pair_ta pr hj
    obtain ⟨x, y, e3⟩ := hk2 kv (List.mem_of_getElem? hkv)
    rw [e3] at e2
    obtain ⟨_, its2, r2, ob, hob, hcl, n, hdd⟩ := I2.hok _ _ e2
    obtain ⟨u1, u2, rfl, ri, rj⟩ := vals2 r2
    obtain ⟨t1, rfl⟩ := (show ∃ t, u1 = Value.int x t from ri)
    obtain ⟨t2, rfl⟩ := (show ∃ t, u2 = Value.int y t from rj)
    exact ⟨x, y, _, ob, t1, t2, n, rfl, hob, hcl, hdd⟩
  refine wpAny_bind (wpAny_holding (wpAny_call_entry PyProof.Rows.slot_list_sort ⟨_, hoL, rfl⟩ PyProof.Rows.entry_list_sort
    (Srt.list_sort_any (s := { s with heap := h'.push (seqObj "list" acc.toList.toArray 0), toks := tk }) hoL hz (fun h2 => Srt.pairs_sortable (by omega) hpair fun ob e => ?_) fun out hp => ⟨_, rfl, ?_⟩) (PyProof.Rows.args_list_sort _)))
  · have e' : some ob = some (seqObj "list" acc.toList.toArray 0) := e.symm.trans hoL
    cases e'
    intro c
    exact absurd (Value.type.inj c) (by decide)
  · obtain ⟨e', he'⟩ := PyProof.Rows.sortedHeap_at (vs := acc.toList) (out := out.toArray) hoL
    rw [eb] at hp
    obtain ⟨cs, rfl, hcs⟩ := perm_back hp
    have hlen : (cs.map V.ref).length ≤ sizeLine := by
      rw [List.length_map, hcs.length_eq, List.length_map]
      omega
    refine wpAny_pure ⟨_, rfl, .ref h'.objs.size, upd H h'.objs.size (.lst (cs.map V.ref)), I1.laid (t' := tk) (fun b u e => ?_) (Nat.le_refl _)
      (show ObjOk X.prog X.w _ _ _ (.lst (cs.map V.ref)) from ⟨hlen, cs.map Value.ref, e', vals_refs cs, he'⟩), rfl, q _ _ _ (I1.hok.fresh (Nat.le_refl _)) (isKeys_of pr) (hcs.map V.ref)⟩
    have hb : b < h'.objs.size := Heap.lt_size e
    rw [PyProof.Rows.sortedHeap_old (Nat.ne_of_lt hb) (by rw [size_push']; exact Nat.lt_succ_of_lt hb)]
    exact Heap.get?_push_of_some _ e
end U

set_option Elab.async false
set_option linter.all false
set_option maxRecDepth 100000
set_option maxHeartbeats 4000000
namespace U
open PySem PySem.Spec PyProof.Rows L2
/-! ### pairs of ints -/
abbrev PI := Int × Int
def nP (p : Pl) : PI := (p.1, p.2)
theorem nP_inj {p q : Pl} : nP p = nP q ↔ p = q := ⟨fun h => by
  injection h with h1 h2
  exact Prod.ext (Int.ofNat.inj h1) (Int.ofNat.inj h2), fun h => by rw [h]⟩
def TPi (H : Hp) (a : Addr) (p : PI) : Prop := H a = some (.tup [.int p.1, .int p.2])
def keyI (p : PI) : List Key := [.inl p.1, .inl p.2]
theorem keyI_inj {p q : PI} : keyI p = keyI q ↔ p = q := ⟨fun h => by
  unfold keyI at h
  injection h with h1 h2
  injection h2 with h2 _
  injection h1 with h1
  injection h2 with h2
  exact Prod.ext h1 h2, fun h => by rw [h]⟩
theorem keyP_I (p : Pl) : keyP p = keyI (nP p) := rfl
theorem TPi.key {H : Hp} {a : Addr} {p : PI} (h : TPi H a p) : H a = some (.tup ((keyI p).map kV)) := h
theorem TP.i {H : Hp} {a : Addr} {p : Pl} (h : TP H a p) : TPi H a (nP p) := h
def PiR (H : Hp) (x : PI) (v : V) : Prop := ∃ a, v = .ref a ∧ TPi H a x
theorem PiR.tx {H H' : Hp} (t : Tx H H') {x : PI} {v : V} (h : PiR H x v) : PiR H' x v := by obtain ⟨a, e, h⟩ := h; exact ⟨a, e, t _ _ h⟩
def dPi (p : PI) : PyData := .tuple [.int p.1, .int p.2]
theorem dpPi {K : PySem.W.Frag} {H : Hp} {a : Addr} {p : PI} (h : TPi H a p) : Dp K H (.ref a) (dPi p) := .tup (SqT.of h) (.cons (.int _) (.cons (.int _) .nil))
theorem shPi (p : PI) : SeqAt.shaped (dPi p) = true := by
  unfold SeqAt.shaped dPi
  simp [PyData.canLay0, PyData.canLayAll0, PyData.depth, PyData.depthAll]
theorem eqvPi (p q : PI) : PyData.eqv (dPi p) (dPi q) = decide (p = q) := by
  unfold dPi
  simp only [PyData.eqv, PyData.eqvAll]
  by_cases h : p = q
  · subst h; simp
  · rw [decide_eq_false h]
    have : ¬ (p.1 = q.1 ∧ p.2 = q.2) := fun z => h (Prod.ext z.1 z.2)
    simp
    intro z1 z2
    exact this ⟨z1, z2⟩
theorem k_eqPi {K : PySem.W.Frag} {H : Hp} {Q : VK} {a b : Addr} {p q : PI} (h1 : TPi H a p) (h2 : TPi H b q) (k : Q (.bl (decide (p = q))) H) : rEqU K (.ref a) (.ref b) H Q :=
  k_eqD (dpPi h1) (dpPi h2) (shPi _) (shPi _) (by rw [eqvPi]; exact k)
theorem dpAllPi {K : PySem.W.Frag} {H : Hp} : ∀ {ps : List PI} {xs : List V}, Paired (PiR H) ps xs → DpAll K H xs (ps.map dPi)
  | _, _, .nil => .nil
  | _, _, .cons q t => by
    obtain ⟨a, rfl, h⟩ := q
    exact .cons (dpPi h) (dpAllPi t)
theorem canPi : ∀ ps : List PI, PyData.canLayAll0 (ps.map dPi) = true
  | [] => by simp [PyData.canLayAll0]
  | p :: r => by
    have := canPi r
    simp [PyData.canLayAll0, PyData.canLay0, dPi] at this ⊢
    exact this
theorem depPi : ∀ ps : List PI, PyData.depthAll (ps.map dPi) ≤ 1
  | [] => by simp [PyData.depthAll]
  | p :: r => by
    have := depPi r
    simp [PyData.depthAll, PyData.depth, dPi] at this ⊢
    omega
theorem shPis (ps : List PI) : SeqAt.shaped (.list (ps.map dPi)) = true := by
  have h1 := canPi ps
  have h2 := depPi ps
  unfold SeqAt.shaped
  simp [PyData.canLay0, PyData.depth, h1]
  omega
theorem anyPi (p : PI) : ∀ ps : List PI, ((ps.map dPi).any fun z => PyData.eqv z (dPi p)) = decide (p ∈ ps)
  | [] => rfl
  | x :: ps => by
    rw [List.map_cons, List.any_cons, anyPi p ps, eqvPi]
    by_cases h : x = p
    · simp [h]
    · have : ¬ p = x := fun z => h z.symm
      simp [h, this]
theorem k_inPi {K : PySem.W.Frag} {H : Hp} {Q : VK} {a b : Addr} {p : PI} {ps : List PI} {xs : List V} (h1 : TPi H a p) (h2 : SqL K H b xs) (h3 : Paired (PiR H) ps xs) (k : Q (.bl (decide (p ∈ ps))) H) : rInD K (.ref a) (.ref b) H Q :=
  ⟨dPi p, ps.map dPi, dpPi h1, .lst h2 (dpAllPi h3), shPi _, shPis _, by rw [anyPi]; exact k⟩
theorem k_notInPi {K : PySem.W.Frag} {H : Hp} {Q : VK} {a b : Addr} {p : PI} {ps : List PI} {xs : List V} (h1 : TPi H a p) (h2 : SqL K H b xs) (h3 : Paired (PiR H) ps xs) (k : Q (.bl (!decide (p ∈ ps))) H) : rNotInD K (.ref a) (.ref b) H Q :=
  ⟨dPi p, ps.map dPi, dpPi h1, .lst h2 (dpAllPi h3), shPi _, shPis _, by rw [anyPi]; exact k⟩
theorem eqvAllPi : ∀ as bs : List PI, PyData.eqvAll (as.map dPi) (bs.map dPi) = decide (as = bs)
  | [], [] => by simp [PyData.eqvAll]
  | [], _ :: _ => by simp [PyData.eqvAll]
  | _ :: _, [] => by simp [PyData.eqvAll]
  | a :: r, b :: t => by
    simp only [List.map_cons, PyData.eqvAll, eqvPi, eqvAllPi r t, List.cons.injEq]
    by_cases h : a = b
    · simp [h]
    · simp [h]
theorem k_nePis {K : PySem.W.Frag} {H : Hp} {Q : VK} {a b : Addr} {ps qs : List PI} {xs ys : List V} (h1 : SqL K H a xs) (h2 : Paired (PiR H) ps xs) (h3 : SqL K H b ys) (h4 : Paired (PiR H) qs ys) (k : Q (.bl (!decide (ps = qs))) H) : rNeU K (.ref a) (.ref b) H Q :=
  k_neD (d := .list (ps.map dPi)) (e := .list (qs.map dPi)) (.lst h1 (dpAllPi h2)) (.lst h3 (dpAllPi h4)) (shPis _) (shPis _) (by
    rw [show PyData.eqv (.list (ps.map dPi)) (.list (qs.map dPi)) = decide (ps = qs) by simp only [PyData.eqv]; exact eqvAllPi ps qs]
    exact k)
theorem k_eqPlN {K : PySem.W.Frag} {H : Hp} {Q : VK} {a b : Addr} {p : Pl} (h1 : TP H a p) (h2 : H b = some (.tup [])) (k : Q (.bl false) H) : rEqU K (.ref a) (.ref b) H Q :=
  k_eqD (dpPl h1) (dpNil h2) (shPl _) shNil (by
    rw [show PyData.eqv (dPl p) (.tuple []) = false by unfold dPl; simp [PyData.eqv, PyData.eqvAll]]
    exact k)
theorem k_eqNN {K : PySem.W.Frag} {H : Hp} {Q : VK} {a b : Addr} (h1 : H a = some (.tup [])) (h2 : H b = some (.tup [])) (k : Q (.bl true) H) : rEqU K (.ref a) (.ref b) H Q :=
  k_eqD (dpNil h1) (dpNil h2) shNil shNil (by
    rw [show PyData.eqv (.tuple []) (.tuple []) = true by simp [PyData.eqv, PyData.eqvAll]]
    exact k)
theorem k_eqNon {K : PySem.W.Frag} {H : Hp} {Q : VK} {a : Addr} {p : Pl} (h1 : TP H a p) (k : Q (.bl false) H) : rEqU K .non (.ref a) H Q :=
  k_eqD (d := .none) .non (dpPl h1) (by decide +kernel) (shPl _) (by
    rw [show PyData.eqv .none (dPl p) = false by unfold dPl; simp [PyData.eqv]]
    exact k)
/-! ### places in range -/
structure Inn (A B : List Int) (p : Pl) : Prop where
  one : p.1 < A.length
  two : p.2 < B.length
theorem Vd.inn {A B : List Int} {p : Pl} (v : Vd A B p) : Inn A B p := ⟨v.one, v.two⟩
theorem vd00 (u v : List Nat) : Vd (hts u) (hts v) (0, 0) := ⟨by rw [hts_length]; exact Nat.succ_pos _, by rw [hts_length]; exact Nat.succ_pos _, by
  show (hts u)[0]? = (hts v)[0]?
  rw [hts_get (Nat.zero_le _), hts_get (Nat.zero_le _)]
  rfl⟩
/-- pairs that are shut -/
structure ShutP (A B : List Int) (p : Pl) (ps : List PI) : Prop where
  feet : (0, 0) ∈ ps
  out : nP p ∉ ps
  all : ∀ x ∈ ps, ∃ i j : Nat, x = nP (i, j) ∧ Inn A B (i, j) ∧ ∀ m q, nextP A B (i, j) m = some q → nP q ∈ ps
/-! ### own classes -/
structure AnsC (K : PySem.W.Frag) (C : Addr) (f : Str) : Prop where
  cl : Cls K C
  ha : PySem.W.findIn K (.ref C) "__class__" = some (some (.builtin "object.__class__"))
  hn : PySem.W.specialIn K (.builtin "object.__class__") "__get__" = some (some (.builtin "getset_descriptor.__get__"))
  htk : PySem.W.takesIn K (.builtin "object.__class__") = some true
  hm : PySem.W.mroIn K C (.type "object") = some true
  nf : NoAttr K C f
theorem AnsC.ty {K : PySem.W.Frag} {C : Addr} {f : Str} {H : Hp} {a dx : Addr} {fs : List (Str × V)} (A : AnsC K C f) (e : H a = some (.ins C dx fs)) : TyX K H (.ref a) (.ref C) := .base (.ins e A.cl A.ha A.hn A.htk A.hm)
theorem k_isO {K : PySem.W.Frag} {H : Hp} {Q : VK} {x : V} {C : Value} {D : Addr} {b : Bool} (ty : TyX K H x C) (e : PySem.W.kitOne K C (.ref D) = some b) (k : Q (.bl b) H) : rIsi K [x, .ref D] H Q := ⟨x, .ref D, C, .ref D, b, rfl, .own D, ty, e, k⟩
theorem lk1 (f : Str) (v : V) : ([(f, v)] : List (Str × V)).lookup f = some v := by simp [List.lookup]
theorem lkN {f m : Str} (v : V) (h : (m == f) = false) : ([(f, v)] : List (Str × V)).lookup m = none := by simp [List.lookup, h]
instance i_fld {K : PySem.W.Frag} {σ : L2.St} {H : Hp} {Q : VK} {ta : L2.TE} {f : Str} : Stp (tFld K ta f σ H Q) (ta σ H fun x H1 => ∃ a C dx fs v, x = .ref a ∧ H1 a = some (.ins C dx fs) ∧ Cls K C ∧ NoAttr K C f ∧ fs.lookup f = some v ∧ Q v H1) := ⟨id⟩
instance i_sfld {K : PySem.W.Frag} {σ : L2.St} {H : Hp} {D : Ends} {ta tv : L2.TE} {f : Str} : Stp (sFld K ta tv f D σ H) (tv σ H fun y H1 => ta σ H1 fun x H2 => ∃ a C dx fs, x = .ref a ∧ H2 a = some (.ins C dx fs) ∧ Cls K C ∧ NoAttr K C f ∧ fs.length < 1000 ∧ D.nx σ (upd H2 a (.ins C dx (putF f y fs)))) := ⟨id⟩
instance i_make {σ : L2.St} {H : Hp} {Q : VK} {C : Addr} {sp : Sp} {E : XK} {t : L2.TA} : Stp (tMake C sp [] E t σ H Q) (t σ H fun vs H1 => ∀ x dx, H1 x = none → H1 dx = none → dx ≠ x → sp (.ref x :: (vs ++ [])) (upd (upd H1 dx (.own x)) x (.ins C dx [])) (fun v H2 => v = .non ∧ Q (.ref x) H2) E) := ⟨id⟩
def tShows (C1 C2 : Addr) (m : Str) (sp1 sp2 : Sp) (ta : TE) (t : TA) : TE := fun σ H Q => ta σ H fun x H1 => ∃ a dx fs, x = .ref a ∧ fs.lookup m = none ∧ ((H1 a = some (.ins C1 dx fs) ∧ t σ H1 fun vs H2 => sp1 (x :: vs) H2 Q E0) ∨ (H1 a = some (.ins C2 dx fs) ∧ t σ H1 fun vs H2 => sp2 (x :: vs) H2 Q E0))
instance i_shows {σ : L2.St} {H : Hp} {Q : VK} {C1 C2 : Addr} {m : Str} {sp1 sp2 : Sp} {ta : L2.TE} {t : L2.TA} : Stp (tShows C1 C2 m sp1 sp2 ta t σ H Q) (ta σ H fun x H1 => ∃ a dx fs, x = .ref a ∧ fs.lookup m = none ∧ ((H1 a = some (.ins C1 dx fs) ∧ t σ H1 fun vs H2 => sp1 (x :: vs) H2 Q E0) ∨ (H1 a = some (.ins C2 dx fs) ∧ t σ H1 fun vs H2 => sp2 (x :: vs) H2 Q E0))) := ⟨id⟩
section
variable {X : Cx} {k1 k2 j : Nat} {C1 C2 : Addr} {m : Str} {sp1 sp2 : Sp} {pos apos : Pos} {e o : Expr} {es : List Expr} {ta : TE} {t : TA}
/-- o.m(e, ..), o of one of two classes -/
theorem pe_shows {pl : Sem Bool} (c1 : C8.Met X.prog X.w X.K X.mg X.base k1 C1 m sp1 []) (c2 : C8.Met X.prog X.w X.K X.mg X.base k2 C2 m sp2 []) (hr : Room j X.A) (hk1 : k1 ≤ j) (hk2 : k2 ≤ j) (he : PE X o ta) (ha : PA X (e :: es) t)
    (hst : starEach (e :: es) X.env = (false, eval e X.env) :: starEach es X.env := by rfl) (hpl : (backTo pos (starEach es X.env)).any (·.1) = false := by rfl)
    (ht : eval (.Call (.Attribute o m apos) (e :: es) [] pos) X.env = (do
      let ov ← eval o X.env
      standAt apos.atName
      let (f, first) ← holding [ov] (getMethod ov m pl)
      callWith pos f first (backTo pos (starEach (e :: es) X.env)) (backToKw pos (keywordEach [] X.env))) := by rfl) :
    PE X (.Call (.Attribute o m apos) (e :: es) [] pos) (tShows C1 C2 m sp1 sp2 ta t) := by
  obtain ⟨f1, fd1, ps1, ds1, hc1, hm1, F1, b1, d1⟩ := c1.ex
  obtain ⟨f2, fd2, ps2, ds2, hc2, hm2, F2, b2, d2⟩ := c2.ex
  cases d1
  cases d2
  refine ⟨fun pins s σ H Q I h => ?_⟩
  refine PySem.W.methodCall_KW (pl := pl) (thn (he.run pins s σ H _ I h) fun u s1 ⟨x, H1, I1, rx, a, dx, fs, ex, l, q⟩ => ?_) ht
  subst ex
  obtain rfl : u = Value.ref a := rx
  rcases q with ⟨ea, q⟩ | ⟨ea, q⟩
  · refine getmeth_ok I1 ea hc1 hm1 l ?_
    refine PySem.W.callWith_K (first := [.ref a]) (h₀ := X.base) I.ok.mod.kin hm1.kp (thn (ha.run pos pins s1 σ H1 _ I1 q) fun us s2 ⟨vs, H2, I2, r, q2⟩ => ⟨I2.kIn, ?_⟩) hst hpl
    exact run_fn (us := .ref a :: us) (vs := .ref a :: vs) F1 (hr.mono hk1) b1 .nil pass0 I2 (.cons rfl r) (by rw [List.append_nil]; exact q2)
  · refine getmeth_ok I1 ea hc2 hm2 l ?_
    refine PySem.W.callWith_K (first := [.ref a]) (h₀ := X.base) I.ok.mod.kin hm2.kp (thn (ha.run pos pins s1 σ H1 _ I1 q) fun us s2 ⟨vs, H2, I2, r, q2⟩ => ⟨I2.kIn, ?_⟩) hst hpl
    exact run_fn (us := .ref a :: us) (vs := .ref a :: vs) F2 (hr.mono hk2) b2 .nil pass0 I2 (.cons rfl r) (by rw [List.append_nil]; exact q2)
end
/-! ### a dict of pairs that stand in it -/
def DSet (kvs : List (List Key × V)) (ps : List PI) : Prop := ∀ p : PI, (valV kvs (keyI p)).isSome = true ↔ p ∈ ps
theorem DSet.nil : DSet [] [] := fun p => by rw [valV_nil]; simp
theorem DSet.put {kvs : List (List Key × V)} {ps : List PI} (h : DSet kvs ps) (p : PI) (v : V) : DSet (putK kvs (keyI p) v) (ps ++ [p]) := fun q => by
  rw [valV_put, List.mem_append, List.mem_singleton]
  by_cases e : q = p
  · subst e
    rw [if_pos rfl]
    simp
  · rw [if_neg fun z => e (keyI_inj.mp z)]
    have := h q
    simp [e, this]
instance i_din {σ : L2.St} {H : Hp} {Q : VK} {td ty : L2.TE} : Stp (tDIn ty td σ H Q) (ty σ H fun y H1 => td σ H1 fun x H2 => ∃ a o, x = .ref a ∧ DGet H2 a y o ∧ Q (.bl o.isSome) H2) := ⟨id⟩
instance i_dnewT {σ : L2.St} {H : Hp} {Q : VK} : Stp (tDNewT σ H Q) (∀ p, H p = none → Q (.ref p) (upd H p (.dT []))) := ⟨id⟩
/-- a comprehension over a list that is made there -/
theorem m_lcX {K : PySem.W.Frag} {σ σ0 : L2.St} {H : Hp} {Q : VK} {t0 te : L2.TE} {g : L2.TG} {vs : List Nat} [q0 : Wp σ vs σ0] (Pr : Addr → Hp → List V → Prop) (G : Nat → V → Prop)
    (h0 : ∀ R : VK, (∀ r H1 xs, Ex H H1 → SqL K H1 r xs → xs.length < 16777216 → Pr r H1 xs → R (.ref r) H1) → t0 σ H R)
    (he : ∀ r H1 xs, Ex H H1 → Pr r H1 xs → ∀ (i : Nat) (x : V) H2, xs[i]? = some x → Ex H1 H2 → ∀ Q : VK, (∀ y H3, G i y → Ex H2 H3 → Q y H3) → g x σ0 H2 fun σ2 H3 => wipe σ2 vs = σ0 ∧ te σ2 H3 Q)
    (k : ∀ r H1 xs p H2 (ys : List V), Ex H H1 → Pr r H1 xs → H1 p = none → Ex H1 H2 → H2 p = some (.lst ys) → ys.length = xs.length → (∀ (i : Nat) (y : V), ys[i]? = some y → G i y) → Q (.ref p) H2) : tLc (iList K t0) g tYes te vs σ H Q :=
  h0 _ fun r H1 xs e1 hx hz hp => ⟨r, rfl, ⟨xs, hx⟩, lcG (fun i _ y => G i y) hx hz (he r H1 xs e1 hp) fun p H2 ys n e h hl hG => k r H1 xs p H2 ys e1 hp n e h hl fun i y hy => by
    have hi := (List.getElem?_eq_some_iff.mp hy).1
    exact hG i (xs[i]'(by omega)) y (List.getElem?_eq_getElem (by omega)) hy⟩
theorem paired_perm {α β : Type} {F : α → β → Prop} {m m' : List β} (p : m'.Perm m) : ∀ {l : List α}, Paired F l m → ∃ l' : List α, l'.Perm l ∧ Paired F l' m' := by
  induction p with
  | nil => intro l h; exact ⟨l, .refl _, h⟩
  | cons x p ih =>
    intro l h
    cases h with
    | cons q t =>
      obtain ⟨l', h1, h2⟩ := ih t
      exact ⟨_ :: l', h1.cons _, .cons q h2⟩
  | swap x y r =>
    intro l h
    cases h with
    | cons q t =>
      cases t with
      | cons q2 t2 => exact ⟨_ :: _ :: _, .swap _ _ _, .cons q2 (.cons q t2)⟩
  | trans p1 p2 ih1 ih2 =>
    intro l h
    obtain ⟨l1, h1, h2⟩ := ih2 h
    obtain ⟨l2, h3, h4⟩ := ih1 h2
    exact ⟨l2, h3.trans h1, h4⟩
/-- the pairs that are found, as objects -/
theorem keys_pairs {H : Hp} : ∀ {Es : List En} {kvs : List (List Key × V)} {bs : List Addr}, Paired (EnR H) Es kvs → IsKeys H kvs bs → Paired (PiR H) (Es.map fun e => nP e.1) (bs.map V.ref)
  | _, _, _, .nil, h => by cases h; exact .nil
  | _, _, _, .cons q t, h => by
    cases h with
    | cons q2 t2 =>
      refine .cons ⟨_, rfl, ?_⟩ (keys_pairs t t2)
      rw [q.1] at q2
      exact q2
theorem Bfs.shutP {A B : List Int} {Es : List En} (b : Bfs A B Es.length Es) {p : Pl} (hp : p ∉ Es.map (·.1)) {ps : List PI} (h : ps.Perm (Es.map fun e => nP e.1)) : ShutP A B p ps where
  feet := h.mem_iff.mpr (List.mem_map.mpr ⟨_, List.mem_of_getElem? b.start, rfl⟩)
  out := fun z => by
    obtain ⟨e, he, h2⟩ := List.mem_map.mp (h.mem_iff.mp z)
    exact hp (List.mem_map.mpr ⟨e, he, nP_inj.mp h2⟩)
  all := fun x hx => by
    obtain ⟨e, he, rfl⟩ := List.mem_map.mp (h.mem_iff.mp hx)
    refine ⟨e.1.1, e.1.2, rfl, (b.vd e he).inn, fun m q hq => ?_⟩
    obtain ⟨e2, he2, h2⟩ := List.mem_map.mp (b.all e.1 (List.mem_map.mpr ⟨e, he, rfl⟩) m q hq)
    exact h.mem_iff.mpr (List.mem_map.mpr ⟨e2, he2, by rw [h2]⟩)
/-- a new instance of one field, behind its __init__ -/
theorem made {H : Hp} {x dx l C : Addr} {f : Str} {xs : List V} (nx : H x = none) (nd : H dx = none) (ne : dx ≠ x) (nl : upd (upd H dx (.own x)) x (.ins C dx []) l = none) :
    Ex H (upd (upd (upd (upd H dx (.own x)) x (.ins C dx [])) l (.lst xs)) x (.ins C dx [(f, .ref l)])) ∧ upd (upd (upd (upd H dx (.own x)) x (.ins C dx [])) l (.lst xs)) x (.ins C dx [(f, .ref l)]) x = some (.ins C dx [(f, .ref l)]) ∧
    upd (upd (upd (upd H dx (.own x)) x (.ins C dx [])) l (.lst xs)) x (.ins C dx [(f, .ref l)]) l = some (.lst xs) ∧ H l = none := by
  have e1 : Ex H (upd (upd H dx (.own x)) x (.ins C dx [])) := (Ex.new nd).mk (by rw [upd_ne (Ne.symm ne)]; exact nx)
  have hlx : l ≠ x := fun z => by
    rw [z, upd_same] at nl
    cases nl
  exact ⟨Ex.mut (e1.mk nl) nx, upd_same, by rw [upd_ne hlx]; exact upd_same, e1.free nl⟩
/-- the same, each element told of the heap -/
theorem m_lcXT {K : PySem.W.Frag} {σ σ0 : L2.St} {H : Hp} {Q : VK} {t0 te : L2.TE} {g : L2.TG} {vs : List Nat} [q0 : Wp σ vs σ0] (Pr : Addr → Hp → List V → Prop) (G : Hp → V → Prop) (hT : ∀ H H' y, Tx H H' → G H y → G H' y)
    (h0 : ∀ R : VK, (∀ r H1 xs, Ex H H1 → SqL K H1 r xs → xs.length < 16777216 → Pr r H1 xs → R (.ref r) H1) → t0 σ H R)
    (he : ∀ r H1 xs, Ex H H1 → Pr r H1 xs → ∀ (i : Nat) (x : V) H2, xs[i]? = some x → Ex H1 H2 → ∀ Q : VK, (∀ y H3, G H3 y → Ex H2 H3 → Q y H3) → g x σ0 H2 fun σ2 H3 => wipe σ2 vs = σ0 ∧ te σ2 H3 Q)
    (k : ∀ r H1 xs p H2 (ys : List V), Ex H H1 → Pr r H1 xs → H1 p = none → Ex H1 H2 → H2 p = some (.lst ys) → ys.length = xs.length → (∀ y ∈ ys, G H2 y) → Q (.ref p) H2) : tLc (iList K t0) g tYes te vs σ H Q :=
  h0 _ fun r H1 xs e1 hx hz hp => ⟨r, rfl, ⟨xs, hx⟩, fun D hD => by
    refine lc_list (xs := xs) (fun i H2 => Ex H1 H2 ∧ ∃ ys : List V, H2 D = some (.lst ys) ∧ ys.length = i ∧ i ≤ xs.length ∧ ∀ y ∈ ys, G H2 y) ⟨Ex.new hD, [], upd_same, rfl, Nat.zero_le _, fun y h => absurd h (by simp)⟩ (fun i H _ p => p.1.sql hx) (fun i x H2 hc p => ?_) (fun H2 p => ?_)
    · rw [q0.h]
      obtain ⟨e, ys, hy, hl, hi, hg⟩ := p
      have hi3 := (List.getElem?_eq_some_iff.mp hc).1
      refine he r H1 xs e1 hp i x H2 hc e _ fun y H3 g3 e3 => ⟨ys, e3 _ _ hy, line_lt (by omega), Ex.mut (e.trans e3) hD, ys ++ [y], upd_same, by rw [List.length_append, List.length_singleton]; omega, by omega, fun y' hy' => ?_⟩
      have t3 : Tx H3 (upd H3 D (.lst (ys ++ [y]))) := Tx.lst (e3 _ _ hy)
      rcases List.mem_append.mp hy' with hy' | hy'
      · exact hT _ _ _ (e3.tx.trans t3) (hg y' hy')
      · rw [List.mem_singleton.mp hy']
        exact hT _ _ _ t3 g3
    · obtain ⟨e, ys, hy, hl, hi, hg⟩ := p
      exact k r H1 xs D H2 ys e1 hp hD e hy hl hg⟩
/-- [x for x in range(n) if ..] -/
theorem m_lcRF {σ σ0 : L2.St} {σ2 : V → L2.St} {H : Hp} {Q : VK} {j : Nat} {tr : L2.TA} {tt : L2.TT} {te : L2.TE} {vs : List Nat} [q0 : Wp σ vs σ0] [q2 : ∀ x, StAt σ0 j (some x) (σ2 x)] {n : Nat} (f : Nat → Bool)
    (h0 : ∀ R : List V → Hp → Prop, (∀ (z : Int) H1, z.toNat = n → -(2 ^ 62) ≤ z → z < 2 ^ 62 → Ex H H1 → R [.int z] H1) → tr σ H R) (hz : n < 16777216)
    (ht : ∀ (i : Nat) H2, i < n → Ex H H2 → ∀ R : Bool → Hp → Prop, (∀ H3, Ex H2 H3 → R (f i) H3) → tt (σ2 (.int i)) H2 R)
    (he : ∀ (i : Nat) H2, i < n → Ex H H2 → ∀ Q : VK, (∀ H3, Ex H2 H3 → Q (.int i) H3) → te (σ2 (.int i)) H2 Q)
    (k : ∀ p H2, H p = none → Ex H H2 → H2 p = some (.lst (((List.range n).filter f).map fun (i : Nat) => V.int i)) → Q (.ref p) H2) (hw : ∀ x, wipe (σ2 x) vs = σ0 := by intro _; rfl) : tLc (iRng1 tr) (gName j) tt te vs σ H Q :=
  h0 _ fun z H1 ez hz1 hz2 e1 => ⟨z, rfl, hz1, hz2, fun D hD => by
    rw [ez]
    refine lc_range (n := n) (fun i H => Ex H1 H ∧ H D = some (.lst (((List.range i).filter f).map fun (i : Nat) => V.int i))) ⟨Ex.new hD, upd_same⟩ (fun i H3 hi p => ?_) (fun H3 p => ?_)
    · show wipe ((wipe σ vs).set j (some (.int (0 + i)))) vs = wipe σ vs ∧ tt ((wipe σ vs).set j (some (.int (0 + i)))) H3 _
      rw [q0.h, (q2 _).h, Int.zero_add]
      refine ⟨hw _, ?_⟩
      refine ht i H3 hi (e1.trans p.1) _ fun H4 e4 => ?_
      have hmore : (List.range (i + 1)).filter f = (List.range i).filter f ++ if f i = true then [i] else [] := by
        rw [List.range_succ, List.filter_append]
        by_cases e : f i = true
        · rw [if_pos e, List.filter_cons_of_pos e]; rfl
        · rw [if_neg e, List.filter_cons_of_neg e]; rfl
      by_cases e : f i = true
      · rw [if_pos e]
        rw [if_pos e] at hmore
        refine he i H4 hi (e1.trans (p.1.trans e4)) _ fun H5 e5 => ⟨_, (e4.trans e5) _ _ p.2, ?_, Ex.mut (p.1.trans (e4.trans e5)) hD, ?_⟩
        · rw [List.length_map]
          have := List.length_filter_le f (List.range i)
          rw [List.length_range] at this
          exact line_lt (by omega)
        · rw [upd_same, hmore, List.map_append]
          rfl
      · rw [if_neg e]
        rw [if_neg e, List.append_nil] at hmore
        exact ⟨p.1.trans e4, by rw [hmore]; exact e4 _ _ p.2⟩
    · exact k D H3 (e1.free hD) (e1.trans p.1) p.2⟩
theorem k_tIfM {c : Bool} {ta tb : L2.TE} {σ : L2.St} {H : Hp} {Q : VK} (hA : ∀ R : VK, (∀ m : Mv, R (vM m) H) → ta σ H R) (hB : ∀ R : VK, (∀ m : Mv, R (vM m) H) → tb σ H R) (k : ∀ m : Mv, Q (vM m) H) : if c = true then ta σ H Q else tb σ H Q := by
  cases c
  · rw [if_neg Bool.false_ne_true]; exact hB Q k
  · rw [if_pos rfl]; exact hA Q k
theorem cut_mvs (ms : List Mv) (lo hi : Option Int) : ∃ ns : List Mv, cutV (mvs ms) lo hi = mvs ns ∧ ns.length ≤ ms.length := by
  unfold cutV
  refine ⟨(ms.drop (HT.sIx (mvs ms).length 0 lo)).take (HT.sIx (mvs ms).length (mvs ms).length hi - HT.sIx (mvs ms).length 0 lo), ?_, ?_⟩
  · show _ = List.map vM _
    rw [List.map_take, List.map_drop]
  · rw [List.length_take, List.length_drop]
    omega
instance i_cut {σ : L2.St} {H : Hp} {D : Ends} {t u : L2.TS} : Stp (C8.tCut t u D σ H) (∃ Mid : L2.St → Hp → Prop, t { D with nx := Mid } σ H ∧ ∀ σ' H', Mid σ' H' → u D σ' H') := ⟨id⟩
/-! ### lists of moves, lists of pairs, by what they hold -/
theorem paired_take {α β : Type} {F : α → β → Prop} : ∀ (n : Nat) {l : List α} {m : List β}, Paired F l m → Paired F (l.take n) (m.take n)
  | 0, _, _, _ => by rw [List.take_zero, List.take_zero]; exact .nil
  | n + 1, _, _, .nil => by rw [List.take_nil, List.take_nil]; exact .nil
  | n + 1, _, _, .cons q t => by rw [List.take_succ_cons, List.take_succ_cons]; exact .cons q (paired_take n t)
theorem paired_drop {α β : Type} {F : α → β → Prop} : ∀ (n : Nat) {l : List α} {m : List β}, Paired F l m → Paired F (l.drop n) (m.drop n)
  | 0, _, _, h => h
  | n + 1, _, _, .nil => by rw [List.drop_nil, List.drop_nil]; exact .nil
  | n + 1, _, _, .cons q t => by rw [List.drop_succ_cons, List.drop_succ_cons]; exact paired_drop n t
theorem paired_app {α β : Type} {F : α → β → Prop} {l' : List α} {m' : List β} (h' : Paired F l' m') : ∀ {l : List α} {m : List β}, Paired F l m → Paired F (l ++ l') (m ++ m')
  | _, _, .nil => h'
  | _, _, .cons q t => .cons q (paired_app h' t)
theorem cut_paired {α : Type} {F : α → V → Prop} {l : List α} {m : List V} (h : Paired F l m) (lo hi : Option Int) : ∃ l', Paired F l' (cutV m lo hi) ∧ l'.length ≤ l.length := by
  unfold cutV
  refine ⟨_, paired_take _ (paired_drop _ h), ?_⟩
  rw [List.length_take, List.length_drop]
  omega
/-- a list of moves, at most n -/
def MvL (K : PySem.W.Frag) (H : Hp) (n : Nat) (y : V) : Prop := ∃ l ms, y = .ref l ∧ SqL K H l (mvs ms) ∧ ms.length ≤ n
def PsL (K : PySem.W.Frag) (H : Hp) (n : Nat) (y : V) : Prop := ∃ l ps xs, y = .ref l ∧ SqL K H l xs ∧ Paired (PiR H) ps xs ∧ ps.length ≤ n
theorem MvL.ex {K : PySem.W.Frag} {H H' : Hp} {n : Nat} {y : V} (h : MvL K H n y) (e : Ex H H') : MvL K H' n y := by
  obtain ⟨l, ms, h1, h2, h3⟩ := h
  exact ⟨l, ms, h1, e.sql h2, h3⟩
theorem PsL.ex {K : PySem.W.Frag} {H H' : Hp} {n : Nat} {y : V} (h : PsL K H n y) (e : Ex H H') : PsL K H' n y := by
  obtain ⟨l, ps, xs, h1, h2, h3, h4⟩ := h
  exact ⟨l, ps, xs, h1, e.sql h2, Paired.mono (fun _ _ z => PiR.tx e.tx z) h3, h4⟩
theorem MvL.le {K : PySem.W.Frag} {H : Hp} {n m : Nat} {y : V} (h : MvL K H n y) (e : n ≤ m) : MvL K H m y := by
  obtain ⟨l, ms, h1, h2, h3⟩ := h
  exact ⟨l, ms, h1, h2, by omega⟩
theorem PsL.le {K : PySem.W.Frag} {H : Hp} {n m : Nat} {y : V} (h : PsL K H n y) (e : n ≤ m) : PsL K H m y := by
  obtain ⟨l, ps, xs, h1, h2, h3, h4⟩ := h
  exact ⟨l, ps, xs, h1, h2, h3, by omega⟩
/-- a cut of a list of moves, two of them behind each other, a display of moves -/
theorem k_slMv {K : PySem.W.Frag} {H : Hp} {Q : VK} {n : Nat} {y : V} {lo hi : Option Int} (h : MvL K H n y) (k : ∀ p H', Ex H H' → H p = none → MvL K H' n (.ref p) → Q (.ref p) H') : rSlL K y lo hi H Q := by
  obtain ⟨l, ms, rfl, h2, h3⟩ := h
  obtain ⟨ns, h4, h5⟩ := cut_mvs ms lo hi
  refine k_slL h2 fun p np => ?_
  rw [h4]
  exact k p _ (Ex.new np) np ⟨p, ns, rfl, SqL.of upd_same, by omega⟩
theorem k_slPs {K : PySem.W.Frag} {H : Hp} {Q : VK} {n : Nat} {y : V} {lo hi : Option Int} (h : PsL K H n y) (k : ∀ p H', Ex H H' → H p = none → PsL K H' n (.ref p) → Q (.ref p) H') : rSlL K y lo hi H Q := by
  obtain ⟨l, ps, xs, rfl, h2, h3, h4⟩ := h
  obtain ⟨qs, h5, h6⟩ := cut_paired h3 lo hi
  refine k_slL h2 fun p np => k p _ (Ex.new np) np ⟨p, qs, _, rfl, SqL.of upd_same, Paired.mono (fun _ _ z => PiR.tx (Ex.new np).tx z) h5, by omega⟩
theorem k_addMv {K : PySem.W.Frag} {H : Hp} {Q : VK} {n m : Nat} {x y : V} (h : MvL K H n x) (g : MvL K H m y) (hz : n + m ≤ 16000000) (k : ∀ p H', Ex H H' → H p = none → MvL K H' (n + m) (.ref p) → Q (.ref p) H') : rAddU K x y H Q := by
  obtain ⟨l, ms, rfl, h2, h3⟩ := h
  obtain ⟨l', ms', rfl, g2, g3⟩ := g
  refine k_addL h2 g2 (by rw [mvs_len, mvs_len]; exact line_le (by omega)) fun p np => k p _ (Ex.new np) np ⟨p, ms ++ ms', rfl, SqL.of (by rw [upd_same]; unfold mvs; rw [List.map_append]), by rw [List.length_append]; omega⟩
theorem k_addPs {K : PySem.W.Frag} {H : Hp} {Q : VK} {n m : Nat} {x y : V} (h : PsL K H n x) (g : PsL K H m y) (hz : n + m ≤ 16000000) (k : ∀ p H', Ex H H' → H p = none → PsL K H' (n + m) (.ref p) → Q (.ref p) H') : rAddU K x y H Q := by
  obtain ⟨l, ps, xs, rfl, h2, h3, h4⟩ := h
  obtain ⟨l', ps', xs', rfl, g2, g3, g4⟩ := g
  have h5 := h3.length
  have g5 := g3.length
  refine k_addL h2 g2 (line_le (by omega)) fun p np => k p _ (Ex.new np) np ⟨p, ps ++ ps', xs ++ xs', rfl, SqL.of upd_same, Paired.mono (fun _ _ z => PiR.tx (Ex.new np).tx z) (paired_app g3 h3), by rw [List.length_append]; omega⟩
theorem MvL.new {K : PySem.W.Frag} {H : Hp} {p : Addr} {xs : List V} (ms : List Mv) (h : xs = mvs ms) : MvL K (upd H p (.lst xs)) ms.length (.ref p) := ⟨p, ms, rfl, SqL.of (by rw [upd_same, h]), Nat.le_refl _⟩
/-- a list of such -/
def AllL (K : PySem.W.Frag) (F : Hp → V → Prop) (H : Hp) (n : Nat) (y : V) : Prop := ∃ l ys, y = .ref l ∧ SqL K H l ys ∧ ys.length ≤ n ∧ ∀ z ∈ ys, F H z
theorem AllL.ex {K : PySem.W.Frag} {F : Hp → V → Prop} (hF : ∀ H H' y, Ex H H' → F H y → F H' y) {H H' : Hp} {n : Nat} {y : V} (h : AllL K F H n y) (e : Ex H H') : AllL K F H' n y := by
  obtain ⟨l, ys, h1, h2, h3, h4⟩ := h
  exact ⟨l, ys, h1, e.sql h2, h3, fun z hz => hF _ _ _ e (h4 z hz)⟩
theorem AllL.new {K : PySem.W.Frag} {F : Hp → V → Prop} (hF : ∀ H H' y, Ex H H' → F H y → F H' y) {H : Hp} {p : Addr} {xs : List V} (np : H p = none) (h : ∀ z ∈ xs, F H z) : AllL K F (upd H p (.lst xs)) xs.length (.ref p) :=
  ⟨p, xs, rfl, SqL.of upd_same, Nat.le_refl _, fun z hz => hF _ _ _ (Ex.new np) (h z hz)⟩
theorem k_addAll {K : PySem.W.Frag} {F : Hp → V → Prop} (hF : ∀ H H' y, Ex H H' → F H y → F H' y) {H : Hp} {Q : VK} {n m : Nat} {x y : V} (h : AllL K F H n x) (g : AllL K F H m y) (hz : n + m ≤ 16000000) (k : ∀ p H', Ex H H' → AllL K F H' (n + m) (.ref p) → Q (.ref p) H') : rAddU K x y H Q := by
  obtain ⟨l, ys, rfl, h2, h3, h4⟩ := h
  obtain ⟨l', ys', rfl, g2, g3, g4⟩ := g
  refine k_addL h2 g2 (line_le (by omega)) fun p np => k p _ (Ex.new np) ⟨p, ys ++ ys', rfl, SqL.of upd_same, by rw [List.length_append]; omega, fun z hz => hF _ _ _ (Ex.new np) ?_⟩
  rcases List.mem_append.mp hz with hz | hz
  · exact h4 z hz
  · exact g4 z hz
theorem paired_of {α : Type} {F : α → V → Prop} : ∀ ys : List V, (∀ y ∈ ys, ∃ p, F p y) → ∃ ps : List α, Paired F ps ys
  | [], _ => ⟨[], .nil⟩
  | y :: ys, h => by
    obtain ⟨p, hp⟩ := h y List.mem_cons_self
    obtain ⟨ps, hps⟩ := paired_of ys fun z hz => h z (List.mem_cons_of_mem _ hz)
    exact ⟨p :: ps, .cons hp hps⟩
def mvAt (n : Int) : Mv := allM.getD (n / 4 % 4).toNat (true, true)
theorem mvAt_ix (n : Int) : atI vMOVES (n / 4 % 4) = some (vM (mvAt n)) := by
  have h : n / 4 % 4 = 0 ∨ n / 4 % 4 = 1 ∨ n / 4 % 4 = 2 ∨ n / 4 % 4 = 3 := by omega
  unfold mvAt
  rw [vMOVES_eq]
  rcases h with h | h | h | h <;> rw [h]
  · exact atI_nat (j := 0) (by rfl)
  · exact atI_nat (j := 1) (by rfl)
  · exact atI_nat (j := 2) (by rfl)
  · exact atI_nat (j := 3) (by rfl)
structure AnsK2 (K : PySem.W.Frag) (W S : Addr) : Prop where
  ww : PySem.W.kitOne K (.ref W) (.ref W) = some true
  sw : PySem.W.kitOne K (.ref S) (.ref W) = some false
theorem for_rangeN {lo : Int} {n : Nat} {g : TG} {tb : TS} {nx : L2.St → Hp → Prop} {rt : VK} {σ : L2.St} {H : Hp} (Pv : Nat → L2.St → Hp → Prop) (h0 : Pv 0 σ H)
    (hs : ∀ i σ H, i < n → Pv i σ H → g (.int (lo + i)) σ H fun σ2 H2 => tb ⟨Pv (i + 1), rt, nx, Pv (i + 1)⟩ σ2 H2) (hd : ∀ σ H, Pv n σ H → nx σ H) :
    ∃ W : Nat → Nat → L2.St → Hp → Prop, (∃ m, W 0 m σ H) ∧ ∀ i m σ H, W i m σ H →
      ((Itr lo n).stop i H ∧ nx σ H) ∨ ((Itr lo n).go i H ∧ ∃ N : L2.St → Hp → Prop, (∀ σ' H', N σ' H' → ∃ m', m' < m ∧ W (i + 1) m' σ' H') ∧ ∀ x H', (Itr lo n).yld i H x H' → g x σ H' fun σ2 H2 => tb ⟨N, rt, nx, N⟩ σ2 H2) :=
  for_range (D := ⟨nx, rt, nx, nx⟩) Pv h0 hs hd
end U

set_option Elab.async false
set_option linter.all false
set_option maxRecDepth 100000
set_option maxHeartbeats 4000000
namespace U
open PySem PySem.Spec PyProof.Rows L2
/-! ### a list comprehension whose element's call may raise -/
/-- the block's context, its errors those of a call -/
abbrev blkE (X : Cx) (E : XK) (s : Shared) (H : Hp) (scope : Scope) (cenv : Env) (fp : List Addr) : Cx :=
  { X.blk s H scope cenv fp with xe := fun e s' => ∃ pins σ H1 s1, Inv (X.blk s H scope cenv fp) pins σ H1 s1 ∧ L2N.CX X.prog X.w X.stack H1 s1 E e s' }
/-- what is wished of errors says nothing of a state -/
theorem inv_xe {X : Cx} {xe : Value → Shared → Prop} {pins : List (Addr × Obj)} {σ : L2.St} {H : Hp} {s : Shared} (I : Inv X pins σ H s) : Inv { X with xe := xe } pins σ H s := by
  obtain ⟨ok, a, b, c, d, e, f, g, h, i, j⟩ := I
  obtain ⟨a1, a2, a3, a4, a5, a6, a7, a8, a9, a10, a11, a12, a13, a14, a15, a16, a17, a18⟩ := ok
  exact ⟨⟨a1, a2, a3, a4, a5, a6, a7, a8, a9, a10, a11, a12, a13, a14, a15, a16, a17, a18⟩, a, b, c, d, e, f, g, h, i, j⟩
/-- the element's call lets out -/
theorem passBlk {X : Cx} {E : XK} {s0 : Shared} {H0 : Hp} {scope : Scope} {ce : Env} {fp : List Addr} : Passes (L2N.CX X.prog X.w) (blkE X E s0 H0 scope ce fp) E :=
  fun pins σ H s e s' I c => ⟨pins, σ, H, s, inv_xe (xe := fun _ _ => False) I, c⟩
theorem noteFrame_frame {e : Value} {ce env : Env} (h : ce.frame = env.frame) : noteFrame e ce = noteFrame e env := by
  unfold noteFrame PySem.frameOf
  rw [h]
/-- where a block has begun: the def's state just ahead of it -/
structure Bk (X : Cx) (pins : List (Addr × Obj)) (σ : L2.St) (H : Hp) (s : Shared) (ce : Env) (fp : List Addr) : Prop where
  inv : Inv X pins σ H s
  turns : ∀ b ∈ fp, FpOk X pins H b
  names : ce.locals = s.heap.objs.size
  frame : ce.frame = X.env.frame
section
variable {X : Cx} {E : XK} {pins pins' : List (Addr × Obj)} {σ σ' : L2.St} {H H' : Hp} {s s' s1 : Shared} {scope : Scope} {ce : Env} {fp : List Addr}
/-- from the block's state to the def's -/
theorem Bk.back (k : Bk X pins σ H s ce fp) (J : Inv (X.blk s H scope ce fp) pins' σ' H' s1) : Inv X pins σ H' s1 ∧ (∃ m, s1.heap.Ns ce.locals m) ∧ FpOk X pins H' ce.locals := by
  have all : ∀ b ∈ fp, (b ∈ X.ex ∨ X.s_0.heap.objs.size ≤ b) ∧ b ≠ X.env.locals ∧ (∀ x c, X.env.cells.lookup x = some c → c ≠ b) ∧ ∀ p ∈ X.pn ++ pins, p.1 ≠ b := fun b hb => by
    obtain ⟨_, q1, _, q2, q3, q4⟩ := k.turns b hb
    exact ⟨q2, q1, q3, q4⟩
  obtain ⟨m, hm, _⟩ := J.loc
  exact ⟨k.inv.call' J.os J.base J.hok J.bare all, ⟨m, hm⟩, k.inv.fpOk (Nat.le_of_eq k.names.symm) J.free⟩
/-- an error out of the element's call leaves the block, then goes on in the def -/
theorem Bk.err (k : Bk X pins σ H s ce fp) (hs : X.stack = X.env :: X.outer) (hf : X.env.frame = some X.env.locals) (tk : L2N.Takes X fun cls d _ H => E cls d H) (J : Inv (X.blk s H scope ce fp) pins' σ' H' s1) {u : Value} (c : L2N.CX X.prog X.w X.stack H' s1 E u s') :
    notedBy (model X.prog X.w) X.A ce (CompFails (model X.prog X.w) X.A X.xe ce) u s' := by
  obtain ⟨I1, ⟨m1, oC1, es1, ep1, g1, _, _⟩, _⟩ := k.back J
  -- the names of the block still stand
  obtain ⟨m, oC, es, ep, gC, dC, sC, fC⟩ : ∃ m, s'.heap.Ns ce.locals m := by
    obtain ⟨_, _, sJ, _, _, _, _, _, _, J2, _, up, _⟩ := L2N.XE.of_call (X := X.blk s H scope ce fp) (W := fun _ _ _ _ => True) J (fun _ _ _ _ => trivial) c
    obtain ⟨m, ⟨o, es, ep, e1, e2, e3, e4⟩, _⟩ := J2.loc
    obtain ⟨sl, e5⟩ := up _ o e1 fun vs z => Data.noConfusion (e2.symm.trans z)
    exact ⟨m, _, es, ep, e5, e2, e3, e4⟩
  have noRec : ∀ {b : Addr} {o : Obj} {vs : Array Value}, s'.heap.get? b = some o → o.data = .fields vs → b ≠ ce.locals := fun {b o vs} e q z => by
    subst z
    obtain rfl := Option.some.inj (gC.symm.trans e)
    exact Data.noConfusion (dC.symm.trans q)
  -- the error, told in the def's own context
  have c2 : L2N.CX X.prog X.w X.stack H' s1 (fun cls d G => E cls d G ∧ G ce.locals = none) u s' := by
    obtain ⟨a, B, G, cls, d, q1, q2, q3, q4, q5, q6, q7, q8⟩ := c
    exact ⟨a, B, G, cls, d, q1, q2, q3, q4, q5, q6, q7, q8, q4.free _ _ g1 J.free⟩
  obtain ⟨a, B, sI, pl, σ2, G, cls, d, rfl, I2, nb, up, sky, na, os, ag, hE, hC⟩ := L2N.XE.of_call (W := fun cls d _ G => E cls d G ∧ G ce.locals = none) I1 (fun _ _ _ h => h) c2
  have hfr : X.A.frames = some (X.env :: X.outer) := I1.ok.frames.trans (congrArg some hs)
  rw [hs] at sky
  unfold notedBy
  rw [noteFrame_frame k.frame]
  have held : ∀ {Q : Unit → Shared → Prop} {E₁ : Value → Shared → Prop}, (∀ h, HandSPX.HeldZ B (X.env :: X.outer) a (L2N.Zn cls d) X.env.locals h → s'.heap.UpToSlots h → Q () { s' with heap := h }) → wpAny (model X.prog X.w) X.A (noteFrame (.ref a) X.env) Q E₁ s' := fun {Q E₁} fin => by
    rcases sky with ⟨y1, y2, y3, oe, vs, y4, y5, y6, y7⟩ | fl | hh
    · exact PXN.look_newZ L2N.Zn.steady hfr y3 hf y4 y1 y2 y6 y7 y5 fin
    · exact PXN.looks_onZ L2N.Zn.steady hfr hf fl fin
    · exact HandSPX.againZ hf hh.2.2.2 (fin s'.heap hh (Heap.UpToSlots.refl _))
  refine held fun h1 hh up1 => ?_
  obtain ⟨t1, t2, t3, oe, vs, T, oT, ts, t4, t5, t6, t7, t8, t9, t10, t11, t12⟩ := hh
  obtain ⟨sl, gC1⟩ := up1 _ _ gC fun vs z => Data.noConfusion (dC.symm.trans z)
  have noRec1 : ∀ {b : Addr} {o : Obj} {vs : Array Value}, h1.get? b = some o → o.data = .fields vs → b ≠ ce.locals := fun {b o vs} e q z => by
    subst z
    obtain rfl := Option.some.inj (gC1.symm.trans e)
    exact Data.noConfusion (dC.symm.trans q)
  refine ⟨m, ⟨_, es, ep, gC1, dC, sC, fC⟩, fun h2 m2 hn2 sb => ?_⟩
  -- the ground without the block's names
  obtain ⟨B2, w1, w2⟩ := restrict B fun b => decide (b ≠ ce.locals)
  have inB : ∀ b o, B2.get? b = some o → b ≠ ce.locals ∧ B.get? b = some o := fun b o q => by
    by_cases z : b = ce.locals
    · exact nomatch (w2 b (decide_eq_false fun n => n z)).symm.trans q
    · exact ⟨z, (w1 b (decide_eq_true z)).symm.trans q⟩
  have outB : ∀ b, B.get? b = none → B2.get? b = none := fun b q => by
    cases z : B2.get? b with
    | none => rfl
    | some o => exact nomatch q.symm.trans (inB b o z).2
  have fl2 : HandSPX.TracedZ h2 B2 a (L2N.Zn cls d) (rawInt X.env.locals) :=
    ⟨oe, vs, T, oT, ts, (sb.2 a (noRec1 t4 t6)).trans t4, t5, t6, t7, outB T t8, t9, (sb.2 T (noRec1 t10 t11)).trans t10, t11, t12⟩
  have st2 : B2.StaysIn h2 := fun b o q => (sb.2 b (inB b o q).1).trans (t1 b o (inB b o q).2)
  have ff2 : h2.FunFrames B2 (X.env :: X.outer) := funFrames_none (Heap.FunFrames.sameBut sb hn2 t3) fun b hb => outB b (t3.mem hb).1
  unfold PySem.passOn
  refine wpAny_bind (wpAny_field (s := { s' with heap := h2 }) ((sb.2 a (noRec1 t4 t6)).trans t4) t6 t7 ?_)
  rw [if_neg (show ¬ (Value.ref T == Value.none) = true by simp)]
  have last : wpAny (model X.prog X.w) X.A (setFlight (.ref a) ce.frame) (fun _ s4 => wpAny (model X.prog X.w) X.A (throw (.ref a) : Sem Value) (fun _ _ => False) X.xe s4) X.xe { s' with heap := h2 } := by
    rw [k.frame, hf]
    refine HandSPX.setFlight_anyZ (s := { s' with heap := h2 }) st2 ff2 fl2 fun h3 v1 v2 v3 up3 => wpAny_throw (tk _ _ ?_)
    obtain ⟨D, d1, d2⟩ := restrict sI.heap fun b => decide (b ≠ ce.locals)
    have inD : ∀ b o, D.get? b = some o → b ≠ ce.locals ∧ sI.heap.get? b = some o := fun b o q => by
      by_cases z : b = ce.locals
      · exact nomatch (d2 b (decide_eq_false fun n => n z)).symm.trans q
      · exact ⟨z, (d1 b (decide_eq_true z)).symm.trans q⟩
    obtain ⟨r0, r1, r2, r3, r4, r5⟩ := k.inv.fpOk (H' := G) (Nat.le_of_eq k.names.symm) hC
    have I3 : Inv X [] σ2 G { sI with heap := D } := (Inv.unpinned (pins := []) (pl := pl) I2).turned (t' := sI.toks) (fun b o z q => (d1 b (decide_eq_true z)).trans q) r0 r1 r3 r4 fun p hp => r5 p (List.mem_append_left _ (by simpa using hp))
    refine ⟨a, B2, _, [], σ2, G, cls, d, rfl, I3, fun b o q hb => ?_, fun b o q nf => ?_, ?_, na, os, ag, hE⟩
    · obtain ⟨z, q⟩ := inD b o q
      exact (w1 b (decide_eq_true z)).trans (nb b o q hb)
    · obtain ⟨z, q⟩ := inD b o q
      obtain ⟨_, q1⟩ := up b o q nf
      obtain ⟨l2, q2⟩ := up1 b _ q1 nf
      exact up3 b { o with slots := l2 } ((sb.2 b z).trans q2) nf
    · rw [hs]
      exact .inr (.inr ⟨v1, outB a t2, v2, v3⟩)
  first
    | exact wpAny_bind (wpAny_pure (wpAny_bind last))
    | exact wpAny_bind last
end
end U
namespace CE
open PySem PySem.Spec PyProof.Rows L2
section
variable {X : Cx} {E : XK} {pins : List (Addr × Obj)} {σ : L2.St} {H : Hp} {s : Shared} {scope : Scope} {ce : Env} {fp : List Addr} {it D : Addr} {tg elt iter : Expr} {pos : Pos} {g : TG} {te : TE} {J : It} {tn : Nat → Heap → Prop} {vs : List Nat}
/-- all turns of the block's loop -/
theorem turns (k : U.Bk X pins σ H s ce fp) (hc : X.calm = true) (hs : X.stack = X.env :: X.outer) (hf : X.env.frame = some X.env.locals) (tk : L2N.Takes X fun cls d _ H => E cls d H) (T : Turn X.prog X.w X.K tg J fp it tn)
    (pg : PG (X.blk s H scope ce fp) tg g) (pe : PE (U.blkE X E s H scope ce fp) elt te) {use : Option (Value → Sem Unit)} {Qf : Value → Shared → Prop} {Done : Hp → Prop} (W : Nat → Nat → Hp → Prop)
    (step : ∀ i m G, W i m G → (J.stop i G ∧ Done G) ∨ (J.go i G ∧ ∃ Nx : Hp → Prop, (∀ G', Nx G' → ∃ m', m' < m ∧ W (i + 1) m' G') ∧ ∀ x G', J.yld i G x G' → g x (wipe σ vs) G' fun σ2 G2 => wipe σ2 vs = wipe σ vs ∧
      te σ2 G2 fun y G3 => ∃ acc, G3 D = some (.lst acc) ∧ acc.length < sizeLine ∧ Nx (upd G3 D (.lst (acc ++ [y])))))
    (fin : ∀ s' G, Inv X pins σ G s' → Done G → (∃ m, s'.heap.Ns ce.locals m) → FpOk X pins G ce.locals → compEnds (model X.prog X.w) X.A X.xe use Qf (.ref D) ce (.ok .next) s')
    {s0 : Shared} {m0 : Nat} (B0 : Inv (X.blk s H scope ce fp) [] (wipe σ vs) H s0) (t0 : tn 0 s0.heap) (w0 : W 0 m0 H) :
    codeAny (model X.prog X.w) X.A (.compLoop (.ListComp elt [⟨tg, iter, [], 0⟩] scope pos) 0 (.ref it) (.ref D) ce) (compEnds (model X.prog X.w) X.A X.xe use Qf (.ref D) ce) s0 := by
  have ours : ∀ {σ' : L2.St} {G : Hp} {s' : Shared}, Inv (X.blk s H scope ce fp) [] σ' G s' → (∀ b ∈ fp, G b = none) → ∀ b ∈ fp, FpOk (X.blk s H scope ce fp) [] G b := fun {σ' G s'} B hn b hb => by
    obtain ⟨z1, z2⟩ := B.ok.exf b hb
    exact ⟨hn b hb, z1, B.ok.exfs b hb, .inl hb, z2, fun p hp => nomatch (show p ∈ ([] : List (Addr × Obj)) from hp)⟩
  refine compLoop_any (fun m s' => ∃ i G, Inv (X.blk s H scope ce fp) [] (wipe σ vs) G s' ∧ tn i s'.heap ∧ (∀ b ∈ fp, G b = none) ∧ W i m G) ?_ m0 ⟨0, H, B0, t0, fun b hb => (k.turns b hb).1, w0⟩
  rintro m s1 ⟨i, G, B, tt, hn, w⟩
  obtain ⟨stop, hd⟩ | ⟨go, Nx, less, body⟩ := step i m G w
  · refine thnF (T.done (X.blk s H scope ce fp) rfl rfl rfl hc i [] s1 _ G _ B (ours B hn) tt stop) ?_
    rintro _ s2 ⟨rfl, B2⟩
    obtain ⟨I2, hm, hfp⟩ := k.back B2
    exact fin s2 G I2 hd hm hfp
  refine thnF (T.item (X.blk s H scope ce fp) rfl rfl rfl hc i [] s1 _ G _ B (ours B hn) tt go) ?_
  rintro _ s2 ⟨u, rfl, p2⟩
  refine thnF p2 fun _ s3 p3 => ?_
  obtain ⟨x, G3, B3, rx, hy, tt3, hn3⟩ := p3
  have P3 := B3.pinned (ours B3 hn3) (T.obj _ _ tt3)
  refine thnF (pg.run _ s3 _ G3 x u _ P3 rx (body x G3 hy)) fun _ s4 p4 => ?_
  obtain ⟨σ4, G4, P4, hw4, q4⟩ := p4
  refine wpAny_tests_nil ?_
  rw [if_pos rfl]
  refine wpAny_mono (pe.run _ s4 σ4 G4 _ (U.inv_xe P4) q4) (fun z s5 p5 => ?_) fun e s' p => ?_
  · obtain ⟨y, G5, P5, ry, acc, hD, hz, nx⟩ := p5
    refine app_ok (X := X.blk s H scope ce fp) (U.inv_xe (xe := fun _ _ => False) P5) hD hz ry fun s6 P6 => ?_
    obtain ⟨m', hlt, w6⟩ := less _ nx
    -- the iterator's own objects stand as they stood
    have still : ∀ b ∈ fp, ∃ o, s3.heap.get? b = some o ∧ s6.heap.get? b = some o ∧ (upd G5 D (.lst (acc ++ [y]))) b = none := fun b hb => by
      obtain ⟨o, ho, _⟩ := T.obj _ _ tt3 b hb
      have z := P6.pin (b, o) (List.mem_append_right _ (List.mem_append_right _ (mem_pinsAt hb ho)))
      exact ⟨o, ho, z.1, z.2.1⟩
    refine ⟨m', hlt, i + 1, _, (Inv.unpinned (pins := []) P6).weak ?_ fun j v hv => ?_, T.keep _ _ _ tt3 fun b hb o ho => ?_, fun b hb => ?_, w6⟩
    · exact (wipe_length σ vs).trans ((wipe_length σ vs).symm.trans ((congrArg List.length hw4.symm).trans (wipe_length σ4 vs)))
    · exact (wipe_some (hw4.symm ▸ hv)).1
    · obtain ⟨o', h1, h2, _⟩ := still b hb
      exact (Option.some.inj (h1.symm.trans ho)) ▸ h2
    · obtain ⟨_, _, _, h3⟩ := still b hb
      exact h3
  · obtain ⟨_, _, _, _, P, c⟩ := p
    exact k.err hs hf tk P c
end
/-- name = [elt for target in iter] on one line, the name a local; the element a call that may raise -/
theorem ps_setLcE {X : Cx} {E : XK} {i : Nat} {y : Str} {py : Pos} {elt tg iter : Expr} {scope : Scope} {own : List (Str × Nat)} {pos spos : Pos} {wi : TI} {g : TG} {te : TE} (hc : X.calm = true) (hN : X.N.Nodup) (hy : X.N[i]? = some y) (hyl : X.env.scope.names.lookup y = some .local)
    (hsw : swapsWith (.ListComp elt [⟨tg, iter, [], 0⟩] scope pos) (some (.Name y py)) spos.line X.env = pure true) (hi : PI X tg iter wi) (ok : BlkOk X.N X.env.scope scope own)
    (hg : ∀ (s : Shared) (H : Hp) (C : Addr) (cl : List (Str × Addr)) (fp : List Addr), PG (X.blk s H scope (compEnvC scope cl C X.env) fp) tg g)
    (hst : X.stack = X.env :: X.outer) (hfm : X.env.frame = some X.env.locals) (tk : L2N.Takes X (fun cls d _ H => E cls d H))
    (he : ∀ (s : Shared) (H : Hp) (C : Addr) (cl : List (Str × Addr)) (fp : List Addr), PE (U.blkE X E s H scope (compEnvC scope cl C X.env) fp) elt te)
    (hs : ∀ x, foldedSetIterable iter X.env x = pure x := by intro _; rfl) :
    PS X (.Assign [.Name y py] (.ListComp elt [⟨tg, iter, [], 0⟩] scope pos) spos) (tAsg (tLc wi g tYes te (own.map (·.2))) (gName i)) := by
  constructor
  intro pins s σ H D I h
  have cells : ∀ z ∈ scope.names, z.2 = .free → ∃ c, X.env.cells.lookup z.1 = some c := fun z hz q => I.ok.has _ (ok.free z hz q)
  rw [exec_Assign_Name_used _ _ _ _ hsw]
  refine wpAny_bind (wpAny_standAt (wpAny_bind (wpAny_bind (thn (Q := fun _ s' => SP X pins D .next s') ?_ fun _ s' q => wpAny_pure (wpAny_pure q)))))
  refine comprehension_at rfl hs (closure_ok cells) ok.kind (fun z hz q => (ok.uniq z hz).trans (congrArg some q)) ?_
  refine thn (hi.run pins s σ H _ I h) fun _ s1 p1 => thn p1 fun _ s2 p2 => ?_
  obtain ⟨it, fp, tn, J, H2, rfl, I2, T, t2, fp2, q2⟩ := p2
  -- the new list, then the block
  refine wpAny_newObj_type ?_ (Nat.zero_le _)
  have free : H2 s2.heap.objs.size = none := I2.hok.fresh (Nat.le_refl _)
  obtain ⟨W, ⟨m0, w0⟩, step⟩ := q2 _ free
  have I3 := I2.laid (a := s2.heap.objs.size) (o := .lst []) (h' := s2.heap.push { cls := .type "list", data := .seq ([] : List Value).toArray }) (t' := s2.toks) (fun _ _ q => Heap.get?_push_of_some _ q) (Nat.le_refl _) ⟨Nat.zero_le _, [], 0, .nil, Heap.get?_push_size _ rfl⟩
  have older : ∀ b ∈ fp, b < s2.heap.objs.size := fun b hb => (T.obj 0 _ t2 b hb).elim fun o q => Heap.lt_size q.1
  have fp3 : ∀ b ∈ fp, FpOk X pins (upd H2 s2.heap.objs.size (.lst [])) b := fun b hb => ⟨(upd_ne (Nat.ne_of_lt (older b hb))).trans (fp2 b hb).1, (fp2 b hb).2⟩
  have t3 : tn 0 (s2.heap.push { cls := .type "list", data := .seq ([] : List Value).toArray }) := T.keep _ _ _ t2 fun _ _ _ q => Heap.get?_push_of_some _ q
  refine newEnv_comp ?_
  have B4 := block_start (scope := scope) (own := own) (fp := fp) I3 ok hN fun b hb => ⟨fp3 b hb, Nat.lt_of_lt_of_le (older b hb) (by rw [Heap.size_push]; exact Nat.le_succ _)⟩
  have t4 := T.keep 0 _ (pushCells ((s2.heap.push { cls := .type "list", data := .seq ([] : List Value).toArray }).push { cls := .type "dict", data := .dict #[] }) scope.names) t3 fun _ _ _ q => pushCells_keeps _ _ _ _ (Heap.get?_push_of_some _ q)
  have loop := turns (ce := compEnvC scope _ _ X.env) (scope := scope) (pos := pos) (iter := iter) (vs := own.map (·.2)) (D := s2.heap.objs.size) (use := some (assign (.Name y py) X.env)) (Qf := fun _ s' => SP X pins D .next s') ⟨I3, fp3, rfl, rfl⟩ hc hst hfm tk T (hg _ _ _ _ fp) (he _ _ _ _ fp) W step (fun s' G I' hd hm hfp => ?_) B4 t4 w0
  · exact codeAny_compStart_list loop (T.self X.A 0 _ _ _ t4 loop)
  -- the list goes to its name
  obtain ⟨m, hm⟩ := hm
  obtain ⟨r0, r1, r2, r3, r4, r5⟩ := hfp
  refine wpAny_assign_Name (store_ok2 (v := V.ref s2.heap.objs.size) I' hN hy (.inl hyl) rfl (fun s6 I6 p6 => ?_) (.inr hyl))
  obtain ⟨a, sb, ha⟩ := p6
  refine ⟨m, hm.sameBut sb (ha.elim (fun q => q ▸ r1) fun q => fun e => r4 y a q e.symm), fun h3 sb3 => ?_⟩
  exact ⟨_, G, I6.turned (t' := s6.toks) (fun b o n q => (sb3.2 b n).trans q) r0 r1 r3 r4 r5, hd⟩
end CE

set_option Elab.async false
set_option linter.all false
set_option maxRecDepth 100000
set_option maxHeartbeats 4000000
namespace U
open PySem PySem.Spec PyProof.Rows L2
/-! ### no ridge -/
theorem tw_lt {p : Nat → Bool} : ∀ {l : List Nat}, (∃ c ∈ l, p c = false) → (l.takeWhile p).length < l.length
  | [], h => by obtain ⟨_, h, _⟩ := h; cases h
  | c :: r, h => by
    rw [List.takeWhile_cons]
    by_cases hc : p c = true
    · rw [if_pos hc]
      have := tw_lt (p := p) (l := r) (by
        obtain ⟨d, hd, hp⟩ := h
        rcases List.mem_cons.mp hd with e | e
        · rw [e, hc] at hp; cases hp
        · exact ⟨d, e, hp⟩)
      simp only [List.length_cons]
      omega
    · rw [if_neg hc]
      simp
theorem dw_bad {p : Nat → Bool} : ∀ {l : List Nat}, (∃ c ∈ l, p c = false) → ∃ c ∈ l.drop (l.takeWhile p).length, p c = false
  | [], h => by obtain ⟨_, h, _⟩ := h; cases h
  | c :: r, h => by
    rw [List.takeWhile_cons]
    by_cases hc : p c = true
    · rw [if_pos hc]
      exact dw_bad (p := p) (l := r) (by
        obtain ⟨d, hd, hp⟩ := h
        rcases List.mem_cons.mp hd with e | e
        · rw [e, hc] at hp; cases hp
        · exact ⟨d, e, hp⟩)
    · rw [if_neg hc]
      exact ⟨c, List.mem_cons_self .., by simpa using hc⟩
theorem strip_bad {l : List Nat} (h : ¬ UD l) : Txt.stripChars (T l) (Str.ofString "ud") ≠ Str.ofString "" := by
  have hb : ∃ c ∈ l, (#[117, 100] : Array Nat).contains c = false := by
    by_cases q : ∃ c ∈ l, (#[117, 100] : Array Nat).contains c = false
    · exact q
    · refine (h fun c hc => ?_).elim
      cases e : (#[117, 100] : Array Nat).contains c with
      | false => exact (q ⟨c, hc, e⟩).elim
      | true =>
        simp at e
        exact e
  rw [ofs_ud]
  generalize hp : (#[117, 100] : Array Nat).contains = p at hb
  have e1 : stripLo p true (T l) = (l.takeWhile p).length := rfl
  have lo := tw_lt hb
  have hb2 := dw_bad hb
  have e2 : stripHi p true (T l) (l.takeWhile p).length = l.length - ((l.drop (l.takeWhile p).length).reverse.takeWhile p).length := rfl
  have hi := tw_lt (p := p) (l := (l.drop (l.takeWhile p).length).reverse) (by
    obtain ⟨c, hc, e⟩ := hb2
    exact ⟨c, List.mem_reverse.mpr hc, e⟩)
  rw [List.length_reverse, List.length_drop] at hi
  intro z
  have z : Txt.stripBy (#[117, 100] : Array Nat).contains true true (T l) = Str.ofString "" := z
  rw [hp] at z
  unfold Txt.stripBy stripSame stripped at z
  rw [e1, e2] at z
  have z2 := congrArg (fun s : Str => s.cps.size) z
  revert z2
  split
  · intro z2
    have : l.length = 0 := z2
    omega
  · intro z2
    have z3 : ((l.toArray).extract (l.takeWhile p).length (l.length - ((l.drop (l.takeWhile p).length).reverse.takeWhile p).length)).size = 0 := z2
    rw [Array.size_extract] at z3
    simp only [List.size_toArray] at z3
    omega

/-- what is no text of steps -/
inductive NoR (H : Hp) : V → Prop
  | non : NoR H .non
  | int (i : Int) : NoR H (.int i)
  | lst {a : Addr} {xs : List V} (h : H a = some (.lst xs)) : NoR H (.ref a)
  | tup {a : Addr} {xs : List V} (h : H a = some (.tup xs)) : NoR H (.ref a)
  | txt {l : List Nat} (h : ¬ UD l) (z : l.length ≤ 16000000) : NoR H (.str (T l))
theorem NoR.ex {H H' : Hp} {v : V} (n : NoR H v) (e : Ex H H') : NoR H' v := by
  cases n with
  | non => exact .non
  | int i => exact .int i
  | lst h => exact .lst (e.use h)
  | tup h => exact .tup (e.use h)
  | txt h z => exact .txt h z
theorem not_ud {l : List Nat} {c : Nat} (hc : c ∈ l) (h : c ≠ 117 ∧ c ≠ 100) : ¬ UD l := fun u => by
  rcases u c hc with e | e
  · exact h.1 e
  · exact h.2 e
/-- what is no number -/
inductive NoN (H : Hp) : V → Prop
  | non : NoN H .non
  | bl (b : Bool) : NoN H (.bl b)
  | str (z : Str) : NoN H (.str z)
  | tup {a : Addr} {xs : List V} (h : H a = some (.tup xs)) : NoN H (.ref a)
theorem NoN.ex {H H' : Hp} {v : V} (n : NoN H v) (e : Ex H H') : NoN H' v := by
  cases n with
  | non => exact .non
  | bl b => exact .bl b
  | str z => exact .str z
  | tup h => exact .tup (e.use h)
/-- no place of n -/
def NoI (n : Nat) (H : Hp) (v : V) : Prop := NoN H v ∨ ∃ i : Int, v = .int i ∧ (i < 0 ∨ (n : Int) ≤ i)
theorem NoI.ex {n : Nat} {H H' : Hp} {v : V} (h : NoI n H v) (e : Ex H H') : NoI n H' v := h.imp (fun x => x.ex e) id
/-- no two places of like height -/
def NoP (A B : List Int) (H : Hp) (x y : V) : Prop :=
  NoI A.length H x ∨ ∃ i : Nat, i < A.length ∧ x = .int i ∧ (NoI B.length H y ∨ ∃ j : Nat, j < B.length ∧ y = .int j ∧ A[i]? ≠ B[j]?)
theorem NoP.ex {A B : List Int} {H H' : Hp} {x y : V} (h : NoP A B H x y) (e : Ex H H') : NoP A B H' x y := by
  rcases h with h | ⟨i, hi, hx, h⟩
  · exact .inl (h.ex e)
  · exact .inr ⟨i, hi, hx, h.imp (fun z => z.ex e) id⟩
theorem atI_mem {xs : List V} {i : Int} (h0 : 0 ≤ i) (h1 : i < xs.length) : ∃ v, atI xs i = some v ∧ v ∈ xs := by
  obtain ⟨j, rfl⟩ : ∃ j : Nat, i = (j : Int) := ⟨i.toNat, by omega⟩
  have hj : j < xs.length := by omega
  exact ⟨xs[j], atI_nat (List.getElem?_eq_getElem hj), List.getElem_mem hj⟩
theorem ex_atI {xs : List V} {i : Int} {Q : V → Prop} (h0 : 0 ≤ i) (h1 : i < xs.length) (h : ∀ v ∈ xs, Q v) : ∃ v, atI xs i = some v ∧ Q v := by
  obtain ⟨v, e, m⟩ := atI_mem h0 h1
  exact ⟨v, e, h v m⟩
/-! ### the call of a def taken out of a list -/
structure CalV (P : Program) (w : World) (K : PySem.W.Frag) (mg : Str → Option Value) (base : Heap) (CX : CXT) (k : Nat) (f : Addr) (sp : Sp) : Prop where
  ex : ∃ (fd : FuncData) (ps : List Str), FnOk P w K mg base CX k f fd ps sp ∧ PySem.W.keepIn K (.ref f) = true ∧ Binds K fd ps []
theorem Cal.at_ {P : Program} {w : World} {K : PySem.W.Frag} {mg : Str → Option Value} {base : Heap} {CX : CXT} {k : Nat} {x : Str} {sp : Sp} (c : Cal P w K mg base CX k x sp) : ∃ f : Addr, (∃ u, mg x = some u ∧ RelV (.ref f) u) ∧ CalV P w K mg base CX k f sp := by
  obtain ⟨f, fd, ps, F, hm, kp, b⟩ := c.ex
  exact ⟨f, ⟨_, hm, rfl⟩, fd, ps, F, kp, b⟩
def tCallX (l : List (Nat × Addr × Sp)) (E : XK) (tf : L2.TE) (t : TA) : L2.TE := fun σ H Q => tf σ H fun v H1 => ∃ p ∈ l, v = .ref p.2.1 ∧ t σ H1 fun vs H2 => p.2.2 vs H2 Q E
theorem pe_callX {X : Cx} {E : XK} {j : Nat} {fe e : Expr} {es : List Expr} {pos : Pos} {tf : L2.TE} {t : TA} {l : List (Nat × Addr × Sp)} (hl : ∀ p ∈ l, p.1 ≤ j ∧ CalV X.prog X.w X.K X.mg X.base (L2N.CX X.prog X.w) p.1 p.2.1 p.2.2) (hr : Room j X.A) (hx : Passes (L2N.CX X.prog X.w) X E) (hf : PE X fe tf) (ha : PA X (e :: es) t)
    (he : starEach (e :: es) X.env = (false, eval e X.env) :: starEach es X.env := by rfl) (hpl : (backTo pos (starEach es X.env)).any (·.1) = false := by rfl)
    (ht : eval (.Call fe (e :: es) [] pos) X.env = (do callWith pos (← eval fe X.env) [] (backTo pos (starEach (e :: es) X.env)) (backToKw pos (keywordEach [] X.env))) := by rfl) :
    PE X (.Call fe (e :: es) [] pos) (tCallX l E tf t) := by
  refine ⟨fun pins s σ H Q I h => ?_⟩
  refine Call_ (thn (hf.run pins s σ H _ I h) fun u s1 ⟨v, H1, I1, rv, p, hp, ev, q⟩ => ?_) ht
  subst ev
  obtain rfl : u = Value.ref p.2.1 := rv
  obtain ⟨hk, fd, ps, F, kp, b⟩ := hl p hp
  refine PySem.W.callWith_K (h₀ := X.base) I.ok.mod.kin kp (thn (ha.run pos pins s1 σ H1 _ I1 q) fun us s2 ⟨vs, H2, I2, r, q2⟩ => ⟨I2.kIn, ?_⟩) he hpl
  exact run_fn F (hr.mono hk) b .nil hx I2 r (by rw [List.append_nil]; exact q2)
/-- the comprehension's element calls -/
theorem pe_cB {X : Cx} {E : XK} {s0 : Shared} {H0 : Hp} {scope : Scope} {ce : Env} {fp : List Addr} {k j : Nat} {x : Str} {sp : Sp} {p pos : Pos} {e : Expr} {es : List Expr} {t : TA}
    (c : Cal X.prog X.w X.K X.mg X.base (L2N.CX X.prog X.w) k x sp) (hr : Room j X.A) (hk : k ≤ j) (hg : Gl (blkE X E s0 H0 scope ce fp) x) (ha : PA (blkE X E s0 H0 scope ce fp) (e :: es) t)
    (hdb : (x == ("__debug__" : Str)) = false := by decide) (he : starEach (e :: es) ce = (false, eval e ce) :: starEach es ce := by rfl) (hpl : (backTo pos (starEach es ce)).any (·.1) = false := by rfl) :
    PE (blkE X E s0 H0 scope ce fp) (.Call (.Name x p) (e :: es) [] pos) (tCall sp [] E t) := by
  obtain ⟨f, fd, ps, F, hm, kp, b⟩ := c.ex
  exact pe_call (X := blkE X E s0 H0 scope ce fp) F (hr.mono hk) hg hm kp b .nil passBlk ha hdb he hpl
end U

set_option Elab.async false
set_option linter.all false
set_option maxRecDepth 100000
set_option maxHeartbeats 4000000
namespace U
open PySem PySem.Spec PyProof.Rows L2
local macro_rules | `(tactic| iterate 901 fail) => `(tactic| first
  | with_reducible assumption
  | with_reducible exact upd_same
  | (with_reducible refine' Ex.use (Ex.new ?n) ?h; (case n => with_reducible assumption); (case h => (iterate 901 fail)))
  | (with_reducible refine' Ex.use ?n ?h; (case n => with_reducible assumption); (case h => (iterate 901 fail))))
local macro_rules | `(tactic| iterate 902 fail) => `(tactic| first
  | with_reducible assumption
  | (with_reducible refine' SqL.of ?h; (case h => (iterate 901 fail)))
  | (with_reducible refine' SqT.of ?h; (case h => (iterate 901 fail)))
  | (iterate 912 fail))
local macro_rules | `(tactic| iterate 912 fail) => `(tactic| first
  | with_reducible assumption
  | (with_reducible refine' Ex.sql (Ex.new ?n) ?h; (case n => with_reducible assumption); (case h => (iterate 912 fail)))
  | (with_reducible refine' Ex.sqt (Ex.new ?n) ?h; (case n => with_reducible assumption); (case h => (iterate 912 fail)))
  | (with_reducible refine' Ex.sql ?n ?h; (case n => with_reducible assumption); (case h => (iterate 912 fail)))
  | (with_reducible refine' Ex.sqt ?n ?h; (case n => with_reducible assumption); (case h => (iterate 912 fail))))
local macro_rules | `(tactic| iterate 903 fail) => `(tactic| first
  | with_reducible assumption
  | with_reducible exact Ex.refl _
  | (with_reducible refine' Ex.mk ?e ?n; (case n => with_reducible assumption); (case e => (iterate 903 fail)))
  | (with_reducible refine' Ex.trans ?e ?n; (case n => with_reducible assumption); (case e => (iterate 903 fail))))
local macro_rules | `(tactic| iterate 904 fail) => `(tactic| first
  | with_reducible assumption
  | (apply line_le; simp only [List.length_cons, List.length_nil, List.length_append, List.length_map, List.length_range]; omega)
  | (apply line_lt; simp only [List.length_cons, List.length_nil, List.length_append, List.length_map, List.length_range]; omega))
local macro_rules | `(tactic| iterate 905 fail) => `(tactic| (apply line_le; first | (show List.length _ ≤ _; omega) | (simp only [U.T, PySem.Str.length, List.size_toArray, List.length_cons, List.length_nil, List.length_append, List.length_map, List.length_reverse]; omega)))
local macro_rules | `(tactic| iterate 906 fail) => `(tactic| first
  | with_reducible exact TyX.base (TyOf.str _) | with_reducible exact TyX.base (TyOf.int _) | with_reducible exact TyX.base (TyOf.bl _) | with_reducible exact TyX.base TyOf.non
  | (with_reducible refine' TyX.base (TyOf.lst ?h); (case h => (iterate 901 fail))) | (with_reducible refine' TyX.base (TyOf.tup ?h); (case h => (iterate 901 fail))) | (with_reducible refine' TyX.base (TyOf.dK ?h); (case h => (iterate 901 fail))))
local macro_rules | `(tactic| iterate 907 fail) => `(tactic| first
  | (with_reducible refine' k_tyL ?h ?k; (case h => (iterate 901 fail)))
  | (with_reducible refine' k_app ?h ?z ?k; (case h => (iterate 901 fail)); (case z => (iterate 904 fail)))
  | (with_reducible refine' k_gTup ?h ?z ?k; (case h => (iterate 902 fail)); (case z => exact rfl))
  | (with_reducible refine' k_I ?c ?k; (case c => first | decide | exact ⟨by decide, by decide⟩))
  | (with_reducible refine' k_ixL ?h ?a ?k; (case h => (iterate 902 fail)); (case a => exact rfl))
  | (with_reducible refine' k_ixT ?h ?a ?k; (case h => (iterate 902 fail)); (case a => exact rfl))
  | (with_reducible refine' k_lenL ?h ?k; (case h => (iterate 902 fail)))
  | (with_reducible refine' k_lenT ?h ?k; (case h => (iterate 902 fail)))
  | (with_reducible refine' k_lenS ?h ?k; (case h => (iterate 905 fail)))
  | (with_reducible refine' k_isi (b := true) ?t ?e ?k; (case t => (iterate 906 fail)); (case e => decide +kernel))
  | (with_reducible refine' k_isi (b := false) ?t ?e ?k; (case t => (iterate 906 fail)); (case e => decide +kernel)))
local macro_rules | `(tactic| iterate 908 fail) => `(tactic| first | with_reducible refine Stp.h ?_ | (iterate 907 fail))
local macro_rules | `(tactic| iterate 909 fail) => `(tactic| ((try dsimp only); repeat (iterate 908 fail)))
local macro_rules | `(tactic| iterate 910 fail) => `(tactic| (simp only [start_cons, start_nil, start_end]; repeat (iterate 908 fail)))

def topS (i : Nat) : Stmt := PySem.Challenge.pw_unison_k09_refused.main.body.getD i (.Pass ⟨0, 0, 0, 0⟩)
section
variable {P : Program} {w : World} {K : PySem.W.Frag} {mg : Str → Option Value} {base : Heap}
/-- heights_of(ridge): any text, a step up where a u stands -/
def sp_heights_of : Sp := fun vs H Q _ => ∃ l : List Nat, vs = [.str (T l)] ∧ l.length ≤ 16000000 ∧ ∀ H' p, Ex H H' → H p = none → H' p = some (.lst ((hts l).map V.int)) → Q (.ref p) H'
abbrev s_heights_of : Stmt := topS 11
theorem sc_heights_of : FnScope ["ridge", "found", "step"] ["ridge"] (defScope s_heights_of) := ⟨rfl, rfl, rfl, by decide +kernel, rfl, by decide +kernel, by decide +kernel⟩
theorem ok_heights_of {f : Addr} {fd : FuncData} (F : Fun K "heights_of" "heights_of" s_heights_of f fd) : FnOk P w K mg base CX0 1 f fd ["ridge"] sp_heights_of := by
  refine F.ok sc_heights_of (fun vs H Q E h => ?_) (fun cdv A outer s H vs Q E hr h => ?_)
  · obtain ⟨l, rfl, _⟩ := h
    rfl
  have hu64 := hr.units
  obtain ⟨l, rfl, hz, q⟩ := h
  refine ⟨_, (pss_cons (ps_set (i := 1) sc_heights_of.nd rfl (.inl rfl) (pe_lst (pa_cons pe_int pa_nil)))
    (pss_cons (ps_for PassesOwn.never rfl (pi_str (pv 0)) (pg_name (i := 2) sc_heights_of.nd rfl (.inl rfl)) (pss_one (ps_if (pt_cmpR (op_eqUK (K := K) rfl hu64) (pv 2) pe_str (nomark _)) (pss_one (ps_expr (bmK (K := K) rfl (pe_bm PySem.F.plainAttrs_list PySem.F.slot_list_append PySem.F.type_list_append mt_append (pv 1) (pa_cons (pe_op (op_addUK (K := K) rfl) (pe_ix (ix_seqK (K := K) rfl) (pv 1) (pe_un un_neg pe_int) (fun _ _ => rfl)) pe_int) pa_nil))))) (pss_one (ps_expr (bmK (K := K) rfl (pe_bm PySem.F.plainAttrs_list PySem.F.slot_list_append PySem.F.type_list_append mt_append (pv 1) (pa_cons (pe_op op_sub (pe_ix (ix_seqK (K := K) rfl) (pv 1) (pe_un un_neg pe_int) (fun _ _ => rfl)) pe_int) pa_nil))))))))
    (pss_one (ps_ret (pv 1))))), ?_⟩
  (iterate 910 fail)
  refine ⟨by (iterate 904 fail), fun o no => ?_⟩
  (iterate 909 fail)
  refine for_str (z := T l) (fun i σ' H' => ∃ x, σ' = [some (.str (T l)), some (.ref o), x] ∧ i ≤ l.length ∧ Ex H H' ∧ H' o = some (.lst ((htsN l i).map V.int))) ⟨none, rfl, Nat.zero_le _, Ex.new no, upd_same⟩ (fun i c σ' H' hc hI => ?_) (fun σ' H' hI => ?_)
  · obtain ⟨x, rfl, hi, e, ho⟩ := hI
    have hc : l[i]? = some c := hc
    have hi3 : i + 1 ≤ l.length := (List.getElem?_eq_some_iff.mp hc).1
    have hl : (htsN l i).length = i + 1 := htsN_length _ _
    (iterate 909 fail)
    refine k_if (fun hu => ?_) (fun hu => ?_)
    · (iterate 909 fail)
      refine k_ixL (by (iterate 902 fail)) (htsN_atI _ _) ?_
      (iterate 909 fail)
      exact ⟨_, rfl, hi3, Ex.mut e no, by rw [upd_same, htsN_more hc]; rw [isU.mp hu]; rfl⟩
    · (iterate 909 fail)
      refine k_ixL (by (iterate 902 fail)) (htsN_atI _ _) ?_
      (iterate 909 fail)
      exact ⟨_, rfl, hi3, Ex.mut e no, by rw [upd_same, htsN_more hc]; unfold sgn; rw [if_neg fun z => hu (isU.mpr z)]; rfl⟩
  · obtain ⟨x, rfl, hi, e, ho⟩ := hI
    (iterate 909 fail)
    exact q _ _ e no ho

/-- turned_over(ridge): any text -/
def sp_turned_over : Sp := fun vs H Q _ => ∃ l : List Nat, vs = [.str (T l)] ∧ l.length ≤ 8000000 ∧ ∀ H', Ex H H' → Q (.str (T (l.map flipc))) H'
abbrev s_turned_over : Stmt := topS 13
theorem sc_turned_over : FnScope ["ridge", "step"] ["ridge"] (defScope s_turned_over) := ⟨rfl, rfl, rfl, by decide +kernel, rfl, by decide +kernel, by decide +kernel⟩
theorem ok_turned_over {f : Addr} {fd : FuncData} (F : Fun K "turned_over" "turned_over" s_turned_over f fd) : FnOk P w K mg base CX0 1 f fd ["ridge"] sp_turned_over := by
  refine F.ok sc_turned_over (fun vs H Q E h => ?_) (fun cdv A outer s H vs Q E hr h => ?_)
  · obtain ⟨l, rfl, _⟩ := h
    rfl
  have hu64 := hr.units
  obtain ⟨l, rfl, hz, q⟩ := h
  refine ⟨_, (pss_one (ps_ret (joinK (K := K) rfl (pe_join pe_str (lcV (vs := [1]) rfl (pe_lc (own := [("step", 1)]) (tt := tYes) rfl sc_turned_over.nd (pi_str (pv 0)) (blkOk_by (N := ["ridge", "step"]) (sc := defScope s_turned_over) (by decide +kernel)) (fun _ _ _ _ _ => (pg_name (i := 1) sc_turned_over.nd rfl (.inl rfl))) (fun _ _ _ _ _ => pts_nil) (fun _ _ _ _ _ => (pe_ifExp (pt_cmpR (op_eqUK (K := K) rfl hu64) (pv 1) pe_str (nomark _)) pe_str pe_str)))))))), ?_⟩
  (iterate 910 fail)
  refine m_lcS (l := l) (F := fun c => .str (T [flipc c])) (fun R k => by (iterate 909 fail); exact k _ (Ex.refl _)) (by omega) (fun i c H2 hc e Q k => ?_) (fun p H2 hp e h => ?_)
  · (iterate 909 fail)
    unfold flipc at k
    refine k_if (fun hu => ?_) (fun hu => ?_)
    · (iterate 909 fail)
      rw [if_pos (isU.mp hu)] at k
      rw [ofs_d]
      exact k _ (Ex.refl _)
    · (iterate 909 fail)
      rw [if_neg fun z => hu (isU.mpr z)] at k
      rw [ofs_u]
      exact k _ (Ex.refl _)
  · have h' : H2 p = some (.lst (((l.map flipc).map fun c => T [c]).map V.str)) := by
      rw [h, List.map_map, List.map_map]
      rfl
    refine k_join0 (ls := l.map flipc) (SqL.of h') (by rw [List.length_map]; omega) ?_
    (iterate 909 fail)
    exact q _ e

def sp_from_end : Sp := fun vs H Q _ => ∃ l : List Nat, vs = [.str (T l)] ∧ l.length ≤ 8000000 ∧ ∀ H', Ex H H' → Q (.str (T (l.reverse.map flipc))) H'
abbrev s_from_end : Stmt := topS 14
theorem sc_from_end : FnScope ["ridge"] ["ridge"] (defScope s_from_end) := ⟨rfl, rfl, rfl, by decide +kernel, rfl, by decide +kernel, by decide +kernel⟩
theorem ok_from_end {f : Addr} {fd : FuncData} (F : Fun K "from_end" "from_end" s_from_end f fd) (c_turned_over : Cal P w K mg base CX0 1 "turned_over" sp_turned_over) : FnOk P w K mg base CX0 2 f fd ["ridge"] sp_from_end := by
  refine F.ok sc_from_end (fun vs H Q E h => ?_) (fun cdv A outer s H vs Q E hr h => ?_)
  · obtain ⟨l, rfl, _⟩ := h
    rfl
  obtain ⟨l, rfl, hz, q⟩ := h
  refine ⟨_, (pss_one (ps_ret (pe_c0 c_turned_over hr (by decide) (by rfl) (pa_cons (pe_revS (pv 0)) pa_nil)))), ?_⟩
  (iterate 910 fail)
  refine ⟨by (iterate 905 fail), ?_⟩
  (iterate 909 fail)
  exact ⟨l.reverse, rfl, by rw [List.length_reverse]; exact hz, q⟩


/-- asked_ridge(ridge) -/
def sp_asked_ridge (U : Addr) : Sp := fun vs H Q E => ∃ v, vs = [v] ∧ ((NoR H v ∧ E (.ref U) none H) ∨ ∃ l : List Nat, v = .str (T l) ∧ UD l ∧ l.length ≤ 16000000 ∧ Q .non H)
abbrev s_asked_ridge : Stmt := topS 10
theorem sc_asked_ridge : FnScope ["ridge"] ["ridge"] (defScope s_asked_ridge) := ⟨rfl, rfl, rfl, by decide +kernel, rfl, by decide +kernel, by decide +kernel⟩
theorem ok_asked_ridge {f : Addr} {fd : FuncData} (F : Fun K "asked_ridge" "asked_ridge" s_asked_ridge f fd) {U : Addr} (x_BadRidge : OwnX K mg "BadRidge" U) (m_isinstance : mg "isinstance" = none) (m_str : mg "str" = none) : FnOk P w K mg base (L2N.CX P w) 1 f fd ["ridge"] (sp_asked_ridge U) := by
  refine Fun.okN F sc_asked_ridge (fun vs H Q E h => ?_) (fun cdv A outer s H vs Q E hr h => ?_)
  · obtain ⟨v, rfl, _⟩ := h
    rfl
  have hu64 := hr.units
  obtain ⟨v, rfl, h⟩ := h
  refine ⟨_, (pss_one (ps_if ((pw_or (pt_not (pt_val (pe_callB (call_isiK2 (K := K) rfl) (by rfl) m_isinstance (by rfl) (pa_cons (pv 0) (pa_cons (pe_bltn (v := .ty "str") (u := .type "str") (by rfl) m_str (by rfl) rfl) pa_nil))))) (pw_or1 (pt_cmpR (op_neUK (K := K) rfl hu64) (bmK (K := K) rfl (pe_bm PySem.F.plainAttrs_str PySem.F.slot_str_strip PySem.F.type_str_strip mt_stripChars (pv 0) (pa_cons pe_str pa_nil))) pe_str (nomark _)))).pt) (pss_one (L2N.ps_raise rfl (L2N.takes_of rfl rfl rfl rfl) (x_BadRidge.pmk (by rfl)))) pss_nil)), ?_⟩
  rcases h with ⟨n, q⟩ | ⟨l, rfl, hl, hz, q⟩
  · cases n with
    | non => (iterate 910 fail); exact q
    | int i => (iterate 910 fail); exact q
    | lst h => (iterate 910 fail); exact q
    | tup h => (iterate 910 fail); exact q
    | txt h z =>
      (iterate 910 fail)
      refine ⟨_, _, rfl, rfl, by (iterate 905 fail), ?_⟩
      (iterate 909 fail)
      refine k_ifn (fun _ => ?_) (fun e => (strip_bad h e).elim)
      (iterate 909 fail)
      exact q
  · (iterate 910 fail)
    refine ⟨_, _, rfl, rfl, by (iterate 905 fail), ?_⟩
    (iterate 909 fail)
    refine k_ifn (fun hn => (hn (strip_ud hl)).elim) (fun _ => ?_)
    (iterate 909 fail)
    exact q
/-- heights(ridge) -/
def sp_heights (U : Addr) : Sp := fun vs H Q E => ∃ v, vs = [v] ∧ ((NoR H v ∧ ∀ H', Ex H H' → E (.ref U) none H') ∨ ∃ l : List Nat, v = .str (T l) ∧ UD l ∧ l.length ≤ 8000000 ∧ ∀ H' p, Ex H H' → H p = none → H' p = some (.lst ((hts l).map V.int)) → Q (.ref p) H')
abbrev s_heights : Stmt := topS 12
theorem sc_heights : FnScope ["ridge"] ["ridge"] (defScope s_heights) := ⟨rfl, rfl, rfl, by decide +kernel, rfl, by decide +kernel, by decide +kernel⟩
theorem ok_heights {f : Addr} {fd : FuncData} (F : Fun K "heights" "heights" s_heights f fd) {U : Addr} (c_asked_ridge : Cal P w K mg base (L2N.CX P w) 1 "asked_ridge" (sp_asked_ridge U)) (c_heights_of : Cal P w K mg base CX0 1 "heights_of" sp_heights_of) : FnOk P w K mg base (L2N.CX P w) 2 f fd ["ridge"] (sp_heights U) := by
  refine Fun.okN F sc_heights (fun vs H Q E h => ?_) (fun cdv A outer s H vs Q E hr h => ?_)
  · obtain ⟨v, rfl, _⟩ := h
    rfl
  obtain ⟨v, rfl, h⟩ := h
  refine ⟨_, (pss_cons (ps_expr (pe_cX c_asked_ridge hr (by decide) (by rfl) (pex (L2N.takes_of rfl rfl rfl rfl)) (pa_cons (pv 0) pa_nil)))
    (pss_one (ps_ret (pe_c0 c_heights_of hr (by decide) (by rfl) (pa_cons (pv 0) pa_nil))))), ?_⟩
  (iterate 910 fail)
  rcases h with ⟨n, q⟩ | ⟨l, rfl, hl, hz, q⟩
  · exact ⟨_, rfl, .inl ⟨n, q _ (Ex.refl _)⟩⟩
  · refine ⟨_, rfl, .inr ⟨l, rfl, hl, by omega, ?_⟩⟩
    (iterate 909 fail)
    exact ⟨l, rfl, by omega, fun H' p e n h => q _ _ e n h⟩
/-- upside_down(ridge), about(ridge) -/
def sp_turn (U : Addr) : Sp := fun vs H Q E => ∃ v, vs = [v] ∧ ((NoR H v ∧ ∀ H', Ex H H' → E (.ref U) none H') ∨ (v = .str (T []) ∧ ∀ H', Ex H H' → Q (.str (T [])) H'))
theorem ud_nil : UD [] := fun c hc => by cases hc
abbrev s_upside_down : Stmt := topS 15
theorem sc_upside_down : FnScope ["ridge"] ["ridge"] (defScope s_upside_down) := ⟨rfl, rfl, rfl, by decide +kernel, rfl, by decide +kernel, by decide +kernel⟩
theorem ok_upside_down {f : Addr} {fd : FuncData} (F : Fun K "upside_down" "upside_down" s_upside_down f fd) {U : Addr} (c_asked_ridge : Cal P w K mg base (L2N.CX P w) 1 "asked_ridge" (sp_asked_ridge U)) (c_turned_over : Cal P w K mg base CX0 1 "turned_over" sp_turned_over) : FnOk P w K mg base (L2N.CX P w) 2 f fd ["ridge"] (sp_turn U) := by
  refine Fun.okN F sc_upside_down (fun vs H Q E h => ?_) (fun cdv A outer s H vs Q E hr h => ?_)
  · obtain ⟨v, rfl, _⟩ := h
    rfl
  obtain ⟨v, rfl, h⟩ := h
  refine ⟨_, (pss_cons (ps_expr (pe_cX c_asked_ridge hr (by decide) (by rfl) (pex (L2N.takes_of rfl rfl rfl rfl)) (pa_cons (pv 0) pa_nil)))
    (pss_one (ps_ret (pe_c0 c_turned_over hr (by decide) (by rfl) (pa_cons (pv 0) pa_nil))))), ?_⟩
  (iterate 910 fail)
  rcases h with ⟨n, q⟩ | ⟨rfl, q⟩
  · exact ⟨_, rfl, .inl ⟨n, q _ (Ex.refl _)⟩⟩
  · refine ⟨_, rfl, .inr ⟨[], rfl, ud_nil, by decide, ?_⟩⟩
    (iterate 909 fail)
    exact ⟨[], rfl, by decide, fun H' e => q _ e⟩
abbrev s_about : Stmt := topS 16
theorem sc_about : FnScope ["ridge"] ["ridge"] (defScope s_about) := ⟨rfl, rfl, rfl, by decide +kernel, rfl, by decide +kernel, by decide +kernel⟩
theorem ok_about {f : Addr} {fd : FuncData} (F : Fun K "about" "about" s_about f fd) {U : Addr} (c_asked_ridge : Cal P w K mg base (L2N.CX P w) 1 "asked_ridge" (sp_asked_ridge U)) (c_from_end : Cal P w K mg base CX0 2 "from_end" sp_from_end) : FnOk P w K mg base (L2N.CX P w) 3 f fd ["ridge"] (sp_turn U) := by
  refine Fun.okN F sc_about (fun vs H Q E h => ?_) (fun cdv A outer s H vs Q E hr h => ?_)
  · obtain ⟨v, rfl, _⟩ := h
    rfl
  obtain ⟨v, rfl, h⟩ := h
  refine ⟨_, (pss_cons (ps_expr (pe_cX c_asked_ridge hr (by decide) (by rfl) (pex (L2N.takes_of rfl rfl rfl rfl)) (pa_cons (pv 0) pa_nil)))
    (pss_one (ps_ret (pe_c0 c_from_end hr (by decide) (by rfl) (pa_cons (pv 0) pa_nil))))), ?_⟩
  (iterate 910 fail)
  rcases h with ⟨n, q⟩ | ⟨rfl, q⟩
  · exact ⟨_, rfl, .inl ⟨n, q _ (Ex.refl _)⟩⟩
  · refine ⟨_, rfl, .inr ⟨[], rfl, ud_nil, by decide, ?_⟩⟩
    (iterate 909 fail)
    exact ⟨[], rfl, by decide, fun H' e => q _ e⟩
/-- what is no climb, and what is one to M -/
def NoC (l : List Nat) : Prop := (∃ i, i ≤ l.length ∧ ht l i < 0) ∨ ∃ i, i ≤ l.length ∧ hAt l < ht l i
def sp_top_of (U C : Addr) : Sp := fun vs H Q E => ∃ v, vs = [v] ∧ ((NoR H v ∧ ∀ H', Ex H H' → E (.ref U) none H') ∨ ∃ l : List Nat, v = .str (T l) ∧ UD l ∧ l.length ≤ 8000000 ∧ ((NoC l ∧ ∀ H', Ex H H' → E (.ref C) none H') ∨ ∃ M : Int, Cl (hts l) M ∧ ∀ H', Ex H H' → Q (.int M) H'))
abbrev s_top_of : Stmt := topS 17
theorem sc_top_of : FnScope ["climb", "told"] ["climb"] (defScope s_top_of) := ⟨rfl, rfl, rfl, by decide +kernel, rfl, by decide +kernel, by decide +kernel⟩
theorem ok_top_of {f : Addr} {fd : FuncData} (F : Fun K "top_of" "top_of" s_top_of f fd) {U C : Addr} (c_asked_ridge : Cal P w K mg base (L2N.CX P w) 1 "asked_ridge" (sp_asked_ridge U)) (c_heights_of : Cal P w K mg base CX0 1 "heights_of" sp_heights_of) (x_BadClimb : OwnX K mg "BadClimb" C) (m_min : mg "min" = none) (m_max : mg "max" = none) : FnOk P w K mg base (L2N.CX P w) 2 f fd ["climb"] (sp_top_of U C) := by
  refine Fun.okN F sc_top_of (fun vs H Q E h => ?_) (fun cdv A outer s H vs Q E hr h => ?_)
  · obtain ⟨v, rfl, _⟩ := h
    rfl
  have hu64 := hr.units
  obtain ⟨v, rfl, h⟩ := h
  refine ⟨_, (pss_cons (ps_expr (pe_cX c_asked_ridge hr (by decide) (by rfl) (pex (L2N.takes_of rfl rfl rfl rfl)) (pa_cons (pv 0) pa_nil)))
    (pss_cons (ps_set (i := 1) sc_top_of.nd rfl (.inl rfl) (pe_c0 c_heights_of hr (by decide) (by rfl) (pa_cons (pv 0) pa_nil)))
    (pss_cons (ps_if ((pw_or (pt_cmpR op_lt (pe_callB (cr_minK2 (K := K) rfl rfl) (by rfl) m_min (by rfl) (pa_cons (pv 1) pa_nil)) pe_int (nomark _)) (pw_or1 (pt_cmpR op_gt (pe_callB (cr_maxK (K := K) rfl rfl) (by rfl) m_max (by rfl) (pa_cons (pv 1) pa_nil)) (pe_ix (ix_seqK (K := K) rfl) (pv 1) (pe_un un_neg pe_int) (fun _ _ => rfl)) (nomark _)))).pt) (pss_one (L2N.ps_raise rfl (L2N.takes_of rfl rfl rfl rfl) (x_BadClimb.pmk (by rfl)))) pss_nil)
    (pss_one (ps_ret (pe_ix (ix_seqK (K := K) rfl) (pv 1) (pe_un un_neg pe_int) (fun _ _ => rfl))))))), ?_⟩
  (iterate 910 fail)
  rcases h with ⟨n, q⟩ | ⟨l, rfl, hl, hz, h⟩
  · exact ⟨_, rfl, .inl ⟨n, q _ (Ex.refl _)⟩⟩
  refine ⟨_, rfl, .inr ⟨l, rfl, hl, by omega, ?_⟩⟩
  (iterate 909 fail)
  refine ⟨l, rfl, by omega, fun H1 p e1 n1 h1 => ?_⟩
  (iterate 909 fail)
  refine k_min (SqL.of h1) (by rw [hts_length]; omega) fun m hm hmin => ?_
  (iterate 909 fail)
  rcases h with ⟨nc, q⟩ | ⟨M, hc, q⟩
  · refine k_if (fun hlt => ?_) (fun hnn => ?_)
    · (iterate 909 fail)
      exact q _ e1
    · (iterate 909 fail)
      refine k_max (SqL.of h1) (by rw [hts_length]; omega) fun m2 hm2 hmax => ?_
      (iterate 909 fail)
      refine k_ixL (SqL.of h1) (hts_last l) ?_
      (iterate 909 fail)
      refine k_if (fun hlt => ?_) (fun hnn2 => ?_)
      · (iterate 909 fail)
        exact q _ e1
      · rcases nc with ⟨i, hi, hb⟩ | ⟨i, hi, hb⟩
        · have := hmin _ (List.mem_of_getElem? (hts_at.mpr ⟨hi, rfl⟩))
          omega
        · have := hmax _ (List.mem_of_getElem? (hts_at.mpr ⟨hi, rfl⟩))
          omega
  · obtain ⟨i, hi⟩ := List.getElem?_of_mem hm
    have h0 := hc.low i m hi
    refine k_if (fun hlt => by omega) (fun _ => ?_)
    (iterate 909 fail)
    refine k_max (SqL.of h1) (by rw [hts_length]; omega) fun m2 hm2 _ => ?_
    obtain ⟨i2, hi2⟩ := List.getElem?_of_mem hm2
    have h2 := hc.high i2 m2 hi2
    (iterate 909 fail)
    refine k_ixL (SqL.of h1) (hts_last l) ?_
    (iterate 909 fail)
    rw [cl_last hc]
    refine k_if (fun hlt => by omega) (fun _ => ?_)
    (iterate 909 fail)
    refine k_ixL (SqL.of h1) (hts_last l) ?_
    rw [cl_last hc]
    exact q _ e1
/-- what is no range -/
def NoG (l : List Nat) : Prop := (∃ i, i ≤ l.length ∧ ht l i < 0) ∨ hAt l ≠ 0
def sp_asked_range (U G : Addr) : Sp := fun vs H Q E => ∃ v, vs = [v] ∧ ((NoR H v ∧ ∀ H', Ex H H' → E (.ref U) none H') ∨ ∃ l : List Nat, v = .str (T l) ∧ UD l ∧ l.length ≤ 8000000 ∧ ((NoG l ∧ ∀ H', Ex H H' → E (.ref G) none H') ∨ ((∀ i, i ≤ l.length → 0 ≤ ht l i) ∧ hAt l = 0 ∧ ∀ H', Ex H H' → Q .non H')))
abbrev s_asked_range : Stmt := topS 18
theorem sc_asked_range : FnScope ["ridge", "told"] ["ridge"] (defScope s_asked_range) := ⟨rfl, rfl, rfl, by decide +kernel, rfl, by decide +kernel, by decide +kernel⟩
theorem ok_asked_range {f : Addr} {fd : FuncData} (F : Fun K "asked_range" "asked_range" s_asked_range f fd) {U G : Addr} (c_asked_ridge : Cal P w K mg base (L2N.CX P w) 1 "asked_ridge" (sp_asked_ridge U)) (c_heights_of : Cal P w K mg base CX0 1 "heights_of" sp_heights_of) (x_BadRange : OwnX K mg "BadRange" G) (m_min : mg "min" = none) : FnOk P w K mg base (L2N.CX P w) 2 f fd ["ridge"] (sp_asked_range U G) := by
  refine Fun.okN F sc_asked_range (fun vs H Q E h => ?_) (fun cdv A outer s H vs Q E hr h => ?_)
  · obtain ⟨v, rfl, _⟩ := h
    rfl
  have hu64 := hr.units
  obtain ⟨v, rfl, h⟩ := h
  refine ⟨_, (pss_cons (ps_expr (pe_cX c_asked_ridge hr (by decide) (by rfl) (pex (L2N.takes_of rfl rfl rfl rfl)) (pa_cons (pv 0) pa_nil)))
    (pss_cons (ps_set (i := 1) sc_asked_range.nd rfl (.inl rfl) (pe_c0 c_heights_of hr (by decide) (by rfl) (pa_cons (pv 0) pa_nil)))
    (pss_one (ps_if ((pw_or (pt_cmpR op_lt (pe_callB (cr_minK2 (K := K) rfl rfl) (by rfl) m_min (by rfl) (pa_cons (pv 1) pa_nil)) pe_int (nomark _)) (pw_or1 (pt_cmpR (op_neUK (K := K) rfl hu64) (pe_ix (ix_seqK (K := K) rfl) (pv 1) (pe_un un_neg pe_int) (fun _ _ => rfl)) pe_int (nomark _)))).pt) (pss_one (L2N.ps_raise rfl (L2N.takes_of rfl rfl rfl rfl) (x_BadRange.pmk (by rfl)))) pss_nil)))), ?_⟩
  (iterate 910 fail)
  rcases h with ⟨n, q⟩ | ⟨l, rfl, hl, hz, h⟩
  · exact ⟨_, rfl, .inl ⟨n, q _ (Ex.refl _)⟩⟩
  refine ⟨_, rfl, .inr ⟨l, rfl, hl, by omega, ?_⟩⟩
  (iterate 909 fail)
  refine ⟨l, rfl, by omega, fun H1 p e1 n1 h1 => ?_⟩
  (iterate 909 fail)
  refine k_min (SqL.of h1) (by rw [hts_length]; omega) fun m hm hmin => ?_
  (iterate 909 fail)
  rcases h with ⟨nc, q⟩ | ⟨hlow, h0, q⟩
  · refine k_if (fun hlt => ?_) (fun hnn => ?_)
    · (iterate 909 fail)
      exact q _ e1
    · (iterate 909 fail)
      refine k_ixL (SqL.of h1) (hts_last l) ?_
      (iterate 909 fail)
      refine k_ifn (fun hne => ?_) (fun he => ?_)
      · (iterate 909 fail)
        exact q _ e1
      · rcases nc with ⟨i, hi, hb⟩ | hb
        · have := hmin _ (List.mem_of_getElem? (hts_at.mpr ⟨hi, rfl⟩))
          omega
        · exact (hb he).elim
  · obtain ⟨i, hi⟩ := List.getElem?_of_mem hm
    obtain ⟨hi1, hi2⟩ := hts_at.mp hi
    have h2 := hlow i hi1
    refine k_if (fun hlt => by omega) (fun _ => ?_)
    (iterate 909 fail)
    refine k_ixL (SqL.of h1) (hts_last l) ?_
    (iterate 909 fail)
    refine k_ifn (fun hne => (hne h0).elim) (fun _ => ?_)
    (iterate 909 fail)
    exact q _ e1
end
end U

set_option Elab.async false
set_option linter.all false
set_option maxRecDepth 100000
set_option maxHeartbeats 4000000
namespace U
open PySem PySem.Spec PyProof.Rows L2
local macro_rules | `(tactic| iterate 901 fail) => `(tactic| first
  | with_reducible assumption
  | with_reducible exact upd_same
  | (with_reducible refine' Ex.use (Ex.new ?n) ?h; (case n => with_reducible assumption); (case h => (iterate 901 fail)))
  | (with_reducible refine' Ex.use ?n ?h; (case n => with_reducible assumption); (case h => (iterate 901 fail))))
local macro_rules | `(tactic| iterate 902 fail) => `(tactic| first
  | with_reducible assumption
  | (with_reducible refine' SqL.of ?h; (case h => (iterate 901 fail)))
  | (with_reducible refine' SqT.of ?h; (case h => (iterate 901 fail)))
  | (iterate 912 fail))
local macro_rules | `(tactic| iterate 912 fail) => `(tactic| first
  | with_reducible assumption
  | (with_reducible refine' Ex.sql (Ex.new ?n) ?h; (case n => with_reducible assumption); (case h => (iterate 912 fail)))
  | (with_reducible refine' Ex.sqt (Ex.new ?n) ?h; (case n => with_reducible assumption); (case h => (iterate 912 fail)))
  | (with_reducible refine' Ex.sql ?n ?h; (case n => with_reducible assumption); (case h => (iterate 912 fail)))
  | (with_reducible refine' Ex.sqt ?n ?h; (case n => with_reducible assumption); (case h => (iterate 912 fail))))
local macro_rules | `(tactic| iterate 903 fail) => `(tactic| first
  | with_reducible assumption
  | with_reducible exact Ex.refl _
  | (with_reducible refine' Ex.mk ?e ?n; (case n => with_reducible assumption); (case e => (iterate 903 fail)))
  | (with_reducible refine' Ex.trans ?e ?n; (case n => with_reducible assumption); (case e => (iterate 903 fail))))
local macro_rules | `(tactic| iterate 904 fail) => `(tactic| first
  | with_reducible assumption
  | (apply line_le; simp only [List.length_cons, List.length_nil, List.length_append, List.length_map, List.length_range]; omega)
  | (apply line_lt; simp only [List.length_cons, List.length_nil, List.length_append, List.length_map, List.length_range]; omega))
local macro_rules | `(tactic| iterate 905 fail) => `(tactic| (apply line_le; first | (show List.length _ ≤ _; omega) | (simp only [U.T, PySem.Str.length, List.size_toArray, List.length_cons, List.length_nil, List.length_append, List.length_map, List.length_reverse]; omega)))
local macro_rules | `(tactic| iterate 906 fail) => `(tactic| first
  | with_reducible exact TyX.base (TyOf.str _) | with_reducible exact TyX.base (TyOf.int _) | with_reducible exact TyX.base (TyOf.bl _) | with_reducible exact TyX.base TyOf.non
  | (with_reducible refine' TyX.base (TyOf.lst ?h); (case h => (iterate 901 fail))) | (with_reducible refine' TyX.base (TyOf.tup ?h); (case h => (iterate 901 fail))) | (with_reducible refine' TyX.base (TyOf.dK ?h); (case h => (iterate 901 fail))))
local macro_rules | `(tactic| iterate 907 fail) => `(tactic| first
  | (with_reducible refine' k_tyL ?h ?k; (case h => (iterate 901 fail)))
  | (with_reducible refine' k_app ?h ?z ?k; (case h => (iterate 901 fail)); (case z => (iterate 904 fail)))
  | (with_reducible refine' k_gTup ?h ?z ?k; (case h => (iterate 902 fail)); (case z => exact rfl))
  | (with_reducible refine' k_I ?c ?k; (case c => first | decide | exact ⟨by decide, by decide⟩))
  | (with_reducible refine' k_ixL ?h ?a ?k; (case h => (iterate 902 fail)); (case a => exact rfl))
  | (with_reducible refine' k_ixT ?h ?a ?k; (case h => (iterate 902 fail)); (case a => exact rfl))
  | (with_reducible refine' k_lenL ?h ?k; (case h => (iterate 902 fail)))
  | (with_reducible refine' k_lenT ?h ?k; (case h => (iterate 902 fail)))
  | (with_reducible refine' k_lenS ?h ?k; (case h => (iterate 905 fail)))
  | (with_reducible refine' k_isi (b := true) ?t ?e ?k; (case t => (iterate 906 fail)); (case e => decide +kernel))
  | (with_reducible refine' k_isi (b := false) ?t ?e ?k; (case t => (iterate 906 fail)); (case e => decide +kernel)))
local macro_rules | `(tactic| iterate 908 fail) => `(tactic| first | with_reducible refine Stp.h ?_ | (iterate 907 fail))
local macro_rules | `(tactic| iterate 909 fail) => `(tactic| ((try dsimp only); repeat (iterate 908 fail)))
local macro_rules | `(tactic| iterate 910 fail) => `(tactic| (simp only [start_cons, start_nil, start_end]; repeat (iterate 908 fail)))

section
variable {P : Program} {w : World} {K : PySem.W.Frag} {mg : Str → Option Value} {base : Heap}
/-- stepped(place, letter) -/
def sp_stepped : Sp := fun vs H Q _ => ∃ (i : Int) (b : Bool), vs = [.int i, .str (T [chM b])] ∧ Q (.int (if b then i + 1 else i - 1)) H
theorem isFb (b : Bool) : decide ((T [chM b]) = Str.ofString "f") = b := by cases b <;> decide +kernel
abbrev s_stepped : Stmt := topS 22
theorem sc_stepped : FnScope ["place", "letter"] ["place", "letter"] (defScope s_stepped) := ⟨rfl, rfl, rfl, by decide +kernel, rfl, by decide +kernel, by decide +kernel⟩
theorem ok_stepped {f : Addr} {fd : FuncData} (F : Fun K "stepped" "stepped" s_stepped f fd) : FnOk P w K mg base CX0 1 f fd ["place", "letter"] sp_stepped := by
  refine F.ok sc_stepped (fun vs H Q E h => ?_) (fun cdv A outer s H vs Q E hr h => ?_)
  · obtain ⟨i, b, rfl, _⟩ := h
    rfl
  have hu64 := hr.units
  obtain ⟨i, b, rfl, q⟩ := h
  refine ⟨_, (pss_cons (ps_if (pt_cmpR (op_eqUK (K := K) rfl hu64) (pv 1) pe_str (nomark _)) (pss_one (ps_ret (pe_op (op_addUK (K := K) rfl) (pv 0) pe_int))) pss_nil)
    (pss_one (ps_ret (pe_op op_sub (pv 0) pe_int)))), ?_⟩
  (iterate 910 fail)
  rw [isFb]
  cases b
  · (iterate 909 fail)
    exact q
  · (iterate 909 fail)
    exact q
/-- done(one, other, places, move) -/
def sp_done (K : PySem.W.Frag) : Sp := fun vs H Q _ => ∃ (a1 a2 a3 : Addr) (A B : List Int) (p : Pl) (m : Mv), vs = [.ref a1, .ref a2, .ref a3, vM m] ∧ SqL K H a1 (A.map V.int) ∧ SqL K H a2 (B.map V.int) ∧ TP H a3 p ∧ Vd A B p ∧
  (nextP A B p m = none → ∀ H' r, Ex H H' → H r = none → H' r = some (.tup []) → Q (.ref r) H') ∧ (∀ q, nextP A B p m = some q → ∀ H' r, Ex H H' → H r = none → TP H' r q → Q (.ref r) H')
theorem mt_len (m : Mv) : (mt m).length ≤ sizeLine := line_le (by show 2 ≤ _; decide)
theorem mt_at0 (m : Mv) : atI (mt m).cps.toList 0 = some (chM m.1) := rfl
theorem mt_at1 (m : Mv) : atI (mt m).cps.toList 1 = some (chM m.2) := rfl
/-- a step along the heights -/
theorem nb_step (A : List Int) (i : Nat) (b : Bool) : (nb A i b = none ∧ ¬ (0 ≤ (if b then (i : Int) + 1 else i - 1) ∧ (if b then (i : Int) + 1 else i - 1) < A.length)) ∨
    ∃ a, nb A i b = some a ∧ (if b then (i : Int) + 1 else i - 1) = (sh i b : Nat) ∧ sh i b < A.length ∧ A[sh i b]? = some a ∨ A.length < i := by
  by_cases hi : A.length < i
  · exact .inr ⟨0, .inr hi⟩
  cases hn : nb A i b with
  | none =>
    refine .inl ⟨rfl, ?_⟩
    unfold nb at hn
    cases b
    · rw [if_neg Bool.false_ne_true] at hn ⊢
      by_cases e : i = 0
      · omega
      · rw [if_neg e, List.getElem?_eq_none_iff] at hn
        omega
    · rw [if_pos rfl, List.getElem?_eq_none_iff] at hn
      rw [if_pos rfl]
      omega
  | some a =>
    have g := nb_sh hn
    refine .inr ⟨a, .inl ⟨rfl, ?_, (List.getElem?_eq_some_iff.mp g).1, g⟩⟩
    unfold nb at hn
    unfold sh
    cases b
    · rw [if_neg Bool.false_ne_true] at hn ⊢
      by_cases e : i = 0
      · rw [if_pos e] at hn; cases hn
      · rw [if_neg Bool.false_ne_true]; omega
    · rw [if_pos rfl, if_pos rfl]; rfl
theorem nb_step2 {A : List Int} {i : Nat} (h : i < A.length) (b : Bool) : (nb A i b = none ∧ ¬ (0 ≤ (if b then (i : Int) + 1 else i - 1) ∧ (if b then (i : Int) + 1 else i - 1) < A.length)) ∨
    ∃ a, nb A i b = some a ∧ (if b then (i : Int) + 1 else i - 1) = (sh i b : Nat) ∧ sh i b < A.length ∧ A[sh i b]? = some a := by
  rcases nb_step A i b with e | ⟨a, e | e⟩
  · exact .inl e
  · exact .inr ⟨a, e⟩
  · omega
theorem chain_dec (x n : Int) : (decide ((0 : Int) ≤ x) = true ∧ decide (x < n) = true) ↔ (0 ≤ x ∧ x < n) := by simp
abbrev s_done : Stmt := topS 23
theorem sc_done : FnScope ["one", "other", "places", "move", "first", "second"] ["one", "other", "places", "move"] (defScope s_done) := ⟨rfl, rfl, rfl, by decide +kernel, rfl, by decide +kernel, by decide +kernel⟩
theorem ok_done {f : Addr} {fd : FuncData} (F : Fun K "done" "done" s_done f fd) (c_stepped : Cal P w K mg base CX0 1 "stepped" sp_stepped) (m_len : mg "len" = none) : FnOk P w K mg base CX0 2 f fd ["one", "other", "places", "move"] (sp_done K) := by
  refine F.ok sc_done (fun vs H Q E h => ?_) (fun cdv A outer s H vs Q E hr h => ?_)
  · obtain ⟨a1, a2, a3, A, B, p, m, rfl, _⟩ := h
    rfl
  have hu64 := hr.units
  obtain ⟨a1, a2, a3, C, D, p, m, rfl, h1, h2, h3, v, q0, q1⟩ := h
  refine ⟨_, (pss_cons (ps_par (i := 4) (j := 5) rfl sc_done.nd rfl rfl (by decide) rfl rfl (pa_cons (pe_c0 c_stepped hr (by decide) (by rfl) (pa_cons (pe_ix (ix_seqK (K := K) rfl) (pv 2) pe_int (fun _ _ => rfl)) (pa_cons (pe_ix (ix_seqK (K := K) rfl) (pv 3) pe_int (fun _ _ => rfl)) pa_nil))) (pa_cons (pe_c0 c_stepped hr (by decide) (by rfl) (pa_cons (pe_ix (ix_seqK (K := K) rfl) (pv 2) pe_int (fun _ _ => rfl)) (pa_cons (pe_ix (ix_seqK (K := K) rfl) (pv 3) pe_int (fun _ _ => rfl)) pa_nil))) pa_nil)) rfl)
    (pss_cons (ps_if ((pw_or (pt_not (pt_chain op_le op_lt pe_int (pv 4) (pe_callB (call_lenUK (K := K) rfl) (by rfl) m_len (by rfl) (pa_cons (pv 0) pa_nil)))) (pw_or1 (pt_not (pt_chain op_le op_lt pe_int (pv 5) (pe_callB (call_lenUK (K := K) rfl) (by rfl) m_len (by rfl) (pa_cons (pv 1) pa_nil)))))).pt) (pss_one (ps_ret (pe_tup pa_nil))) pss_nil)
    (pss_cons (ps_if (pt_cmpR (op_neUK (K := K) rfl hu64) (pe_ix (ix_seqK (K := K) rfl) (pv 0) (pv 4) (fun _ _ => rfl)) (pe_ix (ix_seqK (K := K) rfl) (pv 1) (pv 5) (fun _ _ => rfl)) (nomark _)) (pss_one (ps_ret (pe_tup pa_nil))) pss_nil)
    (pss_one (ps_ret (pe_tup (pa_cons (pv 4) (pa_cons (pv 5) pa_nil)))))))), ?_⟩
  (iterate 910 fail)
  refine k_ixT (SqT.of h3) (i := 0) rfl ?_
  (iterate 909 fail)
  refine k_ixS (mt_len m) (mt_at0 m) ?_
  (iterate 909 fail)
  refine ⟨_, _, rfl, ?_⟩
  (iterate 909 fail)
  refine k_ixT (SqT.of h3) (i := 1) rfl ?_
  (iterate 909 fail)
  refine k_ixS (mt_len m) (mt_at1 m) ?_
  (iterate 909 fail)
  refine ⟨_, _, rfl, ?_⟩
  (iterate 909 fail)
  simp only [List.set_cons_succ, List.set_cons_zero]
  have g1 := nb_step2 v.one m.1
  have g2 := nb_step2 v.two m.2
  generalize (if m.1 = true then (p.1 : Int) + 1 else p.1 - 1) = x at g1 ⊢
  generalize (if m.2 = true then (p.2 : Int) + 1 else p.2 - 1) = y at g2 ⊢
  have hn : (¬ ((0 ≤ x ∧ x < C.length) ∧ (0 ≤ y ∧ y < D.length))) → nextP C D p m = none := fun z => by
    cases e : nextP C D p m with
    | none => rfl
    | some q =>
      obtain ⟨a, e1, e2, _⟩ := nextP_iff.mp e
      rcases g1 with ⟨g1, _⟩ | ⟨a1, g1, g3, g4, _⟩
      · rw [g1] at e1; cases e1
      rcases g2 with ⟨g2, _⟩ | ⟨a2, g2, g5, g6, _⟩
      · rw [g2] at e2; cases e2
      exact (z ⟨⟨by omega, by omega⟩, ⟨by omega, by omega⟩⟩).elim
  have fin : (¬ ((0 ≤ x ∧ x < C.length) ∧ (0 ≤ y ∧ y < D.length))) → ([] : List V).length ≤ sizeLine ∧ ∀ r, H r = none → Q (.ref r) (upd H r (.tup [])) := fun z => ⟨line_le (by show 0 ≤ _; omega), fun r nr => q0 (hn z) _ r (Ex.new nr) nr upd_same⟩
  (iterate 909 fail)
  refine k_if (fun hx => ?_) (fun hx => ?_)
  rotate_left
  · (iterate 909 fail)
    exact fin (by omega)
  (iterate 909 fail)
  rw [List.length_map]
  by_cases hx2 : x < C.length
  rotate_left
  · rw [decide_eq_false hx2]
    (iterate 909 fail)
    exact fin (by omega)
  rw [decide_eq_true hx2]
  (iterate 909 fail)
  refine k_if (fun hy => ?_) (fun hy => ?_)
  rotate_left
  · (iterate 909 fail)
    exact fin (by omega)
  (iterate 909 fail)
  rw [List.length_map]
  by_cases hy2 : y < D.length
  rotate_left
  · rw [decide_eq_false hy2]
    (iterate 909 fail)
    exact fin (by omega)
  rw [decide_eq_true hy2]
  (iterate 909 fail)
  rcases g1 with ⟨_, g1⟩ | ⟨a1', g1, g3, g4, g7⟩
  · exact (g1 ⟨hx, hx2⟩).elim
  rcases g2 with ⟨_, g2⟩ | ⟨a2', g2, g5, g6, g8⟩
  · exact (g2 ⟨hy, hy2⟩).elim
  subst g3 g5
  refine k_ixL h1 (v := .int a1') (atI_nat (by rw [List.getElem?_map, g7]; rfl)) ?_
  (iterate 909 fail)
  refine k_ixL h2 (v := .int a2') (atI_nat (by rw [List.getElem?_map, g8]; rfl)) ?_
  (iterate 909 fail)
  refine k_ifn (fun he => ?_) (fun he => ?_)
  · (iterate 909 fail)
    refine ⟨by (iterate 904 fail), fun r nr => q0 ?_ _ r (Ex.new nr) nr upd_same⟩
    unfold nextP
    rw [g1, g2, if_neg (fun z => he (Option.some.inj z.2))]
  · (iterate 909 fail)
    refine ⟨by (iterate 904 fail), fun r nr => q1 (sh p.1 m.1, sh p.2 m.2) ?_ _ r (Ex.new nr) nr upd_same⟩
    subst he
    exact nextP_iff.mpr ⟨_, g1, g2, rfl⟩
/-- moves_from(one, other, places) -/
def sp_moves_from (K : PySem.W.Frag) : Sp := fun vs H Q _ => ∃ (a1 a2 a3 : Addr) (A B : List Int) (p : Pl), vs = [.ref a1, .ref a2, .ref a3] ∧ SqL K H a1 (A.map V.int) ∧ SqL K H a2 (B.map V.int) ∧ TP H a3 p ∧ Vd A B p ∧
  (∀ H' r rs, Ex H H' → H r = none → H' r = some (.lst rs) → Paired (MvR H') (nexts A B p) rs → Q (.ref r) H')
abbrev s_moves_from : Stmt := topS 24
theorem sc_moves_from : FnScope ["one", "other", "places", "found", "move", "behind"] ["one", "other", "places"] (defScope s_moves_from) := ⟨rfl, rfl, rfl, by decide +kernel, rfl, by decide +kernel, by decide +kernel⟩
theorem ok_moves_from {f : Addr} {fd : FuncData} (F : Fun K "moves_from" "moves_from" s_moves_from f fd) {aM : Addr} (c_done : Cal P w K mg base CX0 2 "done" (sp_done K)) (g_MOVES : ∃ u, mg "MOVES" = some u ∧ RelV (.ref aM) u) (hM : ∀ H, SqT K H aM vMOVES) : FnOk P w K mg base CX0 3 f fd ["one", "other", "places"] (sp_moves_from K) := by
  refine F.ok sc_moves_from (fun vs H Q E h => ?_) (fun cdv A outer s H vs Q E hr h => ?_)
  · obtain ⟨a1, a2, a3, A, B, p, rfl, _⟩ := h
    rfl
  have hu64 := hr.units
  obtain ⟨a1, a2, a3, C, D, p, rfl, h1, h2, h3, v, q⟩ := h
  refine ⟨_, (pss_cons (ps_set (i := 3) sc_moves_from.nd rfl (.inl rfl) (pe_lst pa_nil))
    (pss_cons (ps_for PassesOwn.never rfl (tupIK (K := K) rfl (pi_tup (pe_gv (by rfl) g_MOVES))) (pg_name (i := 4) sc_moves_from.nd rfl (.inl rfl)) (pss_cons (ps_set (i := 5) sc_moves_from.nd rfl (.inl rfl) (pe_c0 c_done hr (by decide) (by rfl) (pa_cons (pv 0) (pa_cons (pv 1) (pa_cons (pv 2) (pa_cons (pv 4) pa_nil))))))
    (pss_one (ps_if (pt_cmpR (op_neUK (K := K) rfl hu64) (pv 5) (pe_tup pa_nil) (nomark _)) (pss_one (ps_expr (bmK (K := K) rfl (pe_bm PySem.F.plainAttrs_list PySem.F.slot_list_append PySem.F.type_list_append mt_append (pv 3) (pa_cons (pe_tup (pa_cons (pv 4) (pa_cons (pv 5) pa_nil))) pa_nil))))) pss_nil))))
    (pss_one (ps_ret (pv 3))))), ?_⟩
  (iterate 910 fail)
  refine ⟨by (iterate 904 fail), fun o no => ?_⟩
  (iterate 909 fail)
  refine ⟨_, rfl, ⟨_, hM _⟩, for_tup (xs := vMOVES) (fun i σ' H' => ∃ x y rs, σ' = [some (.ref a1), some (.ref a2), some (.ref a3), some (.ref o), x, y] ∧ i ≤ 4 ∧ Ex H H' ∧ H' o = some (.lst rs) ∧ rs.length ≤ i ∧ Paired (MvR H') (nextsL C D p (allM.take i)) rs) ⟨none, none, [], rfl, by omega, Ex.new no, upd_same, Nat.le_refl _, .nil⟩ (fun i σ' H' hi hI => hM _) (fun i x σ' H' hc hI => ?_) (fun σ' H' hI => ?_)⟩
  · obtain ⟨x1, y1, rs, rfl, hi, e, ho, hl, hp⟩ := hI
    rw [vMOVES_eq] at hc
    obtain ⟨m, hm, rfl⟩ := mvs_at hc
    have hi3 : i + 1 ≤ 4 := (List.getElem?_eq_some_iff.mp hm).1
    have hmore := nextsL_more (A := C) (B := D) (p := p) hm
    (iterate 909 fail)
    refine ⟨a1, a2, a3, C, D, p, m, rfl, e.sql h1, e.sql h2, e _ _ h3, v, fun hn H2 r e2 nr hr2 => ?_, fun q2 hn H2 r e2 nr hr2 => ?_⟩
    · rw [hn] at hmore
      have hmore : nextsL C D p (allM.take (i + 1)) = nextsL C D p (allM.take i) := by rw [hmore]; exact List.append_nil _
      (iterate 909 fail)
      refine ⟨by (iterate 904 fail), fun o2 no2 => ?_⟩
      refine k_neNN ((Ex.new no2).use hr2) upd_same ?_
      (iterate 909 fail)
      have e3 := e2.trans (Ex.new no2 (o := .tup []))
      refine ⟨_, _, rs, rfl, hi3, e.trans e3, e3.use ho, by omega, ?_⟩
      rw [hmore]
      exact Paired.mono (fun _ _ z => z.tx e3.tx) hp
    · rw [hn] at hmore
      have hmore : nextsL C D p (allM.take (i + 1)) = nextsL C D p (allM.take i) ++ [(m, q2)] := hmore
      (iterate 909 fail)
      refine ⟨by (iterate 904 fail), fun o2 no2 => ?_⟩
      refine k_nePlN ((Ex.new no2).use hr2) upd_same ?_
      (iterate 909 fail)
      have e3 := e2.trans (Ex.new no2 (o := .tup []))
      have ho3 := e3.use ho
      refine ⟨by (iterate 904 fail), fun o4 no4 => ?_⟩
      have e5 := e3.trans (Ex.new no4 (o := .tup [vM m, .ref r]))
      have ho5 := e5.use ho
      refine k_nil ?_
      refine k_app ho5 (line_lt (by omega)) ?_
      (iterate 909 fail)
      have t5 : Tx (upd (upd H2 o2 (.tup [])) o4 (.tup [vM m, .ref r])) _ := Tx.lst ho5 (o := .lst (rs ++ [.ref o4]))
      refine ⟨_, _, _, rfl, hi3, Ex.mut (e.trans e5) no, upd_same, by rw [List.length_append, List.length_singleton]; omega, ?_⟩
      rw [hmore]
      refine (Paired.mono (fun _ _ z => (z.tx e5.tx).tx t5) hp).snoc ⟨o4, r, rfl, t5 _ _ upd_same, t5 _ _ ((Ex.new no4).use ((Ex.new no2).use hr2))⟩
  · obtain ⟨x1, y1, rs, rfl, hi, e, ho, hl, hp⟩ := hI
    (iterate 909 fail)
    exact q _ _ _ e no ho hp

/-- found_from(mine, theirs) -/
def sp_found_from (K : PySem.W.Frag) : Sp := fun vs H Q _ => ∃ (a1 a2 : Addr) (A B : List Int) (N : Nat), vs = [.ref a1, .ref a2] ∧ SqL K H a1 (A.map V.int) ∧ SqL K H a2 (B.map V.int) ∧ Vd A B (0, 0) ∧ (∀ L : List Pl, L.Nodup → (∀ p ∈ L, Vd A B p) → L.length ≤ N) ∧ N ≤ 16000000 ∧
  (∀ H' r kvs Es, Ex H H' → H r = none → H' r = some (.dT kvs) → Paired (EnR H') Es kvs → Bfs A B Es.length Es → Q (.ref r) H')
abbrev s_found_from : Stmt := topS 34
theorem sc_found_from : FnScope ["mine", "theirs", "ahead", "waiting", "at", "places", "move", "behind"] ["mine", "theirs"] (defScope s_found_from) := ⟨rfl, rfl, rfl, by decide +kernel, rfl, by decide +kernel, by decide +kernel⟩
theorem ok_found_from {f : Addr} {fd : FuncData} (F : Fun K "found_from" "found_from" s_found_from f fd) (c_moves_from : Cal P w K mg base CX0 3 "moves_from" (sp_moves_from K)) (m_len : mg "len" = none) : FnOk P w K mg base CX0 4 f fd ["mine", "theirs"] (sp_found_from K) := by
  refine F.ok sc_found_from (fun vs H Q E h => ?_) (fun cdv A outer s H vs Q E hr h => ?_)
  · obtain ⟨a1, a2, A, B, N, rfl, _⟩ := h
    rfl
  have hu := hu_of hr
  have hu64 := hr.units
  obtain ⟨a1, a2, C, D, N, rfl, h1, h2, v0, hN, hN2, q⟩ := h
  refine ⟨_, (pss_cons (ps_set (i := 2) sc_found_from.nd rfl (.inl rfl) (pe_dispT (pe_tup (pa_cons pe_int (pa_cons pe_int pa_nil))) (pe_tup (pa_cons (pe_tup (pa_cons pe_int (pa_cons pe_int pa_nil))) (pa_cons pe_str pa_nil))) (Nat.lt_of_le_of_lt (Nat.le_add_right _ 64) hu64)))
    (pss_cons (ps_set (i := 3) sc_found_from.nd rfl (.inl rfl) (pe_lst (pa_cons (pe_tup (pa_cons pe_int (pa_cons pe_int pa_nil))) pa_nil)))
    (pss_cons (ps_set (i := 4) sc_found_from.nd rfl (.inl rfl) pe_int)
    (pss_cons (ps_while PassesOwn.never (pt_cmpR op_lt (pv 4) (pe_callB (call_lenUK (K := K) rfl) (by rfl) m_len (by rfl) (pa_cons (pv 3) pa_nil)) (nomark _)) (pss_cons (ps_set (i := 5) sc_found_from.nd rfl (.inl rfl) (pe_ix (ix_seqK (K := K) rfl) (pv 3) (pv 4) (fun _ _ => rfl)))
    (pss_cons (ps_set (i := 4) sc_found_from.nd rfl (.inl rfl) (pe_op (op_addUK (K := K) rfl) (pv 4) pe_int))
    (pss_one (ps_for PassesOwn.never rfl (listIK (K := K) rfl (pi_list (pe_c0 c_moves_from hr (by decide) (by rfl) (pa_cons (pv 0) (pa_cons (pv 1) (pa_cons (pv 5) pa_nil)))))) (tupGK (K := K) rfl (pg_tup rfl (pgs_cons (pg_name (i := 6) sc_found_from.nd rfl (.inl rfl)) (pgs_cons (pg_name (i := 7) sc_found_from.nd rfl (.inl rfl)) pgs_nil)))) (pss_one (ps_if (pt_cmp (pc_dnotin hu (pv 7) (pv 2))) (pss_cons (ps_dput hu (pv 2) (pv 7) (pe_tup (pa_cons (pv 5) (pa_cons (pv 6) pa_nil))) rfl)
    (pss_one (ps_expr (bmK (K := K) rfl (pe_bm PySem.F.plainAttrs_list PySem.F.slot_list_append PySem.F.type_list_append mt_append (pv 3) (pa_cons (pv 7) pa_nil)))))) pss_nil)))))))
    (pss_one (ps_ret (pv 2))))))), ?_⟩
  (iterate 910 fail)
  intro pd nd
  (iterate 909 fail)
  refine ⟨by (iterate 904 fail), fun b1 n1 => ?_⟩
  (iterate 909 fail)
  refine ⟨by (iterate 904 fail), fun b2 n2 => ?_⟩
  (iterate 909 fail)
  refine ⟨by (iterate 904 fail), fun b3 n3 => ?_⟩
  have t1 : upd (upd (upd (upd H pd (.dT [])) b1 (.tup [.int 0, .int 0])) b2 (.tup [.int 0, .int 0])) b3 (.tup [.ref b2, .str (Str.ofString "")]) b1 = some (.tup [.int 0, .int 0]) := (Ex.new n3).use ((Ex.new n2).use upd_same)
  have t2 : upd (upd (upd (upd H pd (.dT [])) b1 (.tup [.int 0, .int 0])) b2 (.tup [.int 0, .int 0])) b3 (.tup [.ref b2, .str (Str.ofString "")]) b2 = some (.tup [.int 0, .int 0]) := (Ex.new n3).use upd_same
  have t3 : upd (upd (upd (upd H pd (.dT [])) b1 (.tup [.int 0, .int 0])) b2 (.tup [.int 0, .int 0])) b3 (.tup [.ref b2, .str (Str.ofString "")]) b3 = some (.tup [.ref b2, .str (Str.ofString "")]) := upd_same
  have t4 : upd (upd (upd (upd H pd (.dT [])) b1 (.tup [.int 0, .int 0])) b2 (.tup [.int 0, .int 0])) b3 (.tup [.ref b2, .str (Str.ofString "")]) pd = some (.dT []) := (Ex.new n3).use ((Ex.new n2).use ((Ex.new n1).use upd_same))
  have e0 : Ex H (upd (upd (upd (upd H pd (.dT [])) b1 (.tup [.int 0, .int 0])) b2 (.tup [.int 0, .int 0])) b3 (.tup [.ref b2, .str (Str.ofString "")])) := (((Ex.new nd).mk n1).mk n2).mk n3
  generalize upd (upd (upd (upd H pd (.dT [])) b1 (.tup [.int 0, .int 0])) b2 (.tup [.int 0, .int 0])) b3 (.tup [.ref b2, .str (Str.ofString "")]) = H3 at t1 t2 t3 t4 e0 ⊢
  refine ⟨b1, keyP (0, 0), rfl, t4, t1, ?_⟩
  have x0 : Tx H3 (upd H3 pd (.dT [(keyP (0, 0), .ref b3)])) := Tx.dT t4
  have e1 : Ex H (upd H3 pd (.dT [(keyP (0, 0), .ref b3)])) := Ex.mut e0 nd
  have d1 : upd H3 pd (.dT [(keyP (0, 0), .ref b3)]) pd = some (.dT [(keyP (0, 0), .ref b3)]) := upd_same
  have p1 : Paired (EnR (upd H3 pd (.dT [(keyP (0, 0), .ref b3)]))) [((0, 0), (0, 0), Str.ofString "")] [(keyP (0, 0), .ref b3)] := .cons ⟨rfl, b3, b2, rfl, x0 _ _ t3, x0 _ _ t2⟩ .nil
  generalize upd H3 pd (.dT [(keyP (0, 0), .ref b3)]) = H4 at e1 d1 p1 ⊢
  (iterate 909 fail)
  refine ⟨by (iterate 904 fail), fun b5 n5 => ?_⟩
  (iterate 909 fail)
  refine ⟨by (iterate 904 fail), fun wt nw => ?_⟩
  (iterate 909 fail)
  have e6 : Ex H4 (upd (upd H4 b5 (.tup [.int 0, .int 0])) wt (.lst [.ref b5])) := (Ex.new n5).mk nw
  have t6 : TP (upd (upd H4 b5 (.tup [.int 0, .int 0])) wt (.lst [.ref b5])) b5 (0, 0) := (Ex.new nw).use upd_same
  have w6 : upd (upd H4 b5 (.tup [.int 0, .int 0])) wt (.lst [.ref b5]) wt = some (.lst [.ref b5]) := upd_same
  have nw0 : H wt = none := e1.free ((Ex.new n5).free nw)
  have nwd : wt ≠ pd := fun z => by
    have := (Ex.new n5 (o := .tup [.int 0, .int 0])).use d1
    rw [← z, nw] at this
    cases this
  generalize upd (upd H4 b5 (.tup [.int 0, .int 0])) wt (.lst [.ref b5]) = H6 at e6 t6 w6 ⊢
  refine while_by (fun σ H' => ∃ (k : Nat) (Es : List En) (ws : List V) (kvs : List (List Key × V)) (x5 x6 x7 : Option V), σ = [some (.ref a1), some (.ref a2), some (.ref pd), some (.ref wt), some (.int k), x5, x6, x7] ∧ k ≤ Es.length ∧ Ex H H' ∧ H' pd = some (.dT kvs) ∧ H' wt = some (.lst ws) ∧ Paired (EnR H') Es kvs ∧ Paired (PlR H') (Es.map (·.1)) ws ∧ Bfs C D k Es) (togo N)
    ⟨0, [((0, 0), (0, 0), Str.ofString "")], _, _, none, none, none, rfl, Nat.zero_le _, e1.trans e6, e6.use d1, w6, Paired.mono (fun _ _ z => z.tx e6.tx) p1, .cons ⟨b5, rfl, t6⟩ .nil, Bfs.init v0⟩ ?_ ?_
  rotate_left
  · rintro σ H Q Q' f ⟨v, hv, w, hw, h⟩
    refine ⟨v, hv, w, hw, ?_⟩
    rcases h with ⟨p, ys, e1, e2, h⟩ | ⟨z, e1, e2, h⟩
    · obtain ⟨i, j, e3, e4, b, e5, h⟩ := h
      exact .inl ⟨p, ys, e1, e2, i, j, e3, e4, b, e5, f _ _ h⟩
    · obtain ⟨i, j, e3, e4, b, e5, h⟩ := h
      exact .inr ⟨z, e1, e2, i, j, e3, e4, b, e5, f _ _ h⟩
  clear e6 t6 w6 e1 d1 p1 x0 e0 t1 t2 t3 t4 n1 n2 n3 n5
  clear nw H6 H4 H3
  rintro σ H' ⟨k, Es, ws, kvs, x5, x6, x7, rfl, hk, e, hd, hw, pE, pW, B⟩
  have hlw : ws.length = Es.length := by rw [← pW.length, List.length_map]
  have hlN : Es.length ≤ N := B.few hN
  (iterate 909 fail)
  rw [hlw]
  refine k_if (fun hlt => ?_) (fun hge => ?_)
  · have hlt : k < Es.length := by omega
    obtain ⟨en, hen⟩ : ∃ en, Es[k]? = some en := ⟨_, List.getElem?_eq_getElem hlt⟩
    obtain ⟨y, hy, a, rfl, ha⟩ := pair_at pW (i := k) (x := en.1) (by rw [List.getElem?_map, hen]; rfl)
    (iterate 909 fail)
    refine k_ixL (SqL.of hw) (atI_nat hy) ?_
    (iterate 909 fail)
    refine ⟨a1, a2, a, C, D, en.1, rfl, e.sql h1, e.sql h2, ha, B.vd _ (List.mem_of_getElem? hen), fun H2 r rs e2 nr hr2 hp => ?_⟩
    have hrw : r ≠ wt := fun z => by rw [z, hw] at nr; cases nr
    have hrd : r ≠ pd := fun z => by rw [z, hd] at nr; cases nr
    refine ⟨r, rfl, ⟨_, SqL.of hr2⟩, for_list (xs := rs) (fun i σ' H3 => ∃ (Es : List En) (ws : List V) (kvs : List (List Key × V)) (x6 x7 : Option V), σ' = [some (.ref a1), some (.ref a2), some (.ref pd), some (.ref wt), some (.int (k + 1)), some (.ref a), x6, x7] ∧ i ≤ rs.length ∧ Ex H H3 ∧ Tx H2 H3 ∧ H3 r = some (.lst rs) ∧ H3 pd = some (.dT kvs) ∧ H3 wt = some (.lst ws) ∧ Paired (EnR H3) Es kvs ∧ Paired (PlR H3) (Es.map (·.1)) ws ∧ Bfs C D k Es ∧ k + 1 ≤ Es.length ∧ Es[k]? = some en ∧ ∀ (j : Nat) (m : Mv) (p : Pl), j < i → (nexts C D en.1)[j]? = some (m, p) → p ∈ Es.map (·.1))
      ⟨Es, ws, kvs, x6, x7, rfl, Nat.zero_le _, e.trans e2, Tx.refl _, hr2, e2.use hd, e2.use hw, Paired.mono (fun _ _ z => z.tx e2.tx) pE, Paired.mono (fun _ _ z => z.tx e2.tx) pW, B, hlt, hen, fun j m p hj => absurd hj (Nat.not_lt_zero _)⟩ (fun i σ' H3 hi hI => ?_) (fun i x σ' H3 hc hI => ?_) (fun σ' H3 hI => ?_)⟩
    · obtain ⟨_, _, _, _, _, _, _, _, _, h, _⟩ := hI
      exact SqL.of h
    · obtain ⟨Es, ws, kvs, x6, x7, rfl, hi, e3, tx, hr3, hd3, hw3, pE, pW, B, hk3, hen3, hj⟩ := hI
      obtain ⟨⟨m, p⟩, hmp, c, b, rfl, hc1, hb1⟩ := pair_ta hp hc
      have hc3 := tx _ _ hc1
      have hb3 : TP H3 b p := tx _ _ hb1
      have hi4 : i + 1 ≤ rs.length := (List.getElem?_eq_some_iff.mp hc).1
      have hnp : nextP C D en.1 m = some p := mem_nexts.mp (List.mem_of_getElem? hmp)
      have hlw : ws.length = Es.length := by rw [← pW.length, List.length_map]
      have hld : kvs.length = Es.length := pE.length.symm
      have hlN : Es.length ≤ N := B.few hN
      refine k_gTup (SqT.of hc3) rfl ?_
      (iterate 909 fail)
      refine ⟨pd, _, rfl, DGet.t hd3 hb3.key, ?_⟩
      by_cases hin : p ∈ Es.map (·.1)
      · obtain ⟨e5, he5, hp5⟩ := List.mem_map.mp hin
        obtain ⟨j5, hj5⟩ := List.getElem?_of_mem he5
        obtain ⟨c5, b5, hv5, _⟩ := val_some pE B.nodup hj5
        rw [hp5] at hv5
        rw [hv5]
        (iterate 909 fail)
        refine ⟨Es, ws, kvs, _, _, rfl, hi4, e3, tx, hr3, hd3, hw3, pE, pW, B, hk3, hen3, fun j m' p' hjj hp' => ?_⟩
        by_cases hji : j = i
        · subst hji
          rw [hmp] at hp'
          injection Option.some.inj hp' with z1 z2
          rw [← z2]
          exact hin
        · exact hj j m' p' (by omega) hp'
      · rw [val_none pE hin]
        rw [Option.isSome_none]
        (iterate 909 fail)
        refine ⟨by (iterate 904 fail), fun c2 nc2 => ?_⟩
        (iterate 909 fail)
        have e7 : Ex H3 (upd H3 c2 (.tup [.ref a, vM m])) := Ex.new nc2
        have hd7 := e7.use hd3
        have hw7 := e7.use hw3
        have hb7 : TP (upd H3 c2 (.tup [.ref a, vM m])) b p := e7.use hb3
        have ha7 : TP (upd H3 c2 (.tup [.ref a, vM m])) a en.1 := e7.use (tx _ _ (e2.use ha))
        have hc7 : upd H3 c2 (.tup [.ref a, vM m]) c2 = some (.tup [.ref a, vM m]) := upd_same
        have hr7 := e7.use hr3
        have e37 : Ex H (upd H3 c2 (.tup [.ref a, vM m])) := e3.trans e7
        have tx7 := tx.trans e7.tx
        have pE7 := Paired.mono (fun _ _ z => EnR.tx e7.tx z) pE
        have pW7 := Paired.mono (fun _ _ z => PlR.tx e7.tx z) pW
        generalize upd H3 c2 (.tup [.ref a, vM m]) = H7 at e37 tx7 pE7 pW7 hd7 hw7 hb7 ha7 hc7 hr7 ⊢
        refine ⟨pd, _, rfl, DPut.t hd7 hb7.key (by rw [hld]; exact line_lt (by omega)), ?_⟩
        rw [putK_new _ (val_none pE hin)]
        have t8 : Tx H7 (upd H7 pd (.dT (kvs ++ [(keyP p, .ref c2)]))) := Tx.dT hd7
        have e8 : Ex H (upd H7 pd (.dT (kvs ++ [(keyP p, .ref c2)]))) := Ex.mut e37 nd
        have hd8 : upd H7 pd (.dT (kvs ++ [(keyP p, .ref c2)])) pd = some (.dT (kvs ++ [(keyP p, .ref c2)])) := upd_same
        have hw8 : upd H7 pd (.dT (kvs ++ [(keyP p, .ref c2)])) wt = some (.lst ws) := by rw [upd_ne nwd]; exact hw7
        have hr8 : upd H7 pd (.dT (kvs ++ [(keyP p, .ref c2)])) r = some (.lst rs) := by rw [upd_ne hrd]; exact hr7
        generalize upd H7 pd (.dT (kvs ++ [(keyP p, .ref c2)])) = H8 at t8 e8 hd8 hw8 hr8 ⊢
        (iterate 909 fail)
        refine k_app hw8 (line_lt (by omega)) ?_
        (iterate 909 fail)
        have t9 : Tx H8 (upd H8 wt (.lst (ws ++ [.ref b]))) := Tx.lst hw8
        have tt := t8.trans t9
        refine ⟨Es ++ [(p, en.1, mt m)], ws ++ [.ref b], kvs ++ [(keyP p, .ref c2)], _, _, rfl, hi4, Ex.mut e8 nw0, (tx7.trans tt), by rw [upd_ne hrw]; exact hr8, by rw [upd_ne (Ne.symm nwd)]; exact hd8, upd_same,
          (Paired.mono (fun _ _ z => EnR.tx tt z) pE7).snoc ⟨rfl, c2, a, rfl, tt _ _ hc7, tt _ _ (show H7 a = some (.tup [.int en.1.1, .int en.1.2]) from ha7)⟩, ?_, B.grow hen3 hnp hin (by omega), by rw [List.length_append]; omega, by rw [List.getElem?_append_left (by omega)]; exact hen3, fun j m' p' hjj hp' => ?_⟩
        · rw [List.map_append]
          exact (Paired.mono (fun _ _ z => PlR.tx tt z) pW7).snoc ⟨b, rfl, tt _ _ hb7⟩
        · rw [List.map_append]
          by_cases hji : j = i
          · subst hji
            rw [hmp] at hp'
            injection Option.some.inj hp' with z1 z2
            rw [← z2]
            exact List.mem_append_right _ (List.mem_singleton.mpr rfl)
          · exact List.mem_append_left _ (hj j m' p' (by omega) hp')
    · obtain ⟨Es, ws, kvs, x6, x7, rfl, hi, e3, tx, hr3, hd3, hw3, pE, pW, B, hk3, hen3, hj⟩ := hI
      have hlN : Es.length ≤ N := B.few hN
      refine ⟨⟨k + 1, Es, ws, kvs, _, _, _, rfl, hk3, e3, hd3, hw3, pE, pW, B.next hen3 fun m p hmp => ?_⟩, ?_⟩
      · obtain ⟨j, hjj⟩ := List.getElem?_of_mem (mem_nexts.mpr hmp)
        have hjl := (List.getElem?_eq_some_iff.mp hjj).1
        rw [hp.length] at hjl
        exact hj j m p hjl hjj
      · show N + 1 - ((k : Int) + 1).toNat < N + 1 - (k : Int).toNat
        omega
  · (iterate 909 fail)
    have : k = Es.length := by omega
    subst this
    exact q _ _ _ _ e nd hd pE B

/-- led(ahead, places) -/
def sp_led (K : PySem.W.Frag) : Sp := fun vs H Q _ => ∃ (ad ap : Addr) (A B : List Int) (n : Nat) (Es : List En) (kvs : List (List Key × V)) (p : Pl), vs = [.ref ad, .ref ap] ∧ H ad = some (.dT kvs) ∧ Paired (EnR H) Es kvs ∧ Bfs A B n Es ∧ TP H ap p ∧ p ∈ Es.map (·.1) ∧ Es.length ≤ 16000000 ∧
  (∀ H' r ms, Ex H H' → H r = none → H' r = some (.lst (mvs ms)) → walkP A B (0, 0) ms = some p → ms.length ≤ Es.length → Q (.ref r) H')
def left (N : Nat) (σ : L2.St) (H : Hp) : Nat := match (σ[2]? : Option (Option V)) with
  | some (some (V.ref l)) => (match H l with
    | some (HO.lst xs) => N - xs.length
    | _ => 0)
  | _ => 0
theorem left_at {N : Nat} {x0 x1 x3 : Option V} {l : Addr} {H : Hp} {xs : List V} (h : H l = some (.lst xs)) : left N [x0, x1, some (.ref l), x3] H = N - xs.length := by
  unfold left
  show (match H l with
    | some (HO.lst xs) => N - xs.length
    | _ => 0) = _
  rw [h]
abbrev s_led : Stmt := topS 35
theorem sc_led : FnScope ["ahead", "places", "moves", "move"] ["ahead", "places"] (defScope s_led) := ⟨rfl, rfl, rfl, by decide +kernel, rfl, by decide +kernel, by decide +kernel⟩
theorem ok_led {f : Addr} {fd : FuncData} (F : Fun K "led" "led" s_led f fd) : FnOk P w K mg base CX0 1 f fd ["ahead", "places"] (sp_led K) := by
  refine F.ok sc_led (fun vs H Q E h => ?_) (fun cdv A outer s H vs Q E hr h => ?_)
  · obtain ⟨ad, ap, A, B, n, Es, kvs, p, rfl, _⟩ := h
    rfl
  have hu := hu_of hr
  have hu64 := hr.units
  obtain ⟨ad, ap, C, D, n, Es, kvs, p, rfl, hd, pE, B, hp, hin, hz, q⟩ := h
  refine ⟨_, (pss_cons (ps_set (i := 2) sc_led.nd rfl (.inl rfl) (pe_lst pa_nil))
    (pss_cons (ps_while PassesOwn.never (pt_cmpR (op_neUK (K := K) rfl hu64) (pv 1) (pe_tup (pa_cons pe_int (pa_cons pe_int pa_nil))) (nomark _)) (pss_cons (ps_asg (pe_dget hu (pv 0) (pv 1) (fun _ _ => rfl)) (tupGK (K := K) rfl (pg_tup rfl (pgs_cons (pg_name (i := 1) sc_led.nd rfl (.inl rfl)) (pgs_cons (pg_name (i := 3) sc_led.nd rfl (.inl rfl)) pgs_nil)))))
    (pss_one (ps_expr (bmK (K := K) rfl (pe_bm PySem.F.plainAttrs_list PySem.F.slot_list_append PySem.F.type_list_append mt_append (pv 2) (pa_cons (pv 3) pa_nil)))))))
    (pss_one (ps_ret (revLK (K := K) rfl (pe_revL (pv 2))))))), ?_⟩
  (iterate 910 fail)
  refine ⟨by (iterate 904 fail), fun mo nm => ?_⟩
  (iterate 909 fail)
  obtain ⟨e0, he0, hp0⟩ := List.mem_map.mp hin
  obtain ⟨k0, hk0⟩ := List.getElem?_of_mem he0
  have hk0l := (List.getElem?_eq_some_iff.mp hk0).1
  subst hp0
  refine while_by (fun σ H' => ∃ (k : Nat) (e : En) (cs : List Mv) (a : Addr) (x3 : Option V), σ = [some (.ref ad), some (.ref a), some (.ref mo), x3] ∧ Es[k]? = some e ∧ TP H' a e.1 ∧ Ex H H' ∧ H' mo = some (.lst (mvs cs)) ∧ cs.length + k ≤ k0 ∧ walkP C D e.1 cs.reverse = some e0.1) (left Es.length)
    ⟨k0, e0, [], ap, none, rfl, hk0, (Ex.new nm).use hp, Ex.new nm, upd_same, by show 0 + k0 ≤ k0; omega, rfl⟩ ?_ ?_
  rotate_left
  · rintro σ H Q Q' f ⟨v, hv, hl, h⟩
    refine ⟨v, hv, hl, fun p np => ?_⟩
    rcases h p np with ⟨e1, b, e2, h⟩ | ⟨d, e, a1, a2, a3, a4, b, e5, h⟩
    · exact .inl ⟨e1, b, e2, f _ _ h⟩
    · exact .inr ⟨d, e, a1, a2, a3, a4, b, e5, f _ _ h⟩
  rintro σ H' ⟨k, e, cs, a, x3, rfl, hk, ha, ex, hm, hlen, hwk⟩
  (iterate 909 fail)
  refine ⟨by (iterate 904 fail), fun z nz => ?_⟩
  have ez : Ex H' (upd H' z (.tup [.int 0, .int 0])) := Ex.new nz
  refine k_nePl (ez.use ha) (show TP _ z (0, 0) from upd_same) ?_
  (iterate 909 fail)
  refine k_ifn (fun hne => ?_) (fun heq => ?_)
  · have hk1 : 0 < k := by
      by_cases h : 0 < k
      · exact h
      · have h : k = 0 := by omega
        subst h
        rw [B.start] at hk
        exact (hne (by rw [← Option.some.inj hk])).elim
    obtain ⟨j, m, e', hj, hj2, h3, h4, h5⟩ := B.par k e hk1 hk
    have hx := ex.trans ez
    obtain ⟨c, b, hv, hc, hb⟩ := val_some pE B.nodup hk
    have hc' := hx.use hc
    have hb' : TP (upd H' z (.tup [.int 0, .int 0])) b e'.1 := by rw [← h3]; exact hx.use hb
    have hm' := ez.use hm
    have ha' : TP (upd H' z (.tup [.int 0, .int 0])) a e.1 := ez.use ha
    have hd' := hx.use hd
    rw [h4] at hc'
    generalize upd H' z (.tup [.int 0, .int 0]) = H2 at hx hc' hb' hm' ha' hd' ⊢
    (iterate 909 fail)
    refine ⟨ad, _, rfl, by rw [← hv]; exact DGet.t hd' ha'.key, ?_⟩
    refine k_gTup (SqT.of hc') rfl ?_
    (iterate 909 fail)
    refine ⟨⟨j, e', cs ++ [m], b, _, rfl, hj2, ?_, Ex.mut hx nm, by rw [upd_same, mvs_snoc], by rw [List.length_append, List.length_singleton]; omega, ?_⟩, ?_⟩
    · exact Tx.lst hm' _ _ hb'
    · rw [List.reverse_append]
      show (nextP C D e'.1 m).bind (fun q => walkP C D q cs.reverse) = _
      rw [h5]
      exact hwk
    · rw [left_at upd_same, left_at hm, List.length_append, List.length_singleton, mvs_len]
      omega
  · rw [heq] at hwk
    (iterate 909 fail)
    refine ⟨_, _, rfl, SqL.of (ez.use hm), fun r nr => ?_⟩
    refine q _ r cs.reverse ((ex.trans ez).mk nr) ((ex.trans ez).free nr) ?_ hwk (by rw [List.length_reverse]; omega)
    rw [upd_same]
    unfold mvs
    rw [List.map_reverse]

/-- both(one, other), two climbs to one top -/
def sp_both : Sp := fun vs H Q _ => ∃ (u v : List Nat) (M : Int) (N : Nat), vs = [.str (T u), .str (T v)] ∧ Cl (hts u) M ∧ Cl (hts v) M ∧ (∀ L : List Pl, L.Nodup → (∀ p ∈ L, Vd (hts u) (hts v) p) → L.length ≤ N) ∧ N ≤ 16000000 ∧ u.length ≤ 16000000 ∧ v.length ≤ 16000000 ∧
  (∀ H' r ms, Ex H H' → H r = none → H' r = some (.lst (mvs ms)) → walkP (hts u) (hts v) (0, 0) ms = some (u.length, v.length) → ms.length ≤ N → Q (.ref r) H')
abbrev s_both : Stmt := topS 38
theorem sc_both : FnScope ["one", "other"] ["one", "other"] (defScope s_both) := ⟨rfl, rfl, rfl, by decide +kernel, rfl, by decide +kernel, by decide +kernel⟩
theorem ok_both {f : Addr} {fd : FuncData} (F : Fun K "both" "both" s_both f fd) (c_heights_of : Cal P w K mg base CX0 1 "heights_of" sp_heights_of) (c_found_from : Cal P w K mg base CX0 4 "found_from" (sp_found_from K)) (c_led : Cal P w K mg base CX0 1 "led" (sp_led K)) (m_len : mg "len" = none) : FnOk P w K mg base CX0 5 f fd ["one", "other"] sp_both := by
  refine F.ok sc_both (fun vs H Q E h => ?_) (fun cdv A outer s H vs Q E hr h => ?_)
  · obtain ⟨u, v, M, N, rfl, _⟩ := h
    rfl
  obtain ⟨u, v, M, N, rfl, cu, cv, hN, hN2, zu, zv, q⟩ := h
  refine ⟨_, (pss_one (ps_ret (pe_c0 c_led hr (by decide) (by rfl) (pa_cons (pe_c0 c_found_from hr (by decide) (by rfl) (pa_cons (pe_c0 c_heights_of hr (by decide) (by rfl) (pa_cons (pv 0) pa_nil)) (pa_cons (pe_c0 c_heights_of hr (by decide) (by rfl) (pa_cons (pv 1) pa_nil)) pa_nil))) (pa_cons (pe_tup (pa_cons (pe_callB (call_lenUK (K := K) rfl) (by rfl) m_len (by rfl) (pa_cons (pv 0) pa_nil)) (pa_cons (pe_callB (call_lenUK (K := K) rfl) (by rfl) m_len (by rfl) (pa_cons (pv 1) pa_nil)) pa_nil))) pa_nil))))), ?_⟩
  (iterate 910 fail)
  refine ⟨u, rfl, zu, fun H1 p1 e1 n1 h1 => ?_⟩
  (iterate 909 fail)
  refine ⟨v, rfl, zv, fun H2 p2 e2 n2 h2 => ?_⟩
  (iterate 909 fail)
  have v0 : Vd (hts u) (hts v) (0, 0) := ⟨cu.pos, cv.pos, by show (hts u)[0]? = _; rw [cu.foot]; exact cv.foot.symm⟩
  refine ⟨p1, p2, hts u, hts v, N, rfl, SqL.of (e2.use h1), SqL.of h2, v0, hN, hN2, fun H3 r kvs Es e3 nr hr3 pE B => ?_⟩
  (iterate 909 fail)
  refine ⟨by (iterate 904 fail), fun t nt => ?_⟩
  (iterate 909 fail)
  have e4 : Ex H3 (upd H3 t (.tup [.int (T u).length, .int (T v).length])) := Ex.new nt
  have hin := B.top cu cv
  rw [hts_length, hts_length] at hin
  refine ⟨r, t, hts u, hts v, _, Es, kvs, (u.length, v.length), rfl, e4.use hr3, Paired.mono (fun _ _ z => EnR.tx e4.tx z) pE, B, upd_same, hin, ?_, fun H5 r5 ms e5 n5 h5 hw hl => ?_⟩
  · have := B.few hN
    omega
  · have := B.few hN
    have e35 := ((e1.trans e2).trans e3).trans e4
    exact q _ _ ms (e35.trans e5) (e35.free n5) h5 hw (by omega)

end
end U

set_option Elab.async false
set_option linter.all false
set_option maxRecDepth 100000
set_option maxHeartbeats 4000000
namespace U
open PySem PySem.Spec PyProof.Rows L2
local macro_rules | `(tactic| iterate 901 fail) => `(tactic| first
  | with_reducible assumption
  | with_reducible exact upd_same
  | (with_reducible refine' Ex.use (Ex.new ?n) ?h; (case n => with_reducible assumption); (case h => (iterate 901 fail)))
  | (with_reducible refine' Ex.use ?n ?h; (case n => with_reducible assumption); (case h => (iterate 901 fail))))
local macro_rules | `(tactic| iterate 902 fail) => `(tactic| first
  | with_reducible assumption
  | (with_reducible refine' SqL.of ?h; (case h => (iterate 901 fail)))
  | (with_reducible refine' SqT.of ?h; (case h => (iterate 901 fail)))
  | (iterate 912 fail))
local macro_rules | `(tactic| iterate 912 fail) => `(tactic| first
  | with_reducible assumption
  | (with_reducible refine' Ex.sql (Ex.new ?n) ?h; (case n => with_reducible assumption); (case h => (iterate 912 fail)))
  | (with_reducible refine' Ex.sqt (Ex.new ?n) ?h; (case n => with_reducible assumption); (case h => (iterate 912 fail)))
  | (with_reducible refine' Ex.sql ?n ?h; (case n => with_reducible assumption); (case h => (iterate 912 fail)))
  | (with_reducible refine' Ex.sqt ?n ?h; (case n => with_reducible assumption); (case h => (iterate 912 fail))))
local macro_rules | `(tactic| iterate 903 fail) => `(tactic| first
  | with_reducible assumption
  | with_reducible exact Ex.refl _
  | (with_reducible refine' Ex.mk ?e ?n; (case n => with_reducible assumption); (case e => (iterate 903 fail)))
  | (with_reducible refine' Ex.trans ?e ?n; (case n => with_reducible assumption); (case e => (iterate 903 fail))))
local macro_rules | `(tactic| iterate 904 fail) => `(tactic| first
  | with_reducible assumption
  | (apply line_le; simp only [List.length_cons, List.length_nil, List.length_append, List.length_map, List.length_range]; omega)
  | (apply line_lt; simp only [List.length_cons, List.length_nil, List.length_append, List.length_map, List.length_range]; omega))
local macro_rules | `(tactic| iterate 905 fail) => `(tactic| (apply line_le; first | (show List.length _ ≤ _; omega) | (simp only [U.T, PySem.Str.length, List.size_toArray, List.length_cons, List.length_nil, List.length_append, List.length_map, List.length_reverse]; omega)))
local macro_rules | `(tactic| iterate 906 fail) => `(tactic| first
  | with_reducible exact TyX.base (TyOf.str _) | with_reducible exact TyX.base (TyOf.int _) | with_reducible exact TyX.base (TyOf.bl _) | with_reducible exact TyX.base TyOf.non
  | (with_reducible refine' TyX.base (TyOf.lst ?h); (case h => (iterate 901 fail))) | (with_reducible refine' TyX.base (TyOf.tup ?h); (case h => (iterate 901 fail))) | (with_reducible refine' TyX.base (TyOf.dK ?h); (case h => (iterate 901 fail))))
local macro_rules | `(tactic| iterate 907 fail) => `(tactic| first
  | (with_reducible refine' k_tyL ?h ?k; (case h => (iterate 901 fail)))
  | (with_reducible refine' k_app ?h ?z ?k; (case h => (iterate 901 fail)); (case z => (iterate 904 fail)))
  | (with_reducible refine' k_gTup ?h ?z ?k; (case h => (iterate 902 fail)); (case z => exact rfl))
  | (with_reducible refine' k_I ?c ?k; (case c => first | decide | exact ⟨by decide, by decide⟩))
  | (with_reducible refine' k_ixL ?h ?a ?k; (case h => (iterate 902 fail)); (case a => exact rfl))
  | (with_reducible refine' k_ixT ?h ?a ?k; (case h => (iterate 902 fail)); (case a => exact rfl))
  | (with_reducible refine' k_lenL ?h ?k; (case h => (iterate 902 fail)))
  | (with_reducible refine' k_lenT ?h ?k; (case h => (iterate 902 fail)))
  | (with_reducible refine' k_lenS ?h ?k; (case h => (iterate 905 fail)))
  | (with_reducible refine' k_isi (b := true) ?t ?e ?k; (case t => (iterate 906 fail)); (case e => decide +kernel))
  | (with_reducible refine' k_isi (b := false) ?t ?e ?k; (case t => (iterate 906 fail)); (case e => decide +kernel)))
local macro_rules | `(tactic| iterate 908 fail) => `(tactic| first | with_reducible refine Stp.h ?_ | (iterate 907 fail))
local macro_rules | `(tactic| iterate 909 fail) => `(tactic| ((try dsimp only); repeat (iterate 908 fail)))
local macro_rules | `(tactic| iterate 910 fail) => `(tactic| (simp only [start_cons, start_nil, start_end]; repeat (iterate 908 fail)))

section
variable {P : Program} {w : World} {K : PySem.W.Frag} {mg : Str → Option Value} {base : Heap}
/-- is_number(thing, least, most) -/
def sp_is_number : Sp := fun vs H Q _ => ∃ (v : V) (lo hi : Int), vs = [v, .int lo, .int hi] ∧ ((NoN H v ∧ Q (.bl false) H) ∨ ∃ i : Int, v = .int i ∧ Q (.bl (decide (lo ≤ i) && decide (i ≤ hi))) H)
abbrev s_is_number : Stmt := topS 21
theorem sc_is_number : FnScope ["thing", "least", "most"] ["thing", "least", "most"] (defScope s_is_number) := ⟨rfl, rfl, rfl, by decide +kernel, rfl, by decide +kernel, by decide +kernel⟩
theorem ok_is_number {f : Addr} {fd : FuncData} (F : Fun K "is_number" "is_number" s_is_number f fd) (m_isinstance : mg "isinstance" = none) (m_int : mg "int" = none) (m_bool : mg "bool" = none) : FnOk P w K mg base CX0 1 f fd ["thing", "least", "most"] sp_is_number := by
  refine F.ok sc_is_number (fun vs H Q E h => ?_) (fun cdv A outer s H vs Q E hr h => ?_)
  · obtain ⟨v, lo, hi, rfl, _⟩ := h
    rfl
  obtain ⟨v, lo, hi, rfl, h⟩ := h
  refine ⟨_, (pss_one (ps_ret (pe_and (pe_callB (call_isiK2 (K := K) rfl) (by rfl) m_isinstance (by rfl) (pa_cons (pv 0) (pa_cons (pe_bltn (v := .ty "int") (u := .type "int") (by rfl) m_int (by rfl) rfl) pa_nil))) (pe_and (pe_not (pe_callB (call_isiK2 (K := K) rfl) (by rfl) m_isinstance (by rfl) (pa_cons (pv 0) (pa_cons (pe_bltn (v := .ty "bool") (u := .type "bool") (by rfl) m_bool (by rfl) rfl) pa_nil)))) (pe_one (pe_chain op_le op_le (pv 1) (pv 0) (pv 2))))))), ?_⟩
  rcases h with ⟨n, q⟩ | ⟨i, rfl, q⟩
  · cases n with
    | non => (iterate 910 fail); exact q
    | bl b => (iterate 910 fail); exact q
    | str z => (iterate 910 fail); exact q
    | tup h => (iterate 910 fail); exact q
  (iterate 910 fail)
  by_cases h : lo ≤ i
  · rw [decide_eq_true h] at q ⊢
    (iterate 909 fail)
    rw [Bool.true_and] at q
    exact q
  · rw [decide_eq_false h] at q ⊢
    (iterate 909 fail)
    rw [Bool.false_and] at q
    exact q
/-- is_number of a place -/
theorem isn_no {n : Nat} {H : Hp} {v : V} {Q : VK} {E : XK} (h : NoI n H v) (q : Q (.bl false) H) : sp_is_number [v, .int 0, .int ((n : Int) - 1)] H Q E := by
  rcases h with h | ⟨i, rfl, h⟩
  · exact ⟨_, _, _, rfl, .inl ⟨h, q⟩⟩
  · refine ⟨_, _, _, rfl, .inr ⟨i, rfl, ?_⟩⟩
    have : (decide (0 ≤ i) && decide (i ≤ (n : Int) - 1)) = false := by
      rcases h with h | h
      · rw [decide_eq_false (by omega)]; rfl
      · rw [decide_eq_false (show ¬ i ≤ (n : Int) - 1 by omega), Bool.and_false]
    rw [this]
    exact q
theorem isn_yes {n i : Nat} {H : Hp} {Q : VK} {E : XK} (h : i < n) (q : Q (.bl true) H) : sp_is_number [.int i, .int 0, .int ((n : Int) - 1)] H Q E := by
  refine ⟨_, _, _, rfl, .inr ⟨i, rfl, ?_⟩⟩
  rw [decide_eq_true (show (0 : Int) ≤ (i : Int) by omega), decide_eq_true (show (i : Int) ≤ (n : Int) - 1 by omega)]
  exact q
/-- asked_places(one, other, first, second) -/
def sp_asked_places (K : PySem.W.Frag) (U : Addr) : Sp := fun vs H Q E => ∃ (a1 a2 : Addr) (A B : List Int) (x y : V), vs = [.ref a1, .ref a2, x, y] ∧ SqL K H a1 (A.map V.int) ∧ SqL K H a2 (B.map V.int) ∧ ((NoP A B H x y ∧ E (.ref U) none H) ∨ ∃ i j : Nat, x = .int i ∧ y = .int j ∧ i < A.length ∧ j < B.length ∧ A[i]? = B[j]? ∧ Q .non H)
abbrev s_asked_places : Stmt := topS 25
theorem sc_asked_places : FnScope ["one", "other", "first", "second"] ["one", "other", "first", "second"] (defScope s_asked_places) := ⟨rfl, rfl, rfl, by decide +kernel, rfl, by decide +kernel, by decide +kernel⟩
theorem ok_asked_places {f : Addr} {fd : FuncData} (F : Fun K "asked_places" "asked_places" s_asked_places f fd) {U : Addr} (c_is_number : Cal P w K mg base CX0 1 "is_number" sp_is_number) (x_BadPlaces : OwnX K mg "BadPlaces" U) (m_len : mg "len" = none) : FnOk P w K mg base (L2N.CX P w) 2 f fd ["one", "other", "first", "second"] (sp_asked_places K U) := by
  refine Fun.okN F sc_asked_places (fun vs H Q E h => ?_) (fun cdv A outer s H vs Q E hr h => ?_)
  · obtain ⟨a1, a2, A, B, x, y, rfl, _⟩ := h
    rfl
  have hu64 := hr.units
  obtain ⟨a1, a2, C, D, x, y, rfl, h1, h2, h⟩ := h
  refine ⟨_, (pss_cons (ps_if ((pw_or (pt_not (pt_val (pe_c0 c_is_number hr (by decide) (by rfl) (pa_cons (pv 2) (pa_cons pe_int (pa_cons (pe_op op_sub (pe_callB (call_lenUK (K := K) rfl) (by rfl) m_len (by rfl) (pa_cons (pv 0) pa_nil)) pe_int) pa_nil)))))) (pw_or1 (pt_not (pt_val (pe_c0 c_is_number hr (by decide) (by rfl) (pa_cons (pv 3) (pa_cons pe_int (pa_cons (pe_op op_sub (pe_callB (call_lenUK (K := K) rfl) (by rfl) m_len (by rfl) (pa_cons (pv 1) pa_nil)) pe_int) pa_nil)))))))).pt) (pss_one (L2N.ps_raise rfl (L2N.takes_of rfl rfl rfl rfl) (x_BadPlaces.pmk (by rfl)))) pss_nil)
    (pss_one (ps_if (pt_cmpR (op_neUK (K := K) rfl hu64) (pe_ix (ix_seqK (K := K) rfl) (pv 0) (pv 2) (fun _ _ => rfl)) (pe_ix (ix_seqK (K := K) rfl) (pv 1) (pv 3) (fun _ _ => rfl)) (nomark _)) (pss_one (L2N.ps_raise rfl (L2N.takes_of rfl rfl rfl rfl) (x_BadPlaces.pmk (by rfl)))) pss_nil))), ?_⟩
  (iterate 910 fail)
  rw [List.length_map]
  rcases h with ⟨h | ⟨i, hi, rfl, h | ⟨j, hj, rfl, hne⟩⟩, q⟩ | ⟨i, j, rfl, rfl, hi, hj, heq, q⟩
  · refine isn_no h ?_
    (iterate 909 fail)
    exact q
  · refine isn_yes hi ?_
    (iterate 909 fail)
    rw [List.length_map]
    refine isn_no h ?_
    (iterate 909 fail)
    exact q
  · obtain ⟨x, hx⟩ : ∃ x, C[i]? = some x := ⟨_, List.getElem?_eq_getElem hi⟩
    obtain ⟨y, hy⟩ : ∃ y, D[j]? = some y := ⟨_, List.getElem?_eq_getElem hj⟩
    refine isn_yes hi ?_
    (iterate 909 fail)
    rw [List.length_map]
    refine isn_yes hj ?_
    (iterate 909 fail)
    refine k_ixL h1 (v := .int x) (atI_nat (by rw [List.getElem?_map, hx]; rfl)) ?_
    (iterate 909 fail)
    refine k_ixL h2 (v := .int y) (atI_nat (by rw [List.getElem?_map, hy]; rfl)) ?_
    (iterate 909 fail)
    refine k_ifn (fun _ => q) (fun heq => (hne (by rw [hx, hy, heq])).elim)
  · obtain ⟨x, hx⟩ : ∃ x, C[i]? = some x := ⟨_, List.getElem?_eq_getElem hi⟩
    have hy : D[j]? = some x := by rw [← heq, hx]
    refine isn_yes hi ?_
    (iterate 909 fail)
    rw [List.length_map]
    refine isn_yes hj ?_
    (iterate 909 fail)
    refine k_ixL h1 (v := .int x) (atI_nat (by rw [List.getElem?_map, hx]; rfl)) ?_
    (iterate 909 fail)
    refine k_ixL h2 (v := .int x) (atI_nat (by rw [List.getElem?_map, hy]; rfl)) ?_
    (iterate 909 fail)
    rw [decide_eq_true rfl]
    (iterate 909 fail)
    exact q
/-- Way(moves), Shut(pairs) -/
def sp_init (K : PySem.W.Frag) (C : Addr) (f : Str) : Sp := fun vs H Q _ => ∃ (x dx p : Addr) (xs : List V), vs = [.ref x, .ref p] ∧ H x = some (.ins C dx []) ∧ SqL K H p xs ∧ ∀ l, H l = none → Q .non (upd (upd H l (.lst xs)) x (.ins C dx [(f, .ref l)]))
abbrev s_Way_init : Stmt := inClass (topS 32) 0
theorem sc_Way_init : FnScope ["self", "moves"] ["self", "moves"] (defScope s_Way_init) := ⟨rfl, rfl, rfl, by decide +kernel, rfl, by decide +kernel, by decide +kernel⟩
theorem ok_Way_init {f : Addr} {fd : FuncData} (F : Fun K "__init__" "Way.__init__" s_Way_init f fd) {W : Addr} (A_Way : AnsC K W "moves") (m_list : mg "list" = none) : FnOk P w K mg base CX0 1 f fd ["self", "moves"] (sp_init K W "moves") := by
  refine F.ok sc_Way_init (fun vs H Q E h => ?_) (fun cdv A outer s H vs Q E hr h => ?_)
  · obtain ⟨x, dx, p, xs, rfl, _⟩ := h
    rfl
  obtain ⟨x, dx, p, xs, rfl, hx, hp, q⟩ := h
  refine ⟨_, (pss_one (fldSK (K := K) rfl (ps_fld (pv 0) (pe_callTy (call_list_ofK (K := K) rfl) (by rfl) m_list (by rfl) (pa_cons (pv 1) pa_nil)) rfl))), ?_⟩
  (iterate 910 fail)
  refine ⟨p, xs, rfl, .inl hp, fun l nl => ?_⟩
  (iterate 909 fail)
  exact ⟨x, W, dx, [], rfl, (Ex.new nl).use hx, A_Way.cl, A_Way.nf, by decide, q l nl⟩
abbrev s_Shut_init : Stmt := inClass (topS 33) 0
theorem sc_Shut_init : FnScope ["self", "pairs"] ["self", "pairs"] (defScope s_Shut_init) := ⟨rfl, rfl, rfl, by decide +kernel, rfl, by decide +kernel, by decide +kernel⟩
theorem ok_Shut_init {f : Addr} {fd : FuncData} (F : Fun K "__init__" "Shut.__init__" s_Shut_init f fd) {S : Addr} (A_Shut : AnsC K S "pairs") (m_list : mg "list" = none) : FnOk P w K mg base CX0 1 f fd ["self", "pairs"] (sp_init K S "pairs") := by
  refine F.ok sc_Shut_init (fun vs H Q E h => ?_) (fun cdv A outer s H vs Q E hr h => ?_)
  · obtain ⟨x, dx, p, xs, rfl, _⟩ := h
    rfl
  obtain ⟨x, dx, p, xs, rfl, hx, hp, q⟩ := h
  refine ⟨_, (pss_one (fldSK (K := K) rfl (ps_fld (pv 0) (pe_callTy (call_list_ofK (K := K) rfl) (by rfl) m_list (by rfl) (pa_cons (pv 1) pa_nil)) rfl))), ?_⟩
  (iterate 910 fail)
  refine ⟨p, xs, rfl, .inl hp, fun l nl => ?_⟩
  (iterate 909 fail)
  exact ⟨x, S, dx, [], rfl, (Ex.new nl).use hx, A_Shut.cl, A_Shut.nf, by decide, q l nl⟩

end
end U

set_option Elab.async false
set_option linter.all false
set_option maxRecDepth 100000
set_option maxHeartbeats 4000000
namespace U
open PySem PySem.Spec PyProof.Rows L2
local macro_rules | `(tactic| iterate 901 fail) => `(tactic| first
  | with_reducible assumption
  | with_reducible exact upd_same
  | (with_reducible refine' Ex.use (Ex.new ?n) ?h; (case n => with_reducible assumption); (case h => (iterate 901 fail)))
  | (with_reducible refine' Ex.use ?n ?h; (case n => with_reducible assumption); (case h => (iterate 901 fail))))
local macro_rules | `(tactic| iterate 902 fail) => `(tactic| first
  | with_reducible assumption
  | (with_reducible refine' SqL.of ?h; (case h => (iterate 901 fail)))
  | (with_reducible refine' SqT.of ?h; (case h => (iterate 901 fail)))
  | (iterate 912 fail))
local macro_rules | `(tactic| iterate 912 fail) => `(tactic| first
  | with_reducible assumption
  | (with_reducible refine' Ex.sql (Ex.new ?n) ?h; (case n => with_reducible assumption); (case h => (iterate 912 fail)))
  | (with_reducible refine' Ex.sqt (Ex.new ?n) ?h; (case n => with_reducible assumption); (case h => (iterate 912 fail)))
  | (with_reducible refine' Ex.sql ?n ?h; (case n => with_reducible assumption); (case h => (iterate 912 fail)))
  | (with_reducible refine' Ex.sqt ?n ?h; (case n => with_reducible assumption); (case h => (iterate 912 fail))))
local macro_rules | `(tactic| iterate 903 fail) => `(tactic| first
  | with_reducible assumption
  | with_reducible exact Ex.refl _
  | (with_reducible refine' Ex.mk ?e ?n; (case n => with_reducible assumption); (case e => (iterate 903 fail)))
  | (with_reducible refine' Ex.trans ?e ?n; (case n => with_reducible assumption); (case e => (iterate 903 fail))))
local macro_rules | `(tactic| iterate 904 fail) => `(tactic| first
  | with_reducible assumption
  | (apply line_le; simp only [List.length_cons, List.length_nil, List.length_append, List.length_map, List.length_range]; omega)
  | (apply line_lt; simp only [List.length_cons, List.length_nil, List.length_append, List.length_map, List.length_range]; omega))
local macro_rules | `(tactic| iterate 905 fail) => `(tactic| (apply line_le; first | (show List.length _ ≤ _; omega) | (simp only [U.T, PySem.Str.length, List.size_toArray, List.length_cons, List.length_nil, List.length_append, List.length_map, List.length_reverse]; omega)))
local macro_rules | `(tactic| iterate 906 fail) => `(tactic| first
  | with_reducible exact TyX.base (TyOf.str _) | with_reducible exact TyX.base (TyOf.int _) | with_reducible exact TyX.base (TyOf.bl _) | with_reducible exact TyX.base TyOf.non
  | (with_reducible refine' TyX.base (TyOf.lst ?h); (case h => (iterate 901 fail))) | (with_reducible refine' TyX.base (TyOf.tup ?h); (case h => (iterate 901 fail))) | (with_reducible refine' TyX.base (TyOf.dK ?h); (case h => (iterate 901 fail))))
local macro_rules | `(tactic| iterate 907 fail) => `(tactic| first
  | (with_reducible refine' k_tyL ?h ?k; (case h => (iterate 901 fail)))
  | (with_reducible refine' k_app ?h ?z ?k; (case h => (iterate 901 fail)); (case z => (iterate 904 fail)))
  | (with_reducible refine' k_gTup ?h ?z ?k; (case h => (iterate 902 fail)); (case z => exact rfl))
  | (with_reducible refine' k_I ?c ?k; (case c => first | decide | exact ⟨by decide, by decide⟩))
  | (with_reducible refine' k_ixL ?h ?a ?k; (case h => (iterate 902 fail)); (case a => exact rfl))
  | (with_reducible refine' k_ixT ?h ?a ?k; (case h => (iterate 902 fail)); (case a => exact rfl))
  | (with_reducible refine' k_lenL ?h ?k; (case h => (iterate 902 fail)))
  | (with_reducible refine' k_lenT ?h ?k; (case h => (iterate 902 fail)))
  | (with_reducible refine' k_lenS ?h ?k; (case h => (iterate 905 fail)))
  | (with_reducible refine' k_isi (b := true) ?t ?e ?k; (case t => (iterate 906 fail)); (case e => decide +kernel))
  | (with_reducible refine' k_isi (b := false) ?t ?e ?k; (case t => (iterate 906 fail)); (case e => decide +kernel)))
local macro_rules | `(tactic| iterate 908 fail) => `(tactic| first | with_reducible refine Stp.h ?_ | (iterate 907 fail))
local macro_rules | `(tactic| iterate 909 fail) => `(tactic| ((try dsimp only); repeat (iterate 908 fail)))
local macro_rules | `(tactic| iterate 910 fail) => `(tactic| (simp only [start_cons, start_nil, start_end]; repeat (iterate 908 fail)))

section
variable {P : Program} {w : World} {K : PySem.W.Frag} {mg : Str → Option Value} {base : Heap}
/-- what is refused of two ridges and two places; what is asked of good ones -/
def RdBad (R B : Addr) (x y a b : V) (H : Hp) (E : XK) : Prop :=
  (NoR H x ∧ ∀ H', Ex H H' → E (.ref R) none H') ∨ ∃ u : List Nat, x = .str (T u) ∧ UD u ∧ u.length ≤ 40 ∧ ((NoR H y ∧ ∀ H', Ex H H' → E (.ref R) none H') ∨ ∃ v : List Nat, y = .str (T v) ∧ UD v ∧ v.length ≤ 40 ∧ NoP (hts u) (hts v) H a b ∧ ∀ H', Ex H H' → E (.ref B) none H')
/-- moves_at(one, other, first, second) -/
def sp_moves_at (R B : Addr) : Sp := fun vs H Q E => ∃ x y a b, vs = [x, y, a, b] ∧ (RdBad R B x y a b H E ∨ (x = .str (T []) ∧ y = .str (T []) ∧ a = .int 0 ∧ b = .int 0 ∧ ∀ H' r, Ex H H' → H' r = some (.lst (mvs [])) → Q (.ref r) H'))
abbrev s_moves_at : Stmt := topS 26
theorem sc_moves_at : FnScope ["one", "other", "first", "second", "mine", "theirs", "move", "behind"] ["one", "other", "first", "second"] (defScope s_moves_at) := ⟨rfl, rfl, rfl, by decide +kernel, rfl, by decide +kernel, by decide +kernel⟩
theorem ok_moves_at {f : Addr} {fd : FuncData} (F : Fun K "moves_at" "moves_at" s_moves_at f fd) {R B : Addr} (c_asked_ridge : Cal P w K mg base (L2N.CX P w) 1 "asked_ridge" (sp_asked_ridge R)) (c_heights_of : Cal P w K mg base CX0 1 "heights_of" sp_heights_of) (c_asked_places : Cal P w K mg base (L2N.CX P w) 2 "asked_places" (sp_asked_places K B)) (c_moves_from : Cal P w K mg base CX0 3 "moves_from" (sp_moves_from K)) : FnOk P w K mg base (L2N.CX P w) 4 f fd ["one", "other", "first", "second"] (sp_moves_at R B) := by
  refine Fun.okN F sc_moves_at (fun vs H Q E h => ?_) (fun cdv A outer s H vs Q E hr h => ?_)
  · obtain ⟨x, y, a, b, rfl, _⟩ := h
    rfl
  have hu64 := hr.units
  obtain ⟨x, y, a, b, rfl, h⟩ := h
  refine ⟨_, (pss_cons (ps_expr (pe_cX c_asked_ridge hr (by decide) (by rfl) (pex (L2N.takes_of rfl rfl rfl rfl)) (pa_cons (pv 0) pa_nil)))
    (pss_cons (ps_expr (pe_cX c_asked_ridge hr (by decide) (by rfl) (pex (L2N.takes_of rfl rfl rfl rfl)) (pa_cons (pv 1) pa_nil)))
    (pss_cons (ps_set (i := 4) sc_moves_at.nd rfl (.inl rfl) (pe_c0 c_heights_of hr (by decide) (by rfl) (pa_cons (pv 0) pa_nil)))
    (pss_cons (ps_set (i := 5) sc_moves_at.nd rfl (.inl rfl) (pe_c0 c_heights_of hr (by decide) (by rfl) (pa_cons (pv 1) pa_nil)))
    (pss_cons (ps_expr (pe_cX c_asked_places hr (by decide) (by rfl) (pex (L2N.takes_of rfl rfl rfl rfl)) (pa_cons (pv 4) (pa_cons (pv 5) (pa_cons (pv 2) (pa_cons (pv 3) pa_nil))))))
    (pss_one (ps_ret (lcV (vs := [6, 7]) rfl (pe_lc (own := [("move", 6), ("behind", 7)]) (tt := tYes) rfl sc_moves_at.nd (listIK (K := K) rfl (pi_list (pe_c0 c_moves_from hr (by decide) (by rfl) (pa_cons (pv 4) (pa_cons (pv 5) (pa_cons (pe_tup (pa_cons (pv 2) (pa_cons (pv 3) pa_nil))) pa_nil)))))) (blkOk_by (N := ["one", "other", "first", "second", "mine", "theirs", "move", "behind"]) (sc := defScope s_moves_at) (by decide +kernel)) (fun _ _ _ _ _ => (tupGK (K := K) rfl (pg_tup (n := 2) rfl (pgs_cons (pg_name (i := 6) sc_moves_at.nd rfl (.inl rfl)) (pgs_cons (pg_name (i := 7) sc_moves_at.nd rfl (.inl rfl)) pgs_nil))))) (fun _ _ _ _ _ => pts_nil) (fun _ _ _ _ _ => (pv 6))))))))))), ?_⟩
  (iterate 910 fail)
  rcases h with (⟨n, q⟩ | ⟨u, rfl, uu, zu, ⟨n, q⟩ | ⟨v, rfl, uv, zv, np, q⟩⟩) | ⟨rfl, rfl, rfl, rfl, q⟩
  · exact ⟨_, rfl, .inl ⟨n, q _ (Ex.refl _)⟩⟩
  · refine ⟨_, rfl, .inr ⟨u, rfl, uu, by omega, ?_⟩⟩
    (iterate 909 fail)
    exact ⟨_, rfl, .inl ⟨n, q _ (Ex.refl _)⟩⟩
  · refine ⟨_, rfl, .inr ⟨u, rfl, uu, by omega, ?_⟩⟩
    (iterate 909 fail)
    refine ⟨_, rfl, .inr ⟨v, rfl, uv, by omega, ?_⟩⟩
    (iterate 909 fail)
    refine ⟨u, rfl, by omega, fun H1 p1 e1 n1 h1 => ?_⟩
    (iterate 909 fail)
    refine ⟨v, rfl, by omega, fun H2 p2 e2 n2 h2 => ?_⟩
    (iterate 909 fail)
    exact ⟨p1, p2, hts u, hts v, _, _, rfl, SqL.of (e2.use h1), SqL.of h2, .inl ⟨np.ex (e1.trans e2), q _ (e1.trans e2)⟩⟩
  · refine ⟨_, rfl, .inr ⟨[], rfl, ud_nil, by decide, ?_⟩⟩
    (iterate 909 fail)
    refine ⟨_, rfl, .inr ⟨[], rfl, ud_nil, by decide, ?_⟩⟩
    (iterate 909 fail)
    refine ⟨[], rfl, by decide, fun H1 p1 e1 n1 h1 => ?_⟩
    (iterate 909 fail)
    refine ⟨[], rfl, by decide, fun H2 p2 e2 n2 h2 => ?_⟩
    (iterate 909 fail)
    have h12 := e2.use h1
    refine ⟨p1, p2, hts [], hts [], _, _, rfl, SqL.of h12, SqL.of h2, .inr ⟨0, 0, rfl, rfl, by decide, by decide, rfl, ?_⟩⟩
    have v0 : Vd (hts []) (hts []) (0, 0) := ⟨by decide, by decide, rfl⟩
    (iterate 909 fail)
    refine k_lc ?_
    (iterate 909 fail)
    refine ⟨by (iterate 904 fail), fun p3 n3 => ?_⟩
    (iterate 909 fail)
    have e23 := Ex.new n3 (o := .tup [.int 0, .int 0])
    refine ⟨p1, p2, p3, hts [], hts [], (0, 0), rfl, SqL.of (e23.use h12), SqL.of (e23.use h2), upd_same, v0, fun H4 r rs e4 n4 h4 hp => ?_⟩
    have hn : nexts (hts []) (hts []) (0, 0) = [] := by decide
    rw [hn] at hp
    cases hp
    refine ⟨r, rfl, ⟨_, SqL.of h4⟩, lcG (xs := []) (fun _ _ _ => True) (SqL.of h4) (by decide) (fun k x H5 hx => by simp at hx) (fun p6 H6 ys n6 e6 h6 hly hG => ?_)⟩
    obtain rfl : ys = [] := by
      cases ys with
      | nil => rfl
      | cons a r => simp at hly
    exact q _ _ ((((e1.trans e2).trans e23).trans e4).trans e6) h6
def sp_back : Sp := fun vs H Q _ => ∃ m : Mv, vs = [.str (mt m)] ∧ ∀ H', Ex H H' → Q (.str (mt (inv m))) H'
def flipm (c : Nat) : Nat := if c = 102 then 98 else 102
theorem flipm_ch (b : Bool) : flipm (chM b) = chM (!b) := by cases b <;> rfl
theorem mt_map (m : Mv) : mt (inv m) = T ([chM m.1, chM m.2].map flipm) := by
  unfold mt inv
  simp only [List.map_cons, List.map_nil, flipm_ch]
abbrev s_taken_back : Stmt := topS 27
theorem sc_taken_back : FnScope ["move", "letter"] ["move"] (defScope s_taken_back) := ⟨rfl, rfl, rfl, by decide +kernel, rfl, by decide +kernel, by decide +kernel⟩
theorem ok_taken_back {f : Addr} {fd : FuncData} (F : Fun K "taken_back" "taken_back" s_taken_back f fd) : FnOk P w K mg base CX0 1 f fd ["move"] sp_back := by
  refine F.ok sc_taken_back (fun vs H Q E h => ?_) (fun cdv A outer s H vs Q E hr h => ?_)
  · obtain ⟨m, rfl, _⟩ := h
    rfl
  have hu64 := hr.units
  obtain ⟨m, rfl, q⟩ := h
  refine ⟨_, (pss_one (ps_ret (joinK (K := K) rfl (pe_join pe_str (lcV (vs := [1]) rfl (pe_lc (own := [("letter", 1)]) (tt := tYes) rfl sc_taken_back.nd (pi_str (pv 0)) (blkOk_by (N := ["move", "letter"]) (sc := defScope s_taken_back) (by decide +kernel)) (fun _ _ _ _ _ => (pg_name (i := 1) sc_taken_back.nd rfl (.inl rfl))) (fun _ _ _ _ _ => pts_nil) (fun _ _ _ _ _ => (pe_ifExp (pt_cmpR (op_eqUK (K := K) rfl hu64) (pv 1) pe_str (nomark _)) pe_str pe_str)))))))), ?_⟩
  rw [mt_map] at q
  unfold mt
  generalize hl : [chM m.1, chM m.2] = l at q
  have hz : l.length = 2 := by rw [← hl]; rfl
  (iterate 910 fail)
  refine m_lcS (l := l) (F := fun c => .str (T [flipm c])) (fun R k => by (iterate 909 fail); exact k _ (Ex.refl _)) (by omega) (fun i c H2 hc e Q k => ?_) (fun p H2 hp e h => ?_)
  · (iterate 909 fail)
    unfold flipm at k
    refine k_if (fun hu => ?_) (fun hu => ?_)
    · (iterate 909 fail)
      rw [if_pos (isF.mp hu)] at k
      rw [ofs_b]
      exact k _ (Ex.refl _)
    · (iterate 909 fail)
      rw [if_neg fun z => hu (isF.mpr z)] at k
      rw [ofs_f]
      exact k _ (Ex.refl _)
  · have h' : H2 p = some (.lst (((l.map flipm).map fun c => T [c]).map V.str)) := by
      rw [h, List.map_map, List.map_map]
      rfl
    refine k_join0 (ls := l.map flipm) (SqL.of h') (by rw [List.length_map]; omega) ?_
    (iterate 909 fail)
    exact q _ e


/-- what is asked of an element of a list of moves -/
def okM : V → Bool
  | .str z => inV (.str z) vMOVES
  | _ => false
inductive Elm (H : Hp) : V → Prop
  | str (z : Str) : Elm H (.str z)
  | non : Elm H .non
  | int (i : Int) : Elm H (.int i)
  | lst {a : Addr} {xs : List V} (h : H a = some (.lst xs)) : Elm H (.ref a)
  | tup {a : Addr} {xs : List V} (h : H a = some (.tup xs)) : Elm H (.ref a)
  | dK {a : Addr} {xs : List (Key × V)} (h : H a = some (.dK xs)) : Elm H (.ref a)
theorem Elm.ex {H H' : Hp} {v : V} (n : Elm H v) (e : Ex H H') : Elm H' v := by
  cases n with
  | str z => exact .str z
  | non => exact .non
  | int i => exact .int i
  | lst h => exact .lst (e.use h)
  | tup h => exact .tup (e.use h)
  | dK h => exact .dK (e.use h)
/-- no list -/
inductive NoL (H : Hp) : V → Prop
  | non : NoL H .non
  | int (i : Int) : NoL H (.int i)
  | str (z : Str) : NoL H (.str z)
  | tup {a : Addr} {xs : List V} (h : H a = some (.tup xs)) : NoL H (.ref a)
  | dK {a : Addr} {xs : List (Key × V)} (h : H a = some (.dK xs)) : NoL H (.ref a)
theorem NoL.ex {H H' : Hp} {v : V} (n : NoL H v) (e : Ex H H') : NoL H' v := by
  cases n with
  | str z => exact .str z
  | non => exact .non
  | int i => exact .int i
  | tup h => exact .tup (e.use h)
  | dK h => exact .dK (e.use h)
def NoM (H : Hp) (v : V) : Prop := NoL H v ∨ ∃ (a : Addr) (xs : List V), v = .ref a ∧ H a = some (.lst xs) ∧ xs.length ≤ 100 ∧ (∀ x ∈ xs, Elm H x) ∧ (xs.map okM).all id = false
theorem NoM.ex {H H' : Hp} {v : V} (n : NoM H v) (e : Ex H H') : NoM H' v := by
  rcases n with n | ⟨a, xs, hv, h, hz, he, hb⟩
  · exact .inl (n.ex e)
  · exact .inr ⟨a, xs, hv, e.use h, hz, fun x hx => (he x hx).ex e, hb⟩
/-- asked_moves(moves), thinned(moves) -/
def sp_asked_moves (U : Addr) : Sp := fun vs H Q E => ∃ v, vs = [v] ∧ ((NoM H v ∧ ∀ H', Ex H H' → E (.ref U) none H') ∨ ∃ a : Addr, v = .ref a ∧ H a = some (.lst []) ∧ ∀ H', Ex H H' → Q .non H')
abbrev s_asked_moves : Stmt := topS 28
theorem sc_asked_moves : FnScope ["moves", "move"] ["moves"] (defScope s_asked_moves) := ⟨rfl, rfl, rfl, by decide +kernel, rfl, by decide +kernel, by decide +kernel⟩
theorem ok_asked_moves {f : Addr} {fd : FuncData} (F : Fun K "asked_moves" "asked_moves" s_asked_moves f fd) {U aM : Addr} (x_BadMoves : OwnX K mg "BadMoves" U) (m_isinstance : mg "isinstance" = none) (m_list : mg "list" = none) (m_all : mg "all" = none) (m_str : mg "str" = none)
    (g_MOVES : ∃ u, mg "MOVES" = some u ∧ RelV (.ref aM) u) (hM : ∀ H, SqT K H aM vMOVES) : FnOk P w K mg base (L2N.CX P w) 1 f fd ["moves"] (sp_asked_moves U) := by
  refine Fun.okN F sc_asked_moves (fun vs H Q E h => ?_) (fun cdv A outer s H vs Q E hr h => ?_)
  · obtain ⟨v, rfl, _⟩ := h
    rfl
  have hu64 := hr.units
  obtain ⟨v, rfl, h⟩ := h
  refine ⟨_, (pss_one (ps_if ((pw_or (pt_not (pt_val (pe_callB (call_isiK2 (K := K) rfl) (by rfl) m_isinstance (by rfl) (pa_cons (pv 0) (pa_cons (pe_bltn (v := .ty "list") (u := .type "list") (by rfl) m_list (by rfl) rfl) pa_nil))))) (pw_or1 (pt_not (pt_val (pe_callB (cr_allK (K := K) rfl rfl) (by rfl) m_all (by rfl) (pa_cons (lcV (vs := [1]) rfl (pe_lc (own := [("move", 1)]) (tt := tYes) rfl sc_asked_moves.nd (listIK (K := K) rfl (pi_list (pv 0))) (blkOk_by (N := ["moves", "move"]) (sc := defScope s_asked_moves) (by decide +kernel)) (fun _ _ _ _ _ => (pg_name (i := 1) sc_asked_moves.nd rfl (.inl rfl))) (fun _ _ _ _ _ => pts_nil) (fun _ _ _ _ _ => (pe_and (pe_callB (call_isiK2 (K := K) rfl) (by rfl) m_isinstance (by rfl) (pa_cons (pv 1) (pa_cons (pe_bltn (v := .ty "str") (u := .type "str") (by rfl) m_str (by rfl) rfl) pa_nil))) (pe_one (pe_cmpR (op_inK (K := K) rfl) (pv 1) (pe_gv (by rfl) g_MOVES) rfl)))))) pa_nil)))))).pt) (pss_one (L2N.ps_raise rfl (L2N.takes_of rfl rfl rfl rfl) (x_BadMoves.pmk (by rfl)))) pss_nil)), ?_⟩
  have h : (NoL H v ∧ ∀ H', Ex H H' → E (.ref U) none H') ∨ ∃ (a : Addr) (xs : List V), v = .ref a ∧ H a = some (.lst xs) ∧ xs.length ≤ 100 ∧ (∀ x ∈ xs, Elm H x) ∧ ((xs.map okM).all id = false → ∀ H', Ex H H' → E (.ref U) none H') ∧ ((xs.map okM).all id = true → ∀ H', Ex H H' → Q .non H') := by
    rcases h with ⟨n | ⟨a, xs, hv, h, hz, he, hb⟩, q⟩ | ⟨a, hv, h, q⟩
    · exact .inl ⟨n, q⟩
    · exact .inr ⟨a, xs, hv, h, hz, he, fun _ => q, fun z => by rw [hb] at z; cases z⟩
    · exact .inr ⟨a, [], hv, h, by decide, fun x hx => by (cases hx), fun z => (nomatch z), fun _ => q⟩
  rcases h with ⟨n, q⟩ | ⟨a, xs, rfl, hS, hz, he, q1, q2⟩
  · cases n with
    | non => (iterate 910 fail); exact q _ (Ex.refl _)
    | int i => (iterate 910 fail); exact q _ (Ex.refl _)
    | str z => (iterate 910 fail); exact q _ (Ex.refl _)
    | tup h => (iterate 910 fail); exact q _ (Ex.refl _)
    | dK h => (iterate 910 fail); exact q _ (Ex.refl _)
  (iterate 910 fail)
  refine m_lcL (K := K) (xs := xs) (F := fun x => .bl (okM x)) (fun R k => by (iterate 909 fail); exact k _ _ (Ex.refl _) (SqL.of hS)) (by omega) (fun i x H2 hc e Q k => ?_) (fun p H2 hp e h => ?_)
  · have el := (he x (List.mem_of_getElem? hc)).ex e
    cases el with
    | non => (iterate 909 fail); exact k _ (Ex.refl _)
    | int i => (iterate 909 fail); exact k _ (Ex.refl _)
    | lst h => (iterate 909 fail); exact k _ (Ex.refl _)
    | tup h => (iterate 909 fail); exact k _ (Ex.refl _)
    | dK h => (iterate 909 fail); exact k _ (Ex.refl _)
    | str z =>
      (iterate 909 fail)
      refine ⟨aM, _, rfl, .inr (hM _), rfl, rfl, ?_⟩
      rw [if_neg Bool.false_ne_true]
      exact k _ (Ex.refl _)
  (iterate 909 fail)
  have h5 : H2 p = some (.lst ((xs.map okM).map V.bl)) := by
    rw [h, List.map_map]
    rfl
  refine k_all (SqL.of h5) ?_
  cases hb : (xs.map okM).all id with
  | false =>
    (iterate 909 fail)
    exact q1 hb _ e
  | true =>
    (iterate 909 fail)
    exact q2 hb _ e
def sp_thinned (U : Addr) : Sp := fun vs H Q E => ∃ v, vs = [v] ∧ ((NoM H v ∧ ∀ H', Ex H H' → E (.ref U) none H') ∨ ∃ a : Addr, v = .ref a ∧ H a = some (.lst []) ∧ ∀ H' p, Ex H H' → H' p = some (.lst []) → Q (.ref p) H')
abbrev s_thinned : Stmt := topS 29
theorem sc_thinned : FnScope ["moves", "found", "move"] ["moves"] (defScope s_thinned) := ⟨rfl, rfl, rfl, by decide +kernel, rfl, by decide +kernel, by decide +kernel⟩
theorem ok_thinned {f : Addr} {fd : FuncData} (F : Fun K "thinned" "thinned" s_thinned f fd) {U : Addr} (c_asked_moves : Cal P w K mg base (L2N.CX P w) 1 "asked_moves" (sp_asked_moves U)) (c_taken_back : Cal P w K mg base CX0 1 "taken_back" sp_back) : FnOk P w K mg base (L2N.CX P w) 2 f fd ["moves"] (sp_thinned U) := by
  refine Fun.okN F sc_thinned (fun vs H Q E h => ?_) (fun cdv A outer s H vs Q E hr h => ?_)
  · obtain ⟨v, rfl, _⟩ := h
    rfl
  have hu64 := hr.units
  obtain ⟨v, rfl, h⟩ := h
  refine ⟨_, (pss_cons (ps_expr (pe_cX c_asked_moves hr (by decide) (by rfl) (pex (L2N.takes_of rfl rfl rfl rfl)) (pa_cons (pv 0) pa_nil)))
    (pss_cons (ps_set (i := 1) sc_thinned.nd rfl (.inl rfl) (pe_lst pa_nil))
    (pss_cons (ps_for (passes_of rfl) rfl (listIK (K := K) rfl (pi_list (pv 0))) (pg_name (i := 2) sc_thinned.nd rfl (.inl rfl)) (pss_one (ps_if ((pw_and (pt_cmpR (op_neUK (K := K) rfl hu64) (pv 1) (pe_lst pa_nil) (nomark _)) (pw_and1 (pt_cmpR (op_eqUK (K := K) rfl hu64) (pe_ix (ix_seqK (K := K) rfl) (pv 1) (pe_un un_neg pe_int) (fun _ _ => rfl)) (pe_c0 c_taken_back hr (by decide) (by rfl) (pa_cons (pv 2) pa_nil)) (nomark _)))).pt) (pss_one (ps_expr (bm0K (K := K) rfl (pe_bm0 PySem.F.plainAttrs_list PySem.F.slot_list_pop PySem.F.type_list_pop mt_pop (pv 1))))) (pss_one (ps_expr (bmK (K := K) rfl (pe_bm PySem.F.plainAttrs_list PySem.F.slot_list_append PySem.F.type_list_append mt_append (pv 1) (pa_cons (pv 2) pa_nil))))))))
    (pss_one (ps_ret (pv 1)))))), ?_⟩
  (iterate 910 fail)
  rcases h with ⟨n, q⟩ | ⟨a, rfl, h, q⟩
  · exact ⟨_, rfl, .inl ⟨n, q⟩⟩
  refine ⟨_, rfl, .inr ⟨a, rfl, h, fun H1 e1 => ?_⟩⟩
  (iterate 909 fail)
  refine ⟨by (iterate 904 fail), fun o no => ?_⟩
  (iterate 909 fail)
  have h1 : upd H1 o (.lst []) a = some (.lst []) := (e1.trans (Ex.new no)).use h
  refine ⟨_, rfl, ⟨_, SqL.of h1⟩, for_listN (xs := []) (fun i σ' H' => σ' = [some (.ref a), some (.ref o), none] ∧ H' = upd H1 o (.lst [])) ⟨rfl, rfl⟩ (fun i σ' H' hi hI => ?_) (fun i x σ' H' hc hI => ?_) (fun σ' H' hI => ?_)⟩
  · obtain ⟨rfl, rfl⟩ := hI
    exact SqL.of h1
  · simp at hc
  · obtain ⟨rfl, rfl⟩ := hI
    (iterate 909 fail)
    exact q _ _ (e1.trans (Ex.new no)) upd_same
end
end U

set_option Elab.async false
set_option linter.all false
set_option maxRecDepth 100000
set_option maxHeartbeats 4000000
namespace U
open PySem PySem.Spec PyProof.Rows L2
local macro_rules | `(tactic| iterate 901 fail) => `(tactic| first
  | with_reducible assumption
  | with_reducible exact upd_same
  | (with_reducible refine' Ex.use (Ex.new ?n) ?h; (case n => with_reducible assumption); (case h => (iterate 901 fail)))
  | (with_reducible refine' Ex.use ?n ?h; (case n => with_reducible assumption); (case h => (iterate 901 fail))))
local macro_rules | `(tactic| iterate 902 fail) => `(tactic| first
  | with_reducible assumption
  | (with_reducible refine' SqL.of ?h; (case h => (iterate 901 fail)))
  | (with_reducible refine' SqT.of ?h; (case h => (iterate 901 fail)))
  | (iterate 912 fail))
local macro_rules | `(tactic| iterate 912 fail) => `(tactic| first
  | with_reducible assumption
  | (with_reducible refine' Ex.sql (Ex.new ?n) ?h; (case n => with_reducible assumption); (case h => (iterate 912 fail)))
  | (with_reducible refine' Ex.sqt (Ex.new ?n) ?h; (case n => with_reducible assumption); (case h => (iterate 912 fail)))
  | (with_reducible refine' Ex.sql ?n ?h; (case n => with_reducible assumption); (case h => (iterate 912 fail)))
  | (with_reducible refine' Ex.sqt ?n ?h; (case n => with_reducible assumption); (case h => (iterate 912 fail))))
local macro_rules | `(tactic| iterate 903 fail) => `(tactic| first
  | with_reducible assumption
  | with_reducible exact Ex.refl _
  | (with_reducible refine' Ex.mk ?e ?n; (case n => with_reducible assumption); (case e => (iterate 903 fail)))
  | (with_reducible refine' Ex.trans ?e ?n; (case n => with_reducible assumption); (case e => (iterate 903 fail))))
local macro_rules | `(tactic| iterate 904 fail) => `(tactic| first
  | with_reducible assumption
  | (apply line_le; simp only [List.length_cons, List.length_nil, List.length_append, List.length_map, List.length_range]; omega)
  | (apply line_lt; simp only [List.length_cons, List.length_nil, List.length_append, List.length_map, List.length_range]; omega))
local macro_rules | `(tactic| iterate 905 fail) => `(tactic| (apply line_le; first | (show List.length _ ≤ _; omega) | (simp only [U.T, PySem.Str.length, List.size_toArray, List.length_cons, List.length_nil, List.length_append, List.length_map, List.length_reverse]; omega)))
local macro_rules | `(tactic| iterate 906 fail) => `(tactic| first
  | with_reducible exact TyX.base (TyOf.str _) | with_reducible exact TyX.base (TyOf.int _) | with_reducible exact TyX.base (TyOf.bl _) | with_reducible exact TyX.base TyOf.non
  | (with_reducible refine' TyX.base (TyOf.lst ?h); (case h => (iterate 901 fail))) | (with_reducible refine' TyX.base (TyOf.tup ?h); (case h => (iterate 901 fail))) | (with_reducible refine' TyX.base (TyOf.dK ?h); (case h => (iterate 901 fail))))
local macro_rules | `(tactic| iterate 907 fail) => `(tactic| first
  | (with_reducible refine' k_tyL ?h ?k; (case h => (iterate 901 fail)))
  | (with_reducible refine' k_app ?h ?z ?k; (case h => (iterate 901 fail)); (case z => (iterate 904 fail)))
  | (with_reducible refine' k_gTup ?h ?z ?k; (case h => (iterate 902 fail)); (case z => exact rfl))
  | (with_reducible refine' k_I ?c ?k; (case c => first | decide | exact ⟨by decide, by decide⟩))
  | (with_reducible refine' k_ixL ?h ?a ?k; (case h => (iterate 902 fail)); (case a => exact rfl))
  | (with_reducible refine' k_ixT ?h ?a ?k; (case h => (iterate 902 fail)); (case a => exact rfl))
  | (with_reducible refine' k_lenL ?h ?k; (case h => (iterate 902 fail)))
  | (with_reducible refine' k_lenT ?h ?k; (case h => (iterate 902 fail)))
  | (with_reducible refine' k_lenS ?h ?k; (case h => (iterate 905 fail)))
  | (with_reducible refine' k_isi (b := true) ?t ?e ?k; (case t => (iterate 906 fail)); (case e => decide +kernel))
  | (with_reducible refine' k_isi (b := false) ?t ?e ?k; (case t => (iterate 906 fail)); (case e => decide +kernel)))
local macro_rules | `(tactic| iterate 908 fail) => `(tactic| first | with_reducible refine Stp.h ?_ | (iterate 907 fail))
local macro_rules | `(tactic| iterate 909 fail) => `(tactic| ((try dsimp only); repeat (iterate 908 fail)))
local macro_rules | `(tactic| iterate 910 fail) => `(tactic| (simp only [start_cons, start_nil, start_end]; repeat (iterate 908 fail)))

section
variable {P : Program} {w : World} {K : PySem.W.Frag} {mg : Str → Option Value} {base : Heap}
/-- reached(one, other, first, second) -/
def sp_reached (R B : Addr) : Sp := fun vs H Q E => ∃ x y a b, vs = [x, y, a, b] ∧ (RdBad R B x y a b H E ∨ (x = .str (T []) ∧ y = .str (T [117, 100]) ∧ a = .int 0 ∧ b = .int 2 ∧ ∀ H' r, Ex H H' → Q (.ref r) H'))
abbrev s_reached : Stmt := topS 36
theorem sc_reached : FnScope ["one", "other", "first", "second", "mine", "theirs", "ahead"] ["one", "other", "first", "second"] (defScope s_reached) := ⟨rfl, rfl, rfl, by decide +kernel, rfl, by decide +kernel, by decide +kernel⟩
theorem ok_reached {f : Addr} {fd : FuncData} (F : Fun K "reached" "reached" s_reached f fd) {R B W S : Addr} (c_asked_ridge : Cal P w K mg base (L2N.CX P w) 1 "asked_ridge" (sp_asked_ridge R)) (c_heights_of : Cal P w K mg base CX0 1 "heights_of" sp_heights_of) (c_asked_places : Cal P w K mg base (L2N.CX P w) 2 "asked_places" (sp_asked_places K B)) (c_found_from : Cal P w K mg base CX0 4 "found_from" (sp_found_from K)) (c_led : Cal P w K mg base CX0 1 "led" (sp_led K))
    (k_Way : C8.Mak P w K mg base 1 "Way" W (sp_init K W "moves") []) (k_Shut : C8.Mak P w K mg base 1 "Shut" S (sp_init K S "pairs") []) (m_sorted : mg "sorted" = none) : FnOk P w K mg base (L2N.CX P w) 5 f fd ["one", "other", "first", "second"] (sp_reached R B) := by
  refine Fun.okN F sc_reached (fun vs H Q E h => ?_) (fun cdv A outer s H vs Q E hr h => ?_)
  · obtain ⟨x, y, a, b, rfl, _⟩ := h
    rfl
  have hu := hu_of hr
  have hu64 := hr.units
  obtain ⟨x, y, a, b, rfl, h⟩ := h
  refine ⟨_, (pss_cons (ps_expr (pe_cX c_asked_ridge hr (by decide) (by rfl) (pex (L2N.takes_of rfl rfl rfl rfl)) (pa_cons (pv 0) pa_nil)))
    (pss_cons (ps_expr (pe_cX c_asked_ridge hr (by decide) (by rfl) (pex (L2N.takes_of rfl rfl rfl rfl)) (pa_cons (pv 1) pa_nil)))
    (pss_cons (ps_set (i := 4) sc_reached.nd rfl (.inl rfl) (pe_c0 c_heights_of hr (by decide) (by rfl) (pa_cons (pv 0) pa_nil)))
    (pss_cons (ps_set (i := 5) sc_reached.nd rfl (.inl rfl) (pe_c0 c_heights_of hr (by decide) (by rfl) (pa_cons (pv 1) pa_nil)))
    (pss_cons (ps_expr (pe_cX c_asked_places hr (by decide) (by rfl) (pex (L2N.takes_of rfl rfl rfl rfl)) (pa_cons (pv 4) (pa_cons (pv 5) (pa_cons (pv 2) (pa_cons (pv 3) pa_nil))))))
    (pss_cons (ps_set (i := 6) sc_reached.nd rfl (.inl rfl) (pe_c0 c_found_from hr (by decide) (by rfl) (pa_cons (pv 4) (pa_cons (pv 5) pa_nil))))
    (pss_cons (ps_if (pt_cmp (pc_din hu (pe_tup (pa_cons (pv 2) (pa_cons (pv 3) pa_nil))) (pv 6))) (pss_one (ps_ret (C8.pe_mk k_Way hr (by decide) (by rfl) (pa_cons (pe_c0 c_led hr (by decide) (by rfl) (pa_cons (pv 6) (pa_cons (pe_tup (pa_cons (pv 2) (pa_cons (pv 3) pa_nil))) pa_nil))) pa_nil)))) pss_nil)
    (pss_one (ps_ret (C8.pe_mk k_Shut hr (by decide) (by rfl) (pa_cons (pe_callB (cr_sortedDT rfl) (by rfl) m_sorted (by rfl) (pa_cons (pv 6) pa_nil)) pa_nil))))))))))), ?_⟩
  (iterate 910 fail)
  rcases h with (⟨n, q⟩ | ⟨u, rfl, uu, zu, ⟨n, q⟩ | ⟨v, rfl, uv, zv, np, q⟩⟩) | ⟨rfl, rfl, rfl, rfl, q⟩
  · exact ⟨_, rfl, .inl ⟨n, q _ (Ex.refl _)⟩⟩
  · refine ⟨_, rfl, .inr ⟨u, rfl, uu, by omega, ?_⟩⟩
    (iterate 909 fail)
    exact ⟨_, rfl, .inl ⟨n, q _ (Ex.refl _)⟩⟩
  · refine ⟨_, rfl, .inr ⟨u, rfl, uu, by omega, ?_⟩⟩
    (iterate 909 fail)
    refine ⟨_, rfl, .inr ⟨v, rfl, uv, by omega, ?_⟩⟩
    (iterate 909 fail)
    refine ⟨u, rfl, by omega, fun H1 p1 e1 n1 h1 => ?_⟩
    (iterate 909 fail)
    refine ⟨v, rfl, by omega, fun H2 p2 e2 n2 h2 => ?_⟩
    (iterate 909 fail)
    exact ⟨p1, p2, hts u, hts v, _, _, rfl, SqL.of (e2.use h1), SqL.of h2, .inl ⟨np.ex (e1.trans e2), q _ (e1.trans e2)⟩⟩
  refine ⟨_, rfl, .inr ⟨[], rfl, ud_nil, by decide, ?_⟩⟩
  (iterate 909 fail)
  refine ⟨_, rfl, .inr ⟨[117, 100], rfl, by unfold UD; decide, by decide, ?_⟩⟩
  (iterate 909 fail)
  refine ⟨[], rfl, by decide, fun H1 p1 e1 n1 h1 => ?_⟩
  (iterate 909 fail)
  refine ⟨[117, 100], rfl, by decide, fun H2 p2 e2 n2 h2 => ?_⟩
  (iterate 909 fail)
  have h12 := e2.use h1
  refine ⟨p1, p2, hts [], hts [117, 100], _, _, rfl, SqL.of h12, SqL.of h2, .inr ⟨0, 2, rfl, rfl, by decide, by decide, by decide, ?_⟩⟩
  (iterate 909 fail)
  refine ⟨p1, p2, hts [], hts [117, 100], 901 * 901, rfl, SqL.of h12, SqL.of h2, vd00 [] [117, 100], fun L hd hv => Nat.le_trans (few hd hv) (Nat.mul_le_mul (by rw [hts_length]; decide) (by rw [hts_length]; decide)), by decide, fun H3 r kvs Es e3 n3 h3 pE B => ?_⟩
  have e03 := (e1.trans e2).trans e3
  have hfew : Es.length ≤ 901 * 901 := B.few fun L hd hv => Nat.le_trans (few hd hv) (Nat.mul_le_mul (by rw [hts_length]; decide) (by rw [hts_length]; decide))
  (iterate 909 fail)
  refine ⟨by (iterate 904 fail), fun p4 n4 => ?_⟩
  have e4 := Ex.new n4 (o := .tup [.int 0, .int 2])
  have t4 : TP (upd H3 p4 (.tup [.int 0, .int 2])) p4 (0, 2) := upd_same
  have h4 := e4.use h3
  have pE4 := Paired.mono (fun _ _ z => EnR.tx e4.tx z) pE
  have e04 := e03.trans e4
  generalize upd H3 p4 (.tup [.int 0, .int 2]) = H4 at t4 h4 pE4 e04 ⊢
  (iterate 909 fail)
  refine ⟨r, _, rfl, DGet.t h4 t4.key, ?_⟩
  by_cases hin : (0, 2) ∈ Es.map (·.1)
  · obtain ⟨en, hen, hp5⟩ := List.mem_map.mp hin
    obtain ⟨k5, hk5⟩ := List.getElem?_of_mem hen
    obtain ⟨c5, b5, hv5, _⟩ := val_some pE4 B.nodup hk5
    rw [hp5] at hv5
    rw [hv5, Option.isSome_some]
    (iterate 909 fail)
    refine ⟨by (iterate 904 fail), fun p5 n5 => ?_⟩
    (iterate 909 fail)
    have e5 := Ex.new n5 (o := .tup [.int 0, .int 2])
    refine ⟨r, p5, hts [], hts [117, 100], _, Es, kvs, (0, 2), rfl, e5.use h4, Paired.mono (fun _ _ z => EnR.tx e5.tx z) pE4, B, upd_same, hin, by omega, fun H6 r6 ms e6 n6 h6 hw hl => ?_⟩
    (iterate 909 fail)
    intro x dx nx nd ne
    have h6x : upd (upd H6 dx (.own x)) x (.ins W dx []) r6 = some (.lst (mvs ms)) := ((Ex.new nd).mk (by rw [upd_ne (Ne.symm ne)]; exact nx)).use h6
    refine ⟨x, dx, r6, mvs ms, rfl, upd_same, SqL.of h6x, fun l nl => ⟨rfl, ?_⟩⟩
    obtain ⟨m1, m2, m3, m4⟩ := made (f := "moves") (xs := mvs ms) nx nd ne nl
    have e06 := (e04.trans e5).trans e6
    exact q _ _ (e06.trans m1)
  · rw [val_none pE4 hin, Option.isSome_none]
    (iterate 909 fail)
    refine ⟨r, kvs, rfl, .inl h4, fun kv hkv => ?_, fun ys p5 bs n5 hk hperm => ?_⟩
    · obtain ⟨k5, hk5⟩ := List.getElem?_of_mem hkv
      obtain ⟨en, _, hk, _⟩ := pair_ta pE4 hk5
      exact ⟨_, _, hk⟩
    obtain ⟨ps, hps, hpp⟩ := paired_perm hperm (keys_pairs pE4 hk)
    (iterate 909 fail)
    have e5 := Ex.new n5 (o := .lst ys)
    have h5 : upd H4 p5 (.lst ys) p5 = some (.lst ys) := upd_same
    have hpp5 := Paired.mono (fun _ _ z => PiR.tx e5.tx z) hpp
    have e05 := e04.trans e5
    generalize upd H4 p5 (.lst ys) = H5 at h5 hpp5 e05 ⊢
    intro x dx nx nd ne
    have h5x : upd (upd H5 dx (.own x)) x (.ins S dx []) p5 = some (.lst ys) := ((Ex.new nd).mk (by rw [upd_ne (Ne.symm ne)]; exact nx)).use h5
    refine ⟨x, dx, p5, ys, rfl, upd_same, SqL.of h5x, fun l nl => ⟨rfl, ?_⟩⟩
    obtain ⟨m1, m2, m3, m4⟩ := made (f := "pairs") (xs := ys) nx nd ne nl
    exact q _ _ (e05.trans m1)
end
end U

set_option Elab.async false
set_option linter.all false
set_option maxRecDepth 100000
set_option maxHeartbeats 4000000
namespace U
open PySem PySem.Spec PyProof.Rows L2
local macro_rules | `(tactic| iterate 901 fail) => `(tactic| first
  | with_reducible assumption
  | with_reducible exact upd_same
  | (with_reducible refine' Ex.use (Ex.new ?n) ?h; (case n => with_reducible assumption); (case h => (iterate 901 fail)))
  | (with_reducible refine' Ex.use ?n ?h; (case n => with_reducible assumption); (case h => (iterate 901 fail))))
local macro_rules | `(tactic| iterate 902 fail) => `(tactic| first
  | with_reducible assumption
  | (with_reducible refine' SqL.of ?h; (case h => (iterate 901 fail)))
  | (with_reducible refine' SqT.of ?h; (case h => (iterate 901 fail)))
  | (iterate 912 fail))
local macro_rules | `(tactic| iterate 912 fail) => `(tactic| first
  | with_reducible assumption
  | (with_reducible refine' Ex.sql (Ex.new ?n) ?h; (case n => with_reducible assumption); (case h => (iterate 912 fail)))
  | (with_reducible refine' Ex.sqt (Ex.new ?n) ?h; (case n => with_reducible assumption); (case h => (iterate 912 fail)))
  | (with_reducible refine' Ex.sql ?n ?h; (case n => with_reducible assumption); (case h => (iterate 912 fail)))
  | (with_reducible refine' Ex.sqt ?n ?h; (case n => with_reducible assumption); (case h => (iterate 912 fail))))
local macro_rules | `(tactic| iterate 903 fail) => `(tactic| first
  | with_reducible assumption
  | with_reducible exact Ex.refl _
  | (with_reducible refine' Ex.mk ?e ?n; (case n => with_reducible assumption); (case e => (iterate 903 fail)))
  | (with_reducible refine' Ex.trans ?e ?n; (case n => with_reducible assumption); (case e => (iterate 903 fail))))
local macro_rules | `(tactic| iterate 904 fail) => `(tactic| first
  | with_reducible assumption
  | (apply line_le; simp only [List.length_cons, List.length_nil, List.length_append, List.length_map, List.length_range]; omega)
  | (apply line_lt; simp only [List.length_cons, List.length_nil, List.length_append, List.length_map, List.length_range]; omega))
local macro_rules | `(tactic| iterate 905 fail) => `(tactic| (apply line_le; first | (show List.length _ ≤ _; omega) | (simp only [U.T, PySem.Str.length, List.size_toArray, List.length_cons, List.length_nil, List.length_append, List.length_map, List.length_reverse]; omega)))
local macro_rules | `(tactic| iterate 906 fail) => `(tactic| first
  | with_reducible exact TyX.base (TyOf.str _) | with_reducible exact TyX.base (TyOf.int _) | with_reducible exact TyX.base (TyOf.bl _) | with_reducible exact TyX.base TyOf.non
  | (with_reducible refine' TyX.base (TyOf.lst ?h); (case h => (iterate 901 fail))) | (with_reducible refine' TyX.base (TyOf.tup ?h); (case h => (iterate 901 fail))) | (with_reducible refine' TyX.base (TyOf.dK ?h); (case h => (iterate 901 fail))))
local macro_rules | `(tactic| iterate 907 fail) => `(tactic| first
  | (with_reducible refine' k_tyL ?h ?k; (case h => (iterate 901 fail)))
  | (with_reducible refine' k_app ?h ?z ?k; (case h => (iterate 901 fail)); (case z => (iterate 904 fail)))
  | (with_reducible refine' k_gTup ?h ?z ?k; (case h => (iterate 902 fail)); (case z => exact rfl))
  | (with_reducible refine' k_I ?c ?k; (case c => first | decide | exact ⟨by decide, by decide⟩))
  | (with_reducible refine' k_ixL ?h ?a ?k; (case h => (iterate 902 fail)); (case a => exact rfl))
  | (with_reducible refine' k_ixT ?h ?a ?k; (case h => (iterate 902 fail)); (case a => exact rfl))
  | (with_reducible refine' k_lenL ?h ?k; (case h => (iterate 902 fail)))
  | (with_reducible refine' k_lenT ?h ?k; (case h => (iterate 902 fail)))
  | (with_reducible refine' k_lenS ?h ?k; (case h => (iterate 905 fail)))
  | (with_reducible refine' k_isi (b := true) ?t ?e ?k; (case t => (iterate 906 fail)); (case e => decide +kernel))
  | (with_reducible refine' k_isi (b := false) ?t ?e ?k; (case t => (iterate 906 fail)); (case e => decide +kernel)))
local macro_rules | `(tactic| iterate 908 fail) => `(tactic| first | with_reducible refine Stp.h ?_ | (iterate 907 fail))
local macro_rules | `(tactic| iterate 909 fail) => `(tactic| ((try dsimp only); repeat (iterate 908 fail)))
local macro_rules | `(tactic| iterate 910 fail) => `(tactic| (simp only [start_cons, start_nil, start_end]; repeat (iterate 908 fail)))

/-- lcG, each turn told of the turns before -/
theorem lcGE {σ σ0 : L2.St} {H : Hp} {Q : VK} {K : PySem.W.Frag} {te : L2.TE} {g : L2.TG} {vs : List Nat} [q0 : Wp σ vs σ0] {a : Addr} {xs : List V} (G : Nat → V → V → Prop) (hx : SqL K H a xs) (hz : xs.length < 16777216)
    (he : ∀ (i : Nat) (x : V) H2, xs[i]? = some x → (∀ j, j < i → ∃ x y, xs[j]? = some x ∧ G j x y) → Ex H H2 → ∀ Q : VK, (∀ y H3, G i x y → Ex H2 H3 → Q y H3) → g x σ0 H2 fun σ2 H3 => wipe σ2 vs = σ0 ∧ te σ2 H3 Q)
    (k : ∀ p H2 (ys : List V), H p = none → Ex H H2 → H2 p = some (.lst ys) → ys.length = xs.length → (∀ (i : Nat) (x y : V), xs[i]? = some x → ys[i]? = some y → G i x y) → Q (.ref p) H2) :
    ∀ D, H D = none → ∃ W : Nat → Nat → Hp → Prop, (∃ m, W 0 m (upd H D (.lst []))) ∧ ∀ i m H, W i m H →
      ((Itl K a).stop i H ∧ Q (.ref D) H) ∨ ((Itl K a).go i H ∧ ∃ Nx : Hp → Prop, (∀ H', Nx H' → ∃ m', m' < m ∧ W (i + 1) m' H') ∧ ∀ x H', (Itl K a).yld i H x H' → g x (wipe σ vs) H' fun σ2 H2 => wipe σ2 vs = wipe σ vs ∧ tYes σ2 H2 fun b H3 =>
        if b = true then te σ2 H3 fun y H4 => ∃ acc, H4 D = some (.lst acc) ∧ acc.length < sizeLine ∧ Nx (upd H4 D (.lst (acc ++ [y]))) else Nx H3) := fun D hD => by
  refine lc_list (xs := xs) (fun i H2 => Ex H H2 ∧ ∃ ys : List V, H2 D = some (.lst ys) ∧ ys.length = i ∧ i ≤ xs.length ∧ ∀ (j : Nat) (x y : V), xs[j]? = some x → ys[j]? = some y → G j x y) ⟨Ex.new hD, [], upd_same, rfl, Nat.zero_le _, fun j x y _ h => by simp at h⟩ (fun i H _ p => p.1.sql hx) (fun i x H2 hc p => ?_) (fun H2 p => ?_)
  · rw [q0.h]
    obtain ⟨e, ys, hy, hl, hi, hg⟩ := p
    have hi3 := (List.getElem?_eq_some_iff.mp hc).1
    refine he i x H2 hc (fun j hj => ?_) e _ fun y H3 g3 e3 => ⟨ys, e3 _ _ hy, line_lt (by omega), Ex.mut (e.trans e3) hD, ys ++ [y], upd_same, by rw [List.length_append, List.length_singleton]; omega, by omega, fun j x' y' hx' hy' => ?_⟩
    · have h1 : xs[j]? = some (xs[j]'(by omega)) := List.getElem?_eq_getElem _
      have h2 : ys[j]? = some (ys[j]'(by omega)) := List.getElem?_eq_getElem _
      exact ⟨_, _, h1, hg j _ _ h1 h2⟩
    by_cases hj : j < ys.length
    · rw [List.getElem?_append_left hj] at hy'
      exact hg j x' y' hx' hy'
    · have hj2 := (List.getElem?_eq_some_iff.mp hy').1
      rw [List.length_append, List.length_singleton] at hj2
      have : j = i := by omega
      subst this
      rw [List.getElem?_append_right (by omega), hl, Nat.sub_self] at hy'
      rw [hc] at hx'
      rw [← Option.some.inj hx', ← (Option.some.inj hy' : y = y')]
      exact g3
  · obtain ⟨e, ys, hy, hl, hi, hg⟩ := p
    exact k D H2 ys hD e hy hl hg
theorem m_lcGE {σ σ0 : L2.St} {H : Hp} {Q : VK} {K : PySem.W.Frag} {t0 te : L2.TE} {g : L2.TG} {vs : List Nat} [q0 : Wp σ vs σ0] {a : Addr} {xs : List V} (G : Nat → V → V → Prop) (h0 : ∀ R : VK, R (.ref a) H → t0 σ H R) (hx : SqL K H a xs) (hz : xs.length < 16777216)
    (he : ∀ (i : Nat) (x : V) H2, xs[i]? = some x → (∀ j, j < i → ∃ x y, xs[j]? = some x ∧ G j x y) → Ex H H2 → ∀ Q : VK, (∀ y H3, G i x y → Ex H2 H3 → Q y H3) → g x σ0 H2 fun σ2 H3 => wipe σ2 vs = σ0 ∧ te σ2 H3 Q)
    (k : ∀ p H2 (ys : List V), H p = none → Ex H H2 → H2 p = some (.lst ys) → ys.length = xs.length → (∀ (i : Nat) (x y : V), xs[i]? = some x → ys[i]? = some y → G i x y) → Q (.ref p) H2) : tLc (iList K t0) g tYes te vs σ H Q :=
  k_lc (h0 _ ⟨a, rfl, ⟨xs, hx⟩, lcGE G hx hz he k⟩)
/-! ### small data -/
def Sm (d : PyData) : Prop := PyData.canLay0 d = true ∧ PyData.depth d ≤ 5
theorem canL : ∀ {ds : List PyData}, (∀ d ∈ ds, Sm d) → PyData.canLayAll0 ds = true ∧ PyData.depthAll ds ≤ 5
  | [], _ => by simp [PyData.canLayAll0, PyData.depthAll]
  | d :: r, h => by
    obtain ⟨h1, h2⟩ := canL (ds := r) fun d hd => h d (List.mem_cons_of_mem _ hd)
    obtain ⟨h3, h4⟩ := h d List.mem_cons_self
    simp only [PyData.canLayAll0, PyData.depthAll, h1, h3]
    exact ⟨rfl, by omega⟩
theorem shL {ds : List PyData} (h : ∀ d ∈ ds, Sm d) : SeqAt.shaped (.list ds) = true := by
  obtain ⟨h1, h2⟩ := canL h
  unfold SeqAt.shaped
  simp [PyData.canLay0, PyData.depth, h1]
  omega
section
variable {P : Program} {w : World} {K : PySem.W.Frag} {mg : Str → Option Value} {base : Heap}
/-- refused by top_of -/
def TopBad (R C : Addr) (x : V) (H : Hp) (E : XK) : Prop :=
  (NoR H x ∧ ∀ H', Ex H H' → E (.ref R) none H') ∨ ∃ l : List Nat, x = .str (T l) ∧ UD l ∧ l.length ≤ 8000000 ∧ NoC l ∧ ∀ H', Ex H H' → E (.ref C) none H'
theorem TopBad.ex {R C : Addr} {x : V} {H H1 : Hp} {E : XK} (h : TopBad R C x H E) (e : Ex H H1) : TopBad R C x H1 E := by
  rcases h with ⟨n, q⟩ | ⟨l, hx, hl, hz, hc, q⟩
  · exact .inl ⟨n.ex e, fun H' e' => q _ (e.trans e')⟩
  · exact .inr ⟨l, hx, hl, hz, hc, fun H' e' => q _ (e.trans e')⟩
theorem top_bad {R C : Addr} {x : V} {H : Hp} {E : XK} {Q : VK} (h : TopBad R C x H E) : sp_top_of R C [x] H Q E := by
  rcases h with ⟨n, q⟩ | ⟨l, hx, hl, hz, hc, q⟩
  · exact ⟨_, rfl, .inl ⟨n, q⟩⟩
  · exact ⟨_, rfl, .inr ⟨l, hx, hl, hz, .inl ⟨hc, q⟩⟩⟩
/-- together(one, other), refused -/
def sp_together (R C U : Addr) : Sp := fun vs H Q E => ∃ x y, vs = [x, y] ∧ (TopBad R C x H E ∨ ∃ (u : List Nat) (M : Int), x = .str (T u) ∧ UD u ∧ u.length ≤ 8000000 ∧ Cl (hts u) M ∧ (TopBad R C y H E ∨ ∃ (v : List Nat) (M' : Int), y = .str (T v) ∧ UD v ∧ v.length ≤ 8000000 ∧ Cl (hts v) M' ∧ M ≠ M' ∧ ∀ H', Ex H H' → E (.ref U) none H'))
abbrev s_together : Stmt := topS 39
theorem sc_together : FnScope ["one", "other"] ["one", "other"] (defScope s_together) := ⟨rfl, rfl, rfl, by decide +kernel, rfl, by decide +kernel, by decide +kernel⟩
theorem ok_together {f : Addr} {fd : FuncData} (F : Fun K "together" "together" s_together f fd) {R C U : Addr} (c_top_of : Cal P w K mg base (L2N.CX P w) 2 "top_of" (sp_top_of R C)) (x_Unlike : OwnX K mg "Unlike" U) : FnOk P w K mg base (L2N.CX P w) 6 f fd ["one", "other"] (sp_together R C U) := by
  refine Fun.okN F sc_together (fun vs H Q E h => ?_) (fun cdv A outer s H vs Q E hr h => ?_)
  · obtain ⟨x, y, rfl, _⟩ := h
    rfl
  have hu64 := hr.units
  obtain ⟨x, y, rfl, h⟩ := h
  refine ⟨_, (pss_cons (ps_if (pt_cmpR (op_neUK (K := K) rfl hu64) (pe_cX c_top_of hr (by decide) (by rfl) (pex (L2N.takes_of rfl rfl rfl rfl)) (pa_cons (pv 0) pa_nil)) (pe_cX c_top_of hr (by decide) (by rfl) (pex (L2N.takes_of rfl rfl rfl rfl)) (pa_cons (pv 1) pa_nil)) (nomark _)) (pss_one (L2N.ps_raise rfl (L2N.takes_of rfl rfl rfl rfl) (x_Unlike.pmk (by rfl)))) pss_nil)
    (pss_one ps_never)), ?_⟩
  (iterate 910 fail)
  rcases h with b | ⟨u, M, rfl, uu, zu, cu, b | ⟨v, M', rfl, uv, zv, cv, hne, q⟩⟩
  · exact top_bad b
  · refine ⟨_, rfl, .inr ⟨u, rfl, uu, zu, .inr ⟨M, cu, fun H1 e1 => ?_⟩⟩⟩
    (iterate 909 fail)
    exact top_bad (b.ex e1)
  · refine ⟨_, rfl, .inr ⟨u, rfl, uu, zu, .inr ⟨M, cu, fun H1 e1 => ?_⟩⟩⟩
    (iterate 909 fail)
    refine ⟨_, rfl, .inr ⟨v, rfl, uv, zv, .inr ⟨M', cv, fun H2 e2 => ?_⟩⟩⟩
    (iterate 909 fail)
    refine k_ifn (fun _ => ?_) (fun he => (hne he).elim)
    exact q _ (e1.trans e2)
/-- a list that in_unison refuses: climbs, then none; or climbs to unlike tops -/
def Run (R C U : Addr) (xs : List V) (H : Hp) (E : XK) : Prop := ∃ (n : Nat) (M : Nat → Int), n ≤ xs.length ∧ (∀ i, i < n → ∃ l, xs[i]? = some (.str (T l)) ∧ UD l ∧ l.length ≤ 8000000 ∧ Cl (hts l) (M i)) ∧
  ((∃ x, xs[n]? = some x ∧ TopBad R C x H E) ∨ (n = xs.length ∧ (∃ i j, i < n ∧ j < n ∧ M i < M j) ∧ ∀ H', Ex H H' → E (.ref U) none H'))
def sp_in_unison (K : PySem.W.Frag) (R C U : Addr) : Sp := fun vs H Q E => ∃ v, vs = [v] ∧ ((NoL H v ∧ ∀ H', Ex H H' → E (.ref C) none H') ∨ ∃ (a : Addr) (xs : List V), v = .ref a ∧ H a = some (.lst xs) ∧ xs.length ≤ 100 ∧
  ((xs = [] ∧ ∀ H', Ex H H' → E (.ref C) none H') ∨ (xs ≠ [] ∧ (∃ ds : List PyData, (∀ H', Ex H H' → DpAll K H' xs ds) ∧ ∀ d ∈ ds, Sm d) ∧ Run R C U xs H E)))
abbrev s_in_unison : Stmt := topS 43
theorem sc_in_unison : FnScope ["climbs", "climb", "tops", "words", "common", "moves", "word", "move"] ["climbs"] (defScope s_in_unison) := ⟨rfl, rfl, rfl, by decide +kernel, rfl, by decide +kernel, by decide +kernel⟩
theorem ok_in_unison {f : Addr} {fd : FuncData} (F : Fun K "in_unison" "in_unison" s_in_unison f fd) {R C U : Addr} (c_top_of : Cal P w K mg base (L2N.CX P w) 2 "top_of" (sp_top_of R C)) (x_Unlike : OwnX K mg "Unlike" U) (x_BadClimb : OwnX K mg "BadClimb" C)
    (m_isinstance : mg "isinstance" = none) (m_list : mg "list" = none) (m_min : mg "min" = none) (m_max : mg "max" = none) : FnOk P w K mg base (L2N.CX P w) 6 f fd ["climbs"] (sp_in_unison K R C U) := by
  refine Fun.okN F sc_in_unison (fun vs H Q E h => ?_) (fun cdv A outer s H vs Q E hr h => ?_)
  · obtain ⟨v, rfl, _⟩ := h
    rfl
  have hu64 := hr.units
  obtain ⟨v, rfl, h⟩ := h
  refine ⟨_, (pss_cons (ps_if ((pw_or (pt_not (pt_val (pe_callB (call_isiK2 (K := K) rfl) (by rfl) m_isinstance (by rfl) (pa_cons (pv 0) (pa_cons (pe_bltn (v := .ty "list") (u := .type "list") (by rfl) m_list (by rfl) rfl) pa_nil))))) (pw_or1 (pt_cmpR (op_eqUK (K := K) rfl hu64) (pv 0) (pe_lst pa_nil) (nomark _)))).pt) (pss_one (L2N.ps_raise rfl (L2N.takes_of rfl rfl rfl rfl) (x_BadClimb.pmk (by rfl)))) pss_nil)
    (pss_cons (setLcV (vs := [1]) rfl (CE.ps_setLcE (i := 2) (own := [("climb", 1)]) rfl sc_in_unison.nd rfl rfl (sw_true rfl rfl rfl (by decide +kernel)) (listIK (K := K) rfl (pi_list (pv 0))) (blkOk_by (N := ["climbs", "climb", "tops", "words", "common", "moves", "word", "move"]) (sc := defScope s_in_unison) (by decide +kernel)) (fun _ _ _ _ _ => (pg_name (i := 1) sc_in_unison.nd rfl (.inl rfl))) rfl rfl (L2N.takes_of rfl rfl rfl rfl) (fun _ _ _ _ _ => (pe_cB c_top_of hr (by decide) (by rfl) (pa_cons (pv 1) pa_nil)))))
    (pss_cons (ps_if (pt_cmpR op_lt (pe_callB (cr_minK2 (K := K) rfl rfl) (by rfl) m_min (by rfl) (pa_cons (pv 2) pa_nil)) (pe_callB (cr_maxK (K := K) rfl rfl) (by rfl) m_max (by rfl) (pa_cons (pv 2) pa_nil)) (nomark _)) (pss_one (L2N.ps_raise rfl (L2N.takes_of rfl rfl rfl rfl) (x_Unlike.pmk (by rfl)))) pss_nil)
    (pss_cons ps_never
    (pss_cons ps_never
    (pss_cons ps_never
    (pss_one ps_never))))))), ?_⟩
  rcases h with ⟨n, q⟩ | ⟨a, xs, rfl, hS, hz, h⟩
  · cases n with
    | non => (iterate 910 fail); exact q _ (Ex.refl _)
    | int i => (iterate 910 fail); exact q _ (Ex.refl _)
    | str z => (iterate 910 fail); exact q _ (Ex.refl _)
    | tup h => (iterate 910 fail); exact q _ (Ex.refl _)
    | dK h => (iterate 910 fail); exact q _ (Ex.refl _)
  (iterate 910 fail)
  refine ⟨by (iterate 904 fail), fun p1 n1 => ?_⟩
  have e1 : Ex H (upd H p1 (.lst [])) := Ex.new n1
  have d2 : Dp K (upd H p1 (.lst [])) (.ref p1) (.list []) := .lst (SqL.of upd_same) .nil
  generalize upd H p1 (.lst []) = H1 at e1 d2 ⊢
  rcases h with ⟨rfl, q⟩ | ⟨hne, ⟨ds, hds, hsm⟩, n, M, hn, hcl, h⟩
  · refine k_eqD (.lst (SqL.of (e1.use hS)) .nil) d2 (shL (ds := []) (fun d hd => by cases hd)) (shL (ds := []) (fun d hd => by cases hd)) ?_
    rw [show PyData.eqv (.list []) (.list []) = true by simp [PyData.eqv, PyData.eqvAll]]
    (iterate 909 fail)
    exact q _ e1
  refine k_eqD (.lst (SqL.of (e1.use hS)) (hds _ e1)) d2 (shL hsm) (shL (ds := []) (fun d hd => by cases hd)) ?_
  have hd0 : PyData.eqv (.list ds) (.list []) = false := by
    cases ds with
    | nil =>
      have := hds _ (Ex.refl _)
      cases this
      exact (hne rfl).elim
    | cons d r => simp [PyData.eqv, PyData.eqvAll]
  rw [hd0]
  (iterate 909 fail)
  refine m_lcGE (fun i x y => i ≠ n ∧ (i < n → y = .int (M i))) (fun R k => by (iterate 909 fail); exact k) (SqL.of (e1.use hS)) (by omega) (fun i x H2 hx hp e Q k => ?_) (fun p2 H2 ys n2 e2 h2 hly hG => ?_)
  · have hin : i ≤ n := by
      by_cases hi : i ≤ n
      · exact hi
      · obtain ⟨_, _, _, g, _⟩ := hp n (by omega)
        exact (g rfl).elim
    (iterate 909 fail)
    refine ⟨rfl, ?_⟩
    (iterate 909 fail)
    by_cases hi : i < n
    · obtain ⟨l, hl, hu, hzl, hc⟩ := hcl i hi
      rw [hx] at hl
      rw [Option.some.inj hl]
      exact ⟨_, rfl, .inr ⟨l, rfl, hu, hzl, .inr ⟨M i, hc, fun H3 e3 => k _ _ ⟨by omega, fun _ => rfl⟩ e3⟩⟩⟩
    · have : i = n := by omega
      subst this
      rcases h with ⟨x', hx', b⟩ | ⟨hl, _⟩
      · rw [hx] at hx'
        rw [Option.some.inj hx']
        exact top_bad (b.ex (e1.trans e))
      · have := (List.getElem?_eq_some_iff.mp hx).1
        omega
  · rcases h with ⟨x', hx', b⟩ | ⟨hl, ⟨i, j, hi, hj, hlt⟩, q⟩
    · have h3 := (List.getElem?_eq_some_iff.mp hx').1
      have h4 : ys[n]? = some (ys[n]'(by omega)) := List.getElem?_eq_getElem _
      exact ((hG n _ _ hx' h4).1 rfl).elim
    have hys : ys = ((List.range n).map M).map V.int := by
      apply List.ext_getElem?
      intro k
      by_cases hk : k < n
      · have h3 : xs[k]? = some (xs[k]'(by omega)) := List.getElem?_eq_getElem _
        have h4 : ys[k]? = some (ys[k]'(by omega)) := List.getElem?_eq_getElem _
        rw [h4, (hG k _ _ h3 h4).2 hk, List.getElem?_map, List.getElem?_map, List.getElem?_range hk]
        rfl
      · rw [List.getElem?_eq_none (by omega), List.getElem?_eq_none (by simp; omega)]
    subst hys
    (iterate 909 fail)
    refine k_min (SqL.of h2) (by rw [List.length_map, List.length_range]; omega) fun m hm hmin => ?_
    (iterate 909 fail)
    refine k_max (SqL.of h2) (by rw [List.length_map, List.length_range]; omega) fun m2 hm2 hmax => ?_
    have g1 := hmin (M i) (List.mem_map.mpr ⟨i, List.mem_range.mpr hi, rfl⟩)
    have g2 := hmax (M j) (List.mem_map.mpr ⟨j, List.mem_range.mpr hj, rfl⟩)
    (iterate 909 fail)
    refine k_if (fun _ => ?_) (fun hnn => by omega)
    (iterate 909 fail)
    exact q _ (e1.trans e2)
end
end U

set_option Elab.async false
set_option linter.all false
set_option maxRecDepth 100000
set_option maxHeartbeats 4000000
namespace U
open PySem PySem.Spec PyProof.Rows L2
local macro_rules | `(tactic| iterate 901 fail) => `(tactic| first
  | with_reducible assumption
  | with_reducible exact upd_same
  | (with_reducible refine' Ex.use (Ex.new ?n) ?h; (case n => with_reducible assumption); (case h => (iterate 901 fail)))
  | (with_reducible refine' Ex.use ?n ?h; (case n => with_reducible assumption); (case h => (iterate 901 fail))))
local macro_rules | `(tactic| iterate 902 fail) => `(tactic| first
  | with_reducible assumption
  | (with_reducible refine' SqL.of ?h; (case h => (iterate 901 fail)))
  | (with_reducible refine' SqT.of ?h; (case h => (iterate 901 fail)))
  | (iterate 912 fail))
local macro_rules | `(tactic| iterate 912 fail) => `(tactic| first
  | with_reducible assumption
  | (with_reducible refine' Ex.sql (Ex.new ?n) ?h; (case n => with_reducible assumption); (case h => (iterate 912 fail)))
  | (with_reducible refine' Ex.sqt (Ex.new ?n) ?h; (case n => with_reducible assumption); (case h => (iterate 912 fail)))
  | (with_reducible refine' Ex.sql ?n ?h; (case n => with_reducible assumption); (case h => (iterate 912 fail)))
  | (with_reducible refine' Ex.sqt ?n ?h; (case n => with_reducible assumption); (case h => (iterate 912 fail))))
local macro_rules | `(tactic| iterate 903 fail) => `(tactic| first
  | with_reducible assumption
  | with_reducible exact Ex.refl _
  | (with_reducible refine' Ex.mk ?e ?n; (case n => with_reducible assumption); (case e => (iterate 903 fail)))
  | (with_reducible refine' Ex.trans ?e ?n; (case n => with_reducible assumption); (case e => (iterate 903 fail))))
local macro_rules | `(tactic| iterate 904 fail) => `(tactic| first
  | with_reducible assumption
  | (apply line_le; simp only [List.length_cons, List.length_nil, List.length_append, List.length_map, List.length_range]; omega)
  | (apply line_lt; simp only [List.length_cons, List.length_nil, List.length_append, List.length_map, List.length_range]; omega))
local macro_rules | `(tactic| iterate 905 fail) => `(tactic| (apply line_le; first | (show List.length _ ≤ _; omega) | (simp only [U.T, PySem.Str.length, List.size_toArray, List.length_cons, List.length_nil, List.length_append, List.length_map, List.length_reverse]; omega)))
local macro_rules | `(tactic| iterate 906 fail) => `(tactic| first
  | with_reducible exact TyX.base (TyOf.str _) | with_reducible exact TyX.base (TyOf.int _) | with_reducible exact TyX.base (TyOf.bl _) | with_reducible exact TyX.base TyOf.non
  | (with_reducible refine' TyX.base (TyOf.lst ?h); (case h => (iterate 901 fail))) | (with_reducible refine' TyX.base (TyOf.tup ?h); (case h => (iterate 901 fail))) | (with_reducible refine' TyX.base (TyOf.dK ?h); (case h => (iterate 901 fail))))
local macro_rules | `(tactic| iterate 907 fail) => `(tactic| first
  | (with_reducible refine' k_tyL ?h ?k; (case h => (iterate 901 fail)))
  | (with_reducible refine' k_app ?h ?z ?k; (case h => (iterate 901 fail)); (case z => (iterate 904 fail)))
  | (with_reducible refine' k_gTup ?h ?z ?k; (case h => (iterate 902 fail)); (case z => exact rfl))
  | (with_reducible refine' k_I ?c ?k; (case c => first | decide | exact ⟨by decide, by decide⟩))
  | (with_reducible refine' k_ixL ?h ?a ?k; (case h => (iterate 902 fail)); (case a => exact rfl))
  | (with_reducible refine' k_ixT ?h ?a ?k; (case h => (iterate 902 fail)); (case a => exact rfl))
  | (with_reducible refine' k_lenL ?h ?k; (case h => (iterate 902 fail)))
  | (with_reducible refine' k_lenT ?h ?k; (case h => (iterate 902 fail)))
  | (with_reducible refine' k_lenS ?h ?k; (case h => (iterate 905 fail)))
  | (with_reducible refine' k_isi (b := true) ?t ?e ?k; (case t => (iterate 906 fail)); (case e => decide +kernel))
  | (with_reducible refine' k_isi (b := false) ?t ?e ?k; (case t => (iterate 906 fail)); (case e => decide +kernel)))
local macro_rules | `(tactic| iterate 908 fail) => `(tactic| first | with_reducible refine Stp.h ?_ | (iterate 907 fail))
local macro_rules | `(tactic| iterate 909 fail) => `(tactic| ((try dsimp only); repeat (iterate 908 fail)))
local macro_rules | `(tactic| iterate 910 fail) => `(tactic| (simp only [start_cons, start_nil, start_end]; repeat (iterate 908 fail)))

section
variable {P : Program} {w : World} {K : PySem.W.Frag} {mg : Str → Option Value} {base : Heap}
def RngBad (R G : Addr) (x : V) (H : Hp) (E : XK) : Prop :=
  (NoR H x ∧ ∀ H', Ex H H' → E (.ref R) none H') ∨ ∃ l : List Nat, x = .str (T l) ∧ UD l ∧ l.length ≤ 8000000 ∧ NoG l ∧ ∀ H', Ex H H' → E (.ref G) none H'
theorem rng_bad {R G : Addr} {x : V} {H : Hp} {E : XK} {Q : VK} (h : RngBad R G x H E) : sp_asked_range R G [x] H Q E := by
  rcases h with ⟨n, q⟩ | ⟨l, hx, hl, hz, hc, q⟩
  · exact ⟨_, rfl, .inl ⟨n, q⟩⟩
  · exact ⟨_, rfl, .inr ⟨l, hx, hl, hz, .inl ⟨hc, q⟩⟩⟩
theorem rg_ud : Rg [117, 100] := ⟨by unfold UD; decide, by
  intro i hi
  have : i = 0 ∨ i = 1 ∨ i = 2 := by simp at hi; omega
  rcases this with rfl | rfl | rfl <;> decide, by decide⟩
def sp_meeting (R G : Addr) : Sp := fun vs H Q E => ∃ x, vs = [x] ∧ (RngBad R G x H E ∨ (x = .str (T [117, 100]) ∧ ∀ H' r ms, Ex H H' → H' r = some (.lst (mvs ms)) → ms ≠ [] → Q (.ref r) H'))
abbrev s_meeting : Stmt := topS 45
theorem sc_meeting : FnScope ["ridge", "told", "top"] ["ridge"] (defScope s_meeting) := ⟨rfl, rfl, rfl, by decide +kernel, rfl, by decide +kernel, by decide +kernel⟩
theorem ok_meeting {f : Addr} {fd : FuncData} (F : Fun K "meeting" "meeting" s_meeting f fd) {R G : Addr} (c_asked_range : Cal P w K mg base (L2N.CX P w) 2 "asked_range" (sp_asked_range R G)) (c_heights_of : Cal P w K mg base CX0 1 "heights_of" sp_heights_of) (c_from_end : Cal P w K mg base CX0 2 "from_end" sp_from_end) (c_both : Cal P w K mg base CX0 5 "both" sp_both) (m_max : mg "max" = none) : FnOk P w K mg base (L2N.CX P w) 6 f fd ["ridge"] (sp_meeting R G) := by
  refine Fun.okN F sc_meeting (fun vs H Q E h => ?_) (fun cdv A outer s H vs Q E hr h => ?_)
  · obtain ⟨l, rfl, _⟩ := h
    rfl
  have hu64 := hr.units
  obtain ⟨x, rfl, h⟩ := h
  refine ⟨_, (pss_cons (ps_expr (pe_cX c_asked_range hr (by decide) (by rfl) (pex (L2N.takes_of rfl rfl rfl rfl)) (pa_cons (pv 0) pa_nil)))
    (pss_cons (ps_set (i := 1) sc_meeting.nd rfl (.inl rfl) (pe_c0 c_heights_of hr (by decide) (by rfl) (pa_cons (pv 0) pa_nil)))
    (pss_cons (ps_set (i := 2) sc_meeting.nd rfl (.inl rfl) (bmK (K := K) rfl (pe_bm PySem.F.plainAttrs_list PySem.F.slot_list_index PySem.F.type_list_index (mt_indexK (K := K) rfl) (pv 1) (pa_cons (pe_callB (cr_maxK (K := K) rfl rfl) (by rfl) m_max (by rfl) (pa_cons (pv 1) pa_nil)) pa_nil))))
    (pss_one (ps_ret (pe_c0 c_both hr (by decide) (by rfl) (pa_cons (pe_slice C8.sl_txt (pv 0) po_none (po_some (pv 2))) (pa_cons (pe_c0 c_from_end hr (by decide) (by rfl) (pa_cons (pe_slice C8.sl_txt (pv 0) (po_some (pv 2)) po_none) pa_nil)) pa_nil)))))))), ?_⟩
  (iterate 910 fail)
  rcases h with b | ⟨rfl, q⟩
  · exact rng_bad b
  have hg := rg_ud
  refine ⟨_, rfl, .inr ⟨[117, 100], rfl, hg.ud, by decide, .inr ⟨hg.low, hg.zero, fun H1 e1 => ?_⟩⟩⟩
  (iterate 909 fail)
  refine ⟨[117, 100], rfl, by decide, fun H2 p e2 n2 h2 => ?_⟩
  (iterate 909 fail)
  refine k_max (SqL.of h2) (by decide) fun M hM hmax => ?_
  (iterate 909 fail)
  refine k_index (SqL.of h2) hM fun k hk => ?_
  obtain ⟨hk1, hk2⟩ := hts_at.mp hk
  have pk : Pk [117, 100] k M := ⟨hk1, hk2.symm, fun i hi => hmax _ (List.mem_of_getElem? (hts_at.mpr ⟨hi, rfl⟩))⟩
  have m1 := hmax 1 (by decide)
  have k1 : k = 1 := by
    have : k = 0 ∨ k = 1 ∨ k = 2 := by simp at hk1; omega
    rcases this with rfl | rfl | rfl
    · have : ht [117, 100] 0 = 0 := by decide
      omega
    · rfl
    · have : ht [117, 100] 2 = 0 := by decide
      omega
  subst k1
  (iterate 909 fail)
  refine ⟨T [117, 100], rfl, by (iterate 905 fail), ?_⟩
  (iterate 909 fail)
  refine ⟨T [117, 100], rfl, by (iterate 905 fail), ?_⟩
  (iterate 909 fail)
  have s1 : Txt.slice (T [117, 100]) none (some ((1 : Nat) : Int)) = T ([117, 100].take 1) := SX.slice_to (a := [117, 100]) (by decide)
  have s2 : Txt.slice (T [117, 100]) (some ((1 : Nat) : Int)) none = T ([117, 100].drop 1) := SX.slice_from (a := [117, 100]) (by decide)
  rw [s1, s2]
  refine ⟨[117, 100].drop 1, rfl, by decide, fun H3 e3 => ?_⟩
  (iterate 909 fail)
  refine ⟨[117, 100].take 1, ([117, 100].drop 1).reverse.map flipc, M, 100, rfl, hg.one pk, hg.two pk, fun L hd hv => ?_, by decide, by decide, by decide, fun H4 r ms e4 n4 h4 hw hl => ?_⟩
  · refine Nat.le_trans (few hd hv) (show _ ≤ 10 * 10 from Nat.mul_le_mul ?_ ?_)
    · rw [hts_length]; decide
    · rw [hts_length]; decide
  · refine q _ _ ms (((e1.trans e2).trans e3).trans e4) h4 fun z => ?_
    subst z
    have hw : some ((0 : Nat), (0 : Nat)) = some (_, _) := hw
    cases hw
/-- changed(ridge), refused -/
def sp_changed (R G : Addr) : Sp := fun vs H Q E => ∃ x, vs = [x] ∧ RngBad R G x H E
abbrev s_changed : Stmt := topS 46
theorem sc_changed : FnScope ["ridge", "there", "move"] ["ridge"] (defScope s_changed) := ⟨rfl, rfl, rfl, by decide +kernel, rfl, by decide +kernel, by decide +kernel⟩
theorem ok_changed {f : Addr} {fd : FuncData} (F : Fun K "changed" "changed" s_changed f fd) {R G : Addr} (c_meeting : Cal P w K mg base (L2N.CX P w) 6 "meeting" (sp_meeting R G)) : FnOk P w K mg base (L2N.CX P w) 7 f fd ["ridge"] (sp_changed R G) := by
  refine Fun.okN F sc_changed (fun vs H Q E h => ?_) (fun cdv A outer s H vs Q E hr h => ?_)
  · obtain ⟨l, rfl, _⟩ := h
    rfl
  obtain ⟨x, rfl, b⟩ := h
  refine ⟨_, (pss_cons (ps_set (i := 1) sc_changed.nd rfl (.inl rfl) (pe_cX c_meeting hr (by decide) (by rfl) (pex (L2N.takes_of rfl rfl rfl rfl)) (pa_cons (pv 0) pa_nil)))
    (pss_one ps_never)), ?_⟩
  (iterate 910 fail)
  exact ⟨_, rfl, .inl b⟩
end
end U

set_option Elab.async false
set_option linter.all false
set_option maxRecDepth 100000
set_option maxHeartbeats 4000000
namespace U
open PySem PySem.Spec PyProof.Rows L2
local macro_rules | `(tactic| iterate 901 fail) => `(tactic| first
  | with_reducible assumption
  | with_reducible exact upd_same
  | (with_reducible refine' Ex.use (Ex.new ?n) ?h; (case n => with_reducible assumption); (case h => (iterate 901 fail)))
  | (with_reducible refine' Ex.use ?n ?h; (case n => with_reducible assumption); (case h => (iterate 901 fail))))
local macro_rules | `(tactic| iterate 902 fail) => `(tactic| first
  | with_reducible assumption
  | (with_reducible refine' SqL.of ?h; (case h => (iterate 901 fail)))
  | (with_reducible refine' SqT.of ?h; (case h => (iterate 901 fail)))
  | (iterate 912 fail))
local macro_rules | `(tactic| iterate 912 fail) => `(tactic| first
  | with_reducible assumption
  | (with_reducible refine' Ex.sql (Ex.new ?n) ?h; (case n => with_reducible assumption); (case h => (iterate 912 fail)))
  | (with_reducible refine' Ex.sqt (Ex.new ?n) ?h; (case n => with_reducible assumption); (case h => (iterate 912 fail)))
  | (with_reducible refine' Ex.sql ?n ?h; (case n => with_reducible assumption); (case h => (iterate 912 fail)))
  | (with_reducible refine' Ex.sqt ?n ?h; (case n => with_reducible assumption); (case h => (iterate 912 fail))))
local macro_rules | `(tactic| iterate 903 fail) => `(tactic| first
  | with_reducible assumption
  | with_reducible exact Ex.refl _
  | (with_reducible refine' Ex.mk ?e ?n; (case n => with_reducible assumption); (case e => (iterate 903 fail)))
  | (with_reducible refine' Ex.trans ?e ?n; (case n => with_reducible assumption); (case e => (iterate 903 fail))))
local macro_rules | `(tactic| iterate 904 fail) => `(tactic| first
  | with_reducible assumption
  | (apply line_le; simp only [List.length_cons, List.length_nil, List.length_append, List.length_map, List.length_range]; omega)
  | (apply line_lt; simp only [List.length_cons, List.length_nil, List.length_append, List.length_map, List.length_range]; omega))
local macro_rules | `(tactic| iterate 905 fail) => `(tactic| (apply line_le; first | (show List.length _ ≤ _; omega) | (simp only [U.T, PySem.Str.length, List.size_toArray, List.length_cons, List.length_nil, List.length_append, List.length_map, List.length_reverse]; omega)))
local macro_rules | `(tactic| iterate 906 fail) => `(tactic| first
  | with_reducible exact TyX.base (TyOf.str _) | with_reducible exact TyX.base (TyOf.int _) | with_reducible exact TyX.base (TyOf.bl _) | with_reducible exact TyX.base TyOf.non
  | (with_reducible refine' TyX.base (TyOf.lst ?h); (case h => (iterate 901 fail))) | (with_reducible refine' TyX.base (TyOf.tup ?h); (case h => (iterate 901 fail))) | (with_reducible refine' TyX.base (TyOf.dK ?h); (case h => (iterate 901 fail))))
local macro_rules | `(tactic| iterate 907 fail) => `(tactic| first
  | (with_reducible refine' k_tyL ?h ?k; (case h => (iterate 901 fail)))
  | (with_reducible refine' k_app ?h ?z ?k; (case h => (iterate 901 fail)); (case z => (iterate 904 fail)))
  | (with_reducible refine' k_gTup ?h ?z ?k; (case h => (iterate 902 fail)); (case z => exact rfl))
  | (with_reducible refine' k_I ?c ?k; (case c => first | decide | exact ⟨by decide, by decide⟩))
  | (with_reducible refine' k_ixL ?h ?a ?k; (case h => (iterate 902 fail)); (case a => exact rfl))
  | (with_reducible refine' k_ixT ?h ?a ?k; (case h => (iterate 902 fail)); (case a => exact rfl))
  | (with_reducible refine' k_lenL ?h ?k; (case h => (iterate 902 fail)))
  | (with_reducible refine' k_lenT ?h ?k; (case h => (iterate 902 fail)))
  | (with_reducible refine' k_lenS ?h ?k; (case h => (iterate 905 fail)))
  | (with_reducible refine' k_isi (b := true) ?t ?e ?k; (case t => (iterate 906 fail)); (case e => decide +kernel))
  | (with_reducible refine' k_isi (b := false) ?t ?e ?k; (case t => (iterate 906 fail)); (case e => decide +kernel)))
local macro_rules | `(tactic| iterate 908 fail) => `(tactic| first | with_reducible refine Stp.h ?_ | (iterate 907 fail))
local macro_rules | `(tactic| iterate 909 fail) => `(tactic| ((try dsimp only); repeat (iterate 908 fail)))
local macro_rules | `(tactic| iterate 910 fail) => `(tactic| (simp only [start_cons, start_nil, start_end]; repeat (iterate 908 fail)))

section
variable {P : Program} {w : World} {K : PySem.W.Frag} {mg : Str → Option Value} {base : Heap}
instance i_callX {l : List (Nat × Addr × Sp)} {E : XK} {tf : L2.TE} {t : TA} {σ : L2.St} {H : Hp} {Q : VK} : Stp (tCallX l E tf t σ H Q) (tf σ H fun v H1 => ∃ p ∈ l, v = .ref p.2.1 ∧ t σ H1 fun vs H2 => p.2.2 vs H2 Q E) := ⟨fun k => k⟩
/-- an element of a list of climbs: some small data -/
def HasD (K : PySem.W.Frag) (H : Hp) (v : V) : Prop := ∃ d, Sm d ∧ ∀ H', Ex H H' → Dp K H' v d
theorem HasD.ex {H H1 : Hp} {v : V} (h : HasD K H v) (e : Ex H H1) : HasD K H1 v := by
  obtain ⟨d, s, h⟩ := h
  exact ⟨d, s, fun H' e' => h _ (e.trans e')⟩
theorem hasD_all {H : Hp} : ∀ {xs : List V}, (∀ x ∈ xs, HasD K H x) → ∃ ds : List PyData, (∀ H', Ex H H' → DpAll K H' xs ds) ∧ ∀ d ∈ ds, Sm d
  | [], _ => ⟨[], fun _ _ => .nil, fun d hd => by cases hd⟩
  | x :: r, h => by
    obtain ⟨ds, h1, h2⟩ := hasD_all (xs := r) fun y hy => h y (List.mem_cons_of_mem _ hy)
    obtain ⟨d, s, h3⟩ := h x List.mem_cons_self
    exact ⟨d :: ds, fun H' e => .cons (h3 H' e) (h1 H' e), fun y hy => by
      rcases List.mem_cons.mp hy with e | e
      · rw [e]; exact s
      · exact h2 y e⟩
theorem hasD_str {H : Hp} {l : List Nat} (h : Okc l) : HasD K H (.str (T l)) := ⟨.str (T l), ⟨by have h : PyData.strOk (T l) = true := h; simp [PyData.canLay0, h], by simp [PyData.depth]⟩, fun _ _ => .str _⟩
theorem hasD_non {H : Hp} : HasD K H .non := ⟨.none, ⟨rfl, by simp [PyData.depth]⟩, fun _ _ => .non⟩
theorem hasD_int {H : Hp} (i : Int) : HasD K H (.int i) := ⟨.int i, ⟨rfl, by simp [PyData.depth]⟩, fun _ _ => .int _⟩
theorem hasD_l1 {H : Hp} {a : Addr} {l : List Nat} (h : H a = some (.lst [.str (T l)])) (o : Okc l) : HasD K H (.ref a) :=
  ⟨.list [.str (T l)], ⟨by have o : PyData.strOk (T l) = true := o; simp [PyData.canLay0, PyData.canLayAll0, o], by simp [PyData.depth, PyData.depthAll]⟩, fun H' e => .lst (SqL.of (e.use h)) (.cons (.str _) .nil)⟩
theorem hasD_t2 {H : Hp} {a : Addr} {l m : List Nat} (h : H a = some (.tup [.str (T l), .str (T m)])) (o : Okc l) (o' : Okc m) : HasD K H (.ref a) :=
  ⟨.tuple [.str (T l), .str (T m)], ⟨by have o : PyData.strOk (T l) = true := o; have o' : PyData.strOk (T m) = true := o'; simp [PyData.canLay0, PyData.canLayAll0, o, o'], by simp [PyData.depth, PyData.depthAll]⟩, fun H' e => .tup (SqT.of (e.use h)) (.cons (.str _) (.cons (.str _) .nil))⟩
theorem ofT_u : Str.ofString "u" = T [117] := by decide +kernel
theorem ofT_d : Str.ofString "d" = T [100] := by decide +kernel
theorem ofT_m : Str.ofString "-" = T [45] := by decide +kernel
theorem rep_ud (n : Nat) : ({ cps := (List.replicate n (Str.ofString "ud").cps.toList).flatten.toArray } : Str) = T (List.replicate n [117, 100]).flatten := by rw [ofs_ud]
theorem rep_u (n : Nat) : ({ cps := (List.replicate n (Str.ofString "u").cps.toList).flatten.toArray } : Str) = T (List.replicate n 117) := by
  rw [ofT_u]
  have : (List.replicate n [117]).flatten = List.replicate n 117 := by
    induction n with
    | zero => rfl
    | succ n ih => rw [List.replicate_succ, List.flatten_cons, ih, List.replicate_succ]; rfl
  show T (List.replicate n [117]).flatten = _
  rw [this]
theorem fl_len (n : Nat) : (List.replicate n [117, 100]).flatten.length = 2 * n := by
  induction n with
  | zero => rfl
  | succ n ih => rw [List.replicate_succ, List.flatten_cons, List.length_append, ih]; simp; omega
theorem fl_mem {n c : Nat} (h : c ∈ (List.replicate n [117, 100]).flatten) : c = 117 ∨ c = 100 := by
  obtain ⟨l, hl, hc⟩ := List.mem_flatten.mp h
  rw [List.eq_of_mem_replicate hl] at hc
  simpa using hc
/-- what stands in the list of the ridges that are none -/
def BadR (K : PySem.W.Frag) (H : Hp) (v : V) : Prop := NoR H v ∧ HasD K H v
theorem badT {K : PySem.W.Frag} {H : Hp} {l : List Nat} {c : Nat} (hc : c ∈ l) (h : c ≠ 117 ∧ c ≠ 100) (z : l.length ≤ 100) (o : ∀ c ∈ l, c < 128) : BadR K H (.str (T l)) := ⟨.txt (not_ud hc h) (by omega), hasD_str (okc_of o)⟩
theorem BadR.ex {H H1 : Hp} {v : V} (h : BadR K H v) (e : Ex H H1) : BadR K H1 v := ⟨h.1.ex e, h.2.ex e⟩
/-- steps between the foot and t -/
structure Bd (cs : List Nat) (h t : Int) : Prop where
  ud : UD cs
  rng : ∀ j, j ≤ cs.length → 0 ≤ ht cs j ∧ ht cs j ≤ t
  at_ : hAt cs = h
theorem Bd.snoc {cs : List Nat} {h t : Int} (u : Bd cs h t) {c : Nat} (hc : c = 117 ∨ c = 100) (hp : 0 ≤ h + sgn c) (hq : h + sgn c ≤ t) : Bd (cs ++ [c]) (h + sgn c) t := by
  have e : hAt (cs ++ [c]) = h + sgn c := by
    rw [hAt_append, u.at_]
    unfold hAt
    simp
  refine ⟨fun d hd => ?_, fun j hj => ?_, e⟩
  · rcases List.mem_append.mp hd with hd | hd
    · exact u.ud d hd
    · rw [List.mem_singleton.mp hd]; exact hc
  · rw [List.length_append, List.length_singleton] at hj
    by_cases hl : j ≤ cs.length
    · have := u.rng j hl
      unfold ht at this ⊢
      rwa [List.take_append_of_le_length hl]
    · have : j = (cs ++ [c]).length := by rw [List.length_append, List.length_singleton]; omega
      rw [this, ht_full, e]
      exact ⟨hp, hq⟩
theorem Bd.raise : ∀ (n : Nat) {cs : List Nat} {h t : Int}, 0 ≤ h → h + n = t → Bd cs h t → Bd (cs ++ List.replicate n 117) t t
  | 0, cs, h, t, _, e, u => by
    rw [List.replicate_zero, List.append_nil]
    have : h = t := by omega
    rw [← this] at u ⊢
    exact u
  | n + 1, cs, h, t, h0, e, u => by
    have s : sgn 117 = 1 := by decide
    have := u.snoc (c := 117) (.inl rfl) (by rw [s]; omega) (by rw [s]; omega)
    rw [s] at this
    have := Bd.raise n (by omega) (by omega) this
    rwa [List.append_assoc] at this
theorem Bd.cl {l : List Nat} {t : Int} (u : Bd l t t) : Cl (hts l) t := by
  have := cl_take (l := l) (k := l.length) (Nat.le_refl _) (by rw [ht_full]; exact u.at_) u.rng
  rwa [List.take_length] at this
theorem bd_nil {t : Int} (h : 0 ≤ t) : Bd [] (0 : Nat) t where
  ud := fun c hc => absurd hc (by simp)
  rng := fun j hj => by
    have h2 : j = 0 := by simpa using hj
    rw [h2]
    exact ⟨Int.le_refl _, h⟩
  at_ := rfl

theorem bd_up (n : Nat) : Bd (List.replicate n 117) n n := by
  have := Bd.raise n (cs := []) (h := (0 : Nat)) (t := n) (by omega) (by omega) (bd_nil (by omega))
  rwa [List.nil_append] at this
theorem cl_ups (n : Nat) : Cl (hts (List.replicate n 117)) n := (bd_up n).cl
theorem ud_ups (n : Nat) : UD (List.replicate n 117) := fun c hc => .inl (List.eq_of_mem_replicate hc)
/-- one of two is bad, the other a step up -/
def PairBad (v x y : V) : Prop := (x = v ∧ y = .str (T [117])) ∨ (x = .str (T [117]) ∧ y = v)
theorem PairBad.rd {v x y a b : V} {R B : Addr} {H : Hp} {E : XK} (h : PairBad v x y) (n : NoR H v) (q : ∀ H', Ex H H' → E (.ref R) none H') : RdBad R B x y a b H E := by
  rcases h with ⟨rfl, rfl⟩ | ⟨rfl, rfl⟩
  · exact .inl ⟨n, q⟩
  · exact .inr ⟨[117], rfl, ud_ups 1, by decide, .inl ⟨n, q⟩⟩
theorem PairBad.tog {v x y : V} {R C U : Addr} {H : Hp} {E : XK} {Q : VK} (h : PairBad v x y) (b : TopBad R C v H E) : sp_together R C U [x, y] H Q E := by
  rcases h with ⟨rfl, rfl⟩ | ⟨rfl, rfl⟩
  · exact ⟨_, _, rfl, .inl b⟩
  · exact ⟨_, _, rfl, .inr ⟨[117], 1, rfl, ud_ups 1, by decide, cl_ups 1, .inl b⟩⟩
theorem uni_of {R C U : Addr} {H : Hp} {E : XK} {Q : VK} {a : Addr} {xs : List V} (h : H a = some (.lst xs)) (hz : xs.length ≤ 100) (hne : xs ≠ []) (hd : ∀ x ∈ xs, HasD K H x) (r : Run R C U xs H E) : sp_in_unison K R C U [.ref a] H Q E :=
  ⟨_, rfl, .inr ⟨a, xs, rfl, h, hz, .inr ⟨hne, hasD_all hd, r⟩⟩⟩
theorem run_0 {R C U : Addr} {H : Hp} {E : XK} {v : V} {r : List V} (b : TopBad R C v H E) : Run R C U (v :: r) H E := ⟨0, fun _ => 0, Nat.zero_le _, fun i hi => absurd hi (Nat.not_lt_zero i), .inl ⟨v, rfl, b⟩⟩
theorem run_1 {R C U : Addr} {H : Hp} {E : XK} {v : V} {r : List V} (b : TopBad R C v H E) : Run R C U (.str (T [117]) :: v :: r) H E := ⟨1, fun _ => 1, by simp, fun i hi => by
  obtain rfl : i = 0 := by omega
  exact ⟨_, rfl, ud_ups 1, by decide, cl_ups 1⟩, .inl ⟨v, rfl, b⟩⟩
theorem run_2 {R C U : Addr} {H : Hp} {E : XK} {v : V} {r : List V} (b : TopBad R C v H E) : Run R C U (.str (T [117]) :: .str (T [117, 117]) :: v :: r) H E := ⟨2, fun i => i + 1, by simp, fun i hi => by
  have : i = 0 ∨ i = 1 := by omega
  rcases this with rfl | rfl
  · exact ⟨_, rfl, ud_ups 1, by decide, cl_ups 1⟩
  · exact ⟨_, rfl, ud_ups 2, by decide, cl_ups 2⟩, .inl ⟨v, rfl, b⟩⟩
theorem ofT_uu : Str.ofString "uu" = T [117, 117] := by decide +kernel
def sp_L_ridge (R : Addr) : Sp := fun vs H Q E => ∃ wh mo : Int, vs = [.int wh, .int mo] ∧ 0 ≤ wh ∧ 0 ≤ mo ∧ ∀ H', Ex H H' → E (.ref R) none H'
abbrev s_L_ridge_asked : Stmt := topS 48
theorem sc_L_ridge_asked : FnScope ["_law_which", "_law_more", "_law_bad", "_law_door", "_law_pair"] ["_law_which", "_law_more"] (defScope s_L_ridge_asked) := ⟨rfl, rfl, rfl, by decide +kernel, rfl, by decide +kernel, by decide +kernel⟩
theorem ok_L_ridge_asked {f : Addr} {fd : FuncData} (F : Fun K "_law_ridge_asked" "_law_ridge_asked" s_L_ridge_asked f fd) {R C G B U : Addr} (c_heights : Cal P w K mg base (L2N.CX P w) 2 "heights" (sp_heights R)) (c_upside_down : Cal P w K mg base (L2N.CX P w) 2 "upside_down" (sp_turn R)) (c_about : Cal P w K mg base (L2N.CX P w) 3 "about" (sp_turn R)) (c_meeting : Cal P w K mg base (L2N.CX P w) 6 "meeting" (sp_meeting R G)) (c_changed : Cal P w K mg base (L2N.CX P w) 7 "changed" (sp_changed R G))
    (c_moves_at : Cal P w K mg base (L2N.CX P w) 4 "moves_at" (sp_moves_at R B)) (c_reached : Cal P w K mg base (L2N.CX P w) 5 "reached" (sp_reached R B)) (c_together : Cal P w K mg base (L2N.CX P w) 6 "together" (sp_together R C U)) (c_in_unison : Cal P w K mg base (L2N.CX P w) 6 "in_unison" (sp_in_unison K R C U)) : FnOk P w K mg base (L2N.CX P w) 8 f fd ["_law_which", "_law_more"] (sp_L_ridge R) := by
  refine Fun.okN F sc_L_ridge_asked (fun vs H Q E h => ?_) (fun cdv A outer s H vs Q E hr h => ?_)
  · obtain ⟨_, _, rfl, _⟩ := h
    rfl
  have hu64 := hr.units
  obtain ⟨fh, g_heights, v_heights⟩ := c_heights.at_
  obtain ⟨fu, g_upside_down, v_upside_down⟩ := c_upside_down.at_
  obtain ⟨fa, g_about, v_about⟩ := c_about.at_
  obtain ⟨fm, g_meeting, v_meeting⟩ := c_meeting.at_
  obtain ⟨fc, g_changed, v_changed⟩ := c_changed.at_
  obtain ⟨fv, g_moves_at, v_moves_at⟩ := c_moves_at.at_
  obtain ⟨fr, g_reached, v_reached⟩ := c_reached.at_
  have lX_heights : ∀ p ∈ ([(2, fh, sp_heights R), (2, fu, sp_turn R), (3, fa, sp_turn R), (6, fm, sp_meeting R G), (7, fc, sp_changed R G)] : List (Nat × Addr × Sp)), p.1 ≤ 7 ∧ CalV P w K mg base (L2N.CX P w) p.1 p.2.1 p.2.2 := by
    intro p hp
    simp only [List.mem_cons, List.not_mem_nil, or_false] at hp
    rcases hp with rfl | rfl | rfl | rfl | rfl
    · exact ⟨Nat.le_of_ble_eq_true rfl, v_heights⟩
    · exact ⟨Nat.le_of_ble_eq_true rfl, v_upside_down⟩
    · exact ⟨Nat.le_of_ble_eq_true rfl, v_about⟩
    · exact ⟨Nat.le_of_ble_eq_true rfl, v_meeting⟩
    · exact ⟨Nat.le_of_ble_eq_true rfl, v_changed⟩
  have lX_moves_at : ∀ p ∈ ([(4, fv, sp_moves_at R B), (5, fr, sp_reached R B)] : List (Nat × Addr × Sp)), p.1 ≤ 7 ∧ CalV P w K mg base (L2N.CX P w) p.1 p.2.1 p.2.2 := by
    intro p hp
    simp only [List.mem_cons, List.not_mem_nil, or_false] at hp
    rcases hp with rfl | rfl
    · exact ⟨Nat.le_of_ble_eq_true rfl, v_moves_at⟩
    · exact ⟨Nat.le_of_ble_eq_true rfl, v_reached⟩
  obtain ⟨wh, mo, rfl, hw, hm, q⟩ := h
  refine ⟨_, (C8.pss_cut (ps_set (i := 2) sc_L_ridge_asked.nd rfl (.inl rfl) (pe_ix (ix_seqK (K := K) rfl) (pe_lst (pa_cons pe_non (pa_cons pe_int (pa_cons (pe_lst (pa_cons pe_str pa_nil)) (pa_cons (pe_tup (pa_cons pe_str (pa_cons pe_str pa_nil))) (pa_cons pe_str (pa_cons pe_str (pa_cons pe_str (pa_cons pe_str (pa_cons (pe_op (op_addUK (K := K) rfl) (pe_op op_mulS pe_str (pe_op op_mod (pv 1) pe_int)) pe_str) pa_nil)))))))))) (pe_op op_mod (pv 0) pe_int) (fun _ _ => rfl)))
    (pss_cons (ps_set (i := 3) sc_L_ridge_asked.nd rfl (.inl rfl) (pe_op op_mod (pe_op op_fdiv (pv 0) pe_int) pe_int))
    (pss_cons (ps_if (pt_cmpR op_lt (pv 3) pe_int (nomark _)) (pss_one (ps_ret (pe_callX lX_heights hr (pex (L2N.takes_of rfl rfl rfl rfl)) (pe_ix (ix_seqK (K := K) rfl) (pe_lst (pa_cons (pe_gv (by rfl) g_heights) (pa_cons (pe_gv (by rfl) g_upside_down) (pa_cons (pe_gv (by rfl) g_about) (pa_cons (pe_gv (by rfl) g_meeting) (pa_cons (pe_gv (by rfl) g_changed) pa_nil)))))) (pv 3) (fun _ _ => rfl)) (pa_cons (pv 2) pa_nil)))) pss_nil)
    (pss_cons (ps_if (pt_cmpR op_lt (pv 3) pe_int (nomark _)) (pss_cons (ps_set (i := 4) sc_L_ridge_asked.nd rfl (.inl rfl) (pe_ix (ix_seqK (K := K) rfl) (pe_lst (pa_cons (pe_lst (pa_cons (pv 2) (pa_cons pe_str pa_nil))) (pa_cons (pe_lst (pa_cons pe_str (pa_cons (pv 2) pa_nil))) pa_nil))) (pe_op op_mod (pv 3) pe_int) (fun _ _ => rfl)))
    (pss_one (ps_ret (pe_callX lX_moves_at hr (pex (L2N.takes_of rfl rfl rfl rfl)) (pe_ix (ix_seqK (K := K) rfl) (pe_lst (pa_cons (pe_gv (by rfl) g_moves_at) (pa_cons (pe_gv (by rfl) g_reached) pa_nil))) (pe_op op_fdiv (pv 3) pe_int) (fun _ _ => rfl)) (pa_cons (pe_ix (ix_seqK (K := K) rfl) (pv 4) pe_int (fun _ _ => rfl)) (pa_cons (pe_ix (ix_seqK (K := K) rfl) (pv 4) pe_int (fun _ _ => rfl)) (pa_cons pe_non (pa_cons pe_non pa_nil)))))))) pss_nil)
    (pss_cons (ps_set (i := 4) sc_L_ridge_asked.nd rfl (.inl rfl) (pe_ix (ix_seqK (K := K) rfl) (pe_lst (pa_cons (pe_lst (pa_cons (pv 2) (pa_cons pe_str pa_nil))) (pa_cons (pe_lst (pa_cons pe_str (pa_cons (pv 2) pa_nil))) pa_nil))) (pe_op op_mod (pv 3) pe_int) (fun _ _ => rfl)))
    (pss_cons (ps_if (pt_cmpR op_lt (pv 3) pe_int (nomark _)) (pss_one (ps_ret (pe_cX c_together hr (by decide) (by rfl) (pex (L2N.takes_of rfl rfl rfl rfl)) (pa_cons (pe_ix (ix_seqK (K := K) rfl) (pv 4) pe_int (fun _ _ => rfl)) (pa_cons (pe_ix (ix_seqK (K := K) rfl) (pv 4) pe_int (fun _ _ => rfl)) pa_nil))))) pss_nil)
    (pss_one (ps_ret (pe_ifExp (pt_cmpR (op_eqUK (K := K) rfl hu64) (pv 3) pe_int (nomark _)) (pe_cX c_in_unison hr (by decide) (by rfl) (pex (L2N.takes_of rfl rfl rfl rfl)) (pa_cons (pe_ix (ix_seqK (K := K) rfl) (pe_lst (pa_cons (pe_lst (pa_cons pe_str (pa_cons (pv 2) (pa_cons pe_str pa_nil)))) (pa_cons (pe_lst (pa_cons pe_str (pa_cons pe_str (pa_cons (pv 2) pa_nil)))) pa_nil))) (pe_op op_mod (pv 1) pe_int) (fun _ _ => rfl)) pa_nil)) (pe_cX c_in_unison hr (by decide) (by rfl) (pex (L2N.takes_of rfl rfl rfl rfl)) (pa_cons (pe_lst (pa_cons (pv 2) pa_nil)) pa_nil))))))))))), ?_⟩
  (iterate 910 fail)
  refine ⟨fun σ' H' => ∃ v, σ' = [some (.int wh), some (.int mo), some v, none, none] ∧ BadR K H' v ∧ Ex H H', ?_, ?_⟩
  · (iterate 909 fail)
    refine ⟨by (iterate 904 fail), fun p1 n1 => ?_⟩
    (iterate 909 fail)
    refine ⟨by (iterate 904 fail), fun p2 n2 => ?_⟩
    (iterate 909 fail)
    have r5 : 0 ≤ mo % 5 ∧ mo % 5 < 5 := by omega
    refine ⟨_, _, rfl, rfl, by omega, by omega, by show 2 * _ ≤ _; omega, ?_⟩
    (iterate 909 fail)
    have ha := rep_ud (mo % 5).toNat
    have hl := fl_len (mo % 5).toNat
    have hmm := @fl_mem (mo % 5).toNat
    generalize (List.replicate (mo % 5).toNat [117, 100]).flatten = zs at ha hl hmm
    rw [ha, ofT_m, ofT_u, ofT_d]
    refine k_addS (by apply line_le; show zs.length + 1 ≤ _; omega) ?_
    rw [T_cat]
    (iterate 909 fail)
    refine ⟨by (iterate 904 fail), fun p3 n3 => ?_⟩
    (iterate 909 fail)
    have l3 : ∀ xs : List V, upd (upd (upd H p1 (.lst [.str (T [117])])) p2 (.tup [.str (T [117]), .str (T [100])])) p3 (.lst xs) p3 = some (.lst xs) := fun _ => upd_same
    have l1 : ∀ xs : List V, upd (upd (upd H p1 (.lst [.str (T [117])])) p2 (.tup [.str (T [117]), .str (T [100])])) p3 (.lst xs) p1 = some (.lst [.str (T [117])]) := fun _ => (Ex.new n3).use ((Ex.new n2).use upd_same)
    have l2 : ∀ xs : List V, upd (upd (upd H p1 (.lst [.str (T [117])])) p2 (.tup [.str (T [117]), .str (T [100])])) p3 (.lst xs) p2 = some (.tup [.str (T [117]), .str (T [100])]) := fun _ => (Ex.new n3).use upd_same
    have ee : ∀ xs : List V, Ex H (upd (upd (upd H p1 (.lst [.str (T [117])])) p2 (.tup [.str (T [117]), .str (T [100])])) p3 (.lst xs)) := fun _ => ((Ex.new n1).mk n2).mk n3
    generalize hxs : ([V.non, V.int 5, V.ref p1, V.ref p2, V.str (Str.ofString "U"), V.str (Str.ofString "u d"), V.str (Str.ofString "ux"), V.str (Str.ofString "u\n"), V.str (T (zs ++ [45]))] : List V) = xs
    have l3 := l3 xs
    have l1 := l1 xs
    have l2 := l2 xs
    have ee := ee xs
    generalize upd (upd (upd H p1 (.lst [.str (T [117])])) p2 (.tup [.str (T [117]), .str (T [100])])) p3 (.lst xs) = H3 at l1 l2 l3 ee ⊢
    have o1 : Okc [117] := okc_of (by decide)
    have o2 : Okc [100] := okc_of (by decide)
    have all : ∀ v ∈ xs, BadR K H3 v := by
      subst hxs
      intro v hv
      simp only [List.mem_cons, List.not_mem_nil, or_false] at hv
      rcases hv with rfl | rfl | rfl | rfl | rfl | rfl | rfl | rfl | rfl
      · exact ⟨.non, hasD_non⟩
      · exact ⟨.int 5, hasD_int 5⟩
      · exact ⟨.lst l1, hasD_l1 l1 o1⟩
      · exact ⟨.tup l2, hasD_t2 l2 o1 o2⟩
      · exact badT (l := [85]) (c := 85) (by decide) (by decide) (by decide) (by decide)
      · exact badT (l := [117, 32, 100]) (c := 32) (by decide) (by decide) (by decide) (by decide)
      · exact badT (l := [117, 120]) (c := 120) (by decide) (by decide) (by decide) (by decide)
      · exact badT (l := [117, 10]) (c := 10) (by decide) (by decide) (by decide) (by decide)
      · refine badT (l := zs ++ [45]) (c := 45) (by simp) (by decide) (by rw [List.length_append]; simp; omega) fun c hc => ?_
        rcases List.mem_append.mp hc with h | h
        · rcases hmm h with e | e <;> omega
        · have : c = 45 := by simpa using h
          omega
    have len : xs.length = 9 := by rw [← hxs]; rfl
    obtain ⟨v, hv, mv⟩ := atI_mem (xs := xs) (i := wh % 9) (by omega) (by rw [len]; omega)
    refine k_ixL (SqL.of l3) hv ?_
    (iterate 909 fail)
    exact ⟨v, rfl, all v mv, ee⟩
  rintro σ' H1 ⟨v, rfl, b1, e1⟩
  (iterate 909 fail)
  refine k_I ⟨by decide, by decide⟩ ?_
  (iterate 909 fail)
  have d0 : 0 ≤ wh / 9 % 13 ∧ wh / 9 % 13 < 13 := by omega
  generalize wh / 9 % 13 = d at d0 ⊢
  have q1 : ∀ {H2 : Hp}, Ex H1 H2 → ∀ H', Ex H2 H' → E (.ref R) none H' := fun e2 H' e3 => q _ ((e1.trans e2).trans e3)
  refine k_if (fun h5 => ?_) (fun h5 => ?_)
  · (iterate 909 fail)
    refine ⟨by (iterate 904 fail), fun p1 n1 => ?_⟩
    (iterate 909 fail)
    obtain ⟨fv', hv, mv⟩ := atI_mem (xs := [.ref fh, .ref fu, .ref fa, .ref fm, .ref fc]) (i := d) (by omega) (by simp; omega)
    refine k_ixL (SqL.of upd_same) hv ?_
    have e2 := Ex.new n1 (o := .lst [.ref fh, .ref fu, .ref fa, .ref fm, .ref fc])
    have b2 := b1.1.ex e2
    simp only [List.mem_cons, List.not_mem_nil, or_false] at mv
    rcases mv with rfl | rfl | rfl | rfl | rfl
    · refine ⟨(2, fh, sp_heights R), by simp, rfl, ?_⟩
      (iterate 909 fail)
      exact ⟨v, rfl, .inl ⟨b2, q1 e2⟩⟩
    · refine ⟨(2, fu, sp_turn R), by simp, rfl, ?_⟩
      (iterate 909 fail)
      exact ⟨v, rfl, .inl ⟨b2, q1 e2⟩⟩
    · refine ⟨(3, fa, sp_turn R), by simp, rfl, ?_⟩
      (iterate 909 fail)
      exact ⟨v, rfl, .inl ⟨b2, q1 e2⟩⟩
    · refine ⟨(6, fm, sp_meeting R G), by simp, rfl, ?_⟩
      (iterate 909 fail)
      exact ⟨v, rfl, .inl (.inl ⟨b2, q1 e2⟩)⟩
    · refine ⟨(7, fc, sp_changed R G), by simp, rfl, ?_⟩
      (iterate 909 fail)
      exact ⟨v, rfl, .inl ⟨b2, q1 e2⟩⟩
  (iterate 909 fail)
  refine k_if (fun h9 => ?_) (fun h9 => ?_)
  · (iterate 909 fail)
    refine ⟨by (iterate 904 fail), fun p1 n1 => ?_⟩
    (iterate 909 fail)
    refine ⟨by (iterate 904 fail), fun p2 n2 => ?_⟩
    (iterate 909 fail)
    refine ⟨by (iterate 904 fail), fun p3 n3 => ?_⟩
    (iterate 909 fail)
    rw [ofT_u] at n2 n3 ⊢
    have l3 : upd (upd (upd H1 p1 (.lst [v, .str (T [117])])) p2 (.lst [.str (T [117]), v])) p3 (.lst [.ref p1, .ref p2]) p3 = some (.lst [.ref p1, .ref p2]) := upd_same
    have l1 : upd (upd (upd H1 p1 (.lst [v, .str (T [117])])) p2 (.lst [.str (T [117]), v])) p3 (.lst [.ref p1, .ref p2]) p1 = some (.lst [v, .str (T [117])]) := (Ex.new n3).use ((Ex.new n2).use upd_same)
    have l2 : upd (upd (upd H1 p1 (.lst [v, .str (T [117])])) p2 (.lst [.str (T [117]), v])) p3 (.lst [.ref p1, .ref p2]) p2 = some (.lst [.str (T [117]), v]) := (Ex.new n3).use upd_same
    have e2 : Ex H1 (upd (upd (upd H1 p1 (.lst [v, .str (T [117])])) p2 (.lst [.str (T [117]), v])) p3 (.lst [.ref p1, .ref p2])) := ((Ex.new n1).mk n2).mk n3
    generalize upd (upd (upd H1 p1 (.lst [v, .str (T [117])])) p2 (.lst [.str (T [117]), v])) p3 (.lst [.ref p1, .ref p2]) = H2 at l1 l2 l3 e2 ⊢
    clear n2 n3
    obtain ⟨pv, hpv, mpv⟩ := atI_mem (xs := [.ref p1, .ref p2]) (i := d % 2) (by omega) (by simp; omega)
    refine k_ixL (SqL.of l3) hpv ?_
    obtain ⟨pp, x, y, rfl, lp, pb⟩ : ∃ pp x y, pv = .ref pp ∧ H2 pp = some (.lst [x, y]) ∧ PairBad v x y := by
      simp only [List.mem_cons, List.not_mem_nil, or_false] at mpv
      rcases mpv with rfl | rfl
      · exact ⟨p1, _, _, rfl, l1, .inl ⟨rfl, rfl⟩⟩
      · exact ⟨p2, _, _, rfl, l2, .inr ⟨rfl, rfl⟩⟩
    clear hpv mpv l1 l2 l3
    (iterate 909 fail)
    refine ⟨by (iterate 904 fail), fun p4 n4 => ?_⟩
    (iterate 909 fail)
    refine k_I ⟨by decide, by decide⟩ ?_
    (iterate 909 fail)
    have e3 := Ex.new n4 (o := .lst [.ref fv, .ref fr])
    have lp3 := e3.use lp
    have b3 := b1.1.ex (e2.trans e3)
    obtain ⟨fv', hv, mv⟩ := atI_mem (xs := [.ref fv, .ref fr]) (i := d / 7) (by omega) (by simp; omega)
    refine k_ixL (SqL.of upd_same) hv ?_
    simp only [List.mem_cons, List.not_mem_nil, or_false] at mv
    rcases mv with rfl | rfl
    · refine ⟨(4, fv, sp_moves_at R B), by simp, rfl, ?_⟩
      (iterate 909 fail)
      refine k_ixL (SqL.of lp3) (atI_nat (j := 0) (by rfl)) ?_
      (iterate 909 fail)
      refine k_ixL (SqL.of lp3) (atI_nat (j := 1) (by rfl)) ?_
      (iterate 909 fail)
      exact ⟨_, _, _, _, rfl, .inl (pb.rd b3 (q1 (e2.trans e3)))⟩
    · refine ⟨(5, fr, sp_reached R B), by simp, rfl, ?_⟩
      (iterate 909 fail)
      refine k_ixL (SqL.of lp3) (atI_nat (j := 0) (by rfl)) ?_
      (iterate 909 fail)
      refine k_ixL (SqL.of lp3) (atI_nat (j := 1) (by rfl)) ?_
      (iterate 909 fail)
      exact ⟨_, _, _, _, rfl, .inl (pb.rd b3 (q1 (e2.trans e3)))⟩
  · (iterate 909 fail)
    refine ⟨by (iterate 904 fail), fun p1 n1 => ?_⟩
    (iterate 909 fail)
    refine ⟨by (iterate 904 fail), fun p2 n2 => ?_⟩
    (iterate 909 fail)
    refine ⟨by (iterate 904 fail), fun p3 n3 => ?_⟩
    (iterate 909 fail)
    rw [ofT_u] at n2 n3 ⊢
    have l3 : upd (upd (upd H1 p1 (.lst [v, .str (T [117])])) p2 (.lst [.str (T [117]), v])) p3 (.lst [.ref p1, .ref p2]) p3 = some (.lst [.ref p1, .ref p2]) := upd_same
    have l1 : upd (upd (upd H1 p1 (.lst [v, .str (T [117])])) p2 (.lst [.str (T [117]), v])) p3 (.lst [.ref p1, .ref p2]) p1 = some (.lst [v, .str (T [117])]) := (Ex.new n3).use ((Ex.new n2).use upd_same)
    have l2 : upd (upd (upd H1 p1 (.lst [v, .str (T [117])])) p2 (.lst [.str (T [117]), v])) p3 (.lst [.ref p1, .ref p2]) p2 = some (.lst [.str (T [117]), v]) := (Ex.new n3).use upd_same
    have e2 : Ex H1 (upd (upd (upd H1 p1 (.lst [v, .str (T [117])])) p2 (.lst [.str (T [117]), v])) p3 (.lst [.ref p1, .ref p2])) := ((Ex.new n1).mk n2).mk n3
    generalize upd (upd (upd H1 p1 (.lst [v, .str (T [117])])) p2 (.lst [.str (T [117]), v])) p3 (.lst [.ref p1, .ref p2]) = H2 at l1 l2 l3 e2 ⊢
    clear n2 n3
    obtain ⟨pv, hpv, mpv⟩ := atI_mem (xs := [.ref p1, .ref p2]) (i := d % 2) (by omega) (by simp; omega)
    refine k_ixL (SqL.of l3) hpv ?_
    obtain ⟨pp, x, y, rfl, lp, pb⟩ : ∃ pp x y, pv = .ref pp ∧ H2 pp = some (.lst [x, y]) ∧ PairBad v x y := by
      simp only [List.mem_cons, List.not_mem_nil, or_false] at mpv
      rcases mpv with rfl | rfl
      · exact ⟨p1, _, _, rfl, l1, .inl ⟨rfl, rfl⟩⟩
      · exact ⟨p2, _, _, rfl, l2, .inr ⟨rfl, rfl⟩⟩
    clear hpv mpv l1 l2 l3
    (iterate 909 fail)
    have b2 : TopBad R C v H2 E := .inl ⟨b1.1.ex e2, q1 e2⟩
    refine k_if (fun h11 => ?_) (fun h11 => ?_)
    · (iterate 909 fail)
      refine k_ixL (SqL.of lp) (atI_nat (j := 0) (by rfl)) ?_
      (iterate 909 fail)
      refine k_ixL (SqL.of lp) (atI_nat (j := 1) (by rfl)) ?_
      (iterate 909 fail)
      exact pb.tog b2
    (iterate 909 fail)
    refine k_if (fun _ => ?_) (fun _ => ?_)
    · (iterate 909 fail)
      rw [ofT_uu]
      refine ⟨by (iterate 904 fail), fun p4 n4 => ?_⟩
      (iterate 909 fail)
      refine ⟨by (iterate 904 fail), fun p5 n5 => ?_⟩
      (iterate 909 fail)
      refine ⟨by (iterate 904 fail), fun p6 n6 => ?_⟩
      (iterate 909 fail)
      have l6 : upd (upd (upd H2 p4 (.lst [.str (T [117]), v, .str (T [117, 117])])) p5 (.lst [.str (T [117]), .str (T [117, 117]), v])) p6 (.lst [.ref p4, .ref p5]) p6 = some (.lst [.ref p4, .ref p5]) := upd_same
      have l4 : upd (upd (upd H2 p4 (.lst [.str (T [117]), v, .str (T [117, 117])])) p5 (.lst [.str (T [117]), .str (T [117, 117]), v])) p6 (.lst [.ref p4, .ref p5]) p4 = some (.lst [.str (T [117]), v, .str (T [117, 117])]) := (Ex.new n6).use ((Ex.new n5).use upd_same)
      have l5 : upd (upd (upd H2 p4 (.lst [.str (T [117]), v, .str (T [117, 117])])) p5 (.lst [.str (T [117]), .str (T [117, 117]), v])) p6 (.lst [.ref p4, .ref p5]) p5 = some (.lst [.str (T [117]), .str (T [117, 117]), v]) := (Ex.new n6).use upd_same
      have e3 : Ex H2 (upd (upd (upd H2 p4 (.lst [.str (T [117]), v, .str (T [117, 117])])) p5 (.lst [.str (T [117]), .str (T [117, 117]), v])) p6 (.lst [.ref p4, .ref p5])) := ((Ex.new n4).mk n5).mk n6
      generalize upd (upd (upd H2 p4 (.lst [.str (T [117]), v, .str (T [117, 117])])) p5 (.lst [.str (T [117]), .str (T [117, 117]), v])) p6 (.lst [.ref p4, .ref p5]) = H3 at l4 l5 l6 e3 ⊢
      obtain ⟨pv, hpv, mpv⟩ := atI_mem (xs := [.ref p4, .ref p5]) (i := mo % 2) (by omega) (by simp; omega)
      refine k_ixL (SqL.of l6) hpv ?_
      (iterate 909 fail)
      have hv := (b1.ex (e2.trans e3)).2
      have h1 : HasD K H3 (.str (T [117])) := hasD_str (okc_ud (ud_ups 1))
      have h2 : HasD K H3 (.str (T [117, 117])) := hasD_str (okc_ud (ud_ups 2))
      simp only [List.mem_cons, List.not_mem_nil, or_false] at mpv
      rcases mpv with rfl | rfl
      · refine uni_of l4 (by simp) (by simp) (fun x hx => ?_) (run_1 (b2.ex e3))
        simp only [List.mem_cons, List.not_mem_nil, or_false] at hx
        rcases hx with rfl | rfl | rfl <;> assumption
      · refine uni_of l5 (by simp) (by simp) (fun x hx => ?_) (run_2 (b2.ex e3))
        simp only [List.mem_cons, List.not_mem_nil, or_false] at hx
        rcases hx with rfl | rfl | rfl <;> assumption
    · (iterate 909 fail)
      refine ⟨by (iterate 904 fail), fun p4 n4 => ?_⟩
      (iterate 909 fail)
      have e3 := Ex.new n4 (o := .lst [v])
      exact uni_of upd_same (by simp) (by simp) (fun x hx => by
        rw [List.mem_singleton.mp hx]; exact (b1.ex (e2.trans e3)).2) (run_0 (b2.ex e3))
end
end U

set_option Elab.async false
set_option linter.all false
set_option maxRecDepth 100000
set_option maxHeartbeats 4000000
namespace U
open PySem PySem.Spec PyProof.Rows L2
local macro_rules | `(tactic| iterate 901 fail) => `(tactic| first
  | with_reducible assumption
  | with_reducible exact upd_same
  | (with_reducible refine' Ex.use (Ex.new ?n) ?h; (case n => with_reducible assumption); (case h => (iterate 901 fail)))
  | (with_reducible refine' Ex.use ?n ?h; (case n => with_reducible assumption); (case h => (iterate 901 fail))))
local macro_rules | `(tactic| iterate 902 fail) => `(tactic| first
  | with_reducible assumption
  | (with_reducible refine' SqL.of ?h; (case h => (iterate 901 fail)))
  | (with_reducible refine' SqT.of ?h; (case h => (iterate 901 fail)))
  | (iterate 912 fail))
local macro_rules | `(tactic| iterate 912 fail) => `(tactic| first
  | with_reducible assumption
  | (with_reducible refine' Ex.sql (Ex.new ?n) ?h; (case n => with_reducible assumption); (case h => (iterate 912 fail)))
  | (with_reducible refine' Ex.sqt (Ex.new ?n) ?h; (case n => with_reducible assumption); (case h => (iterate 912 fail)))
  | (with_reducible refine' Ex.sql ?n ?h; (case n => with_reducible assumption); (case h => (iterate 912 fail)))
  | (with_reducible refine' Ex.sqt ?n ?h; (case n => with_reducible assumption); (case h => (iterate 912 fail))))
local macro_rules | `(tactic| iterate 903 fail) => `(tactic| first
  | with_reducible assumption
  | with_reducible exact Ex.refl _
  | (with_reducible refine' Ex.mk ?e ?n; (case n => with_reducible assumption); (case e => (iterate 903 fail)))
  | (with_reducible refine' Ex.trans ?e ?n; (case n => with_reducible assumption); (case e => (iterate 903 fail))))
local macro_rules | `(tactic| iterate 904 fail) => `(tactic| first
  | with_reducible assumption
  | (apply line_le; simp only [List.length_cons, List.length_nil, List.length_append, List.length_map, List.length_range]; omega)
  | (apply line_lt; simp only [List.length_cons, List.length_nil, List.length_append, List.length_map, List.length_range]; omega))
local macro_rules | `(tactic| iterate 905 fail) => `(tactic| (apply line_le; first | (show List.length _ ≤ _; omega) | (simp only [U.T, PySem.Str.length, List.size_toArray, List.length_cons, List.length_nil, List.length_append, List.length_map, List.length_reverse]; omega)))
local macro_rules | `(tactic| iterate 906 fail) => `(tactic| first
  | with_reducible exact TyX.base (TyOf.str _) | with_reducible exact TyX.base (TyOf.int _) | with_reducible exact TyX.base (TyOf.bl _) | with_reducible exact TyX.base TyOf.non
  | (with_reducible refine' TyX.base (TyOf.lst ?h); (case h => (iterate 901 fail))) | (with_reducible refine' TyX.base (TyOf.tup ?h); (case h => (iterate 901 fail))) | (with_reducible refine' TyX.base (TyOf.dK ?h); (case h => (iterate 901 fail))))
local macro_rules | `(tactic| iterate 907 fail) => `(tactic| first
  | (with_reducible refine' k_tyL ?h ?k; (case h => (iterate 901 fail)))
  | (with_reducible refine' k_app ?h ?z ?k; (case h => (iterate 901 fail)); (case z => (iterate 904 fail)))
  | (with_reducible refine' k_gTup ?h ?z ?k; (case h => (iterate 902 fail)); (case z => exact rfl))
  | (with_reducible refine' k_I ?c ?k; (case c => first | decide | exact ⟨by decide, by decide⟩))
  | (with_reducible refine' k_ixL ?h ?a ?k; (case h => (iterate 902 fail)); (case a => exact rfl))
  | (with_reducible refine' k_ixT ?h ?a ?k; (case h => (iterate 902 fail)); (case a => exact rfl))
  | (with_reducible refine' k_lenL ?h ?k; (case h => (iterate 902 fail)))
  | (with_reducible refine' k_lenT ?h ?k; (case h => (iterate 902 fail)))
  | (with_reducible refine' k_lenS ?h ?k; (case h => (iterate 905 fail)))
  | (with_reducible refine' k_isi (b := true) ?t ?e ?k; (case t => (iterate 906 fail)); (case e => decide +kernel))
  | (with_reducible refine' k_isi (b := false) ?t ?e ?k; (case t => (iterate 906 fail)); (case e => decide +kernel)))
local macro_rules | `(tactic| iterate 908 fail) => `(tactic| first | with_reducible refine Stp.h ?_ | (iterate 907 fail))
local macro_rules | `(tactic| iterate 909 fail) => `(tactic| ((try dsimp only); repeat (iterate 908 fail)))
local macro_rules | `(tactic| iterate 910 fail) => `(tactic| (simp only [start_cons, start_nil, start_end]; repeat (iterate 908 fail)))

section
variable {P : Program} {w : World} {K : PySem.W.Frag} {mg : Str → Option Value} {base : Heap}
/-- a ridge that is no climb -/
def BadC (v : V) : Prop := ∃ l : List Nat, v = .str (T l) ∧ UD l ∧ l.length ≤ 100 ∧ NoC l
theorem noC_up {n : Nat} (h : 2 ≤ n) : NoC (List.replicate n 117 ++ [100]) := by
  have h1 := (bd_up n).at_
  refine .inr ⟨n, by simp, ?_⟩
  have e1 : hAt (List.replicate n 117 ++ [100]) = (n : Int) - 1 := by rw [hAt_append, h1]; rfl
  have e2 : ht (List.replicate n 117 ++ [100]) n = (n : Int) := by
    unfold ht
    rw [List.take_append_of_le_length (by simp)]
    rw [List.take_of_length_le (by simp), h1]
  rw [e1, e2]
  omega
theorem ud_snoc {l : List Nat} {c : Nat} (h : UD l) (hc : c = 117 ∨ c = 100) : UD (l ++ [c]) := fun d hd => by
  rcases List.mem_append.mp hd with e | e
  · exact h d e
  · rw [List.mem_singleton.mp e]; exact hc
theorem ofT_udd : Str.ofString "udd" = T [117, 100, 100] := by decide +kernel
theorem ofT_uud : Str.ofString "uud" = T [117, 117, 100] := by decide +kernel
theorem ofT_udduu : Str.ofString "udduu" = T [117, 100, 100, 117, 117] := by decide +kernel
def sp_L_climb (C : Addr) : Sp := fun vs H Q E => ∃ wh mo : Int, vs = [.int wh, .int mo] ∧ 0 ≤ wh ∧ 0 ≤ mo ∧ ∀ H', Ex H H' → E (.ref C) none H'
abbrev s_L_climb_asked : Stmt := topS 49
theorem sc_L_climb_asked : FnScope ["_law_which", "_law_more", "_law_bad", "_law_door"] ["_law_which", "_law_more"] (defScope s_L_climb_asked) := ⟨rfl, rfl, rfl, by decide +kernel, rfl, by decide +kernel, by decide +kernel⟩
theorem ok_L_climb_asked {f : Addr} {fd : FuncData} (F : Fun K "_law_climb_asked" "_law_climb_asked" s_L_climb_asked f fd) {R C U : Addr} (c_together : Cal P w K mg base (L2N.CX P w) 6 "together" (sp_together R C U)) (c_in_unison : Cal P w K mg base (L2N.CX P w) 6 "in_unison" (sp_in_unison K R C U)) : FnOk P w K mg base (L2N.CX P w) 7 f fd ["_law_which", "_law_more"] (sp_L_climb C) := by
  refine Fun.okN F sc_L_climb_asked (fun vs H Q E h => ?_) (fun cdv A outer s H vs Q E hr h => ?_)
  · obtain ⟨_, _, rfl, _⟩ := h
    rfl
  have hu := hu_of hr
  have hu64 := hr.units
  obtain ⟨wh, mo, rfl, hw, hm, q⟩ := h
  refine ⟨_, (C8.pss_cut (ps_set (i := 2) sc_L_climb_asked.nd rfl (.inl rfl) (pe_ix (ix_seqK (K := K) rfl) (pe_lst (pa_cons pe_str (pa_cons pe_str (pa_cons pe_str (pa_cons (pe_op (op_addUK (K := K) rfl) (pe_op op_mulS pe_str (pe_op (op_addUK (K := K) rfl) pe_int (pe_op op_mod (pv 1) pe_int))) pe_str) (pa_cons pe_str pa_nil)))))) (pe_op op_mod (pv 0) pe_int) (fun _ _ => rfl)))
    (pss_cons (ps_set (i := 3) sc_L_climb_asked.nd rfl (.inl rfl) (pe_op op_mod (pe_op op_fdiv (pv 0) pe_int) pe_int))
    (pss_cons (ps_if (pt_cmpR (op_eqUK (K := K) rfl hu64) (pv 3) pe_int (nomark _)) (pss_one (ps_ret (pe_cX c_together hr (by decide) (by rfl) (pex (L2N.takes_of rfl rfl rfl rfl)) (pa_cons (pv 2) (pa_cons pe_str pa_nil))))) pss_nil)
    (pss_cons (ps_if (pt_cmpR (op_eqUK (K := K) rfl hu64) (pv 3) pe_int (nomark _)) (pss_one (ps_ret (pe_cX c_together hr (by decide) (by rfl) (pex (L2N.takes_of rfl rfl rfl rfl)) (pa_cons pe_str (pa_cons (pv 2) pa_nil))))) pss_nil)
    (pss_cons (ps_if (pt_cmpR (op_eqUK (K := K) rfl hu64) (pv 3) pe_int (nomark _)) (pss_one (ps_ret (pe_ifExp (pt_cmpR (op_eqUK (K := K) rfl hu64) (pe_op op_mod (pv 1) pe_int) pe_int (nomark _)) (pe_cX c_together hr (by decide) (by rfl) (pex (L2N.takes_of rfl rfl rfl rfl)) (pa_cons (pv 2) (pa_cons (pe_ix (ix_seqK (K := K) rfl) (pe_lst (pa_cons pe_non (pa_cons pe_str (pa_cons pe_int pa_nil)))) (pe_op op_mod (pv 1) pe_int) (fun _ _ => rfl)) pa_nil))) (pe_cX c_in_unison hr (by decide) (by rfl) (pex (L2N.takes_of rfl rfl rfl rfl)) (pa_cons (pe_lst (pa_cons (pv 2) (pa_cons pe_non pa_nil))) pa_nil))))) pss_nil)
    (pss_cons (ps_if (pt_cmpR (op_eqUK (K := K) rfl hu64) (pv 3) pe_int (nomark _)) (pss_one (ps_ret (pe_cX c_in_unison hr (by decide) (by rfl) (pex (L2N.takes_of rfl rfl rfl rfl)) (pa_cons (pe_ix (ix_seqK (K := K) rfl) (pe_lst (pa_cons (pe_lst (pa_cons pe_str (pa_cons (pv 2) pa_nil))) (pa_cons (pe_lst (pa_cons pe_str (pa_cons pe_str (pa_cons (pv 2) pa_nil)))) (pa_cons (pe_lst (pa_cons (pv 2) pa_nil)) (pa_cons (pe_lst (pa_cons (pv 2) (pa_cons pe_str pa_nil))) pa_nil))))) (pe_op op_mod (pv 1) pe_int) (fun _ _ => rfl)) pa_nil)))) pss_nil)
    (pss_one (ps_ret (pe_cX c_in_unison hr (by decide) (by rfl) (pex (L2N.takes_of rfl rfl rfl rfl)) (pa_cons (pe_ix (ix_seqK (K := K) rfl) (pe_lst (pa_cons pe_non (pa_cons pe_str (pa_cons (pe_tup pa_nil) (pa_cons (pe_slice (sl_listK (K := K) rfl) (pe_lst (pa_cons pe_str pa_nil)) po_none (po_some pe_int)) (pa_cons pe_int (pa_cons (pe_tup (pa_cons pe_str pa_nil)) (pa_cons (pe_disp (pps_cons pe_str pe_int pps_nil) rfl rfl (by simp) (by decide)) pa_nil)))))))) (pe_op op_mod (pv 1) pe_int) (fun _ _ => rfl)) pa_nil)))))))))), ?_⟩
  (iterate 910 fail)
  refine ⟨fun σ' H' => ∃ v, σ' = [some (.int wh), some (.int mo), some v, none] ∧ BadC v ∧ Ex H H', ?_, ?_⟩
  · (iterate 909 fail)
    have r5 : 0 ≤ mo % 5 ∧ mo % 5 < 5 := by omega
    refine ⟨_, _, rfl, rfl, by omega, by omega, by show 1 * _ ≤ _; omega, ?_⟩
    (iterate 909 fail)
    have ha := rep_u (2 + mo % 5).toNat
    rw [ha, ofT_d]
    refine k_addS (by apply line_le; show (List.replicate _ 117).length + 1 ≤ _; rw [List.length_replicate]; omega) ?_
    rw [T_cat]
    (iterate 909 fail)
    refine ⟨by (iterate 904 fail), fun p3 n3 => ?_⟩
    (iterate 909 fail)
    obtain ⟨v, hv, mv⟩ := atI_mem (xs := [V.str (T [100]), V.str (Str.ofString "udd"), V.str (Str.ofString "uud"), V.str (T (List.replicate (2 + mo % 5).toNat 117 ++ [100])), V.str (Str.ofString "udduu")]) (i := wh % 5) (by omega) (by simp; omega)
    refine k_ixL (SqL.of upd_same) hv ?_
    (iterate 909 fail)
    refine ⟨v, rfl, ?_, Ex.new n3⟩
    rw [ofT_udd, ofT_uud, ofT_udduu] at mv
    simp only [List.mem_cons, List.not_mem_nil, or_false] at mv
    rcases mv with rfl | rfl | rfl | rfl | rfl
    · exact ⟨_, rfl, by unfold UD; decide, by decide, .inl ⟨1, by decide, by decide⟩⟩
    · exact ⟨_, rfl, by unfold UD; decide, by decide, .inl ⟨3, by decide, by decide⟩⟩
    · exact ⟨_, rfl, by unfold UD; decide, by decide, .inr ⟨2, by decide, by decide⟩⟩
    · exact ⟨_, rfl, ud_snoc (ud_ups _) (.inr rfl), by rw [List.length_append, List.length_replicate]; simp; omega, noC_up (by omega)⟩
    · exact ⟨_, rfl, by unfold UD; decide, by decide, .inl ⟨3, by decide, by decide⟩⟩
  rintro σ' H1 ⟨v, rfl, ⟨l, rfl, hl, hz, hn⟩, e1⟩
  have tb : ∀ {H2 : Hp}, Ex H1 H2 → TopBad R C (.str (T l)) H2 E := fun {H2} e2 => .inr ⟨l, rfl, hl, by omega, hn, fun H' e3 => q _ ((e1.trans e2).trans e3)⟩
  (iterate 909 fail)
  refine k_I ⟨by decide, by decide⟩ ?_
  (iterate 909 fail)
  have d0 : 0 ≤ wh / 5 % 5 ∧ wh / 5 % 5 < 5 := by omega
  generalize wh / 5 % 5 = d at d0 ⊢
  refine k_if (fun _ => ?_) (fun _ => ?_)
  · (iterate 909 fail)
    exact ⟨_, _, rfl, .inl (tb (Ex.refl _))⟩
  (iterate 909 fail)
  refine k_if (fun _ => ?_) (fun _ => ?_)
  · (iterate 909 fail)
    rw [ofT_u]
    exact ⟨_, _, rfl, .inr ⟨[117], 1, rfl, ud_ups 1, by decide, cl_ups 1, .inl (tb (Ex.refl _))⟩⟩
  (iterate 909 fail)
  refine k_if (fun _ => ?_) (fun _ => ?_)
  · (iterate 909 fail)
    refine k_if (fun _ => ?_) (fun _ => ?_)
    · (iterate 909 fail)
      refine ⟨by (iterate 904 fail), fun p1 n1 => ?_⟩
      (iterate 909 fail)
      obtain ⟨v, hv, mv⟩ := atI_mem (xs := [V.non, V.str (Str.ofString "x"), V.int 5]) (i := mo % 3) (by omega) (by simp; omega)
      refine k_ixL (SqL.of upd_same) hv ?_
      (iterate 909 fail)
      exact ⟨_, _, rfl, .inl (tb (Ex.new n1))⟩
    · (iterate 909 fail)
      refine ⟨by (iterate 904 fail), fun p1 n1 => ?_⟩
      (iterate 909 fail)
      refine uni_of upd_same (by simp) (by simp) (fun x hx => ?_) (run_0 (tb (Ex.new n1)))
      simp only [List.mem_cons, List.not_mem_nil, or_false] at hx
      rcases hx with rfl | rfl
      · exact hasD_str (okc_ud hl)
      · exact hasD_non
  (iterate 909 fail)
  refine k_if (fun _ => ?_) (fun _ => ?_)
  · (iterate 909 fail)
    rw [ofT_u, ofT_uu]
    refine ⟨by (iterate 904 fail), fun p1 n1 => ?_⟩
    (iterate 909 fail)
    refine ⟨by (iterate 904 fail), fun p2 n2 => ?_⟩
    (iterate 909 fail)
    refine ⟨by (iterate 904 fail), fun p3 n3 => ?_⟩
    (iterate 909 fail)
    refine ⟨by (iterate 904 fail), fun p4 n4 => ?_⟩
    (iterate 909 fail)
    refine ⟨by (iterate 904 fail), fun p5 n5 => ?_⟩
    (iterate 909 fail)
    have l1 : ∀ o, upd (upd (upd (upd (upd H1 p1 (.lst [.str (T [117]), .str (T l)])) p2 (.lst [.str (T [117]), .str (T [117, 117]), .str (T l)])) p3 (.lst [.str (T l)])) p4 (.lst [.str (T l), .str (T [117])])) p5 o p1 = some (.lst [.str (T [117]), .str (T l)]) := fun _ => (Ex.new n5).use ((Ex.new n4).use ((Ex.new n3).use ((Ex.new n2).use upd_same)))
    have l2 : ∀ o, upd (upd (upd (upd (upd H1 p1 (.lst [.str (T [117]), .str (T l)])) p2 (.lst [.str (T [117]), .str (T [117, 117]), .str (T l)])) p3 (.lst [.str (T l)])) p4 (.lst [.str (T l), .str (T [117])])) p5 o p2 = some (.lst [.str (T [117]), .str (T [117, 117]), .str (T l)]) := fun _ => (Ex.new n5).use ((Ex.new n4).use ((Ex.new n3).use upd_same))
    have l3 : ∀ o, upd (upd (upd (upd (upd H1 p1 (.lst [.str (T [117]), .str (T l)])) p2 (.lst [.str (T [117]), .str (T [117, 117]), .str (T l)])) p3 (.lst [.str (T l)])) p4 (.lst [.str (T l), .str (T [117])])) p5 o p3 = some (.lst [.str (T l)]) := fun _ => (Ex.new n5).use ((Ex.new n4).use upd_same)
    have l4 : ∀ o, upd (upd (upd (upd (upd H1 p1 (.lst [.str (T [117]), .str (T l)])) p2 (.lst [.str (T [117]), .str (T [117, 117]), .str (T l)])) p3 (.lst [.str (T l)])) p4 (.lst [.str (T l), .str (T [117])])) p5 o p4 = some (.lst [.str (T l), .str (T [117])]) := fun _ => (Ex.new n5).use upd_same
    have ee : ∀ o, Ex H1 (upd (upd (upd (upd (upd H1 p1 (.lst [.str (T [117]), .str (T l)])) p2 (.lst [.str (T [117]), .str (T [117, 117]), .str (T l)])) p3 (.lst [.str (T l)])) p4 (.lst [.str (T l), .str (T [117])])) p5 o) := fun _ => ((((Ex.new n1).mk n2).mk n3).mk n4).mk n5
    have l5 : upd (upd (upd (upd (upd H1 p1 (.lst [.str (T [117]), .str (T l)])) p2 (.lst [.str (T [117]), .str (T [117, 117]), .str (T l)])) p3 (.lst [.str (T l)])) p4 (.lst [.str (T l), .str (T [117])])) p5 (.lst [.ref p1, .ref p2, .ref p3, .ref p4]) p5 = some (.lst [.ref p1, .ref p2, .ref p3, .ref p4]) := upd_same
    have l1 := l1 (.lst [.ref p1, .ref p2, .ref p3, .ref p4])
    have l2 := l2 (.lst [.ref p1, .ref p2, .ref p3, .ref p4])
    have l3 := l3 (.lst [.ref p1, .ref p2, .ref p3, .ref p4])
    have l4 := l4 (.lst [.ref p1, .ref p2, .ref p3, .ref p4])
    have ee := ee (.lst [.ref p1, .ref p2, .ref p3, .ref p4])
    generalize upd (upd (upd (upd (upd H1 p1 (.lst [.str (T [117]), .str (T l)])) p2 (.lst [.str (T [117]), .str (T [117, 117]), .str (T l)])) p3 (.lst [.str (T l)])) p4 (.lst [.str (T l), .str (T [117])])) p5 (.lst [.ref p1, .ref p2, .ref p3, .ref p4]) = H2 at l1 l2 l3 l4 l5 ee ⊢
    obtain ⟨pv, hpv, mpv⟩ := atI_mem (xs := [.ref p1, .ref p2, .ref p3, .ref p4]) (i := mo % 4) (by omega) (by simp; omega)
    refine k_ixL (SqL.of l5) hpv ?_
    (iterate 909 fail)
    have h0 : HasD K H2 (.str (T l)) := hasD_str (okc_ud hl)
    have h1 : HasD K H2 (.str (T [117])) := hasD_str (okc_ud (ud_ups 1))
    have h2 : HasD K H2 (.str (T [117, 117])) := hasD_str (okc_ud (ud_ups 2))
    have tb2 := tb ee
    simp only [List.mem_cons, List.not_mem_nil, or_false] at mpv
    rcases mpv with rfl | rfl | rfl | rfl
    · refine uni_of l1 (by simp) (by simp) (fun x hx => ?_) (run_1 tb2)
      simp only [List.mem_cons, List.not_mem_nil, or_false] at hx
      rcases hx with rfl | rfl <;> assumption
    · refine uni_of l2 (by simp) (by simp) (fun x hx => ?_) (run_2 tb2)
      simp only [List.mem_cons, List.not_mem_nil, or_false] at hx
      rcases hx with rfl | rfl | rfl <;> assumption
    · refine uni_of l3 (by simp) (by simp) (fun x hx => ?_) (run_0 tb2)
      simp only [List.mem_cons, List.not_mem_nil, or_false] at hx
      rcases hx with rfl; assumption
    · refine uni_of l4 (by simp) (by simp) (fun x hx => ?_) (run_0 tb2)
      simp only [List.mem_cons, List.not_mem_nil, or_false] at hx
      rcases hx with rfl | rfl <;> assumption
  (iterate 909 fail)
  refine ⟨by (iterate 904 fail), fun p1 n1 => ?_⟩
  (iterate 909 fail)
  refine ⟨by (iterate 904 fail), fun p2 n2 => ?_⟩
  (iterate 909 fail)
  refine k_slL (SqL.of upd_same) fun p3 n3 => ?_
  (iterate 909 fail)
  refine ⟨by (iterate 904 fail), fun p4 n4 => ?_⟩
  (iterate 909 fail)
  refine k_disp fun p5 n5 => ?_
  refine tPairs_cons (k_c (k_c (tPairs_nil ?_)))
  refine ⟨upd_same, [(.inr (Str.ofString "u"), .int 1)], rfl, by simp, ?_⟩
  rw [upd_upd]
  (iterate 909 fail)
  refine ⟨by (iterate 904 fail), fun p6 n6 => ?_⟩
  (iterate 909 fail)
  have l6 : upd (upd (upd (upd (upd (upd H1 p1 (.tup [])) p2 (.lst [.str (Str.ofString "u")])) p3 (.lst (cutV [V.str (Str.ofString "u")] none (some 0)))) p4 (.tup [.str (Str.ofString "u")])) p5 (.dK (mergeK [] [(.inr (Str.ofString "u"), .int 1)]))) p6 (.lst [.non, .str (Str.ofString "u"), .ref p1, .ref p3, .int 5, .ref p4, .ref p5]) p6 = some (.lst [.non, .str (Str.ofString "u"), .ref p1, .ref p3, .int 5, .ref p4, .ref p5]) := upd_same
  have l5 : upd (upd (upd (upd (upd (upd H1 p1 (.tup [])) p2 (.lst [.str (Str.ofString "u")])) p3 (.lst (cutV [V.str (Str.ofString "u")] none (some 0)))) p4 (.tup [.str (Str.ofString "u")])) p5 (.dK (mergeK [] [(.inr (Str.ofString "u"), .int 1)]))) p6 (.lst [.non, .str (Str.ofString "u"), .ref p1, .ref p3, .int 5, .ref p4, .ref p5]) p5 = some (.dK (mergeK [] [(.inr (Str.ofString "u"), .int 1)])) := (Ex.new n6).use upd_same
  have l4 : upd (upd (upd (upd (upd (upd H1 p1 (.tup [])) p2 (.lst [.str (Str.ofString "u")])) p3 (.lst (cutV [V.str (Str.ofString "u")] none (some 0)))) p4 (.tup [.str (Str.ofString "u")])) p5 (.dK (mergeK [] [(.inr (Str.ofString "u"), .int 1)]))) p6 (.lst [.non, .str (Str.ofString "u"), .ref p1, .ref p3, .int 5, .ref p4, .ref p5]) p4 = some (.tup [.str (Str.ofString "u")]) := (Ex.new n6).use ((Ex.new n5).use upd_same)
  have l3 : upd (upd (upd (upd (upd (upd H1 p1 (.tup [])) p2 (.lst [.str (Str.ofString "u")])) p3 (.lst (cutV [V.str (Str.ofString "u")] none (some 0)))) p4 (.tup [.str (Str.ofString "u")])) p5 (.dK (mergeK [] [(.inr (Str.ofString "u"), .int 1)]))) p6 (.lst [.non, .str (Str.ofString "u"), .ref p1, .ref p3, .int 5, .ref p4, .ref p5]) p3 = some (.lst []) := (Ex.new n6).use ((Ex.new n5).use ((Ex.new n4).use upd_same))
  have l1 : upd (upd (upd (upd (upd (upd H1 p1 (.tup [])) p2 (.lst [.str (Str.ofString "u")])) p3 (.lst (cutV [V.str (Str.ofString "u")] none (some 0)))) p4 (.tup [.str (Str.ofString "u")])) p5 (.dK (mergeK [] [(.inr (Str.ofString "u"), .int 1)]))) p6 (.lst [.non, .str (Str.ofString "u"), .ref p1, .ref p3, .int 5, .ref p4, .ref p5]) p1 = some (.tup []) := (Ex.new n6).use ((Ex.new n5).use ((Ex.new n4).use ((Ex.new n3).use ((Ex.new n2).use upd_same))))
  have ee : Ex H1 (upd (upd (upd (upd (upd (upd H1 p1 (.tup [])) p2 (.lst [.str (Str.ofString "u")])) p3 (.lst (cutV [V.str (Str.ofString "u")] none (some 0)))) p4 (.tup [.str (Str.ofString "u")])) p5 (.dK (mergeK [] [(.inr (Str.ofString "u"), .int 1)]))) p6 (.lst [.non, .str (Str.ofString "u"), .ref p1, .ref p3, .int 5, .ref p4, .ref p5])) := (((((Ex.new n1).mk n2).mk n3).mk n4).mk n5).mk n6
  generalize upd (upd (upd (upd (upd (upd H1 p1 (.tup [])) p2 (.lst [.str (Str.ofString "u")])) p3 (.lst (cutV [V.str (Str.ofString "u")] none (some 0)))) p4 (.tup [.str (Str.ofString "u")])) p5 (.dK (mergeK [] [(.inr (Str.ofString "u"), .int 1)]))) p6 (.lst [.non, .str (Str.ofString "u"), .ref p1, .ref p3, .int 5, .ref p4, .ref p5]) = H2 at l1 l3 l4 l5 l6 ee ⊢
  obtain ⟨pv, hpv, mpv⟩ := atI_mem (xs := [.non, .str (Str.ofString "u"), .ref p1, .ref p3, .int 5, .ref p4, .ref p5]) (i := mo % 7) (by omega) (by simp; omega)
  refine k_ixL (SqL.of l6) hpv ?_
  (iterate 909 fail)
  have q2 : ∀ H', Ex H2 H' → E (.ref C) none H' := fun H' e => q _ ((e1.trans ee).trans e)
  simp only [List.mem_cons, List.not_mem_nil, or_false] at mpv
  rcases mpv with rfl | rfl | rfl | rfl | rfl | rfl | rfl
  · exact ⟨_, rfl, .inl ⟨.non, q2⟩⟩
  · exact ⟨_, rfl, .inl ⟨.str _, q2⟩⟩
  · exact ⟨_, rfl, .inl ⟨.tup l1, q2⟩⟩
  · exact ⟨_, rfl, .inr ⟨_, _, rfl, l3, by simp, .inl ⟨rfl, q2⟩⟩⟩
  · exact ⟨_, rfl, .inl ⟨.int _, q2⟩⟩
  · exact ⟨_, rfl, .inl ⟨.tup l4, q2⟩⟩
  · exact ⟨_, rfl, .inl ⟨.dK l5, q2⟩⟩
end
end U

set_option Elab.async false
set_option linter.all false
set_option maxRecDepth 100000
set_option maxHeartbeats 4000000
namespace U
open PySem PySem.Spec PyProof.Rows L2
local macro_rules | `(tactic| iterate 901 fail) => `(tactic| first
  | with_reducible assumption
  | with_reducible exact upd_same
  | (with_reducible refine' Ex.use (Ex.new ?n) ?h; (case n => with_reducible assumption); (case h => (iterate 901 fail)))
  | (with_reducible refine' Ex.use ?n ?h; (case n => with_reducible assumption); (case h => (iterate 901 fail))))
local macro_rules | `(tactic| iterate 902 fail) => `(tactic| first
  | with_reducible assumption
  | (with_reducible refine' SqL.of ?h; (case h => (iterate 901 fail)))
  | (with_reducible refine' SqT.of ?h; (case h => (iterate 901 fail)))
  | (iterate 912 fail))
local macro_rules | `(tactic| iterate 912 fail) => `(tactic| first
  | with_reducible assumption
  | (with_reducible refine' Ex.sql (Ex.new ?n) ?h; (case n => with_reducible assumption); (case h => (iterate 912 fail)))
  | (with_reducible refine' Ex.sqt (Ex.new ?n) ?h; (case n => with_reducible assumption); (case h => (iterate 912 fail)))
  | (with_reducible refine' Ex.sql ?n ?h; (case n => with_reducible assumption); (case h => (iterate 912 fail)))
  | (with_reducible refine' Ex.sqt ?n ?h; (case n => with_reducible assumption); (case h => (iterate 912 fail))))
local macro_rules | `(tactic| iterate 903 fail) => `(tactic| first
  | with_reducible assumption
  | with_reducible exact Ex.refl _
  | (with_reducible refine' Ex.mk ?e ?n; (case n => with_reducible assumption); (case e => (iterate 903 fail)))
  | (with_reducible refine' Ex.trans ?e ?n; (case n => with_reducible assumption); (case e => (iterate 903 fail))))
local macro_rules | `(tactic| iterate 904 fail) => `(tactic| first
  | with_reducible assumption
  | (apply line_le; simp only [List.length_cons, List.length_nil, List.length_append, List.length_map, List.length_range]; omega)
  | (apply line_lt; simp only [List.length_cons, List.length_nil, List.length_append, List.length_map, List.length_range]; omega))
local macro_rules | `(tactic| iterate 905 fail) => `(tactic| (apply line_le; first | (show List.length _ ≤ _; omega) | (simp only [U.T, PySem.Str.length, List.size_toArray, List.length_cons, List.length_nil, List.length_append, List.length_map, List.length_reverse]; omega)))
local macro_rules | `(tactic| iterate 906 fail) => `(tactic| first
  | with_reducible exact TyX.base (TyOf.str _) | with_reducible exact TyX.base (TyOf.int _) | with_reducible exact TyX.base (TyOf.bl _) | with_reducible exact TyX.base TyOf.non
  | (with_reducible refine' TyX.base (TyOf.lst ?h); (case h => (iterate 901 fail))) | (with_reducible refine' TyX.base (TyOf.tup ?h); (case h => (iterate 901 fail))) | (with_reducible refine' TyX.base (TyOf.dK ?h); (case h => (iterate 901 fail))))
local macro_rules | `(tactic| iterate 907 fail) => `(tactic| first
  | (with_reducible refine' k_tyL ?h ?k; (case h => (iterate 901 fail)))
  | (with_reducible refine' k_app ?h ?z ?k; (case h => (iterate 901 fail)); (case z => (iterate 904 fail)))
  | (with_reducible refine' k_gTup ?h ?z ?k; (case h => (iterate 902 fail)); (case z => exact rfl))
  | (with_reducible refine' k_I ?c ?k; (case c => first | decide | exact ⟨by decide, by decide⟩))
  | (with_reducible refine' k_ixL ?h ?a ?k; (case h => (iterate 902 fail)); (case a => exact rfl))
  | (with_reducible refine' k_ixT ?h ?a ?k; (case h => (iterate 902 fail)); (case a => exact rfl))
  | (with_reducible refine' k_lenL ?h ?k; (case h => (iterate 902 fail)))
  | (with_reducible refine' k_lenT ?h ?k; (case h => (iterate 902 fail)))
  | (with_reducible refine' k_lenS ?h ?k; (case h => (iterate 905 fail)))
  | (with_reducible refine' k_isi (b := true) ?t ?e ?k; (case t => (iterate 906 fail)); (case e => decide +kernel))
  | (with_reducible refine' k_isi (b := false) ?t ?e ?k; (case t => (iterate 906 fail)); (case e => decide +kernel)))
local macro_rules | `(tactic| iterate 908 fail) => `(tactic| first | with_reducible refine Stp.h ?_ | (iterate 907 fail))
local macro_rules | `(tactic| iterate 909 fail) => `(tactic| ((try dsimp only); repeat (iterate 908 fail)))
local macro_rules | `(tactic| iterate 910 fail) => `(tactic| (simp only [start_cons, start_nil, start_end]; repeat (iterate 908 fail)))

section
variable {P : Program} {w : World} {K : PySem.W.Frag} {mg : Str → Option Value} {base : Heap}
def PlB (H : Hp) (v : V) : Prop := ∃ (a : Addr) (x y : V), v = .ref a ∧ H a = some (.tup [x, y]) ∧ NoP (hts [117, 117, 100]) (hts [117, 100]) H x y
theorem PlB.ex {H H1 : Hp} {v : V} (h : PlB H v) (e : Ex H H1) : PlB H1 v := by
  obtain ⟨a, x, y, hv, h, n⟩ := h
  exact ⟨a, x, y, hv, e.use h, n.ex e⟩
def sp_L_places (B : Addr) : Sp := fun vs H Q E => ∃ wh mo : Int, vs = [.int wh, .int mo] ∧ 0 ≤ wh ∧ 0 ≤ mo ∧ ∀ H', Ex H H' → E (.ref B) none H'
abbrev s_L_places_asked : Stmt := topS 50
theorem sc_L_places_asked : FnScope ["_law_which", "_law_more", "_law_bad", "_law_first", "_law_second"] ["_law_which", "_law_more"] (defScope s_L_places_asked) := ⟨rfl, rfl, rfl, by decide +kernel, rfl, by decide +kernel, by decide +kernel⟩
theorem ok_L_places_asked {f : Addr} {fd : FuncData} (F : Fun K "_law_places_asked" "_law_places_asked" s_L_places_asked f fd) {R B : Addr} (c_moves_at : Cal P w K mg base (L2N.CX P w) 4 "moves_at" (sp_moves_at R B)) (c_reached : Cal P w K mg base (L2N.CX P w) 5 "reached" (sp_reached R B)) : FnOk P w K mg base (L2N.CX P w) 6 f fd ["_law_which", "_law_more"] (sp_L_places B) := by
  refine Fun.okN F sc_L_places_asked (fun vs H Q E h => ?_) (fun cdv A outer s H vs Q E hr h => ?_)
  · obtain ⟨_, _, rfl, _⟩ := h
    rfl
  have hu64 := hr.units
  obtain ⟨fv, g_moves_at, v_moves_at⟩ := c_moves_at.at_
  obtain ⟨fr, g_reached, v_reached⟩ := c_reached.at_
  have lX_moves_at : ∀ p ∈ ([(4, fv, sp_moves_at R B), (5, fr, sp_reached R B)] : List (Nat × Addr × Sp)), p.1 ≤ 5 ∧ CalV P w K mg base (L2N.CX P w) p.1 p.2.1 p.2.2 := by
    intro p hp
    simp only [List.mem_cons, List.not_mem_nil, or_false] at hp
    rcases hp with rfl | rfl
    · exact ⟨Nat.le_of_ble_eq_true rfl, v_moves_at⟩
    · exact ⟨Nat.le_of_ble_eq_true rfl, v_reached⟩
  obtain ⟨wh, mo, rfl, hw, hm, q⟩ := h
  refine ⟨_, (pss_cons (ps_set (i := 2) sc_L_places_asked.nd rfl (.inl rfl) (pe_lst (pa_cons (pe_tup (pa_cons pe_non (pa_cons pe_int pa_nil))) (pa_cons (pe_tup (pa_cons pe_int (pa_cons pe_non pa_nil))) (pa_cons (pe_tup (pa_cons (pe_op op_sub (pe_un un_neg pe_int) (pv 1)) (pa_cons pe_int pa_nil))) (pa_cons (pe_tup (pa_cons pe_int (pa_cons (pe_op (op_addUK (K := K) rfl) pe_int (pv 1)) pa_nil))) (pa_cons (pe_tup (pa_cons pe_bl (pa_cons pe_int pa_nil))) (pa_cons (pe_tup (pa_cons pe_int (pa_cons pe_bl pa_nil))) (pa_cons (pe_tup (pa_cons pe_str (pa_cons pe_int pa_nil))) (pa_cons (pe_tup (pa_cons pe_int (pa_cons pe_int pa_nil))) (pa_cons (pe_tup (pa_cons pe_int (pa_cons pe_int pa_nil))) (pa_cons (pe_tup (pa_cons pe_int (pa_cons pe_int pa_nil))) pa_nil))))))))))))
    (pss_cons (ps_set (i := 2) sc_L_places_asked.nd rfl (.inl rfl) (pe_op (op_addUK (K := K) rfl) (pv 2) (pe_lst (pa_cons (pe_tup (pa_cons (pe_op (op_addUK (K := K) rfl) pe_int (pv 1)) (pa_cons (pe_op (op_addUK (K := K) rfl) pe_int (pv 1)) pa_nil))) (pa_cons (pe_tup (pa_cons (pe_tup (pa_cons pe_int pa_nil)) (pa_cons pe_int pa_nil))) pa_nil)))))
    (pss_cons (ps_asg (pe_ix (ix_seqK (K := K) rfl) (pv 2) (pe_op op_mod (pv 0) pe_int) (fun _ _ => rfl)) (tupGK (K := K) rfl (pg_tup rfl (pgs_cons (pg_name (i := 3) sc_L_places_asked.nd rfl (.inl rfl)) (pgs_cons (pg_name (i := 4) sc_L_places_asked.nd rfl (.inl rfl)) pgs_nil)))))
    (pss_one (ps_ret (pe_callX lX_moves_at hr (pex (L2N.takes_of rfl rfl rfl rfl)) (pe_ix (ix_seqK (K := K) rfl) (pe_lst (pa_cons (pe_gv (by rfl) g_moves_at) (pa_cons (pe_gv (by rfl) g_reached) pa_nil))) (pe_op op_mod (pe_op op_fdiv (pv 0) pe_int) pe_int) (fun _ _ => rfl)) (pa_cons pe_str (pa_cons pe_str (pa_cons (pv 3) (pa_cons (pv 4) pa_nil)))))))))), ?_⟩
  (iterate 910 fail)
  refine ⟨by (iterate 904 fail), fun p1 n1 => ?_⟩
  have f1 : upd H p1 (.tup [.non, .int 0]) p1 = some (.tup [.non, .int 0]) := upd_same
  have x1 := Ex.new n1 (o := .tup [.non, .int 0])
  generalize upd H p1 (.tup [.non, .int 0]) = H1 at f1 x1 ⊢
  (iterate 909 fail)
  refine ⟨by (iterate 904 fail), fun p2 n2 => ?_⟩
  have f2 : upd H1 p2 (.tup [.int 0, .non]) p2 = some (.tup [.int 0, .non]) := upd_same
  have x2 := Ex.new n2 (o := .tup [.int 0, .non])
  generalize upd H1 p2 (.tup [.int 0, .non]) = H2 at f2 x2 ⊢
  (iterate 909 fail)
  refine ⟨by (iterate 904 fail), fun p3 n3 => ?_⟩
  have f3 : upd H2 p3 (.tup [.int (-1 - mo), .int 0]) p3 = some (.tup [.int (-1 - mo), .int 0]) := upd_same
  have x3 := Ex.new n3 (o := .tup [.int (-1 - mo), .int 0])
  generalize upd H2 p3 (.tup [.int (-1 - mo), .int 0]) = H3 at f3 x3 ⊢
  (iterate 909 fail)
  refine ⟨by (iterate 904 fail), fun p4 n4 => ?_⟩
  have f4 : upd H3 p4 (.tup [.int 0, .int (3 + mo)]) p4 = some (.tup [.int 0, .int (3 + mo)]) := upd_same
  have x4 := Ex.new n4 (o := .tup [.int 0, .int (3 + mo)])
  generalize upd H3 p4 (.tup [.int 0, .int (3 + mo)]) = H4 at f4 x4 ⊢
  (iterate 909 fail)
  refine ⟨by (iterate 904 fail), fun p5 n5 => ?_⟩
  have f5 : upd H4 p5 (.tup [.bl true, .int 1]) p5 = some (.tup [.bl true, .int 1]) := upd_same
  have x5 := Ex.new n5 (o := .tup [.bl true, .int 1])
  generalize upd H4 p5 (.tup [.bl true, .int 1]) = H5 at f5 x5 ⊢
  (iterate 909 fail)
  refine ⟨by (iterate 904 fail), fun p6 n6 => ?_⟩
  have f6 : upd H5 p6 (.tup [.int 1, .bl true]) p6 = some (.tup [.int 1, .bl true]) := upd_same
  have x6 := Ex.new n6 (o := .tup [.int 1, .bl true])
  generalize upd H5 p6 (.tup [.int 1, .bl true]) = H6 at f6 x6 ⊢
  (iterate 909 fail)
  refine ⟨by (iterate 904 fail), fun p7 n7 => ?_⟩
  have f7 : upd H6 p7 (.tup [.str (Str.ofString "0"), .int 0]) p7 = some (.tup [.str (Str.ofString "0"), .int 0]) := upd_same
  have x7 := Ex.new n7 (o := .tup [.str (Str.ofString "0"), .int 0])
  generalize upd H6 p7 (.tup [.str (Str.ofString "0"), .int 0]) = H7 at f7 x7 ⊢
  (iterate 909 fail)
  refine ⟨by (iterate 904 fail), fun p8 n8 => ?_⟩
  have f8 : upd H7 p8 (.tup [.int 0, .int 1]) p8 = some (.tup [.int 0, .int 1]) := upd_same
  have x8 := Ex.new n8 (o := .tup [.int 0, .int 1])
  generalize upd H7 p8 (.tup [.int 0, .int 1]) = H8 at f8 x8 ⊢
  (iterate 909 fail)
  refine ⟨by (iterate 904 fail), fun p9 n9 => ?_⟩
  have f9 : upd H8 p9 (.tup [.int 1, .int 0]) p9 = some (.tup [.int 1, .int 0]) := upd_same
  have x9 := Ex.new n9 (o := .tup [.int 1, .int 0])
  generalize upd H8 p9 (.tup [.int 1, .int 0]) = H9 at f9 x9 ⊢
  (iterate 909 fail)
  refine ⟨by (iterate 904 fail), fun p10 n10 => ?_⟩
  have f10 : upd H9 p10 (.tup [.int 1, .int 2]) p10 = some (.tup [.int 1, .int 2]) := upd_same
  have x10 := Ex.new n10 (o := .tup [.int 1, .int 2])
  generalize upd H9 p10 (.tup [.int 1, .int 2]) = H10 at f10 x10 ⊢
  (iterate 909 fail)
  refine ⟨by (iterate 904 fail), fun p11 n11 => ?_⟩
  have f11 : upd H10 p11 (.lst [V.ref p1, V.ref p2, V.ref p3, V.ref p4, V.ref p5, V.ref p6, V.ref p7, V.ref p8, V.ref p9, V.ref p10]) p11 = some (.lst [V.ref p1, V.ref p2, V.ref p3, V.ref p4, V.ref p5, V.ref p6, V.ref p7, V.ref p8, V.ref p9, V.ref p10]) := upd_same
  have x11 := Ex.new n11 (o := .lst [V.ref p1, V.ref p2, V.ref p3, V.ref p4, V.ref p5, V.ref p6, V.ref p7, V.ref p8, V.ref p9, V.ref p10])
  generalize upd H10 p11 (.lst [V.ref p1, V.ref p2, V.ref p3, V.ref p4, V.ref p5, V.ref p6, V.ref p7, V.ref p8, V.ref p9, V.ref p10]) = H11 at f11 x11 ⊢
  (iterate 909 fail)
  refine ⟨by (iterate 904 fail), fun p12 n12 => ?_⟩
  have f12 : upd H11 p12 (.tup [.int (4 + mo), .int (4 + mo)]) p12 = some (.tup [.int (4 + mo), .int (4 + mo)]) := upd_same
  have x12 := Ex.new n12 (o := .tup [.int (4 + mo), .int (4 + mo)])
  generalize upd H11 p12 (.tup [.int (4 + mo), .int (4 + mo)]) = H12 at f12 x12 ⊢
  (iterate 909 fail)
  refine ⟨by (iterate 904 fail), fun p13 n13 => ?_⟩
  have f13 : upd H12 p13 (.tup [.int 0]) p13 = some (.tup [.int 0]) := upd_same
  have x13 := Ex.new n13 (o := .tup [.int 0])
  generalize upd H12 p13 (.tup [.int 0]) = H13 at f13 x13 ⊢
  (iterate 909 fail)
  refine ⟨by (iterate 904 fail), fun p14 n14 => ?_⟩
  have f14 : upd H13 p14 (.tup [.ref p13, .int 0]) p14 = some (.tup [.ref p13, .int 0]) := upd_same
  have x14 := Ex.new n14 (o := .tup [.ref p13, .int 0])
  generalize upd H13 p14 (.tup [.ref p13, .int 0]) = H14 at f14 x14 ⊢
  (iterate 909 fail)
  refine ⟨by (iterate 904 fail), fun p15 n15 => ?_⟩
  have f15 : upd H14 p15 (.lst [V.ref p12, V.ref p14]) p15 = some (.lst [V.ref p12, V.ref p14]) := upd_same
  have x15 := Ex.new n15 (o := .lst [V.ref p12, V.ref p14])
  generalize upd H14 p15 (.lst [V.ref p12, V.ref p14]) = H15 at f15 x15 ⊢
  (iterate 909 fail)
  have y15 := Ex.refl H15
  have y14 : Ex H14 H15 := x15.trans y15
  have y13 : Ex H13 H15 := x14.trans y14
  have y12 : Ex H12 H15 := x13.trans y13
  have y11 : Ex H11 H15 := x12.trans y12
  have y10 : Ex H10 H15 := x11.trans y11
  have y9 : Ex H9 H15 := x10.trans y10
  have y8 : Ex H8 H15 := x9.trans y9
  have y7 : Ex H7 H15 := x8.trans y8
  have y6 : Ex H6 H15 := x7.trans y7
  have y5 : Ex H5 H15 := x6.trans y6
  have y4 : Ex H4 H15 := x5.trans y5
  have y3 : Ex H3 H15 := x4.trans y4
  have y2 : Ex H2 H15 := x3.trans y3
  have y1 : Ex H1 H15 := x2.trans y2
  have y0 : Ex H H15 := x1.trans y1
  refine k_addL (SqL.of (y11.use f11)) (SqL.of f15) (by (iterate 904 fail)) fun p16 n16 => ?_
  have all : ∀ v ∈ ([V.ref p1, V.ref p2, V.ref p3, V.ref p4, V.ref p5, V.ref p6, V.ref p7, V.ref p8, V.ref p9, V.ref p10] ++ [V.ref p12, V.ref p14]), PlB H15 v := by
    intro v hv
    simp only [List.cons_append, List.nil_append, List.mem_cons, List.not_mem_nil, or_false] at hv
    rcases hv with rfl | rfl | rfl | rfl | rfl | rfl | rfl | rfl | rfl | rfl | rfl | rfl
    · exact ⟨p1, _, _, rfl, y1.use f1, .inl (.inl .non)⟩
    · exact ⟨p2, _, _, rfl, y2.use f2, .inr ⟨0, by decide, rfl, .inl (.inl .non)⟩⟩
    · exact ⟨p3, _, _, rfl, y3.use f3, .inl (.inr ⟨_, rfl, by omega⟩)⟩
    · exact ⟨p4, _, _, rfl, y4.use f4, .inr ⟨0, by decide, rfl, .inl (.inr ⟨_, rfl, .inr (by show (3 : Int) ≤ _; omega)⟩)⟩⟩
    · exact ⟨p5, _, _, rfl, y5.use f5, .inl (.inl (.bl _))⟩
    · exact ⟨p6, _, _, rfl, y6.use f6, .inr ⟨1, by decide, rfl, .inl (.inl (.bl _))⟩⟩
    · exact ⟨p7, _, _, rfl, y7.use f7, .inl (.inl (.str _))⟩
    · exact ⟨p8, _, _, rfl, y8.use f8, .inr ⟨0, by decide, rfl, .inr ⟨1, by decide, rfl, by decide⟩⟩⟩
    · exact ⟨p9, _, _, rfl, y9.use f9, .inr ⟨1, by decide, rfl, .inr ⟨0, by decide, rfl, by decide⟩⟩⟩
    · exact ⟨p10, _, _, rfl, y10.use f10, .inr ⟨1, by decide, rfl, .inr ⟨2, by decide, rfl, by decide⟩⟩⟩
    · exact ⟨p12, _, _, rfl, y12.use f12, .inl (.inr ⟨_, rfl, .inr (by show (4 : Int) ≤ _; omega)⟩)⟩
    · exact ⟨p14, _, _, rfl, y14.use f14, .inl (.inl (.tup (y13.use f13)))⟩
  have f16 : upd H15 p16 (.lst ([V.ref p1, V.ref p2, V.ref p3, V.ref p4, V.ref p5, V.ref p6, V.ref p7, V.ref p8, V.ref p9, V.ref p10] ++ [V.ref p12, V.ref p14])) p16 = some (.lst ([V.ref p1, V.ref p2, V.ref p3, V.ref p4, V.ref p5, V.ref p6, V.ref p7, V.ref p8, V.ref p9, V.ref p10] ++ [V.ref p12, V.ref p14])) := upd_same
  have x16 := Ex.new n16 (o := .lst ([V.ref p1, V.ref p2, V.ref p3, V.ref p4, V.ref p5, V.ref p6, V.ref p7, V.ref p8, V.ref p9, V.ref p10] ++ [V.ref p12, V.ref p14]))
  generalize upd H15 p16 (.lst ([V.ref p1, V.ref p2, V.ref p3, V.ref p4, V.ref p5, V.ref p6, V.ref p7, V.ref p8, V.ref p9, V.ref p10] ++ [V.ref p12, V.ref p14])) = HZ at f16 x16 ⊢
  have len : ([V.ref p1, V.ref p2, V.ref p3, V.ref p4, V.ref p5, V.ref p6, V.ref p7, V.ref p8, V.ref p9, V.ref p10] ++ [V.ref p12, V.ref p14]).length = 12 := rfl
  generalize ([V.ref p1, V.ref p2, V.ref p3, V.ref p4, V.ref p5, V.ref p6, V.ref p7, V.ref p8, V.ref p9, V.ref p10] ++ [V.ref p12, V.ref p14]) = xs at all f16 len
  have ez : Ex H HZ := y0.trans x16
  obtain ⟨v, hv, mv⟩ := atI_mem (xs := xs) (i := wh % 12) (by omega) (by rw [len]; omega)
  obtain ⟨a, x, y, rfl, ha, np⟩ := (all v mv).ex x16
  have fz := f16
  clear all f1 x1 f2 x2 f3 x3 f4 x4 f5 x5 f6 x6 f7 x7 f8 x8 f9 x9 f10 x10 f11 x11 f12 x12 f13 x13 f14 x14 f15 x15 f16 x16 y15 y14 y13 y12 y11 y10 y9 y8 y7 y6 y5 y4 y3 y2 y1 y0
  clear n16 n15 n14 n13 n12 n11 n10 n9 n8 n7 n6 n5 n4 n3 n2 n1
  (iterate 909 fail)
  refine k_ixL (SqL.of fz) hv ?_
  (iterate 909 fail)
  refine k_gTup (SqT.of ha) rfl ?_
  (iterate 909 fail)
  refine ⟨by (iterate 904 fail), fun p4 n4 => ?_⟩
  (iterate 909 fail)
  refine k_I ⟨by decide, by decide⟩ ?_
  (iterate 909 fail)
  have e3 := Ex.new n4 (o := .lst [.ref fv, .ref fr])
  obtain ⟨fv', hv, mv⟩ := atI_mem (xs := [.ref fv, .ref fr]) (i := wh / 12 % 2) (by omega) (by simp; omega)
  refine k_ixL (SqL.of upd_same) hv ?_
  have rb : ∀ {R : Addr}, RdBad R B (.str (Str.ofString "uud")) (.str (Str.ofString "ud")) x y (upd HZ p4 (.lst [.ref fv, .ref fr])) E := fun {R} => by
    rw [ofT_uud, show Str.ofString "ud" = T [117, 100] from ofs_ud]
    exact .inr ⟨_, rfl, by unfold UD; decide, by decide, .inr ⟨_, rfl, by unfold UD; decide, by decide, np.ex e3, fun H' e => q _ ((ez.trans e3).trans e)⟩⟩
  simp only [List.mem_cons, List.not_mem_nil, or_false] at mv
  rcases mv with rfl | rfl
  · refine ⟨(4, fv, sp_moves_at R B), by simp, rfl, ?_⟩
    (iterate 909 fail)
    exact ⟨_, _, _, _, rfl, .inl rb⟩
  · refine ⟨(5, fr, sp_reached R B), by simp, rfl, ?_⟩
    (iterate 909 fail)
    exact ⟨_, _, _, _, rfl, .inl rb⟩
end
end U

set_option Elab.async false
set_option linter.all false
set_option maxRecDepth 100000
set_option maxHeartbeats 4000000
namespace U
open PySem PySem.Spec PyProof.Rows L2
local macro_rules | `(tactic| iterate 901 fail) => `(tactic| first
  | with_reducible assumption
  | with_reducible exact upd_same
  | (with_reducible refine' Ex.use (Ex.new ?n) ?h; (case n => with_reducible assumption); (case h => (iterate 901 fail)))
  | (with_reducible refine' Ex.use ?n ?h; (case n => with_reducible assumption); (case h => (iterate 901 fail))))
local macro_rules | `(tactic| iterate 902 fail) => `(tactic| first
  | with_reducible assumption
  | (with_reducible refine' SqL.of ?h; (case h => (iterate 901 fail)))
  | (with_reducible refine' SqT.of ?h; (case h => (iterate 901 fail)))
  | (iterate 912 fail))
local macro_rules | `(tactic| iterate 912 fail) => `(tactic| first
  | with_reducible assumption
  | (with_reducible refine' Ex.sql (Ex.new ?n) ?h; (case n => with_reducible assumption); (case h => (iterate 912 fail)))
  | (with_reducible refine' Ex.sqt (Ex.new ?n) ?h; (case n => with_reducible assumption); (case h => (iterate 912 fail)))
  | (with_reducible refine' Ex.sql ?n ?h; (case n => with_reducible assumption); (case h => (iterate 912 fail)))
  | (with_reducible refine' Ex.sqt ?n ?h; (case n => with_reducible assumption); (case h => (iterate 912 fail))))
local macro_rules | `(tactic| iterate 903 fail) => `(tactic| first
  | with_reducible assumption
  | with_reducible exact Ex.refl _
  | (with_reducible refine' Ex.mk ?e ?n; (case n => with_reducible assumption); (case e => (iterate 903 fail)))
  | (with_reducible refine' Ex.trans ?e ?n; (case n => with_reducible assumption); (case e => (iterate 903 fail))))
local macro_rules | `(tactic| iterate 904 fail) => `(tactic| first
  | with_reducible assumption
  | (apply line_le; simp only [List.length_cons, List.length_nil, List.length_append, List.length_map, List.length_range]; omega)
  | (apply line_lt; simp only [List.length_cons, List.length_nil, List.length_append, List.length_map, List.length_range]; omega))
local macro_rules | `(tactic| iterate 905 fail) => `(tactic| (apply line_le; first | (show List.length _ ≤ _; omega) | (simp only [U.T, PySem.Str.length, List.size_toArray, List.length_cons, List.length_nil, List.length_append, List.length_map, List.length_reverse]; omega)))
local macro_rules | `(tactic| iterate 906 fail) => `(tactic| first
  | with_reducible exact TyX.base (TyOf.str _) | with_reducible exact TyX.base (TyOf.int _) | with_reducible exact TyX.base (TyOf.bl _) | with_reducible exact TyX.base TyOf.non
  | (with_reducible refine' TyX.base (TyOf.lst ?h); (case h => (iterate 901 fail))) | (with_reducible refine' TyX.base (TyOf.tup ?h); (case h => (iterate 901 fail))) | (with_reducible refine' TyX.base (TyOf.dK ?h); (case h => (iterate 901 fail))))
local macro_rules | `(tactic| iterate 907 fail) => `(tactic| first
  | (with_reducible refine' k_tyL ?h ?k; (case h => (iterate 901 fail)))
  | (with_reducible refine' k_app ?h ?z ?k; (case h => (iterate 901 fail)); (case z => (iterate 904 fail)))
  | (with_reducible refine' k_gTup ?h ?z ?k; (case h => (iterate 902 fail)); (case z => exact rfl))
  | (with_reducible refine' k_I ?c ?k; (case c => first | decide | exact ⟨by decide, by decide⟩))
  | (with_reducible refine' k_ixL ?h ?a ?k; (case h => (iterate 902 fail)); (case a => exact rfl))
  | (with_reducible refine' k_ixT ?h ?a ?k; (case h => (iterate 902 fail)); (case a => exact rfl))
  | (with_reducible refine' k_lenL ?h ?k; (case h => (iterate 902 fail)))
  | (with_reducible refine' k_lenT ?h ?k; (case h => (iterate 902 fail)))
  | (with_reducible refine' k_lenS ?h ?k; (case h => (iterate 905 fail)))
  | (with_reducible refine' k_isi (b := true) ?t ?e ?k; (case t => (iterate 906 fail)); (case e => decide +kernel))
  | (with_reducible refine' k_isi (b := false) ?t ?e ?k; (case t => (iterate 906 fail)); (case e => decide +kernel)))
local macro_rules | `(tactic| iterate 908 fail) => `(tactic| first | with_reducible refine Stp.h ?_ | (iterate 907 fail))
local macro_rules | `(tactic| iterate 909 fail) => `(tactic| ((try dsimp only); repeat (iterate 908 fail)))
local macro_rules | `(tactic| iterate 910 fail) => `(tactic| (simp only [start_cons, start_nil, start_end]; repeat (iterate 908 fail)))

section
variable {P : Program} {w : World} {K : PySem.W.Frag} {mg : Str → Option Value} {base : Heap}
theorem elm1 {H : Hp} {x : V} (h : Elm H x) : ∀ y ∈ [x], Elm H y := fun y hy => by rw [List.mem_singleton.mp hy]; exact h
theorem elm2 {H : Hp} {x z : V} (h : Elm H x) (g : Elm H z) : ∀ y ∈ [x, z], Elm H y := fun y hy => by
  simp only [List.mem_cons, List.not_mem_nil, or_false] at hy
  rcases hy with rfl | rfl
  · exact h
  · exact g
/-- a ridge that is no range -/
def BadG (v : V) : Prop := ∃ l : List Nat, v = .str (T l) ∧ UD l ∧ l.length ≤ 100 ∧ NoG l
theorem noG_up {n : Nat} (h : 2 ≤ n) : NoG (List.replicate n 117 ++ [100]) := by
  have h1 := (bd_up n).at_
  refine .inr ?_
  have e1 : hAt (List.replicate n 117 ++ [100]) = (n : Int) - 1 := by rw [hAt_append, h1]; rfl
  rw [e1]
  omega
theorem ofT_du : Str.ofString "du" = T [100, 117] := by decide +kernel
theorem cl_du {n : Nat} (h : 1 ≤ n) : Cl (hts (List.replicate n 117 ++ [100, 117])) n := by
  have b1 := (bd_up n).snoc (c := 100) (.inr rfl) (by show (0 : Int) ≤ n + -1; omega) (by show (n : Int) + -1 ≤ n; omega)
  have b2 := b1.snoc (c := 117) (.inl rfl) (by show (0 : Int) ≤ n + -1 + 1; omega) (by show (n : Int) + -1 + 1 ≤ n; omega)
  rw [show (n : Int) + sgn 100 + sgn 117 = n by show (n : Int) + -1 + 1 = n; omega, List.append_assoc] at b2
  exact b2.cl
theorem rep_snoc (n : Nat) : List.replicate n 117 ++ [117] = List.replicate (n + 1) 117 := by rw [List.replicate_succ']
theorem rep_snoc2 (n : Nat) : List.replicate n 117 ++ [117, 117] = List.replicate (n + 2) 117 := by
  rw [show ([117, 117] : List Nat) = [117] ++ [117] from rfl, ← List.append_assoc, rep_snoc, rep_snoc]
def sp_L_others (G M U : Addr) : Sp := fun vs H Q E => ∃ k wh mo : Int, vs = [.int k, .int wh, .int mo] ∧ 0 ≤ wh ∧ 0 ≤ mo ∧ (k = 2 → ∀ H', Ex H H' → E (.ref G) none H') ∧ (k = 4 → ∀ H', Ex H H' → E (.ref M) none H') ∧ (k ≠ 2 → k ≠ 4 → ∀ H', Ex H H' → E (.ref U) none H')
abbrev s_L_others_asked : Stmt := topS 51
theorem sc_L_others_asked : FnScope ["_law_kind", "_law_which", "_law_more", "_law_some", "_law_one"] ["_law_kind", "_law_which", "_law_more"] (defScope s_L_others_asked) := ⟨rfl, rfl, rfl, by decide +kernel, rfl, by decide +kernel, by decide +kernel⟩
theorem ok_L_others_asked {f : Addr} {fd : FuncData} (F : Fun K "_law_others_asked" "_law_others_asked" s_L_others_asked f fd) {R C G M U : Addr} (c_meeting : Cal P w K mg base (L2N.CX P w) 6 "meeting" (sp_meeting R G)) (c_changed : Cal P w K mg base (L2N.CX P w) 7 "changed" (sp_changed R G)) (c_thinned : Cal P w K mg base (L2N.CX P w) 2 "thinned" (sp_thinned M))
    (c_together : Cal P w K mg base (L2N.CX P w) 6 "together" (sp_together R C U)) (c_in_unison : Cal P w K mg base (L2N.CX P w) 6 "in_unison" (sp_in_unison K R C U)) : FnOk P w K mg base (L2N.CX P w) 8 f fd ["_law_kind", "_law_which", "_law_more"] (sp_L_others G M U) := by
  refine Fun.okN F sc_L_others_asked (fun vs H Q E h => ?_) (fun cdv A outer s H vs Q E hr h => ?_)
  · obtain ⟨_, _, _, rfl, _⟩ := h
    rfl
  have hu := hu_of hr
  have hu64 := hr.units
  obtain ⟨fm, g_meeting, v_meeting⟩ := c_meeting.at_
  obtain ⟨fc, g_changed, v_changed⟩ := c_changed.at_
  have lX_meeting : ∀ p ∈ ([(6, fm, sp_meeting R G), (7, fc, sp_changed R G)] : List (Nat × Addr × Sp)), p.1 ≤ 7 ∧ CalV P w K mg base (L2N.CX P w) p.1 p.2.1 p.2.2 := by
    intro p hp
    simp only [List.mem_cons, List.not_mem_nil, or_false] at hp
    rcases hp with rfl | rfl
    · exact ⟨Nat.le_of_ble_eq_true rfl, v_meeting⟩
    · exact ⟨Nat.le_of_ble_eq_true rfl, v_changed⟩
  obtain ⟨k, wh, mo, rfl, hw, hm, q2, q4, q5⟩ := h
  refine ⟨_, (pss_cons (ps_if (pt_cmpR (op_eqUK (K := K) rfl hu64) (pv 0) pe_int (nomark _)) (pss_one (ps_ret (pe_callX lX_meeting hr (pex (L2N.takes_of rfl rfl rfl rfl)) (pe_ix (ix_seqK (K := K) rfl) (pe_lst (pa_cons (pe_gv (by rfl) g_meeting) (pa_cons (pe_gv (by rfl) g_changed) pa_nil))) (pe_op op_mod (pe_op op_fdiv (pv 1) pe_int) pe_int) (fun _ _ => rfl)) (pa_cons (pe_ix (ix_seqK (K := K) rfl) (pe_lst (pa_cons pe_str (pa_cons pe_str (pa_cons pe_str (pa_cons pe_str (pa_cons (pe_op (op_addUK (K := K) rfl) (pe_op op_mulS pe_str (pe_op (op_addUK (K := K) rfl) pe_int (pe_op op_mod (pv 2) pe_int))) pe_str) pa_nil)))))) (pe_op op_mod (pv 1) pe_int) (fun _ _ => rfl)) pa_nil)))) pss_nil)
    (pss_cons (ps_if (pt_cmpR (op_eqUK (K := K) rfl hu64) (pv 0) pe_int (nomark _)) (pss_cons (ps_set (i := 3) sc_L_others_asked.nd rfl (.inl rfl) (pe_lst (pa_cons pe_non (pa_cons (pe_tup (pa_cons pe_str pa_nil)) (pa_cons pe_str (pa_cons (pe_lst (pa_cons pe_str pa_nil)) (pa_cons (pe_lst (pa_cons pe_str (pa_cons pe_str pa_nil))) (pa_cons (pe_lst (pa_cons pe_str (pa_cons pe_non pa_nil))) (pa_cons (pe_lst (pa_cons pe_int pa_nil)) (pa_cons (pe_lst (pa_cons pe_str pa_nil)) (pa_cons (pe_lst (pa_cons pe_str pa_nil)) (pa_cons (pe_lst (pa_cons (pe_lst (pa_cons pe_str (pa_cons pe_str pa_nil))) pa_nil)) (pa_cons (pe_lst (pa_cons pe_dnewK pa_nil)) pa_nil)))))))))))))
    (pss_one (ps_ret (pe_cX c_thinned hr (by decide) (by rfl) (pex (L2N.takes_of rfl rfl rfl rfl)) (pa_cons (pe_ix (ix_seqK (K := K) rfl) (pe_op (op_addUK (K := K) rfl) (pv 3) (pe_lst (pa_cons (pe_lst (pa_cons (pe_tup (pa_cons pe_str (pa_cons pe_str pa_nil))) pa_nil)) (pa_cons (pe_lst (pa_cons pe_str (pa_cons (pe_lst (pa_cons pe_str (pa_cons pe_str pa_nil))) pa_nil))) pa_nil)))) (pe_op op_mod (pv 1) pe_int) (fun _ _ => rfl)) pa_nil))))) pss_nil)
    (pss_cons (ps_set (i := 4) sc_L_others_asked.nd rfl (.inl rfl) (pe_op op_mulS pe_str (pe_op (op_addUK (K := K) rfl) pe_int (pe_op op_mod (pv 2) pe_int))))
    (pss_cons (ps_if (pt_cmpR (op_eqUK (K := K) rfl hu64) (pe_op op_mod (pv 1) pe_int) pe_int (nomark _)) (pss_one (ps_ret (pe_cX c_together hr (by decide) (by rfl) (pex (L2N.takes_of rfl rfl rfl rfl)) (pa_cons (pv 4) (pa_cons (pe_op (op_addUK (K := K) rfl) (pv 4) pe_str) pa_nil))))) pss_nil)
    (pss_one (ps_ret (pe_cX c_in_unison hr (by decide) (by rfl) (pex (L2N.takes_of rfl rfl rfl rfl)) (pa_cons (pe_ix (ix_seqK (K := K) rfl) (pe_lst (pa_cons (pe_lst (pa_cons (pv 4) (pa_cons (pe_op (op_addUK (K := K) rfl) (pv 4) pe_str) (pa_cons (pe_op (op_addUK (K := K) rfl) (pv 4) pe_str) pa_nil)))) (pa_cons (pe_lst (pa_cons (pv 4) (pa_cons (pe_op (op_addUK (K := K) rfl) (pv 4) pe_str) (pa_cons (pv 4) pa_nil)))) pa_nil))) (pe_op op_mod (pe_op op_fdiv (pv 1) pe_int) pe_int) (fun _ _ => rfl)) pa_nil)))))))), ?_⟩
  (iterate 910 fail)
  refine k_if (fun hk => ?_) (fun hk2 => ?_)
  · subst hk
    (iterate 909 fail)
    refine ⟨by (iterate 904 fail), fun p1 n1 => ?_⟩
    (iterate 909 fail)
    refine k_I ⟨by decide, by decide⟩ ?_
    (iterate 909 fail)
    have e1 := Ex.new n1 (o := .lst [.ref fm, .ref fc])
    have s1 : SqL K (upd H p1 (.lst [.ref fm, .ref fc])) p1 [.ref fm, .ref fc] := SqL.of upd_same
    generalize upd H p1 (.lst [.ref fm, .ref fc]) = H1 at e1 s1 ⊢
    obtain ⟨fv', hv, mv⟩ := atI_mem (xs := [.ref fm, .ref fc]) (i := wh / 5 % 2) (by omega) (by simp; omega)
    refine k_ixL s1 hv ?_
    have bad : ∀ v ∈ ([V.str (Str.ofString "u"), V.str (T [100]), V.str (Str.ofString "du"), V.str (Str.ofString "udd"), V.str (T (List.replicate (2 + mo % 9).toNat 117 ++ [100]))] : List V), BadG v := by
      intro v mv
      rw [ofT_u, ofT_du, ofT_udd] at mv
      simp only [List.mem_cons, List.not_mem_nil, or_false] at mv
      rcases mv with rfl | rfl | rfl | rfl | rfl
      · exact ⟨_, rfl, ud_ups 1, by decide, .inr (by decide)⟩
      · exact ⟨_, rfl, by unfold UD; decide, by decide, .inl ⟨1, by decide, by decide⟩⟩
      · exact ⟨_, rfl, by unfold UD; decide, by decide, .inl ⟨1, by decide, by decide⟩⟩
      · exact ⟨_, rfl, by unfold UD; decide, by decide, .inl ⟨3, by decide, by decide⟩⟩
      · exact ⟨_, rfl, ud_snoc (ud_ups _) (.inr rfl), by rw [List.length_append, List.length_replicate]; simp; omega, noG_up (by omega)⟩
    simp only [List.mem_cons, List.not_mem_nil, or_false] at mv
    rcases mv with rfl | rfl
    · refine ⟨(6, fm, sp_meeting R G), by simp, rfl, ?_⟩
      (iterate 909 fail)
      refine ⟨_, _, rfl, rfl, by omega, by omega, by show 1 * _ ≤ _; omega, ?_⟩
      (iterate 909 fail)
      rw [rep_u, ofT_d]
      refine k_addS (by apply line_le; show (List.replicate _ 117).length + 1 ≤ _; rw [List.length_replicate]; omega) ?_
      rw [T_cat]
      (iterate 909 fail)
      refine ⟨by (iterate 904 fail), fun p3 n3 => ?_⟩
      (iterate 909 fail)
      obtain ⟨v, hv, mv⟩ := atI_mem (xs := [V.str (Str.ofString "u"), V.str (T [100]), V.str (Str.ofString "du"), V.str (Str.ofString "udd"), V.str (T (List.replicate (2 + mo % 9).toNat 117 ++ [100]))]) (i := wh % 5) (by omega) (by simp; omega)
      refine k_ixL (SqL.of upd_same) hv ?_
      obtain ⟨l, rfl, hl, hz, hn⟩ := bad v mv
      (iterate 909 fail)
      exact ⟨_, rfl, .inl (.inr ⟨l, rfl, hl, by omega, hn, fun H' e => q2 rfl _ ((e1.trans (Ex.new n3)).trans e)⟩)⟩
    · refine ⟨(7, fc, sp_changed R G), by simp, rfl, ?_⟩
      (iterate 909 fail)
      refine ⟨_, _, rfl, rfl, by omega, by omega, by show 1 * _ ≤ _; omega, ?_⟩
      (iterate 909 fail)
      rw [rep_u, ofT_d]
      refine k_addS (by apply line_le; show (List.replicate _ 117).length + 1 ≤ _; rw [List.length_replicate]; omega) ?_
      rw [T_cat]
      (iterate 909 fail)
      refine ⟨by (iterate 904 fail), fun p3 n3 => ?_⟩
      (iterate 909 fail)
      obtain ⟨v, hv, mv⟩ := atI_mem (xs := [V.str (Str.ofString "u"), V.str (T [100]), V.str (Str.ofString "du"), V.str (Str.ofString "udd"), V.str (T (List.replicate (2 + mo % 9).toNat 117 ++ [100]))]) (i := wh % 5) (by omega) (by simp; omega)
      refine k_ixL (SqL.of upd_same) hv ?_
      obtain ⟨l, rfl, hl, hz, hn⟩ := bad v mv
      (iterate 909 fail)
      exact ⟨_, rfl, (.inr ⟨l, rfl, hl, by omega, hn, fun H' e => q2 rfl _ ((e1.trans (Ex.new n3)).trans e)⟩)⟩
  (iterate 909 fail)
  refine k_if (fun hk => ?_) (fun hk4 => ?_)
  · subst hk
    (iterate 909 fail)
    refine ⟨by (iterate 904 fail), fun p1 n1 => ?_⟩
    have f1 : upd H p1 (.tup [.str (Str.ofString "ff")]) p1 = some (.tup [.str (Str.ofString "ff")]) := upd_same
    have x1 := Ex.new n1 (o := .tup [.str (Str.ofString "ff")])
    generalize upd H p1 (.tup [.str (Str.ofString "ff")]) = G1 at f1 x1 ⊢
    (iterate 909 fail)
    refine ⟨by (iterate 904 fail), fun p2 n2 => ?_⟩
    have f2 : upd G1 p2 (.lst [.str (Str.ofString "f")]) p2 = some (.lst [.str (Str.ofString "f")]) := upd_same
    have x2 := Ex.new n2 (o := .lst [.str (Str.ofString "f")])
    generalize upd G1 p2 (.lst [.str (Str.ofString "f")]) = G2 at f2 x2 ⊢
    (iterate 909 fail)
    refine ⟨by (iterate 904 fail), fun p3 n3 => ?_⟩
    have f3 : upd G2 p3 (.lst [.str (Str.ofString "ff"), .str (Str.ofString "fx")]) p3 = some (.lst [.str (Str.ofString "ff"), .str (Str.ofString "fx")]) := upd_same
    have x3 := Ex.new n3 (o := .lst [.str (Str.ofString "ff"), .str (Str.ofString "fx")])
    generalize upd G2 p3 (.lst [.str (Str.ofString "ff"), .str (Str.ofString "fx")]) = G3 at f3 x3 ⊢
    (iterate 909 fail)
    refine ⟨by (iterate 904 fail), fun p4 n4 => ?_⟩
    have f4 : upd G3 p4 (.lst [.str (Str.ofString "ff"), .non]) p4 = some (.lst [.str (Str.ofString "ff"), .non]) := upd_same
    have x4 := Ex.new n4 (o := .lst [.str (Str.ofString "ff"), .non])
    generalize upd G3 p4 (.lst [.str (Str.ofString "ff"), .non]) = G4 at f4 x4 ⊢
    (iterate 909 fail)
    refine ⟨by (iterate 904 fail), fun p5 n5 => ?_⟩
    have f5 : upd G4 p5 (.lst [.int 5]) p5 = some (.lst [.int 5]) := upd_same
    have x5 := Ex.new n5 (o := .lst [.int 5])
    generalize upd G4 p5 (.lst [.int 5]) = G5 at f5 x5 ⊢
    (iterate 909 fail)
    refine ⟨by (iterate 904 fail), fun p6 n6 => ?_⟩
    have f6 : upd G5 p6 (.lst [.str (Str.ofString "FF")]) p6 = some (.lst [.str (Str.ofString "FF")]) := upd_same
    have x6 := Ex.new n6 (o := .lst [.str (Str.ofString "FF")])
    generalize upd G5 p6 (.lst [.str (Str.ofString "FF")]) = G6 at f6 x6 ⊢
    (iterate 909 fail)
    refine ⟨by (iterate 904 fail), fun p7 n7 => ?_⟩
    have f7 : upd G6 p7 (.lst [.str (Str.ofString "ffb")]) p7 = some (.lst [.str (Str.ofString "ffb")]) := upd_same
    have x7 := Ex.new n7 (o := .lst [.str (Str.ofString "ffb")])
    generalize upd G6 p7 (.lst [.str (Str.ofString "ffb")]) = G7 at f7 x7 ⊢
    (iterate 909 fail)
    refine ⟨by (iterate 904 fail), fun p8 n8 => ?_⟩
    have f8 : upd G7 p8 (.lst [.str (Str.ofString "f"), .str (Str.ofString "f")]) p8 = some (.lst [.str (Str.ofString "f"), .str (Str.ofString "f")]) := upd_same
    have x8 := Ex.new n8 (o := .lst [.str (Str.ofString "f"), .str (Str.ofString "f")])
    generalize upd G7 p8 (.lst [.str (Str.ofString "f"), .str (Str.ofString "f")]) = G8 at f8 x8 ⊢
    (iterate 909 fail)
    refine ⟨by (iterate 904 fail), fun p9 n9 => ?_⟩
    have f9 : upd G8 p9 (.lst [.ref p8]) p9 = some (.lst [.ref p8]) := upd_same
    have x9 := Ex.new n9 (o := .lst [.ref p8])
    generalize upd G8 p9 (.lst [.ref p8]) = G9 at f9 x9 ⊢
    (iterate 909 fail)
    intro p10 n10
    have f10 : upd G9 p10 (.dK []) p10 = some (.dK []) := upd_same
    have x10 := Ex.new n10 (o := .dK [])
    generalize upd G9 p10 (.dK []) = G10 at f10 x10 ⊢
    (iterate 909 fail)
    refine ⟨by (iterate 904 fail), fun p11 n11 => ?_⟩
    have f11 : upd G10 p11 (.lst [.ref p10]) p11 = some (.lst [.ref p10]) := upd_same
    have x11 := Ex.new n11 (o := .lst [.ref p10])
    generalize upd G10 p11 (.lst [.ref p10]) = G11 at f11 x11 ⊢
    (iterate 909 fail)
    refine ⟨by (iterate 904 fail), fun p12 n12 => ?_⟩
    have f12 : upd G11 p12 (.lst [V.non, V.ref p1, V.str (Str.ofString "ff"), V.ref p2, V.ref p3, V.ref p4, V.ref p5, V.ref p6, V.ref p7, V.ref p9, V.ref p11]) p12 = some (.lst [V.non, V.ref p1, V.str (Str.ofString "ff"), V.ref p2, V.ref p3, V.ref p4, V.ref p5, V.ref p6, V.ref p7, V.ref p9, V.ref p11]) := upd_same
    have x12 := Ex.new n12 (o := .lst [V.non, V.ref p1, V.str (Str.ofString "ff"), V.ref p2, V.ref p3, V.ref p4, V.ref p5, V.ref p6, V.ref p7, V.ref p9, V.ref p11])
    generalize upd G11 p12 (.lst [V.non, V.ref p1, V.str (Str.ofString "ff"), V.ref p2, V.ref p3, V.ref p4, V.ref p5, V.ref p6, V.ref p7, V.ref p9, V.ref p11]) = G12 at f12 x12 ⊢
    (iterate 909 fail)
    refine ⟨by (iterate 904 fail), fun p13 n13 => ?_⟩
    have f13 : upd G12 p13 (.tup [.str (Str.ofString "f"), .str (Str.ofString "f")]) p13 = some (.tup [.str (Str.ofString "f"), .str (Str.ofString "f")]) := upd_same
    have x13 := Ex.new n13 (o := .tup [.str (Str.ofString "f"), .str (Str.ofString "f")])
    generalize upd G12 p13 (.tup [.str (Str.ofString "f"), .str (Str.ofString "f")]) = G13 at f13 x13 ⊢
    (iterate 909 fail)
    refine ⟨by (iterate 904 fail), fun p14 n14 => ?_⟩
    have f14 : upd G13 p14 (.lst [.ref p13]) p14 = some (.lst [.ref p13]) := upd_same
    have x14 := Ex.new n14 (o := .lst [.ref p13])
    generalize upd G13 p14 (.lst [.ref p13]) = G14 at f14 x14 ⊢
    (iterate 909 fail)
    refine ⟨by (iterate 904 fail), fun p15 n15 => ?_⟩
    have f15 : upd G14 p15 (.lst [.str (Str.ofString "b"), .str (Str.ofString "b")]) p15 = some (.lst [.str (Str.ofString "b"), .str (Str.ofString "b")]) := upd_same
    have x15 := Ex.new n15 (o := .lst [.str (Str.ofString "b"), .str (Str.ofString "b")])
    generalize upd G14 p15 (.lst [.str (Str.ofString "b"), .str (Str.ofString "b")]) = G15 at f15 x15 ⊢
    (iterate 909 fail)
    refine ⟨by (iterate 904 fail), fun p16 n16 => ?_⟩
    have f16 : upd G15 p16 (.lst [.str (Str.ofString "ff"), .ref p15]) p16 = some (.lst [.str (Str.ofString "ff"), .ref p15]) := upd_same
    have x16 := Ex.new n16 (o := .lst [.str (Str.ofString "ff"), .ref p15])
    generalize upd G15 p16 (.lst [.str (Str.ofString "ff"), .ref p15]) = G16 at f16 x16 ⊢
    (iterate 909 fail)
    refine ⟨by (iterate 904 fail), fun p17 n17 => ?_⟩
    have f17 : upd G16 p17 (.lst [V.ref p14, V.ref p16]) p17 = some (.lst [V.ref p14, V.ref p16]) := upd_same
    have x17 := Ex.new n17 (o := .lst [V.ref p14, V.ref p16])
    generalize upd G16 p17 (.lst [V.ref p14, V.ref p16]) = G17 at f17 x17 ⊢
    (iterate 909 fail)
    have y17 := Ex.refl G17
    have y16 : Ex G16 G17 := x17.trans y17
    have y15 : Ex G15 G17 := x16.trans y16
    have y14 : Ex G14 G17 := x15.trans y15
    have y13 : Ex G13 G17 := x14.trans y14
    have y12 : Ex G12 G17 := x13.trans y13
    have y11 : Ex G11 G17 := x12.trans y12
    have y10 : Ex G10 G17 := x11.trans y11
    have y9 : Ex G9 G17 := x10.trans y10
    have y8 : Ex G8 G17 := x9.trans y9
    have y7 : Ex G7 G17 := x8.trans y8
    have y6 : Ex G6 G17 := x7.trans y7
    have y5 : Ex G5 G17 := x6.trans y6
    have y4 : Ex G4 G17 := x5.trans y5
    have y3 : Ex G3 G17 := x4.trans y4
    have y2 : Ex G2 G17 := x3.trans y3
    have y1 : Ex G1 G17 := x2.trans y2
    have y0 : Ex H G17 := x1.trans y1
    refine k_addL (SqL.of (y12.use f12)) (SqL.of f17) (by (iterate 904 fail)) fun p18 n18 => ?_
    have all : ∀ v ∈ ([V.non, V.ref p1, V.str (Str.ofString "ff"), V.ref p2, V.ref p3, V.ref p4, V.ref p5, V.ref p6, V.ref p7, V.ref p9, V.ref p11] ++ [V.ref p14, V.ref p16]), NoM G17 v := by
      intro v hv
      simp only [List.cons_append, List.nil_append, List.mem_cons, List.not_mem_nil, or_false] at hv
      rcases hv with rfl | rfl | rfl | rfl | rfl | rfl | rfl | rfl | rfl | rfl | rfl | rfl | rfl
      · exact .inl .non
      · exact .inl (.tup (y1.use f1))
      · exact .inl (.str _)
      · exact .inr ⟨p2, _, rfl, y2.use f2, by simp, elm1 (.str _), by decide +kernel⟩
      · exact .inr ⟨p3, _, rfl, y3.use f3, by simp, elm2 (.str _) (.str _), by decide +kernel⟩
      · exact .inr ⟨p4, _, rfl, y4.use f4, by simp, elm2 (.str _) .non, by decide +kernel⟩
      · exact .inr ⟨p5, _, rfl, y5.use f5, by simp, elm1 (.int _), by decide +kernel⟩
      · exact .inr ⟨p6, _, rfl, y6.use f6, by simp, elm1 (.str _), by decide +kernel⟩
      · exact .inr ⟨p7, _, rfl, y7.use f7, by simp, elm1 (.str _), by decide +kernel⟩
      · exact .inr ⟨p9, _, rfl, y9.use f9, by simp, elm1 (.lst (y8.use f8)), by simp [okM]⟩
      · exact .inr ⟨p11, _, rfl, y11.use f11, by simp, elm1 (.dK (y10.use f10)), by simp [okM]⟩
      · exact .inr ⟨p14, _, rfl, y14.use f14, by simp, elm1 (.tup (y13.use f13)), by simp [okM]⟩
      · exact .inr ⟨p16, _, rfl, y16.use f16, by simp, elm2 (.str _) (.lst (y15.use f15)), by simp [okM]⟩
    have f18 : upd G17 p18 (.lst ([V.non, V.ref p1, V.str (Str.ofString "ff"), V.ref p2, V.ref p3, V.ref p4, V.ref p5, V.ref p6, V.ref p7, V.ref p9, V.ref p11] ++ [V.ref p14, V.ref p16])) p18 = some (.lst ([V.non, V.ref p1, V.str (Str.ofString "ff"), V.ref p2, V.ref p3, V.ref p4, V.ref p5, V.ref p6, V.ref p7, V.ref p9, V.ref p11] ++ [V.ref p14, V.ref p16])) := upd_same
    have x18 := Ex.new n18 (o := .lst ([V.non, V.ref p1, V.str (Str.ofString "ff"), V.ref p2, V.ref p3, V.ref p4, V.ref p5, V.ref p6, V.ref p7, V.ref p9, V.ref p11] ++ [V.ref p14, V.ref p16]))
    generalize upd G17 p18 (.lst ([V.non, V.ref p1, V.str (Str.ofString "ff"), V.ref p2, V.ref p3, V.ref p4, V.ref p5, V.ref p6, V.ref p7, V.ref p9, V.ref p11] ++ [V.ref p14, V.ref p16])) = HZ at f18 x18 ⊢
    have len : ([V.non, V.ref p1, V.str (Str.ofString "ff"), V.ref p2, V.ref p3, V.ref p4, V.ref p5, V.ref p6, V.ref p7, V.ref p9, V.ref p11] ++ [V.ref p14, V.ref p16]).length = 13 := rfl
    generalize ([V.non, V.ref p1, V.str (Str.ofString "ff"), V.ref p2, V.ref p3, V.ref p4, V.ref p5, V.ref p6, V.ref p7, V.ref p9, V.ref p11] ++ [V.ref p14, V.ref p16]) = xs at all f18 len
    have ez : Ex H HZ := y0.trans x18
    obtain ⟨v, hv, mv⟩ := atI_mem (xs := xs) (i := wh % 13) (by omega) (by rw [len]; omega)
    have nm := (all v mv).ex x18
    (iterate 909 fail)
    refine k_ixL (SqL.of f18) hv ?_
    (iterate 909 fail)
    exact ⟨_, rfl, .inl ⟨nm, fun H' e => q4 rfl _ (ez.trans e)⟩⟩
  (iterate 909 fail)
  have n1 : ∃ n : Nat, (1 + mo % 6).toNat = n ∧ 1 ≤ n ∧ n ≤ 6 := ⟨_, rfl, by omega, by omega⟩
  obtain ⟨n, hn, hn1, hn6⟩ := n1
  refine ⟨_, _, rfl, rfl, by omega, by omega, by show 1 * _ ≤ _; omega, ?_⟩
  rw [rep_u, hn]
  have qu : ∀ {H1 : Hp}, Ex H H1 → ∀ H', Ex H1 H' → E (.ref U) none H' := fun e H' e' => q5 hk2 hk4 _ (e.trans e')
  have ln : ∀ (l : List Nat), l.length ≤ 8 → l.length ≤ 8000000 := fun l h => by omega
  (iterate 909 fail)
  refine k_if (fun _ => ?_) (fun _ => ?_)
  · (iterate 909 fail)
    rw [ofT_u]
    refine k_addS (by apply line_le; show (List.replicate _ 117).length + 1 ≤ _; rw [List.length_replicate]; omega) ?_
    rw [T_cat, rep_snoc]
    (iterate 909 fail)
    exact ⟨_, _, rfl, .inr ⟨_, n, rfl, ud_ups n, by rw [List.length_replicate]; omega, cl_ups n, .inr ⟨_, ((n + 1 : Nat) : Int), rfl, ud_ups _, by rw [List.length_replicate]; omega, cl_ups _, by omega, qu (Ex.refl _)⟩⟩⟩
  (iterate 909 fail)
  rw [ofT_du, ofT_uu]
  refine k_addS (by apply line_le; show (List.replicate _ 117).length + 2 ≤ _; rw [List.length_replicate]; omega) ?_
  rw [T_cat]
  (iterate 909 fail)
  refine k_addS (by apply line_le; show (List.replicate _ 117).length + 2 ≤ _; rw [List.length_replicate]; omega) ?_
  rw [T_cat, rep_snoc2]
  (iterate 909 fail)
  refine ⟨by (iterate 904 fail), fun p1 n1 => ?_⟩
  have f1 : upd H p1 (.lst [.str (T (List.replicate n 117)), .str (T (List.replicate n 117 ++ [100, 117])), .str (T (List.replicate (n + 2) 117))]) p1 = some (.lst [.str (T (List.replicate n 117)), .str (T (List.replicate n 117 ++ [100, 117])), .str (T (List.replicate (n + 2) 117))]) := upd_same
  have x1 := Ex.new n1 (o := .lst [.str (T (List.replicate n 117)), .str (T (List.replicate n 117 ++ [100, 117])), .str (T (List.replicate (n + 2) 117))])
  generalize upd H p1 (.lst [.str (T (List.replicate n 117)), .str (T (List.replicate n 117 ++ [100, 117])), .str (T (List.replicate (n + 2) 117))]) = H1 at f1 x1 ⊢
  (iterate 909 fail)
  refine k_addS (by apply line_le; show (List.replicate _ 117).length + 2 ≤ _; rw [List.length_replicate]; omega) ?_
  rw [T_cat, rep_snoc2]
  (iterate 909 fail)
  refine ⟨by (iterate 904 fail), fun p2 n2 => ?_⟩
  have f2 : upd H1 p2 (.lst [.str (T (List.replicate n 117)), .str (T (List.replicate (n + 2) 117)), .str (T (List.replicate n 117))]) p2 = some (.lst [.str (T (List.replicate n 117)), .str (T (List.replicate (n + 2) 117)), .str (T (List.replicate n 117))]) := upd_same
  have x2 := Ex.new n2 (o := .lst [.str (T (List.replicate n 117)), .str (T (List.replicate (n + 2) 117)), .str (T (List.replicate n 117))])
  generalize upd H1 p2 (.lst [.str (T (List.replicate n 117)), .str (T (List.replicate (n + 2) 117)), .str (T (List.replicate n 117))]) = H2 at f2 x2 ⊢
  (iterate 909 fail)
  refine ⟨by (iterate 904 fail), fun p3 n3 => ?_⟩
  have x3 := Ex.new n3 (o := .lst [.ref p1, .ref p2])
  have f3 : upd H2 p3 (.lst [.ref p1, .ref p2]) p3 = some (.lst [.ref p1, .ref p2]) := upd_same
  generalize upd H2 p3 (.lst [.ref p1, .ref p2]) = H3 at f3 x3 ⊢
  (iterate 909 fail)
  refine k_I ⟨by decide, by decide⟩ ?_
  (iterate 909 fail)
  obtain ⟨v, hv, mv⟩ := atI_mem (xs := [V.ref p1, V.ref p2]) (i := wh / 2 % 2) (by omega) (by simp; omega)
  refine k_ixL (SqL.of f3) hv ?_
  (iterate 909 fail)
  have u2 : UD (List.replicate n 117 ++ [100, 117]) := fun c hc => by
    rcases List.mem_append.mp hc with e | e
    · exact ud_ups n c e
    · simp only [List.mem_cons, List.not_mem_nil, or_false] at e
      omega
  have d1 : HasD K H3 (.str (T (List.replicate n 117))) := hasD_str (okc_ud (ud_ups n))
  have d2 : HasD K H3 (.str (T (List.replicate n 117 ++ [100, 117]))) := hasD_str (okc_ud u2)
  have d3 : HasD K H3 (.str (T (List.replicate (n + 2) 117))) := hasD_str (okc_ud (ud_ups _))
  have z1 : (List.replicate n 117).length ≤ 8000000 := by rw [List.length_replicate]; omega
  have z2 : (List.replicate n 117 ++ [100, 117]).length ≤ 8000000 := by rw [List.length_append, List.length_replicate]; simp; omega
  have z3 : (List.replicate (n + 2) 117).length ≤ 8000000 := by rw [List.length_replicate]; omega
  have ez := (x1.trans x2).trans x3
  simp only [List.mem_cons, List.not_mem_nil, or_false] at mv
  rcases mv with rfl | rfl
  · refine uni_of (x3.use (x2.use f1)) (by simp) (by simp) (fun x hx => ?_) ⟨3, fun i => if i = 2 then ((n + 2 : Nat) : Int) else n, by simp, fun i hi => ?_, .inr ⟨rfl, ⟨0, 2, by decide, by decide, by simp; omega⟩, qu ez⟩⟩
    · simp only [List.mem_cons, List.not_mem_nil, or_false] at hx
      rcases hx with rfl | rfl | rfl <;> assumption
    · have : i = 0 ∨ i = 1 ∨ i = 2 := by omega
      rcases this with rfl | rfl | rfl
      · exact ⟨_, rfl, ud_ups n, z1, cl_ups n⟩
      · exact ⟨_, rfl, u2, z2, cl_du hn1⟩
      · exact ⟨_, rfl, ud_ups _, z3, cl_ups _⟩
  · refine uni_of (x3.use f2) (by simp) (by simp) (fun x hx => ?_) ⟨3, fun i => if i = 1 then ((n + 2 : Nat) : Int) else n, by simp, fun i hi => ?_, .inr ⟨rfl, ⟨0, 1, by decide, by decide, by simp; omega⟩, qu ez⟩⟩
    · simp only [List.mem_cons, List.not_mem_nil, or_false] at hx
      rcases hx with rfl | rfl | rfl <;> assumption
    · have : i = 0 ∨ i = 1 ∨ i = 2 := by omega
      rcases this with rfl | rfl | rfl
      · exact ⟨_, rfl, ud_ups n, z1, cl_ups n⟩
      · exact ⟨_, rfl, ud_ups _, z3, cl_ups _⟩
      · exact ⟨_, rfl, ud_ups n, z1, cl_ups n⟩
end
end U

set_option Elab.async false
set_option linter.all false
set_option maxRecDepth 100000
set_option maxHeartbeats 4000000
namespace U
open PySem PySem.Spec PyProof.Rows L2
local macro_rules | `(tactic| iterate 901 fail) => `(tactic| first
  | with_reducible assumption
  | with_reducible exact upd_same
  | (with_reducible refine' Ex.use (Ex.new ?n) ?h; (case n => with_reducible assumption); (case h => (iterate 901 fail)))
  | (with_reducible refine' Ex.use ?n ?h; (case n => with_reducible assumption); (case h => (iterate 901 fail))))
local macro_rules | `(tactic| iterate 902 fail) => `(tactic| first
  | with_reducible assumption
  | (with_reducible refine' SqL.of ?h; (case h => (iterate 901 fail)))
  | (with_reducible refine' SqT.of ?h; (case h => (iterate 901 fail)))
  | (iterate 912 fail))
local macro_rules | `(tactic| iterate 912 fail) => `(tactic| first
  | with_reducible assumption
  | (with_reducible refine' Ex.sql (Ex.new ?n) ?h; (case n => with_reducible assumption); (case h => (iterate 912 fail)))
  | (with_reducible refine' Ex.sqt (Ex.new ?n) ?h; (case n => with_reducible assumption); (case h => (iterate 912 fail)))
  | (with_reducible refine' Ex.sql ?n ?h; (case n => with_reducible assumption); (case h => (iterate 912 fail)))
  | (with_reducible refine' Ex.sqt ?n ?h; (case n => with_reducible assumption); (case h => (iterate 912 fail))))
local macro_rules | `(tactic| iterate 903 fail) => `(tactic| first
  | with_reducible assumption
  | with_reducible exact Ex.refl _
  | (with_reducible refine' Ex.mk ?e ?n; (case n => with_reducible assumption); (case e => (iterate 903 fail)))
  | (with_reducible refine' Ex.trans ?e ?n; (case n => with_reducible assumption); (case e => (iterate 903 fail))))
local macro_rules | `(tactic| iterate 904 fail) => `(tactic| first
  | with_reducible assumption
  | (apply line_le; simp only [List.length_cons, List.length_nil, List.length_append, List.length_map, List.length_range]; omega)
  | (apply line_lt; simp only [List.length_cons, List.length_nil, List.length_append, List.length_map, List.length_range]; omega))
local macro_rules | `(tactic| iterate 905 fail) => `(tactic| (apply line_le; first | (show List.length _ ≤ _; omega) | (simp only [U.T, PySem.Str.length, List.size_toArray, List.length_cons, List.length_nil, List.length_append, List.length_map, List.length_reverse]; omega)))
local macro_rules | `(tactic| iterate 906 fail) => `(tactic| first
  | with_reducible exact TyX.base (TyOf.str _) | with_reducible exact TyX.base (TyOf.int _) | with_reducible exact TyX.base (TyOf.bl _) | with_reducible exact TyX.base TyOf.non
  | (with_reducible refine' TyX.base (TyOf.lst ?h); (case h => (iterate 901 fail))) | (with_reducible refine' TyX.base (TyOf.tup ?h); (case h => (iterate 901 fail))) | (with_reducible refine' TyX.base (TyOf.dK ?h); (case h => (iterate 901 fail))))
local macro_rules | `(tactic| iterate 907 fail) => `(tactic| first
  | (with_reducible refine' k_tyL ?h ?k; (case h => (iterate 901 fail)))
  | (with_reducible refine' k_app ?h ?z ?k; (case h => (iterate 901 fail)); (case z => (iterate 904 fail)))
  | (with_reducible refine' k_gTup ?h ?z ?k; (case h => (iterate 902 fail)); (case z => exact rfl))
  | (with_reducible refine' k_I ?c ?k; (case c => first | decide | exact ⟨by decide, by decide⟩))
  | (with_reducible refine' k_ixL ?h ?a ?k; (case h => (iterate 902 fail)); (case a => exact rfl))
  | (with_reducible refine' k_ixT ?h ?a ?k; (case h => (iterate 902 fail)); (case a => exact rfl))
  | (with_reducible refine' k_lenL ?h ?k; (case h => (iterate 902 fail)))
  | (with_reducible refine' k_lenT ?h ?k; (case h => (iterate 902 fail)))
  | (with_reducible refine' k_lenS ?h ?k; (case h => (iterate 905 fail)))
  | (with_reducible refine' k_isi (b := true) ?t ?e ?k; (case t => (iterate 906 fail)); (case e => decide +kernel))
  | (with_reducible refine' k_isi (b := false) ?t ?e ?k; (case t => (iterate 906 fail)); (case e => decide +kernel)))
local macro_rules | `(tactic| iterate 908 fail) => `(tactic| first | with_reducible refine Stp.h ?_ | (iterate 907 fail))
local macro_rules | `(tactic| iterate 909 fail) => `(tactic| ((try dsimp only); repeat (iterate 908 fail)))
local macro_rules | `(tactic| iterate 910 fail) => `(tactic| (simp only [start_cons, start_nil, start_end]; repeat (iterate 908 fail)))

section
variable {P : Program} {w : World} {K : PySem.W.Frag} {mg : Str → Option Value} {base : Heap}
def due (k : Int) : List Bool := [decide (k = 0), decide (k = 1), decide (k = 2), decide (k = 3), decide (k = 4), decide (k = 5), true]
def sp_L_told : Sp := fun vs H Q _ => ∃ k wh mo : Int, vs = [.int k, .int wh, .int mo] ∧ 0 ≤ k ∧ k < 6 ∧ 0 ≤ wh ∧ 0 ≤ mo ∧ ∀ H' r, Ex H H' → H' r = some (.lst ((due k).map V.bl)) → Q (.ref r) H'
abbrev s_L_told : Stmt := topS 52
theorem sc_L_told : FnScope ["_law_kind", "_law_which", "_law_more", "error", "_law_found"] ["_law_kind", "_law_which", "_law_more"] (defScope s_L_told) := ⟨rfl, rfl, rfl, by decide +kernel, rfl, by decide +kernel, by decide +kernel⟩
theorem ok_L_told {f : Addr} {fd : FuncData} (F : Fun K "_law_told" "_law_told" s_L_told f fd) {R C G B M U S : Addr} (c_L_ridge_asked : Cal P w K mg base (L2N.CX P w) 8 "_law_ridge_asked" (sp_L_ridge R))
    (c_L_climb_asked : Cal P w K mg base (L2N.CX P w) 7 "_law_climb_asked" (sp_L_climb C))
    (c_L_places_asked : Cal P w K mg base (L2N.CX P w) 6 "_law_places_asked" (sp_L_places B))
    (c_L_others_asked : Cal P w K mg base (L2N.CX P w) 8 "_law_others_asked" (sp_L_others G M U))
    (x_RidgeError : OwnX K mg "RidgeError" S)
    (g_BadRidge : ∃ u, mg "BadRidge" = some u ∧ RelV (.ref R) u)
    (g_BadClimb : ∃ u, mg "BadClimb" = some u ∧ RelV (.ref C) u)
    (g_BadRange : ∃ u, mg "BadRange" = some u ∧ RelV (.ref G) u)
    (g_BadPlaces : ∃ u, mg "BadPlaces" = some u ∧ RelV (.ref B) u)
    (g_BadMoves : ∃ u, mg "BadMoves" = some u ∧ RelV (.ref M) u)
    (g_Unlike : ∃ u, mg "Unlike" = some u ∧ RelV (.ref U) u)
    (hU_BadRidge : CatX K R S)
    (hU_BadClimb : CatX K C S)
    (hU_BadRange : CatX K G S)
    (hU_BadPlaces : CatX K B S)
    (hU_BadMoves : CatX K M S)
    (hU_Unlike : CatX K U S)
    (h_BadRidge_BadClimb : PySem.W.kitOne K (.ref R) (.ref C) = some false)
    (h_BadRidge_BadRange : PySem.W.kitOne K (.ref R) (.ref G) = some false)
    (h_BadRidge_BadPlaces : PySem.W.kitOne K (.ref R) (.ref B) = some false)
    (h_BadRidge_BadMoves : PySem.W.kitOne K (.ref R) (.ref M) = some false)
    (h_BadRidge_Unlike : PySem.W.kitOne K (.ref R) (.ref U) = some false)
    (h_BadClimb_BadRidge : PySem.W.kitOne K (.ref C) (.ref R) = some false)
    (h_BadClimb_BadRange : PySem.W.kitOne K (.ref C) (.ref G) = some false)
    (h_BadClimb_BadPlaces : PySem.W.kitOne K (.ref C) (.ref B) = some false)
    (h_BadClimb_BadMoves : PySem.W.kitOne K (.ref C) (.ref M) = some false)
    (h_BadClimb_Unlike : PySem.W.kitOne K (.ref C) (.ref U) = some false)
    (h_BadRange_BadRidge : PySem.W.kitOne K (.ref G) (.ref R) = some false)
    (h_BadRange_BadClimb : PySem.W.kitOne K (.ref G) (.ref C) = some false)
    (h_BadRange_BadPlaces : PySem.W.kitOne K (.ref G) (.ref B) = some false)
    (h_BadRange_BadMoves : PySem.W.kitOne K (.ref G) (.ref M) = some false)
    (h_BadRange_Unlike : PySem.W.kitOne K (.ref G) (.ref U) = some false)
    (h_BadPlaces_BadRidge : PySem.W.kitOne K (.ref B) (.ref R) = some false)
    (h_BadPlaces_BadClimb : PySem.W.kitOne K (.ref B) (.ref C) = some false)
    (h_BadPlaces_BadRange : PySem.W.kitOne K (.ref B) (.ref G) = some false)
    (h_BadPlaces_BadMoves : PySem.W.kitOne K (.ref B) (.ref M) = some false)
    (h_BadPlaces_Unlike : PySem.W.kitOne K (.ref B) (.ref U) = some false)
    (h_BadMoves_BadRidge : PySem.W.kitOne K (.ref M) (.ref R) = some false)
    (h_BadMoves_BadClimb : PySem.W.kitOne K (.ref M) (.ref C) = some false)
    (h_BadMoves_BadRange : PySem.W.kitOne K (.ref M) (.ref G) = some false)
    (h_BadMoves_BadPlaces : PySem.W.kitOne K (.ref M) (.ref B) = some false)
    (h_BadMoves_Unlike : PySem.W.kitOne K (.ref M) (.ref U) = some false)
    (h_Unlike_BadRidge : PySem.W.kitOne K (.ref U) (.ref R) = some false)
    (h_Unlike_BadClimb : PySem.W.kitOne K (.ref U) (.ref C) = some false)
    (h_Unlike_BadRange : PySem.W.kitOne K (.ref U) (.ref G) = some false)
    (h_Unlike_BadPlaces : PySem.W.kitOne K (.ref U) (.ref B) = some false)
    (h_Unlike_BadMoves : PySem.W.kitOne K (.ref U) (.ref M) = some false)
    (m_isinstance : mg "isinstance" = none)
    (m_ValueError : mg "ValueError" = none) : FnOk P w K mg base CX0 9 f fd ["_law_kind", "_law_which", "_law_more"] sp_L_told := by
  refine F.ok sc_L_told (fun vs H Q E h => ?_) (fun cdv A outer s H vs Q E hr h => ?_)
  · obtain ⟨_, _, _, rfl, _⟩ := h
    rfl
  have hu64 := hr.units
  obtain ⟨k, wh, mo, rfl, hk0, hk6, hw, hm, q⟩ := h
  have hk : k = 0 ∨ k = 1 ∨ k = 2 ∨ k = 3 ∨ k = 4 ∨ k = 5 := by omega
  rcases hk with hk | hk | hk | hk | hk | hk
  · subst hk
    refine ⟨_, (pss_cons (L2N.ps_try_as (i := 3) (Wout := fun _ _ _ _ => False) rfl rfl sc_L_told.nd rfl rfl (x_RidgeError.names (by rfl)) takes0N (fun W pn xe tk _ => (pss_one (ps_if (pt_cmpR (op_eqUK (K := K) rfl hu64) (pv 0) pe_int (nomark _)) (pss_one (ps_expr (pe_cW c_L_ridge_asked hr (by decide) (by rfl) tk (pa_cons (pv 1) (pa_cons (pv 2) pa_nil))))) (pss_one (ps_if (pt_cmpR (op_eqUK (K := K) rfl hu64) (pv 0) pe_int (nomark _)) (pss_one (ps_expr (pe_cW c_L_climb_asked hr (by decide) (by rfl) tk (pa_cons (pv 1) (pa_cons (pv 2) pa_nil))))) (pss_one (ps_if (pt_cmpR (op_eqUK (K := K) rfl hu64) (pv 0) pe_int (nomark _)) (pss_one (ps_expr (pe_cW c_L_places_asked hr (by decide) (by rfl) tk (pa_cons (pv 1) (pa_cons (pv 2) pa_nil))))) (pss_one (ps_expr (pe_cW c_L_others_asked hr (by decide) (by rfl) tk (pa_cons (pv 0) (pa_cons (pv 1) (pa_cons (pv 2) pa_nil)))))))))))))
     (fun a oe cls d pn hz hf => (pss_cons (ps_set (i := 4) sc_L_told.nd rfl (.inl rfl) (pe_lst (pa_cons (pe_callB (call_isGK (K := K) rfl hz hf) (by rfl) m_isinstance (by rfl) (pa_cons (pv 3) (pa_cons (pe_gv (by rfl) g_BadRidge) pa_nil))) (pa_cons (pe_callB (call_isGK (K := K) rfl hz hf) (by rfl) m_isinstance (by rfl) (pa_cons (pv 3) (pa_cons (pe_gv (by rfl) g_BadClimb) pa_nil))) (pa_cons (pe_callB (call_isGK (K := K) rfl hz hf) (by rfl) m_isinstance (by rfl) (pa_cons (pv 3) (pa_cons (pe_gv (by rfl) g_BadRange) pa_nil))) pa_nil)))))
    (pss_cons (ps_set (i := 4) sc_L_told.nd rfl (.inl rfl) (pe_op (op_addUK (K := K) rfl) (pv 4) (pe_lst (pa_cons (pe_callB (call_isGK (K := K) rfl hz hf) (by rfl) m_isinstance (by rfl) (pa_cons (pv 3) (pa_cons (pe_gv (by rfl) g_BadPlaces) pa_nil))) (pa_cons (pe_callB (call_isGK (K := K) rfl hz hf) (by rfl) m_isinstance (by rfl) (pa_cons (pv 3) (pa_cons (pe_gv (by rfl) g_BadMoves) pa_nil))) (pa_cons (pe_callB (call_isGK (K := K) rfl hz hf) (by rfl) m_isinstance (by rfl) (pa_cons (pv 3) (pa_cons (pe_gv (by rfl) g_Unlike) pa_nil))) pa_nil))))))
    (pss_one (ps_ret (pe_op (op_addUK (K := K) rfl) (pv 4) (pe_lst (pa_cons (pe_callB (call_isGK (K := K) rfl hz hf) (by rfl) m_isinstance (by rfl) (pa_cons (pv 3) (pa_cons (pe_bltn (v := .ty "ValueError") (u := .type "ValueError") (by rfl) m_ValueError (by rfl) rfl) pa_nil))) pa_nil)))))))))
    (pss_one (ps_ret (pe_lst pa_nil)))), ?_⟩
    (iterate 910 fail)
    refine k_if (fun _ => ?_) (fun z => absurd rfl z)
    (iterate 909 fail)
    refine ⟨wh, mo, rfl, hw, hm, fun H1 e1 => ?_⟩
    refine ⟨true, hU_BadRidge.te, fun _ a na => ?_, fun z => nomatch z⟩
    simp only [List.set_cons_succ, List.set_cons_zero]
    (iterate 909 fail)
    refine k_isG hU_BadRidge.ex hU_BadRidge.me ?_
    (iterate 909 fail)
    refine k_isG hU_BadRidge.ex h_BadRidge_BadClimb ?_
    (iterate 909 fail)
    refine k_isG hU_BadRidge.ex h_BadRidge_BadRange ?_
    (iterate 909 fail)
    refine ⟨by (iterate 904 fail), fun p1 n1 => ?_⟩
    have f1 : upd H1 p1 (.lst [.bl true, .bl false, .bl false]) p1 = some (.lst [.bl true, .bl false, .bl false]) := upd_same
    have x1 := Ex.new n1 (o := .lst [.bl true, .bl false, .bl false])
    generalize upd H1 p1 (.lst [.bl true, .bl false, .bl false]) = G1 at f1 x1 ⊢
    (iterate 909 fail)
    refine k_isG hU_BadRidge.ex h_BadRidge_BadPlaces ?_
    (iterate 909 fail)
    refine k_isG hU_BadRidge.ex h_BadRidge_BadMoves ?_
    (iterate 909 fail)
    refine k_isG hU_BadRidge.ex h_BadRidge_Unlike ?_
    (iterate 909 fail)
    refine ⟨by (iterate 904 fail), fun p2 n2 => ?_⟩
    have f2 : upd G1 p2 (.lst [.bl false, .bl false, .bl false]) p2 = some (.lst [.bl false, .bl false, .bl false]) := upd_same
    have x2 := Ex.new n2 (o := .lst [.bl false, .bl false, .bl false])
    generalize upd G1 p2 (.lst [.bl false, .bl false, .bl false]) = G2 at f2 x2 ⊢
    (iterate 909 fail)
    refine k_addL (SqL.of (x2.use f1)) (SqL.of f2) (by (iterate 904 fail)) fun p3 n3 => ?_
    have f3 : upd G2 p3 (.lst ([V.bl true, V.bl false, V.bl false] ++ [V.bl false, V.bl false, V.bl false])) p3 = some (.lst ([V.bl true, V.bl false, V.bl false] ++ [V.bl false, V.bl false, V.bl false])) := upd_same
    have x3 := Ex.new n3 (o := .lst ([V.bl true, V.bl false, V.bl false] ++ [V.bl false, V.bl false, V.bl false]))
    generalize upd G2 p3 (.lst ([V.bl true, V.bl false, V.bl false] ++ [V.bl false, V.bl false, V.bl false])) = G3 at f3 x3 ⊢
    (iterate 909 fail)
    refine k_isGT hU_BadRidge.ex hU_BadRidge.ve ?_
    (iterate 909 fail)
    refine ⟨by (iterate 904 fail), fun p4 n4 => ?_⟩
    have f4 : upd G3 p4 (.lst [.bl true]) p4 = some (.lst [.bl true]) := upd_same
    have x4 := Ex.new n4 (o := .lst [.bl true])
    generalize upd G3 p4 (.lst [.bl true]) = G4 at f4 x4 ⊢
    (iterate 909 fail)
    refine k_addL (SqL.of (x4.use f3)) (SqL.of f4) (by (iterate 904 fail)) fun p5 n5 => ?_
    (iterate 909 fail)
    exact q _ _ (((((e1.trans x1).trans x2).trans x3).trans x4).trans (Ex.new n5)) upd_same
  · subst hk
    refine ⟨_, (pss_cons (L2N.ps_try_as (i := 3) (Wout := fun _ _ _ _ => False) rfl rfl sc_L_told.nd rfl rfl (x_RidgeError.names (by rfl)) takes0N (fun W pn xe tk _ => (pss_one (ps_if (pt_cmpR (op_eqUK (K := K) rfl hu64) (pv 0) pe_int (nomark _)) (pss_one (ps_expr (pe_cW c_L_ridge_asked hr (by decide) (by rfl) tk (pa_cons (pv 1) (pa_cons (pv 2) pa_nil))))) (pss_one (ps_if (pt_cmpR (op_eqUK (K := K) rfl hu64) (pv 0) pe_int (nomark _)) (pss_one (ps_expr (pe_cW c_L_climb_asked hr (by decide) (by rfl) tk (pa_cons (pv 1) (pa_cons (pv 2) pa_nil))))) (pss_one (ps_if (pt_cmpR (op_eqUK (K := K) rfl hu64) (pv 0) pe_int (nomark _)) (pss_one (ps_expr (pe_cW c_L_places_asked hr (by decide) (by rfl) tk (pa_cons (pv 1) (pa_cons (pv 2) pa_nil))))) (pss_one (ps_expr (pe_cW c_L_others_asked hr (by decide) (by rfl) tk (pa_cons (pv 0) (pa_cons (pv 1) (pa_cons (pv 2) pa_nil)))))))))))))
     (fun a oe cls d pn hz hf => (pss_cons (ps_set (i := 4) sc_L_told.nd rfl (.inl rfl) (pe_lst (pa_cons (pe_callB (call_isGK (K := K) rfl hz hf) (by rfl) m_isinstance (by rfl) (pa_cons (pv 3) (pa_cons (pe_gv (by rfl) g_BadRidge) pa_nil))) (pa_cons (pe_callB (call_isGK (K := K) rfl hz hf) (by rfl) m_isinstance (by rfl) (pa_cons (pv 3) (pa_cons (pe_gv (by rfl) g_BadClimb) pa_nil))) (pa_cons (pe_callB (call_isGK (K := K) rfl hz hf) (by rfl) m_isinstance (by rfl) (pa_cons (pv 3) (pa_cons (pe_gv (by rfl) g_BadRange) pa_nil))) pa_nil)))))
    (pss_cons (ps_set (i := 4) sc_L_told.nd rfl (.inl rfl) (pe_op (op_addUK (K := K) rfl) (pv 4) (pe_lst (pa_cons (pe_callB (call_isGK (K := K) rfl hz hf) (by rfl) m_isinstance (by rfl) (pa_cons (pv 3) (pa_cons (pe_gv (by rfl) g_BadPlaces) pa_nil))) (pa_cons (pe_callB (call_isGK (K := K) rfl hz hf) (by rfl) m_isinstance (by rfl) (pa_cons (pv 3) (pa_cons (pe_gv (by rfl) g_BadMoves) pa_nil))) (pa_cons (pe_callB (call_isGK (K := K) rfl hz hf) (by rfl) m_isinstance (by rfl) (pa_cons (pv 3) (pa_cons (pe_gv (by rfl) g_Unlike) pa_nil))) pa_nil))))))
    (pss_one (ps_ret (pe_op (op_addUK (K := K) rfl) (pv 4) (pe_lst (pa_cons (pe_callB (call_isGK (K := K) rfl hz hf) (by rfl) m_isinstance (by rfl) (pa_cons (pv 3) (pa_cons (pe_bltn (v := .ty "ValueError") (u := .type "ValueError") (by rfl) m_ValueError (by rfl) rfl) pa_nil))) pa_nil)))))))))
    (pss_one (ps_ret (pe_lst pa_nil)))), ?_⟩
    (iterate 910 fail)
    refine k_if (fun z => absurd z (by decide)) (fun _ => ?_)
    (iterate 909 fail)
    refine k_if (fun _ => ?_) (fun z => absurd rfl z)
    (iterate 909 fail)
    refine ⟨wh, mo, rfl, hw, hm, fun H1 e1 => ?_⟩
    refine ⟨true, hU_BadClimb.te, fun _ a na => ?_, fun z => nomatch z⟩
    simp only [List.set_cons_succ, List.set_cons_zero]
    (iterate 909 fail)
    refine k_isG hU_BadClimb.ex h_BadClimb_BadRidge ?_
    (iterate 909 fail)
    refine k_isG hU_BadClimb.ex hU_BadClimb.me ?_
    (iterate 909 fail)
    refine k_isG hU_BadClimb.ex h_BadClimb_BadRange ?_
    (iterate 909 fail)
    refine ⟨by (iterate 904 fail), fun p1 n1 => ?_⟩
    have f1 : upd H1 p1 (.lst [.bl false, .bl true, .bl false]) p1 = some (.lst [.bl false, .bl true, .bl false]) := upd_same
    have x1 := Ex.new n1 (o := .lst [.bl false, .bl true, .bl false])
    generalize upd H1 p1 (.lst [.bl false, .bl true, .bl false]) = G1 at f1 x1 ⊢
    (iterate 909 fail)
    refine k_isG hU_BadClimb.ex h_BadClimb_BadPlaces ?_
    (iterate 909 fail)
    refine k_isG hU_BadClimb.ex h_BadClimb_BadMoves ?_
    (iterate 909 fail)
    refine k_isG hU_BadClimb.ex h_BadClimb_Unlike ?_
    (iterate 909 fail)
    refine ⟨by (iterate 904 fail), fun p2 n2 => ?_⟩
    have f2 : upd G1 p2 (.lst [.bl false, .bl false, .bl false]) p2 = some (.lst [.bl false, .bl false, .bl false]) := upd_same
    have x2 := Ex.new n2 (o := .lst [.bl false, .bl false, .bl false])
    generalize upd G1 p2 (.lst [.bl false, .bl false, .bl false]) = G2 at f2 x2 ⊢
    (iterate 909 fail)
    refine k_addL (SqL.of (x2.use f1)) (SqL.of f2) (by (iterate 904 fail)) fun p3 n3 => ?_
    have f3 : upd G2 p3 (.lst ([V.bl false, V.bl true, V.bl false] ++ [V.bl false, V.bl false, V.bl false])) p3 = some (.lst ([V.bl false, V.bl true, V.bl false] ++ [V.bl false, V.bl false, V.bl false])) := upd_same
    have x3 := Ex.new n3 (o := .lst ([V.bl false, V.bl true, V.bl false] ++ [V.bl false, V.bl false, V.bl false]))
    generalize upd G2 p3 (.lst ([V.bl false, V.bl true, V.bl false] ++ [V.bl false, V.bl false, V.bl false])) = G3 at f3 x3 ⊢
    (iterate 909 fail)
    refine k_isGT hU_BadClimb.ex hU_BadClimb.ve ?_
    (iterate 909 fail)
    refine ⟨by (iterate 904 fail), fun p4 n4 => ?_⟩
    have f4 : upd G3 p4 (.lst [.bl true]) p4 = some (.lst [.bl true]) := upd_same
    have x4 := Ex.new n4 (o := .lst [.bl true])
    generalize upd G3 p4 (.lst [.bl true]) = G4 at f4 x4 ⊢
    (iterate 909 fail)
    refine k_addL (SqL.of (x4.use f3)) (SqL.of f4) (by (iterate 904 fail)) fun p5 n5 => ?_
    (iterate 909 fail)
    exact q _ _ (((((e1.trans x1).trans x2).trans x3).trans x4).trans (Ex.new n5)) upd_same
  · subst hk
    refine ⟨_, (pss_cons (L2N.ps_try_as (i := 3) (Wout := fun _ _ _ _ => False) rfl rfl sc_L_told.nd rfl rfl (x_RidgeError.names (by rfl)) takes0N (fun W pn xe tk _ => (pss_one (ps_if (pt_cmpR (op_eqUK (K := K) rfl hu64) (pv 0) pe_int (nomark _)) (pss_one (ps_expr (pe_cW c_L_ridge_asked hr (by decide) (by rfl) tk (pa_cons (pv 1) (pa_cons (pv 2) pa_nil))))) (pss_one (ps_if (pt_cmpR (op_eqUK (K := K) rfl hu64) (pv 0) pe_int (nomark _)) (pss_one (ps_expr (pe_cW c_L_climb_asked hr (by decide) (by rfl) tk (pa_cons (pv 1) (pa_cons (pv 2) pa_nil))))) (pss_one (ps_if (pt_cmpR (op_eqUK (K := K) rfl hu64) (pv 0) pe_int (nomark _)) (pss_one (ps_expr (pe_cW c_L_places_asked hr (by decide) (by rfl) tk (pa_cons (pv 1) (pa_cons (pv 2) pa_nil))))) (pss_one (ps_expr (pe_cW c_L_others_asked hr (by decide) (by rfl) tk (pa_cons (pv 0) (pa_cons (pv 1) (pa_cons (pv 2) pa_nil)))))))))))))
     (fun a oe cls d pn hz hf => (pss_cons (ps_set (i := 4) sc_L_told.nd rfl (.inl rfl) (pe_lst (pa_cons (pe_callB (call_isGK (K := K) rfl hz hf) (by rfl) m_isinstance (by rfl) (pa_cons (pv 3) (pa_cons (pe_gv (by rfl) g_BadRidge) pa_nil))) (pa_cons (pe_callB (call_isGK (K := K) rfl hz hf) (by rfl) m_isinstance (by rfl) (pa_cons (pv 3) (pa_cons (pe_gv (by rfl) g_BadClimb) pa_nil))) (pa_cons (pe_callB (call_isGK (K := K) rfl hz hf) (by rfl) m_isinstance (by rfl) (pa_cons (pv 3) (pa_cons (pe_gv (by rfl) g_BadRange) pa_nil))) pa_nil)))))
    (pss_cons (ps_set (i := 4) sc_L_told.nd rfl (.inl rfl) (pe_op (op_addUK (K := K) rfl) (pv 4) (pe_lst (pa_cons (pe_callB (call_isGK (K := K) rfl hz hf) (by rfl) m_isinstance (by rfl) (pa_cons (pv 3) (pa_cons (pe_gv (by rfl) g_BadPlaces) pa_nil))) (pa_cons (pe_callB (call_isGK (K := K) rfl hz hf) (by rfl) m_isinstance (by rfl) (pa_cons (pv 3) (pa_cons (pe_gv (by rfl) g_BadMoves) pa_nil))) (pa_cons (pe_callB (call_isGK (K := K) rfl hz hf) (by rfl) m_isinstance (by rfl) (pa_cons (pv 3) (pa_cons (pe_gv (by rfl) g_Unlike) pa_nil))) pa_nil))))))
    (pss_one (ps_ret (pe_op (op_addUK (K := K) rfl) (pv 4) (pe_lst (pa_cons (pe_callB (call_isGK (K := K) rfl hz hf) (by rfl) m_isinstance (by rfl) (pa_cons (pv 3) (pa_cons (pe_bltn (v := .ty "ValueError") (u := .type "ValueError") (by rfl) m_ValueError (by rfl) rfl) pa_nil))) pa_nil)))))))))
    (pss_one (ps_ret (pe_lst pa_nil)))), ?_⟩
    (iterate 910 fail)
    refine k_if (fun z => absurd z (by decide)) (fun _ => ?_)
    (iterate 909 fail)
    refine k_if (fun z => absurd z (by decide)) (fun _ => ?_)
    (iterate 909 fail)
    refine k_if (fun z => absurd z (by decide)) (fun _ => ?_)
    (iterate 909 fail)
    refine ⟨_, wh, mo, rfl, hw, hm, fun _ H1 e1 => ?_, fun z => absurd z (by decide), fun z => absurd rfl z⟩
    refine ⟨true, hU_BadRange.te, fun _ a na => ?_, fun z => nomatch z⟩
    simp only [List.set_cons_succ, List.set_cons_zero]
    (iterate 909 fail)
    refine k_isG hU_BadRange.ex h_BadRange_BadRidge ?_
    (iterate 909 fail)
    refine k_isG hU_BadRange.ex h_BadRange_BadClimb ?_
    (iterate 909 fail)
    refine k_isG hU_BadRange.ex hU_BadRange.me ?_
    (iterate 909 fail)
    refine ⟨by (iterate 904 fail), fun p1 n1 => ?_⟩
    have f1 : upd H1 p1 (.lst [.bl false, .bl false, .bl true]) p1 = some (.lst [.bl false, .bl false, .bl true]) := upd_same
    have x1 := Ex.new n1 (o := .lst [.bl false, .bl false, .bl true])
    generalize upd H1 p1 (.lst [.bl false, .bl false, .bl true]) = G1 at f1 x1 ⊢
    (iterate 909 fail)
    refine k_isG hU_BadRange.ex h_BadRange_BadPlaces ?_
    (iterate 909 fail)
    refine k_isG hU_BadRange.ex h_BadRange_BadMoves ?_
    (iterate 909 fail)
    refine k_isG hU_BadRange.ex h_BadRange_Unlike ?_
    (iterate 909 fail)
    refine ⟨by (iterate 904 fail), fun p2 n2 => ?_⟩
    have f2 : upd G1 p2 (.lst [.bl false, .bl false, .bl false]) p2 = some (.lst [.bl false, .bl false, .bl false]) := upd_same
    have x2 := Ex.new n2 (o := .lst [.bl false, .bl false, .bl false])
    generalize upd G1 p2 (.lst [.bl false, .bl false, .bl false]) = G2 at f2 x2 ⊢
    (iterate 909 fail)
    refine k_addL (SqL.of (x2.use f1)) (SqL.of f2) (by (iterate 904 fail)) fun p3 n3 => ?_
    have f3 : upd G2 p3 (.lst ([V.bl false, V.bl false, V.bl true] ++ [V.bl false, V.bl false, V.bl false])) p3 = some (.lst ([V.bl false, V.bl false, V.bl true] ++ [V.bl false, V.bl false, V.bl false])) := upd_same
    have x3 := Ex.new n3 (o := .lst ([V.bl false, V.bl false, V.bl true] ++ [V.bl false, V.bl false, V.bl false]))
    generalize upd G2 p3 (.lst ([V.bl false, V.bl false, V.bl true] ++ [V.bl false, V.bl false, V.bl false])) = G3 at f3 x3 ⊢
    (iterate 909 fail)
    refine k_isGT hU_BadRange.ex hU_BadRange.ve ?_
    (iterate 909 fail)
    refine ⟨by (iterate 904 fail), fun p4 n4 => ?_⟩
    have f4 : upd G3 p4 (.lst [.bl true]) p4 = some (.lst [.bl true]) := upd_same
    have x4 := Ex.new n4 (o := .lst [.bl true])
    generalize upd G3 p4 (.lst [.bl true]) = G4 at f4 x4 ⊢
    (iterate 909 fail)
    refine k_addL (SqL.of (x4.use f3)) (SqL.of f4) (by (iterate 904 fail)) fun p5 n5 => ?_
    (iterate 909 fail)
    exact q _ _ (((((e1.trans x1).trans x2).trans x3).trans x4).trans (Ex.new n5)) upd_same
  · subst hk
    refine ⟨_, (pss_cons (L2N.ps_try_as (i := 3) (Wout := fun _ _ _ _ => False) rfl rfl sc_L_told.nd rfl rfl (x_RidgeError.names (by rfl)) takes0N (fun W pn xe tk _ => (pss_one (ps_if (pt_cmpR (op_eqUK (K := K) rfl hu64) (pv 0) pe_int (nomark _)) (pss_one (ps_expr (pe_cW c_L_ridge_asked hr (by decide) (by rfl) tk (pa_cons (pv 1) (pa_cons (pv 2) pa_nil))))) (pss_one (ps_if (pt_cmpR (op_eqUK (K := K) rfl hu64) (pv 0) pe_int (nomark _)) (pss_one (ps_expr (pe_cW c_L_climb_asked hr (by decide) (by rfl) tk (pa_cons (pv 1) (pa_cons (pv 2) pa_nil))))) (pss_one (ps_if (pt_cmpR (op_eqUK (K := K) rfl hu64) (pv 0) pe_int (nomark _)) (pss_one (ps_expr (pe_cW c_L_places_asked hr (by decide) (by rfl) tk (pa_cons (pv 1) (pa_cons (pv 2) pa_nil))))) (pss_one (ps_expr (pe_cW c_L_others_asked hr (by decide) (by rfl) tk (pa_cons (pv 0) (pa_cons (pv 1) (pa_cons (pv 2) pa_nil)))))))))))))
     (fun a oe cls d pn hz hf => (pss_cons (ps_set (i := 4) sc_L_told.nd rfl (.inl rfl) (pe_lst (pa_cons (pe_callB (call_isGK (K := K) rfl hz hf) (by rfl) m_isinstance (by rfl) (pa_cons (pv 3) (pa_cons (pe_gv (by rfl) g_BadRidge) pa_nil))) (pa_cons (pe_callB (call_isGK (K := K) rfl hz hf) (by rfl) m_isinstance (by rfl) (pa_cons (pv 3) (pa_cons (pe_gv (by rfl) g_BadClimb) pa_nil))) (pa_cons (pe_callB (call_isGK (K := K) rfl hz hf) (by rfl) m_isinstance (by rfl) (pa_cons (pv 3) (pa_cons (pe_gv (by rfl) g_BadRange) pa_nil))) pa_nil)))))
    (pss_cons (ps_set (i := 4) sc_L_told.nd rfl (.inl rfl) (pe_op (op_addUK (K := K) rfl) (pv 4) (pe_lst (pa_cons (pe_callB (call_isGK (K := K) rfl hz hf) (by rfl) m_isinstance (by rfl) (pa_cons (pv 3) (pa_cons (pe_gv (by rfl) g_BadPlaces) pa_nil))) (pa_cons (pe_callB (call_isGK (K := K) rfl hz hf) (by rfl) m_isinstance (by rfl) (pa_cons (pv 3) (pa_cons (pe_gv (by rfl) g_BadMoves) pa_nil))) (pa_cons (pe_callB (call_isGK (K := K) rfl hz hf) (by rfl) m_isinstance (by rfl) (pa_cons (pv 3) (pa_cons (pe_gv (by rfl) g_Unlike) pa_nil))) pa_nil))))))
    (pss_one (ps_ret (pe_op (op_addUK (K := K) rfl) (pv 4) (pe_lst (pa_cons (pe_callB (call_isGK (K := K) rfl hz hf) (by rfl) m_isinstance (by rfl) (pa_cons (pv 3) (pa_cons (pe_bltn (v := .ty "ValueError") (u := .type "ValueError") (by rfl) m_ValueError (by rfl) rfl) pa_nil))) pa_nil)))))))))
    (pss_one (ps_ret (pe_lst pa_nil)))), ?_⟩
    (iterate 910 fail)
    refine k_if (fun z => absurd z (by decide)) (fun _ => ?_)
    (iterate 909 fail)
    refine k_if (fun z => absurd z (by decide)) (fun _ => ?_)
    (iterate 909 fail)
    refine k_if (fun _ => ?_) (fun z => absurd rfl z)
    (iterate 909 fail)
    refine ⟨wh, mo, rfl, hw, hm, fun H1 e1 => ?_⟩
    refine ⟨true, hU_BadPlaces.te, fun _ a na => ?_, fun z => nomatch z⟩
    simp only [List.set_cons_succ, List.set_cons_zero]
    (iterate 909 fail)
    refine k_isG hU_BadPlaces.ex h_BadPlaces_BadRidge ?_
    (iterate 909 fail)
    refine k_isG hU_BadPlaces.ex h_BadPlaces_BadClimb ?_
    (iterate 909 fail)
    refine k_isG hU_BadPlaces.ex h_BadPlaces_BadRange ?_
    (iterate 909 fail)
    refine ⟨by (iterate 904 fail), fun p1 n1 => ?_⟩
    have f1 : upd H1 p1 (.lst [.bl false, .bl false, .bl false]) p1 = some (.lst [.bl false, .bl false, .bl false]) := upd_same
    have x1 := Ex.new n1 (o := .lst [.bl false, .bl false, .bl false])
    generalize upd H1 p1 (.lst [.bl false, .bl false, .bl false]) = G1 at f1 x1 ⊢
    (iterate 909 fail)
    refine k_isG hU_BadPlaces.ex hU_BadPlaces.me ?_
    (iterate 909 fail)
    refine k_isG hU_BadPlaces.ex h_BadPlaces_BadMoves ?_
    (iterate 909 fail)
    refine k_isG hU_BadPlaces.ex h_BadPlaces_Unlike ?_
    (iterate 909 fail)
    refine ⟨by (iterate 904 fail), fun p2 n2 => ?_⟩
    have f2 : upd G1 p2 (.lst [.bl true, .bl false, .bl false]) p2 = some (.lst [.bl true, .bl false, .bl false]) := upd_same
    have x2 := Ex.new n2 (o := .lst [.bl true, .bl false, .bl false])
    generalize upd G1 p2 (.lst [.bl true, .bl false, .bl false]) = G2 at f2 x2 ⊢
    (iterate 909 fail)
    refine k_addL (SqL.of (x2.use f1)) (SqL.of f2) (by (iterate 904 fail)) fun p3 n3 => ?_
    have f3 : upd G2 p3 (.lst ([V.bl false, V.bl false, V.bl false] ++ [V.bl true, V.bl false, V.bl false])) p3 = some (.lst ([V.bl false, V.bl false, V.bl false] ++ [V.bl true, V.bl false, V.bl false])) := upd_same
    have x3 := Ex.new n3 (o := .lst ([V.bl false, V.bl false, V.bl false] ++ [V.bl true, V.bl false, V.bl false]))
    generalize upd G2 p3 (.lst ([V.bl false, V.bl false, V.bl false] ++ [V.bl true, V.bl false, V.bl false])) = G3 at f3 x3 ⊢
    (iterate 909 fail)
    refine k_isGT hU_BadPlaces.ex hU_BadPlaces.ve ?_
    (iterate 909 fail)
    refine ⟨by (iterate 904 fail), fun p4 n4 => ?_⟩
    have f4 : upd G3 p4 (.lst [.bl true]) p4 = some (.lst [.bl true]) := upd_same
    have x4 := Ex.new n4 (o := .lst [.bl true])
    generalize upd G3 p4 (.lst [.bl true]) = G4 at f4 x4 ⊢
    (iterate 909 fail)
    refine k_addL (SqL.of (x4.use f3)) (SqL.of f4) (by (iterate 904 fail)) fun p5 n5 => ?_
    (iterate 909 fail)
    exact q _ _ (((((e1.trans x1).trans x2).trans x3).trans x4).trans (Ex.new n5)) upd_same
  · subst hk
    refine ⟨_, (pss_cons (L2N.ps_try_as (i := 3) (Wout := fun _ _ _ _ => False) rfl rfl sc_L_told.nd rfl rfl (x_RidgeError.names (by rfl)) takes0N (fun W pn xe tk _ => (pss_one (ps_if (pt_cmpR (op_eqUK (K := K) rfl hu64) (pv 0) pe_int (nomark _)) (pss_one (ps_expr (pe_cW c_L_ridge_asked hr (by decide) (by rfl) tk (pa_cons (pv 1) (pa_cons (pv 2) pa_nil))))) (pss_one (ps_if (pt_cmpR (op_eqUK (K := K) rfl hu64) (pv 0) pe_int (nomark _)) (pss_one (ps_expr (pe_cW c_L_climb_asked hr (by decide) (by rfl) tk (pa_cons (pv 1) (pa_cons (pv 2) pa_nil))))) (pss_one (ps_if (pt_cmpR (op_eqUK (K := K) rfl hu64) (pv 0) pe_int (nomark _)) (pss_one (ps_expr (pe_cW c_L_places_asked hr (by decide) (by rfl) tk (pa_cons (pv 1) (pa_cons (pv 2) pa_nil))))) (pss_one (ps_expr (pe_cW c_L_others_asked hr (by decide) (by rfl) tk (pa_cons (pv 0) (pa_cons (pv 1) (pa_cons (pv 2) pa_nil)))))))))))))
     (fun a oe cls d pn hz hf => (pss_cons (ps_set (i := 4) sc_L_told.nd rfl (.inl rfl) (pe_lst (pa_cons (pe_callB (call_isGK (K := K) rfl hz hf) (by rfl) m_isinstance (by rfl) (pa_cons (pv 3) (pa_cons (pe_gv (by rfl) g_BadRidge) pa_nil))) (pa_cons (pe_callB (call_isGK (K := K) rfl hz hf) (by rfl) m_isinstance (by rfl) (pa_cons (pv 3) (pa_cons (pe_gv (by rfl) g_BadClimb) pa_nil))) (pa_cons (pe_callB (call_isGK (K := K) rfl hz hf) (by rfl) m_isinstance (by rfl) (pa_cons (pv 3) (pa_cons (pe_gv (by rfl) g_BadRange) pa_nil))) pa_nil)))))
    (pss_cons (ps_set (i := 4) sc_L_told.nd rfl (.inl rfl) (pe_op (op_addUK (K := K) rfl) (pv 4) (pe_lst (pa_cons (pe_callB (call_isGK (K := K) rfl hz hf) (by rfl) m_isinstance (by rfl) (pa_cons (pv 3) (pa_cons (pe_gv (by rfl) g_BadPlaces) pa_nil))) (pa_cons (pe_callB (call_isGK (K := K) rfl hz hf) (by rfl) m_isinstance (by rfl) (pa_cons (pv 3) (pa_cons (pe_gv (by rfl) g_BadMoves) pa_nil))) (pa_cons (pe_callB (call_isGK (K := K) rfl hz hf) (by rfl) m_isinstance (by rfl) (pa_cons (pv 3) (pa_cons (pe_gv (by rfl) g_Unlike) pa_nil))) pa_nil))))))
    (pss_one (ps_ret (pe_op (op_addUK (K := K) rfl) (pv 4) (pe_lst (pa_cons (pe_callB (call_isGK (K := K) rfl hz hf) (by rfl) m_isinstance (by rfl) (pa_cons (pv 3) (pa_cons (pe_bltn (v := .ty "ValueError") (u := .type "ValueError") (by rfl) m_ValueError (by rfl) rfl) pa_nil))) pa_nil)))))))))
    (pss_one (ps_ret (pe_lst pa_nil)))), ?_⟩
    (iterate 910 fail)
    refine k_if (fun z => absurd z (by decide)) (fun _ => ?_)
    (iterate 909 fail)
    refine k_if (fun z => absurd z (by decide)) (fun _ => ?_)
    (iterate 909 fail)
    refine k_if (fun z => absurd z (by decide)) (fun _ => ?_)
    (iterate 909 fail)
    refine ⟨_, wh, mo, rfl, hw, hm, fun z => absurd z (by decide), fun _ H1 e1 => ?_, fun _ z => absurd rfl z⟩
    refine ⟨true, hU_BadMoves.te, fun _ a na => ?_, fun z => nomatch z⟩
    simp only [List.set_cons_succ, List.set_cons_zero]
    (iterate 909 fail)
    refine k_isG hU_BadMoves.ex h_BadMoves_BadRidge ?_
    (iterate 909 fail)
    refine k_isG hU_BadMoves.ex h_BadMoves_BadClimb ?_
    (iterate 909 fail)
    refine k_isG hU_BadMoves.ex h_BadMoves_BadRange ?_
    (iterate 909 fail)
    refine ⟨by (iterate 904 fail), fun p1 n1 => ?_⟩
    have f1 : upd H1 p1 (.lst [.bl false, .bl false, .bl false]) p1 = some (.lst [.bl false, .bl false, .bl false]) := upd_same
    have x1 := Ex.new n1 (o := .lst [.bl false, .bl false, .bl false])
    generalize upd H1 p1 (.lst [.bl false, .bl false, .bl false]) = G1 at f1 x1 ⊢
    (iterate 909 fail)
    refine k_isG hU_BadMoves.ex h_BadMoves_BadPlaces ?_
    (iterate 909 fail)
    refine k_isG hU_BadMoves.ex hU_BadMoves.me ?_
    (iterate 909 fail)
    refine k_isG hU_BadMoves.ex h_BadMoves_Unlike ?_
    (iterate 909 fail)
    refine ⟨by (iterate 904 fail), fun p2 n2 => ?_⟩
    have f2 : upd G1 p2 (.lst [.bl false, .bl true, .bl false]) p2 = some (.lst [.bl false, .bl true, .bl false]) := upd_same
    have x2 := Ex.new n2 (o := .lst [.bl false, .bl true, .bl false])
    generalize upd G1 p2 (.lst [.bl false, .bl true, .bl false]) = G2 at f2 x2 ⊢
    (iterate 909 fail)
    refine k_addL (SqL.of (x2.use f1)) (SqL.of f2) (by (iterate 904 fail)) fun p3 n3 => ?_
    have f3 : upd G2 p3 (.lst ([V.bl false, V.bl false, V.bl false] ++ [V.bl false, V.bl true, V.bl false])) p3 = some (.lst ([V.bl false, V.bl false, V.bl false] ++ [V.bl false, V.bl true, V.bl false])) := upd_same
    have x3 := Ex.new n3 (o := .lst ([V.bl false, V.bl false, V.bl false] ++ [V.bl false, V.bl true, V.bl false]))
    generalize upd G2 p3 (.lst ([V.bl false, V.bl false, V.bl false] ++ [V.bl false, V.bl true, V.bl false])) = G3 at f3 x3 ⊢
    (iterate 909 fail)
    refine k_isGT hU_BadMoves.ex hU_BadMoves.ve ?_
    (iterate 909 fail)
    refine ⟨by (iterate 904 fail), fun p4 n4 => ?_⟩
    have f4 : upd G3 p4 (.lst [.bl true]) p4 = some (.lst [.bl true]) := upd_same
    have x4 := Ex.new n4 (o := .lst [.bl true])
    generalize upd G3 p4 (.lst [.bl true]) = G4 at f4 x4 ⊢
    (iterate 909 fail)
    refine k_addL (SqL.of (x4.use f3)) (SqL.of f4) (by (iterate 904 fail)) fun p5 n5 => ?_
    (iterate 909 fail)
    exact q _ _ (((((e1.trans x1).trans x2).trans x3).trans x4).trans (Ex.new n5)) upd_same
  · subst hk
    refine ⟨_, (pss_cons (L2N.ps_try_as (i := 3) (Wout := fun _ _ _ _ => False) rfl rfl sc_L_told.nd rfl rfl (x_RidgeError.names (by rfl)) takes0N (fun W pn xe tk _ => (pss_one (ps_if (pt_cmpR (op_eqUK (K := K) rfl hu64) (pv 0) pe_int (nomark _)) (pss_one (ps_expr (pe_cW c_L_ridge_asked hr (by decide) (by rfl) tk (pa_cons (pv 1) (pa_cons (pv 2) pa_nil))))) (pss_one (ps_if (pt_cmpR (op_eqUK (K := K) rfl hu64) (pv 0) pe_int (nomark _)) (pss_one (ps_expr (pe_cW c_L_climb_asked hr (by decide) (by rfl) tk (pa_cons (pv 1) (pa_cons (pv 2) pa_nil))))) (pss_one (ps_if (pt_cmpR (op_eqUK (K := K) rfl hu64) (pv 0) pe_int (nomark _)) (pss_one (ps_expr (pe_cW c_L_places_asked hr (by decide) (by rfl) tk (pa_cons (pv 1) (pa_cons (pv 2) pa_nil))))) (pss_one (ps_expr (pe_cW c_L_others_asked hr (by decide) (by rfl) tk (pa_cons (pv 0) (pa_cons (pv 1) (pa_cons (pv 2) pa_nil)))))))))))))
     (fun a oe cls d pn hz hf => (pss_cons (ps_set (i := 4) sc_L_told.nd rfl (.inl rfl) (pe_lst (pa_cons (pe_callB (call_isGK (K := K) rfl hz hf) (by rfl) m_isinstance (by rfl) (pa_cons (pv 3) (pa_cons (pe_gv (by rfl) g_BadRidge) pa_nil))) (pa_cons (pe_callB (call_isGK (K := K) rfl hz hf) (by rfl) m_isinstance (by rfl) (pa_cons (pv 3) (pa_cons (pe_gv (by rfl) g_BadClimb) pa_nil))) (pa_cons (pe_callB (call_isGK (K := K) rfl hz hf) (by rfl) m_isinstance (by rfl) (pa_cons (pv 3) (pa_cons (pe_gv (by rfl) g_BadRange) pa_nil))) pa_nil)))))
    (pss_cons (ps_set (i := 4) sc_L_told.nd rfl (.inl rfl) (pe_op (op_addUK (K := K) rfl) (pv 4) (pe_lst (pa_cons (pe_callB (call_isGK (K := K) rfl hz hf) (by rfl) m_isinstance (by rfl) (pa_cons (pv 3) (pa_cons (pe_gv (by rfl) g_BadPlaces) pa_nil))) (pa_cons (pe_callB (call_isGK (K := K) rfl hz hf) (by rfl) m_isinstance (by rfl) (pa_cons (pv 3) (pa_cons (pe_gv (by rfl) g_BadMoves) pa_nil))) (pa_cons (pe_callB (call_isGK (K := K) rfl hz hf) (by rfl) m_isinstance (by rfl) (pa_cons (pv 3) (pa_cons (pe_gv (by rfl) g_Unlike) pa_nil))) pa_nil))))))
    (pss_one (ps_ret (pe_op (op_addUK (K := K) rfl) (pv 4) (pe_lst (pa_cons (pe_callB (call_isGK (K := K) rfl hz hf) (by rfl) m_isinstance (by rfl) (pa_cons (pv 3) (pa_cons (pe_bltn (v := .ty "ValueError") (u := .type "ValueError") (by rfl) m_ValueError (by rfl) rfl) pa_nil))) pa_nil)))))))))
    (pss_one (ps_ret (pe_lst pa_nil)))), ?_⟩
    (iterate 910 fail)
    refine k_if (fun z => absurd z (by decide)) (fun _ => ?_)
    (iterate 909 fail)
    refine k_if (fun z => absurd z (by decide)) (fun _ => ?_)
    (iterate 909 fail)
    refine k_if (fun z => absurd z (by decide)) (fun _ => ?_)
    (iterate 909 fail)
    refine ⟨_, wh, mo, rfl, hw, hm, fun z => absurd z (by decide), fun z => absurd z (by decide), fun _ _ H1 e1 => ?_⟩
    refine ⟨true, hU_Unlike.te, fun _ a na => ?_, fun z => nomatch z⟩
    simp only [List.set_cons_succ, List.set_cons_zero]
    (iterate 909 fail)
    refine k_isG hU_Unlike.ex h_Unlike_BadRidge ?_
    (iterate 909 fail)
    refine k_isG hU_Unlike.ex h_Unlike_BadClimb ?_
    (iterate 909 fail)
    refine k_isG hU_Unlike.ex h_Unlike_BadRange ?_
    (iterate 909 fail)
    refine ⟨by (iterate 904 fail), fun p1 n1 => ?_⟩
    have f1 : upd H1 p1 (.lst [.bl false, .bl false, .bl false]) p1 = some (.lst [.bl false, .bl false, .bl false]) := upd_same
    have x1 := Ex.new n1 (o := .lst [.bl false, .bl false, .bl false])
    generalize upd H1 p1 (.lst [.bl false, .bl false, .bl false]) = G1 at f1 x1 ⊢
    (iterate 909 fail)
    refine k_isG hU_Unlike.ex h_Unlike_BadPlaces ?_
    (iterate 909 fail)
    refine k_isG hU_Unlike.ex h_Unlike_BadMoves ?_
    (iterate 909 fail)
    refine k_isG hU_Unlike.ex hU_Unlike.me ?_
    (iterate 909 fail)
    refine ⟨by (iterate 904 fail), fun p2 n2 => ?_⟩
    have f2 : upd G1 p2 (.lst [.bl false, .bl false, .bl true]) p2 = some (.lst [.bl false, .bl false, .bl true]) := upd_same
    have x2 := Ex.new n2 (o := .lst [.bl false, .bl false, .bl true])
    generalize upd G1 p2 (.lst [.bl false, .bl false, .bl true]) = G2 at f2 x2 ⊢
    (iterate 909 fail)
    refine k_addL (SqL.of (x2.use f1)) (SqL.of f2) (by (iterate 904 fail)) fun p3 n3 => ?_
    have f3 : upd G2 p3 (.lst ([V.bl false, V.bl false, V.bl false] ++ [V.bl false, V.bl false, V.bl true])) p3 = some (.lst ([V.bl false, V.bl false, V.bl false] ++ [V.bl false, V.bl false, V.bl true])) := upd_same
    have x3 := Ex.new n3 (o := .lst ([V.bl false, V.bl false, V.bl false] ++ [V.bl false, V.bl false, V.bl true]))
    generalize upd G2 p3 (.lst ([V.bl false, V.bl false, V.bl false] ++ [V.bl false, V.bl false, V.bl true])) = G3 at f3 x3 ⊢
    (iterate 909 fail)
    refine k_isGT hU_Unlike.ex hU_Unlike.ve ?_
    (iterate 909 fail)
    refine ⟨by (iterate 904 fail), fun p4 n4 => ?_⟩
    have f4 : upd G3 p4 (.lst [.bl true]) p4 = some (.lst [.bl true]) := upd_same
    have x4 := Ex.new n4 (o := .lst [.bl true])
    generalize upd G3 p4 (.lst [.bl true]) = G4 at f4 x4 ⊢
    (iterate 909 fail)
    refine k_addL (SqL.of (x4.use f3)) (SqL.of f4) (by (iterate 904 fail)) fun p5 n5 => ?_
    (iterate 909 fail)
    exact q _ _ (((((e1.trans x1).trans x2).trans x3).trans x4).trans (Ex.new n5)) upd_same
end
end U

set_option Elab.async false
set_option linter.all false
set_option maxRecDepth 100000
set_option maxHeartbeats 4000000
namespace U
open PySem PySem.Spec PyProof.Rows L2
local macro_rules | `(tactic| iterate 901 fail) => `(tactic| first
  | with_reducible assumption
  | with_reducible exact upd_same
  | (with_reducible refine' Ex.use (Ex.new ?n) ?h; (case n => with_reducible assumption); (case h => (iterate 901 fail)))
  | (with_reducible refine' Ex.use ?n ?h; (case n => with_reducible assumption); (case h => (iterate 901 fail))))
local macro_rules | `(tactic| iterate 902 fail) => `(tactic| first
  | with_reducible assumption
  | (with_reducible refine' SqL.of ?h; (case h => (iterate 901 fail)))
  | (with_reducible refine' SqT.of ?h; (case h => (iterate 901 fail)))
  | (iterate 912 fail))
local macro_rules | `(tactic| iterate 912 fail) => `(tactic| first
  | with_reducible assumption
  | (with_reducible refine' Ex.sql (Ex.new ?n) ?h; (case n => with_reducible assumption); (case h => (iterate 912 fail)))
  | (with_reducible refine' Ex.sqt (Ex.new ?n) ?h; (case n => with_reducible assumption); (case h => (iterate 912 fail)))
  | (with_reducible refine' Ex.sql ?n ?h; (case n => with_reducible assumption); (case h => (iterate 912 fail)))
  | (with_reducible refine' Ex.sqt ?n ?h; (case n => with_reducible assumption); (case h => (iterate 912 fail))))
local macro_rules | `(tactic| iterate 903 fail) => `(tactic| first
  | with_reducible assumption
  | with_reducible exact Ex.refl _
  | (with_reducible refine' Ex.mk ?e ?n; (case n => with_reducible assumption); (case e => (iterate 903 fail)))
  | (with_reducible refine' Ex.trans ?e ?n; (case n => with_reducible assumption); (case e => (iterate 903 fail))))
local macro_rules | `(tactic| iterate 904 fail) => `(tactic| first
  | with_reducible assumption
  | (apply line_le; simp only [List.length_cons, List.length_nil, List.length_append, List.length_map, List.length_range]; omega)
  | (apply line_lt; simp only [List.length_cons, List.length_nil, List.length_append, List.length_map, List.length_range]; omega))
local macro_rules | `(tactic| iterate 905 fail) => `(tactic| (apply line_le; first | (show List.length _ ≤ _; omega) | (simp only [U.T, PySem.Str.length, List.size_toArray, List.length_cons, List.length_nil, List.length_append, List.length_map, List.length_reverse]; omega)))
local macro_rules | `(tactic| iterate 906 fail) => `(tactic| first
  | with_reducible exact TyX.base (TyOf.str _) | with_reducible exact TyX.base (TyOf.int _) | with_reducible exact TyX.base (TyOf.bl _) | with_reducible exact TyX.base TyOf.non
  | (with_reducible refine' TyX.base (TyOf.lst ?h); (case h => (iterate 901 fail))) | (with_reducible refine' TyX.base (TyOf.tup ?h); (case h => (iterate 901 fail))) | (with_reducible refine' TyX.base (TyOf.dK ?h); (case h => (iterate 901 fail))))
local macro_rules | `(tactic| iterate 907 fail) => `(tactic| first
  | (with_reducible refine' k_tyL ?h ?k; (case h => (iterate 901 fail)))
  | (with_reducible refine' k_app ?h ?z ?k; (case h => (iterate 901 fail)); (case z => (iterate 904 fail)))
  | (with_reducible refine' k_gTup ?h ?z ?k; (case h => (iterate 902 fail)); (case z => exact rfl))
  | (with_reducible refine' k_I ?c ?k; (case c => first | decide | exact ⟨by decide, by decide⟩))
  | (with_reducible refine' k_ixL ?h ?a ?k; (case h => (iterate 902 fail)); (case a => exact rfl))
  | (with_reducible refine' k_ixT ?h ?a ?k; (case h => (iterate 902 fail)); (case a => exact rfl))
  | (with_reducible refine' k_lenL ?h ?k; (case h => (iterate 902 fail)))
  | (with_reducible refine' k_lenT ?h ?k; (case h => (iterate 902 fail)))
  | (with_reducible refine' k_lenS ?h ?k; (case h => (iterate 905 fail)))
  | (with_reducible refine' k_isi (b := true) ?t ?e ?k; (case t => (iterate 906 fail)); (case e => decide +kernel))
  | (with_reducible refine' k_isi (b := false) ?t ?e ?k; (case t => (iterate 906 fail)); (case e => decide +kernel)))
local macro_rules | `(tactic| iterate 908 fail) => `(tactic| first | with_reducible refine Stp.h ?_ | (iterate 907 fail))
local macro_rules | `(tactic| iterate 909 fail) => `(tactic| ((try dsimp only); repeat (iterate 908 fail)))
local macro_rules | `(tactic| iterate 910 fail) => `(tactic| (simp only [start_cons, start_nil, start_end]; repeat (iterate 908 fail)))

section
variable {P : Program} {w : World} {K : PySem.W.Frag} {mg : Str → Option Value} {base : Heap}
theorem eqvBls : ∀ l : List Bool, PyData.eqvAll (l.map PyData.bool) (l.map PyData.bool) = true
  | [] => by simp [PyData.eqvAll]
  | b :: r => by
    have := eqvBls r
    simp [PyData.eqvAll, PyData.eqv, this]
theorem dpBls {H : Hp} : ∀ l : List Bool, DpAll K H (l.map V.bl) (l.map PyData.bool)
  | [] => .nil
  | b :: r => .cons (.bl b) (dpBls r)
theorem smBls {l : List Bool} : ∀ d ∈ l.map PyData.bool, Sm d := fun d hd => by
  obtain ⟨b, _, rfl⟩ := List.mem_map.mp hd
  exact ⟨rfl, by simp [PyData.depth]⟩
theorem k_neSame {H : Hp} {Q : VK} {p q : Addr} {l : List Bool} (h1 : H p = some (.lst (l.map V.bl))) (h2 : H q = some (.lst (l.map V.bl))) (k : Q (.bl false) H) : rNeU K (.ref p) (.ref q) H Q :=
  k_neD (.lst (SqL.of h1) (dpBls l)) (.lst (SqL.of h2) (dpBls l)) (shL smBls) (shL smBls) (by
    rw [show PyData.eqv (.list (l.map PyData.bool)) (.list (l.map PyData.bool)) = true by simp only [PyData.eqv]; exact eqvBls l]
    exact k)
def sp_law (K : PySem.W.Frag) : Sp := fun vs H Q _ => ∃ (a : Addr) (ns : List Int), vs = [.ref a] ∧ SqL K H a (ns.map V.int) ∧ ns.length ≤ 63 ∧ ∀ H', Q (.bl true) H'
abbrev s_law : Stmt := topS 53
theorem sc_law : FnScope ["_law_script", "_law_cell", "_law_kind", "_law_due"] ["_law_script"] (defScope s_law) := ⟨rfl, rfl, rfl, by decide +kernel, rfl, by decide +kernel, by decide +kernel⟩
theorem ok_law {f : Addr} {fd : FuncData} (F : Fun K "law" "law" s_law f fd) {R G B M : Addr} (c_L_told : Cal P w K mg base CX0 9 "_law_told" sp_L_told) (c_heights : Cal P w K mg base (L2N.CX P w) 2 "heights" (sp_heights R)) (c_upside_down : Cal P w K mg base (L2N.CX P w) 2 "upside_down" (sp_turn R)) (c_about : Cal P w K mg base (L2N.CX P w) 3 "about" (sp_turn R))
    (c_thinned : Cal P w K mg base (L2N.CX P w) 2 "thinned" (sp_thinned M)) (c_moves_at : Cal P w K mg base (L2N.CX P w) 4 "moves_at" (sp_moves_at R B)) (c_meeting : Cal P w K mg base (L2N.CX P w) 6 "meeting" (sp_meeting R G)) (c_reached : Cal P w K mg base (L2N.CX P w) 5 "reached" (sp_reached R B)) :
    FnOk P w K mg base CX0 10 f fd ["_law_script"] (sp_law K) := by
  refine F.ok sc_law (fun vs H Q E h => ?_) (fun cdv A outer s H vs Q E hr h => ?_)
  · obtain ⟨a, ns, rfl, _⟩ := h
    rfl
  have hu64 := hr.units
  obtain ⟨a, ns, rfl, hS, hlen, q⟩ := h
  refine ⟨_, (pss_cons (ps_for PassesOwn.never rfl (listIK (K := K) rfl (pi_list (pv 0))) (pg_name (i := 1) sc_law.nd rfl (.inl rfl)) (pss_cons (ps_set (i := 2) sc_law.nd rfl (.inl rfl) (pe_op op_mod (pv 1) pe_int))
    (pss_cons (ps_set (i := 3) sc_law.nd rfl (.inl rfl) (pe_lst (pa_cons (pe_cmpR (op_eqUK (K := K) rfl hu64) (pv 2) pe_int (nomark _)) (pa_cons (pe_cmpR (op_eqUK (K := K) rfl hu64) (pv 2) pe_int (nomark _)) (pa_cons (pe_cmpR (op_eqUK (K := K) rfl hu64) (pv 2) pe_int (nomark _)) (pa_cons (pe_cmpR (op_eqUK (K := K) rfl hu64) (pv 2) pe_int (nomark _)) (pa_cons (pe_cmpR (op_eqUK (K := K) rfl hu64) (pv 2) pe_int (nomark _)) (pa_cons (pe_cmpR (op_eqUK (K := K) rfl hu64) (pv 2) pe_int (nomark _)) (pa_cons pe_bl pa_nil)))))))))
    (pss_one (ps_if (pt_cmpR (op_neUK (K := K) rfl hu64) (pe_c0 c_L_told hr (by decide) (by rfl) (pa_cons (pv 2) (pa_cons (pe_op op_mod (pe_op op_fdiv (pv 1) pe_int) pe_int) (pa_cons (pe_op op_mod (pe_op op_fdiv (pv 1) pe_int) pe_int) pa_nil)))) (pv 3) (nomark _)) (pss_one (ps_ret pe_bl)) pss_nil)))))
    (pss_cons (ps_if ((pw_or (pt_cmpR (op_neUK (K := K) rfl hu64) (pe_cX c_heights hr (by decide) (by rfl) passLN (pa_cons pe_str pa_nil)) (pe_lst (pa_cons pe_int pa_nil)) (nomark _)) (pw_or (pt_cmpR (op_neUK (K := K) rfl hu64) (pe_cX c_upside_down hr (by decide) (by rfl) passLN (pa_cons pe_str pa_nil)) pe_str (nomark _)) (pw_or (pt_cmpR (op_neUK (K := K) rfl hu64) (pe_cX c_about hr (by decide) (by rfl) passLN (pa_cons pe_str pa_nil)) pe_str (nomark _)) (pw_or1 (pt_cmpR (op_neUK (K := K) rfl hu64) (pe_cX c_thinned hr (by decide) (by rfl) passLN (pa_cons (pe_lst pa_nil) pa_nil)) (pe_lst pa_nil) (nomark _)))))).pt) (pss_one (ps_ret pe_bl)) pss_nil)
    (pss_one (ps_ret (pe_and (pe_cmpR (op_eqUK (K := K) rfl hu64) (pe_cX c_moves_at hr (by decide) (by rfl) passLN (pa_cons pe_str (pa_cons pe_str (pa_cons pe_int (pa_cons pe_int pa_nil))))) (pe_lst pa_nil) (nomark _)) (pe_and (pe_cmpR (op_neUK (K := K) rfl hu64) (pe_cX c_meeting hr (by decide) (by rfl) passLN (pa_cons pe_str pa_nil)) (pe_lst pa_nil) (nomark _)) (pe_one (pe_cmpR op_notN (pe_cX c_reached hr (by decide) (by rfl) passLN (pa_cons pe_str (pa_cons pe_str (pa_cons pe_int (pa_cons pe_int pa_nil))))) pe_non (nomark _))))))))), ?_⟩
  (iterate 910 fail)
  refine ⟨_, rfl, ⟨_, hS⟩, for_listN (xs := ns.map V.int) (fun i σ' H' => ∃ x1 x2 x3, σ' = [some (.ref a), x1, x2, x3] ∧ Ex H H') ⟨none, none, none, rfl, Ex.refl _⟩ (fun i σ' H' hi hI => ?_) (fun i x σ' H' hc hI => ?_) (fun σ' H' hI => ?_)⟩
  · obtain ⟨_, _, _, rfl, e⟩ := hI
    exact e.sql hS
  · obtain ⟨x1, x2, x3, rfl, e⟩ := hI
    rw [List.getElem?_map] at hc
    cases hn : ns[i]? with
    | none => rw [hn] at hc; cases hc
    | some c =>
      rw [hn] at hc
      have hc : V.int c = x := Option.some.inj hc
      subst hc
      (iterate 909 fail)
      have k6 : 0 ≤ c % 6 ∧ c % 6 < 6 := by omega
      generalize c % 6 = k at k6 ⊢
      refine ⟨by (iterate 904 fail), fun p1 n1 => ?_⟩
      have f1 : upd H' p1 (.lst ((due k).map V.bl)) p1 = some (.lst ((due k).map V.bl)) := upd_same
      have e1 := Ex.new n1 (o := .lst ((due k).map V.bl))
      rw [show ([V.bl (decide (k = 0)), V.bl (decide (k = 1)), V.bl (decide (k = 2)), V.bl (decide (k = 3)), V.bl (decide (k = 4)), V.bl (decide (k = 5)), V.bl true] : List V) = (due k).map V.bl from rfl]
      generalize upd H' p1 (.lst ((due k).map V.bl)) = H1 at f1 e1 ⊢
      (iterate 909 fail)
      refine k_I ⟨by decide, by decide⟩ ?_
      (iterate 909 fail)
      refine k_I ⟨by decide, by decide⟩ ?_
      (iterate 909 fail)
      refine ⟨k, _, _, rfl, k6.1, k6.2, by omega, by omega, fun H2 r e2 h2 => ?_⟩
      (iterate 909 fail)
      refine k_neSame h2 (e2.use f1) ?_
      (iterate 909 fail)
      exact ⟨_, _, _, rfl, (e.trans e1).trans e2⟩
  obtain ⟨x1, x2, x3, rfl, e⟩ := hI
  (iterate 909 fail)
  rw [show Str.ofString "" = T [] from rfl]
  refine ⟨_, rfl, .inr ⟨[], rfl, ud_nil, by decide, fun H1 p1 e1 n1 h1 => ?_⟩⟩
  (iterate 909 fail)
  refine ⟨by (iterate 904 fail), fun p2 n2 => ?_⟩
  refine k_neInts (as := hts []) (bs := [0]) (SqL.of ((Ex.new n2).use h1)) (SqL.of upd_same) ?_
  rw [show (!decide (hts [] = [0])) = false by decide]
  generalize upd H1 p2 (.lst [.int 0]) = H2
  (iterate 909 fail)
  refine ⟨_, rfl, .inr ⟨rfl, fun H3 e3 => ?_⟩⟩
  (iterate 909 fail)
  refine ⟨_, rfl, .inr ⟨rfl, fun H4 e4 => ?_⟩⟩
  (iterate 909 fail)
  refine ⟨by (iterate 904 fail), fun p5 n5 => ?_⟩
  (iterate 909 fail)
  refine ⟨_, rfl, .inr ⟨p5, rfl, upd_same, fun H6 p6 e6 h6 => ?_⟩⟩
  (iterate 909 fail)
  refine ⟨by (iterate 904 fail), fun p7 n7 => ?_⟩
  refine k_neMvs (as := []) (bs := []) (SqL.of ((Ex.new n7).use h6)) (SqL.of upd_same) ?_
  rw [show (!decide (([] : List Mv) = [])) = false by decide]
  generalize upd H6 p7 (.lst []) = H7
  (iterate 909 fail)
  refine ⟨_, _, _, _, rfl, .inr ⟨rfl, rfl, rfl, rfl, fun H8 p8 e8 h8 => ?_⟩⟩
  (iterate 909 fail)
  refine ⟨by (iterate 904 fail), fun p9 n9 => ?_⟩
  refine k_eqMvs (as := []) (bs := []) (SqL.of ((Ex.new n9).use h8)) (SqL.of upd_same) ?_
  rw [show decide (([] : List Mv) = []) = true by decide]
  generalize upd H8 p9 (.lst []) = H9
  (iterate 909 fail)
  rw [show Str.ofString "ud" = T [117, 100] from ofs_ud]
  refine ⟨_, rfl, .inr ⟨rfl, fun H10 p10 ms e10 h10 hne => ?_⟩⟩
  (iterate 909 fail)
  refine ⟨by (iterate 904 fail), fun p11 n11 => ?_⟩
  refine k_neMvs (as := ms) (bs := []) (SqL.of ((Ex.new n11).use h10)) (SqL.of upd_same) ?_
  rw [decide_eq_false hne]
  generalize upd H10 p11 (.lst []) = H11
  (iterate 909 fail)
  refine ⟨_, _, _, _, rfl, .inr ⟨rfl, rfl, rfl, rfl, fun H12 p12 e12 => ?_⟩⟩
  (iterate 909 fail)
  refine ⟨rfl, ?_⟩
  rw [decide_eq_false (show ¬ V.ref p12 = V.non from fun z => by cases z)]
  exact q _
end
end U

namespace U
open PySem PySem.Spec PyProof.Rows L2
/-! ### what the top has written; the law's row -/
theorem all_mk {l : PySem.W.OpenLaw} {w : World} {K : PySem.W.Frag} {h : Heap} {mg : Str → Option Value} {fa f1 f2 f3 f4 f5 f6 f7 f8 f9 f10 f11 f12 f13 f14 f15 f16 f17 f18 f19 f20 f21 f22 f23 f24 f25 f26 f27 f28 f29 f30 f31 f32 f33 f34 aM eWay eShut eRidgeError eBadRidge eBadClimb eBadRange eBadPlaces eBadMoves eUnlike : Addr} (X : K.In h) (G : h.Ns mainGlobals mg) (hfa : mg "law" = some (.ref fa))
    (nShut : PySem.W.nsIn K mainGlobals "Shut" = some (some (.ref eShut)))
    (nWay : PySem.W.nsIn K mainGlobals "Way" = some (some (.ref eWay)))
    {od1 an1 : Option Addr} {sl1 : Array (Option Value)} {oc1 kV1 dc1 pm1 cd1 ct1 : Value}
    (a1 : PySem.W.nsIn K mainGlobals "heights_of" = some (some (.ref f1))) (l1 : K.lookup f1 = some ⟨oc1, od1, .func (PySem.W.fnOf "heights_of" "heights_of" (defArgs s_heights_of) (defBody s_heights_of) (defScope s_heights_of) .none kV1 dc1 pm1 an1 cd1 ct1), sl1⟩) (c1 : PySem.W.codeIn K cd1 "heights_of" = true) (k1 : PySem.W.keepIn K (.ref f1) = true)
    {od2 an2 : Option Addr} {sl2 : Array (Option Value)} {oc2 kV2 dc2 pm2 cd2 ct2 : Value}
    (a2 : PySem.W.nsIn K mainGlobals "turned_over" = some (some (.ref f2))) (l2 : K.lookup f2 = some ⟨oc2, od2, .func (PySem.W.fnOf "turned_over" "turned_over" (defArgs s_turned_over) (defBody s_turned_over) (defScope s_turned_over) .none kV2 dc2 pm2 an2 cd2 ct2), sl2⟩) (c2 : PySem.W.codeIn K cd2 "turned_over" = true) (k2 : PySem.W.keepIn K (.ref f2) = true)
    {od3 an3 : Option Addr} {sl3 : Array (Option Value)} {oc3 kV3 dc3 pm3 cd3 ct3 : Value}
    (a3 : PySem.W.nsIn K mainGlobals "from_end" = some (some (.ref f3))) (l3 : K.lookup f3 = some ⟨oc3, od3, .func (PySem.W.fnOf "from_end" "from_end" (defArgs s_from_end) (defBody s_from_end) (defScope s_from_end) .none kV3 dc3 pm3 an3 cd3 ct3), sl3⟩) (c3 : PySem.W.codeIn K cd3 "from_end" = true) (k3 : PySem.W.keepIn K (.ref f3) = true)
    {od4 an4 : Option Addr} {sl4 : Array (Option Value)} {oc4 kV4 dc4 pm4 cd4 ct4 : Value}
    (a4 : PySem.W.nsIn K mainGlobals "asked_ridge" = some (some (.ref f4))) (l4 : K.lookup f4 = some ⟨oc4, od4, .func (PySem.W.fnOf "asked_ridge" "asked_ridge" (defArgs s_asked_ridge) (defBody s_asked_ridge) (defScope s_asked_ridge) .none kV4 dc4 pm4 an4 cd4 ct4), sl4⟩) (c4 : PySem.W.codeIn K cd4 "asked_ridge" = true) (k4 : PySem.W.keepIn K (.ref f4) = true)
    {od5 an5 : Option Addr} {sl5 : Array (Option Value)} {oc5 kV5 dc5 pm5 cd5 ct5 : Value}
    (a5 : PySem.W.nsIn K mainGlobals "heights" = some (some (.ref f5))) (l5 : K.lookup f5 = some ⟨oc5, od5, .func (PySem.W.fnOf "heights" "heights" (defArgs s_heights) (defBody s_heights) (defScope s_heights) .none kV5 dc5 pm5 an5 cd5 ct5), sl5⟩) (c5 : PySem.W.codeIn K cd5 "heights" = true) (k5 : PySem.W.keepIn K (.ref f5) = true)
    {od6 an6 : Option Addr} {sl6 : Array (Option Value)} {oc6 kV6 dc6 pm6 cd6 ct6 : Value}
    (a6 : PySem.W.nsIn K mainGlobals "upside_down" = some (some (.ref f6))) (l6 : K.lookup f6 = some ⟨oc6, od6, .func (PySem.W.fnOf "upside_down" "upside_down" (defArgs s_upside_down) (defBody s_upside_down) (defScope s_upside_down) .none kV6 dc6 pm6 an6 cd6 ct6), sl6⟩) (c6 : PySem.W.codeIn K cd6 "upside_down" = true) (k6 : PySem.W.keepIn K (.ref f6) = true)
    {od7 an7 : Option Addr} {sl7 : Array (Option Value)} {oc7 kV7 dc7 pm7 cd7 ct7 : Value}
    (a7 : PySem.W.nsIn K mainGlobals "about" = some (some (.ref f7))) (l7 : K.lookup f7 = some ⟨oc7, od7, .func (PySem.W.fnOf "about" "about" (defArgs s_about) (defBody s_about) (defScope s_about) .none kV7 dc7 pm7 an7 cd7 ct7), sl7⟩) (c7 : PySem.W.codeIn K cd7 "about" = true) (k7 : PySem.W.keepIn K (.ref f7) = true)
    {od8 an8 : Option Addr} {sl8 : Array (Option Value)} {oc8 kV8 dc8 pm8 cd8 ct8 : Value}
    (a8 : PySem.W.nsIn K mainGlobals "top_of" = some (some (.ref f8))) (l8 : K.lookup f8 = some ⟨oc8, od8, .func (PySem.W.fnOf "top_of" "top_of" (defArgs s_top_of) (defBody s_top_of) (defScope s_top_of) .none kV8 dc8 pm8 an8 cd8 ct8), sl8⟩) (c8 : PySem.W.codeIn K cd8 "top_of" = true) (k8 : PySem.W.keepIn K (.ref f8) = true)
    {od9 an9 : Option Addr} {sl9 : Array (Option Value)} {oc9 kV9 dc9 pm9 cd9 ct9 : Value}
    (a9 : PySem.W.nsIn K mainGlobals "asked_range" = some (some (.ref f9))) (l9 : K.lookup f9 = some ⟨oc9, od9, .func (PySem.W.fnOf "asked_range" "asked_range" (defArgs s_asked_range) (defBody s_asked_range) (defScope s_asked_range) .none kV9 dc9 pm9 an9 cd9 ct9), sl9⟩) (c9 : PySem.W.codeIn K cd9 "asked_range" = true) (k9 : PySem.W.keepIn K (.ref f9) = true)
    {od10 an10 : Option Addr} {sl10 : Array (Option Value)} {oc10 kV10 dc10 pm10 cd10 ct10 : Value}
    (a10 : PySem.W.nsIn K mainGlobals "stepped" = some (some (.ref f10))) (l10 : K.lookup f10 = some ⟨oc10, od10, .func (PySem.W.fnOf "stepped" "stepped" (defArgs s_stepped) (defBody s_stepped) (defScope s_stepped) .none kV10 dc10 pm10 an10 cd10 ct10), sl10⟩) (c10 : PySem.W.codeIn K cd10 "stepped" = true) (k10 : PySem.W.keepIn K (.ref f10) = true)
    {od11 an11 : Option Addr} {sl11 : Array (Option Value)} {oc11 kV11 dc11 pm11 cd11 ct11 : Value}
    (a11 : PySem.W.nsIn K mainGlobals "done" = some (some (.ref f11))) (l11 : K.lookup f11 = some ⟨oc11, od11, .func (PySem.W.fnOf "done" "done" (defArgs s_done) (defBody s_done) (defScope s_done) .none kV11 dc11 pm11 an11 cd11 ct11), sl11⟩) (c11 : PySem.W.codeIn K cd11 "done" = true) (k11 : PySem.W.keepIn K (.ref f11) = true)
    {od12 an12 : Option Addr} {sl12 : Array (Option Value)} {oc12 kV12 dc12 pm12 cd12 ct12 : Value}
    (a12 : PySem.W.nsIn K mainGlobals "moves_from" = some (some (.ref f12))) (l12 : K.lookup f12 = some ⟨oc12, od12, .func (PySem.W.fnOf "moves_from" "moves_from" (defArgs s_moves_from) (defBody s_moves_from) (defScope s_moves_from) .none kV12 dc12 pm12 an12 cd12 ct12), sl12⟩) (c12 : PySem.W.codeIn K cd12 "moves_from" = true) (k12 : PySem.W.keepIn K (.ref f12) = true)
    {od13 an13 : Option Addr} {sl13 : Array (Option Value)} {oc13 kV13 dc13 pm13 cd13 ct13 : Value}
    (a13 : PySem.W.nsIn K mainGlobals "found_from" = some (some (.ref f13))) (l13 : K.lookup f13 = some ⟨oc13, od13, .func (PySem.W.fnOf "found_from" "found_from" (defArgs s_found_from) (defBody s_found_from) (defScope s_found_from) .none kV13 dc13 pm13 an13 cd13 ct13), sl13⟩) (c13 : PySem.W.codeIn K cd13 "found_from" = true) (k13 : PySem.W.keepIn K (.ref f13) = true)
    {od14 an14 : Option Addr} {sl14 : Array (Option Value)} {oc14 kV14 dc14 pm14 cd14 ct14 : Value}
    (a14 : PySem.W.nsIn K mainGlobals "led" = some (some (.ref f14))) (l14 : K.lookup f14 = some ⟨oc14, od14, .func (PySem.W.fnOf "led" "led" (defArgs s_led) (defBody s_led) (defScope s_led) .none kV14 dc14 pm14 an14 cd14 ct14), sl14⟩) (c14 : PySem.W.codeIn K cd14 "led" = true) (k14 : PySem.W.keepIn K (.ref f14) = true)
    {od15 an15 : Option Addr} {sl15 : Array (Option Value)} {oc15 kV15 dc15 pm15 cd15 ct15 : Value}
    (a15 : PySem.W.nsIn K mainGlobals "both" = some (some (.ref f15))) (l15 : K.lookup f15 = some ⟨oc15, od15, .func (PySem.W.fnOf "both" "both" (defArgs s_both) (defBody s_both) (defScope s_both) .none kV15 dc15 pm15 an15 cd15 ct15), sl15⟩) (c15 : PySem.W.codeIn K cd15 "both" = true) (k15 : PySem.W.keepIn K (.ref f15) = true)
    {od16 an16 : Option Addr} {sl16 : Array (Option Value)} {oc16 kV16 dc16 pm16 cd16 ct16 : Value}
    (a16 : PySem.W.nsIn K mainGlobals "is_number" = some (some (.ref f16))) (l16 : K.lookup f16 = some ⟨oc16, od16, .func (PySem.W.fnOf "is_number" "is_number" (defArgs s_is_number) (defBody s_is_number) (defScope s_is_number) .none kV16 dc16 pm16 an16 cd16 ct16), sl16⟩) (c16 : PySem.W.codeIn K cd16 "is_number" = true) (k16 : PySem.W.keepIn K (.ref f16) = true)
    {od17 an17 : Option Addr} {sl17 : Array (Option Value)} {oc17 kV17 dc17 pm17 cd17 ct17 : Value}
    (a17 : PySem.W.nsIn K mainGlobals "asked_places" = some (some (.ref f17))) (l17 : K.lookup f17 = some ⟨oc17, od17, .func (PySem.W.fnOf "asked_places" "asked_places" (defArgs s_asked_places) (defBody s_asked_places) (defScope s_asked_places) .none kV17 dc17 pm17 an17 cd17 ct17), sl17⟩) (c17 : PySem.W.codeIn K cd17 "asked_places" = true) (k17 : PySem.W.keepIn K (.ref f17) = true)
    {od18 an18 : Option Addr} {sl18 : Array (Option Value)} {oc18 kV18 dc18 pm18 cd18 ct18 : Value}
    (a18 : PySem.W.findIn K (.ref eWay) "__init__" = some (some (.ref f18))) (l18 : K.lookup f18 = some ⟨oc18, od18, .func (PySem.W.fnOf "__init__" "Way.__init__" (defArgs s_Way_init) (defBody s_Way_init) (defScope s_Way_init) .none kV18 dc18 pm18 an18 cd18 ct18), sl18⟩) (c18 : PySem.W.codeIn K cd18 "Way.__init__" = true) (k18 : PySem.W.keepIn K (.ref f18) = true) (i18 : PySem.W.isFn K (.ref f18) = true)
    {od19 an19 : Option Addr} {sl19 : Array (Option Value)} {oc19 kV19 dc19 pm19 cd19 ct19 : Value}
    (a19 : PySem.W.findIn K (.ref eShut) "__init__" = some (some (.ref f19))) (l19 : K.lookup f19 = some ⟨oc19, od19, .func (PySem.W.fnOf "__init__" "Shut.__init__" (defArgs s_Shut_init) (defBody s_Shut_init) (defScope s_Shut_init) .none kV19 dc19 pm19 an19 cd19 ct19), sl19⟩) (c19 : PySem.W.codeIn K cd19 "Shut.__init__" = true) (k19 : PySem.W.keepIn K (.ref f19) = true) (i19 : PySem.W.isFn K (.ref f19) = true)
    {od20 an20 : Option Addr} {sl20 : Array (Option Value)} {oc20 kV20 dc20 pm20 cd20 ct20 : Value}
    (a20 : PySem.W.nsIn K mainGlobals "moves_at" = some (some (.ref f20))) (l20 : K.lookup f20 = some ⟨oc20, od20, .func (PySem.W.fnOf "moves_at" "moves_at" (defArgs s_moves_at) (defBody s_moves_at) (defScope s_moves_at) .none kV20 dc20 pm20 an20 cd20 ct20), sl20⟩) (c20 : PySem.W.codeIn K cd20 "moves_at" = true) (k20 : PySem.W.keepIn K (.ref f20) = true)
    {od21 an21 : Option Addr} {sl21 : Array (Option Value)} {oc21 kV21 dc21 pm21 cd21 ct21 : Value}
    (a21 : PySem.W.nsIn K mainGlobals "taken_back" = some (some (.ref f21))) (l21 : K.lookup f21 = some ⟨oc21, od21, .func (PySem.W.fnOf "taken_back" "taken_back" (defArgs s_taken_back) (defBody s_taken_back) (defScope s_taken_back) .none kV21 dc21 pm21 an21 cd21 ct21), sl21⟩) (c21 : PySem.W.codeIn K cd21 "taken_back" = true) (k21 : PySem.W.keepIn K (.ref f21) = true)
    {od22 an22 : Option Addr} {sl22 : Array (Option Value)} {oc22 kV22 dc22 pm22 cd22 ct22 : Value}
    (a22 : PySem.W.nsIn K mainGlobals "asked_moves" = some (some (.ref f22))) (l22 : K.lookup f22 = some ⟨oc22, od22, .func (PySem.W.fnOf "asked_moves" "asked_moves" (defArgs s_asked_moves) (defBody s_asked_moves) (defScope s_asked_moves) .none kV22 dc22 pm22 an22 cd22 ct22), sl22⟩) (c22 : PySem.W.codeIn K cd22 "asked_moves" = true) (k22 : PySem.W.keepIn K (.ref f22) = true)
    {od23 an23 : Option Addr} {sl23 : Array (Option Value)} {oc23 kV23 dc23 pm23 cd23 ct23 : Value}
    (a23 : PySem.W.nsIn K mainGlobals "thinned" = some (some (.ref f23))) (l23 : K.lookup f23 = some ⟨oc23, od23, .func (PySem.W.fnOf "thinned" "thinned" (defArgs s_thinned) (defBody s_thinned) (defScope s_thinned) .none kV23 dc23 pm23 an23 cd23 ct23), sl23⟩) (c23 : PySem.W.codeIn K cd23 "thinned" = true) (k23 : PySem.W.keepIn K (.ref f23) = true)
    {od24 an24 : Option Addr} {sl24 : Array (Option Value)} {oc24 kV24 dc24 pm24 cd24 ct24 : Value}
    (a24 : PySem.W.nsIn K mainGlobals "reached" = some (some (.ref f24))) (l24 : K.lookup f24 = some ⟨oc24, od24, .func (PySem.W.fnOf "reached" "reached" (defArgs s_reached) (defBody s_reached) (defScope s_reached) .none kV24 dc24 pm24 an24 cd24 ct24), sl24⟩) (c24 : PySem.W.codeIn K cd24 "reached" = true) (k24 : PySem.W.keepIn K (.ref f24) = true)
    {od25 an25 : Option Addr} {sl25 : Array (Option Value)} {oc25 kV25 dc25 pm25 cd25 ct25 : Value}
    (a25 : PySem.W.nsIn K mainGlobals "together" = some (some (.ref f25))) (l25 : K.lookup f25 = some ⟨oc25, od25, .func (PySem.W.fnOf "together" "together" (defArgs s_together) (defBody s_together) (defScope s_together) .none kV25 dc25 pm25 an25 cd25 ct25), sl25⟩) (c25 : PySem.W.codeIn K cd25 "together" = true) (k25 : PySem.W.keepIn K (.ref f25) = true)
    {od26 an26 : Option Addr} {sl26 : Array (Option Value)} {oc26 kV26 dc26 pm26 cd26 ct26 : Value}
    (a26 : PySem.W.nsIn K mainGlobals "in_unison" = some (some (.ref f26))) (l26 : K.lookup f26 = some ⟨oc26, od26, .func (PySem.W.fnOf "in_unison" "in_unison" (defArgs s_in_unison) (defBody s_in_unison) (defScope s_in_unison) .none kV26 dc26 pm26 an26 cd26 ct26), sl26⟩) (c26 : PySem.W.codeIn K cd26 "in_unison" = true) (k26 : PySem.W.keepIn K (.ref f26) = true)
    {od27 an27 : Option Addr} {sl27 : Array (Option Value)} {oc27 kV27 dc27 pm27 cd27 ct27 : Value}
    (a27 : PySem.W.nsIn K mainGlobals "meeting" = some (some (.ref f27))) (l27 : K.lookup f27 = some ⟨oc27, od27, .func (PySem.W.fnOf "meeting" "meeting" (defArgs s_meeting) (defBody s_meeting) (defScope s_meeting) .none kV27 dc27 pm27 an27 cd27 ct27), sl27⟩) (c27 : PySem.W.codeIn K cd27 "meeting" = true) (k27 : PySem.W.keepIn K (.ref f27) = true)
    {od28 an28 : Option Addr} {sl28 : Array (Option Value)} {oc28 kV28 dc28 pm28 cd28 ct28 : Value}
    (a28 : PySem.W.nsIn K mainGlobals "changed" = some (some (.ref f28))) (l28 : K.lookup f28 = some ⟨oc28, od28, .func (PySem.W.fnOf "changed" "changed" (defArgs s_changed) (defBody s_changed) (defScope s_changed) .none kV28 dc28 pm28 an28 cd28 ct28), sl28⟩) (c28 : PySem.W.codeIn K cd28 "changed" = true) (k28 : PySem.W.keepIn K (.ref f28) = true)
    {od29 an29 : Option Addr} {sl29 : Array (Option Value)} {oc29 kV29 dc29 pm29 cd29 ct29 : Value}
    (a29 : PySem.W.nsIn K mainGlobals "_law_ridge_asked" = some (some (.ref f29))) (l29 : K.lookup f29 = some ⟨oc29, od29, .func (PySem.W.fnOf "_law_ridge_asked" "_law_ridge_asked" (defArgs s_L_ridge_asked) (defBody s_L_ridge_asked) (defScope s_L_ridge_asked) .none kV29 dc29 pm29 an29 cd29 ct29), sl29⟩) (c29 : PySem.W.codeIn K cd29 "_law_ridge_asked" = true) (k29 : PySem.W.keepIn K (.ref f29) = true)
    {od30 an30 : Option Addr} {sl30 : Array (Option Value)} {oc30 kV30 dc30 pm30 cd30 ct30 : Value}
    (a30 : PySem.W.nsIn K mainGlobals "_law_climb_asked" = some (some (.ref f30))) (l30 : K.lookup f30 = some ⟨oc30, od30, .func (PySem.W.fnOf "_law_climb_asked" "_law_climb_asked" (defArgs s_L_climb_asked) (defBody s_L_climb_asked) (defScope s_L_climb_asked) .none kV30 dc30 pm30 an30 cd30 ct30), sl30⟩) (c30 : PySem.W.codeIn K cd30 "_law_climb_asked" = true) (k30 : PySem.W.keepIn K (.ref f30) = true)
    {od31 an31 : Option Addr} {sl31 : Array (Option Value)} {oc31 kV31 dc31 pm31 cd31 ct31 : Value}
    (a31 : PySem.W.nsIn K mainGlobals "_law_places_asked" = some (some (.ref f31))) (l31 : K.lookup f31 = some ⟨oc31, od31, .func (PySem.W.fnOf "_law_places_asked" "_law_places_asked" (defArgs s_L_places_asked) (defBody s_L_places_asked) (defScope s_L_places_asked) .none kV31 dc31 pm31 an31 cd31 ct31), sl31⟩) (c31 : PySem.W.codeIn K cd31 "_law_places_asked" = true) (k31 : PySem.W.keepIn K (.ref f31) = true)
    {od32 an32 : Option Addr} {sl32 : Array (Option Value)} {oc32 kV32 dc32 pm32 cd32 ct32 : Value}
    (a32 : PySem.W.nsIn K mainGlobals "_law_others_asked" = some (some (.ref f32))) (l32 : K.lookup f32 = some ⟨oc32, od32, .func (PySem.W.fnOf "_law_others_asked" "_law_others_asked" (defArgs s_L_others_asked) (defBody s_L_others_asked) (defScope s_L_others_asked) .none kV32 dc32 pm32 an32 cd32 ct32), sl32⟩) (c32 : PySem.W.codeIn K cd32 "_law_others_asked" = true) (k32 : PySem.W.keepIn K (.ref f32) = true)
    {od33 an33 : Option Addr} {sl33 : Array (Option Value)} {oc33 kV33 dc33 pm33 cd33 ct33 : Value}
    (a33 : PySem.W.nsIn K mainGlobals "_law_told" = some (some (.ref f33))) (l33 : K.lookup f33 = some ⟨oc33, od33, .func (PySem.W.fnOf "_law_told" "_law_told" (defArgs s_L_told) (defBody s_L_told) (defScope s_L_told) .none kV33 dc33 pm33 an33 cd33 ct33), sl33⟩) (c33 : PySem.W.codeIn K cd33 "_law_told" = true) (k33 : PySem.W.keepIn K (.ref f33) = true)
    {od34 an34 : Option Addr} {sl34 : Array (Option Value)} {oc34 kV34 dc34 pm34 cd34 ct34 : Value}
    (a34 : PySem.W.nsIn K mainGlobals "law" = some (some (.ref f34))) (l34 : K.lookup f34 = some ⟨oc34, od34, .func (PySem.W.fnOf "law" "law" (defArgs s_law) (defBody s_law) (defScope s_law) .none kV34 dc34 pm34 an34 cd34 ct34), sl34⟩) (c34 : PySem.W.codeIn K cd34 "law" = true) (k34 : PySem.W.keepIn K (.ref f34) = true)
    (zm_isinstance : PySem.W.nsIn K mainGlobals "isinstance" = some none)
    (zm_str : PySem.W.nsIn K mainGlobals "str" = some none)
    (zm_min : PySem.W.nsIn K mainGlobals "min" = some none)
    (zm_max : PySem.W.nsIn K mainGlobals "max" = some none)
    (zm_len : PySem.W.nsIn K mainGlobals "len" = some none)
    (zm_int : PySem.W.nsIn K mainGlobals "int" = some none)
    (zm_bool : PySem.W.nsIn K mainGlobals "bool" = some none)
    (zm_list : PySem.W.nsIn K mainGlobals "list" = some none)
    (zm_all : PySem.W.nsIn K mainGlobals "all" = some none)
    (zm_sorted : PySem.W.nsIn K mainGlobals "sorted" = some none)
    (zm_ValueError : PySem.W.nsIn K mainGlobals "ValueError" = some none)
    {dM : Option Addr} {sM : Array (Option Value)} {nM : Nat} {t1 t2 t3 t4 : Tok}
    (aMv : PySem.W.nsIn K mainGlobals "MOVES" = some (some (.ref aM))) (lM : K.lookup aM = some ⟨.type "tuple", dM, .seq #[.str (Str.ofString "ff") t1, .str (Str.ofString "fb") t2, .str (Str.ofString "bf") t3, .str (Str.ofString "bb") t4] nM, sM⟩)
    (pgWay : PySem.W.plainGet K eWay Str.empty = true) (hdWay : PySem.W.hasDictIn K eWay = true) (poWay : PySem.W.plainOver K eWay = true) (saWay : PySem.W.findIn K (.ref eWay) "__setattr__" = some (some (.builtin "object.__setattr__"))) (haWay : PySem.W.findIn K (.ref eWay) "__class__" = some (some (.builtin "object.__class__"))) (hmWay : PySem.W.mroIn K eWay (.type "object") = some true) (nfWay : PySem.W.findIn K (.ref eWay) "moves" = some none) (mkWay : PySem.W.makesIn K eWay = true) (kcWay : PySem.W.keepIn K (.ref eWay) = true)
    (pgShut : PySem.W.plainGet K eShut Str.empty = true) (hdShut : PySem.W.hasDictIn K eShut = true) (poShut : PySem.W.plainOver K eShut = true) (saShut : PySem.W.findIn K (.ref eShut) "__setattr__" = some (some (.builtin "object.__setattr__"))) (haShut : PySem.W.findIn K (.ref eShut) "__class__" = some (some (.builtin "object.__class__"))) (hmShut : PySem.W.mroIn K eShut (.type "object") = some true) (nfShut : PySem.W.findIn K (.ref eShut) "pairs" = some none) (mkShut : PySem.W.makesIn K eShut = true) (kcShut : PySem.W.keepIn K (.ref eShut) = true)
    (dgn : PySem.W.specialIn K (.builtin "object.__class__") "__get__" = some (some (.builtin "getset_descriptor.__get__"))) (dgt : PySem.W.takesIn K (.builtin "object.__class__") = some true)
    (nRidgeError : PySem.W.nsIn K mainGlobals "RidgeError" = some (some (.ref eRidgeError)))
    (nBadRidge : PySem.W.nsIn K mainGlobals "BadRidge" = some (some (.ref eBadRidge)))
    (nBadClimb : PySem.W.nsIn K mainGlobals "BadClimb" = some (some (.ref eBadClimb)))
    (nBadRange : PySem.W.nsIn K mainGlobals "BadRange" = some (some (.ref eBadRange)))
    (nBadPlaces : PySem.W.nsIn K mainGlobals "BadPlaces" = some (some (.ref eBadPlaces)))
    (nBadMoves : PySem.W.nsIn K mainGlobals "BadMoves" = some (some (.ref eBadMoves)))
    (nUnlike : PySem.W.nsIn K mainGlobals "Unlike" = some (some (.ref eUnlike)))
    (kRidgeError : PySem.W.keepIn K (.ref eRidgeError) = true) (sRidgeError : PySem.W.subIn K (.ref eRidgeError) (.type "BaseException") = some true) (tRidgeError : PySem.W.typeIn K (.ref eRidgeError) = some (.type "type")) (qRidgeError : PySem.W.excIn K eRidgeError [.type "ValueError", .type "Exception", .type "BaseException", .type "object"] "ValueError.__new__" = true)
    (kBadRidge : PySem.W.keepIn K (.ref eBadRidge) = true) (sBadRidge : PySem.W.subIn K (.ref eBadRidge) (.type "BaseException") = some true) (tBadRidge : PySem.W.typeIn K (.ref eBadRidge) = some (.type "type")) (qBadRidge : PySem.W.excIn K eBadRidge [.type "ValueError", .type "Exception", .type "BaseException", .type "object"] "ValueError.__new__" = true)
    (kBadClimb : PySem.W.keepIn K (.ref eBadClimb) = true) (sBadClimb : PySem.W.subIn K (.ref eBadClimb) (.type "BaseException") = some true) (tBadClimb : PySem.W.typeIn K (.ref eBadClimb) = some (.type "type")) (qBadClimb : PySem.W.excIn K eBadClimb [.type "ValueError", .type "Exception", .type "BaseException", .type "object"] "ValueError.__new__" = true)
    (kBadRange : PySem.W.keepIn K (.ref eBadRange) = true) (sBadRange : PySem.W.subIn K (.ref eBadRange) (.type "BaseException") = some true) (tBadRange : PySem.W.typeIn K (.ref eBadRange) = some (.type "type")) (qBadRange : PySem.W.excIn K eBadRange [.type "ValueError", .type "Exception", .type "BaseException", .type "object"] "ValueError.__new__" = true)
    (kBadPlaces : PySem.W.keepIn K (.ref eBadPlaces) = true) (sBadPlaces : PySem.W.subIn K (.ref eBadPlaces) (.type "BaseException") = some true) (tBadPlaces : PySem.W.typeIn K (.ref eBadPlaces) = some (.type "type")) (qBadPlaces : PySem.W.excIn K eBadPlaces [.type "ValueError", .type "Exception", .type "BaseException", .type "object"] "ValueError.__new__" = true)
    (kBadMoves : PySem.W.keepIn K (.ref eBadMoves) = true) (sBadMoves : PySem.W.subIn K (.ref eBadMoves) (.type "BaseException") = some true) (tBadMoves : PySem.W.typeIn K (.ref eBadMoves) = some (.type "type")) (qBadMoves : PySem.W.excIn K eBadMoves [.type "ValueError", .type "Exception", .type "BaseException", .type "object"] "ValueError.__new__" = true)
    (kUnlike : PySem.W.keepIn K (.ref eUnlike) = true) (sUnlike : PySem.W.subIn K (.ref eUnlike) (.type "BaseException") = some true) (tUnlike : PySem.W.typeIn K (.ref eUnlike) = some (.type "type")) (qUnlike : PySem.W.excIn K eUnlike [.type "ValueError", .type "Exception", .type "BaseException", .type "object"] "ValueError.__new__" = true)
    (aBadRidge : PySem.W.findIn K (.ref eBadRidge) "__getattribute__" = some (some (.builtin "BaseException.__getattribute__"))) (bBadRidge : PySem.W.findIn K (.ref eBadRidge) "__getattr__" = some none) (uBadRidge : PySem.W.subIn K (.ref eBadRidge) (.type "BaseException") = some true) (dBadRidge : PySem.W.hasDictIn K eBadRidge = true) (cBadRidge : PySem.W.findIn K (.ref eBadRidge) "__class__" = some (some (.builtin "object.__class__"))) (mBadRidge : PySem.W.mroIn K eBadRidge (.type "object") = some true)
    (teBadRidge : PySem.W.exmOne K (.ref eBadRidge) (.ref eRidgeError) = some true) (meBadRidge : PySem.W.kitOne K (.ref eBadRidge) (.ref eBadRidge) = some true) (veBadRidge : PySem.W.kitOne K (.ref eBadRidge) (.type "ValueError") = some true)
    (h_BadRidge_BadClimb : PySem.W.kitOne K (.ref eBadRidge) (.ref eBadClimb) = some false)
    (h_BadRidge_BadRange : PySem.W.kitOne K (.ref eBadRidge) (.ref eBadRange) = some false)
    (h_BadRidge_BadPlaces : PySem.W.kitOne K (.ref eBadRidge) (.ref eBadPlaces) = some false)
    (h_BadRidge_BadMoves : PySem.W.kitOne K (.ref eBadRidge) (.ref eBadMoves) = some false)
    (h_BadRidge_Unlike : PySem.W.kitOne K (.ref eBadRidge) (.ref eUnlike) = some false)
    (aBadClimb : PySem.W.findIn K (.ref eBadClimb) "__getattribute__" = some (some (.builtin "BaseException.__getattribute__"))) (bBadClimb : PySem.W.findIn K (.ref eBadClimb) "__getattr__" = some none) (uBadClimb : PySem.W.subIn K (.ref eBadClimb) (.type "BaseException") = some true) (dBadClimb : PySem.W.hasDictIn K eBadClimb = true) (cBadClimb : PySem.W.findIn K (.ref eBadClimb) "__class__" = some (some (.builtin "object.__class__"))) (mBadClimb : PySem.W.mroIn K eBadClimb (.type "object") = some true)
    (teBadClimb : PySem.W.exmOne K (.ref eBadClimb) (.ref eRidgeError) = some true) (meBadClimb : PySem.W.kitOne K (.ref eBadClimb) (.ref eBadClimb) = some true) (veBadClimb : PySem.W.kitOne K (.ref eBadClimb) (.type "ValueError") = some true)
    (h_BadClimb_BadRidge : PySem.W.kitOne K (.ref eBadClimb) (.ref eBadRidge) = some false)
    (h_BadClimb_BadRange : PySem.W.kitOne K (.ref eBadClimb) (.ref eBadRange) = some false)
    (h_BadClimb_BadPlaces : PySem.W.kitOne K (.ref eBadClimb) (.ref eBadPlaces) = some false)
    (h_BadClimb_BadMoves : PySem.W.kitOne K (.ref eBadClimb) (.ref eBadMoves) = some false)
    (h_BadClimb_Unlike : PySem.W.kitOne K (.ref eBadClimb) (.ref eUnlike) = some false)
    (aBadRange : PySem.W.findIn K (.ref eBadRange) "__getattribute__" = some (some (.builtin "BaseException.__getattribute__"))) (bBadRange : PySem.W.findIn K (.ref eBadRange) "__getattr__" = some none) (uBadRange : PySem.W.subIn K (.ref eBadRange) (.type "BaseException") = some true) (dBadRange : PySem.W.hasDictIn K eBadRange = true) (cBadRange : PySem.W.findIn K (.ref eBadRange) "__class__" = some (some (.builtin "object.__class__"))) (mBadRange : PySem.W.mroIn K eBadRange (.type "object") = some true)
    (teBadRange : PySem.W.exmOne K (.ref eBadRange) (.ref eRidgeError) = some true) (meBadRange : PySem.W.kitOne K (.ref eBadRange) (.ref eBadRange) = some true) (veBadRange : PySem.W.kitOne K (.ref eBadRange) (.type "ValueError") = some true)
    (h_BadRange_BadRidge : PySem.W.kitOne K (.ref eBadRange) (.ref eBadRidge) = some false)
    (h_BadRange_BadClimb : PySem.W.kitOne K (.ref eBadRange) (.ref eBadClimb) = some false)
    (h_BadRange_BadPlaces : PySem.W.kitOne K (.ref eBadRange) (.ref eBadPlaces) = some false)
    (h_BadRange_BadMoves : PySem.W.kitOne K (.ref eBadRange) (.ref eBadMoves) = some false)
    (h_BadRange_Unlike : PySem.W.kitOne K (.ref eBadRange) (.ref eUnlike) = some false)
    (aBadPlaces : PySem.W.findIn K (.ref eBadPlaces) "__getattribute__" = some (some (.builtin "BaseException.__getattribute__"))) (bBadPlaces : PySem.W.findIn K (.ref eBadPlaces) "__getattr__" = some none) (uBadPlaces : PySem.W.subIn K (.ref eBadPlaces) (.type "BaseException") = some true) (dBadPlaces : PySem.W.hasDictIn K eBadPlaces = true) (cBadPlaces : PySem.W.findIn K (.ref eBadPlaces) "__class__" = some (some (.builtin "object.__class__"))) (mBadPlaces : PySem.W.mroIn K eBadPlaces (.type "object") = some true)
    (teBadPlaces : PySem.W.exmOne K (.ref eBadPlaces) (.ref eRidgeError) = some true) (meBadPlaces : PySem.W.kitOne K (.ref eBadPlaces) (.ref eBadPlaces) = some true) (veBadPlaces : PySem.W.kitOne K (.ref eBadPlaces) (.type "ValueError") = some true)
    (h_BadPlaces_BadRidge : PySem.W.kitOne K (.ref eBadPlaces) (.ref eBadRidge) = some false)
    (h_BadPlaces_BadClimb : PySem.W.kitOne K (.ref eBadPlaces) (.ref eBadClimb) = some false)
    (h_BadPlaces_BadRange : PySem.W.kitOne K (.ref eBadPlaces) (.ref eBadRange) = some false)
    (h_BadPlaces_BadMoves : PySem.W.kitOne K (.ref eBadPlaces) (.ref eBadMoves) = some false)
    (h_BadPlaces_Unlike : PySem.W.kitOne K (.ref eBadPlaces) (.ref eUnlike) = some false)
    (aBadMoves : PySem.W.findIn K (.ref eBadMoves) "__getattribute__" = some (some (.builtin "BaseException.__getattribute__"))) (bBadMoves : PySem.W.findIn K (.ref eBadMoves) "__getattr__" = some none) (uBadMoves : PySem.W.subIn K (.ref eBadMoves) (.type "BaseException") = some true) (dBadMoves : PySem.W.hasDictIn K eBadMoves = true) (cBadMoves : PySem.W.findIn K (.ref eBadMoves) "__class__" = some (some (.builtin "object.__class__"))) (mBadMoves : PySem.W.mroIn K eBadMoves (.type "object") = some true)
    (teBadMoves : PySem.W.exmOne K (.ref eBadMoves) (.ref eRidgeError) = some true) (meBadMoves : PySem.W.kitOne K (.ref eBadMoves) (.ref eBadMoves) = some true) (veBadMoves : PySem.W.kitOne K (.ref eBadMoves) (.type "ValueError") = some true)
    (h_BadMoves_BadRidge : PySem.W.kitOne K (.ref eBadMoves) (.ref eBadRidge) = some false)
    (h_BadMoves_BadClimb : PySem.W.kitOne K (.ref eBadMoves) (.ref eBadClimb) = some false)
    (h_BadMoves_BadRange : PySem.W.kitOne K (.ref eBadMoves) (.ref eBadRange) = some false)
    (h_BadMoves_BadPlaces : PySem.W.kitOne K (.ref eBadMoves) (.ref eBadPlaces) = some false)
    (h_BadMoves_Unlike : PySem.W.kitOne K (.ref eBadMoves) (.ref eUnlike) = some false)
    (aUnlike : PySem.W.findIn K (.ref eUnlike) "__getattribute__" = some (some (.builtin "BaseException.__getattribute__"))) (bUnlike : PySem.W.findIn K (.ref eUnlike) "__getattr__" = some none) (uUnlike : PySem.W.subIn K (.ref eUnlike) (.type "BaseException") = some true) (dUnlike : PySem.W.hasDictIn K eUnlike = true) (cUnlike : PySem.W.findIn K (.ref eUnlike) "__class__" = some (some (.builtin "object.__class__"))) (mUnlike : PySem.W.mroIn K eUnlike (.type "object") = some true)
    (teUnlike : PySem.W.exmOne K (.ref eUnlike) (.ref eRidgeError) = some true) (meUnlike : PySem.W.kitOne K (.ref eUnlike) (.ref eUnlike) = some true) (veUnlike : PySem.W.kitOne K (.ref eUnlike) (.type "ValueError") = some true)
    (h_Unlike_BadRidge : PySem.W.kitOne K (.ref eUnlike) (.ref eBadRidge) = some false)
    (h_Unlike_BadClimb : PySem.W.kitOne K (.ref eUnlike) (.ref eBadClimb) = some false)
    (h_Unlike_BadRange : PySem.W.kitOne K (.ref eUnlike) (.ref eBadRange) = some false)
    (h_Unlike_BadPlaces : PySem.W.kitOne K (.ref eUnlike) (.ref eBadPlaces) = some false)
    (h_Unlike_BadMoves : PySem.W.kitOne K (.ref eUnlike) (.ref eBadMoves) = some false) :
    ∃ fd : FuncData, (∀ (s : Shared) (v : Value), BindsTo s fd ⟨[v], []⟩ [("_law_script", v)]) ∧ ∀ base : Heap, K.In base → base.Ns mainGlobals mg → FnOk l.prog w K mg base CX0 10 fa fd ["_law_script"] (sp_law K) := by
  have e := hfa.symm.trans (PySem.W.mg_of X G a34)
  cases e
  have F1 := fun_mk (st := s_heights_of) l1 c1 k1
  have F2 := fun_mk (st := s_turned_over) l2 c2 k2
  have F3 := fun_mk (st := s_from_end) l3 c3 k3
  have F4 := fun_mk (st := s_asked_ridge) l4 c4 k4
  have F5 := fun_mk (st := s_heights) l5 c5 k5
  have F6 := fun_mk (st := s_upside_down) l6 c6 k6
  have F7 := fun_mk (st := s_about) l7 c7 k7
  have F8 := fun_mk (st := s_top_of) l8 c8 k8
  have F9 := fun_mk (st := s_asked_range) l9 c9 k9
  have F10 := fun_mk (st := s_stepped) l10 c10 k10
  have F11 := fun_mk (st := s_done) l11 c11 k11
  have F12 := fun_mk (st := s_moves_from) l12 c12 k12
  have F13 := fun_mk (st := s_found_from) l13 c13 k13
  have F14 := fun_mk (st := s_led) l14 c14 k14
  have F15 := fun_mk (st := s_both) l15 c15 k15
  have F16 := fun_mk (st := s_is_number) l16 c16 k16
  have F17 := fun_mk (st := s_asked_places) l17 c17 k17
  have F18 := fun_mk (st := s_Way_init) l18 c18 k18
  have F19 := fun_mk (st := s_Shut_init) l19 c19 k19
  have F20 := fun_mk (st := s_moves_at) l20 c20 k20
  have F21 := fun_mk (st := s_taken_back) l21 c21 k21
  have F22 := fun_mk (st := s_asked_moves) l22 c22 k22
  have F23 := fun_mk (st := s_thinned) l23 c23 k23
  have F24 := fun_mk (st := s_reached) l24 c24 k24
  have F25 := fun_mk (st := s_together) l25 c25 k25
  have F26 := fun_mk (st := s_in_unison) l26 c26 k26
  have F27 := fun_mk (st := s_meeting) l27 c27 k27
  have F28 := fun_mk (st := s_changed) l28 c28 k28
  have F29 := fun_mk (st := s_L_ridge_asked) l29 c29 k29
  have F30 := fun_mk (st := s_L_climb_asked) l30 c30 k30
  have F31 := fun_mk (st := s_L_places_asked) l31 c31 k31
  have F32 := fun_mk (st := s_L_others_asked) l32 c32 k32
  have F33 := fun_mk (st := s_L_told) l33 c33 k33
  have F34 := fun_mk (st := s_law) l34 c34 k34
  refine ⟨PySem.W.fnOf "law" "law" (defArgs s_law) (defBody s_law) (defScope s_law) .none kV34 dc34 pm34 an34 cd34 ct34, fun s v => .of_eq rfl, fun base _ _ => ?_⟩
  have m_isinstance : mg "isinstance" = none := PySem.W.mg_none_of X G zm_isinstance
  have m_str : mg "str" = none := PySem.W.mg_none_of X G zm_str
  have m_min : mg "min" = none := PySem.W.mg_none_of X G zm_min
  have m_max : mg "max" = none := PySem.W.mg_none_of X G zm_max
  have m_len : mg "len" = none := PySem.W.mg_none_of X G zm_len
  have m_int : mg "int" = none := PySem.W.mg_none_of X G zm_int
  have m_bool : mg "bool" = none := PySem.W.mg_none_of X G zm_bool
  have m_list : mg "list" = none := PySem.W.mg_none_of X G zm_list
  have m_all : mg "all" = none := PySem.W.mg_none_of X G zm_all
  have m_sorted : mg "sorted" = none := PySem.W.mg_none_of X G zm_sorted
  have m_ValueError : mg "ValueError" = none := PySem.W.mg_none_of X G zm_ValueError
  have hM : ∀ H, SqT K H aM vMOVES := sqt_const lM (line_le (by show 4 ≤ _; decide)) (.cons ⟨_, rfl⟩ (.cons ⟨_, rfl⟩ (.cons ⟨_, rfl⟩ (.cons ⟨_, rfl⟩ .nil))))
  have g_MOVES : ∃ u, mg "MOVES" = some u ∧ RelV (.ref aM) u := ⟨_, PySem.W.mg_of X G aMv, rfl⟩
  have g_Way : ∃ u, mg "Way" = some u ∧ RelV (.ref eWay) u := ⟨_, PySem.W.mg_of X G nWay, rfl⟩
  have A_Way : AnsC K eWay "moves" := ⟨⟨pgWay, hdWay, poWay, saWay⟩, haWay, dgn, dgt, hmWay, nfWay⟩
  have g_Shut : ∃ u, mg "Shut" = some u ∧ RelV (.ref eShut) u := ⟨_, PySem.W.mg_of X G nShut, rfl⟩
  have A_Shut : AnsC K eShut "pairs" := ⟨⟨pgShut, hdShut, poShut, saShut⟩, haShut, dgn, dgt, hmShut, nfShut⟩
  have g_RidgeError : ∃ u, mg "RidgeError" = some u ∧ RelV (.ref eRidgeError) u := ⟨_, PySem.W.mg_of X G nRidgeError, rfl⟩
  have g_BadRidge : ∃ u, mg "BadRidge" = some u ∧ RelV (.ref eBadRidge) u := ⟨_, PySem.W.mg_of X G nBadRidge, rfl⟩
  have g_BadClimb : ∃ u, mg "BadClimb" = some u ∧ RelV (.ref eBadClimb) u := ⟨_, PySem.W.mg_of X G nBadClimb, rfl⟩
  have g_BadRange : ∃ u, mg "BadRange" = some u ∧ RelV (.ref eBadRange) u := ⟨_, PySem.W.mg_of X G nBadRange, rfl⟩
  have g_BadPlaces : ∃ u, mg "BadPlaces" = some u ∧ RelV (.ref eBadPlaces) u := ⟨_, PySem.W.mg_of X G nBadPlaces, rfl⟩
  have g_BadMoves : ∃ u, mg "BadMoves" = some u ∧ RelV (.ref eBadMoves) u := ⟨_, PySem.W.mg_of X G nBadMoves, rfl⟩
  have g_Unlike : ∃ u, mg "Unlike" = some u ∧ RelV (.ref eUnlike) u := ⟨_, PySem.W.mg_of X G nUnlike, rfl⟩
  have x_RidgeError : OwnX K mg "RidgeError" eRidgeError := ⟨PySem.W.mg_of X G nRidgeError, kRidgeError, sRidgeError, tRidgeError, ⟨_, _, _, _, PySem.F.excBase_ValueError, qRidgeError⟩⟩
  have x_BadRidge : OwnX K mg "BadRidge" eBadRidge := ⟨PySem.W.mg_of X G nBadRidge, kBadRidge, sBadRidge, tBadRidge, ⟨_, _, _, _, PySem.F.excBase_ValueError, qBadRidge⟩⟩
  have x_BadClimb : OwnX K mg "BadClimb" eBadClimb := ⟨PySem.W.mg_of X G nBadClimb, kBadClimb, sBadClimb, tBadClimb, ⟨_, _, _, _, PySem.F.excBase_ValueError, qBadClimb⟩⟩
  have x_BadRange : OwnX K mg "BadRange" eBadRange := ⟨PySem.W.mg_of X G nBadRange, kBadRange, sBadRange, tBadRange, ⟨_, _, _, _, PySem.F.excBase_ValueError, qBadRange⟩⟩
  have x_BadPlaces : OwnX K mg "BadPlaces" eBadPlaces := ⟨PySem.W.mg_of X G nBadPlaces, kBadPlaces, sBadPlaces, tBadPlaces, ⟨_, _, _, _, PySem.F.excBase_ValueError, qBadPlaces⟩⟩
  have x_BadMoves : OwnX K mg "BadMoves" eBadMoves := ⟨PySem.W.mg_of X G nBadMoves, kBadMoves, sBadMoves, tBadMoves, ⟨_, _, _, _, PySem.F.excBase_ValueError, qBadMoves⟩⟩
  have x_Unlike : OwnX K mg "Unlike" eUnlike := ⟨PySem.W.mg_of X G nUnlike, kUnlike, sUnlike, tUnlike, ⟨_, _, _, _, PySem.F.excBase_ValueError, qUnlike⟩⟩
  have hU_BadRidge : CatX K eBadRidge eRidgeError := ⟨⟨aBadRidge, bBadRidge, uBadRidge, dBadRidge, cBadRidge, dgn, dgt, mBadRidge⟩, teBadRidge, meBadRidge, veBadRidge⟩
  have hU_BadClimb : CatX K eBadClimb eRidgeError := ⟨⟨aBadClimb, bBadClimb, uBadClimb, dBadClimb, cBadClimb, dgn, dgt, mBadClimb⟩, teBadClimb, meBadClimb, veBadClimb⟩
  have hU_BadRange : CatX K eBadRange eRidgeError := ⟨⟨aBadRange, bBadRange, uBadRange, dBadRange, cBadRange, dgn, dgt, mBadRange⟩, teBadRange, meBadRange, veBadRange⟩
  have hU_BadPlaces : CatX K eBadPlaces eRidgeError := ⟨⟨aBadPlaces, bBadPlaces, uBadPlaces, dBadPlaces, cBadPlaces, dgn, dgt, mBadPlaces⟩, teBadPlaces, meBadPlaces, veBadPlaces⟩
  have hU_BadMoves : CatX K eBadMoves eRidgeError := ⟨⟨aBadMoves, bBadMoves, uBadMoves, dBadMoves, cBadMoves, dgn, dgt, mBadMoves⟩, teBadMoves, meBadMoves, veBadMoves⟩
  have hU_Unlike : CatX K eUnlike eRidgeError := ⟨⟨aUnlike, bUnlike, uUnlike, dUnlike, cUnlike, dgn, dgt, mUnlike⟩, teUnlike, meUnlike, veUnlike⟩
  have b1 := F1.binds (ps := ["ridge"]) fun _ _ _ _ _ _ us hl => match us, hl with | [_], _ => rfl
  have c_heights_of := cal_mk (x := "heights_of") (ok_heights_of (P := l.prog) (w := w) (mg := mg) (base := base) F1 ) (PySem.W.mg_of X G a1) k1 b1
  have b2 := F2.binds (ps := ["ridge"]) fun _ _ _ _ _ _ us hl => match us, hl with | [_], _ => rfl
  have c_turned_over := cal_mk (x := "turned_over") (ok_turned_over (P := l.prog) (w := w) (mg := mg) (base := base) F2 ) (PySem.W.mg_of X G a2) k2 b2
  have b3 := F3.binds (ps := ["ridge"]) fun _ _ _ _ _ _ us hl => match us, hl with | [_], _ => rfl
  have c_from_end := cal_mk (x := "from_end") (ok_from_end (P := l.prog) (w := w) (mg := mg) (base := base) F3 c_turned_over) (PySem.W.mg_of X G a3) k3 b3
  have b4 := F4.binds (ps := ["ridge"]) fun _ _ _ _ _ _ us hl => match us, hl with | [_], _ => rfl
  have c_asked_ridge := cal_mk (x := "asked_ridge") (ok_asked_ridge (P := l.prog) (w := w) (mg := mg) (base := base) F4 x_BadRidge m_isinstance m_str) (PySem.W.mg_of X G a4) k4 b4
  have b5 := F5.binds (ps := ["ridge"]) fun _ _ _ _ _ _ us hl => match us, hl with | [_], _ => rfl
  have c_heights := cal_mk (x := "heights") (ok_heights (P := l.prog) (w := w) (mg := mg) (base := base) F5 c_asked_ridge c_heights_of) (PySem.W.mg_of X G a5) k5 b5
  have b6 := F6.binds (ps := ["ridge"]) fun _ _ _ _ _ _ us hl => match us, hl with | [_], _ => rfl
  have c_upside_down := cal_mk (x := "upside_down") (ok_upside_down (P := l.prog) (w := w) (mg := mg) (base := base) F6 c_asked_ridge c_turned_over) (PySem.W.mg_of X G a6) k6 b6
  have b7 := F7.binds (ps := ["ridge"]) fun _ _ _ _ _ _ us hl => match us, hl with | [_], _ => rfl
  have c_about := cal_mk (x := "about") (ok_about (P := l.prog) (w := w) (mg := mg) (base := base) F7 c_asked_ridge c_from_end) (PySem.W.mg_of X G a7) k7 b7
  have b8 := F8.binds (ps := ["climb"]) fun _ _ _ _ _ _ us hl => match us, hl with | [_], _ => rfl
  have c_top_of := cal_mk (x := "top_of") (ok_top_of (P := l.prog) (w := w) (mg := mg) (base := base) F8 c_asked_ridge c_heights_of x_BadClimb m_min m_max) (PySem.W.mg_of X G a8) k8 b8
  have b9 := F9.binds (ps := ["ridge"]) fun _ _ _ _ _ _ us hl => match us, hl with | [_], _ => rfl
  have c_asked_range := cal_mk (x := "asked_range") (ok_asked_range (P := l.prog) (w := w) (mg := mg) (base := base) F9 c_asked_ridge c_heights_of x_BadRange m_min) (PySem.W.mg_of X G a9) k9 b9
  have b10 := F10.binds (ps := ["place", "letter"]) fun _ _ _ _ _ _ us hl => match us, hl with | [_, _], _ => rfl
  have c_stepped := cal_mk (x := "stepped") (ok_stepped (P := l.prog) (w := w) (mg := mg) (base := base) F10 ) (PySem.W.mg_of X G a10) k10 b10
  have b11 := F11.binds (ps := ["one", "other", "places", "move"]) fun _ _ _ _ _ _ us hl => match us, hl with | [_, _, _, _], _ => rfl
  have c_done := cal_mk (x := "done") (ok_done (P := l.prog) (w := w) (mg := mg) (base := base) F11 c_stepped m_len) (PySem.W.mg_of X G a11) k11 b11
  have b12 := F12.binds (ps := ["one", "other", "places"]) fun _ _ _ _ _ _ us hl => match us, hl with | [_, _, _], _ => rfl
  have c_moves_from := cal_mk (x := "moves_from") (ok_moves_from (P := l.prog) (w := w) (mg := mg) (base := base) F12 c_done g_MOVES hM) (PySem.W.mg_of X G a12) k12 b12
  have b13 := F13.binds (ps := ["mine", "theirs"]) fun _ _ _ _ _ _ us hl => match us, hl with | [_, _], _ => rfl
  have c_found_from := cal_mk (x := "found_from") (ok_found_from (P := l.prog) (w := w) (mg := mg) (base := base) F13 c_moves_from m_len) (PySem.W.mg_of X G a13) k13 b13
  have b14 := F14.binds (ps := ["ahead", "places"]) fun _ _ _ _ _ _ us hl => match us, hl with | [_, _], _ => rfl
  have c_led := cal_mk (x := "led") (ok_led (P := l.prog) (w := w) (mg := mg) (base := base) F14 ) (PySem.W.mg_of X G a14) k14 b14
  have b15 := F15.binds (ps := ["one", "other"]) fun _ _ _ _ _ _ us hl => match us, hl with | [_, _], _ => rfl
  have c_both := cal_mk (x := "both") (ok_both (P := l.prog) (w := w) (mg := mg) (base := base) F15 c_heights_of c_found_from c_led m_len) (PySem.W.mg_of X G a15) k15 b15
  have b16 := F16.binds (ps := ["thing", "least", "most"]) fun _ _ _ _ _ _ us hl => match us, hl with | [_, _, _], _ => rfl
  have c_is_number := cal_mk (x := "is_number") (ok_is_number (P := l.prog) (w := w) (mg := mg) (base := base) F16 m_isinstance m_int m_bool) (PySem.W.mg_of X G a16) k16 b16
  have b17 := F17.binds (ps := ["one", "other", "first", "second"]) fun _ _ _ _ _ _ us hl => match us, hl with | [_, _, _, _], _ => rfl
  have c_asked_places := cal_mk (x := "asked_places") (ok_asked_places (P := l.prog) (w := w) (mg := mg) (base := base) F17 c_is_number x_BadPlaces m_len) (PySem.W.mg_of X G a17) k17 b17
  have b18 := F18.binds (ps := ["self", "moves"]) fun _ _ _ _ _ _ us hl => match us, hl with | [_, _], _ => rfl
  have k_Way : C8.Mak l.prog w K mg base 1 "Way" eWay (sp_init K eWay "moves") [] := ⟨⟨f18, _, _, [], ⟨mkWay, a18, i18, kcWay⟩, ok_Way_init (P := l.prog) (w := w) (mg := mg) (base := base) F18 A_Way m_list, PySem.W.mg_of X G nWay, b18, .nil⟩⟩
  have b19 := F19.binds (ps := ["self", "pairs"]) fun _ _ _ _ _ _ us hl => match us, hl with | [_, _], _ => rfl
  have k_Shut : C8.Mak l.prog w K mg base 1 "Shut" eShut (sp_init K eShut "pairs") [] := ⟨⟨f19, _, _, [], ⟨mkShut, a19, i19, kcShut⟩, ok_Shut_init (P := l.prog) (w := w) (mg := mg) (base := base) F19 A_Shut m_list, PySem.W.mg_of X G nShut, b19, .nil⟩⟩
  have b20 := F20.binds (ps := ["one", "other", "first", "second"]) fun _ _ _ _ _ _ us hl => match us, hl with | [_, _, _, _], _ => rfl
  have c_moves_at := cal_mk (x := "moves_at") (ok_moves_at (P := l.prog) (w := w) (mg := mg) (base := base) F20 c_asked_ridge c_heights_of c_asked_places c_moves_from) (PySem.W.mg_of X G a20) k20 b20
  have b21 := F21.binds (ps := ["move"]) fun _ _ _ _ _ _ us hl => match us, hl with | [_], _ => rfl
  have c_taken_back := cal_mk (x := "taken_back") (ok_taken_back (P := l.prog) (w := w) (mg := mg) (base := base) F21 ) (PySem.W.mg_of X G a21) k21 b21
  have b22 := F22.binds (ps := ["moves"]) fun _ _ _ _ _ _ us hl => match us, hl with | [_], _ => rfl
  have c_asked_moves := cal_mk (x := "asked_moves") (ok_asked_moves (P := l.prog) (w := w) (mg := mg) (base := base) F22 x_BadMoves m_isinstance m_list m_all m_str g_MOVES hM) (PySem.W.mg_of X G a22) k22 b22
  have b23 := F23.binds (ps := ["moves"]) fun _ _ _ _ _ _ us hl => match us, hl with | [_], _ => rfl
  have c_thinned := cal_mk (x := "thinned") (ok_thinned (P := l.prog) (w := w) (mg := mg) (base := base) F23 c_asked_moves c_taken_back) (PySem.W.mg_of X G a23) k23 b23
  have b24 := F24.binds (ps := ["one", "other", "first", "second"]) fun _ _ _ _ _ _ us hl => match us, hl with | [_, _, _, _], _ => rfl
  have c_reached := cal_mk (x := "reached") (ok_reached (P := l.prog) (w := w) (mg := mg) (base := base) F24 c_asked_ridge c_heights_of c_asked_places c_found_from c_led k_Way k_Shut m_sorted) (PySem.W.mg_of X G a24) k24 b24
  have b25 := F25.binds (ps := ["one", "other"]) fun _ _ _ _ _ _ us hl => match us, hl with | [_, _], _ => rfl
  have c_together := cal_mk (x := "together") (ok_together (P := l.prog) (w := w) (mg := mg) (base := base) F25 c_top_of x_Unlike) (PySem.W.mg_of X G a25) k25 b25
  have b26 := F26.binds (ps := ["climbs"]) fun _ _ _ _ _ _ us hl => match us, hl with | [_], _ => rfl
  have c_in_unison := cal_mk (x := "in_unison") (ok_in_unison (P := l.prog) (w := w) (mg := mg) (base := base) F26 c_top_of x_Unlike x_BadClimb m_isinstance m_list m_min m_max) (PySem.W.mg_of X G a26) k26 b26
  have b27 := F27.binds (ps := ["ridge"]) fun _ _ _ _ _ _ us hl => match us, hl with | [_], _ => rfl
  have c_meeting := cal_mk (x := "meeting") (ok_meeting (P := l.prog) (w := w) (mg := mg) (base := base) F27 c_asked_range c_heights_of c_from_end c_both m_max) (PySem.W.mg_of X G a27) k27 b27
  have b28 := F28.binds (ps := ["ridge"]) fun _ _ _ _ _ _ us hl => match us, hl with | [_], _ => rfl
  have c_changed := cal_mk (x := "changed") (ok_changed (P := l.prog) (w := w) (mg := mg) (base := base) F28 c_meeting) (PySem.W.mg_of X G a28) k28 b28
  have b29 := F29.binds (ps := ["_law_which", "_law_more"]) fun _ _ _ _ _ _ us hl => match us, hl with | [_, _], _ => rfl
  have c_L_ridge_asked := cal_mk (x := "_law_ridge_asked") (ok_L_ridge_asked (P := l.prog) (w := w) (mg := mg) (base := base) F29 c_heights c_upside_down c_about c_meeting c_changed c_moves_at c_reached c_together c_in_unison) (PySem.W.mg_of X G a29) k29 b29
  have b30 := F30.binds (ps := ["_law_which", "_law_more"]) fun _ _ _ _ _ _ us hl => match us, hl with | [_, _], _ => rfl
  have c_L_climb_asked := cal_mk (x := "_law_climb_asked") (ok_L_climb_asked (P := l.prog) (w := w) (mg := mg) (base := base) F30 c_together c_in_unison) (PySem.W.mg_of X G a30) k30 b30
  have b31 := F31.binds (ps := ["_law_which", "_law_more"]) fun _ _ _ _ _ _ us hl => match us, hl with | [_, _], _ => rfl
  have c_L_places_asked := cal_mk (x := "_law_places_asked") (ok_L_places_asked (P := l.prog) (w := w) (mg := mg) (base := base) F31 c_moves_at c_reached) (PySem.W.mg_of X G a31) k31 b31
  have b32 := F32.binds (ps := ["_law_kind", "_law_which", "_law_more"]) fun _ _ _ _ _ _ us hl => match us, hl with | [_, _, _], _ => rfl
  have c_L_others_asked := cal_mk (x := "_law_others_asked") (ok_L_others_asked (P := l.prog) (w := w) (mg := mg) (base := base) F32 c_meeting c_changed c_thinned c_together c_in_unison) (PySem.W.mg_of X G a32) k32 b32
  have b33 := F33.binds (ps := ["_law_kind", "_law_which", "_law_more"]) fun _ _ _ _ _ _ us hl => match us, hl with | [_, _, _], _ => rfl
  have c_L_told := cal_mk (x := "_law_told") (ok_L_told (P := l.prog) (w := w) (mg := mg) (base := base) F33 c_L_ridge_asked c_L_climb_asked c_L_places_asked c_L_others_asked x_RidgeError g_BadRidge g_BadClimb g_BadRange g_BadPlaces g_BadMoves g_Unlike hU_BadRidge hU_BadClimb hU_BadRange hU_BadPlaces hU_BadMoves hU_Unlike h_BadRidge_BadClimb h_BadRidge_BadRange h_BadRidge_BadPlaces h_BadRidge_BadMoves h_BadRidge_Unlike h_BadClimb_BadRidge h_BadClimb_BadRange h_BadClimb_BadPlaces h_BadClimb_BadMoves h_BadClimb_Unlike h_BadRange_BadRidge h_BadRange_BadClimb h_BadRange_BadPlaces h_BadRange_BadMoves h_BadRange_Unlike h_BadPlaces_BadRidge h_BadPlaces_BadClimb h_BadPlaces_BadRange h_BadPlaces_BadMoves h_BadPlaces_Unlike h_BadMoves_BadRidge h_BadMoves_BadClimb h_BadMoves_BadRange h_BadMoves_BadPlaces h_BadMoves_Unlike h_Unlike_BadRidge h_Unlike_BadClimb h_Unlike_BadRange h_Unlike_BadPlaces h_Unlike_BadMoves m_isinstance m_ValueError) (PySem.W.mg_of X G a33) k33 b33
  exact ok_law (P := l.prog) (w := w) (mg := mg) (base := base) F34 c_L_told c_heights c_upside_down c_about c_thinned c_moves_at c_meeting c_reached
end U
open PySem PySem.W PyProof.Rows
set_option maxHeartbeats 0 in
theorem PySem.Challenge.cw_unison_k09_refused_holds : PySem.Challenge.rw_unison_k09_refused.Holds := by
  w_on; o_law; k_head; (case hw => w_witness2)
  k_fill
  refine L2.walk_of (l := PySem.Challenge.rw_unison_k09_refused) (n := 63) (k := 10) (x := "_law_script") (CX := fun _ => L2.CX0) (sp := fun w => U.sp_law _) rfl (by decide) rfl ⟨rfl, by decide, by decide⟩ (fun w h Y => PySem.W.kIn_of Y) ?F (fun _ _ a ns hl _ hS => ⟨a, ns, rfl, hS, hl, fun _ => rfl⟩) (fun _ _ _ _ _ h => h)
  case F =>
    intro w mg fa h KX G hmg
    refine' U.all_mk KX G hmg ?nShut ?nWay ?a1 ?l1 ?c1 ?k1 ?a2 ?l2 ?c2 ?k2 ?a3 ?l3 ?c3 ?k3 ?a4 ?l4 ?c4 ?k4 ?a5 ?l5 ?c5 ?k5 ?a6 ?l6 ?c6 ?k6 ?a7 ?l7 ?c7 ?k7 ?a8 ?l8 ?c8 ?k8 ?a9 ?l9 ?c9 ?k9 ?a10 ?l10 ?c10 ?k10 ?a11 ?l11 ?c11 ?k11 ?a12 ?l12 ?c12 ?k12 ?a13 ?l13 ?c13 ?k13 ?a14 ?l14 ?c14 ?k14 ?a15 ?l15 ?c15 ?k15 ?a16 ?l16 ?c16 ?k16 ?a17 ?l17 ?c17 ?k17 ?a18 ?l18 ?c18 ?k18 ?i18 ?a19 ?l19 ?c19 ?k19 ?i19 ?a20 ?l20 ?c20 ?k20 ?a21 ?l21 ?c21 ?k21 ?a22 ?l22 ?c22 ?k22 ?a23 ?l23 ?c23 ?k23 ?a24 ?l24 ?c24 ?k24 ?a25 ?l25 ?c25 ?k25 ?a26 ?l26 ?c26 ?k26 ?a27 ?l27 ?c27 ?k27 ?a28 ?l28 ?c28 ?k28 ?a29 ?l29 ?c29 ?k29 ?a30 ?l30 ?c30 ?k30 ?a31 ?l31 ?c31 ?k31 ?a32 ?l32 ?c32 ?k32 ?a33 ?l33 ?c33 ?k33 ?a34 ?l34 ?c34 ?k34 ?zm_isinstance ?zm_str ?zm_min ?zm_max ?zm_len ?zm_int ?zm_bool ?zm_list ?zm_all ?zm_sorted ?zm_ValueError ?aMv ?lM ?pgWay ?hdWay ?poWay ?saWay ?haWay ?hmWay ?nfWay ?mkWay ?kcWay ?pgShut ?hdShut ?poShut ?saShut ?haShut ?hmShut ?nfShut ?mkShut ?kcShut ?dgn ?dgt ?nRidgeError ?nBadRidge ?nBadClimb ?nBadRange ?nBadPlaces ?nBadMoves ?nUnlike ?kRidgeError ?sRidgeError ?tRidgeError ?qRidgeError ?kBadRidge ?sBadRidge ?tBadRidge ?qBadRidge ?kBadClimb ?sBadClimb ?tBadClimb ?qBadClimb ?kBadRange ?sBadRange ?tBadRange ?qBadRange ?kBadPlaces ?sBadPlaces ?tBadPlaces ?qBadPlaces ?kBadMoves ?sBadMoves ?tBadMoves ?qBadMoves ?kUnlike ?sUnlike ?tUnlike ?qUnlike ?aBadRidge ?bBadRidge ?uBadRidge ?dBadRidge ?cBadRidge ?mBadRidge ?teBadRidge ?meBadRidge ?veBadRidge ?h_BadRidge_BadClimb ?h_BadRidge_BadRange ?h_BadRidge_BadPlaces ?h_BadRidge_BadMoves ?h_BadRidge_Unlike ?aBadClimb ?bBadClimb ?uBadClimb ?dBadClimb ?cBadClimb ?mBadClimb ?teBadClimb ?meBadClimb ?veBadClimb ?h_BadClimb_BadRidge ?h_BadClimb_BadRange ?h_BadClimb_BadPlaces ?h_BadClimb_BadMoves ?h_BadClimb_Unlike ?aBadRange ?bBadRange ?uBadRange ?dBadRange ?cBadRange ?mBadRange ?teBadRange ?meBadRange ?veBadRange ?h_BadRange_BadRidge ?h_BadRange_BadClimb ?h_BadRange_BadPlaces ?h_BadRange_BadMoves ?h_BadRange_Unlike ?aBadPlaces ?bBadPlaces ?uBadPlaces ?dBadPlaces ?cBadPlaces ?mBadPlaces ?teBadPlaces ?meBadPlaces ?veBadPlaces ?h_BadPlaces_BadRidge ?h_BadPlaces_BadClimb ?h_BadPlaces_BadRange ?h_BadPlaces_BadMoves ?h_BadPlaces_Unlike ?aBadMoves ?bBadMoves ?uBadMoves ?dBadMoves ?cBadMoves ?mBadMoves ?teBadMoves ?meBadMoves ?veBadMoves ?h_BadMoves_BadRidge ?h_BadMoves_BadClimb ?h_BadMoves_BadRange ?h_BadMoves_BadPlaces ?h_BadMoves_Unlike ?aUnlike ?bUnlike ?uUnlike ?dUnlike ?cUnlike ?mUnlike ?teUnlike ?meUnlike ?veUnlike ?h_Unlike_BadRidge ?h_Unlike_BadClimb ?h_Unlike_BadRange ?h_Unlike_BadPlaces ?h_Unlike_BadMoves
    (case nShut => k_is); (case nWay => k_is); (case a1 => k_is); (case l1 => k_is); (case c1 => k_is); (case k1 => k_is); (case a2 => k_is); (case l2 => k_is); (case c2 => k_is); (case k2 => k_is); (case a3 => k_is); (case l3 => k_is); (case c3 => k_is); (case k3 => k_is); (case a4 => k_is); (case l4 => k_is); (case c4 => k_is); (case k4 => k_is); (case a5 => k_is); (case l5 => k_is); (case c5 => k_is); (case k5 => k_is); (case a6 => k_is); (case l6 => k_is); (case c6 => k_is); (case k6 => k_is); (case a7 => k_is); (case l7 => k_is); (case c7 => k_is); (case k7 => k_is); (case a8 => k_is); (case l8 => k_is); (case c8 => k_is); (case k8 => k_is); (case a9 => k_is); (case l9 => k_is); (case c9 => k_is); (case k9 => k_is); (case a10 => k_is); (case l10 => k_is); (case c10 => k_is); (case k10 => k_is); (case a11 => k_is); (case l11 => k_is); (case c11 => k_is); (case k11 => k_is); (case a12 => k_is); (case l12 => k_is); (case c12 => k_is); (case k12 => k_is); (case a13 => k_is); (case l13 => k_is); (case c13 => k_is); (case k13 => k_is); (case a14 => k_is); (case l14 => k_is); (case c14 => k_is); (case k14 => k_is); (case a15 => k_is); (case l15 => k_is); (case c15 => k_is); (case k15 => k_is); (case a16 => k_is); (case l16 => k_is); (case c16 => k_is); (case k16 => k_is); (case a17 => k_is); (case l17 => k_is); (case c17 => k_is); (case k17 => k_is); (case a18 => k_is); (case l18 => k_is); (case c18 => k_is); (case k18 => k_is); (case i18 => k_is); (case a19 => k_is); (case l19 => k_is); (case c19 => k_is); (case k19 => k_is); (case i19 => k_is); (case a20 => k_is); (case l20 => k_is); (case c20 => k_is); (case k20 => k_is); (case a21 => k_is); (case l21 => k_is); (case c21 => k_is); (case k21 => k_is); (case a22 => k_is); (case l22 => k_is); (case c22 => k_is); (case k22 => k_is); (case a23 => k_is); (case l23 => k_is); (case c23 => k_is); (case k23 => k_is); (case a24 => k_is); (case l24 => k_is); (case c24 => k_is); (case k24 => k_is); (case a25 => k_is); (case l25 => k_is); (case c25 => k_is); (case k25 => k_is); (case a26 => k_is); (case l26 => k_is); (case c26 => k_is); (case k26 => k_is); (case a27 => k_is); (case l27 => k_is); (case c27 => k_is); (case k27 => k_is); (case a28 => k_is); (case l28 => k_is); (case c28 => k_is); (case k28 => k_is); (case a29 => k_is); (case l29 => k_is); (case c29 => k_is); (case k29 => k_is); (case a30 => k_is); (case l30 => k_is); (case c30 => k_is); (case k30 => k_is); (case a31 => k_is); (case l31 => k_is); (case c31 => k_is); (case k31 => k_is); (case a32 => k_is); (case l32 => k_is); (case c32 => k_is); (case k32 => k_is); (case a33 => k_is); (case l33 => k_is); (case c33 => k_is); (case k33 => k_is); (case a34 => k_is); (case l34 => k_is); (case c34 => k_is); (case k34 => k_is); (case zm_isinstance => k_is); (case zm_str => k_is); (case zm_min => k_is); (case zm_max => k_is); (case zm_len => k_is); (case zm_int => k_is); (case zm_bool => k_is); (case zm_list => k_is); (case zm_all => k_is); (case zm_sorted => k_is); (case zm_ValueError => k_is); (case aMv => k_is); (case lM => k_is); (case pgWay => k_is); (case hdWay => k_is); (case poWay => k_is); (case saWay => k_is); (case haWay => k_is); (case hmWay => k_is); (case nfWay => k_is); (case mkWay => k_is); (case kcWay => k_is); (case pgShut => k_is); (case hdShut => k_is); (case poShut => k_is); (case saShut => k_is); (case haShut => k_is); (case hmShut => k_is); (case nfShut => k_is); (case mkShut => k_is); (case kcShut => k_is); (case dgn => k_is); (case dgt => k_is); (case nRidgeError => k_is); (case nBadRidge => k_is); (case nBadClimb => k_is); (case nBadRange => k_is); (case nBadPlaces => k_is); (case nBadMoves => k_is); (case nUnlike => k_is); (case kRidgeError => k_is); (case sRidgeError => k_is); (case tRidgeError => k_is); (case qRidgeError => k_exc); (case kBadRidge => k_is); (case sBadRidge => k_is); (case tBadRidge => k_is); (case qBadRidge => k_exc); (case kBadClimb => k_is); (case sBadClimb => k_is); (case tBadClimb => k_is); (case qBadClimb => k_exc); (case kBadRange => k_is); (case sBadRange => k_is); (case tBadRange => k_is); (case qBadRange => k_exc); (case kBadPlaces => k_is); (case sBadPlaces => k_is); (case tBadPlaces => k_is); (case qBadPlaces => k_exc); (case kBadMoves => k_is); (case sBadMoves => k_is); (case tBadMoves => k_is); (case qBadMoves => k_exc); (case kUnlike => k_is); (case sUnlike => k_is); (case tUnlike => k_is); (case qUnlike => k_exc); (case aBadRidge => k_is); (case bBadRidge => k_is); (case uBadRidge => k_is); (case dBadRidge => k_is); (case cBadRidge => k_is); (case mBadRidge => k_is); (case teBadRidge => kts_exm); (case meBadRidge => kit_is); (case veBadRidge => kit_is); (case h_BadRidge_BadClimb => kit_is); (case h_BadRidge_BadRange => kit_is); (case h_BadRidge_BadPlaces => kit_is); (case h_BadRidge_BadMoves => kit_is); (case h_BadRidge_Unlike => kit_is); (case aBadClimb => k_is); (case bBadClimb => k_is); (case uBadClimb => k_is); (case dBadClimb => k_is); (case cBadClimb => k_is); (case mBadClimb => k_is); (case teBadClimb => kts_exm); (case meBadClimb => kit_is); (case veBadClimb => kit_is); (case h_BadClimb_BadRidge => kit_is); (case h_BadClimb_BadRange => kit_is); (case h_BadClimb_BadPlaces => kit_is); (case h_BadClimb_BadMoves => kit_is); (case h_BadClimb_Unlike => kit_is); (case aBadRange => k_is); (case bBadRange => k_is); (case uBadRange => k_is); (case dBadRange => k_is); (case cBadRange => k_is); (case mBadRange => k_is); (case teBadRange => kts_exm); (case meBadRange => kit_is); (case veBadRange => kit_is); (case h_BadRange_BadRidge => kit_is); (case h_BadRange_BadClimb => kit_is); (case h_BadRange_BadPlaces => kit_is); (case h_BadRange_BadMoves => kit_is); (case h_BadRange_Unlike => kit_is); (case aBadPlaces => k_is); (case bBadPlaces => k_is); (case uBadPlaces => k_is); (case dBadPlaces => k_is); (case cBadPlaces => k_is); (case mBadPlaces => k_is); (case teBadPlaces => kts_exm); (case meBadPlaces => kit_is); (case veBadPlaces => kit_is); (case h_BadPlaces_BadRidge => kit_is); (case h_BadPlaces_BadClimb => kit_is); (case h_BadPlaces_BadRange => kit_is); (case h_BadPlaces_BadMoves => kit_is); (case h_BadPlaces_Unlike => kit_is); (case aBadMoves => k_is); (case bBadMoves => k_is); (case uBadMoves => k_is); (case dBadMoves => k_is); (case cBadMoves => k_is); (case mBadMoves => k_is); (case teBadMoves => kts_exm); (case meBadMoves => kit_is); (case veBadMoves => kit_is); (case h_BadMoves_BadRidge => kit_is); (case h_BadMoves_BadClimb => kit_is); (case h_BadMoves_BadRange => kit_is); (case h_BadMoves_BadPlaces => kit_is); (case h_BadMoves_Unlike => kit_is); (case aUnlike => k_is); (case bUnlike => k_is); (case uUnlike => k_is); (case dUnlike => k_is); (case cUnlike => k_is); (case mUnlike => k_is); (case teUnlike => kts_exm); (case meUnlike => kit_is); (case veUnlike => kit_is); (case h_Unlike_BadRidge => kit_is); (case h_Unlike_BadClimb => kit_is); (case h_Unlike_BadRange => kit_is); (case h_Unlike_BadPlaces => kit_is); (case h_Unlike_BadMoves => kit_is)
