import PyProof.Rows.All
import Wide.All
import OpenK.AllK
import Wide.FinOn
import HandS.ForMost
import HandS.Zip
import HandS.Rev
import HandS.Style
import HandS.Deep
import HandS.StrMore
import HandS.IsInst
import HandS.Codes
import HandS.Conv
import PySem.Challenge.RW_unison_k03_whole_thinned
set_option Elab.async false
set_option linter.all false
set_option maxRecDepth 100000
set_option maxHeartbeats 4000000
set_option Elab.async false
set_option linter.all false
set_option maxRecDepth 100000
set_option maxHeartbeats 4000000
namespace U
open PySem PySem.Spec PyProof.Rows L2

/-! ### heaps that only grow -/
def Ex (H H' : Hp) : Prop := ∀ a o, H a = some o → H' a = some o
theorem Ex.refl (H : Hp) : Ex H H := fun _ _ h => h
theorem Ex.trans {H H1 H2 : Hp} (a : Ex H H1) (b : Ex H1 H2) : Ex H H2 := fun x o h => b x o (a x o h)
theorem Ex.new {H : Hp} {p : Addr} {o : HO} (h : H p = none) : Ex H (upd H p o) := fun a u e => by
  rw [upd_ne (ne_of_none e h)]
  exact e
theorem Ex.mut {H H' : Hp} {p : Addr} {o : HO} (e : Ex H H') (h : H p = none) : Ex H (upd H' p o) := fun a u ha => by
  rw [upd_ne (ne_of_none ha h)]
  exact e a u ha
theorem Ex.mk {H H' : Hp} {p : Addr} {o : HO} (e : Ex H H') (h : H' p = none) : Ex H (upd H' p o) := e.trans (Ex.new h)
theorem Ex.use {H H' : Hp} {a : Addr} {o : HO} (e : Ex H H') (h : H a = some o) : H' a = some o := e a o h
theorem Ex.free {H H' : Hp} {p : Addr} (e : Ex H H') (h : H' p = none) : H p = none := by
  cases h1 : H p with
  | none => rfl
  | some o =>
    rw [e p o h1] at h
    cases h
theorem Ex.sql {K : PySem.W.Frag} {H H' : Hp} {a : Addr} {xs : List V} (e : Ex H H') (h : SqL K H a xs) : SqL K H' a xs := by
  rcases h with (h | ⟨o, h⟩) | h
  · exact .inl (.inl (e _ _ h))
  · exact .inl (.inr ⟨o, e _ _ h⟩)
  · exact .inr h
theorem Ex.sqt {K : PySem.W.Frag} {H H' : Hp} {a : Addr} {xs : List V} (e : Ex H H') (h : SqT K H a xs) : SqT K H' a xs := by
  rcases h with (h | ⟨o, h⟩) | h
  · exact .inl (.inl (e _ _ h))
  · exact .inl (.inr ⟨o, e _ _ h⟩)
  · exact .inr h
theorem upd_nofree {H : Hp} {p q : Addr} {o : HO} (h : upd H p o q = none) : H q = none := by
  by_cases e : q = p
  · subst e
    rw [upd_same] at h
    cases h
  · rwa [upd_ne e] at h
theorem line_le {n : Nat} (h : n ≤ 16777216) : n ≤ sizeLine := by rw [sizeLine_eq]; exact h
theorem line_lt {n : Nat} (h : n < 16777216) : n < sizeLine := by rw [sizeLine_eq]; exact h

/-! ### a look-up in a heap that has grown; a list or a tuple that stands there -/
local macro_rules | `(tactic| walk_at "hp") => `(tactic| first
  | assumption
  | exact upd_same
  | (refine Ex.use (Ex.new (by assumption)) ?_; walk_at "hp")
  | (refine Ex.use (by assumption) ?_; walk_at "hp"))
local macro_rules | `(tactic| walk_at "sq") => `(tactic| first
  | assumption
  | (refine SqL.of ?_; walk_at "hp"; done)
  | (refine SqT.of ?_; walk_at "hp"; done)
  | (refine Ex.sql (Ex.new (by assumption)) ?_; walk_at "sq")
  | (refine Ex.sqt (Ex.new (by assumption)) ?_; walk_at "sq")
  | (refine Ex.sql (by assumption) ?_; walk_at "sq")
  | (refine Ex.sqt (by assumption) ?_; walk_at "sq"))
local macro_rules | `(tactic| walk_at "ex") => `(tactic| first
  | assumption
  | exact Ex.refl _
  | exact Ex.new (by assumption)
  | (refine Ex.mk ?_ (by assumption); walk_at "ex")
  | (refine Ex.trans ?_ (by assumption); walk_at "ex"))
local macro_rules | `(tactic| walk_at "ln") => `(tactic| first
  | (apply line_le; simp only [List.length_cons, List.length_nil, List.length_append, List.length_map, List.length_range]; omega)
  | (apply line_lt; simp only [List.length_cons, List.length_nil, List.length_append, List.length_map, List.length_range]; omega))
section
variable {K : PySem.W.Frag} {H H1 H2 H3 : Hp} {a p q : Addr} {xs : List V} {o : HO}
example (h : H a = some (.lst xs)) (e : Ex H H1) (hp : H1 p = none) : upd H1 p o a = some (.lst xs) := by walk_at "hp"
example (h : H a = some (.lst xs)) (e : Ex H H1) (hp : H1 p = none) (hq : upd H1 p o q = none) : SqL K (upd (upd H1 p o) q o) a xs := by walk_at "sq"
example (h : SqL K H a xs) (e : Ex H H1) (hp : H1 p = none) (hq : upd H1 p o q = none) : SqL K (upd (upd H1 p o) q o) a xs := by walk_at "sq"
example (e : Ex H H1) (hp : H1 p = none) (hq : upd H1 p o q = none) : Ex H (upd (upd H1 p o) q o) := by walk_at "ex"
end
end U

set_option Elab.async false
set_option linter.all false
set_option maxRecDepth 100000
set_option maxHeartbeats 4000000
namespace U
open PySem PySem.Spec PyProof.Rows L2
section
variable {X : Cx}
/-! ### operators of several kinds -/
def rCatS (K : PySem.W.Frag) : R2 := fun x y H Q => ∃ l b xs zs, x = .ref l ∧ y = .ref b ∧ SqL K H l xs ∧ SqL K H b zs ∧ xs.length + zs.length ≤ sizeLine ∧ ∀ p, H p = none → Q (.ref p) (upd H p (.lst (xs ++ zs)))
theorem op_catS : OpR X (binaryOp .Add) (rCatS X.K) := by
  intro pins s σ H x y v u Q I rx ry h
  obtain ⟨l, b, xs, zs, rfl, rfl, hH, hB, hz, q⟩ := h
  cases rx
  cases ry
  obtain ⟨its, r, pl, hl⟩ := I.list hH
  obtain ⟨its2, r2, pl2, hl2⟩ := I.list hB
  obtain ⟨⟨cls, dd, data, sl⟩, n, e, hc, hd, hdat⟩ := pl
  obtain ⟨⟨cls2, dd2, data2, sl2⟩, n2, e2, hc2, hd2, hdat2⟩ := pl2
  simp only at hc hd hdat hc2 hd2 hdat2
  subst hc hd hdat hc2 hd2 hdat2
  have l1 := r.length
  have l2 := r2.length
  have ea : its.toArray ++ its2.toArray = (its ++ its2).toArray := by simp
  refine concat_meets ⟨_, e, rfl⟩ ⟨_, e2, rfl⟩ noFill_list_add seq_list_add PySem.F.slot_list_add PySem.F.entry_list_add (PySem.F.args_list_add_2 _ _) (list_addW l b its.toArray its2.toArray n n2 none none sl sl2 (by rw [List.size_toArray, List.size_toArray]; omega)) ⟨e, e2, ?_⟩
  rw [ea]
  exact ⟨.ref _, _, I.lnew (t' := s.toks) (r.append r2) (by rw [List.length_append]; omega), rfl, q _ I.fresh⟩
def rAddS : R2 := fun x y H Q => ∃ i j, x = .str i ∧ y = .str j ∧ i.length + j.length ≤ sizeLine ∧ Q (.str (i ++ j)) H
/-- x + y: ints, texts, lists -/
def rAddU (K : PySem.W.Frag) : R2 := fun x y H Q => rI0 (fun i j => .int (i + j)) x y H Q ∨ rAddS x y H Q ∨ rCatS K x y H Q
theorem op_addU : OpR X (binaryOp .Add) (rAddU X.K) := (op_add (X := X)).or ((op_add_str (X := X)).or op_catS)
/-- x == y: scalars, data -/
def rEqU (K : PySem.W.Frag) : R2 := fun x y H Q => rEq x y H Q ∨ rEqD K x y H Q
def rNeU (K : PySem.W.Frag) : R2 := fun x y H Q => rNe x y H Q ∨ rNeD K x y H Q
theorem op_eqU (hu : X.A.units + 64 < cLine) : OpR X (compareOp .Eq) (rEqU X.K) := (op_eq (X := X)).or (op_eqD hu)
theorem op_neU (hu : X.A.units + 64 < cLine) : OpR X (compareOp .NotEq) (rNeU X.K) := (op_ne (X := X)).or (op_neD hu)
/-- len of a list, a tuple, a text -/
def rLenU (K : PySem.W.Frag) : List V → Hp → VK → Prop := fun xs H Q => (∃ p ys, xs = [.ref p] ∧ (SqL K H p ys ∨ SqT K H p ys) ∧ Q (.int ys.length) H) ∨ ∃ z, xs = [.str z] ∧ z.length ≤ sizeLine ∧ Q (.int z.length) H
theorem call_lenU : CallR X (.builtin "len") (rLenU X.K) := (call_len_seq (X := X)).or call_len_str

/-- text * int -/
def rMulS : R2 := fun x y H Q => ∃ z n, x = .str z ∧ y = .int n ∧ n < 2 ^ 31 ∧ -(2 ^ 31) < n ∧ z.length * n.toNat ≤ 16777216 ∧ Q (.str ⟨(List.replicate n.toNat z.cps.toList).flatten.toArray⟩) H
theorem fold_rep (a : Array Nat) : ∀ (k : Nat) (acc : Array Nat), (List.replicate k a).foldl (· ++ ·) acc = acc ++ (List.replicate k a.toList).flatten.toArray
  | 0, acc => by simp
  | k + 1, acc => by
    rw [List.replicate_succ, List.foldl_cons, fold_rep a k, List.replicate_succ, List.flatten_cons]
    apply Array.ext'
    simp
theorem mul_txt (z : Str) (n : Int) : Txt.mul z n = ⟨(List.replicate n.toNat z.cps.toList).flatten.toArray⟩ := by
  unfold Txt.mul
  by_cases h1 : n < 1
  · rw [if_pos h1, show n.toNat = 0 by omega]
    rfl
  · rw [if_neg h1]
    by_cases h2 : (n == 1 || z.length == 0) = true
    · rw [if_pos h2]
      rw [Bool.or_eq_true] at h2
      rcases h2 with h2 | h2
      · have e : n = 1 := eq_of_beq h2
        subst e
        obtain ⟨c⟩ := z
        show _ = Str.mk (List.flatten [c.toList]).toArray
        simp
      · have e : z.cps.size = 0 := eq_of_beq h2
        obtain ⟨c⟩ := z
        have e2 : c = #[] := Array.eq_empty_of_size_eq_zero e
        subst e2
        have : ∀ k : Nat, (List.replicate k ([] : List Nat)).flatten = [] := fun k => by induction k with
          | zero => rfl
          | succ k ih => rw [List.replicate_succ, List.flatten_cons, ih]; rfl
        show _ = Str.mk (List.flatten (List.replicate _ [])).toArray
        rw [this]
    · rw [if_neg h2, fold_rep]
      simp
theorem op_mulS : OpR X (binaryOp .Mult) rMulS := by
  intro pins s σ H x y v u Q I rx ry h
  obtain ⟨z, n, rfl, rfl, h1, h2, h3, q⟩ := h
  obtain ⟨t, rfl⟩ := rx
  obtain ⟨t', rfl⟩ := ry
  rw [← mul_txt] at q
  refine SB.mul ⟨?_, fun h4 _ h5 => ?_, fun _ _ => ?_⟩ fun t2 k => ⟨.str _, H, I.tok _, ⟨_, rfl⟩, q⟩
  · rw [decide_eq_false (show ¬ n < -(2 ^ 63 : Int) by omega), decide_eq_false (show ¬ n ≥ (2 ^ 63 : Int) by omega)]
    rfl
  · have hn : 0 < n := by omega
    have hz : (z.length : Int) * n ≤ 16777216 := by
      have e : ((n.toNat : Nat) : Int) = n := Int.toNat_of_nonneg (by omega)
      have q : ((z.length * n.toNat : Nat) : Int) ≤ ((16777216 : Nat) : Int) := Int.ofNat_le.mpr h3
      rw [Int.natCast_mul, e] at q
      omega
    have h7 : (z.length : Int) ≤ (2 ^ 63 - 1) / n := (Int.le_ediv_iff_mul_le hn).mpr (by omega)
    omega
  · unfold PySem.Builtin.Str.tooLong
    refine decide_eq_false ?_
    rw [sizeLine_eq]
    omega
end
end U

set_option Elab.async false
set_option linter.all false
set_option maxRecDepth 100000
set_option maxHeartbeats 4000000
namespace U
open PySem PySem.Spec PyProof.Rows L2
/-! ### text[::-1] -/
theorem rev_idx (n : Nat) : Builtin.Str.strSliceIndices none none (-1) n = (List.range n).map fun k => n - 1 - k := by
  have e : Builtin.Str.strSliceIndices none none (-1) n = sliceRange ((n : Int) - 1) (-1) (-1) := by
    unfold Builtin.Str.strSliceIndices
    rfl
  rw [e, PySem.W.krv_sliceRange]
theorem rev_pick (a : Array Nat) : (Builtin.Str.strSliceIndices none none (-1) a.size).filterMap (a[·]?) = a.toList.reverse := by
  rw [rev_idx, PySem.W.krv_range, List.filterMap_reverse, PySem.W.krv_all]
def tRevS (te : TE) : TE := fun σ H Q => te σ H fun x H1 => ∃ z, x = .str z ∧ z.length ≤ sizeLine ∧ Q (.str ⟨z.cps.toList.reverse.toArray⟩) H1
section
variable {X : Cx}
theorem pe_revS {e : Expr} {te : TE} {k : Nat} {p1 p2 p3 pos : Pos} (he : PE X e te) : PE X (.Subscript e (.Slice none none (some (.UnaryOp .USub (.Constant (.int 1) k p1) p2)) p3) pos) (tRevS te) := by
  refine ⟨fun pins s σ H Q I h => ?_⟩
  refine Subscript_ (thn (he.run pins s σ H _ I h) fun v s1 ⟨x, H1, I1, r1, q1⟩ => ?_)
  obtain ⟨z, ex, hz, q⟩ := q1
  subst ex
  obtain ⟨t, rfl⟩ := r1
  have hst : PO X (some (.UnaryOp .USub (.Constant (.int 1) k p1) p2)) (tPart (tUn (rU fun i => .int (-i)) (tC (.int 1)))) := po_some (pe_un un_neg pe_int)
  refine wpAny_Slice (thn (po_none.run pins s1 σ H1 (fun o H2 => o = none ∧ H2 = H1) I1 ⟨rfl, rfl⟩) fun vl s2 ⟨l, H2, I2, pl, el, e2⟩ => ?_)
  subst el e2
  refine thn (po_none.run pins s2 σ H2 (fun o H3 => o = none ∧ H3 = H2) I2 ⟨rfl, rfl⟩) fun vu s3 ⟨u, H3, I3, pu, eu, e3⟩ => ?_
  subst eu e3
  refine thn (hst.run pins s3 σ H3 (fun o H4 => o = some (-1) ∧ H4 = H3) I3 ⟨1, rfl, -1, rfl, rfl, rfl⟩) fun vs s4 ⟨o, H4, I4, ps, eo, e4⟩ => ?_
  subst eo e4
  have I5 : Inv X pins σ H4 { s4 with heap := s4.heap.push { cls := .type "slice", data := .fields #[vl, vu, vs] } } := I4.kept (t' := s4.toks) fun b ob q => Heap.get?_push_of_some _ q
  obtain ⟨l, rfl, el⟩ := IsPart.raw pl
  obtain ⟨u, rfl, eu⟩ := IsPart.raw pu
  obtain ⟨w, rfl, ew⟩ := IsPart.raw ps
  cases l with
  | some l => cases el
  | none =>
  cases u with
  | some u => cases eu
  | none =>
  cases w with
  | none => cases ew
  | some w =>
  have hw : w.1 = -1 := (Option.some.inj ew)
  obtain ⟨w1, w2⟩ := w
  simp only at hw
  subst hw
  show wpAny (model X.prog X.w) X.A (subscriptTail e (.Slice none none (some (.UnaryOp .USub (.Constant (.int 1) k p1) p2)) p3) (.str z t) (.ref s4.heap.objs.size)) (EP X pins σ Q) X.xe { s4 with heap := s4.heap.push { cls := .type "slice", data := .fields #[.none, .none, .int (-1) w2] } }
  refine tail_any (T := "str") (ops := [.ref s4.heap.objs.size, .str z t]) (typeIs_str _ _ _) F.slot_str_getitem.lookup ?_ (by with_unfolding_all rfl)
  refine wpAny_getItem_str_slice (l := none) (u := none) (st := some (-1, w2)) ⟨_, Heap.get?_push_size _ rfl, rfl, rfl⟩ rfl ?_
  have hl : ((Builtin.Str.strSliceIndices none none (-1) z.length).filterMap (z.cps[·]?)) = z.cps.toList.reverse := rev_pick z.cps
  have hn : (({ cps := ((Builtin.Str.strSliceIndices none none (-1) z.length).filterMap (z.cps[·]?)).toArray } : Str)).length ≤ sizeLine := by
    rw [hl]
    show z.cps.toList.reverse.toArray.size ≤ sizeLine
    rw [List.size_toArray, List.length_reverse]
    exact hz
  show Made.post (if ((-1 : Int) == 1 && (Builtin.Str.strSliceIndices none none (-1) z.length).length == z.length) = true then Made.val (.str z t)
    else Made.str ⟨((Builtin.Str.strSliceIndices none none (-1) z.length).filterMap (z.cps[·]?)).toArray⟩) (EP X pins σ Q) _
  have hc : ((-1 : Int) == 1 && (Builtin.Str.strSliceIndices none none (-1) z.length).length == z.length) = false := rfl
  rw [hc, if_neg Bool.false_ne_true]
  rw [← hl] at q
  exact ⟨hn, .str _, H4, I5.tok _, ⟨_, rfl⟩, q⟩
end
end U

set_option Elab.async false
set_option linter.all false
set_option maxRecDepth 100000
set_option maxHeartbeats 4000000
namespace U
open PySem PySem.Spec PyProof.Rows L2
/-! ### readings, step by step: what must hold ahead of a step -/
section
variable {σ : L2.St} {H : Hp} {Q : VK} {D : Ends} {ta tb tc te : TE} {tr : TA} {g : TG} {t u : TS} {K : PySem.W.Frag}
theorem k_var {i : Nat} {v : V} (h : σ[i]? = some (some v)) (k : Q v H) : tVar i σ H Q := ⟨v, h, k⟩
theorem k_c {v : V} (k : Q v H) : tC v σ H Q := k
theorem k_nil {Q : List V → Hp → Prop} (k : Q [] H) : tNil σ H Q := k
theorem k_cons {Q : List V → Hp → Prop} (k : te σ H fun x H1 => tr σ H1 fun xs H2 => Q (x :: xs) H2) : tCons te tr σ H Q := k
theorem k_op {r : R2} (k : ta σ H fun x H1 => tb σ H1 fun y H2 => r x y H2 Q) : tOp r ta tb σ H Q := k
theorem k_un {r : V → Hp → VK → Prop} (k : ta σ H fun x H1 => r x H1 Q) : tUn r ta σ H Q := k
theorem k_seq (k : t { D with nx := u D } σ H) : tSeq t u D σ H := k
theorem k_asg (k : te σ H fun x H1 => g x σ H1 D.nx) : tAsg te g D σ H := k
theorem k_name {i : Nat} {v : V} {Q : L2.St → Hp → Prop} (k : Q (σ.set i (some v)) H) : gName i v σ H Q := k
theorem k_ret (k : te σ H D.rt) : tRet te D σ H := k
theorem k_retN (k : D.rt .non H) : tRetN D σ H := k
theorem k_drop (k : te σ H fun _ H1 => D.nx σ H1) : tDrop te D σ H := k
theorem k_next (k : D.nx σ H) : tNext D σ H := k
theorem k_nx {n : L2.St → Hp → Prop} {r : VK} {b c : L2.St → Hp → Prop} (k : n σ H) : Ends.nx ⟨n, r, b, c⟩ σ H := k
theorem k_rt {n : L2.St → Hp → Prop} {r : VK} {b c : L2.St → Hp → Prop} {v : V} (k : r v H) : Ends.rt ⟨n, r, b, c⟩ v H := k
theorem k_ifS {c : TT} (k : c σ H fun b H1 => if b = true then t D σ H1 else u D σ H1) : tIfS c t u D σ H := k
theorem k_ifE {c : TT} (k : c σ H fun b H1 => if b = true then ta σ H1 Q else tb σ H1 Q) : tIf c ta tb σ H Q := k
theorem k_test {Q : Bool → Hp → Prop} (k : te σ H fun x H' => ∃ b, x = .bl b ∧ Q b H') : tTest te σ H Q := k
theorem k_B {Q : Bool → Hp → Prop} (k : te σ H fun x H' => ∃ b, x = .bl b ∧ Q b H') : tB te σ H Q := k
theorem k_not {c : TT} {Q : Bool → Hp → Prop} (k : c σ H fun b H1 => Q (!b) H1) : tNot c σ H Q := k
theorem k_or {c d : TT} {Q : Bool → Hp → Prop} (k : c σ H fun b H1 => if b = true then Q true H1 else d σ H1 Q) : tOr c d σ H Q := k
theorem k_and {c d : TT} {Q : Bool → Hp → Prop} (k : c σ H fun b H1 => if b = true then d σ H1 Q else Q false H1) : tAnd c d σ H Q := k
theorem k_notV (k : ta σ H fun x H1 => ∃ c, x = .bl c ∧ Q (.bl (!c)) H1) : tNotV ta σ H Q := k
theorem k_andV (k : ta σ H fun x H1 => ∃ c, x = .bl c ∧ if c = true then tb σ H1 Q else Q (.bl false) H1) : tAndV ta tb σ H Q := k
theorem k_orV (k : ta σ H fun x H1 => ∃ c, x = .bl c ∧ if c = true then Q (.bl true) H1 else tb σ H1 Q) : tOrV ta tb σ H Q := k
theorem k_bl {b : Bool} {G : Bool → Prop} (k : G b) : ∃ c, V.bl b = .bl c ∧ G c := ⟨b, rfl, k⟩
theorem k_call {sp : Sp} {dvs : List V} {E : XK} (k : tr σ H fun vs H1 => sp (vs ++ dvs) H1 Q E) : tCall sp dvs E tr σ H Q := k
theorem k_cb {r : List V → Hp → VK → Prop} (k : tr σ H fun vs H1 => r vs H1 Q) : tCB r tr σ H Q := k
theorem k_tup (k : tr σ H fun xs H1 => xs.length ≤ sizeLine ∧ ∀ p, H1 p = none → Q (.ref p) (upd H1 p (.tup xs))) : tTup tr σ H Q := k
theorem k_lst (k : tr σ H fun xs H1 => xs.length ≤ sizeLine ∧ ∀ p, H1 p = none → Q (.ref p) (upd H1 p (.lst xs))) : tLst tr σ H Q := k
theorem k_sl {r : V → Option Int → Option Int → Hp → VK → Prop} {tl th : TO} (k : te σ H fun x H1 => tl σ H1 fun l H2 => th σ H2 fun u H3 => r x l u H3 Q) : tSl r te tl th σ H Q := k
theorem k_noPart {Q : Option Int → Hp → Prop} (k : Q none H) : tNoPart σ H Q := k
theorem k_part {Q : Option Int → Hp → Prop} (k : te σ H fun x H1 => ∃ i, x = .int i ∧ Q (some i) H1) : tPart te σ H Q := k
theorem k_int {i : Int} {G : Int → Prop} (k : G i) : ∃ j, V.int i = .int j ∧ G j := ⟨i, rfl, k⟩
theorem k_I0 {f : Int → Int → V} {i j : Int} (k : Q (f i j) H) : rI0 f (.int i) (.int j) H Q := ⟨i, j, rfl, rfl, k⟩
theorem k_I {C : Int → Int → Prop} {f : Int → Int → V} {i j : Int} (c : C i j) (k : Q (f i j) H) : rI C f (.int i) (.int j) H Q := ⟨i, j, rfl, rfl, c, k⟩
theorem k_U {f : Int → V} {i : Int} (k : Q (f i) H) : rU f (.int i) H Q := ⟨i, rfl, k⟩
theorem k_addI {i j : Int} (k : Q (.int (i + j)) H) : rAddU K (.int i) (.int j) H Q := .inl ⟨i, j, rfl, rfl, k⟩
theorem k_addS {i j : Str} (hl : i.length + j.length ≤ sizeLine) (k : Q (.str (i ++ j)) H) : rAddU K (.str i) (.str j) H Q := .inr (.inl ⟨i, j, rfl, rfl, hl, k⟩)
theorem k_addL {l b : Addr} {xs zs : List V} (h1 : SqL K H l xs) (h2 : SqL K H b zs) (hl : xs.length + zs.length ≤ sizeLine) (k : ∀ p, H p = none → Q (.ref p) (upd H p (.lst (xs ++ zs)))) : rAddU K (.ref l) (.ref b) H Q := .inr (.inr ⟨l, b, xs, zs, rfl, rfl, h1, h2, hl, k⟩)
theorem k_eqI {i j : Int} (k : Q (.bl (decide (i = j))) H) : rEqU K (.int i) (.int j) H Q := .inl ⟨rfl, by rw [dec_int, Bool.beq_eq_decide_eq]; exact k⟩
theorem k_neI {i j : Int} (k : Q (.bl (!decide (i = j))) H) : rNeU K (.int i) (.int j) H Q := .inl ⟨rfl, by rw [dec_int, Bool.beq_eq_decide_eq]; exact k⟩
theorem k_eqS {i j : Str} (k : Q (.bl (decide (i = j))) H) : rEqU K (.str i) (.str j) H Q := .inl ⟨rfl, by rw [dec_str, Bool.beq_eq_decide_eq]; exact k⟩
theorem k_neS {i j : Str} (k : Q (.bl (!decide (i = j))) H) : rNeU K (.str i) (.str j) H Q := .inl ⟨rfl, by rw [dec_str, Bool.beq_eq_decide_eq]; exact k⟩
theorem k_eqB {i j : Bool} (k : Q (.bl (decide (i = j))) H) : rEqU K (.bl i) (.bl j) H Q := .inl ⟨rfl, by rw [dec_bl, Bool.beq_eq_decide_eq]; exact k⟩
theorem k_neB {i j : Bool} (k : Q (.bl (!decide (i = j))) H) : rNeU K (.bl i) (.bl j) H Q := .inl ⟨rfl, by rw [dec_bl, Bool.beq_eq_decide_eq]; exact k⟩
theorem k_eqD {x y : V} {d e : PyData} (h1 : Dp K H x d) (h2 : Dp K H y e) (s1 : SeqAt.shaped d = true) (s2 : SeqAt.shaped e = true) (k : Q (.bl (PyData.eqv d e)) H) : rEqU K x y H Q := .inr ⟨d, e, h1, h2, s1, s2, k⟩
theorem k_neD {x y : V} {d e : PyData} (h1 : Dp K H x d) (h2 : Dp K H y e) (s1 : SeqAt.shaped d = true) (s2 : SeqAt.shaped e = true) (k : Q (.bl (!PyData.eqv d e)) H) : rNeU K x y H Q := .inr ⟨d, e, h1, h2, s1, s2, k⟩
theorem k_ixL {p : Addr} {xs : List V} {i : Int} {v : V} (h : SqL K H p xs) (ha : atI xs i = some v) (k : Q v H) : rIx K (.ref p) (.int i) H Q := .inl ⟨p, xs, i, v, rfl, rfl, h, ha, k⟩
theorem k_ixT {p : Addr} {xs : List V} {i : Int} {v : V} (h : SqT K H p xs) (ha : atI xs i = some v) (k : Q v H) : rIx K (.ref p) (.int i) H Q := .inr (.inl ⟨p, xs, i, v, rfl, rfl, h, ha, k⟩)
theorem k_ixS {z : Str} {i : Int} {c : Nat} (hz : z.length ≤ sizeLine) (ha : atI z.cps.toList i = some c) (k : Q (.str ⟨#[c]⟩) H) : rIx K (.str z) (.int i) H Q := .inr (.inr ⟨z, i, c, rfl, rfl, hz, ha, k⟩)
theorem k_lenL {p : Addr} {ys : List V} (h : SqL K H p ys) (k : Q (.int ys.length) H) : rLenU K [.ref p] H Q := .inl ⟨p, ys, rfl, .inl h, k⟩
theorem k_lenT {p : Addr} {ys : List V} (h : SqT K H p ys) (k : Q (.int ys.length) H) : rLenU K [.ref p] H Q := .inl ⟨p, ys, rfl, .inr h, k⟩
theorem k_lenS {z : Str} (hz : z.length ≤ sizeLine) (k : Q (.int z.length) H) : rLenU K [.str z] H Q := .inr ⟨z, rfl, hz, k⟩
/-- xs.append(e), the list's name evaluated to .ref l -/
theorem k_bm {T : String} {r : V → List V → Hp → VK → Prop} {to : TE} (k : to σ H fun x H1 => tyV K T x H1 ∧ tr σ H1 fun xs H2 => r x xs H2 Q) : tBM K T r to tr σ H Q := k
theorem k_bm0 {T : String} {r : V → List V → Hp → VK → Prop} {to : TE} (k : to σ H fun x H1 => tyV K T x H1 ∧ r x [] H1 Q) : tBM0 K T r to σ H Q := k
theorem k_tyL {l : Addr} {xs : List V} {P : Prop} (h : H l = some (.lst xs)) (k : P) : tyV K "list" (.ref l) H ∧ P := ⟨.inl ⟨rfl, _, SqL.of h⟩, k⟩
theorem k_app {l : Addr} {xs : List V} {y : V} (h : H l = some (.lst xs)) (hz : xs.length < sizeLine) (k : Q .non (upd H l (.lst (xs ++ [y])))) : rAppend (.ref l) [y] H Q := ⟨l, xs, y, rfl, rfl, h, hz, k⟩
theorem k_gTup {n : Nat} {tg : TGs} {p : Addr} {xs : List V} {Q : L2.St → Hp → Prop} (h : SqT K H p xs) (hn : xs.length = n) (k : tg xs σ H Q) : gTup K n tg (.ref p) σ H Q := ⟨p, xs, rfl, h, hn, k⟩
theorem k_gCons {tg : TG} {u : TGs} {v : V} {r : List V} {Q : L2.St → Hp → Prop} (k : tg v σ H fun σ' H' => u r σ' H' Q) : gCons tg u (v :: r) σ H Q := ⟨v, r, rfl, k⟩
theorem k_gNil {Q : L2.St → Hp → Prop} (k : Q σ H) : gNil [] σ H Q := ⟨rfl, k⟩
theorem k_par {i j : Nat} {ta : TA} (k : ta σ H fun vs H1 => ∃ v w, vs = [v, w] ∧ D.nx ((σ.set i (some v)).set j (some w)) H1) : tPar i j ta D σ H := k
theorem k_vs2 {v w : V} {G : V → V → Prop} (k : G v w) : ∃ a b, [v, w] = [a, b] ∧ G a b := ⟨v, w, rfl, k⟩
theorem k_chain {r r' : R2} (k : ta σ H fun x H1 => tb σ H1 fun y H2 => r x y H2 fun z H3 => ∃ k, z = .bl k ∧ (if k = true then tc σ H3 fun w' H4 => r' y w' H4 Q else Q (.bl false) H3)) : tChain r r' ta tb tc σ H Q := k
theorem k_for {wi : TI} {g : TG} {tb : TS} (k : wi σ H fun J H1 => ∃ W : Nat → Nat → L2.St → Hp → Prop, (∃ m, W 0 m σ H1) ∧ ∀ i m σ H, W i m σ H → (J.stop i H ∧ D.nx σ H) ∨ (J.go i H ∧ ∃ N : L2.St → Hp → Prop, (∀ σ' H', N σ' H' → ∃ m', m' < m ∧ W (i + 1) m' σ' H') ∧
    ∀ x H', J.yld i H x H' → g x σ H' fun σ2 H2 => tb { D with nx := N, ct := N, bk := D.nx } σ2 H2)) : tFor wi g tb D σ H := k
theorem k_iStr {R : It → Hp → Prop} (k : te σ H fun v H1 => ∃ x, v = .str x ∧ R (Its x) H1) : iStr te σ H R := k
theorem k_iList {R : It → Hp → Prop} (k : te σ H fun x H1 => ∃ a, x = .ref a ∧ (∃ xs, SqL K H1 a xs) ∧ R (Itl K a) H1) : iList K te σ H R := k
theorem k_iTup {R : It → Hp → Prop} (k : te σ H fun x H1 => ∃ a, x = .ref a ∧ (∃ xs, SqT K H1 a xs) ∧ R (Itt K a) H1) : iTup K te σ H R := k
theorem k_iRng1 {R : It → Hp → Prop} (k : tr σ H fun vs H1 => ∃ j : Int, vs = [.int j] ∧ -(2 ^ 62) ≤ j ∧ j < 2 ^ 62 ∧ R (Itr 0 j.toNat) H1) : iRng1 tr σ H R := k
theorem k_lc {wi : TI} {g : TG} {tt : TT} {vs : List Nat} (k : wi σ H fun J H1 => ∀ D, H1 D = none → ∃ W : Nat → Nat → Hp → Prop, (∃ m, W 0 m (upd H1 D (.lst []))) ∧ ∀ i m H, W i m H →
    (J.stop i H ∧ Q (.ref D) H) ∨ (J.go i H ∧ ∃ Nx : Hp → Prop, (∀ H', Nx H' → ∃ m', m' < m ∧ W (i + 1) m' H') ∧ ∀ x H', J.yld i H x H' → g x (wipe σ vs) H' fun σ2 H2 => wipe σ2 vs = wipe σ vs ∧ tt σ2 H2 fun b H3 =>
      if b = true then te σ2 H3 fun y H4 => ∃ acc, H4 D = some (.lst acc) ∧ acc.length < sizeLine ∧ Nx (upd H4 D (.lst (acc ++ [y]))) else Nx H3)) : tLc wi g tt te vs σ H Q := k
theorem k_M1 {r : V → List V → Hp → VK → Prop} {to : TE} (k : to σ H fun x H1 => (∃ a, x = .str a) ∧ te σ H1 fun y H2 => r x [y] H2 Q) : tM1 r to te σ H Q := k
theorem k_isStr {s : Str} {P : Prop} (k : P) : (∃ a, V.str s = .str a) ∧ P := ⟨⟨s, rfl⟩, k⟩
theorem k_rev {R : It → Hp → Prop} (k : te σ H fun v H1 => ∃ (a : Addr) (xs : List V), v = .ref a ∧ ((SqL K H1 a xs ∧ R (Itv K a xs.length) H1) ∨ (SqT K H1 a xs ∧ R (RT.ItvT K a xs.length) H1))) : RT.iRevA K te σ H R := k
theorem k_revS (k : te σ H fun x H1 => ∃ z, x = .str z ∧ z.length ≤ sizeLine ∧ Q (.str ⟨z.cps.toList.reverse.toArray⟩) H1) : tRevS te σ H Q := k
theorem k_revL (k : te σ H fun x H1 => ∃ a xs, x = .ref a ∧ SqL K H1 a xs ∧ ∀ p, H1 p = none → Q (.ref p) (upd H1 p (.lst xs.reverse))) : tRevL K te σ H Q := k
theorem k_isN {v : V} {Q' : VK} (k : Q' (.bl (decide (v = .non))) H) : (fun x y H Q => y = V.non ∧ Q (.bl (decide (x = .non))) H : R2) v .non H Q' := ⟨rfl, k⟩
end
/-- a test that decides -/
theorem k_if {P A B : Prop} [Decidable P] (h1 : P → A) (h2 : ¬ P → B) : if decide P = true then A else B := by
  by_cases h : P
  · rw [decide_eq_true h, if_pos rfl]
    exact h1 h
  · rw [decide_eq_false h, if_neg Bool.false_ne_true]
    exact h2 h
theorem k_ifn {P A B : Prop} [Decidable P] (h1 : ¬ P → A) (h2 : P → B) : if (!decide P) = true then A else B := by
  by_cases h : P
  · rw [decide_eq_true h]
    exact h2 h
  · rw [decide_eq_false h]
    exact h1 h
theorem k_iT {A B : Prop} (h : A) : if true = true then A else B := by rw [if_pos rfl]; exact h
theorem k_iF {A B : Prop} (h : B) : if false = true then A else B := by rw [if_neg Bool.false_ne_true]; exact h
theorem k_ib {b c : Bool} {A B : Prop} (e : b = c) (h : if c = true then A else B) : if b = true then A else B := by rw [e]; exact h

theorem k_ntT {A B : Prop} (h : B) : if (!true) = true then A else B := by rw [show (!true) = false from rfl, if_neg Bool.false_ne_true]; exact h
theorem k_ntF {A B : Prop} (h : A) : if (!false) = true then A else B := by rw [show (!false) = true from rfl, if_pos rfl]; exact h
theorem k_tyS {K : PySem.W.Frag} {H : Hp} {z : Str} {P : Prop} (k : P) : tyV K "str" (.str z) H ∧ P := ⟨rfl, k⟩
theorem k_strip {H : Hp} {Q : VK} {a b : Str} (hz : a.length ≤ sizeLine) (k : Q (.str (Txt.stripChars a b)) H) : ∃ a' b', V.str a = V.str a' ∧ [V.str b] = [V.str b'] ∧ a'.length ≤ sizeLine ∧ Q (V.str (Txt.stripChars a' b')) H := ⟨a, b, rfl, rfl, hz, k⟩
theorem k_isi {K : PySem.W.Frag} {H : Hp} {Q : VK} {x : V} {n t : String} {b : Bool} (ty : TyX K H x (.type t)) (e : kitB t n = some b) (k : Q (.bl b) H) : rIsi K [x, .ty n] H Q := ⟨x, .ty n, .type t, .type n, b, rfl, .ty n, ty, kit_ty e, k⟩
theorem k_join {K : PySem.W.Frag} {H : Hp} {Q : VK} {a : Str} {p : Addr} {ls : List Nat} (h : SqL K H p ((ls.map fun c => (⟨#[c]⟩ : Str)).map V.str)) (hz : ls.length + ls.length * a.length ≤ 16777216) (k : Q (.str (Txt.join a (ls.map fun c => (⟨#[c]⟩ : Str)))) H) :
    ∃ a' p', ∃ ys : List Str, V.str a = V.str a' ∧ [V.ref p] = [V.ref p'] ∧ (SqL K H p' (ys.map V.str) ∨ SqT K H p' (ys.map V.str)) ∧ (ys.map (·.length)).sum + ys.length * a'.length ≤ 16777216 ∧ Q (.str (Txt.join a' ys)) H := by
  refine ⟨a, p, _, rfl, rfl, .inl h, ?_, k⟩
  rw [List.map_map, List.length_map]
  have e : (ls.map ((fun x : Str => x.length) ∘ fun c => (⟨#[c]⟩ : Str))).sum = ls.length := by
    clear h k hz
    induction ls with
    | nil => rfl
    | cons c r ih => rw [List.map_cons, List.sum_cons, ih, List.length_cons]; show 1 + r.length = _; omega
  rw [e]
  exact hz
/-! ### the context's written part -/
theorem cxK {CX : CXT} {P : Program} {w : World} {K : PySem.W.Frag} {mg : Str → Option Value} {base : Heap} {N : List Str} {qual : Str} {scope : Scope} {f : Addr} {cd : Value} {A : Around} {outer : List Env} {s : Shared} {H : Hp} {E : XK} :
    (cxOf CX P w K mg base N qual scope f cd A outer s H E).K = K := rfl
theorem cxKn {CX : CXT} {P : Program} {w : World} {K : PySem.W.Frag} {mg : Str → Option Value} {base : Heap} {N : List Str} {qual : Str} {scope : Scope} {f : Addr} {cd : Value} {A : Around} {outer : List Env} {s : Shared} {H : Hp} {E : XK} :
    (cxOf CX P w K mg base N qual scope f cd A outer s H E).nox.K = K := rfl
/-! ### a def that may be called by its name -/
structure Cal (P : Program) (w : World) (K : PySem.W.Frag) (mg : Str → Option Value) (base : Heap) (CX : CXT) (k : Nat) (x : Str) (sp : Sp) : Prop where
  ex : ∃ (f : Addr) (fd : FuncData) (ps : List Str), FnOk P w K mg base CX k f fd ps sp ∧ mg x = some (.ref f) ∧ PySem.W.keepIn K (.ref f) = true ∧ Binds K fd ps []
theorem cal_mk {P : Program} {w : World} {K : PySem.W.Frag} {mg : Str → Option Value} {base : Heap} {CX : CXT} {k : Nat} {x : Str} {sp : Sp} {f : Addr} {fd : FuncData} {ps : List Str} (F : FnOk P w K mg base CX k f fd ps sp) (hm : mg x = some (.ref f)) (hk : PySem.W.keepIn K (.ref f) = true) (hb : Binds K fd ps []) : Cal P w K mg base CX k x sp := ⟨f, fd, ps, F, hm, hk, hb⟩
section
variable {X : Cx} {k j : Nat} {C : Addr} {x m : Str} {sp : Sp} {dvs : List V} {p pos apos : Pos} {e o : Expr} {es : List Expr} {ta : TE} {t : TA} {CX : CXT}
theorem pe_c0 (c : Cal X.prog X.w X.K X.mg X.base CX0 k x sp) (hr : Room j X.A) (hk : k ≤ j) (hg : Gl X x) (ha : PA X (e :: es) t)
    (hdb : (x == ("__debug__" : Str)) = false := by decide) (he : starEach (e :: es) X.env = (false, eval e X.env) :: starEach es X.env := by rfl) (hpl : (backTo pos (starEach es X.env)).any (·.1) = false := by rfl) :
    PE X (.Call (.Name x p) (e :: es) [] pos) (tCall sp [] E0 t) := by
  obtain ⟨f, fd, ps, F, hm, kp, b⟩ := c.ex
  exact pe_call F (hr.mono hk) hg hm kp b .nil pass0 ha hdb he hpl
/-- a module's name, by its value -/
theorem pe_gv {v : V} (hg : Gl X x) (h : ∃ u, X.mg x = some u ∧ RelV v u) (hd : (x == ("__debug__" : Str)) = false := by decide) : PE X (.Name x pos) (tC v) := by
  obtain ⟨u, hm, r⟩ := h
  exact pe_glob hg hm r hd
end

/-! ### the rules with the written part said apart (a comprehension's block has it in another form) -/
section
variable {X : Cx} {K : PySem.W.Frag} {e : Expr} {te to : TE} {t : TA} {r : V → List V → Hp → VK → Prop} {T : String} {tg l : Expr} {st : Stmt}
theorem ix_seqK (q : X.K = K) : IxR X (rIx K) := q ▸ ix_seq
theorem op_addUK (q : X.K = K) : OpR X (binaryOp .Add) (rAddU K) := q ▸ op_addU
theorem op_eqUK (q : X.K = K) (hu : X.A.units + 64 < cLine) : OpR X (compareOp .Eq) (rEqU K) := q ▸ op_eqU hu
theorem op_neUK (q : X.K = K) (hu : X.A.units + 64 < cLine) : OpR X (compareOp .NotEq) (rNeU K) := q ▸ op_neU hu
theorem op_inK (q : X.K = K) : OpR X (compareOp .In) (rIn K false) := q ▸ op_in_seq
theorem op_notInK (q : X.K = K) : OpR X (compareOp .NotIn) (rIn K true) := q ▸ op_notIn_seq
theorem op_inDK (q : X.K = K) (hu : X.A.units + 65 < cLine) : OpR X (compareOp .In) (rInD K) := q ▸ op_inD hu
theorem op_notInDK (q : X.K = K) (hu : X.A.units + 65 < cLine) : OpR X (compareOp .NotIn) (rNotInD K) := q ▸ op_notInD hu
theorem call_lenUK (q : X.K = K) : CallR X (.builtin "len") (rLenU K) := q ▸ call_lenU
theorem call_isiK2 (q : X.K = K) : CallR X (.builtin "isinstance") (rIsi K) := q ▸ call_isi
theorem cr_sumK (q : X.K = K) (hc : X.calm = true) : CallR X (.builtin "sum") (rSum K) := q ▸ cr_sum hc
theorem cr_minK2 (q : X.K = K) (hc : X.calm = true) : CallR X (.builtin "min") (rMin K) := q ▸ cr_min hc
theorem cr_maxK (q : X.K = K) (hc : X.calm = true) : CallR X (.builtin "max") (rMax K) := q ▸ cr_max hc
theorem cr_anyK (q : X.K = K) (hc : X.calm = true) : CallR X (.builtin "any") (rAny K) := q ▸ cr_any hc
theorem cr_allK (q : X.K = K) (hc : X.calm = true) : CallR X (.builtin "all") (rAll K) := q ▸ cr_all hc
def rListOf (K : PySem.W.Frag) : List V → Hp → VK → Prop := fun xs H Q => ∃ p ys, xs = [.ref p] ∧ (SqL K H p ys ∨ SqT K H p ys) ∧ ∀ l, H l = none → Q (.ref l) (upd H l (.lst ys))
theorem call_list_ofK (q : X.K = K) : CallR X (.type "list") (rListOf K) := q ▸ call_list_of
theorem sl_listK (q : X.K = K) : SlR X (rSlL K) := q ▸ sl_list
theorem mt_indexK (q : X.K = K) : MtR X "list.index" (rIndex K) := q ▸ mt_index
theorem bmK (q : X.K = K) (h : PE X e (tBM X.K T r to t)) : PE X e (tBM K T r to t) := q ▸ h
theorem bm0K (q : X.K = K) (h : PE X e (tBM0 X.K T r to)) : PE X e (tBM0 K T r to) := q ▸ h
theorem revLK (q : X.K = K) (h : PE X e (tRevL X.K te)) : PE X e (tRevL K te) := q ▸ h
theorem fldK {f : Str} (q : X.K = K) (h : PE X e (tFld X.K te f)) : PE X e (tFld K te f) := q ▸ h
def rJoin (K : PySem.W.Frag) : V → List V → Hp → VK → Prop := fun x xs H Q => ∃ a p, ∃ ys : List Str, x = .str a ∧ xs = [.ref p] ∧ (SqL K H p (ys.map V.str) ∨ SqT K H p (ys.map V.str)) ∧ (ys.map (·.length)).sum + ys.length * a.length ≤ 16777216 ∧ Q (.str (Txt.join a ys)) H
theorem joinK (q : X.K = K) (h : PE X e (tM1 (rJoin X.K) to te)) : PE X e (tM1 (rJoin K) to te) := q ▸ h
theorem listIK (q : X.K = K) (h : PI X tg l (iList X.K te)) : PI X tg l (iList K te) := q ▸ h
theorem tupIK (q : X.K = K) (h : PI X tg l (iTup X.K te)) : PI X tg l (iTup K te) := q ▸ h
theorem revIK (q : X.K = K) (h : PI X tg l (RT.iRevA X.K te)) : PI X tg l (RT.iRevA K te) := q ▸ h
theorem zipIK (q : X.K = K) (h : PI X tg l (iZip X.K t)) : PI X tg l (iZip K t) := q ▸ h
theorem tupGK {n : Nat} {u : TGs} (q : X.K = K) (h : PG X e (gTup X.K n u)) : PG X e (gTup K n u) := q ▸ h
theorem fldSK {f : Str} {tv : TE} (q : X.K = K) (h : PS X st (sFld X.K te tv f)) : PS X st (sFld K te tv f) := q ▸ h
end
/-! ### loops over a text -/
theorem for_str {z : Str} {g : TG} {tb : TS} {D : Ends} {σ : L2.St} {H : Hp} (Pv : Nat → L2.St → Hp → Prop) (h0 : Pv 0 σ H)
    (hs : ∀ i c σ H, z.cps.toList[i]? = some c → Pv i σ H → g (.str ⟨#[c]⟩) σ H fun σ2 H2 => tb { D with nx := Pv (i + 1), ct := Pv (i + 1), bk := D.nx } σ2 H2) (hd : ∀ σ H, Pv z.cps.toList.length σ H → D.nx σ H) :
    ∃ W : Nat → Nat → L2.St → Hp → Prop, (∃ m, W 0 m σ H) ∧ ∀ i m σ H, W i m σ H → ((Its z).stop i H ∧ D.nx σ H) ∨ ((Its z).go i H ∧ ∃ N : L2.St → Hp → Prop, (∀ σ' H', N σ' H' → ∃ m', m' < m ∧ W (i + 1) m' σ' H') ∧
      ∀ x H', (Its z).yld i H x H' → g x σ H' fun σ2 H2 => tb { D with nx := N, ct := N, bk := D.nx } σ2 H2) := by
  refine ⟨fun i m σ H => m = z.cps.size - i ∧ i ≤ z.cps.size ∧ Pv i σ H, ⟨z.cps.size, by simp, Nat.zero_le _, h0⟩, ?_⟩
  rintro i m σ H ⟨rfl, hi, p⟩
  by_cases hlt : i < z.cps.size
  · refine .inr ⟨hlt, Pv (i + 1), fun σ' H' p' => ⟨z.cps.size - (i + 1), by omega, rfl, hlt, p'⟩, fun x H' y => ?_⟩
    obtain ⟨e, c, hc, ex⟩ := y
    subst e ex
    exact hs i c σ _ (by rw [Array.getElem?_toList]; exact hc) p
  · have e : i = z.cps.size := by omega
    subst e
    exact .inl ⟨Nat.le_refl _, hd σ H (by rw [Array.length_toList]; exact p)⟩
theorem lc_str {z : Str} {g : TG} {tt : TT} {te : TE} {vs : List Nat} {σ : L2.St} {H1 : Hp} {D : Addr} {Qd : Hp → Prop} (Pv : Nat → Hp → Prop) (h0 : Pv 0 (upd H1 D (.lst [])))
    (hs : ∀ i c H, z.cps.toList[i]? = some c → Pv i H → g (.str ⟨#[c]⟩) (wipe σ vs) H fun σ2 H2 => wipe σ2 vs = wipe σ vs ∧ tt σ2 H2 fun b H3 =>
      if b = true then te σ2 H3 fun y H4 => ∃ acc, H4 D = some (.lst acc) ∧ acc.length < sizeLine ∧ Pv (i + 1) (upd H4 D (.lst (acc ++ [y]))) else Pv (i + 1) H3) (hd : ∀ H, Pv z.cps.toList.length H → Qd H) :
    ∃ W : Nat → Nat → Hp → Prop, (∃ m, W 0 m (upd H1 D (.lst []))) ∧ ∀ i m H, W i m H →
      ((Its z).stop i H ∧ Qd H) ∨ ((Its z).go i H ∧ ∃ Nx : Hp → Prop, (∀ H', Nx H' → ∃ m', m' < m ∧ W (i + 1) m' H') ∧ ∀ x H', (Its z).yld i H x H' → g x (wipe σ vs) H' fun σ2 H2 => wipe σ2 vs = wipe σ vs ∧ tt σ2 H2 fun b H3 =>
        if b = true then te σ2 H3 fun y H4 => ∃ acc, H4 D = some (.lst acc) ∧ acc.length < sizeLine ∧ Nx (upd H4 D (.lst (acc ++ [y]))) else Nx H3) := by
  refine ⟨fun i m H => m = z.cps.size - i ∧ i ≤ z.cps.size ∧ Pv i H, ⟨z.cps.size, by simp, Nat.zero_le _, h0⟩, ?_⟩
  rintro i m H ⟨rfl, hi, p⟩
  by_cases hlt : i < z.cps.size
  · refine .inr ⟨hlt, Pv (i + 1), fun H' p' => ⟨z.cps.size - (i + 1), by omega, rfl, hlt, p'⟩, fun x H' y => ?_⟩
    obtain ⟨e, c, hc, ex⟩ := y
    subst e ex
    exact hs i c _ (by rw [Array.getElem?_toList]; exact hc) p
  · have e : i = z.cps.size := by omega
    subst e
    exact .inl ⟨Nat.le_refl _, hd H (by rw [Array.length_toList]; exact p)⟩

/-! ### comprehensions: [e for c in text], [e for x in list], each element a value -/
abbrev T (l : List Nat) : Str := ⟨l.toArray⟩
theorem lcS_map {l : List Nat} {F : Nat → V} {j : Nat} {te : TE} {vs : List Nat} {σ : L2.St} {H1 : Hp} {Q : VK} (hw : ∀ x, wipe ((wipe σ vs).set j (some x)) vs = wipe σ vs) (hz : l.length < 16777216)
    (he : ∀ (i c : Nat) H2, l[i]? = some c → Ex H1 H2 → ∀ Q : VK, (∀ H3, Ex H2 H3 → Q (F c) H3) → te ((wipe σ vs).set j (some (.str (T [c])))) H2 Q)
    (k : ∀ p H2, H1 p = none → Ex H1 H2 → H2 p = some (.lst (l.map F)) → Q (.ref p) H2) :
    ∀ D, H1 D = none → ∃ W : Nat → Nat → Hp → Prop, (∃ m, W 0 m (upd H1 D (.lst []))) ∧ ∀ i m H, W i m H →
      ((Its (T l)).stop i H ∧ Q (.ref D) H) ∨ ((Its (T l)).go i H ∧ ∃ Nx : Hp → Prop, (∀ H', Nx H' → ∃ m', m' < m ∧ W (i + 1) m' H') ∧ ∀ x H', (Its (T l)).yld i H x H' → gName j x (wipe σ vs) H' fun σ2 H2 => wipe σ2 vs = wipe σ vs ∧ tYes σ2 H2 fun b H3 =>
        if b = true then te σ2 H3 fun y H4 => ∃ acc, H4 D = some (.lst acc) ∧ acc.length < sizeLine ∧ Nx (upd H4 D (.lst (acc ++ [y]))) else Nx H3) := fun D hD => by
  refine lc_str (z := T l) (fun i H => Ex H1 H ∧ H D = some (.lst ((l.take i).map F))) ⟨Ex.new hD, upd_same⟩ (fun i c H hc p => ⟨hw _, ?_⟩) (fun H p => ?_)
  · show te ((wipe σ vs).set j (some (.str (T [c])))) H _
    refine he i c H hc p.1 _ fun H3 e => ?_
    refine ⟨_, e _ _ p.2, ?_, Ex.mut (p.1.trans e) hD, ?_⟩
    · rw [List.length_map]
      rw [List.length_take]
      exact line_lt (by omega)
    · rw [upd_same, List.take_add_one, show l[i]? = some c from hc, List.map_append]
      rfl
  · obtain ⟨e, h⟩ := p
    have h' : H D = some (.lst ((l.take l.length).map F)) := h
    rw [List.take_length] at h'
    exact k D H hD e h'
theorem lcL_map {K : PySem.W.Frag} {a : Addr} {xs : List V} {F : V → V} {j : Nat} {te : TE} {vs : List Nat} {σ : L2.St} {H1 : Hp} {Q : VK} (hx : SqL K H1 a xs) (hw : ∀ x, wipe ((wipe σ vs).set j (some x)) vs = wipe σ vs) (hz : xs.length < 16777216)
    (he : ∀ (i : Nat) (x : V) H2, xs[i]? = some x → Ex H1 H2 → ∀ Q : VK, (∀ H3, Ex H2 H3 → Q (F x) H3) → te ((wipe σ vs).set j (some x)) H2 Q)
    (k : ∀ p H2, H1 p = none → Ex H1 H2 → H2 p = some (.lst (xs.map F)) → Q (.ref p) H2) :
    ∀ D, H1 D = none → ∃ W : Nat → Nat → Hp → Prop, (∃ m, W 0 m (upd H1 D (.lst []))) ∧ ∀ i m H, W i m H →
      ((Itl K a).stop i H ∧ Q (.ref D) H) ∨ ((Itl K a).go i H ∧ ∃ Nx : Hp → Prop, (∀ H', Nx H' → ∃ m', m' < m ∧ W (i + 1) m' H') ∧ ∀ x H', (Itl K a).yld i H x H' → gName j x (wipe σ vs) H' fun σ2 H2 => wipe σ2 vs = wipe σ vs ∧ tYes σ2 H2 fun b H3 =>
        if b = true then te σ2 H3 fun y H4 => ∃ acc, H4 D = some (.lst acc) ∧ acc.length < sizeLine ∧ Nx (upd H4 D (.lst (acc ++ [y]))) else Nx H3) := fun D hD => by
  refine lc_list (xs := xs) (fun i H => Ex H1 H ∧ H D = some (.lst ((xs.take i).map F))) ⟨Ex.new hD, upd_same⟩ (fun i H _ p => p.1.sql hx) (fun i x H hc p => ⟨hw _, ?_⟩) (fun H p => ?_)
  · show te ((wipe σ vs).set j (some x)) H _
    refine he i x H hc p.1 _ fun H3 e => ?_
    refine ⟨_, e _ _ p.2, ?_, Ex.mut (p.1.trans e) hD, ?_⟩
    · rw [List.length_map]
      rw [List.length_take]
      exact line_lt (by omega)
    · rw [upd_same, List.take_add_one, hc, List.map_append]
      rfl
  · obtain ⟨e, h⟩ := p
    rw [List.take_length] at h
    exact k D H hD e h
theorem k_lcS {l : List Nat} {F : Nat → V} {j : Nat} {t0 te : TE} {vs : List Nat} {σ : L2.St} {H : Hp} {Q : VK} (h0 : ∀ R : VK, (∀ H1, Ex H H1 → R (.str (T l)) H1) → t0 σ H R) (hw : ∀ x, wipe ((wipe σ vs).set j (some x)) vs = wipe σ vs) (hz : l.length < 16777216)
    (he : ∀ (i c : Nat) H2, l[i]? = some c → Ex H H2 → ∀ Q : VK, (∀ H3, Ex H2 H3 → Q (F c) H3) → te ((wipe σ vs).set j (some (.str (T [c])))) H2 Q)
    (k : ∀ p H2, H p = none → Ex H H2 → H2 p = some (.lst (l.map F)) → Q (.ref p) H2) : tLc (iStr t0) (gName j) tYes te vs σ H Q :=
  h0 _ fun H1 e1 => ⟨_, rfl, lcS_map (l := l) hw hz (fun i c H2 hc e Q => he i c H2 hc (e1.trans e) Q) fun p H2 hp e h => k p H2 (e1.free hp) (e1.trans e) h⟩
theorem k_lcL {K : PySem.W.Frag} {xs : List V} {F : V → V} {j : Nat} {t0 te : TE} {vs : List Nat} {σ : L2.St} {H : Hp} {Q : VK} (h0 : ∀ R : VK, (∀ a H1, Ex H H1 → SqL K H1 a xs → R (.ref a) H1) → t0 σ H R) (hw : ∀ x, wipe ((wipe σ vs).set j (some x)) vs = wipe σ vs) (hz : xs.length < 16777216)
    (he : ∀ (i : Nat) (x : V) H2, xs[i]? = some x → Ex H H2 → ∀ Q : VK, (∀ H3, Ex H2 H3 → Q (F x) H3) → te ((wipe σ vs).set j (some x)) H2 Q)
    (k : ∀ p H2, H p = none → Ex H H2 → H2 p = some (.lst (xs.map F)) → Q (.ref p) H2) : tLc (iList K t0) (gName j) tYes te vs σ H Q :=
  h0 _ fun a H1 e1 hx => ⟨a, rfl, ⟨xs, hx⟩, lcL_map hx hw hz (fun i x H2 hc e Q => he i x H2 hc (e1.trans e) Q) fun p H2 hp e h => k p H2 (e1.free hp) (e1.trans e) h⟩
end U

set_option Elab.async false
set_option linter.all false
set_option maxRecDepth 100000
set_option maxHeartbeats 4000000
namespace U
open PySem PySem.Spec PyProof.Rows L2
/-! ### texts of one sign -/
theorem ofs_u : Str.ofString "u" = ⟨#[117]⟩ := by decide +kernel
theorem ofs_d : Str.ofString "d" = ⟨#[100]⟩ := by decide +kernel
theorem ofs_f : Str.ofString "f" = ⟨#[102]⟩ := by decide +kernel
theorem ofs_b : Str.ofString "b" = ⟨#[98]⟩ := by decide +kernel
theorem ofs_0 : Str.ofString "" = ⟨#[]⟩ := by decide +kernel
theorem ofs_ud : Str.ofString "ud" = ⟨#[117, 100]⟩ := by decide +kernel
theorem one_iff {c d : Nat} : (⟨#[c]⟩ : Str) = ⟨#[d]⟩ ↔ c = d := ⟨fun h => by injection h with h; simpa using h, fun h => by rw [h]⟩
theorem isU {c : Nat} : (⟨#[c]⟩ : Str) = Str.ofString "u" ↔ c = 117 := by rw [ofs_u]; exact one_iff
theorem isF {c : Nat} : (⟨#[c]⟩ : Str) = Str.ofString "f" ↔ c = 102 := by rw [ofs_f]; exact one_iff
/-! ### heights -/
def sgn (c : Nat) : Int := if c = 117 then 1 else -1
def hAt (l : List Nat) : Int := (l.map sgn).sum
def ht (l : List Nat) (i : Nat) : Int := hAt (l.take i)
def hts (l : List Nat) : List Int := (List.range (l.length + 1)).map (ht l)
theorem ht_zero (l : List Nat) : ht l 0 = 0 := rfl
theorem ht_succ {l : List Nat} {i c : Nat} (h : l[i]? = some c) : ht l (i + 1) = ht l i + sgn c := by
  unfold ht hAt
  rw [List.take_add_one, h, List.map_append, List.sum_append]
  simp
theorem hts_length (l : List Nat) : (hts l).length = l.length + 1 := by unfold hts; simp
theorem hts_get {l : List Nat} {i : Nat} (h : i ≤ l.length) : (hts l)[i]? = some (ht l i) := by
  unfold hts
  rw [List.getElem?_map, List.getElem?_range (by omega)]
  rfl
/-- the heights of the places 0 .. i -/
def htsN (l : List Nat) (i : Nat) : List Int := (List.range (i + 1)).map (ht l)
theorem htsN_succ (l : List Nat) (i : Nat) : htsN l (i + 1) = htsN l i ++ [ht l (i + 1)] := by
  unfold htsN
  rw [List.range_succ, List.map_append]
  rfl
theorem htsN_last (l : List Nat) (i : Nat) : ∃ r, htsN l i = r ++ [ht l i] := ⟨(List.range i).map (ht l), by
  unfold htsN
  rw [List.range_succ, List.map_append]
  rfl⟩
theorem htsN_atI (l : List Nat) (i : Nat) : atI ((htsN l i).map V.int) (-1) = some (.int (ht l i)) := by
  obtain ⟨r, e⟩ := htsN_last l i
  rw [e, List.map_append]
  exact atI_last _ _
theorem htsN_length (l : List Nat) (i : Nat) : (htsN l i).length = i + 1 := by unfold htsN; simp
/-- one more height -/
theorem htsN_more {l : List Nat} {i c : Nat} {y : Int} (h : l[i]? = some c) (e : y = ht l i + sgn c) : (htsN l i).map V.int ++ [.int y] = (htsN l (i + 1)).map V.int := by
  rw [htsN_succ, List.map_append, ht_succ h, e]
  rfl
/-! ### ridges -/
def UD (l : List Nat) : Prop := ∀ c ∈ l, c = 117 ∨ c = 100
abbrev Big : Nat := 16000000
theorem T_len (l : List Nat) : (T l).length = l.length := rfl
theorem T_inj {a b : List Nat} : T a = T b ↔ a = b := ⟨fun h => by injection h with h; exact congrArg Array.toList h, fun h => by rw [h]⟩
theorem T_cat (a b : List Nat) : T a ++ T b = T (a ++ b) := SX.S_cat a b
theorem tw_all {p : Nat → Bool} : ∀ {l : List Nat}, (∀ c ∈ l, p c = true) → l.takeWhile p = l
  | [], _ => rfl
  | c :: r, h => by rw [List.takeWhile_cons, if_pos (h c (List.mem_cons_self ..)), tw_all fun d hd => h d (List.mem_cons_of_mem _ hd)]
theorem strip_ud {l : List Nat} (h : UD l) : Txt.stripChars (T l) (Str.ofString "ud") = T [] := by
  rw [ofs_ud]
  have hp : ∀ c ∈ l, (#[117, 100] : Array Nat).contains c = true := fun c hc => by
    rcases h c hc with e | e <;> subst e <;> simp
  have e1 : stripLo (#[117, 100] : Array Nat).contains true (T l) = l.length := by
    show (l.takeWhile _).length = _
    rw [tw_all hp]
  have e2 : stripHi (#[117, 100] : Array Nat).contains true (T l) l.length = l.length := by
    show (T l).length - ((l.drop l.length).reverse.takeWhile _).length = l.length
    rw [List.drop_length]
    rfl
  show Txt.stripBy (#[117, 100] : Array Nat).contains true true (T l) = _
  unfold Txt.stripBy stripSame stripped
  rw [e1, e2]
  cases l with
  | nil => rfl
  | cons c r =>
    rw [if_neg (by simp)]
    unfold Builtin.Str.strSub
    simp
def flipc (c : Nat) : Nat := if c = 117 then 100 else 117
theorem joinL_one : ∀ ls : List Nat, TL.joinL [] (ls.map fun c => [c]) = ls
  | [] => rfl
  | [_] => rfl
  | c :: d :: r => by
    show [c] ++ ([] ++ TL.joinL [] ((d :: r).map fun c => [c])) = c :: d :: r
    rw [joinL_one (d :: r)]
    rfl
theorem join_one (ls : List Nat) : Txt.join (Str.ofString "") (ls.map fun c => T [c]) = T ls := by
  have h := SX.join_S [] (ls.map fun c => [c])
  rw [joinL_one, List.map_map] at h
  rw [ofs_0]
  exact h
theorem k_join0 {K : PySem.W.Frag} {H : Hp} {Q : VK} {p : Addr} {ls : List Nat} (h : SqL K H p ((ls.map fun c => T [c]).map V.str)) (hz : ls.length ≤ 16777216) (k : Q (.str (T ls)) H) : rJoin K (.str (Str.ofString "")) [.ref p] H Q :=
  k_join (a := Str.ofString "") (ls := ls) h (by rw [ofs_0]; show ls.length + ls.length * 0 ≤ _; omega) (by rw [join_one]; exact k)
end U

set_option Elab.async false
set_option linter.all false
set_option maxRecDepth 100000
set_option maxHeartbeats 4000000
namespace U
open PySem PySem.Spec PyProof.Rows L2
/-! ### lists of ints as data -/
def dI (ns : List Int) : PyData := .list (ns.map PyData.int)
theorem dpAllInts {K : PySem.W.Frag} {H : Hp} : ∀ ns : List Int, DpAll K H (ns.map V.int) (ns.map PyData.int)
  | [] => .nil
  | n :: r => .cons (.int n) (dpAllInts r)
theorem dpInts {K : PySem.W.Frag} {H : Hp} {p : Addr} {ns : List Int} (h : SqL K H p (ns.map V.int)) : Dp K H (.ref p) (dI ns) := .lst h (dpAllInts ns)
theorem canInts : ∀ ns : List Int, PyData.canLayAll0 (ns.map PyData.int) = true
  | [] => by simp [PyData.canLayAll0]
  | n :: r => by simp [PyData.canLayAll0, PyData.canLay0, canInts r]
theorem depInts : ∀ ns : List Int, PyData.depthAll (ns.map PyData.int) = 0
  | [] => by simp [PyData.depthAll]
  | n :: r => by simp [PyData.depthAll, PyData.depth, depInts r]
theorem shInts (ns : List Int) : SeqAt.shaped (dI ns) = true := by
  unfold SeqAt.shaped dI
  simp [PyData.canLay0, PyData.depth, canInts, depInts]
theorem eqvAllInts : ∀ as bs : List Int, PyData.eqvAll (as.map PyData.int) (bs.map PyData.int) = decide (as = bs)
  | [], [] => by simp [PyData.eqvAll]
  | [], _ :: _ => by simp [PyData.eqvAll]
  | _ :: _, [] => by simp [PyData.eqvAll]
  | a :: r, b :: t => by
    simp only [List.map_cons, PyData.eqvAll, PyData.eqv, eqvAllInts r t, List.cons.injEq]
    by_cases h : a = b
    · simp [h]
    · simp [h]
theorem eqvInts (as bs : List Int) : PyData.eqv (dI as) (dI bs) = decide (as = bs) := by
  unfold dI
  simp only [PyData.eqv]
  exact eqvAllInts as bs
theorem k_eqInts {K : PySem.W.Frag} {H : Hp} {Q : VK} {p q : Addr} {as bs : List Int} (h1 : SqL K H p (as.map V.int)) (h2 : SqL K H q (bs.map V.int)) (k : Q (.bl (decide (as = bs))) H) : rEqU K (.ref p) (.ref q) H Q :=
  k_eqD (dpInts h1) (dpInts h2) (shInts _) (shInts _) (by rw [eqvInts]; exact k)
theorem k_neInts {K : PySem.W.Frag} {H : Hp} {Q : VK} {p q : Addr} {as bs : List Int} (h1 : SqL K H p (as.map V.int)) (h2 : SqL K H q (bs.map V.int)) (k : Q (.bl (!decide (as = bs))) H) : rNeU K (.ref p) (.ref q) H Q :=
  k_neD (dpInts h1) (dpInts h2) (shInts _) (shInts _) (by rw [eqvInts]; exact k)
/-! ### {"u": 1, "d": -1}[step] -/
theorem tPairs_nil {σ : L2.St} {H : Hp} {Q : List (V × V) → Hp → Prop} (k : Q [] H) : tPairs [] σ H Q := k
theorem tPairs_cons {tk tv : TE} {r : List (TE × TE)} {σ : L2.St} {H : Hp} {Q : List (V × V) → Hp → Prop} (k : tk σ H fun x H1 => tv σ H1 fun y H2 => tPairs r σ H2 fun ps H3 => Q ((x, y) :: ps) H3) : tPairs ((tk, tv) :: r) σ H Q := k
theorem k_disp {trs : List (TE × TE)} {σ : L2.St} {H : Hp} {Q : VK} (k : ∀ p, H p = none → tPairs trs σ (upd H p (.dK [])) fun ps H2 => H2 p = some (.dK []) ∧ ∃ kvs : List (Key × V), ps = kvs.map (fun kv => (kV kv.1, kv.2)) ∧ kvs.length ≤ 15 ∧ Q (.ref p) (upd H2 p (.dK (mergeK [] kvs)))) : tDisp trs σ H Q := k
theorem k_dget {td ty : TE} {σ : L2.St} {H : Hp} {Q : VK} (k : td σ H fun x H1 => ty σ H1 fun y H2 => ∃ a v, x = .ref a ∧ DGet H2 a y (some v) ∧ Q v H2) : tDGet td ty σ H Q := k
/-- a dict of two signs -/
def two (a b : Nat) (x y : V) : List (Key × V) := [(.inr (T [a]), x), (.inr (T [b]), y)]
theorem merge_two {a b : Nat} {x y : V} (h : a ≠ b) : mergeK [] (two a b x y) = two a b x y := by
  unfold two mergeK
  simp only [List.foldl_cons, List.foldl_nil]
  unfold putK
  simp [T_inj, h]
theorem val_two {a b c : Nat} {x y : V} (h : a ≠ b) : valV (two a b x y) (.inr (T [c])) = if c = a then some x else if c = b then some y else none := by
  unfold two
  by_cases h1 : c = a
  · subst h1
    rw [if_pos rfl]
    exact valV_pos rfl
  · rw [if_neg h1, valV_neg (fun z => h1 (by injection z with z; simpa using (T_inj.mp z).symm))]
    by_cases h2 : c = b
    · subst h2
      rw [if_pos rfl]
      exact valV_pos rfl
    · rw [if_neg h2, valV_neg (fun z => h2 (by injection z with z; simpa using (T_inj.mp z).symm))]
      rfl
theorem k_udGet {σ : L2.St} {H : Hp} {Q : VK} {i c : Nat} (hs : σ[i]? = some (some (.str (T [c])))) (hc : c = 117 ∨ c = 100) (k : ∀ H', Ex H H' → Q (.int (sgn c)) H') :
    tDGet (tDisp [(tC (.str (Str.ofString "u")), tC (.int 1)), (tC (.str (Str.ofString "d")), tUn (rU fun i => .int (-i)) (tC (.int 1)))]) (tVar i) σ H Q := by
  refine k_dget (k_disp fun p hp => ?_)
  refine tPairs_cons (k_c (k_c (tPairs_cons (k_c (k_un (k_c (k_U (tPairs_nil ?_))))))))
  refine ⟨upd_same, two 117 100 (.int 1) (.int (-1)), by rw [ofs_u, ofs_d]; rfl, by unfold two; decide, ?_⟩
  rw [merge_two (by decide), upd_upd]
  refine k_var hs ⟨p, _, rfl, ?_, k _ (Ex.new hp)⟩
  have h := DGet.k (k := .inr (T [c])) (show upd H p (.dK (two 117 100 (.int 1) (.int (-1)))) p = _ from upd_same)
  rw [val_two (by decide)] at h
  unfold sgn
  rcases hc with e | e <;> subst e <;> exact h
/-! ### lists of truths -/
theorem k_any {K : PySem.W.Frag} {H : Hp} {Q : VK} {a : Addr} {bs : List Bool} (h : SqL K H a (bs.map V.bl)) (k : Q (.bl (bs.any id)) H) : rAny K [.ref a] H Q := ⟨a, bs, rfl, h, k⟩
theorem k_all {K : PySem.W.Frag} {H : Hp} {Q : VK} {a : Addr} {bs : List Bool} (h : SqL K H a (bs.map V.bl)) (k : Q (.bl (bs.all id)) H) : rAll K [.ref a] H Q := ⟨a, bs, rfl, h, k⟩
/-- a function of ints, on values -/
def FV (f : Int → V) : V → V
  | .int n => f n
  | _ => .non
theorem FV_map (f : Int → V) (ns : List Int) : (ns.map V.int).map (FV f) = ns.map f := by rw [List.map_map]; rfl
theorem ints_at {ns : List Int} {i : Nat} {x : V} (h : (ns.map V.int)[i]? = some x) : ∃ n, ns[i]? = some n ∧ x = .int n := by
  rw [List.getElem?_map] at h
  cases e : ns[i]? with
  | none => rw [e] at h; cases h
  | some n => rw [e] at h; exact ⟨n, rfl, (Option.some.inj h).symm⟩
/-! ### ridges turned over, from the end -/
theorem flip_flip {l : List Nat} (h : UD l) : (l.map flipc).map flipc = l := by
  rw [List.map_map]
  conv => rhs; rw [← List.map_id l]
  refine List.map_congr_left fun c hc => ?_
  rcases h c hc with e | e <;> subst e <;> rfl
theorem flip_ud (l : List Nat) : UD (l.map flipc) := fun c hc => by
  obtain ⟨d, _, rfl⟩ := List.mem_map.mp hc
  unfold flipc
  split
  · exact .inr rfl
  · exact .inl rfl
theorem rev_ud {l : List Nat} (h : UD l) : UD l.reverse := fun c hc => h c (List.mem_reverse.mp hc)
theorem sgn_flip {c : Nat} : sgn (flipc c) = -sgn c := by
  unfold sgn flipc
  by_cases h : c = 117 <;> simp [h]
theorem hAt_flip (l : List Nat) : hAt (l.map flipc) = -hAt l := by
  induction l with
  | nil => rfl
  | cons c r ih =>
    unfold hAt at ih ⊢
    simp only [List.map_cons, List.sum_cons, ih, sgn_flip]
    omega
theorem hAt_append (a b : List Nat) : hAt (a ++ b) = hAt a + hAt b := by
  unfold hAt
  rw [List.map_append, List.sum_append]
theorem hAt_reverse (l : List Nat) : hAt l.reverse = hAt l := by
  unfold hAt
  rw [List.map_reverse, List.sum_reverse]
theorem ht_flip (l : List Nat) (i : Nat) : ht (l.map flipc) i = -ht l i := by
  unfold ht
  rw [← List.map_take, hAt_flip]
theorem hts_flip (l : List Nat) : hts (l.map flipc) = (hts l).map fun x => -x := by
  unfold hts
  rw [List.length_map, List.map_map]
  exact List.map_congr_left fun i _ => ht_flip l i
theorem ht_full (l : List Nat) : ht l l.length = hAt l := by unfold ht; rw [List.take_length]
theorem ht_split (l : List Nat) (i : Nat) : ht l i + hAt (l.drop i) = hAt l := by
  unfold ht
  rw [← hAt_append, List.take_append_drop]
theorem ht_back (l : List Nat) (i : Nat) (hi : i ≤ l.length) : ht (l.reverse.map flipc) i = ht l (l.length - i) - hAt l := by
  rw [ht_flip]
  have e : ht l.reverse i = hAt (l.drop (l.length - i)) := by
    unfold ht
    rw [← hAt_reverse, List.take_reverse, List.reverse_reverse]
  rw [e]
  have := ht_split l (l.length - i)
  omega
theorem hts_back (l : List Nat) : hts (l.reverse.map flipc) = ((hts l).reverse).map fun x => x - hAt l := by
  apply List.ext_getElem?
  intro i
  have n1 : (hts (l.reverse.map flipc)).length = l.length + 1 := by rw [hts_length, List.length_map, List.length_reverse]
  have n2 : (hts l).length = l.length + 1 := hts_length l
  by_cases hi : i ≤ l.length
  · rw [hts_get (by rw [List.length_map, List.length_reverse]; exact hi), List.getElem?_map, List.getElem?_reverse (by omega), n2, hts_get (by omega), ht_back l i hi]
    rw [show l.length + 1 - 1 - i = l.length - i by omega]
    rfl
  · rw [List.getElem?_eq_none (by omega), List.getElem?_eq_none (by rw [List.length_map, List.length_reverse]; omega)]
theorem hts_last (l : List Nat) : atI ((hts l).map V.int) (-1) = some (.int (hAt l)) := by
  have h := htsN_atI l l.length
  rw [ht_full] at h
  exact h
end U

set_option Elab.async false
set_option linter.all false
set_option maxRecDepth 100000
set_option maxHeartbeats 4000000
namespace U
open PySem PySem.Spec PyProof.Rows L2
/-! ### the steps that ask nothing, found by their form -/
class Stp (A : Prop) (B : outParam Prop) : Prop where
  h : B → A
class Lk (σ : L2.St) (i : Nat) (v : outParam V) : Prop where
  h : σ[i]? = some (some v)
instance lk0 {v : V} {σ : L2.St} : Lk (some v :: σ) 0 v := ⟨rfl⟩
instance lkS {x : Option V} {v : V} {σ : L2.St} {i : Nat} [q : Lk σ i v] : Lk (x :: σ) (i + 1) v := ⟨by have := q.h; simpa using this⟩
class StAt (σ : L2.St) (i : Nat) (v : Option V) (σ' : outParam L2.St) : Prop where
  h : σ.set i v = σ'
instance st0 {x v : Option V} {σ : L2.St} : StAt (x :: σ) 0 v (v :: σ) := ⟨rfl⟩
instance stS {x v : Option V} {σ σ' : L2.St} {i : Nat} [q : StAt σ i v σ'] : StAt (x :: σ) (i + 1) v (x :: σ') := ⟨by rw [List.set_cons_succ, q.h]⟩
section
variable {σ σ' σ'' : L2.St} {H : Hp} {Q : VK} {D : Ends} {ta tb tc te : TE} {tr : TA} {g : TG} {t u : TS} {K : PySem.W.Frag}
instance i_var {i : Nat} {v : V} [q : Lk σ i v] : Stp (tVar i σ H Q) (Q v H) := ⟨k_var q.h⟩
instance i_c {v : V} : Stp (tC v σ H Q) (Q v H) := ⟨k_c⟩
instance i_nil {Q : List V → Hp → Prop} : Stp (tNil σ H Q) (Q [] H) := ⟨k_nil⟩
instance i_cons {Q : List V → Hp → Prop} : Stp (tCons te tr σ H Q) (te σ H fun x H1 => tr σ H1 fun xs H2 => Q (x :: xs) H2) := ⟨k_cons⟩
instance i_op {r : R2} : Stp (tOp r ta tb σ H Q) (ta σ H fun x H1 => tb σ H1 fun y H2 => r x y H2 Q) := ⟨k_op⟩
instance i_un {r : V → Hp → VK → Prop} : Stp (tUn r ta σ H Q) (ta σ H fun x H1 => r x H1 Q) := ⟨k_un⟩
instance i_seq : Stp (tSeq t u D σ H) (t { D with nx := u D } σ H) := ⟨k_seq⟩
instance i_asg : Stp (tAsg te g D σ H) (te σ H fun x H1 => g x σ H1 D.nx) := ⟨k_asg⟩
instance i_name {i : Nat} {v : V} {Q : L2.St → Hp → Prop} [q : StAt σ i (some v) σ'] : Stp (gName i v σ H Q) (Q σ' H) := ⟨fun k => k_name (by rw [q.h]; exact k)⟩
instance i_ret : Stp (tRet te D σ H) (te σ H D.rt) := ⟨k_ret⟩
instance i_retN : Stp (tRetN D σ H) (D.rt .non H) := ⟨k_retN⟩
instance i_drop : Stp (tDrop te D σ H) (te σ H fun _ H1 => D.nx σ H1) := ⟨k_drop⟩
instance i_next : Stp (tNext D σ H) (D.nx σ H) := ⟨k_next⟩
instance i_brk : Stp (tBreak D σ H) (D.bk σ H) := ⟨id⟩
instance i_nx {n : L2.St → Hp → Prop} {r : VK} {b c : L2.St → Hp → Prop} : Stp (Ends.nx ⟨n, r, b, c⟩ σ H) (n σ H) := ⟨k_nx⟩
instance i_bk {n : L2.St → Hp → Prop} {r : VK} {b c : L2.St → Hp → Prop} : Stp (Ends.bk ⟨n, r, b, c⟩ σ H) (b σ H) := ⟨id⟩
instance i_rt {n : L2.St → Hp → Prop} {r : VK} {b c : L2.St → Hp → Prop} {v : V} : Stp (Ends.rt ⟨n, r, b, c⟩ v H) (r v H) := ⟨k_rt⟩
instance i_ifS {c : TT} : Stp (tIfS c t u D σ H) (c σ H fun b H1 => if b = true then t D σ H1 else u D σ H1) := ⟨k_ifS⟩
instance i_ifE {c : TT} : Stp (tIf c ta tb σ H Q) (c σ H fun b H1 => if b = true then ta σ H1 Q else tb σ H1 Q) := ⟨k_ifE⟩
instance i_test {Q : Bool → Hp → Prop} : Stp (tTest te σ H Q) (te σ H fun x H' => ∃ b, x = .bl b ∧ Q b H') := ⟨k_test⟩
instance i_B {Q : Bool → Hp → Prop} : Stp (tB te σ H Q) (te σ H fun x H' => ∃ b, x = .bl b ∧ Q b H') := ⟨k_B⟩
instance i_not {c : TT} {Q : Bool → Hp → Prop} : Stp (tNot c σ H Q) (c σ H fun b H1 => Q (!b) H1) := ⟨k_not⟩
instance i_or {c d : TT} {Q : Bool → Hp → Prop} : Stp (tOr c d σ H Q) (c σ H fun b H1 => if b = true then Q true H1 else d σ H1 Q) := ⟨k_or⟩
instance i_and {c d : TT} {Q : Bool → Hp → Prop} : Stp (tAnd c d σ H Q) (c σ H fun b H1 => if b = true then d σ H1 Q else Q false H1) := ⟨k_and⟩
instance i_notV : Stp (tNotV ta σ H Q) (ta σ H fun x H1 => ∃ c, x = .bl c ∧ Q (.bl (!c)) H1) := ⟨k_notV⟩
instance i_andV : Stp (tAndV ta tb σ H Q) (ta σ H fun x H1 => ∃ c, x = .bl c ∧ if c = true then tb σ H1 Q else Q (.bl false) H1) := ⟨k_andV⟩
instance i_orV : Stp (tOrV ta tb σ H Q) (ta σ H fun x H1 => ∃ c, x = .bl c ∧ if c = true then Q (.bl true) H1 else tb σ H1 Q) := ⟨k_orV⟩
instance i_call {sp : Sp} {dvs : List V} {E : XK} : Stp (tCall sp dvs E tr σ H Q) (tr σ H fun vs H1 => sp (vs ++ dvs) H1 Q E) := ⟨k_call⟩
instance i_cb {r : List V → Hp → VK → Prop} : Stp (tCB r tr σ H Q) (tr σ H fun vs H1 => r vs H1 Q) := ⟨k_cb⟩
instance i_tup : Stp (tTup tr σ H Q) (tr σ H fun xs H1 => xs.length ≤ sizeLine ∧ ∀ p, H1 p = none → Q (.ref p) (upd H1 p (.tup xs))) := ⟨k_tup⟩
instance i_lst : Stp (tLst tr σ H Q) (tr σ H fun xs H1 => xs.length ≤ sizeLine ∧ ∀ p, H1 p = none → Q (.ref p) (upd H1 p (.lst xs))) := ⟨k_lst⟩
instance i_sl {r : V → Option Int → Option Int → Hp → VK → Prop} {tl th : TO} : Stp (tSl r te tl th σ H Q) (te σ H fun x H1 => tl σ H1 fun l H2 => th σ H2 fun u H3 => r x l u H3 Q) := ⟨k_sl⟩
instance i_noPart {Q : Option Int → Hp → Prop} : Stp (tNoPart σ H Q) (Q none H) := ⟨k_noPart⟩
instance i_part {Q : Option Int → Hp → Prop} : Stp (tPart te σ H Q) (te σ H fun x H1 => ∃ i, x = .int i ∧ Q (some i) H1) := ⟨k_part⟩
instance i_bl {b : Bool} {G : Bool → Prop} : Stp (∃ c, V.bl b = .bl c ∧ G c) (G b) := ⟨k_bl⟩
instance i_int {i : Int} {G : Int → Prop} : Stp (∃ j, V.int i = .int j ∧ G j) (G i) := ⟨k_int⟩
instance i_str {s : Str} {G : Str → Prop} : Stp (∃ j, V.str s = .str j ∧ G j) (G s) := ⟨fun k => ⟨s, rfl, k⟩⟩
instance i_vs2 {v w : V} {G : V → V → Prop} : Stp (∃ a b, [v, w] = [a, b] ∧ G a b) (G v w) := ⟨k_vs2⟩
instance i_I0 {f : Int → Int → V} {i j : Int} : Stp (rI0 f (.int i) (.int j) H Q) (Q (f i j) H) := ⟨k_I0⟩
instance i_U {f : Int → V} {i : Int} : Stp (rU f (.int i) H Q) (Q (f i) H) := ⟨k_U⟩
instance i_addI {i j : Int} : Stp (rAddU K (.int i) (.int j) H Q) (Q (.int (i + j)) H) := ⟨k_addI⟩
instance i_eqI {i j : Int} : Stp (rEqU K (.int i) (.int j) H Q) (Q (.bl (decide (i = j))) H) := ⟨k_eqI⟩
instance i_neI {i j : Int} : Stp (rNeU K (.int i) (.int j) H Q) (Q (.bl (!decide (i = j))) H) := ⟨k_neI⟩
instance i_eqS {i j : Str} : Stp (rEqU K (.str i) (.str j) H Q) (Q (.bl (decide (i = j))) H) := ⟨k_eqS⟩
instance i_neS {i j : Str} : Stp (rNeU K (.str i) (.str j) H Q) (Q (.bl (!decide (i = j))) H) := ⟨k_neS⟩
instance i_eqB {i j : Bool} : Stp (rEqU K (.bl i) (.bl j) H Q) (Q (.bl (decide (i = j))) H) := ⟨k_eqB⟩
instance i_neB {i j : Bool} : Stp (rNeU K (.bl i) (.bl j) H Q) (Q (.bl (!decide (i = j))) H) := ⟨k_neB⟩
instance i_bm {T : String} {r : V → List V → Hp → VK → Prop} {to : TE} : Stp (tBM K T r to tr σ H Q) (to σ H fun x H1 => tyV K T x H1 ∧ tr σ H1 fun xs H2 => r x xs H2 Q) := ⟨k_bm⟩
instance i_bm0 {T : String} {r : V → List V → Hp → VK → Prop} {to : TE} : Stp (tBM0 K T r to σ H Q) (to σ H fun x H1 => tyV K T x H1 ∧ r x [] H1 Q) := ⟨k_bm0⟩
instance i_tyS {z : Str} {P : Prop} : Stp (tyV K "str" (.str z) H ∧ P) P := ⟨k_tyS⟩
instance i_gCons {tg : TG} {u : TGs} {v : V} {r : List V} {Q : L2.St → Hp → Prop} : Stp (gCons tg u (v :: r) σ H Q) (tg v σ H fun σ' H' => u r σ' H' Q) := ⟨k_gCons⟩
instance i_gNil {Q : L2.St → Hp → Prop} : Stp (gNil [] σ H Q) (Q σ H) := ⟨k_gNil⟩
instance i_par {i j : Nat} {ta : TA} : Stp (tPar i j ta D σ H) (ta σ H fun vs H1 => ∃ v w, vs = [v, w] ∧ D.nx ((σ.set i (some v)).set j (some w)) H1) := ⟨k_par⟩
instance i_chain {r r' : R2} : Stp (tChain r r' ta tb tc σ H Q) (ta σ H fun x H1 => tb σ H1 fun y H2 => r x y H2 fun z H3 => ∃ k, z = .bl k ∧ (if k = true then tc σ H3 fun w' H4 => r' y w' H4 Q else Q (.bl false) H3)) := ⟨k_chain⟩
instance i_nx2 {i j : Nat} {v w : V} {n : L2.St → Hp → Prop} {r : VK} {b c : L2.St → Hp → Prop} [q : StAt σ i (some v) σ'] [q2 : StAt σ' j (some w) σ''] : Stp (Ends.nx ⟨n, r, b, c⟩ ((σ.set i (some v)).set j (some w)) H) (n σ'' H) := ⟨fun k => by rw [q.h, q2.h]; exact k⟩
instance i_for {wi : TI} {tb : TS} : Stp (tFor wi g tb D σ H) (wi σ H fun J H1 => ∃ W : Nat → Nat → L2.St → Hp → Prop, (∃ m, W 0 m σ H1) ∧ ∀ i m σ H, W i m σ H → (J.stop i H ∧ D.nx σ H) ∨ (J.go i H ∧ ∃ N : L2.St → Hp → Prop, (∀ σ' H', N σ' H' → ∃ m', m' < m ∧ W (i + 1) m' σ' H') ∧
    ∀ x H', J.yld i H x H' → g x σ H' fun σ2 H2 => tb { D with nx := N, ct := N, bk := D.nx } σ2 H2)) := ⟨k_for⟩
instance i_iStr {R : It → Hp → Prop} : Stp (iStr te σ H R) (te σ H fun v H1 => ∃ x, v = .str x ∧ R (Its x) H1) := ⟨k_iStr⟩
instance i_iList {R : It → Hp → Prop} : Stp (iList K te σ H R) (te σ H fun x H1 => ∃ a, x = .ref a ∧ (∃ xs, SqL K H1 a xs) ∧ R (Itl K a) H1) := ⟨k_iList⟩
instance i_iTup {R : It → Hp → Prop} : Stp (iTup K te σ H R) (te σ H fun x H1 => ∃ a, x = .ref a ∧ (∃ xs, SqT K H1 a xs) ∧ R (Itt K a) H1) := ⟨k_iTup⟩
instance i_iRng1 {R : It → Hp → Prop} : Stp (iRng1 tr σ H R) (tr σ H fun vs H1 => ∃ j : Int, vs = [.int j] ∧ -(2 ^ 62) ≤ j ∧ j < 2 ^ 62 ∧ R (Itr 0 j.toNat) H1) := ⟨k_iRng1⟩
instance i_M1 {r : V → List V → Hp → VK → Prop} {to : TE} : Stp (tM1 r to te σ H Q) (to σ H fun x H1 => (∃ a, x = .str a) ∧ te σ H1 fun y H2 => r x [y] H2 Q) := ⟨k_M1⟩
instance i_isStr {s : Str} {P : Prop} : Stp ((∃ a, V.str s = .str a) ∧ P) P := ⟨k_isStr⟩
instance i_rev {R : It → Hp → Prop} : Stp (RT.iRevA K te σ H R) (te σ H fun v H1 => ∃ (a : Addr) (xs : List V), v = .ref a ∧ ((SqL K H1 a xs ∧ R (Itv K a xs.length) H1) ∨ (SqT K H1 a xs ∧ R (RT.ItvT K a xs.length) H1))) := ⟨k_rev⟩
instance i_revS : Stp (tRevS te σ H Q) (te σ H fun x H1 => ∃ z, x = .str z ∧ z.length ≤ sizeLine ∧ Q (.str ⟨z.cps.toList.reverse.toArray⟩) H1) := ⟨k_revS⟩
instance i_revL : Stp (tRevL K te σ H Q) (te σ H fun x H1 => ∃ a xs, x = .ref a ∧ SqL K H1 a xs ∧ ∀ p, H1 p = none → Q (.ref p) (upd H1 p (.lst xs.reverse))) := ⟨k_revL⟩
instance i_dget {td ty : TE} : Stp (tDGet td ty σ H Q) (td σ H fun x H1 => ty σ H1 fun y H2 => ∃ a v, x = .ref a ∧ DGet H2 a y (some v) ∧ Q v H2) := ⟨k_dget⟩
instance i_iT {A B : Prop} : Stp (if true = true then A else B) A := ⟨k_iT⟩
instance i_iF {A B : Prop} : Stp (if false = true then A else B) B := ⟨k_iF⟩
instance i_ntT {A B : Prop} : Stp (if (!true) = true then A else B) B := ⟨k_ntT⟩
instance i_ntF {A B : Prop} : Stp (if (!false) = true then A else B) A := ⟨k_ntF⟩
end
theorem start_cons {N : List Str} {x : Str} {v : V} {vs : List V} : L2.start (x :: N) (v :: vs) = some v :: L2.start N vs := by
  unfold L2.start
  rw [List.map_cons, List.length_cons, List.length_cons, Nat.add_sub_add_right, List.cons_append]
theorem start_nil {N : List Str} {x : Str} : L2.start (x :: N) [] = none :: L2.start N [] := rfl
theorem start_end : L2.start [] [] = [] := rfl
/-! ### comprehensions again, over slots that are told one by one -/
class Wp (σ : L2.St) (vs : List Nat) (σ' : outParam L2.St) : Prop where
  h : wipe σ vs = σ'
instance wp0 {σ : L2.St} : Wp σ [] σ := ⟨rfl⟩
instance wpS {σ σ1 σ2 : L2.St} {v : Nat} {vs : List Nat} [q : Wp σ vs σ1] [q2 : StAt σ1 v none σ2] : Wp σ (v :: vs) σ2 := ⟨by unfold wipe; rw [q.h, q2.h]⟩
theorem lcV {X : Cx} {e : Expr} {own : List (Str × Nat)} {vs : List Nat} {wi : TI} {g : TG} {tt : TT} {te : TE} (q : own.map (·.2) = vs) (h : PE X e (tLc wi g tt te (own.map (·.2)))) : PE X e (tLc wi g tt te vs) := q ▸ h
theorem setLcV {X : Cx} {st : Stmt} {own : List (Str × Nat)} {vs : List Nat} {wi : TI} {g g2 : TG} {tt : TT} {te : TE} (q : own.map (·.2) = vs) (h : PS X st (tAsg (tLc wi g tt te (own.map (·.2))) g2)) : PS X st (tAsg (tLc wi g tt te vs) g2) := q ▸ h
section
variable {σ σ0 : L2.St} {σ2 : V → L2.St} {H : Hp} {Q : VK} {K : PySem.W.Frag} {j : Nat} {t0 te : TE} {vs : List Nat}
theorem m_lcS [q0 : Wp σ vs σ0] [q2 : ∀ x, StAt σ0 j (some x) (σ2 x)] {l : List Nat} {F : Nat → V} (h0 : ∀ R : VK, (∀ H1, Ex H H1 → R (.str (T l)) H1) → t0 σ H R) (hz : l.length < 16777216)
    (he : ∀ (i c : Nat) H2, l[i]? = some c → Ex H H2 → ∀ Q : VK, (∀ H3, Ex H2 H3 → Q (F c) H3) → te (σ2 (.str (T [c]))) H2 Q)
    (k : ∀ p H2, H p = none → Ex H H2 → H2 p = some (.lst (l.map F)) → Q (.ref p) H2) (hw : ∀ x, wipe (σ2 x) vs = σ0 := by intro _; rfl) : tLc (iStr t0) (gName j) tYes te vs σ H Q :=
  k_lcS h0 (fun x => by rw [q0.h, (q2 x).h]; exact hw x) hz (fun i c H2 hc e Q k => by rw [q0.h, (q2 _).h]; exact he i c H2 hc e Q k) k
theorem m_lcL [q0 : Wp σ vs σ0] [q2 : ∀ x, StAt σ0 j (some x) (σ2 x)] {xs : List V} {F : V → V} (h0 : ∀ R : VK, (∀ a H1, Ex H H1 → SqL K H1 a xs → R (.ref a) H1) → t0 σ H R) (hz : xs.length < 16777216)
    (he : ∀ (i : Nat) (x : V) H2, xs[i]? = some x → Ex H H2 → ∀ Q : VK, (∀ H3, Ex H2 H3 → Q (F x) H3) → te (σ2 x) H2 Q)
    (k : ∀ p H2, H p = none → Ex H H2 → H2 p = some (.lst (xs.map F)) → Q (.ref p) H2) (hw : ∀ x, wipe (σ2 x) vs = σ0 := by intro _; rfl) : tLc (iList K t0) (gName j) tYes te vs σ H Q :=
  k_lcL h0 (fun x => by rw [q0.h, (q2 x).h]; exact hw x) hz (fun i x H2 hc e Q k => by rw [q0.h, (q2 _).h]; exact he i x H2 hc e Q k) k
end
end U

set_option Elab.async false
set_option linter.all false
set_option maxRecDepth 100000
set_option maxHeartbeats 4000000
namespace U
open PySem PySem.Spec PyProof.Rows L2
/-! ### moves, as two truths: is the letter an f -/
abbrev Mv := Bool × Bool
def chM (b : Bool) : Nat := if b then 102 else 98
def mt (m : Mv) : Str := T [chM m.1, chM m.2]
def inv (m : Mv) : Mv := (!m.1, !m.2)
theorem inv_inv (m : Mv) : inv (inv m) = m := by obtain ⟨a, b⟩ := m; cases a <;> cases b <;> rfl
theorem chM_inj {a b : Bool} : chM a = chM b → a = b := by cases a <;> cases b <;> intro h <;> first | rfl | cases h
theorem mt_inj {m n : Mv} : mt m = mt n ↔ m = n := ⟨fun h => by
  have h := T_inj.mp h
  obtain ⟨a, b⟩ := m
  obtain ⟨c, d⟩ := n
  injection h with h1 h2
  injection h2 with h2 _
  rw [show a = c from chM_inj h1, show b = d from chM_inj h2], fun h => by rw [h]⟩
abbrev vM (m : Mv) : V := .str (mt m)
abbrev mvs (l : List Mv) : List V := l.map vM
def FM (f : Mv → V) : V → V
  | .str z => if z = mt (true, true) then f (true, true) else if z = mt (true, false) then f (true, false) else if z = mt (false, true) then f (false, true) else f (false, false)
  | _ => .non
theorem FM_at (f : Mv → V) (m : Mv) : FM f (vM m) = f m := by
  obtain ⟨a, b⟩ := m
  cases a <;> cases b <;> (unfold FM vM; simp [mt_inj])
theorem FM_map (f : Mv → V) (l : List Mv) : (mvs l).map (FM f) = l.map f := by
  rw [List.map_map]
  exact List.map_congr_left fun m _ => FM_at f m
theorem mvs_at {l : List Mv} {i : Nat} {x : V} (h : (mvs l)[i]? = some x) : ∃ m, l[i]? = some m ∧ x = vM m := by
  rw [List.getElem?_map] at h
  cases e : l[i]? with
  | none => rw [e] at h; cases h
  | some m => rw [e] at h; exact ⟨m, rfl, (Option.some.inj h).symm⟩
/-! ### thinning -/
def cr (m : Mv) (l : List Mv) : List Mv := match l with
  | [] => [m]
  | x :: t => if x = inv m then t else m :: x :: t
def nf (w : List Mv) : List Mv := w.foldr cr []
def Rdu (l : List Mv) : Prop := ∀ u v a, l ≠ u ++ a :: inv a :: v
theorem Rdu.tail {m : Mv} {l : List Mv} (h : Rdu (m :: l)) : Rdu l := fun u v a e => h (m :: u) v a (by rw [e]; rfl)
theorem Rdu.rev {l : List Mv} (h : Rdu l) : Rdu l.reverse := fun u v a e => h v.reverse u.reverse (inv a) (by
  have e := congrArg List.reverse e
  rw [List.reverse_reverse] at e
  rw [e, inv_inv]
  simp)
theorem cr_rdu {m : Mv} : ∀ {l : List Mv}, Rdu l → Rdu (cr m l)
  | [], _ => fun u v a e => by
    have := congrArg List.length e
    simp [cr] at this
    omega
  | x :: t, h => by
    unfold cr
    by_cases e : x = inv m
    · simp only [e, if_true]
      exact h.tail
    · simp only [e, if_false]
      intro u v a z
      cases u with
      | nil =>
        injection z with z1 z2
        injection z2 with z2 _
        exact e (by rw [z2, z1])
      | cons y u =>
        injection z with z1 z2
        exact h u v a z2
theorem nf_rdu : ∀ w, Rdu (nf w)
  | [] => fun u v a e => by simp [nf] at e
  | m :: w => cr_rdu (nf_rdu w)
theorem cr_inv {m : Mv} : ∀ {l : List Mv}, Rdu l → cr (inv m) (cr m l) = l
  | [], _ => by simp [cr, inv_inv]
  | x :: t, h => by
    by_cases e : x = inv m
    · subst e
      simp only [cr, if_true]
      cases t with
      | nil => rfl
      | cons y t =>
        have : y ≠ inv (inv m) := fun z => h [] t (inv m) (by rw [z]; rfl)
        simp only [cr, this, if_false]
    · simp only [cr, e, if_false, inv_inv, if_true]
theorem nf_id : ∀ {w : List Mv}, Rdu w → nf w = w
  | [], _ => rfl
  | m :: w, h => by
    show cr m (nf w) = _
    rw [nf_id h.tail]
    cases w with
    | nil => rfl
    | cons x t =>
      have : x ≠ inv m := fun z => h [] t m (by rw [z]; rfl)
      simp only [cr, this, if_false]
theorem nf_app (u v : List Mv) : nf (u ++ v) = u.foldr cr (nf v) := by unfold nf; rw [List.foldr_append]
theorem nf_two (u v : List Mv) (m : Mv) : nf (u ++ inv m :: m :: v) = nf (u ++ v) := by
  rw [nf_app, nf_app]
  show u.foldr cr (cr (inv m) (cr m (nf v))) = _
  rw [cr_inv (nf_rdu v)]
theorem nf_back : ∀ (w v : List Mv), nf ((nf w).reverse ++ v) = nf (w.reverse ++ v)
  | [], v => rfl
  | m :: w, v => by
    have h : nf ((cr m (nf w)).reverse ++ v) = nf ((nf w).reverse ++ m :: v) := by
      cases hl : nf w with
      | nil => rfl
      | cons x t =>
        by_cases e : x = inv m
        · subst e
          simp only [cr, if_true]
          rw [List.reverse_cons, List.append_assoc]
          exact (nf_two _ _ _).symm
        · simp only [cr, e, if_false]
          rw [List.reverse_cons, List.append_assoc]
          rfl
    show nf ((cr m (nf w)).reverse ++ v) = _
    rw [h, nf_back w, List.reverse_cons, List.append_assoc]
    rfl
/-- one more move on the stack -/
def push (st : List Mv) (m : Mv) : List Mv := if st.getLast? = some (inv m) then st.dropLast else st ++ [m]
def red (w : List Mv) : List Mv := w.foldl push []
theorem push_rev (m : Mv) (st : List Mv) : push st m = (cr m st.reverse).reverse := by
  unfold push
  rcases List.eq_nil_or_concat st with e | ⟨r, x, e⟩
  · subst e; rfl
  · rw [List.concat_eq_append] at e
    subst e
    rw [List.getLast?_concat, List.dropLast_concat, List.reverse_append]
    show _ = (cr m (x :: r.reverse)).reverse
    by_cases h : x = inv m
    · simp [cr, h]
    · simp [cr, h]
theorem red_nf (w : List Mv) : red w = (nf w.reverse).reverse := by
  unfold red nf
  rw [List.foldr_reverse]
  suffices h : ∀ (w s : List Mv), w.foldl push s = (w.foldl (fun y x => cr x y) s.reverse).reverse by
    have := h w []
    simpa using this
  intro w
  induction w with
  | nil => intro s; simp
  | cons m w ih =>
    intro s
    show w.foldl push (push s m) = _
    rw [ih, push_rev, List.reverse_reverse]
    rfl
theorem red_rdu (w : List Mv) : Rdu (red w) := by rw [red_nf]; exact (nf_rdu _).rev
theorem red_id {w : List Mv} (h : Rdu w) : red w = w := by rw [red_nf, nf_id h.rev, List.reverse_reverse]
theorem red_red (w : List Mv) : red (red w) = red w := red_id (red_rdu w)
theorem red_flip (w : List Mv) : (red w.reverse).reverse = red w := by
  have h := nf_back w.reverse []
  rw [List.append_nil, List.append_nil, List.reverse_reverse] at h
  rw [nf_id (nf_rdu _).rev] at h
  rw [red_nf w, h, red_nf, List.reverse_reverse, List.reverse_reverse]
theorem nf_undo : ∀ (w v : List Mv), nf (w.map inv ++ (w.reverse ++ v)) = nf v
  | [], v => rfl
  | m :: w, v => by
    rw [List.reverse_cons, List.append_assoc]
    show cr (inv m) (nf (w.map inv ++ (w.reverse ++ (m :: v)))) = _
    rw [nf_undo w]
    exact cr_inv (nf_rdu v)
theorem red_undo (w : List Mv) : red (w ++ w.reverse.map inv) = [] := by
  rw [red_nf, List.reverse_append]
  have h := nf_undo w []
  rw [List.append_nil] at h
  rw [← List.map_reverse, List.reverse_reverse, h]
  rfl
theorem rdu_at {l : List Mv} (h : Rdu l) {i : Nat} {a b : Mv} (ha : l[i]? = some a) (hb : l[i + 1]? = some b) : b ≠ inv a := fun e => h (l.take i) (l.drop (i + 2)) a (by
  obtain ⟨h1, e1⟩ := List.getElem?_eq_some_iff.mp ha
  obtain ⟨h2, e2⟩ := List.getElem?_eq_some_iff.mp hb
  rw [← e, ← e1, ← e2]
  conv => lhs; rw [← List.take_append_drop i l]
  rw [List.drop_eq_getElem_cons h1, List.drop_eq_getElem_cons h2])
theorem red_take {w : List Mv} {i : Nat} {m : Mv} (h : w[i]? = some m) : red (w.take (i + 1)) = push (red (w.take i)) m := by
  unfold red
  rw [List.take_add_one, h, List.foldl_append]
  rfl
theorem push_len (st : List Mv) (m : Mv) : (push st m).length ≤ st.length + 1 := by
  unfold push
  by_cases h : st.getLast? = some (inv m)
  · rw [if_pos h, List.length_dropLast]; omega
  · rw [if_neg h, List.length_append]; simp
theorem red_len (w : List Mv) : (red w).length ≤ w.length := by
  suffices h : ∀ i, (red (w.take i)).length ≤ i ∧ (red (w.take i)).length ≤ w.length by
    have := (h w.length).2
    rwa [List.take_length] at this
  intro i
  induction i with
  | zero => simp [red]
  | succ i ih =>
    cases e : w[i]? with
    | none => rw [List.take_add_one, e]; simpa using ⟨by have := ih.1; omega, ih.2⟩
    | some m =>
      rw [red_take e]
      have := push_len (red (w.take i)) m
      have := (List.getElem?_eq_some_iff.mp e).1
      omega
/-! ### lists of moves as data -/
def dM (ns : List Mv) : PyData := .list (ns.map fun m => PyData.str (mt m))
theorem dpAllMvs {K : PySem.W.Frag} {H : Hp} : ∀ ns : List Mv, DpAll K H (mvs ns) (ns.map fun m => PyData.str (mt m))
  | [] => .nil
  | n :: ns => .cons (.str _) (dpAllMvs ns)
theorem dpMvs {K : PySem.W.Frag} {H : Hp} {p : Addr} {ns : List Mv} (h : SqL K H p (mvs ns)) : Dp K H (.ref p) (dM ns) := .lst h (dpAllMvs ns)
theorem canMvs : ∀ ns : List Mv, PyData.canLayAll0 (ns.map fun m => PyData.str (mt m)) = true
  | [] => by simp [PyData.canLayAll0]
  | n :: r => by
    have h : PyData.strOk (mt n) = true := by
      obtain ⟨a, b⟩ := n
      cases a <;> cases b <;> decide +kernel
    simp [PyData.canLayAll0, PyData.canLay0, canMvs r, h]
theorem depMvs : ∀ ns : List Mv, PyData.depthAll (ns.map fun m => PyData.str (mt m)) = 0
  | [] => by simp [PyData.depthAll]
  | n :: r => by simp [PyData.depthAll, PyData.depth, depMvs r]
theorem shMvs (ns : List Mv) : SeqAt.shaped (dM ns) = true := by
  unfold SeqAt.shaped dM
  simp [PyData.canLay0, PyData.depth, canMvs, depMvs]
theorem eqvAllMvs : ∀ as bs : List Mv, PyData.eqvAll (as.map fun m => PyData.str (mt m)) (bs.map fun m => PyData.str (mt m)) = decide (as = bs)
  | [], [] => by simp [PyData.eqvAll]
  | [], _ :: _ => by simp [PyData.eqvAll]
  | _ :: _, [] => by simp [PyData.eqvAll]
  | a :: r, b :: t => by
    simp only [List.map_cons, PyData.eqvAll, PyData.eqv, eqvAllMvs r t, List.cons.injEq]
    by_cases h : a = b
    · simp [h]
    · have h' : ¬ mt a = mt b := fun z => h (mt_inj.mp z)
      simp [h, h']
theorem eqvMvs (as bs : List Mv) : PyData.eqv (dM as) (dM bs) = decide (as = bs) := by
  unfold dM
  simp only [PyData.eqv]
  exact eqvAllMvs as bs
theorem k_eqMvs {K : PySem.W.Frag} {H : Hp} {Q : VK} {p q : Addr} {as bs : List Mv} (h1 : SqL K H p (mvs as)) (h2 : SqL K H q (mvs bs)) (k : Q (.bl (decide (as = bs))) H) : rEqU K (.ref p) (.ref q) H Q :=
  k_eqD (dpMvs h1) (dpMvs h2) (shMvs _) (shMvs _) (by rw [eqvMvs]; exact k)
theorem k_neMvs {K : PySem.W.Frag} {H : Hp} {Q : VK} {p q : Addr} {as bs : List Mv} (h1 : SqL K H p (mvs as)) (h2 : SqL K H q (mvs bs)) (k : Q (.bl (!decide (as = bs))) H) : rNeU K (.ref p) (.ref q) H Q :=
  k_neD (dpMvs h1) (dpMvs h2) (shMvs _) (shMvs _) (by rw [eqvMvs]; exact k)
/-! ### a comprehension over a range -/
theorem m_lcR {σ σ0 : L2.St} {σ2 : V → L2.St} {H : Hp} {Q : VK} {j : Nat} {tr : TA} {te : TE} {vs : List Nat} [q0 : Wp σ vs σ0] [q2 : ∀ x, StAt σ0 j (some x) (σ2 x)] {n : Nat} {F : Nat → V}
    (h0 : ∀ R : List V → Hp → Prop, (∀ (z : Int) H1, z.toNat = n → -(2 ^ 62) ≤ z → z < 2 ^ 62 → Ex H H1 → R [.int z] H1) → tr σ H R) (hz : n < 16777216)
    (he : ∀ (i : Nat) H2, i < n → Ex H H2 → ∀ Q : VK, (∀ H3, Ex H2 H3 → Q (F i) H3) → te (σ2 (.int i)) H2 Q)
    (k : ∀ p H2, H p = none → Ex H H2 → H2 p = some (.lst ((List.range n).map F)) → Q (.ref p) H2) (hw : ∀ x, wipe (σ2 x) vs = σ0 := by intro _; rfl) : tLc (iRng1 tr) (gName j) tYes te vs σ H Q :=
  h0 _ fun z H1 ez hz1 hz2 e1 => ⟨z, rfl, hz1, hz2, fun D hD => by
    rw [ez]
    refine lc_range (n := n) (fun i H => Ex H1 H ∧ H D = some (.lst ((List.range i).map F))) ⟨Ex.new hD, upd_same⟩ (fun i H3 hi p => ?_) (fun H3 p => ?_)
    · show wipe ((wipe σ vs).set j (some (.int (0 + i)))) vs = wipe σ vs ∧ te ((wipe σ vs).set j (some (.int (0 + i)))) H3 _
      rw [q0.h, (q2 _).h, Int.zero_add]
      refine ⟨hw _, ?_⟩
      refine he i H3 hi (e1.trans p.1) _ fun H4 e => ?_
      refine ⟨_, e _ _ p.2, ?_, Ex.mut (p.1.trans e) hD, ?_⟩
      · rw [List.length_map, List.length_range]
        exact line_lt (by omega)
      · rw [upd_same, List.range_succ, List.map_append]
        rfl
    · exact k D H3 (e1.free hD) (e1.trans p.1) p.2⟩
/-! ### steps on the stack -/
theorem k_pop {l : Addr} {xs : List V} {y : V} {H : Hp} {Q : VK} (h : H l = some (.lst (xs ++ [y]))) (k : Q y (upd H l (.lst xs))) : rPop (.ref l) [] H Q := ⟨l, _, y, rfl, rfl, h, by simp, by rw [List.dropLast_concat]; exact k⟩
theorem k_slL {K : PySem.W.Frag} {H : Hp} {Q : VK} {a : Addr} {xs : List V} {lo hi : Option Int} (h : SqL K H a xs) (k : ∀ p, H p = none → Q (.ref p) (upd H p (.lst (cutV xs lo hi)))) : rSlL K (.ref a) lo hi H Q := ⟨a, xs, rfl, h, k⟩
theorem cut_last (xs : List V) (y : V) : cutV (xs ++ [y]) none (some (-1)) = xs := by
  unfold cutV
  have h0 : HT.sIx (xs ++ [y]).length 0 none = 0 := by simp [HT.sIx]
  have h1 : HT.sIx (xs ++ [y]).length (xs ++ [y]).length (some (-1)) = xs.length := by simp [HT.sIx]; omega
  rw [h0, h1]
  simp
theorem mvs_snoc (l : List Mv) (m : Mv) : mvs (l ++ [m]) = mvs l ++ [vM m] := by unfold mvs; rw [List.map_append]; rfl
theorem mvs_len (l : List Mv) : (mvs l).length = l.length := List.length_map _
theorem k_tySqL {K : PySem.W.Frag} {H : Hp} {a : Addr} {xs : List V} (h : SqL K H a xs) : TyX K H (.ref a) (.type "list") := by
  rcases h with (h | ⟨o, h⟩) | ⟨o, its, n, hk, hc, _⟩
  · exact .base (.lst h)
  · exact .base (.frz h)
  · exact .kList hk hc
end U
namespace U
open PySem PySem.Spec PyProof.Rows L2
/-- a tuple of the module -/
theorem sqt_const {K : PySem.W.Frag} {aM : Addr} {d : Option Addr} {its : Array Value} {n : Nat} {sl : Array (Option Value)} {xs : List V} (l : K.lookup aM = some ⟨.type "tuple", d, .seq its n, sl⟩) (hz : its.size ≤ sizeLine) (r : Vals xs its.toList) : ∀ H, SqT K H aM xs :=
  fun H => .inr ⟨_, its, n, l, rfl, rfl, hz, r⟩
end U

set_option Elab.async false
set_option linter.all false
set_option maxRecDepth 100000
set_option maxHeartbeats 4000000
namespace U
open PySem PySem.Spec PyProof.Rows L2
local macro_rules | `(tactic| iterate 901 fail) => `(tactic| first
  | with_reducible assumption
  | with_reducible exact upd_same
  | (with_reducible refine' Ex.use (Ex.new ?n) ?h; (case n => with_reducible assumption); (case h => (iterate 901 fail)))
  | (with_reducible refine' Ex.use ?n ?h; (case n => with_reducible assumption); (case h => (iterate 901 fail))))
local macro_rules | `(tactic| iterate 902 fail) => `(tactic| first
  | with_reducible assumption
  | (with_reducible refine' SqL.of ?h; (case h => (iterate 901 fail)))
  | (with_reducible refine' SqT.of ?h; (case h => (iterate 901 fail)))
  | (iterate 912 fail))
local macro_rules | `(tactic| iterate 912 fail) => `(tactic| first
  | with_reducible assumption
  | (with_reducible refine' Ex.sql (Ex.new ?n) ?h; (case n => with_reducible assumption); (case h => (iterate 912 fail)))
  | (with_reducible refine' Ex.sqt (Ex.new ?n) ?h; (case n => with_reducible assumption); (case h => (iterate 912 fail)))
  | (with_reducible refine' Ex.sql ?n ?h; (case n => with_reducible assumption); (case h => (iterate 912 fail)))
  | (with_reducible refine' Ex.sqt ?n ?h; (case n => with_reducible assumption); (case h => (iterate 912 fail))))
local macro_rules | `(tactic| iterate 903 fail) => `(tactic| first
  | with_reducible assumption
  | with_reducible exact Ex.refl _
  | (with_reducible refine' Ex.mk ?e ?n; (case n => with_reducible assumption); (case e => (iterate 903 fail)))
  | (with_reducible refine' Ex.trans ?e ?n; (case n => with_reducible assumption); (case e => (iterate 903 fail))))
local macro_rules | `(tactic| iterate 904 fail) => `(tactic| first
  | with_reducible assumption
  | (apply line_le; simp only [List.length_cons, List.length_nil, List.length_append, List.length_map, List.length_range]; omega)
  | (apply line_lt; simp only [List.length_cons, List.length_nil, List.length_append, List.length_map, List.length_range]; omega))
local macro_rules | `(tactic| iterate 905 fail) => `(tactic| (apply line_le; first | (show List.length _ ≤ _; omega) | (simp only [U.T, PySem.Str.length, List.size_toArray, List.length_cons, List.length_nil, List.length_append, List.length_map, List.length_reverse]; omega)))
local macro_rules | `(tactic| iterate 906 fail) => `(tactic| first
  | with_reducible exact TyX.base (TyOf.str _) | with_reducible exact TyX.base (TyOf.int _) | with_reducible exact TyX.base (TyOf.bl _) | with_reducible exact TyX.base TyOf.non
  | (with_reducible refine' TyX.base (TyOf.lst ?h); (case h => (iterate 901 fail))) | (with_reducible refine' TyX.base (TyOf.tup ?h); (case h => (iterate 901 fail))) | (with_reducible refine' TyX.base (TyOf.dK ?h); (case h => (iterate 901 fail))))
local macro_rules | `(tactic| iterate 907 fail) => `(tactic| first
  | (with_reducible refine' k_tyL ?h ?k; (case h => (iterate 901 fail)))
  | (with_reducible refine' k_app ?h ?z ?k; (case h => (iterate 901 fail)); (case z => (iterate 904 fail)))
  | (with_reducible refine' k_gTup ?h ?z ?k; (case h => (iterate 902 fail)); (case z => exact rfl))
  | (with_reducible refine' k_I ?c ?k; (case c => first | decide | exact ⟨by decide, by decide⟩))
  | (with_reducible refine' k_ixL ?h ?a ?k; (case h => (iterate 902 fail)); (case a => exact rfl))
  | (with_reducible refine' k_ixT ?h ?a ?k; (case h => (iterate 902 fail)); (case a => exact rfl))
  | (with_reducible refine' k_lenL ?h ?k; (case h => (iterate 902 fail)))
  | (with_reducible refine' k_lenT ?h ?k; (case h => (iterate 902 fail)))
  | (with_reducible refine' k_lenS ?h ?k; (case h => (iterate 905 fail)))
  | (with_reducible refine' k_isi (b := true) ?t ?e ?k; (case t => (iterate 906 fail)); (case e => decide +kernel))
  | (with_reducible refine' k_isi (b := false) ?t ?e ?k; (case t => (iterate 906 fail)); (case e => decide +kernel)))
local macro_rules | `(tactic| iterate 908 fail) => `(tactic| first | with_reducible refine Stp.h ?_ | (iterate 907 fail))
local macro_rules | `(tactic| iterate 909 fail) => `(tactic| ((try dsimp only); repeat (iterate 908 fail)))
local macro_rules | `(tactic| iterate 910 fail) => `(tactic| (simp only [start_cons, start_nil, start_end]; repeat (iterate 908 fail)))

def topS (i : Nat) : Stmt := PySem.Challenge.pw_unison_k03_whole_thinned.main.body.getD i (.Pass ⟨0, 0, 0, 0⟩)
section
variable {P : Program} {w : World} {K : PySem.W.Frag} {mg : Str → Option Value} {base : Heap}
/-- a move taken back -/
def sp_back : Sp := fun vs H Q _ => ∃ m : Mv, vs = [.str (mt m)] ∧ ∀ H', Ex H H' → Q (.str (mt (inv m))) H'
def flipm (c : Nat) : Nat := if c = 102 then 98 else 102
theorem flipm_ch (b : Bool) : flipm (chM b) = chM (!b) := by cases b <;> rfl
theorem mt_map (m : Mv) : mt (inv m) = T ([chM m.1, chM m.2].map flipm) := by
  unfold mt inv
  simp only [List.map_cons, List.map_nil, flipm_ch]
abbrev s_taken_back : Stmt := topS 5
theorem sc_taken_back : FnScope ["move", "letter"] ["move"] (defScope s_taken_back) := ⟨rfl, rfl, rfl, by decide +kernel, rfl, by decide +kernel, by decide +kernel⟩
theorem ok_taken_back {f : Addr} {fd : FuncData} (F : Fun K "taken_back" "taken_back" s_taken_back f fd) : FnOk P w K mg base CX0 1 f fd ["move"] sp_back := by
  refine F.ok sc_taken_back (fun vs H Q E h => ?_) (fun cdv A outer s H vs Q E hr h => ?_)
  · obtain ⟨m, rfl, _⟩ := h
    rfl
  have hu64 := hr.units
  obtain ⟨m, rfl, q⟩ := h
  refine ⟨_, (pss_one (ps_ret (joinK (K := K) rfl (pe_join pe_str (lcV (vs := [1]) rfl (pe_lc (own := [("letter", 1)]) (tt := tYes) rfl sc_taken_back.nd (pi_str (pv 0)) (blkOk_by (N := ["move", "letter"]) (sc := defScope s_taken_back) (by decide +kernel)) (fun _ _ _ _ _ => (pg_name (i := 1) sc_taken_back.nd rfl (.inl rfl))) (fun _ _ _ _ _ => pts_nil) (fun _ _ _ _ _ => (pe_ifExp (pt_cmpR (op_eqUK (K := K) rfl hu64) (pv 1) pe_str (nomark _)) pe_str pe_str)))))))), ?_⟩
  rw [mt_map] at q
  unfold mt
  generalize hl : [chM m.1, chM m.2] = l at q
  have hz : l.length = 2 := by rw [← hl]; rfl
  (iterate 910 fail)
  refine m_lcS (l := l) (F := fun c => .str (T [flipm c])) (fun R k => by (iterate 909 fail); exact k _ (Ex.refl _)) (by omega) (fun i c H2 hc e Q k => ?_) (fun p H2 hp e h => ?_)
  · (iterate 909 fail)
    unfold flipm at k
    refine k_if (fun hu => ?_) (fun hu => ?_)
    · (iterate 909 fail)
      rw [if_pos (isF.mp hu)] at k
      rw [ofs_b]
      exact k _ (Ex.refl _)
    · (iterate 909 fail)
      rw [if_neg fun z => hu (isF.mpr z)] at k
      rw [ofs_f]
      exact k _ (Ex.refl _)
  · have h' : H2 p = some (.lst (((l.map flipm).map fun c => T [c]).map V.str)) := by
      rw [h, List.map_map, List.map_map]
      rfl
    refine k_join0 (ls := l.map flipm) (SqL.of h') (by rw [List.length_map]; omega) ?_
    (iterate 909 fail)
    exact q _ e

/-- asked_moves(moves), moves ones -/
def sp_asked_moves0 (K : PySem.W.Frag) : Sp := fun vs H Q _ => ∃ (a : Addr) (ms : List Mv), vs = [.ref a] ∧ SqL K H a (mvs ms) ∧ ms.length ≤ 16000000 ∧ ∀ H', Ex H H' → Q .non H'
abbrev s_asked_moves : Stmt := topS 6
theorem sc_asked_moves : FnScope ["moves", "move"] ["moves"] (defScope s_asked_moves) := ⟨rfl, rfl, rfl, by decide +kernel, rfl, by decide +kernel, by decide +kernel⟩
def vMOVES : List V := [.str (Str.ofString "ff"), .str (Str.ofString "fb"), .str (Str.ofString "bf"), .str (Str.ofString "bb")]
theorem in_MOVES (m : Mv) : inV (vM m) vMOVES = true := by
  obtain ⟨a, b⟩ := m
  cases a <;> cases b <;> decide +kernel
theorem ok_asked_moves0 {f : Addr} {fd : FuncData} (F : Fun K "asked_moves" "asked_moves" s_asked_moves f fd) {aM : Addr} (m_isinstance : mg "isinstance" = none) (m_list : mg "list" = none) (m_all : mg "all" = none) (m_str : mg "str" = none)
    (g_MOVES : ∃ u, mg "MOVES" = some u ∧ RelV (.ref aM) u) (hM : ∀ H, SqT K H aM vMOVES) : FnOk P w K mg base CX0 1 f fd ["moves"] (sp_asked_moves0 K) := by
  refine F.ok sc_asked_moves (fun vs H Q E h => ?_) (fun cdv A outer s H vs Q E hr h => ?_)
  · obtain ⟨a, ms, rfl, _⟩ := h
    rfl
  have hu64 := hr.units
  obtain ⟨a, ms, rfl, hS, hz, q⟩ := h
  refine ⟨_, (pss_one (ps_if ((pw_or (pt_not (pt_val (pe_callB (call_isiK2 (K := K) rfl) (by rfl) m_isinstance (by rfl) (pa_cons (pv 0) (pa_cons (pe_bltn (v := .ty "list") (u := .type "list") (by rfl) m_list (by rfl) rfl) pa_nil))))) (pw_or1 (pt_not (pt_val (pe_callB (cr_allK (K := K) rfl rfl) (by rfl) m_all (by rfl) (pa_cons (lcV (vs := [1]) rfl (pe_lc (own := [("move", 1)]) (tt := tYes) rfl sc_asked_moves.nd (listIK (K := K) rfl (pi_list (pv 0))) (blkOk_by (N := ["moves", "move"]) (sc := defScope s_asked_moves) (by decide +kernel)) (fun _ _ _ _ _ => (pg_name (i := 1) sc_asked_moves.nd rfl (.inl rfl))) (fun _ _ _ _ _ => pts_nil) (fun _ _ _ _ _ => (pe_and (pe_callB (call_isiK2 (K := K) rfl) (by rfl) m_isinstance (by rfl) (pa_cons (pv 1) (pa_cons (pe_bltn (v := .ty "str") (u := .type "str") (by rfl) m_str (by rfl) rfl) pa_nil))) (pe_one (pe_cmpR (op_inK (K := K) rfl) (pv 1) (pe_gv (by rfl) g_MOVES) rfl)))))) pa_nil)))))).pt) (pss_one ps_never) pss_nil)), ?_⟩
  (iterate 910 fail)
  refine k_isi (b := true) (k_tySqL hS) (by decide +kernel) ?_
  (iterate 909 fail)
  refine m_lcL (xs := mvs ms) (F := fun _ => .bl true) (fun R k => by (iterate 909 fail); exact k _ _ (Ex.refl _) hS) (by rw [mvs_len]; omega) (fun i x H2 hc e Q k => ?_) (fun p H2 hp e h => ?_)
  · obtain ⟨m, _, rfl⟩ := mvs_at hc
    (iterate 909 fail)
    refine ⟨aM, _, rfl, .inr (hM _), rfl, rfl, ?_⟩
    rw [if_neg Bool.false_ne_true, in_MOVES]
    exact k _ (Ex.refl _)
  (iterate 909 fail)
  have h5 : H2 p = some (.lst ((ms.map fun _ => true).map V.bl)) := by
    rw [h, List.map_map, List.map_map]
    rfl
  refine k_all (SqL.of h5) ?_
  rw [show (ms.map fun _ => true).all id = true by simp]
  (iterate 909 fail)
  exact q _ e
/-- the stack -/
theorem red_snoc {w : List Mv} {i : Nat} {m : Mv} (h : w[i]? = some m) : red (w.take (i + 1)) = push (red (w.take i)) m := red_take h
theorem ne_nil_dec (st : List Mv) (x : Mv) : decide (st ++ [x] = []) = false := by simp
def sp_thinned (K : PySem.W.Frag) : Sp := fun vs H Q _ => ∃ (a : Addr) (ms : List Mv), vs = [.ref a] ∧ SqL K H a (mvs ms) ∧ ms.length ≤ 8000000 ∧ ∀ H' p, Ex H H' → H p = none → H' p = some (.lst (mvs (red ms))) → Q (.ref p) H'
abbrev s_thinned : Stmt := topS 7
theorem sc_thinned : FnScope ["moves", "found", "move"] ["moves"] (defScope s_thinned) := ⟨rfl, rfl, rfl, by decide +kernel, rfl, by decide +kernel, by decide +kernel⟩
theorem ok_thinned {f : Addr} {fd : FuncData} (F : Fun K "thinned" "thinned" s_thinned f fd) (c_asked_moves : Cal P w K mg base CX0 1 "asked_moves" (sp_asked_moves0 K)) (c_taken_back : Cal P w K mg base CX0 1 "taken_back" sp_back) : FnOk P w K mg base CX0 2 f fd ["moves"] (sp_thinned K) := by
  refine F.ok sc_thinned (fun vs H Q E h => ?_) (fun cdv A outer s H vs Q E hr h => ?_)
  · obtain ⟨a, ms, rfl, _⟩ := h
    rfl
  have hu64 := hr.units
  obtain ⟨a, ms, rfl, hS, hz, q⟩ := h
  refine ⟨_, (pss_cons (ps_expr (pe_c0 c_asked_moves hr (by decide) (by rfl) (pa_cons (pv 0) pa_nil)))
    (pss_cons (ps_set (i := 1) sc_thinned.nd rfl (.inl rfl) (pe_lst pa_nil))
    (pss_cons (ps_for PassesOwn.never rfl (listIK (K := K) rfl (pi_list (pv 0))) (pg_name (i := 2) sc_thinned.nd rfl (.inl rfl)) (pss_one (ps_if ((pw_and (pt_cmpR (op_neUK (K := K) rfl hu64) (pv 1) (pe_lst pa_nil) (nomark _)) (pw_and1 (pt_cmpR (op_eqUK (K := K) rfl hu64) (pe_ix (ix_seqK (K := K) rfl) (pv 1) (pe_un un_neg pe_int) (fun _ _ => rfl)) (pe_c0 c_taken_back hr (by decide) (by rfl) (pa_cons (pv 2) pa_nil)) (nomark _)))).pt) (pss_one (ps_expr (bm0K (K := K) rfl (pe_bm0 PySem.F.plainAttrs_list PySem.F.slot_list_pop PySem.F.type_list_pop mt_pop (pv 1))))) (pss_one (ps_expr (bmK (K := K) rfl (pe_bm PySem.F.plainAttrs_list PySem.F.slot_list_append PySem.F.type_list_append mt_append (pv 1) (pa_cons (pv 2) pa_nil))))))))
    (pss_one (ps_ret (pv 1)))))), ?_⟩
  (iterate 910 fail)
  refine ⟨a, ms, rfl, hS, by omega, fun H1 e1 => ?_⟩
  (iterate 909 fail)
  refine ⟨by (iterate 904 fail), fun o no => ?_⟩
  (iterate 909 fail)
  refine ⟨_, rfl, ⟨_, by (iterate 902 fail)⟩, for_list (xs := mvs ms) (fun i σ' H' => ∃ x, σ' = [some (.ref a), some (.ref o), x] ∧ i ≤ ms.length ∧ Ex H1 H' ∧ H' o = some (.lst (mvs (red (ms.take i))))) ⟨none, rfl, Nat.zero_le _, Ex.new no, upd_same⟩ (fun i σ' H' hi hI => ?_) (fun i x σ' H' hc hI => ?_) (fun σ' H' hI => ?_)⟩
  · obtain ⟨x, rfl, _, e, _⟩ := hI
    exact (e1.trans e).sql hS
  · obtain ⟨y, rfl, hi, e, ho⟩ := hI
    obtain ⟨m, hm, rfl⟩ := mvs_at hc
    have hi3 : i + 1 ≤ ms.length := (List.getElem?_eq_some_iff.mp hm).1
    have hlen : (red (ms.take i)).length ≤ i := by
      have := red_len (ms.take i)
      rw [List.length_take] at this
      omega
    have hp := red_snoc hm
    generalize red (ms.take i) = st at ho hlen hp
    (iterate 909 fail)
    refine ⟨by (iterate 904 fail), fun o2 no2 => ?_⟩
    have ho' : upd H' o2 (.lst []) o = some (.lst (mvs st)) := Ex.use (Ex.new no2) ho
    refine k_neMvs (bs := []) (SqL.of ho') (SqL.of upd_same) ?_
    rcases List.eq_nil_or_concat st with es | ⟨r, x, es⟩
    · subst es
      rw [decide_eq_true rfl]
      (iterate 909 fail)
      refine ⟨_, rfl, hi3, Ex.mut (e.trans (Ex.new no2)) no, ?_⟩
      rw [upd_same, hp]
      rfl
    · rw [List.concat_eq_append] at es
      subst es
      rw [ne_nil_dec]
      (iterate 909 fail)
      rw [mvs_snoc] at ho'
      refine k_ixL (SqL.of ho') (atI_last _ _) ?_
      (iterate 909 fail)
      refine ⟨m, rfl, fun H3 e3 => ?_⟩
      (iterate 909 fail)
      refine k_if (fun hx => ?_) (fun hx => ?_)
      · (iterate 909 fail)
        refine k_pop (e3.use ho') ?_
        (iterate 909 fail)
        refine ⟨_, rfl, hi3, Ex.mut ((e.trans (Ex.new no2)).trans e3) no, ?_⟩
        rw [upd_same, hp]
        unfold push
        rw [List.getLast?_concat, mt_inj.mp hx, if_pos rfl, List.dropLast_concat]
      · (iterate 909 fail)
        refine k_app (e3.use ho') (by rw [← mvs_snoc, mvs_len]; exact line_lt (by omega)) ?_
        (iterate 909 fail)
        refine ⟨_, rfl, hi3, Ex.mut ((e.trans (Ex.new no2)).trans e3) no, ?_⟩
        rw [upd_same, hp]
        unfold push
        rw [List.getLast?_concat, if_neg (fun z => hx (by rw [Option.some.inj z])), mvs_snoc, mvs_snoc]
  · obtain ⟨x, rfl, hi, e, ho⟩ := hI
    rw [mvs_len, List.take_length] at ho
    (iterate 909 fail)
    exact q _ _ (e1.trans e) (e1.free no) ho
end
end U

set_option Elab.async false
set_option linter.all false
set_option maxRecDepth 100000
set_option maxHeartbeats 4000000
namespace U
open PySem PySem.Spec PyProof.Rows L2
local macro_rules | `(tactic| iterate 901 fail) => `(tactic| first
  | with_reducible assumption
  | with_reducible exact upd_same
  | (with_reducible refine' Ex.use (Ex.new ?n) ?h; (case n => with_reducible assumption); (case h => (iterate 901 fail)))
  | (with_reducible refine' Ex.use ?n ?h; (case n => with_reducible assumption); (case h => (iterate 901 fail))))
local macro_rules | `(tactic| iterate 902 fail) => `(tactic| first
  | with_reducible assumption
  | (with_reducible refine' SqL.of ?h; (case h => (iterate 901 fail)))
  | (with_reducible refine' SqT.of ?h; (case h => (iterate 901 fail)))
  | (iterate 912 fail))
local macro_rules | `(tactic| iterate 912 fail) => `(tactic| first
  | with_reducible assumption
  | (with_reducible refine' Ex.sql (Ex.new ?n) ?h; (case n => with_reducible assumption); (case h => (iterate 912 fail)))
  | (with_reducible refine' Ex.sqt (Ex.new ?n) ?h; (case n => with_reducible assumption); (case h => (iterate 912 fail)))
  | (with_reducible refine' Ex.sql ?n ?h; (case n => with_reducible assumption); (case h => (iterate 912 fail)))
  | (with_reducible refine' Ex.sqt ?n ?h; (case n => with_reducible assumption); (case h => (iterate 912 fail))))
local macro_rules | `(tactic| iterate 903 fail) => `(tactic| first
  | with_reducible assumption
  | with_reducible exact Ex.refl _
  | (with_reducible refine' Ex.mk ?e ?n; (case n => with_reducible assumption); (case e => (iterate 903 fail)))
  | (with_reducible refine' Ex.trans ?e ?n; (case n => with_reducible assumption); (case e => (iterate 903 fail))))
local macro_rules | `(tactic| iterate 904 fail) => `(tactic| first
  | with_reducible assumption
  | (apply line_le; simp only [List.length_cons, List.length_nil, List.length_append, List.length_map, List.length_range]; omega)
  | (apply line_lt; simp only [List.length_cons, List.length_nil, List.length_append, List.length_map, List.length_range]; omega))
local macro_rules | `(tactic| iterate 905 fail) => `(tactic| (apply line_le; first | (show List.length _ ≤ _; omega) | (simp only [U.T, PySem.Str.length, List.size_toArray, List.length_cons, List.length_nil, List.length_append, List.length_map, List.length_reverse]; omega)))
local macro_rules | `(tactic| iterate 906 fail) => `(tactic| first
  | with_reducible exact TyX.base (TyOf.str _) | with_reducible exact TyX.base (TyOf.int _) | with_reducible exact TyX.base (TyOf.bl _) | with_reducible exact TyX.base TyOf.non
  | (with_reducible refine' TyX.base (TyOf.lst ?h); (case h => (iterate 901 fail))) | (with_reducible refine' TyX.base (TyOf.tup ?h); (case h => (iterate 901 fail))) | (with_reducible refine' TyX.base (TyOf.dK ?h); (case h => (iterate 901 fail))))
local macro_rules | `(tactic| iterate 907 fail) => `(tactic| first
  | (with_reducible refine' k_tyL ?h ?k; (case h => (iterate 901 fail)))
  | (with_reducible refine' k_app ?h ?z ?k; (case h => (iterate 901 fail)); (case z => (iterate 904 fail)))
  | (with_reducible refine' k_gTup ?h ?z ?k; (case h => (iterate 902 fail)); (case z => exact rfl))
  | (with_reducible refine' k_I ?c ?k; (case c => first | decide | exact ⟨by decide, by decide⟩))
  | (with_reducible refine' k_ixL ?h ?a ?k; (case h => (iterate 902 fail)); (case a => exact rfl))
  | (with_reducible refine' k_ixT ?h ?a ?k; (case h => (iterate 902 fail)); (case a => exact rfl))
  | (with_reducible refine' k_lenL ?h ?k; (case h => (iterate 902 fail)))
  | (with_reducible refine' k_lenT ?h ?k; (case h => (iterate 902 fail)))
  | (with_reducible refine' k_lenS ?h ?k; (case h => (iterate 905 fail)))
  | (with_reducible refine' k_isi (b := true) ?t ?e ?k; (case t => (iterate 906 fail)); (case e => decide +kernel))
  | (with_reducible refine' k_isi (b := false) ?t ?e ?k; (case t => (iterate 906 fail)); (case e => decide +kernel)))
local macro_rules | `(tactic| iterate 908 fail) => `(tactic| first | with_reducible refine Stp.h ?_ | (iterate 907 fail))
local macro_rules | `(tactic| iterate 909 fail) => `(tactic| ((try dsimp only); repeat (iterate 908 fail)))
local macro_rules | `(tactic| iterate 910 fail) => `(tactic| (simp only [start_cons, start_nil, start_end]; repeat (iterate 908 fail)))

section
variable {P : Program} {w : World} {K : PySem.W.Frag} {mg : Str → Option Value} {base : Heap}
theorem k_fbGet {σ : L2.St} {H : Hp} {Q : VK} {i c : Nat} (hs : σ[i]? = some (some (.str (T [c])))) (hc : c = 102 ∨ c = 98) (k : ∀ H', Ex H H' → Q (.str (T [flipm c])) H') :
    tDGet (tDisp [(tC (.str (Str.ofString "f")), tC (.str (Str.ofString "b"))), (tC (.str (Str.ofString "b")), tC (.str (Str.ofString "f")))]) (tVar i) σ H Q := by
  refine k_dget (k_disp fun p hp => ?_)
  refine tPairs_cons (k_c (k_c (tPairs_cons (k_c (k_c (tPairs_nil ?_))))))
  refine ⟨upd_same, two 102 98 (.str (T [98])) (.str (T [102])), by rw [ofs_f, ofs_b]; rfl, by unfold two; decide, ?_⟩
  rw [merge_two (by decide), upd_upd]
  refine k_var hs ⟨p, _, rfl, ?_, k _ (Ex.new hp)⟩
  have h := DGet.k (k := .inr (T [c])) (show upd H p (.dK (two 102 98 (.str (T [98])) (.str (T [102])))) p = _ from upd_same)
  rw [val_two (by decide)] at h
  unfold flipm
  rcases hc with e | e <;> subst e <;> exact h
theorem chM_of (b : Bool) : chM b = 102 ∨ chM b = 98 := by
  cases b
  · exact .inr rfl
  · exact .inl rfl
abbrev s_L_back : Stmt := topS 9
theorem sc_L_back : FnScope ["_law_move", "_law_letter"] ["_law_move"] (defScope s_L_back) := ⟨rfl, rfl, rfl, by decide +kernel, rfl, by decide +kernel, by decide +kernel⟩
theorem ok_L_back {f : Addr} {fd : FuncData} (F : Fun K "_law_back" "_law_back" s_L_back f fd) : FnOk P w K mg base CX0 1 f fd ["_law_move"] sp_back := by
  refine F.ok sc_L_back (fun vs H Q E h => ?_) (fun cdv A outer s H vs Q E hr h => ?_)
  · obtain ⟨m, rfl, _⟩ := h
    rfl
  have hu := hu_of hr
  have hu64 := hr.units
  obtain ⟨m, rfl, q⟩ := h
  refine ⟨_, (pss_one (ps_ret (joinK (K := K) rfl (pe_join pe_str (lcV (vs := [1]) rfl (pe_lc (own := [("_law_letter", 1)]) (tt := tYes) rfl sc_L_back.nd (pi_str (pv 0)) (blkOk_by (N := ["_law_move", "_law_letter"]) (sc := defScope s_L_back) (by decide +kernel)) (fun _ _ _ _ _ => (pg_name (i := 1) sc_L_back.nd rfl (.inl rfl))) (fun _ _ _ _ _ => pts_nil) (fun _ _ _ _ _ => (pe_dget hu (pe_disp (pps_cons pe_str pe_str (pps_cons pe_str pe_str pps_nil)) rfl rfl (by simp) (by decide)) (pv 1) (fun _ _ => rfl))))))))), ?_⟩
  rw [mt_map] at q
  unfold mt
  have hall : ∀ c ∈ [chM m.1, chM m.2], c = 102 ∨ c = 98 := fun c hc => by
    rcases List.mem_cons.mp hc with e | hc
    · rw [e]; exact chM_of _
    · rw [List.mem_singleton.mp hc]; exact chM_of _
  generalize hl : [chM m.1, chM m.2] = l at q hall
  have hz : l.length = 2 := by rw [← hl]; rfl
  (iterate 910 fail)
  refine m_lcS (l := l) (F := fun c => .str (T [flipm c])) (fun R k => by (iterate 909 fail); exact k _ (Ex.refl _)) (by omega) (fun i c H2 hc e Q k => ?_) (fun p H2 hp e h => ?_)
  · exact k_fbGet rfl (hall c (List.mem_of_getElem? hc)) k
  · have h' : H2 p = some (.lst (((l.map flipm).map fun c => T [c]).map V.str)) := by
      rw [h, List.map_map, List.map_map]
      rfl
    refine k_join0 (ls := l.map flipm) (SqL.of h') (by rw [List.length_map]; omega) ?_
    (iterate 909 fail)
    exact q _ e
abbrev s_L_thin : Stmt := topS 10
theorem sc_L_thin : FnScope ["_law_moves", "_law_found", "_law_move"] ["_law_moves"] (defScope s_L_thin) := ⟨rfl, rfl, rfl, by decide +kernel, rfl, by decide +kernel, by decide +kernel⟩
theorem ok_L_thin {f : Addr} {fd : FuncData} (F : Fun K "_law_thin" "_law_thin" s_L_thin f fd) (c_L_back : Cal P w K mg base CX0 1 "_law_back" sp_back) : FnOk P w K mg base CX0 2 f fd ["_law_moves"] (sp_thinned K) := by
  refine F.ok sc_L_thin (fun vs H Q E h => ?_) (fun cdv A outer s H vs Q E hr h => ?_)
  · obtain ⟨a, ms, rfl, _⟩ := h
    rfl
  have hu64 := hr.units
  obtain ⟨a, ms0, rfl, hS, hz, q⟩ := h
  refine ⟨_, (pss_cons (ps_set (i := 1) sc_L_thin.nd rfl (.inl rfl) (pe_lst pa_nil))
    (pss_cons (ps_for PassesOwn.never rfl (listIK (K := K) rfl (pi_list (revLK (K := K) rfl (pe_revL (pv 0))))) (pg_name (i := 2) sc_L_thin.nd rfl (.inl rfl)) (pss_one (ps_if ((pw_and (pt_cmpR (op_neUK (K := K) rfl hu64) (pv 1) (pe_lst pa_nil) (nomark _)) (pw_and1 (pt_cmpR (op_eqUK (K := K) rfl hu64) (pe_ix (ix_seqK (K := K) rfl) (pv 1) (pe_un un_neg pe_int) (fun _ _ => rfl)) (pe_c0 c_L_back hr (by decide) (by rfl) (pa_cons (pv 2) pa_nil)) (nomark _)))).pt) (pss_one (ps_set (i := 1) sc_L_thin.nd rfl (.inl rfl) (pe_slice (sl_listK (K := K) rfl) (pv 1) po_none (po_some (pe_un un_neg pe_int))))) (pss_one (ps_expr (bmK (K := K) rfl (pe_bm PySem.F.plainAttrs_list PySem.F.slot_list_append PySem.F.type_list_append mt_append (pv 1) (pa_cons (pv 2) pa_nil))))))))
    (pss_one (ps_ret (revLK (K := K) rfl (pe_revL (pv 1))))))), ?_⟩
  (iterate 910 fail)
  refine ⟨by (iterate 904 fail), fun o no => ?_⟩
  (iterate 909 fail)
  refine ⟨_, _, rfl, (Ex.new no).sql hS, fun p np => ?_⟩
  have hrv : (mvs ms0).reverse = mvs ms0.reverse := List.map_reverse.symm
  have hlen0 : ms0.reverse.length = ms0.length := List.length_reverse
  have hr0 : (red ms0.reverse).reverse = red ms0 := red_flip ms0
  generalize ms0.reverse = ms at hlen0 hr0 hrv
  have hop : o ≠ p := fun z => by subst z; rw [upd_same] at np; cases np
  have np' : H p = none := upd_nofree np
  refine ⟨_, rfl, ⟨_, SqL.of upd_same⟩, for_list (xs := (mvs ms0).reverse) (fun i σ' H' => ∃ o x, σ' = [some (.ref a), some (.ref o), x] ∧ i ≤ ms.length ∧ H o = none ∧ o ≠ p ∧ Ex H H' ∧ H' p = some (.lst (mvs ms)) ∧ H' o = some (.lst (mvs (red (ms.take i))))) ⟨o, none, rfl, Nat.zero_le _, no, hop, (Ex.new no).mk np, by rw [← hrv]; exact upd_same, by rw [upd_ne hop, upd_same]; rfl⟩ (fun i σ' H' hi hI => ?_) (fun i x σ' H' hc hI => ?_) (fun σ' H' hI => ?_)⟩
  · obtain ⟨o, x, rfl, _, no, hop, e, hp, _⟩ := hI
    rw [hrv]
    exact SqL.of hp
  · rw [hrv] at hc
    obtain ⟨o, y, rfl, hi, no, hop, e, hpp, ho⟩ := hI
    obtain ⟨m, hm, rfl⟩ := mvs_at hc
    have hi3 : i + 1 ≤ ms.length := (List.getElem?_eq_some_iff.mp hm).1
    have hlen : (red (ms.take i)).length ≤ i := by
      have := red_len (ms.take i)
      rw [List.length_take] at this
      omega
    have hp := red_snoc hm
    generalize red (ms.take i) = st at ho hlen hp
    (iterate 909 fail)
    refine ⟨by (iterate 904 fail), fun o2 no2 => ?_⟩
    have ho' : upd H' o2 (.lst []) o = some (.lst (mvs st)) := Ex.use (Ex.new no2) ho
    have hp' : upd H' o2 (.lst []) p = some (.lst (mvs ms)) := Ex.use (Ex.new no2) hpp
    refine k_neMvs (bs := []) (SqL.of ho') (SqL.of upd_same) ?_
    rcases List.eq_nil_or_concat st with es | ⟨r, x, es⟩
    · subst es
      rw [decide_eq_true rfl]
      (iterate 909 fail)
      refine ⟨_, _, rfl, hi3, no, hop, Ex.mut (e.trans (Ex.new no2)) no, by rw [upd_ne (Ne.symm hop)]; exact hp', ?_⟩
      rw [upd_same, hp]
      rfl
    · rw [List.concat_eq_append] at es
      subst es
      rw [ne_nil_dec]
      (iterate 909 fail)
      rw [mvs_snoc] at ho'
      refine k_ixL (SqL.of ho') (atI_last _ _) ?_
      (iterate 909 fail)
      refine ⟨m, rfl, fun H3 e3 => ?_⟩
      (iterate 909 fail)
      refine k_if (fun hx => ?_) (fun hx => ?_)
      · (iterate 909 fail)
        refine k_slL (SqL.of (e3.use ho')) fun o4 no4 => ?_
        rw [cut_last]
        (iterate 909 fail)
        have e5 := (e.trans (Ex.new no2)).trans e3
        have hp5 := e3.use hp'
        refine ⟨_, _, rfl, hi3, e5.free no4, fun z => ?_, e5.mk no4, ?_, ?_⟩
        · subst z; rw [hp5] at no4; cases no4
        · exact (Ex.new no4).use hp5
        rw [upd_same, hp]
        unfold push
        rw [List.getLast?_concat, mt_inj.mp hx, if_pos rfl, List.dropLast_concat]
      · (iterate 909 fail)
        refine k_app (e3.use ho') (by rw [← mvs_snoc, mvs_len]; exact line_lt (by omega)) ?_
        (iterate 909 fail)
        refine ⟨_, _, rfl, hi3, no, hop, Ex.mut ((e.trans (Ex.new no2)).trans e3) no, by rw [upd_ne (Ne.symm hop)]; exact e3.use hp', ?_⟩
        rw [upd_same, hp]
        unfold push
        rw [List.getLast?_concat, if_neg (fun z => hx (by rw [Option.some.inj z])), mvs_snoc, mvs_snoc]
  · obtain ⟨o, x, rfl, hi, no, hop, e, hpp, ho⟩ := hI
    rw [hrv, mvs_len, List.take_length] at ho
    (iterate 909 fail)
    refine ⟨_, _, rfl, SqL.of ho, fun p9 np9 => ?_⟩
    refine q _ _ (e.mk np9) (e.free np9) ?_
    rw [upd_same, ← List.map_reverse, hr0]
end
end U

set_option Elab.async false
set_option linter.all false
set_option maxRecDepth 100000
set_option maxHeartbeats 4000000
namespace U
open PySem PySem.Spec PyProof.Rows L2
local macro_rules | `(tactic| iterate 901 fail) => `(tactic| first
  | with_reducible assumption
  | with_reducible exact upd_same
  | (with_reducible refine' Ex.use (Ex.new ?n) ?h; (case n => with_reducible assumption); (case h => (iterate 901 fail)))
  | (with_reducible refine' Ex.use ?n ?h; (case n => with_reducible assumption); (case h => (iterate 901 fail))))
local macro_rules | `(tactic| iterate 902 fail) => `(tactic| first
  | with_reducible assumption
  | (with_reducible refine' SqL.of ?h; (case h => (iterate 901 fail)))
  | (with_reducible refine' SqT.of ?h; (case h => (iterate 901 fail)))
  | (iterate 912 fail))
local macro_rules | `(tactic| iterate 912 fail) => `(tactic| first
  | with_reducible assumption
  | (with_reducible refine' Ex.sql (Ex.new ?n) ?h; (case n => with_reducible assumption); (case h => (iterate 912 fail)))
  | (with_reducible refine' Ex.sqt (Ex.new ?n) ?h; (case n => with_reducible assumption); (case h => (iterate 912 fail)))
  | (with_reducible refine' Ex.sql ?n ?h; (case n => with_reducible assumption); (case h => (iterate 912 fail)))
  | (with_reducible refine' Ex.sqt ?n ?h; (case n => with_reducible assumption); (case h => (iterate 912 fail))))
local macro_rules | `(tactic| iterate 903 fail) => `(tactic| first
  | with_reducible assumption
  | with_reducible exact Ex.refl _
  | (with_reducible refine' Ex.mk ?e ?n; (case n => with_reducible assumption); (case e => (iterate 903 fail)))
  | (with_reducible refine' Ex.trans ?e ?n; (case n => with_reducible assumption); (case e => (iterate 903 fail))))
local macro_rules | `(tactic| iterate 904 fail) => `(tactic| first
  | with_reducible assumption
  | (apply line_le; simp only [List.length_cons, List.length_nil, List.length_append, List.length_map, List.length_range]; omega)
  | (apply line_lt; simp only [List.length_cons, List.length_nil, List.length_append, List.length_map, List.length_range]; omega))
local macro_rules | `(tactic| iterate 905 fail) => `(tactic| (apply line_le; first | (show List.length _ ≤ _; omega) | (simp only [U.T, PySem.Str.length, List.size_toArray, List.length_cons, List.length_nil, List.length_append, List.length_map, List.length_reverse]; omega)))
local macro_rules | `(tactic| iterate 906 fail) => `(tactic| first
  | with_reducible exact TyX.base (TyOf.str _) | with_reducible exact TyX.base (TyOf.int _) | with_reducible exact TyX.base (TyOf.bl _) | with_reducible exact TyX.base TyOf.non
  | (with_reducible refine' TyX.base (TyOf.lst ?h); (case h => (iterate 901 fail))) | (with_reducible refine' TyX.base (TyOf.tup ?h); (case h => (iterate 901 fail))) | (with_reducible refine' TyX.base (TyOf.dK ?h); (case h => (iterate 901 fail))))
local macro_rules | `(tactic| iterate 907 fail) => `(tactic| first
  | (with_reducible refine' k_tyL ?h ?k; (case h => (iterate 901 fail)))
  | (with_reducible refine' k_app ?h ?z ?k; (case h => (iterate 901 fail)); (case z => (iterate 904 fail)))
  | (with_reducible refine' k_gTup ?h ?z ?k; (case h => (iterate 902 fail)); (case z => exact rfl))
  | (with_reducible refine' k_I ?c ?k; (case c => first | decide | exact ⟨by decide, by decide⟩))
  | (with_reducible refine' k_ixL ?h ?a ?k; (case h => (iterate 902 fail)); (case a => exact rfl))
  | (with_reducible refine' k_ixT ?h ?a ?k; (case h => (iterate 902 fail)); (case a => exact rfl))
  | (with_reducible refine' k_lenL ?h ?k; (case h => (iterate 902 fail)))
  | (with_reducible refine' k_lenT ?h ?k; (case h => (iterate 902 fail)))
  | (with_reducible refine' k_lenS ?h ?k; (case h => (iterate 905 fail)))
  | (with_reducible refine' k_isi (b := true) ?t ?e ?k; (case t => (iterate 906 fail)); (case e => decide +kernel))
  | (with_reducible refine' k_isi (b := false) ?t ?e ?k; (case t => (iterate 906 fail)); (case e => decide +kernel)))
local macro_rules | `(tactic| iterate 908 fail) => `(tactic| first | with_reducible refine Stp.h ?_ | (iterate 907 fail))
local macro_rules | `(tactic| iterate 909 fail) => `(tactic| ((try dsimp only); repeat (iterate 908 fail)))
local macro_rules | `(tactic| iterate 910 fail) => `(tactic| (simp only [start_cons, start_nil, start_end]; repeat (iterate 908 fail)))

section
variable {P : Program} {w : World} {K : PySem.W.Frag} {mg : Str → Option Value} {base : Heap}
/-- the move of a cell -/
def mvc (n : Int) : Mv := if n % 4 = 0 then (true, true) else if n % 4 = 1 then (false, false) else if n % 4 = 2 then (true, false) else (false, true)
theorem mvc_at (n : Int) : atI [V.str (Str.ofString "ff"), V.str (Str.ofString "bb"), V.str (Str.ofString "fb"), V.str (Str.ofString "bf")] (n % 4) = some (vM (mvc n)) := by
  unfold mvc
  have h : n % 4 = 0 ∨ n % 4 = 1 ∨ n % 4 = 2 ∨ n % 4 = 3 := by omega
  rcases h with h | h | h | h <;> rw [h] <;> decide +kernel
def sp_law (K : PySem.W.Frag) : Sp := fun vs H Q _ => ∃ (a : Addr) (ns : List Int), vs = [.ref a] ∧ SqL K H a (ns.map V.int) ∧ ns.length ≤ 63 ∧ ∀ H', Q (.bl true) H'
abbrev s_law : Stmt := topS 11
theorem sc_law : FnScope ["_law_script", "_law_moves", "_law_handed", "_law_due", "_law_again", "_law_found", "_law_cell", "_law_at", "_law_move"] ["_law_script"] (defScope s_law) := ⟨rfl, rfl, rfl, by decide +kernel, rfl, by decide +kernel, by decide +kernel⟩
theorem ok_law {f : Addr} {fd : FuncData} (F : Fun K "law" "law" s_law f fd) (c_L_back : Cal P w K mg base CX0 1 "_law_back" sp_back) (c_L_thin : Cal P w K mg base CX0 2 "_law_thin" (sp_thinned K)) (c_thinned : Cal P w K mg base CX0 2 "thinned" (sp_thinned K))
    (m_range : mg "range" = none) (m_isinstance : mg "isinstance" = none) (m_list : mg "list" = none) (m_any : mg "any" = none) (m_len : mg "len" = none) :
    FnOk P w K mg base CX0 3 f fd ["_law_script"] (sp_law K) := by
  refine F.ok sc_law (fun vs H Q E h => ?_) (fun cdv A outer s H vs Q E hr h => ?_)
  · obtain ⟨a, ns, rfl, _⟩ := h
    rfl
  have hu := hu_of hr
  have hu64 := hr.units
  obtain ⟨a, ns, rfl, hS, hlen, q⟩ := h
  refine ⟨_, (pss_cons (setLcV (vs := [6]) rfl (ps_setLc (i := 1) (own := [("_law_cell", 6)]) (tt := tYes) rfl sc_law.nd rfl rfl (sw_true rfl rfl rfl (by decide +kernel)) (listIK (K := K) rfl (pi_list (pv 0))) (blkOk_by (N := ["_law_script", "_law_moves", "_law_handed", "_law_due", "_law_again", "_law_found", "_law_cell", "_law_at", "_law_move"]) (sc := defScope s_law) (by decide +kernel)) (fun _ _ _ _ _ => (pg_name (i := 6) sc_law.nd rfl (.inl rfl))) (fun _ _ _ _ _ => pts_nil) (fun _ _ _ _ _ => (pe_ix (ix_seqK (K := K) rfl) (pe_tup (pa_cons pe_str (pa_cons pe_str (pa_cons pe_str (pa_cons pe_str pa_nil))))) (pe_op op_mod (pv 6) pe_int) (fun _ _ => rfl)))))
    (pss_cons (ps_set (i := 2) sc_law.nd rfl (.inl rfl) (pe_callTy (call_list_ofK (K := K) rfl) (by rfl) m_list (by rfl) (pa_cons (pv 1) pa_nil)))
    (pss_cons (ps_set (i := 3) sc_law.nd rfl (.inl rfl) (pe_c0 c_L_thin hr (by decide) (by rfl) (pa_cons (pv 1) pa_nil)))
    (pss_cons (ps_for PassesOwn.never rfl (pi_range1 (by rfl) m_range (pa_cons pe_int pa_nil)) (pg_name (i := 4) sc_law.nd rfl (.inl rfl)) (pss_cons (ps_set (i := 5) sc_law.nd rfl (.inr rfl) (pe_c0 c_thinned hr (by decide) (by rfl) (pa_cons (pv 2) pa_nil)))
    (pss_cons (ps_if ((pw_or (pt_not (pt_val (pe_callB (call_isiK2 (K := K) rfl) (by rfl) m_isinstance (by rfl) (pa_cons (pv 5) (pa_cons (pe_bltn (v := .ty "list") (u := .type "list") (by rfl) m_list (by rfl) rfl) pa_nil))))) (pw_or (pt_cmpR (op_neUK (K := K) rfl hu64) (pv 5) (pv 3) (nomark _)) (pw_or1 (pt_cmpR (op_neUK (K := K) rfl hu64) (pv 2) (pv 1) (nomark _))))).pt) (pss_one (ps_ret pe_bl)) pss_nil)
    (pss_cons (ps_if (pt_val (pe_callB (cr_anyK (K := K) rfl rfl) (by rfl) m_any (by rfl) (pa_cons (lcV (vs := [7]) rfl (pe_lc (own := [("_law_at", 7)]) (tt := tYes) rfl sc_law.nd (pi_range1 (by rfl) m_range (pa_cons (pe_op op_sub (pe_callB (call_lenUK (K := K) rfl) (by rfl) m_len (by rfl) (pa_cons (pv 5) pa_nil)) pe_int) pa_nil)) (blkOk_by (N := ["_law_script", "_law_moves", "_law_handed", "_law_due", "_law_again", "_law_found", "_law_cell", "_law_at", "_law_move"]) (sc := defScope s_law) (by decide +kernel)) (fun _ _ _ _ _ => (pg_name (i := 7) sc_law.nd rfl (.inl rfl))) (fun _ _ _ _ _ => pts_nil) (fun _ _ _ _ _ => (pe_cmpR (op_eqUK (K := K) rfl hu64) (pe_ix (ix_seqK (K := K) rfl) (pv 5) (pe_op (op_addUK (K := K) rfl) (pv 7) pe_int) (fun _ _ => rfl)) (pe_c0 c_L_back hr (by decide) (by rfl) (pa_cons (pe_ix (ix_seqK (K := K) rfl) (pv 5) (pv 7) (fun _ _ => rfl)) pa_nil)) (nomark _))))) pa_nil))) (pss_one (ps_ret pe_bl)) pss_nil)
    (pss_cons (ps_if (pt_cmpR (op_neUK (K := K) rfl hu64) (pe_c0 c_thinned hr (by decide) (by rfl) (pa_cons (pv 5) pa_nil)) (pv 3) (nomark _)) (pss_one (ps_ret pe_bl)) pss_nil)
    (pss_one (ps_expr (bmK (K := K) rfl (pe_bm PySem.F.plainAttrs_list PySem.F.slot_list_append PySem.F.type_list_append mt_append (pv 5) (pa_cons pe_str pa_nil))))))))))
    (pss_one (ps_ret (pe_and (pe_cmpR (op_eqUK (K := K) rfl hu64) (pe_c0 c_thinned hr (by decide) (by rfl) (pa_cons (pe_op (op_addUK (K := K) rfl) (pv 1) (lcV (vs := [8]) rfl (pe_lc (own := [("_law_move", 8)]) (tt := tYes) rfl sc_law.nd (listIK (K := K) rfl (pi_list (revLK (K := K) rfl (pe_revL (pv 1))))) (blkOk_by (N := ["_law_script", "_law_moves", "_law_handed", "_law_due", "_law_again", "_law_found", "_law_cell", "_law_at", "_law_move"]) (sc := defScope s_law) (by decide +kernel)) (fun _ _ _ _ _ => (pg_name (i := 8) sc_law.nd rfl (.inl rfl))) (fun _ _ _ _ _ => pts_nil) (fun _ _ _ _ _ => (pe_c0 c_L_back hr (by decide) (by rfl) (pa_cons (pv 8) pa_nil)))))) pa_nil)) (pe_lst pa_nil) (nomark _)) (pe_one (pe_cmpR (op_eqUK (K := K) rfl hu64) (pe_c0 c_thinned hr (by decide) (by rfl) (pa_cons (pv 3) pa_nil)) (pv 3) (nomark _)))))))))), ?_⟩
  (iterate 910 fail)
  refine m_lcL (xs := ns.map V.int) (F := FV fun n => vM (mvc n)) (fun R k => by (iterate 909 fail); exact k _ _ (Ex.refl _) hS) (by rw [List.length_map]; omega) (fun i x H2 hc e Q k => ?_) (fun p H1 hp e1 h => ?_)
  · obtain ⟨n, _, rfl⟩ := ints_at hc
    (iterate 909 fail)
    refine ⟨by (iterate 904 fail), fun p hp => ?_⟩
    (iterate 909 fail)
    refine k_ixT (SqT.of upd_same) (mvc_at n) ?_
    exact k _ (Ex.new hp)
  have hn : (ns.map mvc).length ≤ 63 := by rw [List.length_map]; exact hlen
  generalize el : ns.map mvc = l at hn
  have h' : H1 p = some (.lst (mvs l)) := by
    rw [h, FV_map, ← el]
    unfold mvs
    rw [List.map_map]
    rfl
  (iterate 909 fail)
  refine ⟨p, _, rfl, .inl (SqL.of h'), fun pH nH => ?_⟩
  (iterate 909 fail)
  refine ⟨p, l, rfl, by (iterate 902 fail), by omega, fun H2 pD e2 nD hD => ?_⟩
  (iterate 909 fail)
  have h2p : H2 p = some (.lst (mvs l)) := e2.use ((Ex.new nH).use h')
  have h2H : H2 pH = some (.lst (mvs l)) := e2.use upd_same
  have hlr : (red l).length ≤ 63 := by have := red_len l; omega
  refine ⟨2, rfl, by decide, by decide, for_range (n := 2) (fun i σ' H' => ∃ x y, σ' = [some (.ref a), some (.ref p), some (.ref pH), some (.ref pD), x, y, none, none, none] ∧ Ex H2 H') ⟨none, none, rfl, Ex.refl _⟩ (fun i σ' H' hi hI => ?_) (fun σ' H' hI => ?_)⟩
  · obtain ⟨x, y, rfl, e⟩ := hI
    (iterate 909 fail)
    refine ⟨pH, l, rfl, by (iterate 902 fail), by omega, fun H3 pF e3 nF hF => ?_⟩
    (iterate 909 fail)
    refine k_neMvs (by (iterate 902 fail)) (by (iterate 902 fail)) ?_
    rw [decide_eq_true rfl]
    (iterate 909 fail)
    refine k_neMvs (by (iterate 902 fail)) (by (iterate 902 fail)) ?_
    rw [decide_eq_true rfl]
    (iterate 909 fail)
    refine m_lcR (n := (red l).length - 1) (F := fun _ => .bl false) (fun R k => by
      (iterate 909 fail)
      refine k _ _ ?_ ?_ ?_ (Ex.refl _)
      · rw [mvs_len]; omega
      · rw [mvs_len]; omega
      · rw [mvs_len]; omega) (by omega) (fun i H4 hi e4 Q k => ?_) (fun p5 H5 hp5 e5 h5 => ?_)
    · have hF4 := e4.use hF
      obtain ⟨u, hu⟩ : ∃ u, (red l)[i]? = some u := ⟨_, List.getElem?_eq_getElem (by omega)⟩
      obtain ⟨v, hv⟩ : ∃ v, (red l)[i + 1]? = some v := ⟨_, List.getElem?_eq_getElem (by omega)⟩
      have hne := rdu_at (red_rdu l) hu hv
      (iterate 909 fail)
      refine k_ixL (SqL.of hF4) (v := vM v) (by rw [show ((i : Int) + 1) = ((i + 1 : Nat) : Int) from rfl]; exact atI_nat (by rw [List.getElem?_map, hv]; rfl)) ?_
      (iterate 909 fail)
      refine k_ixL (SqL.of hF4) (v := vM u) (atI_nat (by rw [List.getElem?_map, hu]; rfl)) ?_
      (iterate 909 fail)
      refine ⟨u, rfl, fun H6 e6 => ?_⟩
      (iterate 909 fail)
      rw [show decide (mt v = mt (inv u)) = false from decide_eq_false fun z => hne (mt_inj.mp z)]
      exact k _ e6
    (iterate 909 fail)
    have h6 : H5 p5 = some (.lst (((List.range ((red l).length - 1)).map fun _ => false).map V.bl)) := by
      rw [h5, List.map_map]
      rfl
    refine k_any (SqL.of h6) ?_
    rw [show ((List.range ((red l).length - 1)).map fun _ => false).any id = false by simp]
    (iterate 909 fail)
    refine ⟨pF, red l, rfl, by (iterate 902 fail), by omega, fun H7 p7 e7 n7 h7 => ?_⟩
    rw [red_red] at h7
    (iterate 909 fail)
    refine k_neMvs (by (iterate 902 fail)) (by (iterate 902 fail)) ?_
    rw [decide_eq_true rfl]
    (iterate 909 fail)
    exact ⟨_, _, rfl, Ex.mut (((e.trans e3).trans e5).trans e7) (e.free nF)⟩
  · obtain ⟨x, y, rfl, e⟩ := hI
    (iterate 909 fail)
    refine m_lcL (xs := mvs l.reverse) (F := FM fun m => vM (inv m)) (fun R k => by
      (iterate 909 fail)
      refine ⟨_, _, rfl, by (iterate 902 fail), fun p np => ?_⟩
      exact k _ _ (Ex.new np) (SqL.of (by rw [upd_same]; unfold mvs; rw [List.map_reverse]))) (by rw [mvs_len, List.length_reverse]; omega) (fun i x H4 hc e4 Q k => ?_) (fun p5 H5 hp5 e5 h5 => ?_)
    · obtain ⟨m, _, rfl⟩ := mvs_at hc
      rw [FM_at] at k
      (iterate 909 fail)
      exact ⟨m, rfl, fun H6 e6 => k _ e6⟩
    rw [FM_map] at h5
    have h6 : H5 p5 = some (.lst (mvs (l.reverse.map inv))) := by
      rw [h5]
      unfold mvs
      rw [List.map_map]
      rfl
    refine k_addL (by (iterate 902 fail)) (SqL.of h6) (by rw [mvs_len, mvs_len, List.length_map, List.length_reverse]; exact line_le (by omega)) fun p7 np7 => ?_
    have h7 : upd H5 p7 (.lst (mvs l ++ mvs (l.reverse.map inv))) p7 = some (.lst (mvs (l ++ l.reverse.map inv))) := by
      rw [upd_same]
      unfold mvs
      rw [← List.map_append]
    (iterate 909 fail)
    refine ⟨p7, _, rfl, SqL.of h7, by rw [List.length_append, List.length_map, List.length_reverse]; omega, fun H8 p8 e8 n8 h8 => ?_⟩
    rw [red_undo] at h8
    (iterate 909 fail)
    refine ⟨by (iterate 904 fail), fun p9 np9 => ?_⟩
    (iterate 909 fail)
    refine k_eqMvs (as := []) (bs := []) (by (iterate 902 fail)) (SqL.of upd_same) ?_
    rw [decide_eq_true rfl]
    (iterate 909 fail)
    refine ⟨pD, red l, rfl, by (iterate 902 fail), by omega, fun H10 p10 e10 n10 h10 => ?_⟩
    rw [red_red] at h10
    (iterate 909 fail)
    refine k_eqMvs (by (iterate 902 fail)) (by (iterate 902 fail)) ?_
    rw [decide_eq_true rfl]
    exact q _
end
end U

namespace U
open PySem PySem.Spec PyProof.Rows L2
/-! ### what the top has written; the law's row -/
theorem all_mk {l : PySem.W.OpenLaw} {w : World} {K : PySem.W.Frag} {h : Heap} {mg : Str → Option Value} {fa f1 f2 f3 f4 f5 f6 aM : Addr} (X : K.In h) (G : h.Ns mainGlobals mg) (hfa : mg "law" = some (.ref fa))
    {od1 an1 : Option Addr} {sl1 : Array (Option Value)} {oc1 kV1 dc1 pm1 cd1 ct1 : Value}
    (a1 : PySem.W.nsIn K mainGlobals "taken_back" = some (some (.ref f1))) (l1 : K.lookup f1 = some ⟨oc1, od1, .func (PySem.W.fnOf "taken_back" "taken_back" (defArgs s_taken_back) (defBody s_taken_back) (defScope s_taken_back) .none kV1 dc1 pm1 an1 cd1 ct1), sl1⟩) (c1 : PySem.W.codeIn K cd1 "taken_back" = true) (k1 : PySem.W.keepIn K (.ref f1) = true)
    {od2 an2 : Option Addr} {sl2 : Array (Option Value)} {oc2 kV2 dc2 pm2 cd2 ct2 : Value}
    (a2 : PySem.W.nsIn K mainGlobals "asked_moves" = some (some (.ref f2))) (l2 : K.lookup f2 = some ⟨oc2, od2, .func (PySem.W.fnOf "asked_moves" "asked_moves" (defArgs s_asked_moves) (defBody s_asked_moves) (defScope s_asked_moves) .none kV2 dc2 pm2 an2 cd2 ct2), sl2⟩) (c2 : PySem.W.codeIn K cd2 "asked_moves" = true) (k2 : PySem.W.keepIn K (.ref f2) = true)
    {od3 an3 : Option Addr} {sl3 : Array (Option Value)} {oc3 kV3 dc3 pm3 cd3 ct3 : Value}
    (a3 : PySem.W.nsIn K mainGlobals "thinned" = some (some (.ref f3))) (l3 : K.lookup f3 = some ⟨oc3, od3, .func (PySem.W.fnOf "thinned" "thinned" (defArgs s_thinned) (defBody s_thinned) (defScope s_thinned) .none kV3 dc3 pm3 an3 cd3 ct3), sl3⟩) (c3 : PySem.W.codeIn K cd3 "thinned" = true) (k3 : PySem.W.keepIn K (.ref f3) = true)
    {od4 an4 : Option Addr} {sl4 : Array (Option Value)} {oc4 kV4 dc4 pm4 cd4 ct4 : Value}
    (a4 : PySem.W.nsIn K mainGlobals "_law_back" = some (some (.ref f4))) (l4 : K.lookup f4 = some ⟨oc4, od4, .func (PySem.W.fnOf "_law_back" "_law_back" (defArgs s_L_back) (defBody s_L_back) (defScope s_L_back) .none kV4 dc4 pm4 an4 cd4 ct4), sl4⟩) (c4 : PySem.W.codeIn K cd4 "_law_back" = true) (k4 : PySem.W.keepIn K (.ref f4) = true)
    {od5 an5 : Option Addr} {sl5 : Array (Option Value)} {oc5 kV5 dc5 pm5 cd5 ct5 : Value}
    (a5 : PySem.W.nsIn K mainGlobals "_law_thin" = some (some (.ref f5))) (l5 : K.lookup f5 = some ⟨oc5, od5, .func (PySem.W.fnOf "_law_thin" "_law_thin" (defArgs s_L_thin) (defBody s_L_thin) (defScope s_L_thin) .none kV5 dc5 pm5 an5 cd5 ct5), sl5⟩) (c5 : PySem.W.codeIn K cd5 "_law_thin" = true) (k5 : PySem.W.keepIn K (.ref f5) = true)
    {od6 an6 : Option Addr} {sl6 : Array (Option Value)} {oc6 kV6 dc6 pm6 cd6 ct6 : Value}
    (a6 : PySem.W.nsIn K mainGlobals "law" = some (some (.ref f6))) (l6 : K.lookup f6 = some ⟨oc6, od6, .func (PySem.W.fnOf "law" "law" (defArgs s_law) (defBody s_law) (defScope s_law) .none kV6 dc6 pm6 an6 cd6 ct6), sl6⟩) (c6 : PySem.W.codeIn K cd6 "law" = true) (k6 : PySem.W.keepIn K (.ref f6) = true)
    (zm_isinstance : PySem.W.nsIn K mainGlobals "isinstance" = some none)
    (zm_list : PySem.W.nsIn K mainGlobals "list" = some none)
    (zm_all : PySem.W.nsIn K mainGlobals "all" = some none)
    (zm_str : PySem.W.nsIn K mainGlobals "str" = some none)
    (zm_range : PySem.W.nsIn K mainGlobals "range" = some none)
    (zm_any : PySem.W.nsIn K mainGlobals "any" = some none)
    (zm_len : PySem.W.nsIn K mainGlobals "len" = some none)
    {dM : Option Addr} {sM : Array (Option Value)} {nM : Nat} {t1 t2 t3 t4 : Tok}
    (aMv : PySem.W.nsIn K mainGlobals "MOVES" = some (some (.ref aM))) (lM : K.lookup aM = some ⟨.type "tuple", dM, .seq #[.str (Str.ofString "ff") t1, .str (Str.ofString "fb") t2, .str (Str.ofString "bf") t3, .str (Str.ofString "bb") t4] nM, sM⟩) :
    ∃ fd : FuncData, (∀ (s : Shared) (v : Value), BindsTo s fd ⟨[v], []⟩ [("_law_script", v)]) ∧ ∀ base : Heap, K.In base → base.Ns mainGlobals mg → FnOk l.prog w K mg base CX0 3 fa fd ["_law_script"] (sp_law K) := by
  have e := hfa.symm.trans (PySem.W.mg_of X G a6)
  cases e
  have F1 := fun_mk (st := s_taken_back) l1 c1 k1
  have F2 := fun_mk (st := s_asked_moves) l2 c2 k2
  have F3 := fun_mk (st := s_thinned) l3 c3 k3
  have F4 := fun_mk (st := s_L_back) l4 c4 k4
  have F5 := fun_mk (st := s_L_thin) l5 c5 k5
  have F6 := fun_mk (st := s_law) l6 c6 k6
  refine ⟨PySem.W.fnOf "law" "law" (defArgs s_law) (defBody s_law) (defScope s_law) .none kV6 dc6 pm6 an6 cd6 ct6, fun s v => .of_eq rfl, fun base _ _ => ?_⟩
  have m_isinstance : mg "isinstance" = none := PySem.W.mg_none_of X G zm_isinstance
  have m_list : mg "list" = none := PySem.W.mg_none_of X G zm_list
  have m_all : mg "all" = none := PySem.W.mg_none_of X G zm_all
  have m_str : mg "str" = none := PySem.W.mg_none_of X G zm_str
  have m_range : mg "range" = none := PySem.W.mg_none_of X G zm_range
  have m_any : mg "any" = none := PySem.W.mg_none_of X G zm_any
  have m_len : mg "len" = none := PySem.W.mg_none_of X G zm_len
  have hM : ∀ H, SqT K H aM vMOVES := sqt_const lM (line_le (by show 4 ≤ _; decide)) (.cons ⟨_, rfl⟩ (.cons ⟨_, rfl⟩ (.cons ⟨_, rfl⟩ (.cons ⟨_, rfl⟩ .nil))))
  have g_MOVES : ∃ u, mg "MOVES" = some u ∧ RelV (.ref aM) u := ⟨_, PySem.W.mg_of X G aMv, rfl⟩
  have b1 := F1.binds (ps := ["move"]) fun _ _ _ _ _ _ us hl => match us, hl with | [_], _ => rfl
  have c_taken_back := cal_mk (x := "taken_back") (ok_taken_back (P := l.prog) (w := w) (mg := mg) (base := base) F1 ) (PySem.W.mg_of X G a1) k1 b1
  have b2 := F2.binds (ps := ["moves"]) fun _ _ _ _ _ _ us hl => match us, hl with | [_], _ => rfl
  have c_asked_moves := cal_mk (x := "asked_moves") (ok_asked_moves0 (P := l.prog) (w := w) (mg := mg) (base := base) F2 m_isinstance m_list m_all m_str g_MOVES hM) (PySem.W.mg_of X G a2) k2 b2
  have b3 := F3.binds (ps := ["moves"]) fun _ _ _ _ _ _ us hl => match us, hl with | [_], _ => rfl
  have c_thinned := cal_mk (x := "thinned") (ok_thinned (P := l.prog) (w := w) (mg := mg) (base := base) F3 c_asked_moves c_taken_back) (PySem.W.mg_of X G a3) k3 b3
  have b4 := F4.binds (ps := ["_law_move"]) fun _ _ _ _ _ _ us hl => match us, hl with | [_], _ => rfl
  have c_L_back := cal_mk (x := "_law_back") (ok_L_back (P := l.prog) (w := w) (mg := mg) (base := base) F4 ) (PySem.W.mg_of X G a4) k4 b4
  have b5 := F5.binds (ps := ["_law_moves"]) fun _ _ _ _ _ _ us hl => match us, hl with | [_], _ => rfl
  have c_L_thin := cal_mk (x := "_law_thin") (ok_L_thin (P := l.prog) (w := w) (mg := mg) (base := base) F5 c_L_back) (PySem.W.mg_of X G a5) k5 b5
  exact ok_law (P := l.prog) (w := w) (mg := mg) (base := base) F6 c_L_back c_L_thin c_thinned m_range m_isinstance m_list m_any m_len
end U
open PySem PySem.W PyProof.Rows
set_option maxHeartbeats 0 in
theorem PySem.Challenge.cw_unison_k03_whole_thinned_holds : PySem.Challenge.rw_unison_k03_whole_thinned.Holds := by
  w_on; o_law; k_head; (case hw => w_witness2)
  k_fill
  refine L2.walk_of (l := PySem.Challenge.rw_unison_k03_whole_thinned) (n := 63) (k := 3) (x := "_law_script") (CX := fun _ => L2.CX0) (sp := fun w => U.sp_law _) rfl (by decide) rfl ⟨rfl, by decide, by decide⟩ (fun w h Y => PySem.W.kIn_of Y) ?F (fun _ _ a ns hl _ hS => ⟨a, ns, rfl, hS, hl, fun _ => rfl⟩) (fun _ _ _ _ _ h => h)
  case F =>
    intro w mg fa h KX G hmg
    refine' U.all_mk KX G hmg ?a1 ?l1 ?c1 ?k1 ?a2 ?l2 ?c2 ?k2 ?a3 ?l3 ?c3 ?k3 ?a4 ?l4 ?c4 ?k4 ?a5 ?l5 ?c5 ?k5 ?a6 ?l6 ?c6 ?k6 ?zm_isinstance ?zm_list ?zm_all ?zm_str ?zm_range ?zm_any ?zm_len ?aMv ?lM
    (case a1 => k_is); (case l1 => k_is); (case c1 => k_is); (case k1 => k_is); (case a2 => k_is); (case l2 => k_is); (case c2 => k_is); (case k2 => k_is); (case a3 => k_is); (case l3 => k_is); (case c3 => k_is); (case k3 => k_is); (case a4 => k_is); (case l4 => k_is); (case c4 => k_is); (case k4 => k_is); (case a5 => k_is); (case l5 => k_is); (case c5 => k_is); (case k5 => k_is); (case a6 => k_is); (case l6 => k_is); (case c6 => k_is); (case k6 => k_is); (case zm_isinstance => k_is); (case zm_list => k_is); (case zm_all => k_is); (case zm_str => k_is); (case zm_range => k_is); (case zm_any => k_is); (case zm_len => k_is); (case aMv => k_is); (case lM => k_is)
