import PyProof.Rows.All
import Wide.All
import OpenK.AllK
import Wide.FinOn
import HandS.ForMost
import HandS.Zip
import HandS.Rev
import HandS.Style
import HandS.Deep
import HandS.StrMore
import HandS.IsInst
import HandS.Codes
import HandS.Conv
import PySem.Challenge.RW_unison_k01_ridges
set_option Elab.async false
set_option linter.all false
set_option maxRecDepth 100000
set_option maxHeartbeats 4000000
set_option Elab.async false
set_option linter.all false
set_option maxRecDepth 100000
set_option maxHeartbeats 4000000
namespace U
open PySem PySem.Spec PyProof.Rows L2

/-! ### heaps that only grow -/
def Ex (H H' : Hp) : Prop := ∀ a o, H a = some o → H' a = some o
theorem Ex.refl (H : Hp) : Ex H H := fun _ _ h => h
theorem Ex.trans {H H1 H2 : Hp} (a : Ex H H1) (b : Ex H1 H2) : Ex H H2 := fun x o h => b x o (a x o h)
theorem Ex.new {H : Hp} {p : Addr} {o : HO} (h : H p = none) : Ex H (upd H p o) := fun a u e => by
  rw [upd_ne (ne_of_none e h)]
  exact e
theorem Ex.mut {H H' : Hp} {p : Addr} {o : HO} (e : Ex H H') (h : H p = none) : Ex H (upd H' p o) := fun a u ha => by
  rw [upd_ne (ne_of_none ha h)]
  exact e a u ha
theorem Ex.mk {H H' : Hp} {p : Addr} {o : HO} (e : Ex H H') (h : H' p = none) : Ex H (upd H' p o) := e.trans (Ex.new h)
theorem Ex.use {H H' : Hp} {a : Addr} {o : HO} (e : Ex H H') (h : H a = some o) : H' a = some o := e a o h
theorem Ex.free {H H' : Hp} {p : Addr} (e : Ex H H') (h : H' p = none) : H p = none := by
  cases h1 : H p with
  | none => rfl
  | some o =>
    rw [e p o h1] at h
    cases h
theorem Ex.sql {K : PySem.W.Frag} {H H' : Hp} {a : Addr} {xs : List V} (e : Ex H H') (h : SqL K H a xs) : SqL K H' a xs := by
  rcases h with (h | ⟨o, h⟩) | h
  · exact .inl (.inl (e _ _ h))
  · exact .inl (.inr ⟨o, e _ _ h⟩)
  · exact .inr h
theorem Ex.sqt {K : PySem.W.Frag} {H H' : Hp} {a : Addr} {xs : List V} (e : Ex H H') (h : SqT K H a xs) : SqT K H' a xs := by
  rcases h with (h | ⟨o, h⟩) | h
  · exact .inl (.inl (e _ _ h))
  · exact .inl (.inr ⟨o, e _ _ h⟩)
  · exact .inr h
theorem upd_nofree {H : Hp} {p q : Addr} {o : HO} (h : upd H p o q = none) : H q = none := by
  by_cases e : q = p
  · subst e
    rw [upd_same] at h
    cases h
  · rwa [upd_ne e] at h
theorem line_le {n : Nat} (h : n ≤ 16777216) : n ≤ sizeLine := by rw [sizeLine_eq]; exact h
theorem line_lt {n : Nat} (h : n < 16777216) : n < sizeLine := by rw [sizeLine_eq]; exact h

/-! ### a look-up in a heap that has grown; a list or a tuple that stands there -/
local macro_rules | `(tactic| walk_at "hp") => `(tactic| first
  | assumption
  | exact upd_same
  | (refine Ex.use (Ex.new (by assumption)) ?_; walk_at "hp")
  | (refine Ex.use (by assumption) ?_; walk_at "hp"))
local macro_rules | `(tactic| walk_at "sq") => `(tactic| first
  | assumption
  | (refine SqL.of ?_; walk_at "hp"; done)
  | (refine SqT.of ?_; walk_at "hp"; done)
  | (refine Ex.sql (Ex.new (by assumption)) ?_; walk_at "sq")
  | (refine Ex.sqt (Ex.new (by assumption)) ?_; walk_at "sq")
  | (refine Ex.sql (by assumption) ?_; walk_at "sq")
  | (refine Ex.sqt (by assumption) ?_; walk_at "sq"))
local macro_rules | `(tactic| walk_at "ex") => `(tactic| first
  | assumption
  | exact Ex.refl _
  | exact Ex.new (by assumption)
  | (refine Ex.mk ?_ (by assumption); walk_at "ex")
  | (refine Ex.trans ?_ (by assumption); walk_at "ex"))
local macro_rules | `(tactic| walk_at "ln") => `(tactic| first
  | (apply line_le; simp only [List.length_cons, List.length_nil, List.length_append, List.length_map, List.length_range]; omega)
  | (apply line_lt; simp only [List.length_cons, List.length_nil, List.length_append, List.length_map, List.length_range]; omega))
section
variable {K : PySem.W.Frag} {H H1 H2 H3 : Hp} {a p q : Addr} {xs : List V} {o : HO}
example (h : H a = some (.lst xs)) (e : Ex H H1) (hp : H1 p = none) : upd H1 p o a = some (.lst xs) := by walk_at "hp"
example (h : H a = some (.lst xs)) (e : Ex H H1) (hp : H1 p = none) (hq : upd H1 p o q = none) : SqL K (upd (upd H1 p o) q o) a xs := by walk_at "sq"
example (h : SqL K H a xs) (e : Ex H H1) (hp : H1 p = none) (hq : upd H1 p o q = none) : SqL K (upd (upd H1 p o) q o) a xs := by walk_at "sq"
example (e : Ex H H1) (hp : H1 p = none) (hq : upd H1 p o q = none) : Ex H (upd (upd H1 p o) q o) := by walk_at "ex"
end
end U

set_option Elab.async false
set_option linter.all false
set_option maxRecDepth 100000
set_option maxHeartbeats 4000000
namespace U
open PySem PySem.Spec PyProof.Rows L2
section
variable {X : Cx}
/-! ### operators of several kinds -/
def rCatS (K : PySem.W.Frag) : R2 := fun x y H Q => ∃ l b xs zs, x = .ref l ∧ y = .ref b ∧ SqL K H l xs ∧ SqL K H b zs ∧ xs.length + zs.length ≤ sizeLine ∧ ∀ p, H p = none → Q (.ref p) (upd H p (.lst (xs ++ zs)))
theorem op_catS : OpR X (binaryOp .Add) (rCatS X.K) := by
  intro pins s σ H x y v u Q I rx ry h
  obtain ⟨l, b, xs, zs, rfl, rfl, hH, hB, hz, q⟩ := h
  cases rx
  cases ry
  obtain ⟨its, r, pl, hl⟩ := I.list hH
  obtain ⟨its2, r2, pl2, hl2⟩ := I.list hB
  obtain ⟨⟨cls, dd, data, sl⟩, n, e, hc, hd, hdat⟩ := pl
  obtain ⟨⟨cls2, dd2, data2, sl2⟩, n2, e2, hc2, hd2, hdat2⟩ := pl2
  simp only at hc hd hdat hc2 hd2 hdat2
  subst hc hd hdat hc2 hd2 hdat2
  have l1 := r.length
  have l2 := r2.length
  have ea : its.toArray ++ its2.toArray = (its ++ its2).toArray := by simp
  refine concat_meets ⟨_, e, rfl⟩ ⟨_, e2, rfl⟩ noFill_list_add seq_list_add PySem.F.slot_list_add PySem.F.entry_list_add (PySem.F.args_list_add_2 _ _) (list_addW l b its.toArray its2.toArray n n2 none none sl sl2 (by rw [List.size_toArray, List.size_toArray]; omega)) ⟨e, e2, ?_⟩
  rw [ea]
  exact ⟨.ref _, _, I.lnew (t' := s.toks) (r.append r2) (by rw [List.length_append]; omega), rfl, q _ I.fresh⟩
def rAddS : R2 := fun x y H Q => ∃ i j, x = .str i ∧ y = .str j ∧ i.length + j.length ≤ sizeLine ∧ Q (.str (i ++ j)) H
/-- x + y: ints, texts, lists -/
def rAddU (K : PySem.W.Frag) : R2 := fun x y H Q => rI0 (fun i j => .int (i + j)) x y H Q ∨ rAddS x y H Q ∨ rCatS K x y H Q
theorem op_addU : OpR X (binaryOp .Add) (rAddU X.K) := (op_add (X := X)).or ((op_add_str (X := X)).or op_catS)
/-- x == y: scalars, data -/
def rEqU (K : PySem.W.Frag) : R2 := fun x y H Q => rEq x y H Q ∨ rEqD K x y H Q
def rNeU (K : PySem.W.Frag) : R2 := fun x y H Q => rNe x y H Q ∨ rNeD K x y H Q
theorem op_eqU (hu : X.A.units + 64 < cLine) : OpR X (compareOp .Eq) (rEqU X.K) := (op_eq (X := X)).or (op_eqD hu)
theorem op_neU (hu : X.A.units + 64 < cLine) : OpR X (compareOp .NotEq) (rNeU X.K) := (op_ne (X := X)).or (op_neD hu)
/-- len of a list, a tuple, a text -/
def rLenU (K : PySem.W.Frag) : List V → Hp → VK → Prop := fun xs H Q => (∃ p ys, xs = [.ref p] ∧ (SqL K H p ys ∨ SqT K H p ys) ∧ Q (.int ys.length) H) ∨ ∃ z, xs = [.str z] ∧ z.length ≤ sizeLine ∧ Q (.int z.length) H
theorem call_lenU : CallR X (.builtin "len") (rLenU X.K) := (call_len_seq (X := X)).or call_len_str

/-- text * int -/
def rMulS : R2 := fun x y H Q => ∃ z n, x = .str z ∧ y = .int n ∧ n < 2 ^ 31 ∧ -(2 ^ 31) < n ∧ z.length * n.toNat ≤ 16777216 ∧ Q (.str ⟨(List.replicate n.toNat z.cps.toList).flatten.toArray⟩) H
theorem fold_rep (a : Array Nat) : ∀ (k : Nat) (acc : Array Nat), (List.replicate k a).foldl (· ++ ·) acc = acc ++ (List.replicate k a.toList).flatten.toArray
  | 0, acc => by simp
  | k + 1, acc => by
    rw [List.replicate_succ, List.foldl_cons, fold_rep a k, List.replicate_succ, List.flatten_cons]
    apply Array.ext'
    simp
theorem mul_txt (z : Str) (n : Int) : Txt.mul z n = ⟨(List.replicate n.toNat z.cps.toList).flatten.toArray⟩ := by
  unfold Txt.mul
  by_cases h1 : n < 1
  · rw [if_pos h1, show n.toNat = 0 by omega]
    rfl
  · rw [if_neg h1]
    by_cases h2 : (n == 1 || z.length == 0) = true
    · rw [if_pos h2]
      rw [Bool.or_eq_true] at h2
      rcases h2 with h2 | h2
      · have e : n = 1 := eq_of_beq h2
        subst e
        obtain ⟨c⟩ := z
        show _ = Str.mk (List.flatten [c.toList]).toArray
        simp
      · have e : z.cps.size = 0 := eq_of_beq h2
        obtain ⟨c⟩ := z
        have e2 : c = #[] := Array.eq_empty_of_size_eq_zero e
        subst e2
        have : ∀ k : Nat, (List.replicate k ([] : List Nat)).flatten = [] := fun k => by induction k with
          | zero => rfl
          | succ k ih => rw [List.replicate_succ, List.flatten_cons, ih]; rfl
        show _ = Str.mk (List.flatten (List.replicate _ [])).toArray
        rw [this]
    · rw [if_neg h2, fold_rep]
      simp
theorem op_mulS : OpR X (binaryOp .Mult) rMulS := by
  intro pins s σ H x y v u Q I rx ry h
  obtain ⟨z, n, rfl, rfl, h1, h2, h3, q⟩ := h
  obtain ⟨t, rfl⟩ := rx
  obtain ⟨t', rfl⟩ := ry
  rw [← mul_txt] at q
  refine SB.mul ⟨?_, fun h4 _ h5 => ?_, fun _ _ => ?_⟩ fun t2 k => ⟨.str _, H, I.tok _, ⟨_, rfl⟩, q⟩
  · rw [decide_eq_false (show ¬ n < -(2 ^ 63 : Int) by omega), decide_eq_false (show ¬ n ≥ (2 ^ 63 : Int) by omega)]
    rfl
  · have hn : 0 < n := by omega
    have hz : (z.length : Int) * n ≤ 16777216 := by
      have e : ((n.toNat : Nat) : Int) = n := Int.toNat_of_nonneg (by omega)
      have q : ((z.length * n.toNat : Nat) : Int) ≤ ((16777216 : Nat) : Int) := Int.ofNat_le.mpr h3
      rw [Int.natCast_mul, e] at q
      omega
    have h7 : (z.length : Int) ≤ (2 ^ 63 - 1) / n := (Int.le_ediv_iff_mul_le hn).mpr (by omega)
    omega
  · unfold PySem.Builtin.Str.tooLong
    refine decide_eq_false ?_
    rw [sizeLine_eq]
    omega
end
end U

set_option Elab.async false
set_option linter.all false
set_option maxRecDepth 100000
set_option maxHeartbeats 4000000
namespace U
open PySem PySem.Spec PyProof.Rows L2
/-! ### text[::-1] -/
theorem rev_idx (n : Nat) : Builtin.Str.strSliceIndices none none (-1) n = (List.range n).map fun k => n - 1 - k := by
  have e : Builtin.Str.strSliceIndices none none (-1) n = sliceRange ((n : Int) - 1) (-1) (-1) := by
    unfold Builtin.Str.strSliceIndices
    rfl
  rw [e, PySem.W.krv_sliceRange]
theorem rev_pick (a : Array Nat) : (Builtin.Str.strSliceIndices none none (-1) a.size).filterMap (a[·]?) = a.toList.reverse := by
  rw [rev_idx, PySem.W.krv_range, List.filterMap_reverse, PySem.W.krv_all]
def tRevS (te : TE) : TE := fun σ H Q => te σ H fun x H1 => ∃ z, x = .str z ∧ z.length ≤ sizeLine ∧ Q (.str ⟨z.cps.toList.reverse.toArray⟩) H1
section
variable {X : Cx}
theorem pe_revS {e : Expr} {te : TE} {k : Nat} {p1 p2 p3 pos : Pos} (he : PE X e te) : PE X (.Subscript e (.Slice none none (some (.UnaryOp .USub (.Constant (.int 1) k p1) p2)) p3) pos) (tRevS te) := by
  refine ⟨fun pins s σ H Q I h => ?_⟩
  refine Subscript_ (thn (he.run pins s σ H _ I h) fun v s1 ⟨x, H1, I1, r1, q1⟩ => ?_)
  obtain ⟨z, ex, hz, q⟩ := q1
  subst ex
  obtain ⟨t, rfl⟩ := r1
  have hst : PO X (some (.UnaryOp .USub (.Constant (.int 1) k p1) p2)) (tPart (tUn (rU fun i => .int (-i)) (tC (.int 1)))) := po_some (pe_un un_neg pe_int)
  refine wpAny_Slice (thn (po_none.run pins s1 σ H1 (fun o H2 => o = none ∧ H2 = H1) I1 ⟨rfl, rfl⟩) fun vl s2 ⟨l, H2, I2, pl, el, e2⟩ => ?_)
  subst el e2
  refine thn (po_none.run pins s2 σ H2 (fun o H3 => o = none ∧ H3 = H2) I2 ⟨rfl, rfl⟩) fun vu s3 ⟨u, H3, I3, pu, eu, e3⟩ => ?_
  subst eu e3
  refine thn (hst.run pins s3 σ H3 (fun o H4 => o = some (-1) ∧ H4 = H3) I3 ⟨1, rfl, -1, rfl, rfl, rfl⟩) fun vs s4 ⟨o, H4, I4, ps, eo, e4⟩ => ?_
  subst eo e4
  have I5 : Inv X pins σ H4 { s4 with heap := s4.heap.push { cls := .type "slice", data := .fields #[vl, vu, vs] } } := I4.kept (t' := s4.toks) fun b ob q => Heap.get?_push_of_some _ q
  obtain ⟨l, rfl, el⟩ := IsPart.raw pl
  obtain ⟨u, rfl, eu⟩ := IsPart.raw pu
  obtain ⟨w, rfl, ew⟩ := IsPart.raw ps
  cases l with
  | some l => cases el
  | none =>
  cases u with
  | some u => cases eu
  | none =>
  cases w with
  | none => cases ew
  | some w =>
  have hw : w.1 = -1 := (Option.some.inj ew)
  obtain ⟨w1, w2⟩ := w
  simp only at hw
  subst hw
  show wpAny (model X.prog X.w) X.A (subscriptTail e (.Slice none none (some (.UnaryOp .USub (.Constant (.int 1) k p1) p2)) p3) (.str z t) (.ref s4.heap.objs.size)) (EP X pins σ Q) X.xe { s4 with heap := s4.heap.push { cls := .type "slice", data := .fields #[.none, .none, .int (-1) w2] } }
  refine tail_any (T := "str") (ops := [.ref s4.heap.objs.size, .str z t]) (typeIs_str _ _ _) F.slot_str_getitem.lookup ?_ (by with_unfolding_all rfl)
  refine wpAny_getItem_str_slice (l := none) (u := none) (st := some (-1, w2)) ⟨_, Heap.get?_push_size _ rfl, rfl, rfl⟩ rfl ?_
  have hl : ((Builtin.Str.strSliceIndices none none (-1) z.length).filterMap (z.cps[·]?)) = z.cps.toList.reverse := rev_pick z.cps
  have hn : (({ cps := ((Builtin.Str.strSliceIndices none none (-1) z.length).filterMap (z.cps[·]?)).toArray } : Str)).length ≤ sizeLine := by
    rw [hl]
    show z.cps.toList.reverse.toArray.size ≤ sizeLine
    rw [List.size_toArray, List.length_reverse]
    exact hz
  show Made.post (if ((-1 : Int) == 1 && (Builtin.Str.strSliceIndices none none (-1) z.length).length == z.length) = true then Made.val (.str z t)
    else Made.str ⟨((Builtin.Str.strSliceIndices none none (-1) z.length).filterMap (z.cps[·]?)).toArray⟩) (EP X pins σ Q) _
  have hc : ((-1 : Int) == 1 && (Builtin.Str.strSliceIndices none none (-1) z.length).length == z.length) = false := rfl
  rw [hc, if_neg Bool.false_ne_true]
  rw [← hl] at q
  exact ⟨hn, .str _, H4, I5.tok _, ⟨_, rfl⟩, q⟩
end
end U

set_option Elab.async false
set_option linter.all false
set_option maxRecDepth 100000
set_option maxHeartbeats 4000000
namespace U
open PySem PySem.Spec PyProof.Rows L2
/-! ### readings, step by step: what must hold ahead of a step -/
section
variable {σ : L2.St} {H : Hp} {Q : VK} {D : Ends} {ta tb tc te : TE} {tr : TA} {g : TG} {t u : TS} {K : PySem.W.Frag}
theorem k_var {i : Nat} {v : V} (h : σ[i]? = some (some v)) (k : Q v H) : tVar i σ H Q := ⟨v, h, k⟩
theorem k_c {v : V} (k : Q v H) : tC v σ H Q := k
theorem k_nil {Q : List V → Hp → Prop} (k : Q [] H) : tNil σ H Q := k
theorem k_cons {Q : List V → Hp → Prop} (k : te σ H fun x H1 => tr σ H1 fun xs H2 => Q (x :: xs) H2) : tCons te tr σ H Q := k
theorem k_op {r : R2} (k : ta σ H fun x H1 => tb σ H1 fun y H2 => r x y H2 Q) : tOp r ta tb σ H Q := k
theorem k_un {r : V → Hp → VK → Prop} (k : ta σ H fun x H1 => r x H1 Q) : tUn r ta σ H Q := k
theorem k_seq (k : t { D with nx := u D } σ H) : tSeq t u D σ H := k
theorem k_asg (k : te σ H fun x H1 => g x σ H1 D.nx) : tAsg te g D σ H := k
theorem k_name {i : Nat} {v : V} {Q : L2.St → Hp → Prop} (k : Q (σ.set i (some v)) H) : gName i v σ H Q := k
theorem k_ret (k : te σ H D.rt) : tRet te D σ H := k
theorem k_retN (k : D.rt .non H) : tRetN D σ H := k
theorem k_drop (k : te σ H fun _ H1 => D.nx σ H1) : tDrop te D σ H := k
theorem k_next (k : D.nx σ H) : tNext D σ H := k
theorem k_nx {n : L2.St → Hp → Prop} {r : VK} {b c : L2.St → Hp → Prop} (k : n σ H) : Ends.nx ⟨n, r, b, c⟩ σ H := k
theorem k_rt {n : L2.St → Hp → Prop} {r : VK} {b c : L2.St → Hp → Prop} {v : V} (k : r v H) : Ends.rt ⟨n, r, b, c⟩ v H := k
theorem k_ifS {c : TT} (k : c σ H fun b H1 => if b = true then t D σ H1 else u D σ H1) : tIfS c t u D σ H := k
theorem k_ifE {c : TT} (k : c σ H fun b H1 => if b = true then ta σ H1 Q else tb σ H1 Q) : tIf c ta tb σ H Q := k
theorem k_test {Q : Bool → Hp → Prop} (k : te σ H fun x H' => ∃ b, x = .bl b ∧ Q b H') : tTest te σ H Q := k
theorem k_B {Q : Bool → Hp → Prop} (k : te σ H fun x H' => ∃ b, x = .bl b ∧ Q b H') : tB te σ H Q := k
theorem k_not {c : TT} {Q : Bool → Hp → Prop} (k : c σ H fun b H1 => Q (!b) H1) : tNot c σ H Q := k
theorem k_or {c d : TT} {Q : Bool → Hp → Prop} (k : c σ H fun b H1 => if b = true then Q true H1 else d σ H1 Q) : tOr c d σ H Q := k
theorem k_and {c d : TT} {Q : Bool → Hp → Prop} (k : c σ H fun b H1 => if b = true then d σ H1 Q else Q false H1) : tAnd c d σ H Q := k
theorem k_notV (k : ta σ H fun x H1 => ∃ c, x = .bl c ∧ Q (.bl (!c)) H1) : tNotV ta σ H Q := k
theorem k_andV (k : ta σ H fun x H1 => ∃ c, x = .bl c ∧ if c = true then tb σ H1 Q else Q (.bl false) H1) : tAndV ta tb σ H Q := k
theorem k_orV (k : ta σ H fun x H1 => ∃ c, x = .bl c ∧ if c = true then Q (.bl true) H1 else tb σ H1 Q) : tOrV ta tb σ H Q := k
theorem k_bl {b : Bool} {G : Bool → Prop} (k : G b) : ∃ c, V.bl b = .bl c ∧ G c := ⟨b, rfl, k⟩
theorem k_call {sp : Sp} {dvs : List V} {E : XK} (k : tr σ H fun vs H1 => sp (vs ++ dvs) H1 Q E) : tCall sp dvs E tr σ H Q := k
theorem k_cb {r : List V → Hp → VK → Prop} (k : tr σ H fun vs H1 => r vs H1 Q) : tCB r tr σ H Q := k
theorem k_tup (k : tr σ H fun xs H1 => xs.length ≤ sizeLine ∧ ∀ p, H1 p = none → Q (.ref p) (upd H1 p (.tup xs))) : tTup tr σ H Q := k
theorem k_lst (k : tr σ H fun xs H1 => xs.length ≤ sizeLine ∧ ∀ p, H1 p = none → Q (.ref p) (upd H1 p (.lst xs))) : tLst tr σ H Q := k
theorem k_sl {r : V → Option Int → Option Int → Hp → VK → Prop} {tl th : TO} (k : te σ H fun x H1 => tl σ H1 fun l H2 => th σ H2 fun u H3 => r x l u H3 Q) : tSl r te tl th σ H Q := k
theorem k_noPart {Q : Option Int → Hp → Prop} (k : Q none H) : tNoPart σ H Q := k
theorem k_part {Q : Option Int → Hp → Prop} (k : te σ H fun x H1 => ∃ i, x = .int i ∧ Q (some i) H1) : tPart te σ H Q := k
theorem k_int {i : Int} {G : Int → Prop} (k : G i) : ∃ j, V.int i = .int j ∧ G j := ⟨i, rfl, k⟩
theorem k_I0 {f : Int → Int → V} {i j : Int} (k : Q (f i j) H) : rI0 f (.int i) (.int j) H Q := ⟨i, j, rfl, rfl, k⟩
theorem k_I {C : Int → Int → Prop} {f : Int → Int → V} {i j : Int} (c : C i j) (k : Q (f i j) H) : rI C f (.int i) (.int j) H Q := ⟨i, j, rfl, rfl, c, k⟩
theorem k_U {f : Int → V} {i : Int} (k : Q (f i) H) : rU f (.int i) H Q := ⟨i, rfl, k⟩
theorem k_addI {i j : Int} (k : Q (.int (i + j)) H) : rAddU K (.int i) (.int j) H Q := .inl ⟨i, j, rfl, rfl, k⟩
theorem k_addS {i j : Str} (hl : i.length + j.length ≤ sizeLine) (k : Q (.str (i ++ j)) H) : rAddU K (.str i) (.str j) H Q := .inr (.inl ⟨i, j, rfl, rfl, hl, k⟩)
theorem k_addL {l b : Addr} {xs zs : List V} (h1 : SqL K H l xs) (h2 : SqL K H b zs) (hl : xs.length + zs.length ≤ sizeLine) (k : ∀ p, H p = none → Q (.ref p) (upd H p (.lst (xs ++ zs)))) : rAddU K (.ref l) (.ref b) H Q := .inr (.inr ⟨l, b, xs, zs, rfl, rfl, h1, h2, hl, k⟩)
theorem k_eqI {i j : Int} (k : Q (.bl (decide (i = j))) H) : rEqU K (.int i) (.int j) H Q := .inl ⟨rfl, by rw [dec_int, Bool.beq_eq_decide_eq]; exact k⟩
theorem k_neI {i j : Int} (k : Q (.bl (!decide (i = j))) H) : rNeU K (.int i) (.int j) H Q := .inl ⟨rfl, by rw [dec_int, Bool.beq_eq_decide_eq]; exact k⟩
theorem k_eqS {i j : Str} (k : Q (.bl (decide (i = j))) H) : rEqU K (.str i) (.str j) H Q := .inl ⟨rfl, by rw [dec_str, Bool.beq_eq_decide_eq]; exact k⟩
theorem k_neS {i j : Str} (k : Q (.bl (!decide (i = j))) H) : rNeU K (.str i) (.str j) H Q := .inl ⟨rfl, by rw [dec_str, Bool.beq_eq_decide_eq]; exact k⟩
theorem k_eqB {i j : Bool} (k : Q (.bl (decide (i = j))) H) : rEqU K (.bl i) (.bl j) H Q := .inl ⟨rfl, by rw [dec_bl, Bool.beq_eq_decide_eq]; exact k⟩
theorem k_neB {i j : Bool} (k : Q (.bl (!decide (i = j))) H) : rNeU K (.bl i) (.bl j) H Q := .inl ⟨rfl, by rw [dec_bl, Bool.beq_eq_decide_eq]; exact k⟩
theorem k_eqD {x y : V} {d e : PyData} (h1 : Dp K H x d) (h2 : Dp K H y e) (s1 : SeqAt.shaped d = true) (s2 : SeqAt.shaped e = true) (k : Q (.bl (PyData.eqv d e)) H) : rEqU K x y H Q := .inr ⟨d, e, h1, h2, s1, s2, k⟩
theorem k_neD {x y : V} {d e : PyData} (h1 : Dp K H x d) (h2 : Dp K H y e) (s1 : SeqAt.shaped d = true) (s2 : SeqAt.shaped e = true) (k : Q (.bl (!PyData.eqv d e)) H) : rNeU K x y H Q := .inr ⟨d, e, h1, h2, s1, s2, k⟩
theorem k_ixL {p : Addr} {xs : List V} {i : Int} {v : V} (h : SqL K H p xs) (ha : atI xs i = some v) (k : Q v H) : rIx K (.ref p) (.int i) H Q := .inl ⟨p, xs, i, v, rfl, rfl, h, ha, k⟩
theorem k_ixT {p : Addr} {xs : List V} {i : Int} {v : V} (h : SqT K H p xs) (ha : atI xs i = some v) (k : Q v H) : rIx K (.ref p) (.int i) H Q := .inr (.inl ⟨p, xs, i, v, rfl, rfl, h, ha, k⟩)
theorem k_ixS {z : Str} {i : Int} {c : Nat} (hz : z.length ≤ sizeLine) (ha : atI z.cps.toList i = some c) (k : Q (.str ⟨#[c]⟩) H) : rIx K (.str z) (.int i) H Q := .inr (.inr ⟨z, i, c, rfl, rfl, hz, ha, k⟩)
theorem k_lenL {p : Addr} {ys : List V} (h : SqL K H p ys) (k : Q (.int ys.length) H) : rLenU K [.ref p] H Q := .inl ⟨p, ys, rfl, .inl h, k⟩
theorem k_lenT {p : Addr} {ys : List V} (h : SqT K H p ys) (k : Q (.int ys.length) H) : rLenU K [.ref p] H Q := .inl ⟨p, ys, rfl, .inr h, k⟩
theorem k_lenS {z : Str} (hz : z.length ≤ sizeLine) (k : Q (.int z.length) H) : rLenU K [.str z] H Q := .inr ⟨z, rfl, hz, k⟩
/-- xs.append(e), the list's name evaluated to .ref l -/
theorem k_bm {T : String} {r : V → List V → Hp → VK → Prop} {to : TE} (k : to σ H fun x H1 => tyV K T x H1 ∧ tr σ H1 fun xs H2 => r x xs H2 Q) : tBM K T r to tr σ H Q := k
theorem k_bm0 {T : String} {r : V → List V → Hp → VK → Prop} {to : TE} (k : to σ H fun x H1 => tyV K T x H1 ∧ r x [] H1 Q) : tBM0 K T r to σ H Q := k
theorem k_tyL {l : Addr} {xs : List V} {P : Prop} (h : H l = some (.lst xs)) (k : P) : tyV K "list" (.ref l) H ∧ P := ⟨.inl ⟨rfl, _, SqL.of h⟩, k⟩
theorem k_app {l : Addr} {xs : List V} {y : V} (h : H l = some (.lst xs)) (hz : xs.length < sizeLine) (k : Q .non (upd H l (.lst (xs ++ [y])))) : rAppend (.ref l) [y] H Q := ⟨l, xs, y, rfl, rfl, h, hz, k⟩
theorem k_gTup {n : Nat} {tg : TGs} {p : Addr} {xs : List V} {Q : L2.St → Hp → Prop} (h : SqT K H p xs) (hn : xs.length = n) (k : tg xs σ H Q) : gTup K n tg (.ref p) σ H Q := ⟨p, xs, rfl, h, hn, k⟩
theorem k_gCons {tg : TG} {u : TGs} {v : V} {r : List V} {Q : L2.St → Hp → Prop} (k : tg v σ H fun σ' H' => u r σ' H' Q) : gCons tg u (v :: r) σ H Q := ⟨v, r, rfl, k⟩
theorem k_gNil {Q : L2.St → Hp → Prop} (k : Q σ H) : gNil [] σ H Q := ⟨rfl, k⟩
theorem k_par {i j : Nat} {ta : TA} (k : ta σ H fun vs H1 => ∃ v w, vs = [v, w] ∧ D.nx ((σ.set i (some v)).set j (some w)) H1) : tPar i j ta D σ H := k
theorem k_vs2 {v w : V} {G : V → V → Prop} (k : G v w) : ∃ a b, [v, w] = [a, b] ∧ G a b := ⟨v, w, rfl, k⟩
theorem k_chain {r r' : R2} (k : ta σ H fun x H1 => tb σ H1 fun y H2 => r x y H2 fun z H3 => ∃ k, z = .bl k ∧ (if k = true then tc σ H3 fun w' H4 => r' y w' H4 Q else Q (.bl false) H3)) : tChain r r' ta tb tc σ H Q := k
theorem k_for {wi : TI} {g : TG} {tb : TS} (k : wi σ H fun J H1 => ∃ W : Nat → Nat → L2.St → Hp → Prop, (∃ m, W 0 m σ H1) ∧ ∀ i m σ H, W i m σ H → (J.stop i H ∧ D.nx σ H) ∨ (J.go i H ∧ ∃ N : L2.St → Hp → Prop, (∀ σ' H', N σ' H' → ∃ m', m' < m ∧ W (i + 1) m' σ' H') ∧
    ∀ x H', J.yld i H x H' → g x σ H' fun σ2 H2 => tb { D with nx := N, ct := N, bk := D.nx } σ2 H2)) : tFor wi g tb D σ H := k
theorem k_iStr {R : It → Hp → Prop} (k : te σ H fun v H1 => ∃ x, v = .str x ∧ R (Its x) H1) : iStr te σ H R := k
theorem k_iList {R : It → Hp → Prop} (k : te σ H fun x H1 => ∃ a, x = .ref a ∧ (∃ xs, SqL K H1 a xs) ∧ R (Itl K a) H1) : iList K te σ H R := k
theorem k_iTup {R : It → Hp → Prop} (k : te σ H fun x H1 => ∃ a, x = .ref a ∧ (∃ xs, SqT K H1 a xs) ∧ R (Itt K a) H1) : iTup K te σ H R := k
theorem k_iRng1 {R : It → Hp → Prop} (k : tr σ H fun vs H1 => ∃ j : Int, vs = [.int j] ∧ -(2 ^ 62) ≤ j ∧ j < 2 ^ 62 ∧ R (Itr 0 j.toNat) H1) : iRng1 tr σ H R := k
theorem k_lc {wi : TI} {g : TG} {tt : TT} {vs : List Nat} (k : wi σ H fun J H1 => ∀ D, H1 D = none → ∃ W : Nat → Nat → Hp → Prop, (∃ m, W 0 m (upd H1 D (.lst []))) ∧ ∀ i m H, W i m H →
    (J.stop i H ∧ Q (.ref D) H) ∨ (J.go i H ∧ ∃ Nx : Hp → Prop, (∀ H', Nx H' → ∃ m', m' < m ∧ W (i + 1) m' H') ∧ ∀ x H', J.yld i H x H' → g x (wipe σ vs) H' fun σ2 H2 => wipe σ2 vs = wipe σ vs ∧ tt σ2 H2 fun b H3 =>
      if b = true then te σ2 H3 fun y H4 => ∃ acc, H4 D = some (.lst acc) ∧ acc.length < sizeLine ∧ Nx (upd H4 D (.lst (acc ++ [y]))) else Nx H3)) : tLc wi g tt te vs σ H Q := k
theorem k_M1 {r : V → List V → Hp → VK → Prop} {to : TE} (k : to σ H fun x H1 => (∃ a, x = .str a) ∧ te σ H1 fun y H2 => r x [y] H2 Q) : tM1 r to te σ H Q := k
theorem k_isStr {s : Str} {P : Prop} (k : P) : (∃ a, V.str s = .str a) ∧ P := ⟨⟨s, rfl⟩, k⟩
theorem k_rev {R : It → Hp → Prop} (k : te σ H fun v H1 => ∃ (a : Addr) (xs : List V), v = .ref a ∧ ((SqL K H1 a xs ∧ R (Itv K a xs.length) H1) ∨ (SqT K H1 a xs ∧ R (RT.ItvT K a xs.length) H1))) : RT.iRevA K te σ H R := k
theorem k_revS (k : te σ H fun x H1 => ∃ z, x = .str z ∧ z.length ≤ sizeLine ∧ Q (.str ⟨z.cps.toList.reverse.toArray⟩) H1) : tRevS te σ H Q := k
theorem k_revL (k : te σ H fun x H1 => ∃ a xs, x = .ref a ∧ SqL K H1 a xs ∧ ∀ p, H1 p = none → Q (.ref p) (upd H1 p (.lst xs.reverse))) : tRevL K te σ H Q := k
theorem k_isN {v : V} {Q' : VK} (k : Q' (.bl (decide (v = .non))) H) : (fun x y H Q => y = V.non ∧ Q (.bl (decide (x = .non))) H : R2) v .non H Q' := ⟨rfl, k⟩
end
/-- a test that decides -/
theorem k_if {P A B : Prop} [Decidable P] (h1 : P → A) (h2 : ¬ P → B) : if decide P = true then A else B := by
  by_cases h : P
  · rw [decide_eq_true h, if_pos rfl]
    exact h1 h
  · rw [decide_eq_false h, if_neg Bool.false_ne_true]
    exact h2 h
theorem k_ifn {P A B : Prop} [Decidable P] (h1 : ¬ P → A) (h2 : P → B) : if (!decide P) = true then A else B := by
  by_cases h : P
  · rw [decide_eq_true h]
    exact h2 h
  · rw [decide_eq_false h]
    exact h1 h
theorem k_iT {A B : Prop} (h : A) : if true = true then A else B := by rw [if_pos rfl]; exact h
theorem k_iF {A B : Prop} (h : B) : if false = true then A else B := by rw [if_neg Bool.false_ne_true]; exact h
theorem k_ib {b c : Bool} {A B : Prop} (e : b = c) (h : if c = true then A else B) : if b = true then A else B := by rw [e]; exact h

theorem k_ntT {A B : Prop} (h : B) : if (!true) = true then A else B := by rw [show (!true) = false from rfl, if_neg Bool.false_ne_true]; exact h
theorem k_ntF {A B : Prop} (h : A) : if (!false) = true then A else B := by rw [show (!false) = true from rfl, if_pos rfl]; exact h
theorem k_tyS {K : PySem.W.Frag} {H : Hp} {z : Str} {P : Prop} (k : P) : tyV K "str" (.str z) H ∧ P := ⟨rfl, k⟩
theorem k_strip {H : Hp} {Q : VK} {a b : Str} (hz : a.length ≤ sizeLine) (k : Q (.str (Txt.stripChars a b)) H) : ∃ a' b', V.str a = V.str a' ∧ [V.str b] = [V.str b'] ∧ a'.length ≤ sizeLine ∧ Q (V.str (Txt.stripChars a' b')) H := ⟨a, b, rfl, rfl, hz, k⟩
theorem k_isi {K : PySem.W.Frag} {H : Hp} {Q : VK} {x : V} {n t : String} {b : Bool} (ty : TyX K H x (.type t)) (e : kitB t n = some b) (k : Q (.bl b) H) : rIsi K [x, .ty n] H Q := ⟨x, .ty n, .type t, .type n, b, rfl, .ty n, ty, kit_ty e, k⟩
theorem k_join {K : PySem.W.Frag} {H : Hp} {Q : VK} {a : Str} {p : Addr} {ls : List Nat} (h : SqL K H p ((ls.map fun c => (⟨#[c]⟩ : Str)).map V.str)) (hz : ls.length + ls.length * a.length ≤ 16777216) (k : Q (.str (Txt.join a (ls.map fun c => (⟨#[c]⟩ : Str)))) H) :
    ∃ a' p', ∃ ys : List Str, V.str a = V.str a' ∧ [V.ref p] = [V.ref p'] ∧ (SqL K H p' (ys.map V.str) ∨ SqT K H p' (ys.map V.str)) ∧ (ys.map (·.length)).sum + ys.length * a'.length ≤ 16777216 ∧ Q (.str (Txt.join a' ys)) H := by
  refine ⟨a, p, _, rfl, rfl, .inl h, ?_, k⟩
  rw [List.map_map, List.length_map]
  have e : (ls.map ((fun x : Str => x.length) ∘ fun c => (⟨#[c]⟩ : Str))).sum = ls.length := by
    clear h k hz
    induction ls with
    | nil => rfl
    | cons c r ih => rw [List.map_cons, List.sum_cons, ih, List.length_cons]; show 1 + r.length = _; omega
  rw [e]
  exact hz
/-! ### the context's written part -/
theorem cxK {CX : CXT} {P : Program} {w : World} {K : PySem.W.Frag} {mg : Str → Option Value} {base : Heap} {N : List Str} {qual : Str} {scope : Scope} {f : Addr} {cd : Value} {A : Around} {outer : List Env} {s : Shared} {H : Hp} {E : XK} :
    (cxOf CX P w K mg base N qual scope f cd A outer s H E).K = K := rfl
theorem cxKn {CX : CXT} {P : Program} {w : World} {K : PySem.W.Frag} {mg : Str → Option Value} {base : Heap} {N : List Str} {qual : Str} {scope : Scope} {f : Addr} {cd : Value} {A : Around} {outer : List Env} {s : Shared} {H : Hp} {E : XK} :
    (cxOf CX P w K mg base N qual scope f cd A outer s H E).nox.K = K := rfl
/-! ### a def that may be called by its name -/
structure Cal (P : Program) (w : World) (K : PySem.W.Frag) (mg : Str → Option Value) (base : Heap) (CX : CXT) (k : Nat) (x : Str) (sp : Sp) : Prop where
  ex : ∃ (f : Addr) (fd : FuncData) (ps : List Str), FnOk P w K mg base CX k f fd ps sp ∧ mg x = some (.ref f) ∧ PySem.W.keepIn K (.ref f) = true ∧ Binds K fd ps []
theorem cal_mk {P : Program} {w : World} {K : PySem.W.Frag} {mg : Str → Option Value} {base : Heap} {CX : CXT} {k : Nat} {x : Str} {sp : Sp} {f : Addr} {fd : FuncData} {ps : List Str} (F : FnOk P w K mg base CX k f fd ps sp) (hm : mg x = some (.ref f)) (hk : PySem.W.keepIn K (.ref f) = true) (hb : Binds K fd ps []) : Cal P w K mg base CX k x sp := ⟨f, fd, ps, F, hm, hk, hb⟩
section
variable {X : Cx} {k j : Nat} {C : Addr} {x m : Str} {sp : Sp} {dvs : List V} {p pos apos : Pos} {e o : Expr} {es : List Expr} {ta : TE} {t : TA} {CX : CXT}
theorem pe_c0 (c : Cal X.prog X.w X.K X.mg X.base CX0 k x sp) (hr : Room j X.A) (hk : k ≤ j) (hg : Gl X x) (ha : PA X (e :: es) t)
    (hdb : (x == ("__debug__" : Str)) = false := by decide) (he : starEach (e :: es) X.env = (false, eval e X.env) :: starEach es X.env := by rfl) (hpl : (backTo pos (starEach es X.env)).any (·.1) = false := by rfl) :
    PE X (.Call (.Name x p) (e :: es) [] pos) (tCall sp [] E0 t) := by
  obtain ⟨f, fd, ps, F, hm, kp, b⟩ := c.ex
  exact pe_call F (hr.mono hk) hg hm kp b .nil pass0 ha hdb he hpl
/-- a module's name, by its value -/
theorem pe_gv {v : V} (hg : Gl X x) (h : ∃ u, X.mg x = some u ∧ RelV v u) (hd : (x == ("__debug__" : Str)) = false := by decide) : PE X (.Name x pos) (tC v) := by
  obtain ⟨u, hm, r⟩ := h
  exact pe_glob hg hm r hd
end

/-! ### the rules with the written part said apart (a comprehension's block has it in another form) -/
section
variable {X : Cx} {K : PySem.W.Frag} {e : Expr} {te to : TE} {t : TA} {r : V → List V → Hp → VK → Prop} {T : String} {tg l : Expr} {st : Stmt}
theorem ix_seqK (q : X.K = K) : IxR X (rIx K) := q ▸ ix_seq
theorem op_addUK (q : X.K = K) : OpR X (binaryOp .Add) (rAddU K) := q ▸ op_addU
theorem op_eqUK (q : X.K = K) (hu : X.A.units + 64 < cLine) : OpR X (compareOp .Eq) (rEqU K) := q ▸ op_eqU hu
theorem op_neUK (q : X.K = K) (hu : X.A.units + 64 < cLine) : OpR X (compareOp .NotEq) (rNeU K) := q ▸ op_neU hu
theorem op_inK (q : X.K = K) : OpR X (compareOp .In) (rIn K false) := q ▸ op_in_seq
theorem op_notInK (q : X.K = K) : OpR X (compareOp .NotIn) (rIn K true) := q ▸ op_notIn_seq
theorem op_inDK (q : X.K = K) (hu : X.A.units + 65 < cLine) : OpR X (compareOp .In) (rInD K) := q ▸ op_inD hu
theorem op_notInDK (q : X.K = K) (hu : X.A.units + 65 < cLine) : OpR X (compareOp .NotIn) (rNotInD K) := q ▸ op_notInD hu
theorem call_lenUK (q : X.K = K) : CallR X (.builtin "len") (rLenU K) := q ▸ call_lenU
theorem call_isiK2 (q : X.K = K) : CallR X (.builtin "isinstance") (rIsi K) := q ▸ call_isi
theorem cr_sumK (q : X.K = K) (hc : X.calm = true) : CallR X (.builtin "sum") (rSum K) := q ▸ cr_sum hc
theorem cr_minK2 (q : X.K = K) (hc : X.calm = true) : CallR X (.builtin "min") (rMin K) := q ▸ cr_min hc
theorem cr_maxK (q : X.K = K) (hc : X.calm = true) : CallR X (.builtin "max") (rMax K) := q ▸ cr_max hc
theorem cr_anyK (q : X.K = K) (hc : X.calm = true) : CallR X (.builtin "any") (rAny K) := q ▸ cr_any hc
theorem cr_allK (q : X.K = K) (hc : X.calm = true) : CallR X (.builtin "all") (rAll K) := q ▸ cr_all hc
def rListOf (K : PySem.W.Frag) : List V → Hp → VK → Prop := fun xs H Q => ∃ p ys, xs = [.ref p] ∧ (SqL K H p ys ∨ SqT K H p ys) ∧ ∀ l, H l = none → Q (.ref l) (upd H l (.lst ys))
theorem call_list_ofK (q : X.K = K) : CallR X (.type "list") (rListOf K) := q ▸ call_list_of
theorem sl_listK (q : X.K = K) : SlR X (rSlL K) := q ▸ sl_list
theorem mt_indexK (q : X.K = K) : MtR X "list.index" (rIndex K) := q ▸ mt_index
theorem bmK (q : X.K = K) (h : PE X e (tBM X.K T r to t)) : PE X e (tBM K T r to t) := q ▸ h
theorem bm0K (q : X.K = K) (h : PE X e (tBM0 X.K T r to)) : PE X e (tBM0 K T r to) := q ▸ h
theorem revLK (q : X.K = K) (h : PE X e (tRevL X.K te)) : PE X e (tRevL K te) := q ▸ h
theorem fldK {f : Str} (q : X.K = K) (h : PE X e (tFld X.K te f)) : PE X e (tFld K te f) := q ▸ h
def rJoin (K : PySem.W.Frag) : V → List V → Hp → VK → Prop := fun x xs H Q => ∃ a p, ∃ ys : List Str, x = .str a ∧ xs = [.ref p] ∧ (SqL K H p (ys.map V.str) ∨ SqT K H p (ys.map V.str)) ∧ (ys.map (·.length)).sum + ys.length * a.length ≤ 16777216 ∧ Q (.str (Txt.join a ys)) H
theorem joinK (q : X.K = K) (h : PE X e (tM1 (rJoin X.K) to te)) : PE X e (tM1 (rJoin K) to te) := q ▸ h
theorem listIK (q : X.K = K) (h : PI X tg l (iList X.K te)) : PI X tg l (iList K te) := q ▸ h
theorem tupIK (q : X.K = K) (h : PI X tg l (iTup X.K te)) : PI X tg l (iTup K te) := q ▸ h
theorem revIK (q : X.K = K) (h : PI X tg l (RT.iRevA X.K te)) : PI X tg l (RT.iRevA K te) := q ▸ h
theorem zipIK (q : X.K = K) (h : PI X tg l (iZip X.K t)) : PI X tg l (iZip K t) := q ▸ h
theorem tupGK {n : Nat} {u : TGs} (q : X.K = K) (h : PG X e (gTup X.K n u)) : PG X e (gTup K n u) := q ▸ h
theorem fldSK {f : Str} {tv : TE} (q : X.K = K) (h : PS X st (sFld X.K te tv f)) : PS X st (sFld K te tv f) := q ▸ h
end
/-! ### loops over a text -/
theorem for_str {z : Str} {g : TG} {tb : TS} {D : Ends} {σ : L2.St} {H : Hp} (Pv : Nat → L2.St → Hp → Prop) (h0 : Pv 0 σ H)
    (hs : ∀ i c σ H, z.cps.toList[i]? = some c → Pv i σ H → g (.str ⟨#[c]⟩) σ H fun σ2 H2 => tb { D with nx := Pv (i + 1), ct := Pv (i + 1), bk := D.nx } σ2 H2) (hd : ∀ σ H, Pv z.cps.toList.length σ H → D.nx σ H) :
    ∃ W : Nat → Nat → L2.St → Hp → Prop, (∃ m, W 0 m σ H) ∧ ∀ i m σ H, W i m σ H → ((Its z).stop i H ∧ D.nx σ H) ∨ ((Its z).go i H ∧ ∃ N : L2.St → Hp → Prop, (∀ σ' H', N σ' H' → ∃ m', m' < m ∧ W (i + 1) m' σ' H') ∧
      ∀ x H', (Its z).yld i H x H' → g x σ H' fun σ2 H2 => tb { D with nx := N, ct := N, bk := D.nx } σ2 H2) := by
  refine ⟨fun i m σ H => m = z.cps.size - i ∧ i ≤ z.cps.size ∧ Pv i σ H, ⟨z.cps.size, by simp, Nat.zero_le _, h0⟩, ?_⟩
  rintro i m σ H ⟨rfl, hi, p⟩
  by_cases hlt : i < z.cps.size
  · refine .inr ⟨hlt, Pv (i + 1), fun σ' H' p' => ⟨z.cps.size - (i + 1), by omega, rfl, hlt, p'⟩, fun x H' y => ?_⟩
    obtain ⟨e, c, hc, ex⟩ := y
    subst e ex
    exact hs i c σ _ (by rw [Array.getElem?_toList]; exact hc) p
  · have e : i = z.cps.size := by omega
    subst e
    exact .inl ⟨Nat.le_refl _, hd σ H (by rw [Array.length_toList]; exact p)⟩
theorem lc_str {z : Str} {g : TG} {tt : TT} {te : TE} {vs : List Nat} {σ : L2.St} {H1 : Hp} {D : Addr} {Qd : Hp → Prop} (Pv : Nat → Hp → Prop) (h0 : Pv 0 (upd H1 D (.lst [])))
    (hs : ∀ i c H, z.cps.toList[i]? = some c → Pv i H → g (.str ⟨#[c]⟩) (wipe σ vs) H fun σ2 H2 => wipe σ2 vs = wipe σ vs ∧ tt σ2 H2 fun b H3 =>
      if b = true then te σ2 H3 fun y H4 => ∃ acc, H4 D = some (.lst acc) ∧ acc.length < sizeLine ∧ Pv (i + 1) (upd H4 D (.lst (acc ++ [y]))) else Pv (i + 1) H3) (hd : ∀ H, Pv z.cps.toList.length H → Qd H) :
    ∃ W : Nat → Nat → Hp → Prop, (∃ m, W 0 m (upd H1 D (.lst []))) ∧ ∀ i m H, W i m H →
      ((Its z).stop i H ∧ Qd H) ∨ ((Its z).go i H ∧ ∃ Nx : Hp → Prop, (∀ H', Nx H' → ∃ m', m' < m ∧ W (i + 1) m' H') ∧ ∀ x H', (Its z).yld i H x H' → g x (wipe σ vs) H' fun σ2 H2 => wipe σ2 vs = wipe σ vs ∧ tt σ2 H2 fun b H3 =>
        if b = true then te σ2 H3 fun y H4 => ∃ acc, H4 D = some (.lst acc) ∧ acc.length < sizeLine ∧ Nx (upd H4 D (.lst (acc ++ [y]))) else Nx H3) := by
  refine ⟨fun i m H => m = z.cps.size - i ∧ i ≤ z.cps.size ∧ Pv i H, ⟨z.cps.size, by simp, Nat.zero_le _, h0⟩, ?_⟩
  rintro i m H ⟨rfl, hi, p⟩
  by_cases hlt : i < z.cps.size
  · refine .inr ⟨hlt, Pv (i + 1), fun H' p' => ⟨z.cps.size - (i + 1), by omega, rfl, hlt, p'⟩, fun x H' y => ?_⟩
    obtain ⟨e, c, hc, ex⟩ := y
    subst e ex
    exact hs i c _ (by rw [Array.getElem?_toList]; exact hc) p
  · have e : i = z.cps.size := by omega
    subst e
    exact .inl ⟨Nat.le_refl _, hd H (by rw [Array.length_toList]; exact p)⟩

/-! ### comprehensions: [e for c in text], [e for x in list], each element a value -/
abbrev T (l : List Nat) : Str := ⟨l.toArray⟩
theorem lcS_map {l : List Nat} {F : Nat → V} {j : Nat} {te : TE} {vs : List Nat} {σ : L2.St} {H1 : Hp} {Q : VK} (hw : ∀ x, wipe ((wipe σ vs).set j (some x)) vs = wipe σ vs) (hz : l.length < 16777216)
    (he : ∀ (i c : Nat) H2, l[i]? = some c → Ex H1 H2 → ∀ Q : VK, (∀ H3, Ex H2 H3 → Q (F c) H3) → te ((wipe σ vs).set j (some (.str (T [c])))) H2 Q)
    (k : ∀ p H2, H1 p = none → Ex H1 H2 → H2 p = some (.lst (l.map F)) → Q (.ref p) H2) :
    ∀ D, H1 D = none → ∃ W : Nat → Nat → Hp → Prop, (∃ m, W 0 m (upd H1 D (.lst []))) ∧ ∀ i m H, W i m H →
      ((Its (T l)).stop i H ∧ Q (.ref D) H) ∨ ((Its (T l)).go i H ∧ ∃ Nx : Hp → Prop, (∀ H', Nx H' → ∃ m', m' < m ∧ W (i + 1) m' H') ∧ ∀ x H', (Its (T l)).yld i H x H' → gName j x (wipe σ vs) H' fun σ2 H2 => wipe σ2 vs = wipe σ vs ∧ tYes σ2 H2 fun b H3 =>
        if b = true then te σ2 H3 fun y H4 => ∃ acc, H4 D = some (.lst acc) ∧ acc.length < sizeLine ∧ Nx (upd H4 D (.lst (acc ++ [y]))) else Nx H3) := fun D hD => by
  refine lc_str (z := T l) (fun i H => Ex H1 H ∧ H D = some (.lst ((l.take i).map F))) ⟨Ex.new hD, upd_same⟩ (fun i c H hc p => ⟨hw _, ?_⟩) (fun H p => ?_)
  · show te ((wipe σ vs).set j (some (.str (T [c])))) H _
    refine he i c H hc p.1 _ fun H3 e => ?_
    refine ⟨_, e _ _ p.2, ?_, Ex.mut (p.1.trans e) hD, ?_⟩
    · rw [List.length_map]
      rw [List.length_take]
      exact line_lt (by omega)
    · rw [upd_same, List.take_add_one, show l[i]? = some c from hc, List.map_append]
      rfl
  · obtain ⟨e, h⟩ := p
    have h' : H D = some (.lst ((l.take l.length).map F)) := h
    rw [List.take_length] at h'
    exact k D H hD e h'
theorem lcL_map {K : PySem.W.Frag} {a : Addr} {xs : List V} {F : V → V} {j : Nat} {te : TE} {vs : List Nat} {σ : L2.St} {H1 : Hp} {Q : VK} (hx : SqL K H1 a xs) (hw : ∀ x, wipe ((wipe σ vs).set j (some x)) vs = wipe σ vs) (hz : xs.length < 16777216)
    (he : ∀ (i : Nat) (x : V) H2, xs[i]? = some x → Ex H1 H2 → ∀ Q : VK, (∀ H3, Ex H2 H3 → Q (F x) H3) → te ((wipe σ vs).set j (some x)) H2 Q)
    (k : ∀ p H2, H1 p = none → Ex H1 H2 → H2 p = some (.lst (xs.map F)) → Q (.ref p) H2) :
    ∀ D, H1 D = none → ∃ W : Nat → Nat → Hp → Prop, (∃ m, W 0 m (upd H1 D (.lst []))) ∧ ∀ i m H, W i m H →
      ((Itl K a).stop i H ∧ Q (.ref D) H) ∨ ((Itl K a).go i H ∧ ∃ Nx : Hp → Prop, (∀ H', Nx H' → ∃ m', m' < m ∧ W (i + 1) m' H') ∧ ∀ x H', (Itl K a).yld i H x H' → gName j x (wipe σ vs) H' fun σ2 H2 => wipe σ2 vs = wipe σ vs ∧ tYes σ2 H2 fun b H3 =>
        if b = true then te σ2 H3 fun y H4 => ∃ acc, H4 D = some (.lst acc) ∧ acc.length < sizeLine ∧ Nx (upd H4 D (.lst (acc ++ [y]))) else Nx H3) := fun D hD => by
  refine lc_list (xs := xs) (fun i H => Ex H1 H ∧ H D = some (.lst ((xs.take i).map F))) ⟨Ex.new hD, upd_same⟩ (fun i H _ p => p.1.sql hx) (fun i x H hc p => ⟨hw _, ?_⟩) (fun H p => ?_)
  · show te ((wipe σ vs).set j (some x)) H _
    refine he i x H hc p.1 _ fun H3 e => ?_
    refine ⟨_, e _ _ p.2, ?_, Ex.mut (p.1.trans e) hD, ?_⟩
    · rw [List.length_map]
      rw [List.length_take]
      exact line_lt (by omega)
    · rw [upd_same, List.take_add_one, hc, List.map_append]
      rfl
  · obtain ⟨e, h⟩ := p
    rw [List.take_length] at h
    exact k D H hD e h
theorem k_lcS {l : List Nat} {F : Nat → V} {j : Nat} {t0 te : TE} {vs : List Nat} {σ : L2.St} {H : Hp} {Q : VK} (h0 : ∀ R : VK, (∀ H1, Ex H H1 → R (.str (T l)) H1) → t0 σ H R) (hw : ∀ x, wipe ((wipe σ vs).set j (some x)) vs = wipe σ vs) (hz : l.length < 16777216)
    (he : ∀ (i c : Nat) H2, l[i]? = some c → Ex H H2 → ∀ Q : VK, (∀ H3, Ex H2 H3 → Q (F c) H3) → te ((wipe σ vs).set j (some (.str (T [c])))) H2 Q)
    (k : ∀ p H2, H p = none → Ex H H2 → H2 p = some (.lst (l.map F)) → Q (.ref p) H2) : tLc (iStr t0) (gName j) tYes te vs σ H Q :=
  h0 _ fun H1 e1 => ⟨_, rfl, lcS_map (l := l) hw hz (fun i c H2 hc e Q => he i c H2 hc (e1.trans e) Q) fun p H2 hp e h => k p H2 (e1.free hp) (e1.trans e) h⟩
theorem k_lcL {K : PySem.W.Frag} {xs : List V} {F : V → V} {j : Nat} {t0 te : TE} {vs : List Nat} {σ : L2.St} {H : Hp} {Q : VK} (h0 : ∀ R : VK, (∀ a H1, Ex H H1 → SqL K H1 a xs → R (.ref a) H1) → t0 σ H R) (hw : ∀ x, wipe ((wipe σ vs).set j (some x)) vs = wipe σ vs) (hz : xs.length < 16777216)
    (he : ∀ (i : Nat) (x : V) H2, xs[i]? = some x → Ex H H2 → ∀ Q : VK, (∀ H3, Ex H2 H3 → Q (F x) H3) → te ((wipe σ vs).set j (some x)) H2 Q)
    (k : ∀ p H2, H p = none → Ex H H2 → H2 p = some (.lst (xs.map F)) → Q (.ref p) H2) : tLc (iList K t0) (gName j) tYes te vs σ H Q :=
  h0 _ fun a H1 e1 hx => ⟨a, rfl, ⟨xs, hx⟩, lcL_map hx hw hz (fun i x H2 hc e Q => he i x H2 hc (e1.trans e) Q) fun p H2 hp e h => k p H2 (e1.free hp) (e1.trans e) h⟩
end U

set_option Elab.async false
set_option linter.all false
set_option maxRecDepth 100000
set_option maxHeartbeats 4000000
namespace U
open PySem PySem.Spec PyProof.Rows L2
/-! ### texts of one sign -/
theorem ofs_u : Str.ofString "u" = ⟨#[117]⟩ := by decide +kernel
theorem ofs_d : Str.ofString "d" = ⟨#[100]⟩ := by decide +kernel
theorem ofs_f : Str.ofString "f" = ⟨#[102]⟩ := by decide +kernel
theorem ofs_b : Str.ofString "b" = ⟨#[98]⟩ := by decide +kernel
theorem ofs_0 : Str.ofString "" = ⟨#[]⟩ := by decide +kernel
theorem ofs_ud : Str.ofString "ud" = ⟨#[117, 100]⟩ := by decide +kernel
theorem one_iff {c d : Nat} : (⟨#[c]⟩ : Str) = ⟨#[d]⟩ ↔ c = d := ⟨fun h => by injection h with h; simpa using h, fun h => by rw [h]⟩
theorem isU {c : Nat} : (⟨#[c]⟩ : Str) = Str.ofString "u" ↔ c = 117 := by rw [ofs_u]; exact one_iff
theorem isF {c : Nat} : (⟨#[c]⟩ : Str) = Str.ofString "f" ↔ c = 102 := by rw [ofs_f]; exact one_iff
/-! ### heights -/
def sgn (c : Nat) : Int := if c = 117 then 1 else -1
def hAt (l : List Nat) : Int := (l.map sgn).sum
def ht (l : List Nat) (i : Nat) : Int := hAt (l.take i)
def hts (l : List Nat) : List Int := (List.range (l.length + 1)).map (ht l)
theorem ht_zero (l : List Nat) : ht l 0 = 0 := rfl
theorem ht_succ {l : List Nat} {i c : Nat} (h : l[i]? = some c) : ht l (i + 1) = ht l i + sgn c := by
  unfold ht hAt
  rw [List.take_add_one, h, List.map_append, List.sum_append]
  simp
theorem hts_length (l : List Nat) : (hts l).length = l.length + 1 := by unfold hts; simp
theorem hts_get {l : List Nat} {i : Nat} (h : i ≤ l.length) : (hts l)[i]? = some (ht l i) := by
  unfold hts
  rw [List.getElem?_map, List.getElem?_range (by omega)]
  rfl
/-- the heights of the places 0 .. i -/
def htsN (l : List Nat) (i : Nat) : List Int := (List.range (i + 1)).map (ht l)
theorem htsN_succ (l : List Nat) (i : Nat) : htsN l (i + 1) = htsN l i ++ [ht l (i + 1)] := by
  unfold htsN
  rw [List.range_succ, List.map_append]
  rfl
theorem htsN_last (l : List Nat) (i : Nat) : ∃ r, htsN l i = r ++ [ht l i] := ⟨(List.range i).map (ht l), by
  unfold htsN
  rw [List.range_succ, List.map_append]
  rfl⟩
theorem htsN_atI (l : List Nat) (i : Nat) : atI ((htsN l i).map V.int) (-1) = some (.int (ht l i)) := by
  obtain ⟨r, e⟩ := htsN_last l i
  rw [e, List.map_append]
  exact atI_last _ _
theorem htsN_length (l : List Nat) (i : Nat) : (htsN l i).length = i + 1 := by unfold htsN; simp
/-- one more height -/
theorem htsN_more {l : List Nat} {i c : Nat} {y : Int} (h : l[i]? = some c) (e : y = ht l i + sgn c) : (htsN l i).map V.int ++ [.int y] = (htsN l (i + 1)).map V.int := by
  rw [htsN_succ, List.map_append, ht_succ h, e]
  rfl
/-! ### ridges -/
def UD (l : List Nat) : Prop := ∀ c ∈ l, c = 117 ∨ c = 100
abbrev Big : Nat := 16000000
theorem T_len (l : List Nat) : (T l).length = l.length := rfl
theorem T_inj {a b : List Nat} : T a = T b ↔ a = b := ⟨fun h => by injection h with h; exact congrArg Array.toList h, fun h => by rw [h]⟩
theorem T_cat (a b : List Nat) : T a ++ T b = T (a ++ b) := SX.S_cat a b
theorem tw_all {p : Nat → Bool} : ∀ {l : List Nat}, (∀ c ∈ l, p c = true) → l.takeWhile p = l
  | [], _ => rfl
  | c :: r, h => by rw [List.takeWhile_cons, if_pos (h c (List.mem_cons_self ..)), tw_all fun d hd => h d (List.mem_cons_of_mem _ hd)]
theorem strip_ud {l : List Nat} (h : UD l) : Txt.stripChars (T l) (Str.ofString "ud") = T [] := by
  rw [ofs_ud]
  have hp : ∀ c ∈ l, (#[117, 100] : Array Nat).contains c = true := fun c hc => by
    rcases h c hc with e | e <;> subst e <;> simp
  have e1 : stripLo (#[117, 100] : Array Nat).contains true (T l) = l.length := by
    show (l.takeWhile _).length = _
    rw [tw_all hp]
  have e2 : stripHi (#[117, 100] : Array Nat).contains true (T l) l.length = l.length := by
    show (T l).length - ((l.drop l.length).reverse.takeWhile _).length = l.length
    rw [List.drop_length]
    rfl
  show Txt.stripBy (#[117, 100] : Array Nat).contains true true (T l) = _
  unfold Txt.stripBy stripSame stripped
  rw [e1, e2]
  cases l with
  | nil => rfl
  | cons c r =>
    rw [if_neg (by simp)]
    unfold Builtin.Str.strSub
    simp
def flipc (c : Nat) : Nat := if c = 117 then 100 else 117
theorem joinL_one : ∀ ls : List Nat, TL.joinL [] (ls.map fun c => [c]) = ls
  | [] => rfl
  | [_] => rfl
  | c :: d :: r => by
    show [c] ++ ([] ++ TL.joinL [] ((d :: r).map fun c => [c])) = c :: d :: r
    rw [joinL_one (d :: r)]
    rfl
theorem join_one (ls : List Nat) : Txt.join (Str.ofString "") (ls.map fun c => T [c]) = T ls := by
  have h := SX.join_S [] (ls.map fun c => [c])
  rw [joinL_one, List.map_map] at h
  rw [ofs_0]
  exact h
theorem k_join0 {K : PySem.W.Frag} {H : Hp} {Q : VK} {p : Addr} {ls : List Nat} (h : SqL K H p ((ls.map fun c => T [c]).map V.str)) (hz : ls.length ≤ 16777216) (k : Q (.str (T ls)) H) : rJoin K (.str (Str.ofString "")) [.ref p] H Q :=
  k_join (a := Str.ofString "") (ls := ls) h (by rw [ofs_0]; show ls.length + ls.length * 0 ≤ _; omega) (by rw [join_one]; exact k)
end U

set_option Elab.async false
set_option linter.all false
set_option maxRecDepth 100000
set_option maxHeartbeats 4000000
namespace U
open PySem PySem.Spec PyProof.Rows L2
/-! ### lists of ints as data -/
def dI (ns : List Int) : PyData := .list (ns.map PyData.int)
theorem dpAllInts {K : PySem.W.Frag} {H : Hp} : ∀ ns : List Int, DpAll K H (ns.map V.int) (ns.map PyData.int)
  | [] => .nil
  | n :: r => .cons (.int n) (dpAllInts r)
theorem dpInts {K : PySem.W.Frag} {H : Hp} {p : Addr} {ns : List Int} (h : SqL K H p (ns.map V.int)) : Dp K H (.ref p) (dI ns) := .lst h (dpAllInts ns)
theorem canInts : ∀ ns : List Int, PyData.canLayAll0 (ns.map PyData.int) = true
  | [] => by simp [PyData.canLayAll0]
  | n :: r => by simp [PyData.canLayAll0, PyData.canLay0, canInts r]
theorem depInts : ∀ ns : List Int, PyData.depthAll (ns.map PyData.int) = 0
  | [] => by simp [PyData.depthAll]
  | n :: r => by simp [PyData.depthAll, PyData.depth, depInts r]
theorem shInts (ns : List Int) : SeqAt.shaped (dI ns) = true := by
  unfold SeqAt.shaped dI
  simp [PyData.canLay0, PyData.depth, canInts, depInts]
theorem eqvAllInts : ∀ as bs : List Int, PyData.eqvAll (as.map PyData.int) (bs.map PyData.int) = decide (as = bs)
  | [], [] => by simp [PyData.eqvAll]
  | [], _ :: _ => by simp [PyData.eqvAll]
  | _ :: _, [] => by simp [PyData.eqvAll]
  | a :: r, b :: t => by
    simp only [List.map_cons, PyData.eqvAll, PyData.eqv, eqvAllInts r t, List.cons.injEq]
    by_cases h : a = b
    · simp [h]
    · simp [h]
theorem eqvInts (as bs : List Int) : PyData.eqv (dI as) (dI bs) = decide (as = bs) := by
  unfold dI
  simp only [PyData.eqv]
  exact eqvAllInts as bs
theorem k_eqInts {K : PySem.W.Frag} {H : Hp} {Q : VK} {p q : Addr} {as bs : List Int} (h1 : SqL K H p (as.map V.int)) (h2 : SqL K H q (bs.map V.int)) (k : Q (.bl (decide (as = bs))) H) : rEqU K (.ref p) (.ref q) H Q :=
  k_eqD (dpInts h1) (dpInts h2) (shInts _) (shInts _) (by rw [eqvInts]; exact k)
theorem k_neInts {K : PySem.W.Frag} {H : Hp} {Q : VK} {p q : Addr} {as bs : List Int} (h1 : SqL K H p (as.map V.int)) (h2 : SqL K H q (bs.map V.int)) (k : Q (.bl (!decide (as = bs))) H) : rNeU K (.ref p) (.ref q) H Q :=
  k_neD (dpInts h1) (dpInts h2) (shInts _) (shInts _) (by rw [eqvInts]; exact k)
/-! ### {"u": 1, "d": -1}[step] -/
theorem tPairs_nil {σ : L2.St} {H : Hp} {Q : List (V × V) → Hp → Prop} (k : Q [] H) : tPairs [] σ H Q := k
theorem tPairs_cons {tk tv : TE} {r : List (TE × TE)} {σ : L2.St} {H : Hp} {Q : List (V × V) → Hp → Prop} (k : tk σ H fun x H1 => tv σ H1 fun y H2 => tPairs r σ H2 fun ps H3 => Q ((x, y) :: ps) H3) : tPairs ((tk, tv) :: r) σ H Q := k
theorem k_disp {trs : List (TE × TE)} {σ : L2.St} {H : Hp} {Q : VK} (k : ∀ p, H p = none → tPairs trs σ (upd H p (.dK [])) fun ps H2 => H2 p = some (.dK []) ∧ ∃ kvs : List (Key × V), ps = kvs.map (fun kv => (kV kv.1, kv.2)) ∧ kvs.length ≤ 15 ∧ Q (.ref p) (upd H2 p (.dK (mergeK [] kvs)))) : tDisp trs σ H Q := k
theorem k_dget {td ty : TE} {σ : L2.St} {H : Hp} {Q : VK} (k : td σ H fun x H1 => ty σ H1 fun y H2 => ∃ a v, x = .ref a ∧ DGet H2 a y (some v) ∧ Q v H2) : tDGet td ty σ H Q := k
/-- a dict of two signs -/
def two (a b : Nat) (x y : V) : List (Key × V) := [(.inr (T [a]), x), (.inr (T [b]), y)]
theorem merge_two {a b : Nat} {x y : V} (h : a ≠ b) : mergeK [] (two a b x y) = two a b x y := by
  unfold two mergeK
  simp only [List.foldl_cons, List.foldl_nil]
  unfold putK
  simp [T_inj, h]
theorem val_two {a b c : Nat} {x y : V} (h : a ≠ b) : valV (two a b x y) (.inr (T [c])) = if c = a then some x else if c = b then some y else none := by
  unfold two
  by_cases h1 : c = a
  · subst h1
    rw [if_pos rfl]
    exact valV_pos rfl
  · rw [if_neg h1, valV_neg (fun z => h1 (by injection z with z; simpa using (T_inj.mp z).symm))]
    by_cases h2 : c = b
    · subst h2
      rw [if_pos rfl]
      exact valV_pos rfl
    · rw [if_neg h2, valV_neg (fun z => h2 (by injection z with z; simpa using (T_inj.mp z).symm))]
      rfl
theorem k_udGet {σ : L2.St} {H : Hp} {Q : VK} {i c : Nat} (hs : σ[i]? = some (some (.str (T [c])))) (hc : c = 117 ∨ c = 100) (k : ∀ H', Ex H H' → Q (.int (sgn c)) H') :
    tDGet (tDisp [(tC (.str (Str.ofString "u")), tC (.int 1)), (tC (.str (Str.ofString "d")), tUn (rU fun i => .int (-i)) (tC (.int 1)))]) (tVar i) σ H Q := by
  refine k_dget (k_disp fun p hp => ?_)
  refine tPairs_cons (k_c (k_c (tPairs_cons (k_c (k_un (k_c (k_U (tPairs_nil ?_))))))))
  refine ⟨upd_same, two 117 100 (.int 1) (.int (-1)), by rw [ofs_u, ofs_d]; rfl, by unfold two; decide, ?_⟩
  rw [merge_two (by decide), upd_upd]
  refine k_var hs ⟨p, _, rfl, ?_, k _ (Ex.new hp)⟩
  have h := DGet.k (k := .inr (T [c])) (show upd H p (.dK (two 117 100 (.int 1) (.int (-1)))) p = _ from upd_same)
  rw [val_two (by decide)] at h
  unfold sgn
  rcases hc with e | e <;> subst e <;> exact h
/-! ### lists of truths -/
theorem k_any {K : PySem.W.Frag} {H : Hp} {Q : VK} {a : Addr} {bs : List Bool} (h : SqL K H a (bs.map V.bl)) (k : Q (.bl (bs.any id)) H) : rAny K [.ref a] H Q := ⟨a, bs, rfl, h, k⟩
theorem k_all {K : PySem.W.Frag} {H : Hp} {Q : VK} {a : Addr} {bs : List Bool} (h : SqL K H a (bs.map V.bl)) (k : Q (.bl (bs.all id)) H) : rAll K [.ref a] H Q := ⟨a, bs, rfl, h, k⟩
/-- a function of ints, on values -/
def FV (f : Int → V) : V → V
  | .int n => f n
  | _ => .non
theorem FV_map (f : Int → V) (ns : List Int) : (ns.map V.int).map (FV f) = ns.map f := by rw [List.map_map]; rfl
theorem ints_at {ns : List Int} {i : Nat} {x : V} (h : (ns.map V.int)[i]? = some x) : ∃ n, ns[i]? = some n ∧ x = .int n := by
  rw [List.getElem?_map] at h
  cases e : ns[i]? with
  | none => rw [e] at h; cases h
  | some n => rw [e] at h; exact ⟨n, rfl, (Option.some.inj h).symm⟩
/-! ### ridges turned over, from the end -/
theorem flip_flip {l : List Nat} (h : UD l) : (l.map flipc).map flipc = l := by
  rw [List.map_map]
  conv => rhs; rw [← List.map_id l]
  refine List.map_congr_left fun c hc => ?_
  rcases h c hc with e | e <;> subst e <;> rfl
theorem flip_ud (l : List Nat) : UD (l.map flipc) := fun c hc => by
  obtain ⟨d, _, rfl⟩ := List.mem_map.mp hc
  unfold flipc
  split
  · exact .inr rfl
  · exact .inl rfl
theorem rev_ud {l : List Nat} (h : UD l) : UD l.reverse := fun c hc => h c (List.mem_reverse.mp hc)
theorem sgn_flip {c : Nat} : sgn (flipc c) = -sgn c := by
  unfold sgn flipc
  by_cases h : c = 117 <;> simp [h]
theorem hAt_flip (l : List Nat) : hAt (l.map flipc) = -hAt l := by
  induction l with
  | nil => rfl
  | cons c r ih =>
    unfold hAt at ih ⊢
    simp only [List.map_cons, List.sum_cons, ih, sgn_flip]
    omega
theorem hAt_append (a b : List Nat) : hAt (a ++ b) = hAt a + hAt b := by
  unfold hAt
  rw [List.map_append, List.sum_append]
theorem hAt_reverse (l : List Nat) : hAt l.reverse = hAt l := by
  unfold hAt
  rw [List.map_reverse, List.sum_reverse]
theorem ht_flip (l : List Nat) (i : Nat) : ht (l.map flipc) i = -ht l i := by
  unfold ht
  rw [← List.map_take, hAt_flip]
theorem hts_flip (l : List Nat) : hts (l.map flipc) = (hts l).map fun x => -x := by
  unfold hts
  rw [List.length_map, List.map_map]
  exact List.map_congr_left fun i _ => ht_flip l i
theorem ht_full (l : List Nat) : ht l l.length = hAt l := by unfold ht; rw [List.take_length]
theorem ht_split (l : List Nat) (i : Nat) : ht l i + hAt (l.drop i) = hAt l := by
  unfold ht
  rw [← hAt_append, List.take_append_drop]
theorem ht_back (l : List Nat) (i : Nat) (hi : i ≤ l.length) : ht (l.reverse.map flipc) i = ht l (l.length - i) - hAt l := by
  rw [ht_flip]
  have e : ht l.reverse i = hAt (l.drop (l.length - i)) := by
    unfold ht
    rw [← hAt_reverse, List.take_reverse, List.reverse_reverse]
  rw [e]
  have := ht_split l (l.length - i)
  omega
theorem hts_back (l : List Nat) : hts (l.reverse.map flipc) = ((hts l).reverse).map fun x => x - hAt l := by
  apply List.ext_getElem?
  intro i
  have n1 : (hts (l.reverse.map flipc)).length = l.length + 1 := by rw [hts_length, List.length_map, List.length_reverse]
  have n2 : (hts l).length = l.length + 1 := hts_length l
  by_cases hi : i ≤ l.length
  · rw [hts_get (by rw [List.length_map, List.length_reverse]; exact hi), List.getElem?_map, List.getElem?_reverse (by omega), n2, hts_get (by omega), ht_back l i hi]
    rw [show l.length + 1 - 1 - i = l.length - i by omega]
    rfl
  · rw [List.getElem?_eq_none (by omega), List.getElem?_eq_none (by rw [List.length_map, List.length_reverse]; omega)]
theorem hts_last (l : List Nat) : atI ((hts l).map V.int) (-1) = some (.int (hAt l)) := by
  have h := htsN_atI l l.length
  rw [ht_full] at h
  exact h
end U

set_option Elab.async false
set_option linter.all false
set_option maxRecDepth 100000
set_option maxHeartbeats 4000000
namespace U
open PySem PySem.Spec PyProof.Rows L2
/-! ### the steps that ask nothing, found by their form -/
class Stp (A : Prop) (B : outParam Prop) : Prop where
  h : B → A
class Lk (σ : L2.St) (i : Nat) (v : outParam V) : Prop where
  h : σ[i]? = some (some v)
instance lk0 {v : V} {σ : L2.St} : Lk (some v :: σ) 0 v := ⟨rfl⟩
instance lkS {x : Option V} {v : V} {σ : L2.St} {i : Nat} [q : Lk σ i v] : Lk (x :: σ) (i + 1) v := ⟨by have := q.h; simpa using this⟩
class StAt (σ : L2.St) (i : Nat) (v : Option V) (σ' : outParam L2.St) : Prop where
  h : σ.set i v = σ'
instance st0 {x v : Option V} {σ : L2.St} : StAt (x :: σ) 0 v (v :: σ) := ⟨rfl⟩
instance stS {x v : Option V} {σ σ' : L2.St} {i : Nat} [q : StAt σ i v σ'] : StAt (x :: σ) (i + 1) v (x :: σ') := ⟨by rw [List.set_cons_succ, q.h]⟩
section
variable {σ σ' σ'' : L2.St} {H : Hp} {Q : VK} {D : Ends} {ta tb tc te : TE} {tr : TA} {g : TG} {t u : TS} {K : PySem.W.Frag}
instance i_var {i : Nat} {v : V} [q : Lk σ i v] : Stp (tVar i σ H Q) (Q v H) := ⟨k_var q.h⟩
instance i_c {v : V} : Stp (tC v σ H Q) (Q v H) := ⟨k_c⟩
instance i_nil {Q : List V → Hp → Prop} : Stp (tNil σ H Q) (Q [] H) := ⟨k_nil⟩
instance i_cons {Q : List V → Hp → Prop} : Stp (tCons te tr σ H Q) (te σ H fun x H1 => tr σ H1 fun xs H2 => Q (x :: xs) H2) := ⟨k_cons⟩
instance i_op {r : R2} : Stp (tOp r ta tb σ H Q) (ta σ H fun x H1 => tb σ H1 fun y H2 => r x y H2 Q) := ⟨k_op⟩
instance i_un {r : V → Hp → VK → Prop} : Stp (tUn r ta σ H Q) (ta σ H fun x H1 => r x H1 Q) := ⟨k_un⟩
instance i_seq : Stp (tSeq t u D σ H) (t { D with nx := u D } σ H) := ⟨k_seq⟩
instance i_asg : Stp (tAsg te g D σ H) (te σ H fun x H1 => g x σ H1 D.nx) := ⟨k_asg⟩
instance i_name {i : Nat} {v : V} {Q : L2.St → Hp → Prop} [q : StAt σ i (some v) σ'] : Stp (gName i v σ H Q) (Q σ' H) := ⟨fun k => k_name (by rw [q.h]; exact k)⟩
instance i_ret : Stp (tRet te D σ H) (te σ H D.rt) := ⟨k_ret⟩
instance i_retN : Stp (tRetN D σ H) (D.rt .non H) := ⟨k_retN⟩
instance i_drop : Stp (tDrop te D σ H) (te σ H fun _ H1 => D.nx σ H1) := ⟨k_drop⟩
instance i_next : Stp (tNext D σ H) (D.nx σ H) := ⟨k_next⟩
instance i_brk : Stp (tBreak D σ H) (D.bk σ H) := ⟨id⟩
instance i_nx {n : L2.St → Hp → Prop} {r : VK} {b c : L2.St → Hp → Prop} : Stp (Ends.nx ⟨n, r, b, c⟩ σ H) (n σ H) := ⟨k_nx⟩
instance i_bk {n : L2.St → Hp → Prop} {r : VK} {b c : L2.St → Hp → Prop} : Stp (Ends.bk ⟨n, r, b, c⟩ σ H) (b σ H) := ⟨id⟩
instance i_rt {n : L2.St → Hp → Prop} {r : VK} {b c : L2.St → Hp → Prop} {v : V} : Stp (Ends.rt ⟨n, r, b, c⟩ v H) (r v H) := ⟨k_rt⟩
instance i_ifS {c : TT} : Stp (tIfS c t u D σ H) (c σ H fun b H1 => if b = true then t D σ H1 else u D σ H1) := ⟨k_ifS⟩
instance i_ifE {c : TT} : Stp (tIf c ta tb σ H Q) (c σ H fun b H1 => if b = true then ta σ H1 Q else tb σ H1 Q) := ⟨k_ifE⟩
instance i_test {Q : Bool → Hp → Prop} : Stp (tTest te σ H Q) (te σ H fun x H' => ∃ b, x = .bl b ∧ Q b H') := ⟨k_test⟩
instance i_B {Q : Bool → Hp → Prop} : Stp (tB te σ H Q) (te σ H fun x H' => ∃ b, x = .bl b ∧ Q b H') := ⟨k_B⟩
instance i_not {c : TT} {Q : Bool → Hp → Prop} : Stp (tNot c σ H Q) (c σ H fun b H1 => Q (!b) H1) := ⟨k_not⟩
instance i_or {c d : TT} {Q : Bool → Hp → Prop} : Stp (tOr c d σ H Q) (c σ H fun b H1 => if b = true then Q true H1 else d σ H1 Q) := ⟨k_or⟩
instance i_and {c d : TT} {Q : Bool → Hp → Prop} : Stp (tAnd c d σ H Q) (c σ H fun b H1 => if b = true then d σ H1 Q else Q false H1) := ⟨k_and⟩
instance i_notV : Stp (tNotV ta σ H Q) (ta σ H fun x H1 => ∃ c, x = .bl c ∧ Q (.bl (!c)) H1) := ⟨k_notV⟩
instance i_andV : Stp (tAndV ta tb σ H Q) (ta σ H fun x H1 => ∃ c, x = .bl c ∧ if c = true then tb σ H1 Q else Q (.bl false) H1) := ⟨k_andV⟩
instance i_orV : Stp (tOrV ta tb σ H Q) (ta σ H fun x H1 => ∃ c, x = .bl c ∧ if c = true then Q (.bl true) H1 else tb σ H1 Q) := ⟨k_orV⟩
instance i_call {sp : Sp} {dvs : List V} {E : XK} : Stp (tCall sp dvs E tr σ H Q) (tr σ H fun vs H1 => sp (vs ++ dvs) H1 Q E) := ⟨k_call⟩
instance i_cb {r : List V → Hp → VK → Prop} : Stp (tCB r tr σ H Q) (tr σ H fun vs H1 => r vs H1 Q) := ⟨k_cb⟩
instance i_tup : Stp (tTup tr σ H Q) (tr σ H fun xs H1 => xs.length ≤ sizeLine ∧ ∀ p, H1 p = none → Q (.ref p) (upd H1 p (.tup xs))) := ⟨k_tup⟩
instance i_lst : Stp (tLst tr σ H Q) (tr σ H fun xs H1 => xs.length ≤ sizeLine ∧ ∀ p, H1 p = none → Q (.ref p) (upd H1 p (.lst xs))) := ⟨k_lst⟩
instance i_sl {r : V → Option Int → Option Int → Hp → VK → Prop} {tl th : TO} : Stp (tSl r te tl th σ H Q) (te σ H fun x H1 => tl σ H1 fun l H2 => th σ H2 fun u H3 => r x l u H3 Q) := ⟨k_sl⟩
instance i_noPart {Q : Option Int → Hp → Prop} : Stp (tNoPart σ H Q) (Q none H) := ⟨k_noPart⟩
instance i_part {Q : Option Int → Hp → Prop} : Stp (tPart te σ H Q) (te σ H fun x H1 => ∃ i, x = .int i ∧ Q (some i) H1) := ⟨k_part⟩
instance i_bl {b : Bool} {G : Bool → Prop} : Stp (∃ c, V.bl b = .bl c ∧ G c) (G b) := ⟨k_bl⟩
instance i_int {i : Int} {G : Int → Prop} : Stp (∃ j, V.int i = .int j ∧ G j) (G i) := ⟨k_int⟩
instance i_str {s : Str} {G : Str → Prop} : Stp (∃ j, V.str s = .str j ∧ G j) (G s) := ⟨fun k => ⟨s, rfl, k⟩⟩
instance i_vs2 {v w : V} {G : V → V → Prop} : Stp (∃ a b, [v, w] = [a, b] ∧ G a b) (G v w) := ⟨k_vs2⟩
instance i_I0 {f : Int → Int → V} {i j : Int} : Stp (rI0 f (.int i) (.int j) H Q) (Q (f i j) H) := ⟨k_I0⟩
instance i_U {f : Int → V} {i : Int} : Stp (rU f (.int i) H Q) (Q (f i) H) := ⟨k_U⟩
instance i_addI {i j : Int} : Stp (rAddU K (.int i) (.int j) H Q) (Q (.int (i + j)) H) := ⟨k_addI⟩
instance i_eqI {i j : Int} : Stp (rEqU K (.int i) (.int j) H Q) (Q (.bl (decide (i = j))) H) := ⟨k_eqI⟩
instance i_neI {i j : Int} : Stp (rNeU K (.int i) (.int j) H Q) (Q (.bl (!decide (i = j))) H) := ⟨k_neI⟩
instance i_eqS {i j : Str} : Stp (rEqU K (.str i) (.str j) H Q) (Q (.bl (decide (i = j))) H) := ⟨k_eqS⟩
instance i_neS {i j : Str} : Stp (rNeU K (.str i) (.str j) H Q) (Q (.bl (!decide (i = j))) H) := ⟨k_neS⟩
instance i_eqB {i j : Bool} : Stp (rEqU K (.bl i) (.bl j) H Q) (Q (.bl (decide (i = j))) H) := ⟨k_eqB⟩
instance i_neB {i j : Bool} : Stp (rNeU K (.bl i) (.bl j) H Q) (Q (.bl (!decide (i = j))) H) := ⟨k_neB⟩
instance i_bm {T : String} {r : V → List V → Hp → VK → Prop} {to : TE} : Stp (tBM K T r to tr σ H Q) (to σ H fun x H1 => tyV K T x H1 ∧ tr σ H1 fun xs H2 => r x xs H2 Q) := ⟨k_bm⟩
instance i_bm0 {T : String} {r : V → List V → Hp → VK → Prop} {to : TE} : Stp (tBM0 K T r to σ H Q) (to σ H fun x H1 => tyV K T x H1 ∧ r x [] H1 Q) := ⟨k_bm0⟩
instance i_tyS {z : Str} {P : Prop} : Stp (tyV K "str" (.str z) H ∧ P) P := ⟨k_tyS⟩
instance i_gCons {tg : TG} {u : TGs} {v : V} {r : List V} {Q : L2.St → Hp → Prop} : Stp (gCons tg u (v :: r) σ H Q) (tg v σ H fun σ' H' => u r σ' H' Q) := ⟨k_gCons⟩
instance i_gNil {Q : L2.St → Hp → Prop} : Stp (gNil [] σ H Q) (Q σ H) := ⟨k_gNil⟩
instance i_par {i j : Nat} {ta : TA} : Stp (tPar i j ta D σ H) (ta σ H fun vs H1 => ∃ v w, vs = [v, w] ∧ D.nx ((σ.set i (some v)).set j (some w)) H1) := ⟨k_par⟩
instance i_chain {r r' : R2} : Stp (tChain r r' ta tb tc σ H Q) (ta σ H fun x H1 => tb σ H1 fun y H2 => r x y H2 fun z H3 => ∃ k, z = .bl k ∧ (if k = true then tc σ H3 fun w' H4 => r' y w' H4 Q else Q (.bl false) H3)) := ⟨k_chain⟩
instance i_nx2 {i j : Nat} {v w : V} {n : L2.St → Hp → Prop} {r : VK} {b c : L2.St → Hp → Prop} [q : StAt σ i (some v) σ'] [q2 : StAt σ' j (some w) σ''] : Stp (Ends.nx ⟨n, r, b, c⟩ ((σ.set i (some v)).set j (some w)) H) (n σ'' H) := ⟨fun k => by rw [q.h, q2.h]; exact k⟩
instance i_for {wi : TI} {tb : TS} : Stp (tFor wi g tb D σ H) (wi σ H fun J H1 => ∃ W : Nat → Nat → L2.St → Hp → Prop, (∃ m, W 0 m σ H1) ∧ ∀ i m σ H, W i m σ H → (J.stop i H ∧ D.nx σ H) ∨ (J.go i H ∧ ∃ N : L2.St → Hp → Prop, (∀ σ' H', N σ' H' → ∃ m', m' < m ∧ W (i + 1) m' σ' H') ∧
    ∀ x H', J.yld i H x H' → g x σ H' fun σ2 H2 => tb { D with nx := N, ct := N, bk := D.nx } σ2 H2)) := ⟨k_for⟩
instance i_iStr {R : It → Hp → Prop} : Stp (iStr te σ H R) (te σ H fun v H1 => ∃ x, v = .str x ∧ R (Its x) H1) := ⟨k_iStr⟩
instance i_iList {R : It → Hp → Prop} : Stp (iList K te σ H R) (te σ H fun x H1 => ∃ a, x = .ref a ∧ (∃ xs, SqL K H1 a xs) ∧ R (Itl K a) H1) := ⟨k_iList⟩
instance i_iTup {R : It → Hp → Prop} : Stp (iTup K te σ H R) (te σ H fun x H1 => ∃ a, x = .ref a ∧ (∃ xs, SqT K H1 a xs) ∧ R (Itt K a) H1) := ⟨k_iTup⟩
instance i_iRng1 {R : It → Hp → Prop} : Stp (iRng1 tr σ H R) (tr σ H fun vs H1 => ∃ j : Int, vs = [.int j] ∧ -(2 ^ 62) ≤ j ∧ j < 2 ^ 62 ∧ R (Itr 0 j.toNat) H1) := ⟨k_iRng1⟩
instance i_M1 {r : V → List V → Hp → VK → Prop} {to : TE} : Stp (tM1 r to te σ H Q) (to σ H fun x H1 => (∃ a, x = .str a) ∧ te σ H1 fun y H2 => r x [y] H2 Q) := ⟨k_M1⟩
instance i_isStr {s : Str} {P : Prop} : Stp ((∃ a, V.str s = .str a) ∧ P) P := ⟨k_isStr⟩
instance i_rev {R : It → Hp → Prop} : Stp (RT.iRevA K te σ H R) (te σ H fun v H1 => ∃ (a : Addr) (xs : List V), v = .ref a ∧ ((SqL K H1 a xs ∧ R (Itv K a xs.length) H1) ∨ (SqT K H1 a xs ∧ R (RT.ItvT K a xs.length) H1))) := ⟨k_rev⟩
instance i_revS : Stp (tRevS te σ H Q) (te σ H fun x H1 => ∃ z, x = .str z ∧ z.length ≤ sizeLine ∧ Q (.str ⟨z.cps.toList.reverse.toArray⟩) H1) := ⟨k_revS⟩
instance i_revL : Stp (tRevL K te σ H Q) (te σ H fun x H1 => ∃ a xs, x = .ref a ∧ SqL K H1 a xs ∧ ∀ p, H1 p = none → Q (.ref p) (upd H1 p (.lst xs.reverse))) := ⟨k_revL⟩
instance i_dget {td ty : TE} : Stp (tDGet td ty σ H Q) (td σ H fun x H1 => ty σ H1 fun y H2 => ∃ a v, x = .ref a ∧ DGet H2 a y (some v) ∧ Q v H2) := ⟨k_dget⟩
instance i_iT {A B : Prop} : Stp (if true = true then A else B) A := ⟨k_iT⟩
instance i_iF {A B : Prop} : Stp (if false = true then A else B) B := ⟨k_iF⟩
instance i_ntT {A B : Prop} : Stp (if (!true) = true then A else B) B := ⟨k_ntT⟩
instance i_ntF {A B : Prop} : Stp (if (!false) = true then A else B) A := ⟨k_ntF⟩
end
theorem start_cons {N : List Str} {x : Str} {v : V} {vs : List V} : L2.start (x :: N) (v :: vs) = some v :: L2.start N vs := by
  unfold L2.start
  rw [List.map_cons, List.length_cons, List.length_cons, Nat.add_sub_add_right, List.cons_append]
theorem start_nil {N : List Str} {x : Str} : L2.start (x :: N) [] = none :: L2.start N [] := rfl
theorem start_end : L2.start [] [] = [] := rfl
/-! ### comprehensions again, over slots that are told one by one -/
class Wp (σ : L2.St) (vs : List Nat) (σ' : outParam L2.St) : Prop where
  h : wipe σ vs = σ'
instance wp0 {σ : L2.St} : Wp σ [] σ := ⟨rfl⟩
instance wpS {σ σ1 σ2 : L2.St} {v : Nat} {vs : List Nat} [q : Wp σ vs σ1] [q2 : StAt σ1 v none σ2] : Wp σ (v :: vs) σ2 := ⟨by unfold wipe; rw [q.h, q2.h]⟩
theorem lcV {X : Cx} {e : Expr} {own : List (Str × Nat)} {vs : List Nat} {wi : TI} {g : TG} {tt : TT} {te : TE} (q : own.map (·.2) = vs) (h : PE X e (tLc wi g tt te (own.map (·.2)))) : PE X e (tLc wi g tt te vs) := q ▸ h
theorem setLcV {X : Cx} {st : Stmt} {own : List (Str × Nat)} {vs : List Nat} {wi : TI} {g g2 : TG} {tt : TT} {te : TE} (q : own.map (·.2) = vs) (h : PS X st (tAsg (tLc wi g tt te (own.map (·.2))) g2)) : PS X st (tAsg (tLc wi g tt te vs) g2) := q ▸ h
section
variable {σ σ0 : L2.St} {σ2 : V → L2.St} {H : Hp} {Q : VK} {K : PySem.W.Frag} {j : Nat} {t0 te : TE} {vs : List Nat}
theorem m_lcS [q0 : Wp σ vs σ0] [q2 : ∀ x, StAt σ0 j (some x) (σ2 x)] {l : List Nat} {F : Nat → V} (h0 : ∀ R : VK, (∀ H1, Ex H H1 → R (.str (T l)) H1) → t0 σ H R) (hz : l.length < 16777216)
    (he : ∀ (i c : Nat) H2, l[i]? = some c → Ex H H2 → ∀ Q : VK, (∀ H3, Ex H2 H3 → Q (F c) H3) → te (σ2 (.str (T [c]))) H2 Q)
    (k : ∀ p H2, H p = none → Ex H H2 → H2 p = some (.lst (l.map F)) → Q (.ref p) H2) (hw : ∀ x, wipe (σ2 x) vs = σ0 := by intro _; rfl) : tLc (iStr t0) (gName j) tYes te vs σ H Q :=
  k_lcS h0 (fun x => by rw [q0.h, (q2 x).h]; exact hw x) hz (fun i c H2 hc e Q k => by rw [q0.h, (q2 _).h]; exact he i c H2 hc e Q k) k
theorem m_lcL [q0 : Wp σ vs σ0] [q2 : ∀ x, StAt σ0 j (some x) (σ2 x)] {xs : List V} {F : V → V} (h0 : ∀ R : VK, (∀ a H1, Ex H H1 → SqL K H1 a xs → R (.ref a) H1) → t0 σ H R) (hz : xs.length < 16777216)
    (he : ∀ (i : Nat) (x : V) H2, xs[i]? = some x → Ex H H2 → ∀ Q : VK, (∀ H3, Ex H2 H3 → Q (F x) H3) → te (σ2 x) H2 Q)
    (k : ∀ p H2, H p = none → Ex H H2 → H2 p = some (.lst (xs.map F)) → Q (.ref p) H2) (hw : ∀ x, wipe (σ2 x) vs = σ0 := by intro _; rfl) : tLc (iList K t0) (gName j) tYes te vs σ H Q :=
  k_lcL h0 (fun x => by rw [q0.h, (q2 x).h]; exact hw x) hz (fun i x H2 hc e Q k => by rw [q0.h, (q2 _).h]; exact he i x H2 hc e Q k) k
end
end U

set_option Elab.async false
set_option linter.all false
set_option maxRecDepth 100000
set_option maxHeartbeats 4000000
namespace U
open PySem PySem.Spec PyProof.Rows L2
local macro_rules | `(tactic| iterate 901 fail) => `(tactic| first
  | with_reducible assumption
  | with_reducible exact upd_same
  | (with_reducible refine' Ex.use (Ex.new ?n) ?h; (case n => with_reducible assumption); (case h => (iterate 901 fail)))
  | (with_reducible refine' Ex.use ?n ?h; (case n => with_reducible assumption); (case h => (iterate 901 fail))))
local macro_rules | `(tactic| iterate 902 fail) => `(tactic| first
  | with_reducible assumption
  | (with_reducible refine' SqL.of ?h; (case h => (iterate 901 fail)))
  | (with_reducible refine' SqT.of ?h; (case h => (iterate 901 fail)))
  | (iterate 912 fail))
local macro_rules | `(tactic| iterate 912 fail) => `(tactic| first
  | with_reducible assumption
  | (with_reducible refine' Ex.sql (Ex.new ?n) ?h; (case n => with_reducible assumption); (case h => (iterate 912 fail)))
  | (with_reducible refine' Ex.sqt (Ex.new ?n) ?h; (case n => with_reducible assumption); (case h => (iterate 912 fail)))
  | (with_reducible refine' Ex.sql ?n ?h; (case n => with_reducible assumption); (case h => (iterate 912 fail)))
  | (with_reducible refine' Ex.sqt ?n ?h; (case n => with_reducible assumption); (case h => (iterate 912 fail))))
local macro_rules | `(tactic| iterate 903 fail) => `(tactic| first
  | with_reducible assumption
  | with_reducible exact Ex.refl _
  | (with_reducible refine' Ex.mk ?e ?n; (case n => with_reducible assumption); (case e => (iterate 903 fail)))
  | (with_reducible refine' Ex.trans ?e ?n; (case n => with_reducible assumption); (case e => (iterate 903 fail))))
local macro_rules | `(tactic| iterate 904 fail) => `(tactic| first
  | with_reducible assumption
  | (apply line_le; simp only [List.length_cons, List.length_nil, List.length_append, List.length_map, List.length_range]; omega)
  | (apply line_lt; simp only [List.length_cons, List.length_nil, List.length_append, List.length_map, List.length_range]; omega))
local macro_rules | `(tactic| iterate 905 fail) => `(tactic| (apply line_le; first | (show List.length _ ≤ _; omega) | (simp only [U.T, PySem.Str.length, List.size_toArray, List.length_cons, List.length_nil, List.length_append, List.length_map, List.length_reverse]; omega)))
local macro_rules | `(tactic| iterate 906 fail) => `(tactic| first
  | with_reducible exact TyX.base (TyOf.str _) | with_reducible exact TyX.base (TyOf.int _) | with_reducible exact TyX.base (TyOf.bl _) | with_reducible exact TyX.base TyOf.non
  | (with_reducible refine' TyX.base (TyOf.lst ?h); (case h => (iterate 901 fail))) | (with_reducible refine' TyX.base (TyOf.tup ?h); (case h => (iterate 901 fail))) | (with_reducible refine' TyX.base (TyOf.dK ?h); (case h => (iterate 901 fail))))
local macro_rules | `(tactic| iterate 907 fail) => `(tactic| first
  | (with_reducible refine' k_tyL ?h ?k; (case h => (iterate 901 fail)))
  | (with_reducible refine' k_app ?h ?z ?k; (case h => (iterate 901 fail)); (case z => (iterate 904 fail)))
  | (with_reducible refine' k_gTup ?h ?z ?k; (case h => (iterate 902 fail)); (case z => exact rfl))
  | (with_reducible refine' k_I ?c ?k; (case c => first | decide | exact ⟨by decide, by decide⟩))
  | (with_reducible refine' k_ixL ?h ?a ?k; (case h => (iterate 902 fail)); (case a => exact rfl))
  | (with_reducible refine' k_ixT ?h ?a ?k; (case h => (iterate 902 fail)); (case a => exact rfl))
  | (with_reducible refine' k_lenL ?h ?k; (case h => (iterate 902 fail)))
  | (with_reducible refine' k_lenT ?h ?k; (case h => (iterate 902 fail)))
  | (with_reducible refine' k_lenS ?h ?k; (case h => (iterate 905 fail)))
  | (with_reducible refine' k_isi (b := true) ?t ?e ?k; (case t => (iterate 906 fail)); (case e => decide +kernel))
  | (with_reducible refine' k_isi (b := false) ?t ?e ?k; (case t => (iterate 906 fail)); (case e => decide +kernel)))
local macro_rules | `(tactic| iterate 908 fail) => `(tactic| first | with_reducible refine Stp.h ?_ | (iterate 907 fail))
local macro_rules | `(tactic| iterate 909 fail) => `(tactic| ((try dsimp only); repeat (iterate 908 fail)))
local macro_rules | `(tactic| iterate 910 fail) => `(tactic| (simp only [start_cons, start_nil, start_end]; repeat (iterate 908 fail)))

def topS (i : Nat) : Stmt := PySem.Challenge.pw_unison_k01_ridges.main.body.getD i (.Pass ⟨0, 0, 0, 0⟩)
section
variable {P : Program} {w : World} {K : PySem.W.Frag} {mg : Str → Option Value} {base : Heap}
/-- heights_of(ridge): any text, a step up where a u stands -/
def sp_heights_of : Sp := fun vs H Q _ => ∃ l : List Nat, vs = [.str (T l)] ∧ l.length ≤ 16000000 ∧ ∀ H' p, Ex H H' → H p = none → H' p = some (.lst ((hts l).map V.int)) → Q (.ref p) H'
abbrev s_heights_of : Stmt := topS 5
theorem sc_heights_of : FnScope ["ridge", "found", "step"] ["ridge"] (defScope s_heights_of) := ⟨rfl, rfl, rfl, by decide +kernel, rfl, by decide +kernel, by decide +kernel⟩
theorem ok_heights_of {f : Addr} {fd : FuncData} (F : Fun K "heights_of" "heights_of" s_heights_of f fd) : FnOk P w K mg base CX0 1 f fd ["ridge"] sp_heights_of := by
  refine F.ok sc_heights_of (fun vs H Q E h => ?_) (fun cdv A outer s H vs Q E hr h => ?_)
  · obtain ⟨l, rfl, _⟩ := h
    rfl
  have hu64 := hr.units
  obtain ⟨l, rfl, hz, q⟩ := h
  refine ⟨_, (pss_cons (ps_set (i := 1) sc_heights_of.nd rfl (.inl rfl) (pe_lst (pa_cons pe_int pa_nil)))
    (pss_cons (ps_for PassesOwn.never rfl (pi_str (pv 0)) (pg_name (i := 2) sc_heights_of.nd rfl (.inl rfl)) (pss_one (ps_if (pt_cmpR (op_eqUK (K := K) rfl hu64) (pv 2) pe_str (nomark _)) (pss_one (ps_expr (bmK (K := K) rfl (pe_bm PySem.F.plainAttrs_list PySem.F.slot_list_append PySem.F.type_list_append mt_append (pv 1) (pa_cons (pe_op (op_addUK (K := K) rfl) (pe_ix (ix_seqK (K := K) rfl) (pv 1) (pe_un un_neg pe_int) (fun _ _ => rfl)) pe_int) pa_nil))))) (pss_one (ps_expr (bmK (K := K) rfl (pe_bm PySem.F.plainAttrs_list PySem.F.slot_list_append PySem.F.type_list_append mt_append (pv 1) (pa_cons (pe_op op_sub (pe_ix (ix_seqK (K := K) rfl) (pv 1) (pe_un un_neg pe_int) (fun _ _ => rfl)) pe_int) pa_nil))))))))
    (pss_one (ps_ret (pv 1))))), ?_⟩
  (iterate 910 fail)
  refine ⟨by (iterate 904 fail), fun o no => ?_⟩
  (iterate 909 fail)
  refine for_str (z := T l) (fun i σ' H' => ∃ x, σ' = [some (.str (T l)), some (.ref o), x] ∧ i ≤ l.length ∧ Ex H H' ∧ H' o = some (.lst ((htsN l i).map V.int))) ⟨none, rfl, Nat.zero_le _, Ex.new no, upd_same⟩ (fun i c σ' H' hc hI => ?_) (fun σ' H' hI => ?_)
  · obtain ⟨x, rfl, hi, e, ho⟩ := hI
    have hc : l[i]? = some c := hc
    have hi3 : i + 1 ≤ l.length := (List.getElem?_eq_some_iff.mp hc).1
    have hl : (htsN l i).length = i + 1 := htsN_length _ _
    (iterate 909 fail)
    refine k_if (fun hu => ?_) (fun hu => ?_)
    · (iterate 909 fail)
      refine k_ixL (by (iterate 902 fail)) (htsN_atI _ _) ?_
      (iterate 909 fail)
      exact ⟨_, rfl, hi3, Ex.mut e no, by rw [upd_same, htsN_more hc]; rw [isU.mp hu]; rfl⟩
    · (iterate 909 fail)
      refine k_ixL (by (iterate 902 fail)) (htsN_atI _ _) ?_
      (iterate 909 fail)
      exact ⟨_, rfl, hi3, Ex.mut e no, by rw [upd_same, htsN_more hc]; unfold sgn; rw [if_neg fun z => hu (isU.mpr z)]; rfl⟩
  · obtain ⟨x, rfl, hi, e, ho⟩ := hI
    (iterate 909 fail)
    exact q _ _ e no ho

/-- asked_ridge(ridge), ridge one -/
def sp_asked_ridge0 : Sp := fun vs H Q _ => ∃ l : List Nat, vs = [.str (T l)] ∧ UD l ∧ l.length ≤ 16000000 ∧ Q .non H
abbrev s_asked_ridge : Stmt := topS 4
theorem sc_asked_ridge : FnScope ["ridge"] ["ridge"] (defScope s_asked_ridge) := ⟨rfl, rfl, rfl, by decide +kernel, rfl, by decide +kernel, by decide +kernel⟩
theorem ok_asked_ridge0 {f : Addr} {fd : FuncData} (F : Fun K "asked_ridge" "asked_ridge" s_asked_ridge f fd) (m_isinstance : mg "isinstance" = none) (m_str : mg "str" = none) : FnOk P w K mg base CX0 1 f fd ["ridge"] sp_asked_ridge0 := by
  refine F.ok sc_asked_ridge (fun vs H Q E h => ?_) (fun cdv A outer s H vs Q E hr h => ?_)
  · obtain ⟨l, rfl, _⟩ := h
    rfl
  have hu64 := hr.units
  obtain ⟨l, rfl, hl, hz, q⟩ := h
  refine ⟨_, (pss_one (ps_if ((pw_or (pt_not (pt_val (pe_callB (call_isiK2 (K := K) rfl) (by rfl) m_isinstance (by rfl) (pa_cons (pv 0) (pa_cons (pe_bltn (v := .ty "str") (u := .type "str") (by rfl) m_str (by rfl) rfl) pa_nil))))) (pw_or1 (pt_cmpR (op_neUK (K := K) rfl hu64) (bmK (K := K) rfl (pe_bm PySem.F.plainAttrs_str PySem.F.slot_str_strip PySem.F.type_str_strip mt_stripChars (pv 0) (pa_cons pe_str pa_nil))) pe_str (nomark _)))).pt) (pss_one ps_never) pss_nil)), ?_⟩
  (iterate 910 fail)
  refine ⟨_, _, rfl, rfl, by (iterate 905 fail), ?_⟩
  (iterate 909 fail)
  refine k_ifn (fun hn => (hn (strip_ud hl)).elim) (fun _ => ?_)
  (iterate 909 fail)
  exact q

/-- heights(ridge), ridge one -/
def sp_heights : Sp := fun vs H Q _ => ∃ l : List Nat, vs = [.str (T l)] ∧ UD l ∧ l.length ≤ 16000000 ∧ ∀ H' p, Ex H H' → H p = none → H' p = some (.lst ((hts l).map V.int)) → Q (.ref p) H'
abbrev s_heights : Stmt := topS 6
theorem sc_heights : FnScope ["ridge"] ["ridge"] (defScope s_heights) := ⟨rfl, rfl, rfl, by decide +kernel, rfl, by decide +kernel, by decide +kernel⟩
theorem ok_heights {f : Addr} {fd : FuncData} (F : Fun K "heights" "heights" s_heights f fd) (c_asked_ridge : Cal P w K mg base CX0 1 "asked_ridge" sp_asked_ridge0) (c_heights_of : Cal P w K mg base CX0 1 "heights_of" sp_heights_of) : FnOk P w K mg base CX0 2 f fd ["ridge"] sp_heights := by
  refine F.ok sc_heights (fun vs H Q E h => ?_) (fun cdv A outer s H vs Q E hr h => ?_)
  · obtain ⟨l, rfl, _⟩ := h
    rfl
  obtain ⟨l, rfl, hl, hz, q⟩ := h
  refine ⟨_, (pss_cons (ps_expr (pe_c0 c_asked_ridge hr (by decide) (by rfl) (pa_cons (pv 0) pa_nil)))
    (pss_one (ps_ret (pe_c0 c_heights_of hr (by decide) (by rfl) (pa_cons (pv 0) pa_nil))))), ?_⟩
  (iterate 910 fail)
  refine ⟨l, rfl, hl, hz, ?_⟩
  (iterate 909 fail)
  exact ⟨l, rfl, hz, q⟩

/-- turned_over(ridge): any text -/
def sp_turned_over : Sp := fun vs H Q _ => ∃ l : List Nat, vs = [.str (T l)] ∧ l.length ≤ 8000000 ∧ ∀ H', Ex H H' → Q (.str (T (l.map flipc))) H'
abbrev s_turned_over : Stmt := topS 7
theorem sc_turned_over : FnScope ["ridge", "step"] ["ridge"] (defScope s_turned_over) := ⟨rfl, rfl, rfl, by decide +kernel, rfl, by decide +kernel, by decide +kernel⟩
theorem ok_turned_over {f : Addr} {fd : FuncData} (F : Fun K "turned_over" "turned_over" s_turned_over f fd) : FnOk P w K mg base CX0 1 f fd ["ridge"] sp_turned_over := by
  refine F.ok sc_turned_over (fun vs H Q E h => ?_) (fun cdv A outer s H vs Q E hr h => ?_)
  · obtain ⟨l, rfl, _⟩ := h
    rfl
  have hu64 := hr.units
  obtain ⟨l, rfl, hz, q⟩ := h
  refine ⟨_, (pss_one (ps_ret (joinK (K := K) rfl (pe_join pe_str (lcV (vs := [1]) rfl (pe_lc (own := [("step", 1)]) (tt := tYes) rfl sc_turned_over.nd (pi_str (pv 0)) (blkOk_by (N := ["ridge", "step"]) (sc := defScope s_turned_over) (by decide +kernel)) (fun _ _ _ _ _ => (pg_name (i := 1) sc_turned_over.nd rfl (.inl rfl))) (fun _ _ _ _ _ => pts_nil) (fun _ _ _ _ _ => (pe_ifExp (pt_cmpR (op_eqUK (K := K) rfl hu64) (pv 1) pe_str (nomark _)) pe_str pe_str)))))))), ?_⟩
  (iterate 910 fail)
  refine m_lcS (l := l) (F := fun c => .str (T [flipc c])) (fun R k => by (iterate 909 fail); exact k _ (Ex.refl _)) (by omega) (fun i c H2 hc e Q k => ?_) (fun p H2 hp e h => ?_)
  · (iterate 909 fail)
    unfold flipc at k
    refine k_if (fun hu => ?_) (fun hu => ?_)
    · (iterate 909 fail)
      rw [if_pos (isU.mp hu)] at k
      rw [ofs_d]
      exact k _ (Ex.refl _)
    · (iterate 909 fail)
      rw [if_neg fun z => hu (isU.mpr z)] at k
      rw [ofs_u]
      exact k _ (Ex.refl _)
  · have h' : H2 p = some (.lst (((l.map flipc).map fun c => T [c]).map V.str)) := by
      rw [h, List.map_map, List.map_map]
      rfl
    refine k_join0 (ls := l.map flipc) (SqL.of h') (by rw [List.length_map]; omega) ?_
    (iterate 909 fail)
    exact q _ e

def sp_from_end : Sp := fun vs H Q _ => ∃ l : List Nat, vs = [.str (T l)] ∧ l.length ≤ 8000000 ∧ ∀ H', Ex H H' → Q (.str (T (l.reverse.map flipc))) H'
abbrev s_from_end : Stmt := topS 8
theorem sc_from_end : FnScope ["ridge"] ["ridge"] (defScope s_from_end) := ⟨rfl, rfl, rfl, by decide +kernel, rfl, by decide +kernel, by decide +kernel⟩
theorem ok_from_end {f : Addr} {fd : FuncData} (F : Fun K "from_end" "from_end" s_from_end f fd) (c_turned_over : Cal P w K mg base CX0 1 "turned_over" sp_turned_over) : FnOk P w K mg base CX0 2 f fd ["ridge"] sp_from_end := by
  refine F.ok sc_from_end (fun vs H Q E h => ?_) (fun cdv A outer s H vs Q E hr h => ?_)
  · obtain ⟨l, rfl, _⟩ := h
    rfl
  obtain ⟨l, rfl, hz, q⟩ := h
  refine ⟨_, (pss_one (ps_ret (pe_c0 c_turned_over hr (by decide) (by rfl) (pa_cons (pe_revS (pv 0)) pa_nil)))), ?_⟩
  (iterate 910 fail)
  refine ⟨by (iterate 905 fail), ?_⟩
  (iterate 909 fail)
  exact ⟨l.reverse, rfl, by rw [List.length_reverse]; exact hz, q⟩

def sp_upside_down : Sp := fun vs H Q _ => ∃ l : List Nat, vs = [.str (T l)] ∧ UD l ∧ l.length ≤ 8000000 ∧ ∀ H', Ex H H' → Q (.str (T (l.map flipc))) H'
abbrev s_upside_down : Stmt := topS 9
theorem sc_upside_down : FnScope ["ridge"] ["ridge"] (defScope s_upside_down) := ⟨rfl, rfl, rfl, by decide +kernel, rfl, by decide +kernel, by decide +kernel⟩
theorem ok_upside_down {f : Addr} {fd : FuncData} (F : Fun K "upside_down" "upside_down" s_upside_down f fd) (c_asked_ridge : Cal P w K mg base CX0 1 "asked_ridge" sp_asked_ridge0) (c_turned_over : Cal P w K mg base CX0 1 "turned_over" sp_turned_over) : FnOk P w K mg base CX0 2 f fd ["ridge"] sp_upside_down := by
  refine F.ok sc_upside_down (fun vs H Q E h => ?_) (fun cdv A outer s H vs Q E hr h => ?_)
  · obtain ⟨l, rfl, _⟩ := h
    rfl
  obtain ⟨l, rfl, hl, hz, q⟩ := h
  refine ⟨_, (pss_cons (ps_expr (pe_c0 c_asked_ridge hr (by decide) (by rfl) (pa_cons (pv 0) pa_nil)))
    (pss_one (ps_ret (pe_c0 c_turned_over hr (by decide) (by rfl) (pa_cons (pv 0) pa_nil))))), ?_⟩
  (iterate 910 fail)
  refine ⟨l, rfl, hl, by omega, ?_⟩
  (iterate 909 fail)
  exact ⟨l, rfl, hz, q⟩

def sp_about : Sp := fun vs H Q _ => ∃ l : List Nat, vs = [.str (T l)] ∧ UD l ∧ l.length ≤ 8000000 ∧ ∀ H', Ex H H' → Q (.str (T (l.reverse.map flipc))) H'
abbrev s_about : Stmt := topS 10
theorem sc_about : FnScope ["ridge"] ["ridge"] (defScope s_about) := ⟨rfl, rfl, rfl, by decide +kernel, rfl, by decide +kernel, by decide +kernel⟩
theorem ok_about {f : Addr} {fd : FuncData} (F : Fun K "about" "about" s_about f fd) (c_asked_ridge : Cal P w K mg base CX0 1 "asked_ridge" sp_asked_ridge0) (c_from_end : Cal P w K mg base CX0 2 "from_end" sp_from_end) : FnOk P w K mg base CX0 3 f fd ["ridge"] sp_about := by
  refine F.ok sc_about (fun vs H Q E h => ?_) (fun cdv A outer s H vs Q E hr h => ?_)
  · obtain ⟨l, rfl, _⟩ := h
    rfl
  obtain ⟨l, rfl, hl, hz, q⟩ := h
  refine ⟨_, (pss_cons (ps_expr (pe_c0 c_asked_ridge hr (by decide) (by rfl) (pa_cons (pv 0) pa_nil)))
    (pss_one (ps_ret (pe_c0 c_from_end hr (by decide) (by rfl) (pa_cons (pv 0) pa_nil))))), ?_⟩
  (iterate 910 fail)
  refine ⟨l, rfl, hl, by omega, ?_⟩
  (iterate 909 fail)
  exact ⟨l, rfl, hz, q⟩
end
end U

set_option Elab.async false
set_option linter.all false
set_option maxRecDepth 100000
set_option maxHeartbeats 4000000
namespace U
open PySem PySem.Spec PyProof.Rows L2
local macro_rules | `(tactic| iterate 901 fail) => `(tactic| first
  | with_reducible assumption
  | with_reducible exact upd_same
  | (with_reducible refine' Ex.use (Ex.new ?n) ?h; (case n => with_reducible assumption); (case h => (iterate 901 fail)))
  | (with_reducible refine' Ex.use ?n ?h; (case n => with_reducible assumption); (case h => (iterate 901 fail))))
local macro_rules | `(tactic| iterate 902 fail) => `(tactic| first
  | with_reducible assumption
  | (with_reducible refine' SqL.of ?h; (case h => (iterate 901 fail)))
  | (with_reducible refine' SqT.of ?h; (case h => (iterate 901 fail)))
  | (iterate 912 fail))
local macro_rules | `(tactic| iterate 912 fail) => `(tactic| first
  | with_reducible assumption
  | (with_reducible refine' Ex.sql (Ex.new ?n) ?h; (case n => with_reducible assumption); (case h => (iterate 912 fail)))
  | (with_reducible refine' Ex.sqt (Ex.new ?n) ?h; (case n => with_reducible assumption); (case h => (iterate 912 fail)))
  | (with_reducible refine' Ex.sql ?n ?h; (case n => with_reducible assumption); (case h => (iterate 912 fail)))
  | (with_reducible refine' Ex.sqt ?n ?h; (case n => with_reducible assumption); (case h => (iterate 912 fail))))
local macro_rules | `(tactic| iterate 903 fail) => `(tactic| first
  | with_reducible assumption
  | with_reducible exact Ex.refl _
  | (with_reducible refine' Ex.mk ?e ?n; (case n => with_reducible assumption); (case e => (iterate 903 fail)))
  | (with_reducible refine' Ex.trans ?e ?n; (case n => with_reducible assumption); (case e => (iterate 903 fail))))
local macro_rules | `(tactic| iterate 904 fail) => `(tactic| first
  | with_reducible assumption
  | (apply line_le; simp only [List.length_cons, List.length_nil, List.length_append, List.length_map, List.length_range]; omega)
  | (apply line_lt; simp only [List.length_cons, List.length_nil, List.length_append, List.length_map, List.length_range]; omega))
local macro_rules | `(tactic| iterate 905 fail) => `(tactic| (apply line_le; first | (show List.length _ ≤ _; omega) | (simp only [U.T, PySem.Str.length, List.size_toArray, List.length_cons, List.length_nil, List.length_append, List.length_map, List.length_reverse]; omega)))
local macro_rules | `(tactic| iterate 906 fail) => `(tactic| first
  | with_reducible exact TyX.base (TyOf.str _) | with_reducible exact TyX.base (TyOf.int _) | with_reducible exact TyX.base (TyOf.bl _) | with_reducible exact TyX.base TyOf.non
  | (with_reducible refine' TyX.base (TyOf.lst ?h); (case h => (iterate 901 fail))) | (with_reducible refine' TyX.base (TyOf.tup ?h); (case h => (iterate 901 fail))) | (with_reducible refine' TyX.base (TyOf.dK ?h); (case h => (iterate 901 fail))))
local macro_rules | `(tactic| iterate 907 fail) => `(tactic| first
  | (with_reducible refine' k_tyL ?h ?k; (case h => (iterate 901 fail)))
  | (with_reducible refine' k_app ?h ?z ?k; (case h => (iterate 901 fail)); (case z => (iterate 904 fail)))
  | (with_reducible refine' k_gTup ?h ?z ?k; (case h => (iterate 902 fail)); (case z => exact rfl))
  | (with_reducible refine' k_I ?c ?k; (case c => first | decide | exact ⟨by decide, by decide⟩))
  | (with_reducible refine' k_ixL ?h ?a ?k; (case h => (iterate 902 fail)); (case a => exact rfl))
  | (with_reducible refine' k_ixT ?h ?a ?k; (case h => (iterate 902 fail)); (case a => exact rfl))
  | (with_reducible refine' k_lenL ?h ?k; (case h => (iterate 902 fail)))
  | (with_reducible refine' k_lenT ?h ?k; (case h => (iterate 902 fail)))
  | (with_reducible refine' k_lenS ?h ?k; (case h => (iterate 905 fail)))
  | (with_reducible refine' k_isi (b := true) ?t ?e ?k; (case t => (iterate 906 fail)); (case e => decide +kernel))
  | (with_reducible refine' k_isi (b := false) ?t ?e ?k; (case t => (iterate 906 fail)); (case e => decide +kernel)))
local macro_rules | `(tactic| iterate 908 fail) => `(tactic| first | with_reducible refine Stp.h ?_ | (iterate 907 fail))
local macro_rules | `(tactic| iterate 909 fail) => `(tactic| ((try dsimp only); repeat (iterate 908 fail)))
local macro_rules | `(tactic| iterate 910 fail) => `(tactic| (simp only [start_cons, start_nil, start_end]; repeat (iterate 908 fail)))

section
variable {P : Program} {w : World} {K : PySem.W.Frag} {mg : Str → Option Value} {base : Heap}
abbrev s_L_heights : Stmt := topS 12
theorem sc_L_heights : FnScope ["_law_ridge", "_law_found", "_law_step"] ["_law_ridge"] (defScope s_L_heights) := ⟨rfl, rfl, rfl, by decide +kernel, rfl, by decide +kernel, by decide +kernel⟩
theorem ok_L_heights {f : Addr} {fd : FuncData} (F : Fun K "_law_heights" "_law_heights" s_L_heights f fd) : FnOk P w K mg base CX0 1 f fd ["_law_ridge"] sp_heights := by
  refine F.ok sc_L_heights (fun vs H Q E h => ?_) (fun cdv A outer s H vs Q E hr h => ?_)
  · obtain ⟨l, rfl, _⟩ := h
    rfl
  have hu := hu_of hr
  have hu64 := hr.units
  obtain ⟨l, rfl, hl, hz, q⟩ := h
  refine ⟨_, (pss_cons (ps_set (i := 1) sc_L_heights.nd rfl (.inl rfl) (pe_lst (pa_cons pe_int pa_nil)))
    (pss_cons (ps_for PassesOwn.never rfl (pi_str (pv 0)) (pg_name (i := 2) sc_L_heights.nd rfl (.inl rfl)) (pss_one (ps_expr (bmK (K := K) rfl (pe_bm PySem.F.plainAttrs_list PySem.F.slot_list_append PySem.F.type_list_append mt_append (pv 1) (pa_cons (pe_op (op_addUK (K := K) rfl) (pe_ix (ix_seqK (K := K) rfl) (pv 1) (pe_un un_neg pe_int) (fun _ _ => rfl)) (pe_dget hu (pe_disp (pps_cons pe_str pe_int (pps_cons pe_str (pe_un un_neg pe_int) pps_nil)) rfl rfl (by simp) (by decide)) (pv 2) (fun _ _ => rfl))) pa_nil))))))
    (pss_one (ps_ret (pv 1))))), ?_⟩
  (iterate 910 fail)
  refine ⟨by (iterate 904 fail), fun o no => ?_⟩
  (iterate 909 fail)
  refine for_str (z := T l) (fun i σ' H' => ∃ x, σ' = [some (.str (T l)), some (.ref o), x] ∧ i ≤ l.length ∧ Ex H H' ∧ H' o = some (.lst ((htsN l i).map V.int))) ⟨none, rfl, Nat.zero_le _, Ex.new no, upd_same⟩ (fun i c σ' H' hc hI => ?_) (fun σ' H' hI => ?_)
  · obtain ⟨x, rfl, hi, e, ho⟩ := hI
    have hc : l[i]? = some c := hc
    have hi3 : i + 1 ≤ l.length := (List.getElem?_eq_some_iff.mp hc).1
    have hl3 : (htsN l i).length = i + 1 := htsN_length _ _
    (iterate 909 fail)
    refine k_ixL (by (iterate 902 fail)) (htsN_atI _ _) ?_
    (iterate 909 fail)
    refine k_udGet (c := c) rfl (hl c (List.mem_of_getElem? hc)) fun H1 e1 => ?_
    (iterate 909 fail)
    exact ⟨_, rfl, hi3, Ex.mut (e.trans e1) no, by rw [upd_same, htsN_more hc rfl]⟩
  · obtain ⟨x, rfl, hi, e, ho⟩ := hI
    (iterate 909 fail)
    exact q _ _ e no ho

def udc (n : Int) : Nat := if n % 2 = 0 then 117 else 100
theorem udc_ud (ns : List Int) : UD (ns.map udc) := fun c hc => by
  obtain ⟨n, _, rfl⟩ := List.mem_map.mp hc
  unfold udc
  split
  · exact .inl rfl
  · exact .inr rfl
theorem udc_at (n : Int) : atI (Str.ofString "ud").cps.toList (n % 2) = some (udc n) := by
  rw [ofs_ud]
  unfold udc
  have h : n % 2 = 0 ∨ n % 2 = 1 := by omega
  rcases h with h | h <;> rw [h] <;> rfl
def sp_law (K : PySem.W.Frag) : Sp := fun vs H Q _ => ∃ (a : Addr) (ns : List Int), vs = [.ref a] ∧ SqL K H a (ns.map V.int) ∧ ns.length ≤ 63 ∧ ∀ H', Q (.bl true) H'
abbrev s_law : Stmt := topS 13
theorem sc_law : FnScope ["_law_script", "_law_ridge", "_law_told", "_law_again", "_law_found", "_law_over", "_law_back", "_law_at", "_law_cell", "_law_step", "_law_one"] ["_law_script"] (defScope s_law) := ⟨rfl, rfl, rfl, by decide +kernel, rfl, by decide +kernel, by decide +kernel⟩
theorem ok_law {f : Addr} {fd : FuncData} (F : Fun K "law" "law" s_law f fd) (c_L_heights : Cal P w K mg base CX0 1 "_law_heights" sp_heights) (c_heights : Cal P w K mg base CX0 2 "heights" sp_heights) (c_upside_down : Cal P w K mg base CX0 2 "upside_down" sp_upside_down)
    (c_about : Cal P w K mg base CX0 3 "about" sp_about) (m_range : mg "range" = none) (m_isinstance : mg "isinstance" = none) (m_list : mg "list" = none) (m_bool : mg "bool" = none) (m_any : mg "any" = none) (m_str : mg "str" = none) (m_len : mg "len" = none) (m_all : mg "all" = none) :
    FnOk P w K mg base CX0 4 f fd ["_law_script"] (sp_law K) := by
  refine F.ok sc_law (fun vs H Q E h => ?_) (fun cdv A outer s H vs Q E hr h => ?_)
  · obtain ⟨a, ns, rfl, _⟩ := h
    rfl
  have hu := hu_of hr
  have hu64 := hr.units
  obtain ⟨a, ns, rfl, hS, hlen, q⟩ := h
  refine ⟨_, (pss_cons (ps_set (i := 1) sc_law.nd rfl (.inl rfl) (joinK (K := K) rfl (pe_join pe_str (lcV (vs := [8]) rfl (pe_lc (own := [("_law_cell", 8)]) (tt := tYes) rfl sc_law.nd (listIK (K := K) rfl (pi_list (pv 0))) (blkOk_by (N := ["_law_script", "_law_ridge", "_law_told", "_law_again", "_law_found", "_law_over", "_law_back", "_law_at", "_law_cell", "_law_step", "_law_one"]) (sc := defScope s_law) (by decide +kernel)) (fun _ _ _ _ _ => (pg_name (i := 8) sc_law.nd rfl (.inl rfl))) (fun _ _ _ _ _ => pts_nil) (fun _ _ _ _ _ => (pe_ix (ix_seqK (K := K) rfl) pe_str (pe_op op_mod (pv 8) pe_int) (fun _ _ => rfl))))))))
    (pss_cons (ps_set (i := 2) sc_law.nd rfl (.inr rfl) (pe_c0 c_L_heights hr (by decide) (by rfl) (pa_cons (pv 1) pa_nil)))
    (pss_cons (ps_for PassesOwn.never rfl (pi_range1 (by rfl) m_range (pa_cons pe_int pa_nil)) (pg_name (i := 3) sc_law.nd rfl (.inl rfl)) (pss_cons (ps_set (i := 4) sc_law.nd rfl (.inl rfl) (pe_c0 c_heights hr (by decide) (by rfl) (pa_cons (pv 1) pa_nil)))
    (pss_cons (ps_if ((pw_or (pt_not (pt_val (pe_callB (call_isiK2 (K := K) rfl) (by rfl) m_isinstance (by rfl) (pa_cons (pv 4) (pa_cons (pe_bltn (v := .ty "list") (u := .type "list") (by rfl) m_list (by rfl) rfl) pa_nil))))) (pw_or (pt_cmpR (op_neUK (K := K) rfl hu64) (pv 4) (pv 2) (nomark _)) (pw_or1 (pt_val (pe_callB (cr_anyK (K := K) rfl rfl) (by rfl) m_any (by rfl) (pa_cons (lcV (vs := [10]) rfl (pe_lc (own := [("_law_one", 10)]) (tt := tYes) rfl sc_law.nd (listIK (K := K) rfl (pi_list (pv 4))) (blkOk_by (N := ["_law_script", "_law_ridge", "_law_told", "_law_again", "_law_found", "_law_over", "_law_back", "_law_at", "_law_cell", "_law_step", "_law_one"]) (sc := defScope s_law) (by decide +kernel)) (fun _ _ _ _ _ => (pg_name (i := 10) sc_law.nd rfl (.inl rfl))) (fun _ _ _ _ _ => pts_nil) (fun _ _ _ _ _ => (pe_callB (call_isiK2 (K := K) rfl) (by rfl) m_isinstance (by rfl) (pa_cons (pv 10) (pa_cons (pe_bltn (v := .ty "bool") (u := .type "bool") (by rfl) m_bool (by rfl) rfl) pa_nil)))))) pa_nil)))))).pt) (pss_one (ps_ret pe_bl)) pss_nil)
    (pss_one (ps_expr (bmK (K := K) rfl (pe_bm PySem.F.plainAttrs_list PySem.F.slot_list_append PySem.F.type_list_append mt_append (pv 4) (pa_cons pe_int pa_nil))))))))
    (pss_cons (ps_set (i := 5) sc_law.nd rfl (.inl rfl) (pe_c0 c_upside_down hr (by decide) (by rfl) (pa_cons (pv 1) pa_nil)))
    (pss_cons (ps_set (i := 6) sc_law.nd rfl (.inl rfl) (pe_c0 c_about hr (by decide) (by rfl) (pa_cons (pv 1) pa_nil)))
    (pss_cons (ps_if ((pw_or (pt_not (pt_val (pe_callB (call_isiK2 (K := K) rfl) (by rfl) m_isinstance (by rfl) (pa_cons (pv 5) (pa_cons (pe_bltn (v := .ty "str") (u := .type "str") (by rfl) m_str (by rfl) rfl) pa_nil))))) (pw_or (pt_not (pt_val (pe_callB (call_isiK2 (K := K) rfl) (by rfl) m_isinstance (by rfl) (pa_cons (pv 6) (pa_cons (pe_bltn (v := .ty "str") (u := .type "str") (by rfl) m_str (by rfl) rfl) pa_nil))))) (pw_or (pt_cmpR (op_neUK (K := K) rfl hu64) (pe_callB (call_lenUK (K := K) rfl) (by rfl) m_len (by rfl) (pa_cons (pv 5) pa_nil)) (pe_callB (call_lenUK (K := K) rfl) (by rfl) m_len (by rfl) (pa_cons (pv 1) pa_nil)) (nomark _)) (pw_or1 (pt_cmpR (op_neUK (K := K) rfl hu64) (pe_callB (call_lenUK (K := K) rfl) (by rfl) m_len (by rfl) (pa_cons (pv 6) pa_nil)) (pe_callB (call_lenUK (K := K) rfl) (by rfl) m_len (by rfl) (pa_cons (pv 1) pa_nil)) (nomark _)))))).pt) (pss_one (ps_ret pe_bl)) pss_nil)
    (pss_cons (ps_if (pt_not (pt_val (pe_callB (cr_allK (K := K) rfl rfl) (by rfl) m_all (by rfl) (pa_cons (lcV (vs := [9]) rfl (pe_lc (own := [("_law_step", 9)]) (tt := tYes) rfl sc_law.nd (pi_str (pe_op (op_addUK (K := K) rfl) (pv 5) (pv 6))) (blkOk_by (N := ["_law_script", "_law_ridge", "_law_told", "_law_again", "_law_found", "_law_over", "_law_back", "_law_at", "_law_cell", "_law_step", "_law_one"]) (sc := defScope s_law) (by decide +kernel)) (fun _ _ _ _ _ => (pg_name (i := 9) sc_law.nd rfl (.inl rfl))) (fun _ _ _ _ _ => pts_nil) (fun _ _ _ _ _ => (pe_cmpR (op_inK (K := K) rfl) (pv 9) (pe_lst (pa_cons pe_str (pa_cons pe_str pa_nil))) rfl)))) pa_nil)))) (pss_one (ps_ret pe_bl)) pss_nil)
    (pss_cons (ps_for PassesOwn.never rfl (pi_range1 (by rfl) m_range (pa_cons (pe_callB (call_lenUK (K := K) rfl) (by rfl) m_len (by rfl) (pa_cons (pv 1) pa_nil)) pa_nil)) (pg_name (i := 7) sc_law.nd rfl (.inl rfl)) (pss_one (ps_if ((pw_or (pt_cmpR (op_eqUK (K := K) rfl hu64) (pe_ix (ix_seqK (K := K) rfl) (pv 5) (pv 7) (fun _ _ => rfl)) (pe_ix (ix_seqK (K := K) rfl) (pv 1) (pv 7) (fun _ _ => rfl)) (nomark _)) (pw_or1 (pt_cmpR (op_eqUK (K := K) rfl hu64) (pe_ix (ix_seqK (K := K) rfl) (pv 6) (pe_op op_sub (pe_op op_sub (pe_callB (call_lenUK (K := K) rfl) (by rfl) m_len (by rfl) (pa_cons (pv 1) pa_nil)) pe_int) (pv 7)) (fun _ _ => rfl)) (pe_ix (ix_seqK (K := K) rfl) (pv 1) (pv 7) (fun _ _ => rfl)) (nomark _)))).pt) (pss_one (ps_ret pe_bl)) pss_nil)))
    (pss_cons (ps_if ((pw_or (pt_cmpR (op_neUK (K := K) rfl hu64) (pe_c0 c_L_heights hr (by decide) (by rfl) (pa_cons (pv 5) pa_nil)) (lcV (vs := [10]) rfl (pe_lc (own := [("_law_one", 10)]) (tt := tYes) rfl sc_law.nd (listIK (K := K) rfl (pi_list (pv 2))) (blkOk_by (N := ["_law_script", "_law_ridge", "_law_told", "_law_again", "_law_found", "_law_over", "_law_back", "_law_at", "_law_cell", "_law_step", "_law_one"]) (sc := defScope s_law) (by decide +kernel)) (fun _ _ _ _ _ => (pg_name (i := 10) sc_law.nd rfl (.inl rfl))) (fun _ _ _ _ _ => pts_nil) (fun _ _ _ _ _ => (pe_un un_neg (pv 10))))) (nomark _)) (pw_or1 (pt_cmpR (op_neUK (K := K) rfl hu64) (pe_c0 c_L_heights hr (by decide) (by rfl) (pa_cons (pv 6) pa_nil)) (lcV (vs := [10]) rfl (pe_lc (own := [("_law_one", 10)]) (tt := tYes) rfl sc_law.nd (listIK (K := K) rfl (pi_list (revLK (K := K) rfl (pe_revL (pv 2))))) (blkOk_by (N := ["_law_script", "_law_ridge", "_law_told", "_law_again", "_law_found", "_law_over", "_law_back", "_law_at", "_law_cell", "_law_step", "_law_one"]) (sc := defScope s_law) (by decide +kernel)) (fun _ _ _ _ _ => (pg_name (i := 10) sc_law.nd rfl (.inl rfl))) (fun _ _ _ _ _ => pts_nil) (fun _ _ _ _ _ => (pe_op op_sub (pv 10) (pe_ix (ix_seqK (K := K) rfl) (pv 2) (pe_un un_neg pe_int) (fun _ _ => rfl)))))) (nomark _)))).pt) (pss_one (ps_ret pe_bl)) pss_nil)
    (pss_one (ps_ret (pe_and (pe_cmpR (op_eqUK (K := K) rfl hu64) (pe_c0 c_upside_down hr (by decide) (by rfl) (pa_cons (pv 5) pa_nil)) (pv 1) (nomark _)) (pe_and (pe_cmpR (op_eqUK (K := K) rfl hu64) (pe_c0 c_about hr (by decide) (by rfl) (pa_cons (pv 6) pa_nil)) (pv 1) (nomark _)) (pe_one (pe_cmpR (op_eqUK (K := K) rfl hu64) (pe_c0 c_upside_down hr (by decide) (by rfl) (pa_cons (pv 6) pa_nil)) (pe_c0 c_about hr (by decide) (by rfl) (pa_cons (pv 5) pa_nil)) (nomark _)))))))))))))))), ?_⟩
  (iterate 910 fail)
  refine m_lcL (xs := ns.map V.int) (F := FV fun n => .str (T [udc n])) (fun R k => by (iterate 909 fail); exact k _ _ (Ex.refl _) hS) (by rw [List.length_map]; omega) (fun i x H2 hc e Q k => ?_) (fun p H1 hp e1 h => ?_)
  · obtain ⟨n, _, rfl⟩ := ints_at hc
    (iterate 909 fail)
    refine k_ixS (by rw [ofs_ud]; (iterate 905 fail)) (udc_at n) ?_
    exact k _ (Ex.refl _)
  have hl := udc_ud ns
  have hn : (ns.map udc).length ≤ 63 := by rw [List.length_map]; exact hlen
  generalize el : ns.map udc = l at hl hn
  have h' : H1 p = some (.lst ((l.map fun c => T [c]).map V.str)) := by
    rw [h, FV_map, ← el, List.map_map, List.map_map]
    rfl
  refine k_join0 (ls := l) (SqL.of h') (by omega) ?_
  (iterate 909 fail)
  refine ⟨l, rfl, hl, by omega, fun H2 pT e2 nT hT => ?_⟩
  (iterate 909 fail)
  refine ⟨2, rfl, by decide, by decide, for_range (n := 2) (fun i σ' H' => ∃ x y, σ' = [some (.ref a), some (.str (T l)), some (.ref pT), x, y, none, none, none, none, none, none] ∧ Ex H2 H') ⟨none, none, rfl, Ex.refl _⟩ (fun i σ' H' hi hI => ?_) (fun σ' H' hI => ?_)⟩
  · obtain ⟨x, y, rfl, e⟩ := hI
    (iterate 909 fail)
    refine ⟨l, rfl, hl, by omega, fun H3 pF e3 nF hF => ?_⟩
    (iterate 909 fail)
    refine k_neInts (by (iterate 902 fail)) (by (iterate 902 fail)) ?_
    rw [decide_eq_true rfl]
    (iterate 909 fail)
    refine m_lcL (xs := (hts l).map V.int) (F := FV fun _ => .bl false) (fun R k => by (iterate 909 fail); exact k _ _ (Ex.refl _) (by (iterate 902 fail))) (by rw [List.length_map, hts_length]; omega) (fun i x H2 hc e Q k => ?_) (fun p H4 hp e4 h4 => ?_)
    · obtain ⟨n, _, rfl⟩ := ints_at hc
      (iterate 909 fail)
      exact k _ (Ex.refl _)
    (iterate 909 fail)
    have h5 : H4 p = some (.lst (((hts l).map fun _ => false).map V.bl)) := by
      rw [h4, FV_map, List.map_map]
      rfl
    refine k_any (SqL.of h5) ?_
    rw [show ((hts l).map fun _ => false).any id = false by simp]
    (iterate 909 fail)
    refine k_app (by (iterate 901 fail)) (by rw [List.length_map, hts_length]; exact line_lt (by omega)) ?_
    (iterate 909 fail)
    exact ⟨_, _, rfl, Ex.mut ((e.trans e3).trans e4) (e.free nF)⟩
  · obtain ⟨x, y, rfl, e⟩ := hI
    (iterate 909 fail)
    refine ⟨l, rfl, hl, by omega, fun H3 e3 => ?_⟩
    (iterate 909 fail)
    refine ⟨l, rfl, hl, by omega, fun H4 e4 => ?_⟩
    have n0 : (T l).length = l.length := rfl
    have n1 : (T (l.map flipc)).length = (T l).length := by rw [T_len, T_len, List.length_map]
    have n2 : (T (l.reverse.map flipc)).length = (T l).length := by rw [T_len, T_len, List.length_map, List.length_reverse]
    (iterate 909 fail)
    refine k_ifn (fun h => (h (by rw [n1])).elim) (fun _ => ?_)
    (iterate 909 fail)
    refine k_ifn (fun h => (h (by rw [n2])).elim) (fun _ => ?_)
    (iterate 909 fail)
    refine m_lcS (l := l.map flipc ++ l.reverse.map flipc) (F := fun _ => .bl true) (fun R k => by (iterate 909 fail); refine k_addS (by (iterate 905 fail)) ?_; rw [T_cat]; exact k _ (Ex.refl _)) (by rw [List.length_append, List.length_map, List.length_map, List.length_reverse]; omega) (fun i c H2 hc e Q k => ?_) (fun p H5 hp e5 h5 => ?_)
    · have hm : c = 117 ∨ c = 100 := by
        have hm := List.mem_of_getElem? hc
        rcases List.mem_append.mp hm with hm | hm
        · exact flip_ud l c hm
        · exact flip_ud l.reverse c hm
      (iterate 909 fail)
      refine ⟨by (iterate 904 fail), fun p hp => ?_⟩
      refine ⟨p, _, rfl, .inl (SqL.of upd_same), rfl, rfl, ?_⟩
      rw [ofs_u, ofs_d]
      have hb : inV (.str (T [c])) [V.str ⟨#[117]⟩, V.str ⟨#[100]⟩] = true := by
        rcases hm with e | e <;> subst e <;> decide
      rw [if_neg Bool.false_ne_true, hb]
      exact k _ (Ex.new hp)
    (iterate 909 fail)
    have h6 : H5 p = some (.lst (((l.map flipc ++ l.reverse.map flipc).map fun _ => true).map V.bl)) := by
      rw [h5, List.map_map]
      rfl
    refine k_all (SqL.of h6) ?_
    rw [show ((l.map flipc ++ l.reverse.map flipc).map fun _ => true).all id = true by simp]
    (iterate 909 fail)
    refine ⟨_, rfl, by omega, by omega, for_range (n := l.length) (fun i σ' H' => ∃ z, σ' = [some (.ref a), some (.str (T l)), some (.ref pT), x, y, some (.str (T (l.map flipc))), some (.str (T (l.reverse.map flipc))), z, none, none, none] ∧ Ex H5 H') ⟨_, rfl, Ex.refl _⟩ (fun i σ' H' hi hI => ?_) (fun σ' H' hI => ?_)⟩
    · obtain ⟨z6, rfl, e6⟩ := hI
      obtain ⟨c, hc⟩ : ∃ c, l[i]? = some c := ⟨_, List.getElem?_eq_getElem hi⟩
      have hcc := hl c (List.mem_of_getElem? hc)
      have hf : ¬ (⟨#[flipc c]⟩ : Str) = ⟨#[c]⟩ := fun z => by
        have z := one_iff.mp z
        rcases hcc with e | e <;> subst e <;> revert z <;> decide
      have g1 : atI l (0 + (i : Int)) = some c := by rw [Int.zero_add]; exact atI_nat hc
      have g2 : atI (l.map flipc) (0 + (i : Int)) = some (flipc c) := by rw [Int.zero_add]; exact atI_nat (by rw [List.getElem?_map, hc]; rfl)
      have g3 : atI (l.reverse.map flipc) (((T l).length : Int) - 1 - (0 + (i : Int))) = some (flipc c) := by
        rw [show ((T l).length : Int) - 1 - (0 + (i : Int)) = ((l.length - 1 - i : Nat) : Int) by rw [n0]; omega]
        refine atI_nat ?_
        rw [List.getElem?_map, List.getElem?_reverse (by omega), show l.length - 1 - (l.length - 1 - i) = i by omega, hc]
        rfl
      (iterate 909 fail)
      refine k_ixS (by (iterate 905 fail)) g2 ?_
      (iterate 909 fail)
      refine k_ixS (by (iterate 905 fail)) g1 ?_
      (iterate 909 fail)
      refine k_if (fun z => (hf z).elim) (fun _ => ?_)
      (iterate 909 fail)
      refine k_ixS (by (iterate 905 fail)) g3 ?_
      (iterate 909 fail)
      refine k_ixS (by (iterate 905 fail)) g1 ?_
      (iterate 909 fail)
      refine k_if (fun z => (hf z).elim) (fun _ => ?_)
      (iterate 909 fail)
      exact ⟨_, rfl, e6⟩
    · obtain ⟨x2, rfl, e6⟩ := hI
      (iterate 909 fail)
      refine ⟨_, rfl, flip_ud l, by rw [List.length_map]; omega, fun H7 q7 e7 n7 h7 => ?_⟩
      (iterate 909 fail)
      refine m_lcL (xs := (hts l).map V.int) (F := FV fun n => .int (-n)) (fun R k => by (iterate 909 fail); exact k _ _ (Ex.refl _) (by (iterate 902 fail))) (by rw [List.length_map, hts_length]; omega) (fun i x H2 hc e Q k => ?_) (fun p8 H8 hp8 e8 h8 => ?_)
      · obtain ⟨n, _, rfl⟩ := ints_at hc
        (iterate 909 fail)
        exact k _ (Ex.refl _)
      have h9 : H8 p8 = some (.lst ((hts (l.map flipc)).map V.int)) := by rw [h8, FV_map, hts_flip, List.map_map]; rfl
      refine k_neInts (by (iterate 902 fail)) (SqL.of h9) ?_
      rw [decide_eq_true rfl]
      (iterate 909 fail)
      refine ⟨_, rfl, flip_ud l.reverse, by rw [List.length_map, List.length_reverse]; omega, fun H10 q10 e10 n10 h10 => ?_⟩
      (iterate 909 fail)
      refine m_lcL (xs := ((hts l).reverse).map V.int) (F := FV fun n => .int (n - hAt l)) (fun R k => by
        (iterate 909 fail)
        refine ⟨_, _, rfl, by (iterate 902 fail), fun p np => ?_⟩
        exact k _ _ (Ex.new np) (SqL.of (by rw [upd_same, List.map_reverse]))) (by rw [List.length_map, List.length_reverse, hts_length]; omega) (fun i x H2 hc e Q k => ?_) (fun p11 H11 hp11 e11 h11 => ?_)
      · obtain ⟨n, _, rfl⟩ := ints_at hc
        (iterate 909 fail)
        refine k_ixL (by (iterate 902 fail)) (hts_last l) ?_
        (iterate 909 fail)
        exact k _ (Ex.refl _)
      have h12 : H11 p11 = some (.lst ((hts (l.reverse.map flipc)).map V.int)) := by rw [h11, FV_map, hts_back, List.map_map]; rfl
      refine k_neInts (by (iterate 902 fail)) (SqL.of h12) ?_
      rw [decide_eq_true rfl]
      (iterate 909 fail)
      have len1 : (l.map flipc).length ≤ 8000000 := by rw [List.length_map]; omega
      have len2 : (l.reverse.map flipc).length ≤ 8000000 := by rw [List.length_map, List.length_reverse]; omega
      refine ⟨_, rfl, flip_ud l, len1, fun H13 e13 => ?_⟩
      rw [flip_flip hl]
      (iterate 909 fail)
      rw [decide_eq_true rfl]
      (iterate 909 fail)
      refine ⟨_, rfl, flip_ud l.reverse, len2, fun H14 e14 => ?_⟩
      rw [← List.map_reverse, List.reverse_reverse, flip_flip hl]
      (iterate 909 fail)
      rw [decide_eq_true rfl]
      (iterate 909 fail)
      refine ⟨_, rfl, flip_ud l.reverse, len2, fun H15 e15 => ?_⟩
      (iterate 909 fail)
      refine ⟨_, rfl, flip_ud l, len1, fun H16 e16 => ?_⟩
      (iterate 909 fail)
      rw [List.map_reverse, decide_eq_true rfl]
      exact q _
end
end U

namespace U
open PySem PySem.Spec PyProof.Rows L2
/-! ### what the top has written; the law's row -/
theorem all_mk {l : PySem.W.OpenLaw} {w : World} {K : PySem.W.Frag} {h : Heap} {mg : Str → Option Value} {fa f1 f2 f3 f4 f5 f6 f7 f8 f9 : Addr} (X : K.In h) (G : h.Ns mainGlobals mg) (hfa : mg "law" = some (.ref fa))
    {od1 an1 : Option Addr} {sl1 : Array (Option Value)} {oc1 kV1 dc1 pm1 cd1 ct1 : Value}
    (a1 : PySem.W.nsIn K mainGlobals "heights_of" = some (some (.ref f1))) (l1 : K.lookup f1 = some ⟨oc1, od1, .func (PySem.W.fnOf "heights_of" "heights_of" (defArgs s_heights_of) (defBody s_heights_of) (defScope s_heights_of) .none kV1 dc1 pm1 an1 cd1 ct1), sl1⟩) (c1 : PySem.W.codeIn K cd1 "heights_of" = true) (k1 : PySem.W.keepIn K (.ref f1) = true)
    {od2 an2 : Option Addr} {sl2 : Array (Option Value)} {oc2 kV2 dc2 pm2 cd2 ct2 : Value}
    (a2 : PySem.W.nsIn K mainGlobals "asked_ridge" = some (some (.ref f2))) (l2 : K.lookup f2 = some ⟨oc2, od2, .func (PySem.W.fnOf "asked_ridge" "asked_ridge" (defArgs s_asked_ridge) (defBody s_asked_ridge) (defScope s_asked_ridge) .none kV2 dc2 pm2 an2 cd2 ct2), sl2⟩) (c2 : PySem.W.codeIn K cd2 "asked_ridge" = true) (k2 : PySem.W.keepIn K (.ref f2) = true)
    {od3 an3 : Option Addr} {sl3 : Array (Option Value)} {oc3 kV3 dc3 pm3 cd3 ct3 : Value}
    (a3 : PySem.W.nsIn K mainGlobals "heights" = some (some (.ref f3))) (l3 : K.lookup f3 = some ⟨oc3, od3, .func (PySem.W.fnOf "heights" "heights" (defArgs s_heights) (defBody s_heights) (defScope s_heights) .none kV3 dc3 pm3 an3 cd3 ct3), sl3⟩) (c3 : PySem.W.codeIn K cd3 "heights" = true) (k3 : PySem.W.keepIn K (.ref f3) = true)
    {od4 an4 : Option Addr} {sl4 : Array (Option Value)} {oc4 kV4 dc4 pm4 cd4 ct4 : Value}
    (a4 : PySem.W.nsIn K mainGlobals "turned_over" = some (some (.ref f4))) (l4 : K.lookup f4 = some ⟨oc4, od4, .func (PySem.W.fnOf "turned_over" "turned_over" (defArgs s_turned_over) (defBody s_turned_over) (defScope s_turned_over) .none kV4 dc4 pm4 an4 cd4 ct4), sl4⟩) (c4 : PySem.W.codeIn K cd4 "turned_over" = true) (k4 : PySem.W.keepIn K (.ref f4) = true)
    {od5 an5 : Option Addr} {sl5 : Array (Option Value)} {oc5 kV5 dc5 pm5 cd5 ct5 : Value}
    (a5 : PySem.W.nsIn K mainGlobals "from_end" = some (some (.ref f5))) (l5 : K.lookup f5 = some ⟨oc5, od5, .func (PySem.W.fnOf "from_end" "from_end" (defArgs s_from_end) (defBody s_from_end) (defScope s_from_end) .none kV5 dc5 pm5 an5 cd5 ct5), sl5⟩) (c5 : PySem.W.codeIn K cd5 "from_end" = true) (k5 : PySem.W.keepIn K (.ref f5) = true)
    {od6 an6 : Option Addr} {sl6 : Array (Option Value)} {oc6 kV6 dc6 pm6 cd6 ct6 : Value}
    (a6 : PySem.W.nsIn K mainGlobals "upside_down" = some (some (.ref f6))) (l6 : K.lookup f6 = some ⟨oc6, od6, .func (PySem.W.fnOf "upside_down" "upside_down" (defArgs s_upside_down) (defBody s_upside_down) (defScope s_upside_down) .none kV6 dc6 pm6 an6 cd6 ct6), sl6⟩) (c6 : PySem.W.codeIn K cd6 "upside_down" = true) (k6 : PySem.W.keepIn K (.ref f6) = true)
    {od7 an7 : Option Addr} {sl7 : Array (Option Value)} {oc7 kV7 dc7 pm7 cd7 ct7 : Value}
    (a7 : PySem.W.nsIn K mainGlobals "about" = some (some (.ref f7))) (l7 : K.lookup f7 = some ⟨oc7, od7, .func (PySem.W.fnOf "about" "about" (defArgs s_about) (defBody s_about) (defScope s_about) .none kV7 dc7 pm7 an7 cd7 ct7), sl7⟩) (c7 : PySem.W.codeIn K cd7 "about" = true) (k7 : PySem.W.keepIn K (.ref f7) = true)
    {od8 an8 : Option Addr} {sl8 : Array (Option Value)} {oc8 kV8 dc8 pm8 cd8 ct8 : Value}
    (a8 : PySem.W.nsIn K mainGlobals "_law_heights" = some (some (.ref f8))) (l8 : K.lookup f8 = some ⟨oc8, od8, .func (PySem.W.fnOf "_law_heights" "_law_heights" (defArgs s_L_heights) (defBody s_L_heights) (defScope s_L_heights) .none kV8 dc8 pm8 an8 cd8 ct8), sl8⟩) (c8 : PySem.W.codeIn K cd8 "_law_heights" = true) (k8 : PySem.W.keepIn K (.ref f8) = true)
    {od9 an9 : Option Addr} {sl9 : Array (Option Value)} {oc9 kV9 dc9 pm9 cd9 ct9 : Value}
    (a9 : PySem.W.nsIn K mainGlobals "law" = some (some (.ref f9))) (l9 : K.lookup f9 = some ⟨oc9, od9, .func (PySem.W.fnOf "law" "law" (defArgs s_law) (defBody s_law) (defScope s_law) .none kV9 dc9 pm9 an9 cd9 ct9), sl9⟩) (c9 : PySem.W.codeIn K cd9 "law" = true) (k9 : PySem.W.keepIn K (.ref f9) = true)
    (zm_isinstance : PySem.W.nsIn K mainGlobals "isinstance" = some none)
    (zm_str : PySem.W.nsIn K mainGlobals "str" = some none)
    (zm_range : PySem.W.nsIn K mainGlobals "range" = some none)
    (zm_list : PySem.W.nsIn K mainGlobals "list" = some none)
    (zm_bool : PySem.W.nsIn K mainGlobals "bool" = some none)
    (zm_any : PySem.W.nsIn K mainGlobals "any" = some none)
    (zm_len : PySem.W.nsIn K mainGlobals "len" = some none)
    (zm_all : PySem.W.nsIn K mainGlobals "all" = some none) :
    ∃ fd : FuncData, (∀ (s : Shared) (v : Value), BindsTo s fd ⟨[v], []⟩ [("_law_script", v)]) ∧ ∀ base : Heap, K.In base → base.Ns mainGlobals mg → FnOk l.prog w K mg base CX0 4 fa fd ["_law_script"] (sp_law K) := by
  have e := hfa.symm.trans (PySem.W.mg_of X G a9)
  cases e
  have F1 := fun_mk (st := s_heights_of) l1 c1 k1
  have F2 := fun_mk (st := s_asked_ridge) l2 c2 k2
  have F3 := fun_mk (st := s_heights) l3 c3 k3
  have F4 := fun_mk (st := s_turned_over) l4 c4 k4
  have F5 := fun_mk (st := s_from_end) l5 c5 k5
  have F6 := fun_mk (st := s_upside_down) l6 c6 k6
  have F7 := fun_mk (st := s_about) l7 c7 k7
  have F8 := fun_mk (st := s_L_heights) l8 c8 k8
  have F9 := fun_mk (st := s_law) l9 c9 k9
  refine ⟨PySem.W.fnOf "law" "law" (defArgs s_law) (defBody s_law) (defScope s_law) .none kV9 dc9 pm9 an9 cd9 ct9, fun s v => .of_eq rfl, fun base _ _ => ?_⟩
  have m_isinstance : mg "isinstance" = none := PySem.W.mg_none_of X G zm_isinstance
  have m_str : mg "str" = none := PySem.W.mg_none_of X G zm_str
  have m_range : mg "range" = none := PySem.W.mg_none_of X G zm_range
  have m_list : mg "list" = none := PySem.W.mg_none_of X G zm_list
  have m_bool : mg "bool" = none := PySem.W.mg_none_of X G zm_bool
  have m_any : mg "any" = none := PySem.W.mg_none_of X G zm_any
  have m_len : mg "len" = none := PySem.W.mg_none_of X G zm_len
  have m_all : mg "all" = none := PySem.W.mg_none_of X G zm_all

  have b1 := F1.binds (ps := ["ridge"]) fun _ _ _ _ _ _ us hl => match us, hl with | [_], _ => rfl
  have c_heights_of := cal_mk (x := "heights_of") (ok_heights_of (P := l.prog) (w := w) (mg := mg) (base := base) F1 ) (PySem.W.mg_of X G a1) k1 b1
  have b2 := F2.binds (ps := ["ridge"]) fun _ _ _ _ _ _ us hl => match us, hl with | [_], _ => rfl
  have c_asked_ridge := cal_mk (x := "asked_ridge") (ok_asked_ridge0 (P := l.prog) (w := w) (mg := mg) (base := base) F2 m_isinstance m_str) (PySem.W.mg_of X G a2) k2 b2
  have b3 := F3.binds (ps := ["ridge"]) fun _ _ _ _ _ _ us hl => match us, hl with | [_], _ => rfl
  have c_heights := cal_mk (x := "heights") (ok_heights (P := l.prog) (w := w) (mg := mg) (base := base) F3 c_asked_ridge c_heights_of) (PySem.W.mg_of X G a3) k3 b3
  have b4 := F4.binds (ps := ["ridge"]) fun _ _ _ _ _ _ us hl => match us, hl with | [_], _ => rfl
  have c_turned_over := cal_mk (x := "turned_over") (ok_turned_over (P := l.prog) (w := w) (mg := mg) (base := base) F4 ) (PySem.W.mg_of X G a4) k4 b4
  have b5 := F5.binds (ps := ["ridge"]) fun _ _ _ _ _ _ us hl => match us, hl with | [_], _ => rfl
  have c_from_end := cal_mk (x := "from_end") (ok_from_end (P := l.prog) (w := w) (mg := mg) (base := base) F5 c_turned_over) (PySem.W.mg_of X G a5) k5 b5
  have b6 := F6.binds (ps := ["ridge"]) fun _ _ _ _ _ _ us hl => match us, hl with | [_], _ => rfl
  have c_upside_down := cal_mk (x := "upside_down") (ok_upside_down (P := l.prog) (w := w) (mg := mg) (base := base) F6 c_asked_ridge c_turned_over) (PySem.W.mg_of X G a6) k6 b6
  have b7 := F7.binds (ps := ["ridge"]) fun _ _ _ _ _ _ us hl => match us, hl with | [_], _ => rfl
  have c_about := cal_mk (x := "about") (ok_about (P := l.prog) (w := w) (mg := mg) (base := base) F7 c_asked_ridge c_from_end) (PySem.W.mg_of X G a7) k7 b7
  have b8 := F8.binds (ps := ["_law_ridge"]) fun _ _ _ _ _ _ us hl => match us, hl with | [_], _ => rfl
  have c_L_heights := cal_mk (x := "_law_heights") (ok_L_heights (P := l.prog) (w := w) (mg := mg) (base := base) F8 ) (PySem.W.mg_of X G a8) k8 b8
  exact ok_law (P := l.prog) (w := w) (mg := mg) (base := base) F9 c_L_heights c_heights c_upside_down c_about m_range m_isinstance m_list m_bool m_any m_str m_len m_all
end U
open PySem PySem.W PyProof.Rows
set_option maxHeartbeats 0 in
theorem PySem.Challenge.cw_unison_k01_ridges_holds : PySem.Challenge.rw_unison_k01_ridges.Holds := by
  w_on; o_law; k_head; (case hw => w_witness2)
  k_fill
  refine L2.walk_of (l := PySem.Challenge.rw_unison_k01_ridges) (n := 63) (k := 4) (x := "_law_script") (CX := fun _ => L2.CX0) (sp := fun w => U.sp_law _) rfl (by decide) rfl ⟨rfl, by decide, by decide⟩ (fun w h Y => PySem.W.kIn_of Y) ?F (fun _ _ a ns hl _ hS => ⟨a, ns, rfl, hS, hl, fun _ => rfl⟩) (fun _ _ _ _ _ h => h)
  case F =>
    intro w mg fa h KX G hmg
    refine' U.all_mk KX G hmg ?a1 ?l1 ?c1 ?k1 ?a2 ?l2 ?c2 ?k2 ?a3 ?l3 ?c3 ?k3 ?a4 ?l4 ?c4 ?k4 ?a5 ?l5 ?c5 ?k5 ?a6 ?l6 ?c6 ?k6 ?a7 ?l7 ?c7 ?k7 ?a8 ?l8 ?c8 ?k8 ?a9 ?l9 ?c9 ?k9 ?zm_isinstance ?zm_str ?zm_range ?zm_list ?zm_bool ?zm_any ?zm_len ?zm_all
    (case a1 => k_is); (case l1 => k_is); (case c1 => k_is); (case k1 => k_is); (case a2 => k_is); (case l2 => k_is); (case c2 => k_is); (case k2 => k_is); (case a3 => k_is); (case l3 => k_is); (case c3 => k_is); (case k3 => k_is); (case a4 => k_is); (case l4 => k_is); (case c4 => k_is); (case k4 => k_is); (case a5 => k_is); (case l5 => k_is); (case c5 => k_is); (case k5 => k_is); (case a6 => k_is); (case l6 => k_is); (case c6 => k_is); (case k6 => k_is); (case a7 => k_is); (case l7 => k_is); (case c7 => k_is); (case k7 => k_is); (case a8 => k_is); (case l8 => k_is); (case c8 => k_is); (case k8 => k_is); (case a9 => k_is); (case l9 => k_is); (case c9 => k_is); (case k9 => k_is); (case zm_isinstance => k_is); (case zm_str => k_is); (case zm_range => k_is); (case zm_list => k_is); (case zm_bool => k_is); (case zm_any => k_is); (case zm_len => k_is); (case zm_all => k_is)
