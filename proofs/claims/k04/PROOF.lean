import PyProof.Rows.All
import Wide.All
import OpenK.AllK
import Wide.FinOn
import HandS.ForMost
import HandS.IsInst
import HandS.Deep
import HandS.TupAny
import HandS.TupMul
import HandS.Strs
import HandS.More
import KE.GoesMore
import HandS.Style
import HandS.Zip
import PySem.Challenge.RW_bestheard_k04_lines_of_cases
set_option Elab.async false
set_option linter.all false
set_option autoImplicit false
set_option maxRecDepth 100000
set_option maxHeartbeats 4000000
namespace DL
open PySem PySem.Spec PyProof.Rows L2

/-! ### heaps: G is seen, what H has beyond G is hidden -/
/-- what H tracks and G does not stays as it is; all else is as G' has it -/
def lay (G H G' : Hp) : Hp := fun b => match G b, H b with
  | none, some u => some u
  | _, _ => G' b
/-- the hidden stays out of what is seen -/
def Kp (G H G' : Hp) : Prop := ∀ b u, G b = none → H b = some u → G' b = none
theorem lay_hid {G H G' : Hp} {b : Addr} {u : HO} (h : G b = none) (k : H b = some u) : lay G H G' b = some u := by
  unfold lay; rw [h, k]
theorem lay_none {G H G' : Hp} {b : Addr} (h : H b = none) : lay G H G' b = G' b := by
  unfold lay; rw [h]; cases G b <;> rfl
theorem lay_some {G H G' : Hp} {b : Addr} {u : HO} (h : G b = some u) : lay G H G' b = G' b := by
  unfold lay; rw [h]
theorem lay_self {G H : Hp} (s : Same G H) : lay G H G = H := by
  funext b
  cases h : G b with
  | some o => rw [lay_some h, h, s b o h]
  | none =>
    cases k : H b with
    | some u => rw [lay_hid h k]
    | none => rw [lay_none k, h]
theorem Kp.self {G H : Hp} : Kp G H G := fun _ _ h _ => h
theorem same_lay {G H G' : Hp} (k : Kp G H G') : Same G' (lay G H G') := fun b o e => by
  cases h : G b with
  | some u => rw [lay_some h, e]
  | none =>
    cases q : H b with
    | some u => rw [k b u h q] at e; cases e
    | none => rw [lay_none q, e]
theorem lay_lay {G H G1 G2 : Hp} (k : Kp G H G1) : lay G1 (lay G H G1) G2 = lay G H G2 := by
  funext b
  cases h : G b with
  | some u =>
    rw [lay_some h]
    cases q : G1 b with
    | some o => rw [lay_some q]
    | none => rw [lay_none (by rw [lay_some h, q])]
  | none =>
    cases q : H b with
    | some u => rw [lay_hid h q, lay_hid (k b u h q) (lay_hid h q)]
    | none =>
      rw [lay_none q]
      cases r : G1 b with
      | some o => rw [lay_some r]
      | none => rw [lay_none (by rw [lay_none q, r])]
theorem Kp.trans {G H G1 G2 : Hp} (k : Kp G H G1) (k2 : Kp G1 (lay G H G1) G2) : Kp G H G2 := fun b u h q => k2 b u (k b u h q) (lay_hid h q)
theorem lay_free {G H G1 : Hp} {p : Addr} (h : lay G H G1 p = none) : G1 p = none ∧ (G p = none → H p = none) := by
  cases q : G p with
  | some u => rw [lay_some q] at h; exact ⟨h, fun z => nomatch z⟩
  | none =>
    cases r : H p with
    | some u => rw [lay_hid q r] at h; cases h
    | none => rw [lay_none r] at h; exact ⟨h, fun _ => rfl⟩
theorem lay_upd {G H G1 : Hp} {p : Addr} {o : HO} (h : lay G H G1 p = none) : upd (lay G H G1) p o = lay G H (upd G1 p o) := by
  funext b
  by_cases hb : b = p
  · subst hb
    rw [upd_same]
    cases q : G b with
    | some u => rw [lay_some q, upd_same]
    | none => rw [lay_none ((lay_free h).2 q), upd_same]
  · rw [upd_ne hb]
    cases q : G b with
    | some u => rw [lay_some q, lay_some q, upd_ne hb]
    | none =>
      cases r : H b with
      | some u => rw [lay_hid q r, lay_hid q r]
      | none => rw [lay_none r, lay_none r, upd_ne hb]
theorem Kp.upd {G H G1 : Hp} {p : Addr} {o : HO} (k : Kp G H G1) (h : lay G H G1 p = none) : Kp G H (L2.upd G1 p o) := fun b u a c => by
  have hb : b ≠ p := fun e => by
    rw [e] at a c
    rw [(lay_free h).2 a] at c
    cases c
  rw [upd_ne hb]
  exact k b u a c
theorem same_upd {H : Hp} {p : Addr} {o : HO} (h : H p = none) : Same H (upd H p o) := fun b x e => by
  rw [upd_ne (ne_of_none e h)]
  exact e
/-- the hidden things are lists -/
structure Hid (G H : Hp) : Prop where
  same : Same G H
  lst : ∀ b u, G b = none → H b = some u → ∃ xs, u = .lst xs
theorem Hid.self (H : Hp) : Hid H H := ⟨Same.refl H, fun b u h k => by rw [h] at k; cases k⟩
theorem Hid.not {G H : Hp} (d : Hid G H) {b : Addr} {u : HO} (h : H b = some u) (n : ∀ xs, u ≠ .lst xs) : G b = some u := by
  cases q : G b with
  | some o => rw [← h, d.same b o q]
  | none =>
    obtain ⟨xs, e⟩ := d.lst b u q h
    exact absurd e (n xs)
theorem Hid.lay {G H G' : Hp} (d : Hid G H) (k : Kp G H G') : Hid G' (DL.lay G H G') := ⟨same_lay k, fun b u h q => by
  cases r : G b with
  | some o => rw [lay_some r, h] at q; cases q
  | none =>
    cases z : H b with
    | some w =>
      rw [lay_hid r z] at q
      cases q
      exact d.lst b _ r z
    | none => rw [lay_none z, h] at q; cases q⟩

/-! ### a def that is called while some lists are hidden -/
section
variable {P : Program} {w : World} {K : PySem.W.Frag} {mg : Str → Option Value} {base : Heap}
theorem hok_seen {G H : Hp} {h : Heap} (d : Hid G H) (ok : HOk P w H h) : HOk P w G h := fun a o e =>
  (ok a o (d.same a o e)).stay (fun _ _ _ q => q) (fun b q => d.not q (fun xs z => nomatch z)) (fun b xs q => d.not q (fun ys z => nomatch z))
theorem frame_run {CX : CXT} {outer : List Env} {s s' : Shared} {G H : Hp} {Q : VK} {u : Value} (d : Hid G H) (ok : HOk P w H s.heap) (frf : ∀ b ∈ frs outer, H b = none)
    (c : CE outer P w G s (fun v G' => Kp G H G' → Q v (lay G H G')) u s') : CE outer P w H s Q u s' := by
  obtain ⟨v, G', os, bare, un, hok, rv, q⟩ := c
  have obj : ∀ {b : Addr} {u : HO}, G b = none → H b = some u → ∃ (xs : List V) (its : List Value) (n : Nat), u = .lst xs ∧ xs.length ≤ sizeLine ∧ Vals xs its ∧ s.heap.get? b = some { cls := .type "list", data := .seq its.toArray n } := fun {b u} h k => by
    obtain ⟨xs, rfl⟩ := d.lst b u h k
    obtain ⟨z, its, n, r, e⟩ := ok b _ k
    exact ⟨xs, its, n, rfl, z, r, e⟩
  have kp : Kp G H G' := fun b u h k => by
    obtain ⟨xs, its, n, _, _, _, e⟩ := obj h k
    exact un.free b _ e h (by simp)
  have gn : ∀ {b : Addr}, H b = none → G b = none := fun {b} h => d.same.free h
  refine ⟨v, lay G H G', os, bare, ⟨fun b o e n hb hx => un.keep b o e (gn n) hb hx, fun b o e n hb hx => un.slot b o e (gn n) hb hx, fun b o e n hx => ?_, un.there, fun b xs e => ?_, fun b o x e => ?_, fun b ps e => ?_⟩, fun a o e => ?_, rv, q kp⟩
  · rw [lay_none n]; exact un.free b o e (gn n) hx
  · have g := d.not e (fun ys z => nomatch z)
    rw [lay_some g]; exact un.tups b xs g
  · have g := d.not e (fun ys z => nomatch z)
    rw [lay_some g]; exact un.frzs b o x g
  · have g := d.not e (fun ys z => nomatch z)
    rw [lay_some g]; exact un.tbls b ps g
  · cases h : G a with
    | none =>
      cases k : H a with
      | some x =>
        rw [lay_hid h k] at e
        cases e
        obtain ⟨xs, its, n, rfl, z, r, e1⟩ := obj h k
        refine ⟨z, its, n, r, un.keep a _ e1 h (fun m => ?_) (by simp)⟩
        rw [frf a m] at k
        cases k
      | none =>
        rw [lay_none k] at e
        exact (hok a o e).stay (fun _ _ _ q => q) (fun b q => same_lay kp b _ q) (fun b xs q => same_lay kp b _ q)
    | some x =>
      rw [lay_some h] at e
      exact (hok a o e).stay (fun _ _ _ q => q) (fun b q => same_lay kp b _ q) (fun b xs q => same_lay kp b _ q)
/-- the promise sp, kept while lists are hidden -/
def spHid (sp : Sp) : Sp := fun vs H Q E => ∃ G, Hid G H ∧ sp vs G (fun v G' => Kp G H G' → Q v (lay G H G')) E
theorem FnOk.frame {k : Nat} {f : Addr} {fd : FuncData} {ps : List Str} {sp : Sp} (F : FnOk P w K mg base CX0 k f fd ps sp) : FnOk P w K mg base CX0 k f fd ps (spHid sp) := by
  refine ⟨fun vs H Q E h => ?_, fun A outer s H args us vs Q E hr e0 hb r h => ?_⟩
  · obtain ⟨G, _, h⟩ := h
    exact F.len _ _ _ _ h
  · obtain ⟨G, d, h⟩ := h
    have e1 : Env0 P w K mg base A outer s G := ⟨e0.frames, e0.mod, fun b o e => ⟨(e0.bs b o e).1, d.same.free (e0.bs b o e).2⟩, e0.bsz, e0.funs, fun b m => d.same.free (e0.frf b m), hok_seen d e0.hok, e0.bare⟩
    refine codeAny_mono (F.run A outer s G args us vs _ E hr e1 hb r h) fun res s' c => ?_
    cases res with
    | error e => exact c
    | ok fl =>
      cases fl with
      | ret u => exact frame_run (CX := CX0) d e0.hok e0.frf c
      | next => exact c
      | brk => exact c
      | cont => exact c
end
end DL

namespace DL
open PySem PySem.Spec PyProof.Rows
open L2 hiding St
abbrev St := L2.St

/-! ### tuples that are known to bear no attributes -/
def TupD (K : PySem.W.Frag) (H : Hp) (a : Addr) (xs : List V) : Prop :=
  (∃ o : Obj, o.dict = none ∧ H a = some (.frz o (.tup xs))) ∨ ∃ (o : Obj) (its : Array Value) (n : Nat), K.lookup a = some o ∧ o.cls = .type "tuple" ∧ o.dict = none ∧ o.data = .seq its n ∧ its.size ≤ sizeLine ∧ Vals xs its.toList
theorem TupD.sq {K : PySem.W.Frag} {H : Hp} {a : Addr} {xs : List V} (h : TupD K H a xs) : SqT K H a xs := by
  rcases h with ⟨o, _, h⟩ | ⟨o, its, n, h1, h2, _, h3, h4, h5⟩
  · exact .inl (.inr ⟨o, h⟩)
  · exact .inr ⟨o, its, n, h1, h2, h3, h4, h5⟩
theorem TupD.mono {K : PySem.W.Frag} {H H' : Hp} {a : Addr} {xs : List V} (s : Same H H') (h : TupD K H a xs) : TupD K H' a xs := by
  rcases h with ⟨o, hd, h⟩ | h
  · exact .inl ⟨o, hd, s _ _ h⟩
  · exact .inr h
/-- a new tuple, whatever its object is -/
abbrev NewT (H : Hp) (Q : VK) (xs : List V) : Prop := ∀ (p : Addr) (o : Obj), H p = none → o.dict = none → Q (.ref p) (upd H p (.frz o (.tup xs)))
section
variable {X : Cx} {pins : List (Addr × Obj)} {σ : St} {H : Hp} {s : Shared} {Q : VK}
theorem laidT {its : List Value} {xs : List V} {k : Nat} (I : Inv X pins σ H s) (r : Vals xs its) (hz : xs.length ≤ sizeLine) (q : NewT H Q xs) :
    EP X pins σ Q (.ref s.heap.objs.size) { s with heap := s.heap.push { cls := .type "tuple", data := .seq its.toArray }, toks := k } := by
  refine ⟨.ref s.heap.objs.size, upd H s.heap.objs.size (.frz { cls := .type "tuple", data := .seq its.toArray } (.tup xs)), ?_, rfl, q _ _ (I.hok.fresh (Nat.le_refl _)) rfl⟩
  refine I.laid (t' := k) (fun b ob e => Heap.get?_push_of_some _ e) (Nat.le_refl _) ?_
  exact ⟨Heap.get?_push_size _ rfl, hz, its, r, ⟨_, Heap.get?_push_size _ rfl, rfl, _, rfl⟩⟩
def tTupN (t : TA) : TE := fun σ H Q => t σ H fun xs H1 => xs.length ≤ sizeLine ∧ NewT H1 Q xs
theorem pen_tup {es : List Expr} {t : TA} {x1 : Nat} {pos : Pos} (h : PA X es t) : PE X (.Tuple es x1 pos) (tTupN t) := by
  refine ⟨fun pins s σ H Q I hq => ?_⟩
  refine wpAny_Tuple_spliced (thn (h.run pos pins s σ H _ I hq) ?_)
  rintro us s1 ⟨xs, H1, I1, r, z, q⟩
  have e := r.length
  exact ⟨by rw [← e]; exact z, laidT (k := s1.toks) I1 r z q⟩
theorem calln_tuple : CallR X (.type "tuple") (fun xs H Q => ∃ p ys, xs = [.ref p] ∧ ((SqL X.K H p ys ∧ NewT H Q ys) ∨ (SqT X.K H p ys ∧ Q (.ref p) H))) := by
  rintro pins s σ H _ us Q I r ⟨p, ys, rfl, h⟩
  cases r with
  | cons r0 rn =>
    cases rn
    cases r0
    rcases h with ⟨hq, q⟩ | ⟨hq, q⟩
    · obtain ⟨its, r', pl, hz⟩ := I.list hq
      refine call_tuple_list pl.isList (fun h' kp => ?_) ?_
      · exact laidT (k := s.toks) (I.kept (t' := s.toks) kp) r' hz q
      · rw [List.size_toArray, ← r'.length]
        exact hz
    · obtain ⟨its, r', pl, hz⟩ := I.tuple hq
      exact call_tuple_same pl ⟨.ref p, H, I, rfl, q⟩
theorem opn_cat : OpR X (binaryOp .Add) (fun x y H Q => ∃ a b xs ys, x = .ref a ∧ y = .ref b ∧ SqT X.K H a xs ∧ SqT X.K H b ys ∧ xs.length + ys.length ≤ sizeLine ∧ (xs = [] → Q (.ref b) H) ∧ (xs ≠ [] → ys = [] → Q (.ref a) H) ∧ (xs ≠ [] → ys ≠ [] → NewT H Q (xs ++ ys))) := by
  rintro pins s σ H x y v u Q I rx ry ⟨a, b, xs, ys, rfl, rfl, ha, hb, hz, q0, q1, q2⟩
  by_cases hx : xs = []
  · exact op_catA pins s σ H _ _ v u Q I rx ry ⟨a, b, xs, ys, rfl, rfl, ha, hb, hz, q0, fun n => absurd hx n, fun n => absurd hx n⟩
  · by_cases hy : ys = []
    · exact op_catA pins s σ H _ _ v u Q I rx ry ⟨a, b, xs, ys, rfl, rfl, ha, hb, hz, q0, q1, fun _ n => absurd hy n⟩
    · cases rx
      cases ry
      obtain ⟨i1, r1, p1, _⟩ := I.tuple ha
      obtain ⟨i2, r2, p2, _⟩ := I.tuple hb
      have l1 := r1.length
      have l2 := r2.length
      refine HT.cat_tup p1 p2 (fun z => hx ?_) (fun z => absurd ?_ hy) (fun _ => ?_) (by rw [← l1, ← l2]; exact hz)
      · rw [z] at l1; exact List.length_eq_zero_iff.mp l1
      · rw [z] at l2; exact List.length_eq_zero_iff.mp l2
      · exact laidT (k := s.toks) I (r1.append r2) (by rw [List.length_append]; exact hz) (q2 hx hy)
theorem sln_tup : SlR X (fun x lo hi H Q => ∃ a xs, x = .ref a ∧ SqT X.K H a xs ∧ (HT.sIx xs.length 0 lo = 0 ∧ HT.sIx xs.length xs.length hi = xs.length → Q (.ref a) H) ∧ (¬ (HT.sIx xs.length 0 lo = 0 ∧ HT.sIx xs.length xs.length hi = xs.length) → NewT H Q (cutV xs lo hi))) := by
  rintro pins s σ H x v vl vu lo hi sl Q I rx hs pl pu ⟨a, xs, rfl, hx, q1, q2⟩
  by_cases hw : HT.sIx xs.length 0 lo = 0 ∧ HT.sIx xs.length xs.length hi = xs.length
  · exact sl_tupA pins s σ H _ v vl vu lo hi sl Q I rx hs pl pu ⟨a, xs, rfl, hx, q1, fun n => absurd hw n⟩
  · cases rx
    obtain ⟨its, r, ht, hz⟩ := I.tuple hx
    have hl : its.toArray.size = xs.length := by rw [List.size_toArray, r.length]
    refine ⟨"tuple", _, slot_tuple_getitem.lookup, ht.typeIs, HT.getItem_tuple_cut ht hs pl pu (by rw [hl]; exact hw) ?_ (by rw [hl]; exact hz)⟩
    rw [hl]
    exact laidT (k := s.toks) I ((r.drop _).take _) (Nat.le_trans (cutV_length xs lo hi) hz) (q2 hw)
/-- t * k, for small tuples that aren't empty -/
theorem opn_rep : OpR X (binaryOp .Mult) (fun x y H Q => ∃ l k xs, x = .ref l ∧ y = .int k ∧ SqT X.K H l xs ∧ xs ≠ [] ∧ 2 ≤ k ∧ k ≤ 1000 ∧ xs.length ≤ 1000 ∧ NewT H Q (List.replicate k.toNat xs).flatten) := by
  rintro pins s σ H x y v u Q I rx ry ⟨l, k, xs, rfl, rfl, hT, hne, h1, h2, hz, q⟩
  cases rx
  obtain ⟨t, rfl⟩ := ry
  obtain ⟨its, r, ⟨⟨cl, dd, da, sl⟩, ho, hc, n, hd⟩, hs⟩ := I.tuple hT
  dsimp only at hc hd
  subst hc
  subst hd
  have le : its.length = xs.length := r.length.symm
  have ne : its.toArray.isEmpty = false := by
    cases its with
    | nil => exact absurd (List.length_eq_zero_iff.mp le.symm) hne
    | cons a b => rfl
  have sz : its.toArray.size = xs.length := by
    rw [List.size_toArray]
    exact le
  have bz : k.toNat * xs.length ≤ 1000000 :=
    Nat.le_trans (Nat.mul_le_mul (show k.toNat ≤ 1000 by omega) hz) (by decide)
  have bi : (its.toArray.size : Int) * k ≤ 1000000 := by
    rw [sz]
    have e : ((k.toNat : Nat) : Int) = k := by omega
    rw [← e, ← Int.natCast_mul, Nat.mul_comm]
    omega
  have fl : (List.replicate k.toNat its).flatten.length ≤ sizeLine := by
    rw [lm_len_rep_flat, le, sizeLine_eq]
    omega
  have c0 : (decide (k < -(2 ^ 63)) || decide (k ≥ 2 ^ 63)) = false := by
    rw [decide_eq_false (show ¬ k < -(2 ^ 63) by omega),
      decide_eq_false (show ¬ k ≥ 2 ^ 63 by omega)]
    rfl
  have c1 : (its.toArray.isEmpty || k == 1) = false := by
    rw [ne]
    exact beq_eq_false_iff_ne.mpr (show k ≠ 1 by omega)
  have c2 : (decide (k ≤ 0) || its.toArray.isEmpty) = false := by
    rw [ne, decide_eq_false (show ¬ k ≤ 0 by omega)]
    rfl
  have c4 : Builtin.Tuple.tupleTooMany ((its.toArray.size : Int) * k) = false := by
    unfold Builtin.Tuple.tupleTooMany
    refine decide_eq_false ?_
    rw [sizeLine_eq]
    omega
  have ty : s.TypeIs (.ref l) "tuple" := ⟨_, ho, rfl⟩
  have mul := tuple_mulW l its.toArray n dd sl k t c0 c1 c2 (by omega) c4
    (by rw [size_rep, List.size_toArray]; exact fl)
  refine wpAny_binaryOp_repeat_ref (T := "tuple") (U := "int") (by decide) ty
    (fun s' => typeIs_int s' k t) noFill_tuple_mul F.fills_int_mul F.slot_int_rmul repeat_tuple
    F.slot_int_index.lookup ?_
  refine call_meets F.slot_int_rmul (typeIs_int s k t) F.entry_int_rmul (F.args_int_rmul_2 _ _)
    (int_rmul_tuple k t l its.toArray n dd sl) ⟨ho, rfl, ty, ?_⟩
  refine call_meets F.slot_tuple_mul ty F.entry_tuple_mul (F.args_tuple_mul_2 _ _) mul ⟨ho, ?_⟩
  rw [size_rep]
  refine laidT (k := s.toks) I (r.rep k.toNat) ?_ q
  rw [lm_len_rep_flat, sizeLine_eq]
  omega
theorem rel_str (x : Str) (t : Tok) : RelV (.str x) (.str x t) := ⟨t, rfl⟩
theorem mtn_partition : MtR X "str.partition" (fun x xs H Q => ∃ a b, x = .str a ∧ xs = [.str b] ∧ (b.length == 0) = false ∧ a.length ≤ sizeLine ∧ NewT H Q [.str (Txt.partition a b).1, .str (Txt.partition a b).2.1, .str (Txt.partition a b).2.2]) := by
  rintro pins s σ H x xs v us Q I rx rs ⟨a, b, rfl, rfl, hb, hz, h⟩
  obtain ⟨t, rfl⟩ := rx
  cases rs with
  | cons r0 rn =>
    cases rn
    obtain ⟨u, rfl⟩ := r0
    refine call_meets F.slot_str_partition (typeIs_str _ _ _) F.entry_str_partition (F.args_str_partition_2 _ _) (meets_str_partition a b t u hb hz) ?_
    unfold Txt.partition at h
    revert h
    cases Builtin.Str.occurrences a b 0 a.length 1 with
    | nil => intro h; exact laidT I (.cons (rel_str _ _) (.cons (rel_str _ _) (.cons (rel_str _ _) .nil))) (by show 3 ≤ sizeLine; decide) h
    | cons i r => intro h; exact laidT I (.cons (rel_str _ _) (.cons (rel_str _ _) (.cons (rel_str _ _) .nil))) (by show 3 ≤ sizeLine; decide) h
end
end DL

namespace DL
open PySem PySem.Spec
open L2 hiding St

/-! ### data -/
inductive D where
  | non | bl (b : Bool) | int (i : Int) | str (x : Str) | lst (xs : List D) | tup (xs : List D)
  /-- the bag of draws -/
  | bag
  /-- the script -/
  | scr (ns : List Int)

/-! ### the bag: its four items are told by bounds alone -/
def bagIts (l : Addr) (i x sd : Int) : List V := [.ref l, .int i, .int x, .int sd]
def BagOk (i x sd : Int) : Prop := 0 ≤ i ∧ 0 ≤ x ∧ 0 ≤ sd ∧ sd < 2147483647
def BagO (a l : Addr) : HO := .ext fun h => ∃ (i x sd : Int) (its : List Value) (m : Nat), BagOk i x sd ∧ Vals (bagIts l i x sd) its ∧ h.get? a = some { cls := .type "list", data := .seq its.toArray m }
def Bag (H : Hp) (b : Addr) : Prop := ∃ (l : Addr) (ns : List Int), H b = some (BagO b l) ∧ H l = some (.lst (ns.map V.int))
theorem Bag.mono {H H' : Hp} {b : Addr} (s : Same H H') (h : Bag H b) : Bag H' b := by
  obtain ⟨l, ns, h1, h2⟩ := h
  exact ⟨l, ns, s _ _ h1, s _ _ h2⟩
theorem bag_ok {P : Program} {w : World} {H : Hp} {h : Heap} {a l : Addr} {i x sd : Int} (ok : BagOk i x sd) (o : ObjOk P w H h a (.lst (bagIts l i x sd))) (H' : Hp) : ObjOk P w H' h a (BagO a l) := by
  obtain ⟨z, its, n, r, e⟩ := o
  exact ⟨⟨i, x, sd, its, n, ok, r, e⟩, ⟨_, e⟩, fun h1 h2 p k => by
    obtain ⟨i, x, sd, its, n, ok, r, e⟩ := p
    exact ⟨i, x, sd, its, n, ok, r, k _ e⟩⟩
theorem bag_open {P : Program} {w : World} {H : Hp} {h : Heap} {a l : Addr} (o : ObjOk P w H h a (BagO a l)) : ∃ i x sd, BagOk i x sd ∧ ∀ H', ObjOk P w H' h a (.lst (bagIts l i x sd)) := by
  have o' : ObjOk P w H h a (.ext fun h => ∃ (i x sd : Int) (its : List Value) (m : Nat), BagOk i x sd ∧ Vals (bagIts l i x sd) its ∧ h.get? a = some { cls := .type "list", data := .seq its.toArray m }) := o
  obtain ⟨⟨i, x, sd, its, m, ok, r, e⟩, _, _⟩ := o'
  exact ⟨i, x, sd, ok, fun H' => ⟨by show 4 ≤ sizeLine; decide, its, m, r, e⟩⟩
section
variable {X : Cx} {pins : List (Addr × Obj)} {σ : St} {H : Hp} {s : Shared}
theorem inv_open {a l : Addr} (I : Inv X pins σ H s) (h : H a = some (BagO a l)) : ∃ i x sd, BagOk i x sd ∧ Inv X pins σ (upd H a (.lst (bagIts l i x sd))) s := by
  obtain ⟨i, x, sd, ok, o⟩ := bag_open (I.hok a _ h)
  obtain ⟨_, its, m, _, e⟩ := o H
  exact ⟨i, x, sd, ok, I.write (t' := s.toks) (x := a) (e := a) (by rw [h]; exact True.intro) (.inl rfl) (fun _ _ _ q => q) ⟨_, e⟩ (o _)⟩
theorem inv_close {a l : Addr} {i x sd : Int} (I : Inv X pins σ H s) (h : H a = some (.lst (bagIts l i x sd))) (ok : BagOk i x sd) : Inv X pins σ (upd H a (BagO a l)) s := by
  have o := I.hok a _ h
  obtain ⟨_, its, m, _, e⟩ := id o
  exact I.write (t' := s.toks) (x := a) (e := a) (by rw [h]; exact True.intro) (.inl rfl) (fun _ _ _ q => q) ⟨_, e⟩ (bag_ok ok o _)
/-- a block that opens the bag and closes it at each end -/
def tBag (t : TS) : TS := fun D σ H => ∃ a l, H a = some (BagO a l) ∧ ∀ i x sd, BagOk i x sd →
  t ⟨fun σ' H' => ∃ i x sd, H' a = some (.lst (bagIts l i x sd)) ∧ BagOk i x sd ∧ D.nx σ' (upd H' a (BagO a l)), fun v H' => ∃ i x sd, H' a = some (.lst (bagIts l i x sd)) ∧ BagOk i x sd ∧ D.rt v (upd H' a (BagO a l)), fun _ _ => False, fun _ _ => False⟩ σ (upd H a (.lst (bagIts l i x sd)))
theorem pss_bag {st : List Stmt} {t : TS} (h : PSs X st t) : PSs X st (tBag t) := by
  refine ⟨fun pins s σ H D I q => ?_⟩
  obtain ⟨a, l, e, q⟩ := q
  obtain ⟨i, x, sd, ok, I1⟩ := inv_open I e
  refine thn (h.run pins s σ _ _ I1 (q i x sd ok)) fun f s1 z => ?_
  cases f with
  | next => obtain ⟨σ', H', J, i, x, sd, e, ok, q⟩ := z; exact ⟨σ', _, inv_close J e ok, q⟩
  | brk => obtain ⟨σ', H', J, q⟩ := z; exact q.elim
  | cont => obtain ⟨σ', H', J, q⟩ := z; exact q.elim
  | ret v => obtain ⟨v, σ', H', J, r, i, x, sd, e, ok, q⟩ := z; exact ⟨v, σ', _, inv_close J e ok, r, q⟩
/-- a block whose value is a new list that becomes the bag -/
def tBagNew (t : TS) : TS := fun D σ H => t ⟨fun _ _ => False, fun v H' => ∃ a l i x sd, v = .ref a ∧ H' a = some (.lst (bagIts l i x sd)) ∧ BagOk i x sd ∧ D.rt v (upd H' a (BagO a l)), fun _ _ => False, fun _ _ => False⟩ σ H
theorem pss_bagNew {st : List Stmt} {t : TS} (h : PSs X st t) : PSs X st (tBagNew t) := by
  refine ⟨fun pins s σ H D I q => ?_⟩
  refine thn (h.run pins s σ _ _ I q) fun f s1 z => ?_
  cases f with
  | next => obtain ⟨σ', H', J, q⟩ := z; exact q.elim
  | brk => obtain ⟨σ', H', J, q⟩ := z; exact q.elim
  | cont => obtain ⟨σ', H', J, q⟩ := z; exact q.elim
  | ret v => obtain ⟨v, σ', H', J, r, a, l, i, x, sd, ev, e, ok, q⟩ := z; exact ⟨v, σ', _, inv_close J e ok, r, q⟩
end

/-! ### what a value is worth as data -/
mutual
def Rep (K : PySem.W.Frag) (H : Hp) : D → V → Prop
  | .non, v => v = .non
  | .bl b, v => v = .bl b
  | .int i, v => v = .int i
  | .str x, v => v = .str x
  | .lst ds, v => ∃ a xs, v = .ref a ∧ H a = some (.lst xs) ∧ RepAll K H ds xs
  | .tup ds, v => ∃ a xs, v = .ref a ∧ TupD K H a xs ∧ RepAll K H ds xs
  | .bag, v => ∃ a, v = .ref a ∧ Bag H a
  | .scr ns, v => ∃ a, v = .ref a ∧ SqL K H a (ns.map V.int)
def RepAll (K : PySem.W.Frag) (H : Hp) : List D → List V → Prop
  | [], xs => xs = []
  | d :: ds, xs => ∃ x r, xs = x :: r ∧ Rep K H d x ∧ RepAll K H ds r
end
mutual
theorem Rep.mono {K : PySem.W.Frag} {H H' : Hp} (s : Same H H') : ∀ (d : D) (v : V), Rep K H d v → Rep K H' d v
  | .non, _, h => h
  | .bl _, _, h => h
  | .int _, _, h => h
  | .str _, _, h => h
  | .lst ds, _, ⟨a, xs, e, h, r⟩ => ⟨a, xs, e, s _ _ h, RepAll.mono s ds xs r⟩
  | .tup ds, _, ⟨a, xs, e, h, r⟩ => ⟨a, xs, e, h.mono s, RepAll.mono s ds xs r⟩
  | .bag, _, ⟨a, e, h⟩ => ⟨a, e, h.mono s⟩
  | .scr _, _, ⟨a, e, h⟩ => ⟨a, e, s.seq h⟩
theorem RepAll.mono {K : PySem.W.Frag} {H H' : Hp} (s : Same H H') : ∀ (ds : List D) (vs : List V), RepAll K H ds vs → RepAll K H' ds vs
  | [], _, h => h
  | d :: ds, _, ⟨x, r, e, h, t⟩ => ⟨x, r, e, Rep.mono s d x h, RepAll.mono s ds r t⟩
end
section
variable {K : PySem.W.Frag} {H : Hp}
theorem RepAll.length : ∀ {ds : List D} {vs : List V}, RepAll K H ds vs → vs.length = ds.length
  | [], _, h => by cases h; rfl
  | d :: ds, _, ⟨x, r, e, _, t⟩ => by rw [e, List.length_cons, List.length_cons, RepAll.length t]
theorem RepAll.get : ∀ {ds : List D} {vs : List V} {i : Nat} {d : D}, RepAll K H ds vs → ds[i]? = some d → ∃ v, vs[i]? = some v ∧ Rep K H d v
  | [], _, i, d, _, e => by simp at e
  | d0 :: ds, _, 0, d, ⟨x, r, e, h, _⟩, q => by
    have z : d0 = d := by simpa using q
    subst z; subst e
    exact ⟨x, rfl, h⟩
  | d0 :: ds, _, i + 1, d, ⟨x, r, e, _, t⟩, q => by
    subst e
    exact RepAll.get (i := i) t (by simpa using q)
theorem RepAll.app : ∀ {ds es : List D} {vs ws : List V}, RepAll K H ds vs → RepAll K H es ws → RepAll K H (ds ++ es) (vs ++ ws)
  | [], es, vs, ws, h, q => by cases h; exact q
  | d :: ds, es, _, ws, ⟨x, r, e, h, t⟩, q => by subst e; exact ⟨x, r ++ ws, rfl, h, RepAll.app t q⟩
theorem RepAll.take : ∀ {ds : List D} {vs : List V} (n : Nat), RepAll K H ds vs → RepAll K H (ds.take n) (vs.take n)
  | [], _, n, h => by cases h; simp; rfl
  | d :: ds, _, 0, _ => rfl
  | d :: ds, _, n + 1, ⟨x, r, e, h, t⟩ => by subst e; exact ⟨x, r.take n, rfl, h, RepAll.take n t⟩
theorem RepAll.drop : ∀ {ds : List D} {vs : List V} (n : Nat), RepAll K H ds vs → RepAll K H (ds.drop n) (vs.drop n)
  | [], _, n, h => by cases h; simp; rfl
  | d :: ds, _, 0, h => h
  | d :: ds, _, n + 1, ⟨x, r, e, h, t⟩ => by subst e; exact RepAll.drop n t
theorem RepAll.set : ∀ {ds : List D} {vs : List V} (n : Nat) {d : D} {v : V}, RepAll K H ds vs → Rep K H d v → RepAll K H (ds.set n d) (vs.set n v)
  | [], _, n, _, _, h, _ => by cases h; simp; rfl
  | d :: ds, _, 0, _, _, ⟨x, r, e, _, t⟩, q => by subst e; exact ⟨_, r, rfl, q, t⟩
  | d :: ds, _, n + 1, _, _, ⟨x, r, e, h, t⟩, q => by subst e; exact ⟨x, _, rfl, h, RepAll.set n t q⟩
theorem RepAll.one {d : D} {v : V} (h : Rep K H d v) : RepAll K H [d] [v] := ⟨v, [], rfl, h, rfl⟩
theorem RepAll.cut {ds : List D} {vs : List V} (lo hi : Option Int) (h : RepAll K H ds vs) : RepAll K H ((ds.drop (HT.sIx ds.length 0 lo)).take (HT.sIx ds.length ds.length hi - HT.sIx ds.length 0 lo)) (cutV vs lo hi) := by
  unfold cutV
  rw [h.length]
  exact (h.drop _).take _
theorem RepAll.at {ds : List D} {vs : List V} {i : Int} {d : D} (h : RepAll K H ds vs) (e : atI ds i = some d) : ∃ v, atI vs i = some v ∧ Rep K H d v := by
  unfold atI at e ⊢
  rw [h.length]
  cases q : ixN ds.length i with
  | none => rw [q] at e; cases e
  | some j =>
    rw [q] at e
    exact h.get e
theorem RepAll.join : ∀ {ds : List D} {vs : List V} (n : Nat), RepAll K H ds vs → RepAll K H (List.replicate n ds).flatten (List.replicate n vs).flatten
  | ds, vs, 0, _ => rfl
  | ds, vs, n + 1, h => by
    rw [List.replicate_succ, List.replicate_succ, List.flatten_cons, List.flatten_cons]
    exact h.app (h.join n)
end

/-! ### as the library's data -/
mutual
def py : D → PyData
  | .non => .none
  | .bl b => .bool b
  | .int i => .int i
  | .str x => .str x
  | .lst ds => .list (pyAll ds)
  | .tup ds => .tuple (pyAll ds)
  | .bag => .none
  | .scr ns => .list (ns.map .int)
def pyAll : List D → List PyData
  | [] => []
  | d :: ds => py d :: pyAll ds
end
mutual
def pure? : D → Bool
  | .lst ds => pureAll ds
  | .tup ds => pureAll ds
  | .bag => false
  | .scr _ => false
  | _ => true
def pureAll : List D → Bool
  | [] => true
  | d :: ds => pure? d && pureAll ds
end
mutual
theorem rep_dp {K : PySem.W.Frag} {H : Hp} : ∀ (d : D) (v : V), pure? d = true → Rep K H d v → Dp K H v (py d)
  | .non, _, _, h => by cases h; exact .non
  | .bl b, _, _, h => by cases h; exact .bl b
  | .int i, _, _, h => by cases h; exact .int i
  | .str x, _, _, h => by cases h; exact .str x
  | .lst ds, _, p, ⟨a, xs, e, h, r⟩ => by subst e; exact .lst (SqL.of h) (rep_dpAll ds xs p r)
  | .tup ds, _, p, ⟨a, xs, e, h, r⟩ => by subst e; exact .tup h.sq (rep_dpAll ds xs p r)
theorem rep_dpAll {K : PySem.W.Frag} {H : Hp} : ∀ (ds : List D) (vs : List V), pureAll ds = true → RepAll K H ds vs → DpAll K H vs (pyAll ds)
  | [], _, _, h => by cases h; exact .nil
  | d :: ds, _, p, ⟨x, r, e, h, t⟩ => by
    have p' : pure? d = true ∧ pureAll ds = true := by simpa [pureAll] using p
    subst e
    exact .cons (rep_dp d x p'.1 h) (rep_dpAll ds r p'.2 t)
end
/-- a datum that may be compared -/
def fit (d : D) : Bool := pure? d && SeqAt.shaped (py d)
theorem fit_pure {d : D} (h : fit d = true) : pure? d = true := (Bool.and_eq_true_iff.mp h).1
theorem fit_shaped {d : D} (h : fit d = true) : SeqAt.shaped (py d) = true := (Bool.and_eq_true_iff.mp h).2
def eqD (d e : D) : Bool := PyData.eqv (py d) (py e)
def flat? : D → Option V
  | .non => some .non
  | .bl b => some (.bl b)
  | .int i => some (.int i)
  | .str x => some (.str x)
  | _ => none
def flats : List D → Option (List V)
  | [] => some []
  | d :: ds => match flat? d, flats ds with
    | some v, some vs => some (v :: vs)
    | _, _ => none
theorem rep_flat {K : PySem.W.Frag} {H : Hp} {d : D} {v w : V} (h : flat? d = some w) (r : Rep K H d v) : v = w ∧ flatV w = true := by
  cases d <;> simp [flat?] at h <;> subst h <;> exact ⟨r, rfl⟩
theorem rep_flats {K : PySem.W.Frag} {H : Hp} : ∀ {ds : List D} {vs ws : List V}, flats ds = some ws → RepAll K H ds vs → vs = ws ∧ ws.all flatV = true
  | [], vs, ws, h, r => by cases h; cases r; exact ⟨rfl, rfl⟩
  | d :: ds, vs, ws, h, ⟨x, t, e, r, rt⟩ => by
    subst e
    unfold flats at h
    cases h1 : flat? d with
    | none => rw [h1] at h; cases h
    | some v =>
      cases h2 : flats ds with
      | none => rw [h1, h2] at h; cases h
      | some us =>
        rw [h1, h2] at h
        cases h
        obtain ⟨e1, f1⟩ := rep_flat h1 r
        obtain ⟨e2, f2⟩ := rep_flats h2 rt
        subst e1; subst e2
        exact ⟨rfl, by rw [List.all_cons, f1, f2]; rfl⟩
end DL

namespace DL
open PySem PySem.Spec
open L2 hiding St
open PyProof.Rows (subscriptTail)

/-! ### a frame's slots as data -/
inductive SL where
  | nul | val (d : D)
  /-- a list that this slot alone holds -/
  | own (ds : List D)
abbrev Rho := List SL
abbrev ED := Rho → (D → Prop) → Prop
abbrev TD := Rho → (Bool → Prop) → Prop
abbrev AD := Rho → (List D → Prop) → Prop
abbrev OD := D → D → (D → Prop) → Prop
structure Sim (K : PySem.W.Frag) (G H : Hp) (ρ : Rho) (σ : St) : Prop where
  hid : Hid G H
  len : ρ.length = σ.length
  val : ∀ (i : Nat) (d : D), ρ[i]? = some (SL.val d) → ∃ v, σ[i]? = some (some v) ∧ Rep K G d v
  own : ∀ (i : Nat) (ds : List D), ρ[i]? = some (SL.own ds) → ∃ p xs, σ[i]? = some (some (V.ref p)) ∧ H p = some (.lst xs) ∧ G p = none ∧ RepAll K G ds xs
  inj : ∀ (i j : Nat) (ds es : List D) (p : Addr), ρ[i]? = some (SL.own ds) → ρ[j]? = some (SL.own es) → σ[i]? = some (some (V.ref p)) → σ[j]? = some (some (V.ref p)) → i = j
theorem Sim.step {K : PySem.W.Frag} {G H G' : Hp} {ρ : Rho} {σ : St} (S : Sim K G H ρ σ) (s : Same G G') (k : Kp G H G') : Sim K G' (lay G H G') ρ σ :=
  ⟨S.hid.lay k, S.len, fun i d e => by
    obtain ⟨v, h, r⟩ := S.val i d e
    exact ⟨v, h, Rep.mono s d v r⟩, fun i ds e => by
    obtain ⟨p, xs, h, hp, gp, r⟩ := S.own i ds e
    exact ⟨p, xs, h, lay_hid gp hp, k p _ gp hp, RepAll.mono s ds xs r⟩, S.inj⟩

/-- what is wanted of a datum, as it is wanted of a value -/
def Po (K : PySem.W.Frag) (G H : Hp) (R : D → Prop) (Q : VK) : Prop := ∀ v G' d, Same G G' → Kp G H G' → Rep K G' d v → R d → Q v (lay G H G')
def PoT (G H : Hp) (R : Bool → Prop) (Q : Bool → Hp → Prop) : Prop := ∀ b G', Same G G' → Kp G H G' → R b → Q b (lay G H G')
def PoA (K : PySem.W.Frag) (G H : Hp) (R : List D → Prop) (Q : List V → Hp → Prop) : Prop := ∀ vs G' ds, Same G G' → Kp G H G' → RepAll K G' ds vs → R ds → Q vs (lay G H G')
section
variable {K : PySem.W.Frag} {G H G1 : Hp} {R : D → Prop} {Q : VK}
theorem Po.seq (p : Po K G H R Q) (s : Same G G1) (k : Kp G H G1) : Po K G1 (lay G H G1) R Q := fun v G' d s2 k2 r q => by
  rw [lay_lay k]
  exact p v G' d (s.trans s2) (k.trans k2) r q
theorem PoT.seq {R : Bool → Prop} {Q : Bool → Hp → Prop} (p : PoT G H R Q) (s : Same G G1) (k : Kp G H G1) : PoT G1 (lay G H G1) R Q := fun b G' s2 k2 q => by
  rw [lay_lay k]
  exact p b G' (s.trans s2) (k.trans k2) q
theorem PoA.seq {R : List D → Prop} {Q : List V → Hp → Prop} (p : PoA K G H R Q) (s : Same G G1) (k : Kp G H G1) : PoA K G1 (lay G H G1) R Q := fun v G' d s2 k2 r q => by
  rw [lay_lay k]
  exact p v G' d (s.trans s2) (k.trans k2) r q
theorem Po.here (p : Po K G H R Q) (h : Hid G H) {d : D} {v : V} (r : Rep K G d v) (q : R d) : Q v H := by
  have z := p v G d (Same.refl G) Kp.self r q
  rw [lay_self h.same] at z
  exact z
theorem PoT.here {R : Bool → Prop} {Q : Bool → Hp → Prop} (p : PoT G H R Q) (h : Hid G H) {b : Bool} (q : R b) : Q b H := by
  have z := p b G (Same.refl G) Kp.self q
  rw [lay_self h.same] at z
  exact z
theorem PoA.here {R : List D → Prop} {Q : List V → Hp → Prop} (p : PoA K G H R Q) (h : Hid G H) {ds : List D} {vs : List V} (r : RepAll K G ds vs) (q : R ds) : Q vs H := by
  have z := p vs G ds (Same.refl G) Kp.self r q
  rw [lay_self h.same] at z
  exact z
/-- a new object -/
theorem Po.new (p : Po K G H R Q) (h : Hid G H) {a : Addr} {o : HO} {d : D} {v : V} (n : H a = none) (r : Rep K (upd G a o) d v) (q : R d) : Q v (upd H a o) := by
  have e := lay_self h.same
  have n' : lay G H G a = none := by rw [e]; exact n
  have z := p v (upd G a o) d (same_upd (h.same.free n)) (Kp.self.upd n') r q
  rw [← lay_upd n', e] at z
  exact z
theorem Po.lst (p : Po K G H R Q) (h : Hid G H) {a : Addr} {xs : List V} {ds : List D} (n : H a = none) (r : RepAll K G ds xs) (q : R (.lst ds)) : Q (.ref a) (upd H a (.lst xs)) :=
  p.new (d := .lst ds) h n ⟨a, xs, rfl, upd_same, RepAll.mono (same_upd (h.same.free n)) ds xs r⟩ q
theorem Po.tup (p : Po K G H R Q) (h : Hid G H) {xs : List V} {ds : List D} (r : RepAll K G ds xs) (q : R (.tup ds)) : NewT H Q xs := fun a o n hd =>
  p.new (d := .tup ds) h n ⟨a, xs, rfl, .inl ⟨o, hd, upd_same⟩, RepAll.mono (same_upd (h.same.free n)) ds xs r⟩ q
end

/-! ### what a piece of text asks for, as the machine has it -/
section
variable (X : Cx)
def W (e : Expr) : TE := fun σ H Q => ∀ (pins : List (Addr × Obj)) (s : Shared), Inv X pins σ H s → wpAny (model X.prog X.w) X.A (eval e X.env) (EP X pins σ Q) X.xe s
def WT (e : Expr) : TT := fun σ H Q => ∀ (pins : List (Addr × Obj)) (s : Shared), Inv X pins σ H s → wpAny (model X.prog X.w) X.A (isTrue e X.env (eval e X.env)) (TP X pins σ Q) X.xe s
def WW (e : Expr) : TT := fun σ H Q => ∀ (whole : Sem Value) (pins : List (Addr × Obj)) (s : Shared), Inv X pins σ H s → wpAny (model X.prog X.w) X.A (isTrue e X.env whole) (TP X pins σ Q) X.xe s
def WA (es : List Expr) : TA := fun σ H Q => ∀ (pos : Pos) (pins : List (Addr × Obj)) (s : Shared), Inv X pins σ H s → wpAny (model X.prog X.w) X.A (spliced (backTo pos (starEach es X.env))) (AP X pins σ Q) X.xe s
def WO (f : Value → Value → Sem Value) : R2 := fun x y H Q => ∀ (pins : List (Addr × Obj)) (s : Shared) (σ : St) (v u : Value), Inv X pins σ H s → RelV x v → RelV y u → wpAny (model X.prog X.w) X.A (f v u) (EP X pins σ Q) X.xe s
def WC (f : Value) : List V → Hp → VK → Prop := fun xs H Q => ∀ (pins : List (Addr × Obj)) (s : Shared) (σ : St) (us : List Value), Inv X pins σ H s → Vals xs us → wpAny (model X.prog X.w) X.A (call f us) (EP X pins σ Q) X.xe s
def WIx : R2 := fun x y H Q => ∀ (value slice : Expr) (pins : List (Addr × Obj)) (s : Shared) (σ : St) (v u : Value), Inv X pins σ H s → RelV x v → RelV y u →
    subscripted slice false v u = operate [v, u] (getItem v u) → wpAny (model X.prog X.w) X.A (subscriptTail value slice v u) (EP X pins σ Q) X.xe s
end
section
variable {X : Cx} {e : Expr} {es : List Expr} {σ : St} {H : Hp} {Q : VK}
theorem pe_w : PE X e (W X e) := ⟨fun pins s σ H Q I h => h pins s I⟩
theorem pt_w : PT X e (WT X e) := ⟨fun pins s σ H Q I h => h pins s I⟩
theorem pw_w : PW X e (WW X e) := ⟨fun wh pins s σ H Q I h => h wh pins s I⟩
theorem pa_w : PA X es (WA X es) := ⟨fun pos pins s σ H Q I h => h pos pins s I⟩
theorem op_w {f : Value → Value → Sem Value} : OpR X f (WO X f) := fun pins s σ H x y v u Q I rx ry h => h pins s σ v u I rx ry
theorem call_w {f : Value} : CallR X f (WC X f) := fun pins s σ H xs us Q I r h => h pins s σ us I r
theorem ix_w : IxR X (WIx X) := fun value slice pins s σ H x y v u Q I rx ry h hs => h value slice pins s σ v u I rx ry hs
theorem W.of {t : TE} (h : PE X e t) (q : t σ H Q) : W X e σ H Q := fun pins s I => h.run pins s σ H Q I q
theorem WT.of {t : TT} {Q : Bool → Hp → Prop} (h : PT X e t) (q : t σ H Q) : WT X e σ H Q := fun pins s I => h.run pins s σ H Q I q
theorem WW.of {t : TT} {Q : Bool → Hp → Prop} (h : PW X e t) (q : t σ H Q) : WW X e σ H Q := fun wh pins s I => h.run wh pins s σ H Q I q
theorem WA.of {t : TA} {Q : List V → Hp → Prop} (h : PA X es t) (q : t σ H Q) : WA X es σ H Q := fun pos pins s I => h.run pos pins s σ H Q I q
theorem WO.of {f : Value → Value → Sem Value} {r : R2} {x y : V} (h : OpR X f r) (q : r x y H Q) : WO X f x y H Q := fun pins s σ v u I rx ry => h pins s σ H x y v u Q I rx ry q
theorem WC.of {f : Value} {r : List V → Hp → VK → Prop} {xs : List V} (h : CallR X f r) (q : r xs H Q) : WC X f xs H Q := fun pins s σ us I r => h pins s σ H xs us Q I r q
theorem WIx.of {r : R2} {x y : V} (h : IxR X r) (q : r x y H Q) : WIx X x y H Q := fun value slice pins s σ v u I rx ry hs => h value slice pins s σ H x y v u Q I rx ry q hs
end

/-! ### the judgements over data -/
structure QE (X : Cx) (e : Expr) (t : ED) : Prop where
  run : ∀ (G H : Hp) (ρ : Rho) (σ : St) (R : D → Prop) (Q : VK), Sim X.K G H ρ σ → t ρ R → Po X.K G H R Q → W X e σ H Q
structure QT (X : Cx) (e : Expr) (t : TD) : Prop where
  run : ∀ (G H : Hp) (ρ : Rho) (σ : St) (R : Bool → Prop) (Q : Bool → Hp → Prop), Sim X.K G H ρ σ → t ρ R → PoT G H R Q → WT X e σ H Q
structure QW (X : Cx) (e : Expr) (t : TD) : Prop where
  run : ∀ (G H : Hp) (ρ : Rho) (σ : St) (R : Bool → Prop) (Q : Bool → Hp → Prop), Sim X.K G H ρ σ → t ρ R → PoT G H R Q → WW X e σ H Q
structure QA (X : Cx) (es : List Expr) (t : AD) : Prop where
  run : ∀ (G H : Hp) (ρ : Rho) (σ : St) (R : List D → Prop) (Q : List V → Hp → Prop), Sim X.K G H ρ σ → t ρ R → PoA X.K G H R Q → WA X es σ H Q
def OpD (X : Cx) (f : Value → Value → Sem Value) (r : OD) : Prop := ∀ (G H : Hp) (x y : V) (a b : D) (R : D → Prop) (Q : VK), Hid G H → Rep X.K G a x → Rep X.K G b y → r a b R → Po X.K G H R Q → WO X f x y H Q
def IxD (X : Cx) (r : OD) : Prop := ∀ (G H : Hp) (x y : V) (a b : D) (R : D → Prop) (Q : VK), Hid G H → Rep X.K G a x → Rep X.K G b y → r a b R → Po X.K G H R Q → WIx X x y H Q
def CallD (X : Cx) (f : Value) (r : List D → (D → Prop) → Prop) : Prop := ∀ (G H : Hp) (xs : List V) (ds : List D) (R : D → Prop) (Q : VK), Hid G H → RepAll X.K G ds xs → r ds R → Po X.K G H R Q → WC X f xs H Q

def dVar (i : Nat) : ED := fun ρ R => match ρ[i]? with
  | some (SL.val d) => R d
  | _ => False
def dC (d : D) : ED := fun _ R => R d
def dOp (r : OD) (ta tb : ED) : ED := fun ρ R => ta ρ fun x => tb ρ fun y => r x y R
def dNil : AD := fun _ R => R []
def dCons (t : ED) (u : AD) : AD := fun ρ R => t ρ fun x => u ρ fun xs => R (x :: xs)
def dTup (t : AD) : ED := fun ρ R => t ρ fun xs => xs.length ≤ sizeLine ∧ R (.tup xs)
def dLst (t : AD) : ED := fun ρ R => t ρ fun xs => xs.length ≤ sizeLine ∧ R (.lst xs)
def dCall (r : List D → (D → Prop) → Prop) (t : AD) : ED := fun ρ R => t ρ fun ds => r ds R
def tru : D → (Bool → Prop) → Prop
  | .non, R => R false
  | .bl b, R => R b
  | .int i, R => R (i != 0)
  | .str x, R => x.length ≤ sizeLine ∧ R ((x.length : Int) != 0)
  | .lst ds, R => R (!ds.isEmpty)
  | .tup ds, R => R (!ds.isEmpty)
  | _, _ => False
def bool? : D → (Bool → Prop) → Prop
  | .bl b, R => R b
  | _, _ => False
def dTru (t : ED) : TD := fun ρ R => t ρ fun d => tru d R
def dBool (t : ED) : TD := fun ρ R => t ρ fun d => bool? d R
def dAnd (t u : TD) : TD := fun ρ R => t ρ fun b => if b = true then u ρ R else R false
def dOr (t u : TD) : TD := fun ρ R => t ρ fun b => if b = true then R true else u ρ R
def dNot (t : TD) : TD := fun ρ R => t ρ fun b => R (!b)
def dAndV (ta tb : ED) : ED := fun ρ R => ta ρ fun x => bool? x fun b => if b = true then tb ρ R else R (.bl false)
def dOrV (ta tb : ED) : ED := fun ρ R => ta ρ fun x => bool? x fun b => if b = true then R (.bl true) else tb ρ R
def dNotV (ta : ED) : ED := fun ρ R => ta ρ fun x => bool? x fun b => R (.bl (!b))
def dIf (tc : TD) (ta tb : ED) : ED := fun ρ R => tc ρ fun b => if b = true then ta ρ R else tb ρ R
def dChain (r r' : OD) (ta tb tc : ED) : ED := fun ρ R => ta ρ fun x => tb ρ fun y => r x y fun z => bool? z fun k => if k = true then tc ρ fun w => r' y w R else R (.bl false)

section
variable {X : Cx} {a b c e : Expr} {es : List Expr} {ta tb tc te : ED} {t u : TD} {at_ : AD} {pos p : Pos}
theorem bool_of {d : D} {R : Bool → Prop} (h : bool? d R) : ∃ b, d = .bl b ∧ R b := by
  cases d <;> first | exact ⟨_, rfl, h⟩ | exact h.elim
theorem qe_var {i : Nat} {x : Str} (hN : X.N[i]? = some x := by rfl) (hv : Vis X.env.scope x := by first | exact Or.inl rfl | exact Or.inr (Or.inl rfl) | exact Or.inr (Or.inr rfl)) (hd : (x == ("__debug__" : Str)) = false := by decide)
    (hcd : (x == ("__classdict__" : Str)) = false := by decide) : QE X (.Name x pos) (dVar i) := ⟨fun G H ρ σ R Q S h po => by
  unfold dVar at h
  cases q : ρ[i]? with
  | none => rw [q] at h; exact h.elim
  | some z =>
    rw [q] at h
    cases z with
    | nul => exact h.elim
    | own ds => exact h.elim
    | val d =>
      obtain ⟨v, hv', r⟩ := S.val i d q
      exact W.of (pe_var hN hv hd hcd) ⟨v, hv', po.here S.hid r h⟩⟩
theorem qe_int {i j} : QE X (.Constant (.int i) j pos) (dC (.int i)) := ⟨fun G H ρ σ R Q S h po => W.of pe_int (po.here (d := .int i) S.hid rfl h)⟩
theorem qe_bl {v j} : QE X (.Constant (.bool v) j pos) (dC (.bl v)) := ⟨fun G H ρ σ R Q S h po => W.of pe_bl (po.here (d := .bl v) S.hid rfl h)⟩
theorem qe_non {j} : QE X (.Constant .none j pos) (dC .non) := ⟨fun G H ρ σ R Q S h po => W.of pe_non (po.here (d := .non) S.hid rfl h)⟩
theorem qe_str {x j} : QE X (.Constant (.str x) j pos) (dC (.str x)) := ⟨fun G H ρ σ R Q S h po => W.of pe_str (po.here (d := .str x) S.hid rfl h)⟩
/-- a module's constant: an int, a text -/
theorem qe_glob {x : Str} {v : Value} {d : D} (hg : Gl X x) (hm : X.mg x = some v) (hr : ∀ G, ∃ y, RelV y v ∧ Rep X.K G d y) (hd : (x == ("__debug__" : Str)) = false := by decide) : QE X (.Name x pos) (dC d) := ⟨fun G H ρ σ R Q S h po => by
  obtain ⟨y, r1, r2⟩ := hr G
  exact W.of (pe_glob hg hm r1 hd) (po.here S.hid r2 h)⟩
theorem qe_op {op : Operator} {r : OD} (ho : OpD X (binaryOp op) r) (ha : QE X a ta) (hb : QE X b tb) : QE X (.BinOp a op b pos) (dOp r ta tb) := ⟨fun G H ρ σ R Q S h po =>
  W.of (pe_op op_w pe_w pe_w) (ha.run G H ρ σ _ _ S h fun v G1 dx s1 k1 r1 q1 =>
    hb.run G1 _ ρ σ _ _ (S.step s1 k1) q1 fun u G2 dy s2 k2 r2 q2 =>
      ho G2 _ v u dx dy R Q ((S.step s1 k1).hid.lay k2) (Rep.mono s2 dx v r1) r2 q2 ((po.seq s1 k1).seq s2 k2))⟩
theorem qe_cmp {op : CmpOp} {r : OD} (ho : OpD X (compareOp op) r) (ha : QE X a ta) (hb : QE X b tb) (hm : behindInMarks op b = false := by first | exact nomark _ | rfl) : QE X (.Compare a [op] [b] pos) (dOp r ta tb) := ⟨fun G H ρ σ R Q S h po =>
  W.of (pe_cmpR op_w pe_w pe_w hm) (ha.run G H ρ σ _ _ S h fun v G1 dx s1 k1 r1 q1 =>
    hb.run G1 _ ρ σ _ _ (S.step s1 k1) q1 fun u G2 dy s2 k2 r2 q2 =>
      ho G2 _ v u dx dy R Q ((S.step s1 k1).hid.lay k2) (Rep.mono s2 dx v r1) r2 q2 ((po.seq s1 k1).seq s2 k2))⟩
theorem qt_cmp {op : CmpOp} {r : OD} (ho : OpD X (compareOp op) r) (ha : QE X a ta) (hb : QE X b tb) (hm : behindInMarks op b = false := by first | exact nomark _ | rfl) : QT X (.Compare a [op] [b] pos) (dBool (dOp r ta tb)) := ⟨fun G H ρ σ R Q S h po =>
  WT.of (pt_cmpR op_w pe_w pe_w hm) (ha.run G H ρ σ _ _ S h fun v G1 dx s1 k1 r1 q1 =>
    hb.run G1 _ ρ σ _ _ (S.step s1 k1) q1 fun u G2 dy s2 k2 r2 q2 =>
      ho G2 _ v u dx dy _ _ ((S.step s1 k1).hid.lay k2) (Rep.mono s2 dx v r1) r2 q2 fun z G3 d s3 k3 r3 q3 => by
        obtain ⟨b, rfl, q⟩ := bool_of q3
        cases r3
        exact ⟨b, rfl, ((po.seq s1 k1).seq s2 k2) b G3 s3 k3 q⟩)⟩
theorem qe_chain {op op' : CmpOp} {r r' : OD} (ho : OpD X (compareOp op) r) (ho' : OpD X (compareOp op') r') (ha : QE X a ta) (hb : QE X b tb) (hc : QE X c tc) (hm : lastMarks [op, op'] [b, c] = false := by with_unfolding_all rfl) :
    QE X (.Compare a [op, op'] [b, c] pos) (dChain r r' ta tb tc) := ⟨fun G H ρ σ R Q S h po =>
  W.of (pe_chain op_w op_w pe_w pe_w pe_w hm) (ha.run G H ρ σ _ _ S h fun v G1 dx s1 k1 r1 q1 =>
    hb.run G1 _ ρ σ _ _ (S.step s1 k1) q1 fun u G2 dy s2 k2 r2 q2 =>
      ho G2 _ v u dx dy _ _ ((S.step s1 k1).hid.lay k2) (Rep.mono s2 dx v r1) r2 q2 fun z G3 d s3 k3 r3 q3 => by
        obtain ⟨k, rfl, q⟩ := bool_of q3
        cases r3
        refine ⟨k, rfl, ?_⟩
        have po3 := ((po.seq s1 k1).seq s2 k2).seq s3 k3
        have S3 := ((S.step s1 k1).step s2 k2).step s3 k3
        cases k with
        | false => exact po3.here (d := .bl false) S3.hid rfl q
        | true =>
          refine hc.run G3 _ ρ σ _ _ S3 q fun w G4 dw s4 k4 r4 q4 => ?_
          exact ho' G4 _ u w dy dw R Q (S3.hid.lay k4) (Rep.mono (s3.trans s4) dy u r2) r4 q4 (po3.seq s4 k4))⟩
theorem qt_chain {op op' : CmpOp} {r r' : OD} (ho : OpD X (compareOp op) r) (ho' : OpD X (compareOp op') r') (ha : QE X a ta) (hb : QE X b tb) (hc : QE X c tc) (hm : lastMarks [op, op'] [b, c] = false := by with_unfolding_all rfl) :
    QT X (.Compare a [op, op'] [b, c] pos) (dBool (dChain r r' ta tb tc)) := ⟨fun G H ρ σ R Q S h po =>
  WT.of (pt_chain op_w op_w pe_w pe_w pe_w hm) (ha.run G H ρ σ _ _ S h fun v G1 dx s1 k1 r1 q1 =>
    hb.run G1 _ ρ σ _ _ (S.step s1 k1) q1 fun u G2 dy s2 k2 r2 q2 =>
      ho G2 _ v u dx dy _ _ ((S.step s1 k1).hid.lay k2) (Rep.mono s2 dx v r1) r2 q2 fun z G3 d s3 k3 r3 q3 => by
        obtain ⟨k, rfl, q⟩ := bool_of q3
        cases r3
        refine ⟨k, rfl, ?_⟩
        have po3 := ((po.seq s1 k1).seq s2 k2).seq s3 k3
        have S3 := ((S.step s1 k1).step s2 k2).step s3 k3
        cases k with
        | false => exact ⟨false, rfl, po3.here S3.hid q⟩
        | true =>
          refine hc.run G3 _ ρ σ _ _ S3 q fun w G4 dw s4 k4 r4 q4 => ?_
          refine ho' G4 _ u w dy dw _ _ (S3.hid.lay k4) (Rep.mono (s3.trans s4) dy u r2) r4 q4 fun z G5 d s5 k5 r5 q5 => ?_
          obtain ⟨b, rfl, q⟩ := bool_of q5
          cases r5
          exact ⟨b, rfl, (po3.seq s4 k4) b G5 s5 k5 q⟩)⟩
theorem qt_tru (ha : QE X a ta) (he : ∀ whole, isTrue a X.env whole = (do let v ← whole; standAt a.pos; holding [v] (truthy v)) := by intro _; rfl) : QT X a (dTru ta) := ⟨fun G H ρ σ R Q S h po =>
  WT.of (pt_truth pe_w he) (ha.run G H ρ σ _ _ S h fun v G1 d s1 k1 r1 q1 => by
    have S1 := S.step s1 k1
    have po1 := po.seq s1 k1
    cases d with
    | non => cases r1; exact ⟨false, rfl, po1.here S1.hid q1⟩
    | bl b => cases r1; exact ⟨b, rfl, po1.here S1.hid q1⟩
    | int i => cases r1; exact ⟨_, rfl, po1.here S1.hid q1⟩
    | str x => cases r1; exact ⟨_, ⟨q1.1, rfl⟩, po1.here S1.hid q1.2⟩
    | lst ds =>
      obtain ⟨p, xs, rfl, hp, rr⟩ := r1
      refine ⟨!ds.isEmpty, .inl ⟨xs, SqL.of (S1.hid.same _ _ hp), ?_⟩, po1.here S1.hid q1⟩
      have := rr.length
      cases ds <;> cases xs <;> simp_all
    | tup ds =>
      obtain ⟨p, xs, rfl, hp, rr⟩ := r1
      refine ⟨!ds.isEmpty, .inr (.inl ⟨xs, (hp.mono S1.hid.same).sq, ?_⟩), po1.here S1.hid q1⟩
      have := rr.length
      cases ds <;> cases xs <;> simp_all
    | bag => exact q1.elim
    | scr ns => exact q1.elim)⟩
theorem QW.qt (h : QW X e t) : QT X e t := ⟨fun G H ρ σ R Q S q po => fun pins s I => h.run G H ρ σ R Q S q po _ pins s I⟩
theorem qw_and1 (ha : QT X a t) : QW X (.BoolOp .And [a] pos) t := ⟨fun G H ρ σ R Q S h po => WW.of (pw_and1 pt_w) (ha.run G H ρ σ R Q S h po)⟩
theorem qw_or1 (ha : QT X a t) : QW X (.BoolOp .Or [a] pos) t := ⟨fun G H ρ σ R Q S h po => WW.of (pw_or1 pt_w) (ha.run G H ρ σ R Q S h po)⟩
theorem qw_and (ha : QT X a t) (hb : QW X (.BoolOp .And (b :: es) pos) u) : QW X (.BoolOp .And (a :: b :: es) pos) (dAnd t u) := ⟨fun G H ρ σ R Q S h po =>
  WW.of (pw_and pt_w pw_w) (ha.run G H ρ σ _ _ S h fun k G1 s1 k1 q1 => by
    cases k with
    | true => exact hb.run G1 _ ρ σ R Q (S.step s1 k1) q1 (po.seq s1 k1)
    | false => exact (po.seq s1 k1).here (S.step s1 k1).hid q1)⟩
theorem qw_or (ha : QT X a t) (hb : QW X (.BoolOp .Or (b :: es) pos) u) : QW X (.BoolOp .Or (a :: b :: es) pos) (dOr t u) := ⟨fun G H ρ σ R Q S h po =>
  WW.of (pw_or pt_w pw_w) (ha.run G H ρ σ _ _ S h fun k G1 s1 k1 q1 => by
    cases k with
    | false => exact hb.run G1 _ ρ σ R Q (S.step s1 k1) q1 (po.seq s1 k1)
    | true => exact (po.seq s1 k1).here (S.step s1 k1).hid q1)⟩
theorem qt_not (ha : QT X a t) : QT X (.UnaryOp .Not a pos) (dNot t) := ⟨fun G H ρ σ R Q S h po => WT.of (pt_not pt_w) (ha.run G H ρ σ _ _ S h fun k G1 s1 k1 q1 => po _ G1 s1 k1 q1)⟩
theorem qe_one {op} (h : QE X a ta) : QE X (.BoolOp op [a] pos) ta := ⟨fun G H ρ σ R Q S q po => W.of (pe_one pe_w) (h.run G H ρ σ R Q S q po)⟩
theorem qe_and (ha : QE X a ta) (hb : QE X (.BoolOp .And (b :: es) pos) tb) : QE X (.BoolOp .And (a :: b :: es) pos) (dAndV ta tb) := ⟨fun G H ρ σ R Q S h po =>
  W.of (pe_and pe_w pe_w) (ha.run G H ρ σ _ _ S h fun v G1 d s1 k1 r1 q1 => by
    obtain ⟨k, rfl, q⟩ := bool_of q1
    cases r1
    refine ⟨k, rfl, ?_⟩
    cases k with
    | true => exact hb.run G1 _ ρ σ R Q (S.step s1 k1) q (po.seq s1 k1)
    | false => exact (po.seq s1 k1).here (d := .bl false) (S.step s1 k1).hid rfl q)⟩
theorem qe_or (ha : QE X a ta) (hb : QE X (.BoolOp .Or (b :: es) pos) tb) : QE X (.BoolOp .Or (a :: b :: es) pos) (dOrV ta tb) := ⟨fun G H ρ σ R Q S h po =>
  W.of (pe_or pe_w pe_w) (ha.run G H ρ σ _ _ S h fun v G1 d s1 k1 r1 q1 => by
    obtain ⟨k, rfl, q⟩ := bool_of q1
    cases r1
    refine ⟨k, rfl, ?_⟩
    cases k with
    | false => exact hb.run G1 _ ρ σ R Q (S.step s1 k1) q (po.seq s1 k1)
    | true => exact (po.seq s1 k1).here (d := .bl true) (S.step s1 k1).hid rfl q)⟩
theorem qe_not (ha : QE X a ta) : QE X (.UnaryOp .Not a pos) (dNotV ta) := ⟨fun G H ρ σ R Q S h po =>
  W.of (pe_not pe_w) (ha.run G H ρ σ _ _ S h fun v G1 d s1 k1 r1 q1 => by
    obtain ⟨k, rfl, q⟩ := bool_of q1
    cases r1
    exact ⟨k, rfl, (po.seq s1 k1).here (d := .bl (!k)) (S.step s1 k1).hid rfl q⟩)⟩
theorem qe_ifExp (hc : QT X c t) (ha : QE X a ta) (hb : QE X b tb) : QE X (.IfExp c a b pos) (dIf t ta tb) := ⟨fun G H ρ σ R Q S h po =>
  W.of (pe_ifExp pt_w pe_w pe_w) (hc.run G H ρ σ _ _ S h fun k G1 s1 k1 q1 => by
    cases k with
    | true => exact ha.run G1 _ ρ σ R Q (S.step s1 k1) q1 (po.seq s1 k1)
    | false => exact hb.run G1 _ ρ σ R Q (S.step s1 k1) q1 (po.seq s1 k1))⟩
theorem qa_nil : QA X [] dNil := ⟨fun G H ρ σ R Q S h po => WA.of pa_nil (po.here (vs := []) (ds := []) S.hid rfl h)⟩
theorem qa_cons (ha : QE X e te) (hr : QA X es at_) (hs : starEach (e :: es) X.env = (false, eval e X.env) :: starEach es X.env := by rfl) : QA X (e :: es) (dCons te at_) := ⟨fun G H ρ σ R Q S h po =>
  WA.of (pa_cons pe_w pa_w hs) (ha.run G H ρ σ _ _ S h fun v G1 d s1 k1 r1 q1 =>
    hr.run G1 _ ρ σ _ _ (S.step s1 k1) q1 fun vs G2 ds s2 k2 r2 q2 =>
      ((po.seq s1 k1).seq s2 k2).here (vs := v :: vs) (ds := d :: ds) ((S.step s1 k1).hid.lay k2) ⟨v, vs, rfl, Rep.mono s2 d v r1, r2⟩ q2)⟩
theorem qe_tup {x1} (h : QA X es at_) : QE X (.Tuple es x1 pos) (dTup at_) := ⟨fun G H ρ σ R Q S q po =>
  W.of (pen_tup pa_w) (h.run G H ρ σ _ _ S q fun vs G1 ds s1 k1 r1 q1 => ⟨by rw [r1.length]; exact q1.1, (po.seq s1 k1).tup (S.step s1 k1).hid r1 q1.2⟩)⟩
theorem qe_lst (h : QA X es at_) : QE X (.List es pos) (dLst at_) := ⟨fun G H ρ σ R Q S q po =>
  W.of (pe_lst pa_w) (h.run G H ρ σ _ _ S q fun vs G1 ds s1 k1 r1 q1 => ⟨by rw [r1.length]; exact q1.1, fun p n => (po.seq s1 k1).lst (S.step s1 k1).hid n r1 q1.2⟩)⟩
theorem qe_ix {r : OD} (hr : IxD X r) (ha : QE X a ta) (hb : QE X b tb) (hs : PlainIx b := by exact fun _ _ => rfl) : QE X (.Subscript a b pos) (dOp r ta tb) := ⟨fun G H ρ σ R Q S h po =>
  W.of (pe_ix ix_w pe_w pe_w hs) (ha.run G H ρ σ _ _ S h fun v G1 dx s1 k1 r1 q1 =>
    hb.run G1 _ ρ σ _ _ (S.step s1 k1) q1 fun u G2 dy s2 k2 r2 q2 =>
      hr G2 _ v u dx dy R Q ((S.step s1 k1).hid.lay k2) (Rep.mono s2 dx v r1) r2 q2 ((po.seq s1 k1).seq s2 k2))⟩
theorem qe_callB {x : Str} {id : String} {r : List D → (D → Prop) → Prop} (hc : CallD X (.builtin id) r) (hg : Gl X x) (hm : X.mg x = none) (hv : bootBuiltins x = some (.builtin id)) (ha : QA X (e :: es) at_) (hn : x ≠ "__name__" := by decide) (hd : (x == ("__debug__" : Str)) = false := by decide)
    (he : starEach (e :: es) X.env = (false, eval e X.env) :: starEach es X.env := by rfl) (hpl : (backTo pos (starEach es X.env)).any (·.1) = false := by rfl) : QE X (.Call (.Name x p) (e :: es) [] pos) (dCall r at_) := ⟨fun G H ρ σ R Q S h po =>
  W.of (pe_callB call_w hg hm hv pa_w hn hd he hpl) (ha.run G H ρ σ _ _ S h fun vs G1 ds s1 k1 r1 q1 => hc G1 _ vs ds R Q (S.step s1 k1).hid r1 q1 (po.seq s1 k1))⟩
theorem qe_callTy {x : Str} {T : String} {r : List D → (D → Prop) → Prop} (hc : CallD X (.type T) r) (hg : Gl X x) (hm : X.mg x = none) (hv : bootBuiltins x = some (.type T)) (ha : QA X (e :: es) at_) (hn : x ≠ "__name__" := by decide) (hd : (x == ("__debug__" : Str)) = false := by decide)
    (he : starEach (e :: es) X.env = (false, eval e X.env) :: starEach es X.env := by rfl) (hpl : (backTo pos (starEach es X.env)).any (·.1) = false := by rfl) : QE X (.Call (.Name x p) (e :: es) [] pos) (dCall r at_) := ⟨fun G H ρ σ R Q S h po =>
  W.of (pe_callTy call_w hg hm hv pa_w hn hd he hpl) (ha.run G H ρ σ _ _ S h fun vs G1 ds s1 k1 r1 q1 => hc G1 _ vs ds R Q (S.step s1 k1).hid r1 q1 (po.seq s1 k1))⟩
end

/-! ### defs -/
/-- a def by what it makes of data -/
def spD (K : PySem.W.Frag) (Φ : List D → (D → Prop) → Prop) : Sp := fun vs H Q _ => ∃ ds R, RepAll K H ds vs ∧ Φ ds R ∧ ∀ v H' d, Same H H' → Rep K H' d v → R d → Q v H'
section
variable {X : Cx} {e : Expr} {es : List Expr} {at_ : AD} {pos p : Pos}
theorem qe_call {x : Str} {Φ : List D → (D → Prop) → Prop} {k : Nat} {f : Addr} {fd : FuncData} {ps : List Str} (F : FnOk X.prog X.w X.K X.mg X.base CX0 k f fd ps (spD X.K Φ)) (hr : Room k X.A) (hg : Gl X x) (hm : X.mg x = some (.ref f))
    (hk : PySem.W.keepIn X.K (.ref f) = true) (hb : Binds X.K fd ps []) (hx : Passes CX0 X E0) (ha : QA X (e :: es) at_) (hdb : (x == ("__debug__" : Str)) = false := by decide) (he : starEach (e :: es) X.env = (false, eval e X.env) :: starEach es X.env := by rfl)
    (hpl : (backTo pos (starEach es X.env)).any (·.1) = false := by rfl) : QE X (.Call (.Name x p) (e :: es) [] pos) (dCall Φ at_) := ⟨fun G H ρ σ R Q S h po =>
  W.of (pe_call (DL.FnOk.frame F) hr hg hm hk hb .nil hx pa_w hdb he hpl) (ha.run G H ρ σ _ _ S h fun vs G1 ds s1 k1 r1 q1 =>
    ⟨G1, (S.step s1 k1).hid, ds, R, by rw [List.append_nil]; exact r1, q1, fun v G2 d s2 r2 q2 k2 => (po.seq s1 k1) v G2 d s2 k2 r2 q2⟩)⟩
end
end DL

namespace DL
open PySem PySem.Spec
open L2 hiding St
open PyProof.Rows (subscriptTail)

/-! ### operators over data -/
def dAdd : OD
  | .int i, .int j, R => R (.int (i + j))
  | .str a, .str b, R => a.length + b.length ≤ sizeLine ∧ R (.str (a ++ b))
  | .lst xs, .lst ys, R => xs.length + ys.length ≤ sizeLine ∧ R (.lst (xs ++ ys))
  | .tup xs, .tup ys, R => xs.length + ys.length ≤ sizeLine ∧ R (.tup (xs ++ ys))
  | _, _, _ => False
def dSub : OD
  | .int i, .int j, R => R (.int (i - j))
  | _, _, _ => False
def dMul : OD
  | .int i, .int j, R => CMul i j ∧ R (.int (i * j))
  | .lst xs, .int k, R => -(2 ^ 63) ≤ k ∧ k < 2 ^ 63 ∧ xs.length * k.toNat ≤ sizeLine ∧ R (.lst (List.replicate k.toNat xs).flatten)
  | .tup xs, .int k, R => xs ≠ [] ∧ 2 ≤ k ∧ k ≤ 1000 ∧ xs.length ≤ 1000 ∧ R (.tup (List.replicate k.toNat xs).flatten)
  | _, _, _ => False
def dFdiv : OD
  | .int i, .int j, R => (0 < j ∧ j < 1073741824) ∧ R (.int (i / j))
  | _, _, _ => False
def dMod : OD
  | .int i, .int j, R => 0 < j ∧ R (.int (i % j))
  | _, _, _ => False
def dPow : OD
  | .int i, .int j, R => CPow i j ∧ R (.int (i ^ j.toNat))
  | _, _, _ => False
def dCmpI (p : Int → Int → Bool) : OD
  | .int i, .int j, R => R (.bl (p i j))
  | _, _, _ => False
abbrev dLt : OD := dCmpI fun i j => decide (i < j)
abbrev dLe : OD := dCmpI fun i j => decide (i ≤ j)
abbrev dGt : OD := dCmpI fun i j => decide (j < i)
abbrev dGe : OD := dCmpI fun i j => decide (j ≤ i)
def dEq : OD
  | .int i, .int j, R => R (.bl (decide (i = j)))
  | .str a, .str b, R => R (.bl (decide (a = b)))
  | .bl a, .bl b, R => R (.bl (decide (a = b)))
  | x, y, R => fit x = true ∧ fit y = true ∧ R (.bl (eqD x y))
def dNe : OD
  | .int i, .int j, R => R (.bl (!decide (i = j)))
  | .str a, .str b, R => R (.bl (!decide (a = b)))
  | .bl a, .bl b, R => R (.bl (!decide (a = b)))
  | x, y, R => fit x = true ∧ fit y = true ∧ R (.bl (!eqD x y))
def non? : D → Bool
  | .non => true
  | _ => false
def dIs : OD
  | x, .non, R => R (.bl (non? x))
  | _, _, _ => False
def dIsNot : OD
  | x, .non, R => R (.bl (!non? x))
  | _, _, _ => False
/-- x in y: a sign in a text; a flat thing in a tuple; anything comparable in a list -/
def dIn (neg : Bool) : OD
  | .str a, .str z, R => ∃ c, a = ⟨#[c]⟩ ∧ R (.bl (neg ^^ decide (c ∈ z.cps.toList)))
  | x, .lst ds, R => fit x = true ∧ fit (.lst ds) = true ∧ R (.bl (neg ^^ ds.any fun z => eqD z x))
  | x, .tup ds, R => ∃ v vs, flat? x = some v ∧ flats ds = some vs ∧ R (.bl (neg ^^ inV v vs))
  | _, _, _ => False
def dIx : OD
  | .lst ds, .int i, R => ∃ d, atI ds i = some d ∧ R d
  | .tup ds, .int i, R => ∃ d, atI ds i = some d ∧ R d
  | .str z, .int i, R => z.length ≤ sizeLine ∧ ∃ c, atI z.cps.toList i = some c ∧ R (.str ⟨#[c]⟩)
  | _, _, _ => False

section
variable {X : Cx}
theorem rep_non {K : PySem.W.Frag} {G : Hp} {d : D} {v : V} (r : Rep K G d v) : decide (v = .non) = non? d := by
  cases d with
  | non => cases r; rfl
  | bl b => cases r; rfl
  | int b => cases r; rfl
  | str b => cases r; rfl
  | lst b => obtain ⟨a, xs, rfl, _⟩ := r; rfl
  | tup b => obtain ⟨a, xs, rfl, _⟩ := r; rfl
  | bag => obtain ⟨a, rfl, _⟩ := r; rfl
  | scr b => obtain ⟨a, rfl, _⟩ := r; rfl
theorem od_add : OpD X (binaryOp .Add) dAdd := by
  intro G H x y a b R Q hd ra rb h po
  cases a <;> cases b <;> first | exact h.elim | skip
  case int.int i j => cases ra; cases rb; exact WO.of op_add ⟨i, j, rfl, rfl, po.here (d := .int (i + j)) hd rfl h⟩
  case str.str i j => cases ra; cases rb; exact WO.of op_add_str ⟨i, j, rfl, rfl, h.1, po.here (d := .str (i ++ j)) hd rfl h.2⟩
  case lst.lst ds es =>
    obtain ⟨p, xs, rfl, hp, rp⟩ := ra
    obtain ⟨q, ys, rfl, hq, rq⟩ := rb
    exact WO.of op_cat ⟨p, q, xs, ys, rfl, rfl, hd.same _ _ hp, hd.same _ _ hq, by rw [rp.length, rq.length]; exact h.1, fun l n => po.lst hd n (rp.app rq) h.2⟩
  case tup.tup ds es =>
    obtain ⟨p, xs, rfl, hp, rp⟩ := ra
    obtain ⟨q, ys, rfl, hq, rq⟩ := rb
    refine WO.of opn_cat ⟨p, q, xs, ys, rfl, rfl, (hp.mono hd.same).sq, (hq.mono hd.same).sq, by rw [rp.length, rq.length]; exact h.1, fun e => ?_, fun _ e => ?_, fun _ _ => po.tup hd (rp.app rq) h.2⟩
    · have z : ds = [] := by
        have := rp.length
        rw [e] at this
        exact List.length_eq_zero_iff.mp this.symm
      subst z
      exact po.here (d := .tup es) hd ⟨q, ys, rfl, hq, rq⟩ h.2
    · have z : es = [] := by
        have := rq.length
        rw [e] at this
        exact List.length_eq_zero_iff.mp this.symm
      subst z
      exact po.here (d := .tup ds) hd ⟨p, xs, rfl, hp, rp⟩ (by have q := h.2; rw [List.append_nil] at q; exact q)
theorem od_sub : OpD X (binaryOp .Sub) dSub := by
  intro G H x y a b R Q hd ra rb h po
  cases a <;> cases b <;> first | exact h.elim | skip
  case int.int i j => cases ra; cases rb; exact WO.of op_sub ⟨i, j, rfl, rfl, po.here (d := .int (i - j)) hd rfl h⟩
theorem od_mul : OpD X (binaryOp .Mult) dMul := by
  intro G H x y a b R Q hd ra rb h po
  cases a <;> cases b <;> first | exact h.elim | skip
  case int.int i j => cases ra; cases rb; exact WO.of op_mul ⟨i, j, rfl, rfl, h.1, po.here (d := .int (i * j)) hd rfl h.2⟩
  case lst.int ds k =>
    obtain ⟨p, xs, rfl, hp, rp⟩ := ra
    cases rb
    obtain ⟨h1, h2, h3, h4⟩ := h
    exact WO.of op_rep ⟨p, k, xs, rfl, rfl, hd.same _ _ hp, h1, h2, by rw [rp.length]; exact h3, fun l n => po.lst hd n (rp.join _) h4⟩
  case tup.int ds k =>
    obtain ⟨p, xs, rfl, hp, rp⟩ := ra
    cases rb
    obtain ⟨h0, h1, h2, h3, h4⟩ := h
    refine WO.of opn_rep ⟨p, k, xs, rfl, rfl, (hp.mono hd.same).sq, fun e => h0 ?_, h1, h2, by rw [rp.length]; exact h3, po.tup hd (rp.join _) h4⟩
    have := rp.length
    rw [e] at this
    exact List.length_eq_zero_iff.mp this.symm
theorem od_fdiv : OpD X (binaryOp .FloorDiv) dFdiv := by
  intro G H x y a b R Q hd ra rb h po
  cases a <;> cases b <;> first | exact h.elim | skip
  case int.int i j => cases ra; cases rb; exact WO.of op_fdiv ⟨i, j, rfl, rfl, h.1, po.here (d := .int (i / j)) hd rfl h.2⟩
theorem od_mod : OpD X (binaryOp .Mod) dMod := by
  intro G H x y a b R Q hd ra rb h po
  cases a <;> cases b <;> first | exact h.elim | skip
  case int.int i j => cases ra; cases rb; exact WO.of op_mod ⟨i, j, rfl, rfl, h.1, po.here (d := .int (i % j)) hd rfl h.2⟩
theorem od_pow : OpD X (binaryOp .Pow) dPow := by
  intro G H x y a b R Q hd ra rb h po
  cases a <;> cases b <;> first | exact h.elim | skip
  case int.int i j => cases ra; cases rb; exact WO.of op_pow ⟨i, j, rfl, rfl, h.1, po.here (d := .int (i ^ j.toNat)) hd rfl h.2⟩
theorem od_lt : OpD X (compareOp .Lt) dLt := by
  intro G H x y a b R Q hd ra rb h po
  cases a <;> cases b <;> first | exact h.elim | skip
  case int.int i j => cases ra; cases rb; exact WO.of op_lt ⟨i, j, rfl, rfl, po.here (d := .bl (decide (i < j))) hd rfl h⟩
theorem od_le : OpD X (compareOp .LtE) dLe := by
  intro G H x y a b R Q hd ra rb h po
  cases a <;> cases b <;> first | exact h.elim | skip
  case int.int i j => cases ra; cases rb; exact WO.of op_le ⟨i, j, rfl, rfl, po.here (d := .bl (decide (i ≤ j))) hd rfl h⟩
theorem od_gt : OpD X (compareOp .Gt) dGt := by
  intro G H x y a b R Q hd ra rb h po
  cases a <;> cases b <;> first | exact h.elim | skip
  case int.int i j => cases ra; cases rb; exact WO.of op_gt ⟨i, j, rfl, rfl, po.here (d := .bl (decide (j < i))) hd rfl h⟩
theorem od_ge : OpD X (compareOp .GtE) dGe := by
  intro G H x y a b R Q hd ra rb h po
  cases a <;> cases b <;> first | exact h.elim | skip
  case int.int i j => cases ra; cases rb; exact WO.of op_ge ⟨i, j, rfl, rfl, po.here (d := .bl (decide (j ≤ i))) hd rfl h⟩
theorem dec_int (i j : Int) : decide (V.int i = V.int j) = decide (i = j) := by simp
theorem dec_str (i j : Str) : decide (V.str i = V.str j) = decide (i = j) := by simp
theorem dec_bl (i j : Bool) : decide (V.bl i = V.bl j) = decide (i = j) := by simp
theorem od_eq (hu : X.A.units + 64 < cLine) : OpD X (compareOp .Eq) dEq := by
  intro G H x y a b R Q hd ra rb h po
  have gen : fit a = true → fit b = true → R (.bl (eqD a b)) → WO X (compareOp .Eq) x y H Q := fun fa fb q =>
    WO.of (op_eqD hu) ⟨py a, py b, rep_dp a x (fit_pure fa) (Rep.mono hd.same a x ra), rep_dp b y (fit_pure fb) (Rep.mono hd.same b y rb), fit_shaped fa, fit_shaped fb, po.here (d := .bl (eqD a b)) hd rfl q⟩
  cases a <;> cases b <;> first | exact gen h.1 h.2.1 h.2.2 | skip
  case int.int i j => cases ra; cases rb; exact WO.of op_eq ⟨rfl, po.here (d := .bl (decide (i = j))) hd (by rw [dec_int]; rfl) h⟩
  case str.str i j => cases ra; cases rb; exact WO.of op_eq ⟨rfl, po.here (d := .bl (decide (i = j))) hd (by rw [dec_str]; rfl) h⟩
  case bl.bl i j => cases ra; cases rb; exact WO.of op_eq ⟨rfl, po.here (d := .bl (decide (i = j))) hd (by rw [dec_bl]; rfl) h⟩
theorem od_ne (hu : X.A.units + 64 < cLine) : OpD X (compareOp .NotEq) dNe := by
  intro G H x y a b R Q hd ra rb h po
  have gen : fit a = true → fit b = true → R (.bl (!eqD a b)) → WO X (compareOp .NotEq) x y H Q := fun fa fb q =>
    WO.of (op_neD hu) ⟨py a, py b, rep_dp a x (fit_pure fa) (Rep.mono hd.same a x ra), rep_dp b y (fit_pure fb) (Rep.mono hd.same b y rb), fit_shaped fa, fit_shaped fb, po.here (d := .bl (!eqD a b)) hd rfl q⟩
  cases a <;> cases b <;> first | exact gen h.1 h.2.1 h.2.2 | skip
  case int.int i j => cases ra; cases rb; exact WO.of op_ne ⟨rfl, po.here (d := .bl (!decide (i = j))) hd (by rw [dec_int]; rfl) h⟩
  case str.str i j => cases ra; cases rb; exact WO.of op_ne ⟨rfl, po.here (d := .bl (!decide (i = j))) hd (by rw [dec_str]; rfl) h⟩
  case bl.bl i j => cases ra; cases rb; exact WO.of op_ne ⟨rfl, po.here (d := .bl (!decide (i = j))) hd (by rw [dec_bl]; rfl) h⟩
theorem od_is : OpD X (compareOp .Is) dIs := by
  intro G H x y a b R Q hd ra rb h po
  have z : b = .non ∧ R (.bl (non? a)) := by cases a <;> cases b <;> first | exact h.elim | exact ⟨rfl, h⟩
  obtain ⟨rfl, q⟩ := z
  cases rb
  exact WO.of op_isN ⟨rfl, po.here (d := .bl (non? a)) hd (by rw [rep_non ra]; rfl) q⟩
theorem od_isnot : OpD X (compareOp .IsNot) dIsNot := by
  intro G H x y a b R Q hd ra rb h po
  have z : b = .non ∧ R (.bl (!non? a)) := by cases a <;> cases b <;> first | exact h.elim | exact ⟨rfl, h⟩
  obtain ⟨rfl, q⟩ := z
  cases rb
  exact WO.of op_notN ⟨rfl, po.here (d := .bl (!non? a)) hd (by rw [rep_non ra]; rfl) q⟩
theorem any_eqD (x : D) : ∀ ds : List D, ((pyAll ds).any fun z => PyData.eqv z (py x)) = ds.any fun z => eqD z x
  | [] => rfl
  | d :: ds => by
    rw [List.any_cons, ← any_eqD x ds]
    rfl
theorem od_in (hu : X.A.units + 65 < cLine) : OpD X (compareOp .In) (dIn false) := by
  intro G H x y a b R Q hd ra rb h po
  have inl : ∀ ds, b = .lst ds → fit a = true → fit (.lst ds) = true → R (.bl (ds.any fun z => eqD z a)) → WO X (compareOp .In) x y H Q := fun ds e fa fb q => by
    subst e
    exact WO.of (op_inD hu) ⟨py a, pyAll ds, rep_dp a x (fit_pure fa) (Rep.mono hd.same a x ra), rep_dp (.lst ds) y (fit_pure fb) (Rep.mono hd.same _ y rb), fit_shaped fa, fit_shaped fb, po.here (d := .bl (ds.any fun z => eqD z a)) hd (by rw [any_eqD]; rfl) q⟩
  have int : ∀ ds, b = .tup ds → (∃ v vs, flat? a = some v ∧ flats ds = some vs ∧ R (.bl (inV v vs))) → WO X (compareOp .In) x y H Q := fun ds e q => by
    subst e
    obtain ⟨v, vs, f1, f2, q⟩ := q
    obtain ⟨p, xs, rfl, hp, rp⟩ := rb
    obtain ⟨e1, z1⟩ := rep_flat f1 ra
    obtain ⟨e2, z2⟩ := rep_flats f2 rp
    subst e1; subst e2
    exact WO.of op_in_seq ⟨p, xs, rfl, .inr ((hp.mono hd.same).sq), z1, z2, po.here (d := .bl (inV x xs)) hd rfl q⟩
  cases a <;> cases b <;> first | exact h.elim | exact inl _ rfl h.1 h.2.1 (by have q := h.2.2; rw [Bool.false_xor] at q; exact q) | exact int _ rfl (by obtain ⟨v, vs, f1, f2, q⟩ := h; rw [Bool.false_xor] at q; exact ⟨v, vs, f1, f2, q⟩) | skip
  case str.str i j =>
    cases ra; cases rb
    obtain ⟨c, rfl, q⟩ := h
    rw [Bool.false_xor] at q
    exact WO.of op_in_sign ⟨c, j, rfl, rfl, po.here (d := .bl (decide (c ∈ j.cps.toList))) hd rfl q⟩
theorem od_notin (hu : X.A.units + 65 < cLine) : OpD X (compareOp .NotIn) (dIn true) := by
  intro G H x y a b R Q hd ra rb h po
  have inl : ∀ ds, b = .lst ds → fit a = true → fit (.lst ds) = true → R (.bl (!ds.any fun z => eqD z a)) → WO X (compareOp .NotIn) x y H Q := fun ds e fa fb q => by
    subst e
    exact WO.of (op_notInD hu) ⟨py a, pyAll ds, rep_dp a x (fit_pure fa) (Rep.mono hd.same a x ra), rep_dp (.lst ds) y (fit_pure fb) (Rep.mono hd.same _ y rb), fit_shaped fa, fit_shaped fb, po.here (d := .bl (!ds.any fun z => eqD z a)) hd (by rw [any_eqD]; rfl) q⟩
  have int : ∀ ds, b = .tup ds → (∃ v vs, flat? a = some v ∧ flats ds = some vs ∧ R (.bl (!inV v vs))) → WO X (compareOp .NotIn) x y H Q := fun ds e q => by
    subst e
    obtain ⟨v, vs, f1, f2, q⟩ := q
    obtain ⟨p, xs, rfl, hp, rp⟩ := rb
    obtain ⟨e1, z1⟩ := rep_flat f1 ra
    obtain ⟨e2, z2⟩ := rep_flats f2 rp
    subst e1; subst e2
    exact WO.of op_notIn_seq ⟨p, xs, rfl, .inr ((hp.mono hd.same).sq), z1, z2, po.here (d := .bl (!inV x xs)) hd rfl q⟩
  cases a <;> cases b <;> first | exact h.elim | exact inl _ rfl h.1 h.2.1 (by have q := h.2.2; rw [Bool.true_xor] at q; exact q) | exact int _ rfl (by obtain ⟨v, vs, f1, f2, q⟩ := h; rw [Bool.true_xor] at q; exact ⟨v, vs, f1, f2, q⟩) | skip
  case str.str i j =>
    cases ra; cases rb
    obtain ⟨c, rfl, q⟩ := h
    rw [Bool.true_xor] at q
    exact WO.of op_notIn_sign ⟨c, j, rfl, rfl, po.here (d := .bl (!decide (c ∈ j.cps.toList))) hd rfl q⟩
theorem ixd : IxD X dIx := by
  intro G H x y a b R Q hd ra rb h po
  cases a <;> cases b <;> first | exact h.elim | skip
  case lst.int ds i =>
    obtain ⟨p, xs, rfl, hp, rp⟩ := ra
    cases rb
    obtain ⟨d, e, q⟩ := h
    obtain ⟨v, ev, rv⟩ := rp.at e
    exact WIx.of ix_list ⟨p, xs, i, v, rfl, rfl, SqL.of (hd.same _ _ hp), ev, po.here hd rv q⟩
  case tup.int ds i =>
    obtain ⟨p, xs, rfl, hp, rp⟩ := ra
    cases rb
    obtain ⟨d, e, q⟩ := h
    obtain ⟨v, ev, rv⟩ := rp.at e
    exact WIx.of ix_tup ⟨p, xs, i, v, rfl, rfl, (hp.mono hd.same).sq, ev, po.here hd rv q⟩
  case str.int z i =>
    cases ra; cases rb
    obtain ⟨hl, c, e, q⟩ := h
    exact WIx.of ix_str ⟨z, i, c, rfl, rfl, hl, e, po.here (d := .str ⟨#[c]⟩) hd rfl q⟩
end

/-! ### slices -/
abbrev LD := Rho → (Option Int → Prop) → Prop
def dNoP : LD := fun _ R => R none
def dPart (t : ED) : LD := fun ρ R => t ρ fun d => match d with
  | .int i => R (some i)
  | _ => False
def cutD (ds : List D) (lo hi : Option Int) : List D := (ds.drop (HT.sIx ds.length 0 lo)).take (HT.sIx ds.length ds.length hi - HT.sIx ds.length 0 lo)
def dCut (d : D) (lo hi : Option Int) (R : D → Prop) : Prop := match d with
  | .lst ds => R (.lst (cutD ds lo hi))
  | .tup ds => R (.tup (cutD ds lo hi))
  | .str z => z.length ≤ sizeLine ∧ R (.str (cutS z lo hi))
  | .scr ns => R (.lst ((cutD (ns.map D.int) lo hi)))
  | _ => False
def dSlice (te : ED) (tl th : LD) : ED := fun ρ R => te ρ fun d => tl ρ fun lo => th ρ fun hi => dCut d lo hi R
structure QO (X : Cx) (e : Option Expr) (t : LD) : Prop where
  run : ∀ (G H : Hp) (ρ : Rho) (σ : St) (R : Option Int → Prop) (Q : Option Int → Hp → Prop), Sim X.K G H ρ σ → t ρ R → (∀ o G', Same G G' → Kp G H G' → R o → Q o (lay G H G')) →
    ∀ (pins : List (Addr × Obj)) (s : Shared), Inv X pins σ H s → wpAny (model X.prog X.w) X.A (evalPart e X.env) (fun u s' => ∃ o H', Inv X pins σ H' s' ∧ IsPart u o ∧ Q o H') X.xe s
def WSl (X : Cx) : V → Option Int → Option Int → Hp → VK → Prop := fun x lo hi H Q => ∀ (pins : List (Addr × Obj)) (s : Shared) (σ : St) (v vl vu : Value) (sl : Addr), Inv X pins σ H s → RelV x v → s.heap.IsSliceOf sl vl vu .none → IsPart vl lo → IsPart vu hi →
    ∃ T id, typeLookup (.type T) "__getitem__" = pure (some (.builtin id)) ∧ s.TypeIs v T ∧ wpAny (model X.prog X.w) X.A (getItem v (.ref sl)) (EP X pins σ Q) X.xe s
section
variable {X : Cx} {e : Expr} {lo hi : Option Expr} {te : ED} {tl th : LD} {p2 pos : Pos}
theorem sl_w : SlR X (WSl X) := fun pins s σ H x v vl vu lo hi sl Q I rx hs pl pu h => h pins s σ v vl vu sl I rx hs pl pu
theorem WSl.of {r : V → Option Int → Option Int → Hp → VK → Prop} {x : V} {lo hi : Option Int} {H : Hp} {Q : VK} (h : SlR X r) (q : r x lo hi H Q) : WSl X x lo hi H Q := fun pins s σ v vl vu sl I rx hs pl pu => h pins s σ H x v vl vu lo hi sl Q I rx hs pl pu q
theorem qo_none : QO X none dNoP := ⟨fun G H ρ σ R Q S h po pins s I => po_none.run pins s σ H Q I (by
  have z := po none G (Same.refl G) Kp.self h
  rw [lay_self S.hid.same] at z
  exact z)⟩
theorem qo_some (he : QE X e te) : QO X (some e) (dPart te) := ⟨fun G H ρ σ R Q S h po pins s I => (po_some pe_w).run pins s σ H Q I (he.run G H ρ σ _ _ S h fun v G1 d s1 k1 r1 q1 => by
  cases d <;> first | exact q1.elim | skip
  case int i => cases r1; exact ⟨i, rfl, po (some i) G1 s1 k1 q1⟩)⟩
theorem cut_int (ns : List Int) (lo hi : Option Int) : ∃ ms : List Int, cutV (ns.map V.int) lo hi = ms.map V.int ∧ cutD (ns.map D.int) lo hi = ms.map D.int := by
  refine ⟨(ns.drop (HT.sIx ns.length 0 lo)).take (HT.sIx ns.length ns.length hi - HT.sIx ns.length 0 lo), ?_, ?_⟩
  · unfold cutV; rw [List.length_map, List.map_take, List.map_drop]
  · unfold cutD; rw [List.length_map, List.map_take, List.map_drop]
theorem rep_ints {K : PySem.W.Frag} {H : Hp} : ∀ ns : List Int, RepAll K H (ns.map D.int) (ns.map V.int)
  | [] => rfl
  | n :: ns => ⟨.int n, ns.map V.int, rfl, rfl, rep_ints ns⟩
theorem qe_slice (he : QE X e te) (hl : QO X lo tl) (hh : QO X hi th) : QE X (.Subscript e (.Slice lo hi none p2) pos) (dSlice te tl th) := ⟨fun G H ρ σ R Q S h po => by
  have pl : PO X lo (fun σ H Q => ∀ (pins : List (Addr × Obj)) (s : Shared), Inv X pins σ H s → wpAny (model X.prog X.w) X.A (evalPart lo X.env) (fun u s' => ∃ o H', Inv X pins σ H' s' ∧ IsPart u o ∧ Q o H') X.xe s) := ⟨fun pins s σ H Q I h => h pins s I⟩
  have ph : PO X hi (fun σ H Q => ∀ (pins : List (Addr × Obj)) (s : Shared), Inv X pins σ H s → wpAny (model X.prog X.w) X.A (evalPart hi X.env) (fun u s' => ∃ o H', Inv X pins σ H' s' ∧ IsPart u o ∧ Q o H') X.xe s) := ⟨fun pins s σ H Q I h => h pins s I⟩
  refine W.of (pe_slice sl_w pe_w pl ph) ?_
  refine he.run G H ρ σ _ _ S h fun v G1 d s1 k1 r1 q1 => ?_
  have S1 := S.step s1 k1
  refine hl.run G1 _ ρ σ _ _ S1 q1 fun o1 G2 s2 k2 q2 => ?_
  have S2 := S1.step s2 k2
  refine hh.run G2 _ ρ σ _ _ S2 q2 fun o2 G3 s3 k3 q3 => ?_
  have S3 := S2.step s3 k3
  have po3 := ((po.seq s1 k1).seq s2 k2).seq s3 k3
  have r3 := Rep.mono (s2.trans s3) d v r1
  cases d <;> first | exact q3.elim | skip
  case lst ds =>
    obtain ⟨p, xs, rfl, hp, rp⟩ := r3
    exact WSl.of sl_list ⟨p, xs, rfl, SqL.of (S3.hid.same _ _ hp), fun l n => po3.lst S3.hid n (rp.cut _ _) q3⟩
  case tup ds =>
    obtain ⟨p, xs, rfl, hp, rp⟩ := r3
    refine WSl.of sln_tup ⟨p, xs, rfl, (hp.mono S3.hid.same).sq, fun c => ?_, fun _ => po3.tup S3.hid (rp.cut _ _) q3⟩
    have e : cutD ds o1 o2 = ds := by
      unfold cutD
      rw [← rp.length, c.1, c.2, Nat.sub_zero, List.drop_zero, rp.length, List.take_length]
    exact po3.here (d := .tup ds) S3.hid ⟨p, xs, rfl, hp, rp⟩ (by have q : R (.tup (cutD ds o1 o2)) := q3; rw [e] at q; exact q)
  case str z => cases r3; exact WSl.of sl_str ⟨z, rfl, q3.1, po3.here (d := .str (cutS z o1 o2)) S3.hid rfl q3.2⟩
  case scr ns =>
    obtain ⟨p, rfl, hp⟩ := r3
    obtain ⟨ms, e1, e2⟩ := cut_int ns o1 o2
    exact WSl.of sl_list ⟨p, _, rfl, S3.hid.same.seq hp, fun l n => po3.lst S3.hid n (by rw [e1]; exact rep_ints ms) (by have q : R (.lst (cutD (ns.map D.int) o1 o2)) := q3; rw [e2] at q; exact q)⟩⟩
end
end DL

namespace DL
open PySem PySem.Spec
open L2 hiding St
open PyProof.Rows (subscriptTail)

/-! ### built-ins over data -/
def dLen : List D → (D → Prop) → Prop
  | [.lst ds], R => R (.int ds.length)
  | [.tup ds], R => R (.int ds.length)
  | [.str z], R => z.length ≤ sizeLine ∧ R (.int z.length)
  | _, _ => False
def dList : List D → (D → Prop) → Prop
  | [.lst ds], R => R (.lst ds)
  | [.tup ds], R => R (.lst ds)
  | _, _ => False
def dTuple : List D → (D → Prop) → Prop
  | [.lst ds], R => R (.tup ds)
  | [.tup ds], R => R (.tup ds)
  | _, _ => False
def dInt : List D → (D → Prop) → Prop
  | [.int i], R => R (.int i)
  | [.bl k], R => R (.int (if k then 1 else 0))
  | _, _ => False
def dMin2 : List D → (D → Prop) → Prop
  | [.int i, .int j], R => R (.int (if j < i then j else i))
  | _, _ => False
def dMax2 : List D → (D → Prop) → Prop
  | [.int i, .int j], R => R (.int (if j > i then j else i))
  | _, _ => False
def bools : List D → Option (List Bool)
  | [] => some []
  | .bl b :: ds => (bools ds).map (b :: ·)
  | _ :: _ => none
def dAll : List D → (D → Prop) → Prop
  | [.lst ds], R => ∃ bs, bools ds = some bs ∧ R (.bl (bs.all id))
  | _, _ => False
def dStr : List D → (D → Prop) → Prop
  | [.int i], R => i.natAbs.log2 < 1920 ∧ R (.str (toString i))
  | _, _ => False
section
variable {X : Cx}
theorem one_of {K : PySem.W.Frag} {G : Hp} {d : D} {xs : List V} (h : RepAll K G [d] xs) : ∃ x, xs = [x] ∧ Rep K G d x := by
  obtain ⟨x, r, rfl, h, e⟩ := h
  cases e
  exact ⟨x, rfl, h⟩
theorem two_of {K : PySem.W.Frag} {G : Hp} {d e : D} {xs : List V} (h : RepAll K G [d, e] xs) : ∃ x y, xs = [x, y] ∧ Rep K G d x ∧ Rep K G e y := by
  obtain ⟨x, r, rfl, h, t⟩ := h
  obtain ⟨y, rfl, q⟩ := one_of t
  exact ⟨x, y, rfl, h, q⟩
theorem cd_len : CallD X (.builtin "len") dLen := by
  intro G H xs ds R Q hd r h po
  match ds, h with
  | [.lst ds], h =>
    obtain ⟨x, rfl, p, ys, rfl, hp, rp⟩ := one_of r
    exact WC.of call_len_seq ⟨p, ys, rfl, .inl (SqL.of (hd.same _ _ hp)), po.here (d := .int ds.length) hd (by rw [rp.length]; rfl) h⟩
  | [.tup ds], h =>
    obtain ⟨x, rfl, p, ys, rfl, hp, rp⟩ := one_of r
    exact WC.of call_len_seq ⟨p, ys, rfl, .inr ((hp.mono hd.same).sq), po.here (d := .int ds.length) hd (by rw [rp.length]; rfl) h⟩
  | [.str z], h =>
    obtain ⟨x, rfl, e⟩ := one_of r
    cases e
    exact WC.of call_len_str ⟨z, rfl, h.1, po.here (d := .int z.length) hd rfl h.2⟩
theorem cd_list : CallD X (.type "list") dList := by
  intro G H xs ds R Q hd r h po
  match ds, h with
  | [.lst ds], h =>
    obtain ⟨x, rfl, p, ys, rfl, hp, rp⟩ := one_of r
    exact WC.of call_list_of ⟨p, ys, rfl, .inl (SqL.of (hd.same _ _ hp)), fun l n => po.lst hd n rp h⟩
  | [.tup ds], h =>
    obtain ⟨x, rfl, p, ys, rfl, hp, rp⟩ := one_of r
    exact WC.of call_list_of ⟨p, ys, rfl, .inr ((hp.mono hd.same).sq), fun l n => po.lst hd n rp h⟩
theorem cd_tuple : CallD X (.type "tuple") dTuple := by
  intro G H xs ds R Q hd r h po
  match ds, h with
  | [.lst ds], h =>
    obtain ⟨x, rfl, p, ys, rfl, hp, rp⟩ := one_of r
    exact WC.of calln_tuple ⟨p, ys, rfl, .inl ⟨SqL.of (hd.same _ _ hp), po.tup hd rp h⟩⟩
  | [.tup ds], h =>
    obtain ⟨x, rfl, p, ys, rfl, hp, rp⟩ := one_of r
    exact WC.of calln_tuple ⟨p, ys, rfl, .inr ⟨(hp.mono hd.same).sq, po.here (d := .tup ds) hd ⟨p, ys, rfl, hp, rp⟩ h⟩⟩
theorem cd_int : CallD X (.type "int") dInt := by
  intro G H xs ds R Q hd r h po
  match ds, h with
  | [.int i], h =>
    obtain ⟨x, rfl, e⟩ := one_of r
    cases e
    exact WC.of call_int1 (.inl ⟨i, rfl, po.here (d := .int i) hd rfl h⟩)
  | [.bl k], h =>
    obtain ⟨x, rfl, e⟩ := one_of r
    cases e
    exact WC.of call_int1 (.inr ⟨k, rfl, po.here (d := .int (if k then 1 else 0)) hd rfl h⟩)
theorem cd_min2 (hc : X.calm = true) : CallD X (.builtin "min") dMin2 := by
  intro G H xs ds R Q hd r h po
  match ds, h with
  | [.int i, .int j], h =>
    obtain ⟨x, y, rfl, e1, e2⟩ := two_of r
    cases e1; cases e2
    exact WC.of (call_min2 hc) ⟨i, j, rfl, po.here (d := .int (if j < i then j else i)) hd rfl h⟩
theorem cd_max2 (hc : X.calm = true) : CallD X (.builtin "max") dMax2 := by
  intro G H xs ds R Q hd r h po
  match ds, h with
  | [.int i, .int j], h =>
    obtain ⟨x, y, rfl, e1, e2⟩ := two_of r
    cases e1; cases e2
    exact WC.of (call_max2 hc) ⟨i, j, rfl, po.here (d := .int (if j > i then j else i)) hd rfl h⟩
theorem rep_bools {K : PySem.W.Frag} {G : Hp} : ∀ {ds : List D} {bs : List Bool} {xs : List V}, bools ds = some bs → RepAll K G ds xs → xs = bs.map V.bl
  | [], bs, xs, e, r => by cases e; cases r; rfl
  | .bl b :: ds, bs, xs, e, r => by
    obtain ⟨x, t, rfl, rx, rt⟩ := r
    cases rx
    unfold bools at e
    cases q : bools ds with
    | none => rw [q] at e; cases e
    | some cs =>
      rw [q] at e
      cases e
      rw [rep_bools q rt]
      rfl
theorem cd_all (hc : X.calm = true) : CallD X (.builtin "all") dAll := by
  intro G H xs ds R Q hd r h po
  match ds, h with
  | [.lst ds], h =>
    obtain ⟨bs, e, q⟩ := h
    obtain ⟨x, rfl, p, ys, rfl, hp, rp⟩ := one_of r
    have z := rep_bools e rp
    subst z
    exact WC.of (cr_all hc) ⟨p, bs, rfl, SqL.of (hd.same _ _ hp), po.here (d := .bl (bs.all id)) hd rfl q⟩
theorem cd_str : CallD X (.type "str") dStr := by
  intro G H xs ds R Q hd r h po
  match ds, h with
  | [.int i], h =>
    obtain ⟨x, rfl, e⟩ := one_of r
    cases e
    exact WC.of call_str_int ⟨i, rfl, h.1, po.here (d := .str (toString i)) hd rfl h.2⟩
end

/-! ### isinstance -/
inductive Ct where | int | str | bool | list | tuple | dict
def Ct.nm : Ct → String
  | .int => "int" | .str => "str" | .bool => "bool" | .list => "list" | .tuple => "tuple" | .dict => "dict"
def isi : D → Ct → Bool
  | .bl _, .bool => true
  | .bl _, .int => true
  | .int _, .int => true
  | .str _, .str => true
  | .lst _, .list => true
  | .tup _, .tuple => true
  | _, _ => false
def tyN : D → Option String
  | .non => some "NoneType" | .bl _ => some "bool" | .int _ => some "int" | .str _ => some "str" | .lst _ => some "list" | .tup _ => some "tuple" | _ => none
def dIsi (T : Ct) (te : ED) : ED := fun ρ R => te ρ fun d => match tyN d with
  | some _ => R (.bl (isi d T))
  | none => False
def dIsi2 (T U : Ct) (te : ED) : ED := fun ρ R => te ρ fun d => match tyN d with
  | some _ => R (.bl (isi d T || isi d U))
  | none => False
theorem kb_non (T : Ct) : kitB "NoneType" T.nm = some (isi .non T) := by cases T <;> decide +kernel
theorem kb_bl (T : Ct) : kitB "bool" T.nm = some (isi (.bl true) T) := by cases T <;> decide +kernel
theorem kb_int (T : Ct) : kitB "int" T.nm = some (isi (.int 0) T) := by cases T <;> decide +kernel
theorem kb_str (T : Ct) : kitB "str" T.nm = some (isi (.str ⟨#[]⟩) T) := by cases T <;> decide +kernel
theorem kb_lst (T : Ct) : kitB "list" T.nm = some (isi (.lst []) T) := by cases T <;> decide +kernel
theorem kb_tup (T : Ct) : kitB "tuple" T.nm = some (isi (.tup []) T) := by cases T <;> decide +kernel
theorem kit_d {K : PySem.W.Frag} {d : D} {n : String} (h : tyN d = some n) (T : Ct) : PySem.W.kitOne K (.type n) (.type T.nm) = some (isi d T) := by
  cases d with
  | non => cases h; exact kit_ty (kb_non T)
  | bl b => cases h; exact kit_ty ((kb_bl T).trans (by cases T <;> rfl))
  | int b => cases h; exact kit_ty ((kb_int T).trans (by cases T <;> rfl))
  | str b => cases h; exact kit_ty ((kb_str T).trans (by cases T <;> rfl))
  | lst b => cases h; exact kit_ty ((kb_lst T).trans (by cases T <;> rfl))
  | tup b => cases h; exact kit_ty ((kb_tup T).trans (by cases T <;> rfl))
  | bag => cases h
  | scr b => cases h
theorem ty_d {K : PySem.W.Frag} {H : Hp} {d : D} {v : V} {n : String} (h : tyN d = some n) (r : Rep K H d v) : TyX K H v (.type n) := by
  cases d with
  | non => cases h; cases r; exact .base .non
  | bl b => cases h; cases r; exact .base (.bl b)
  | int b => cases h; cases r; exact .base (.int b)
  | str b => cases h; cases r; exact .base (.str b)
  | lst ds => cases h; obtain ⟨a, xs, rfl, hp, _⟩ := r; exact .base (.lst hp)
  | tup ds =>
    cases h
    obtain ⟨a, xs, rfl, hp, _⟩ := r
    rcases hp with ⟨o, _, hp⟩ | ⟨o, its, n, hk, hc, _⟩
    · exact .fTuple hp
    · exact .kTuple hk hc
  | bag => cases h
  | scr ns => cases h
section
variable {X : Cx} {e : Expr} {te : ED} {p q r r' pos : Pos} {k1 : Nat}
theorem qe_isi (T : Ct) (hg : Gl X "isinstance") (hm : X.mg "isinstance" = none) (hgT : Gl X T.nm) (hmT : X.mg T.nm = none) (he : QE X e te) (hb : bootBuiltins T.nm = some (.type T.nm) := by exact rfl)
    (h1 : starEach [e, .Name T.nm q] X.env = (false, eval e X.env) :: starEach [.Name T.nm q] X.env := by rfl) (h2 : starEach [.Name T.nm q] X.env = (false, eval (.Name T.nm q) X.env) :: starEach [] X.env := by rfl) (hpl : (backTo pos (starEach [.Name T.nm q] X.env)).any (·.1) = false := by rfl) :
    QE X (.Call (.Name "isinstance" p) [e, .Name T.nm q] [] pos) (dIsi T te) := ⟨fun G H ρ σ R Q S h po => by
  have pT : PE X (.Name T.nm q) (tC (.ty T.nm)) := pe_bltn hgT hmT hb rfl (by cases T <;> decide) (by cases T <;> decide)
  refine W.of (pe_callB call_isi hg hm (by decide +kernel) (pa_cons pe_w (pa_cons pT pa_nil h2) h1) (by decide) (by decide) h1 hpl) ?_
  refine he.run G H ρ σ _ _ S h fun v G1 d s1 k1 r1 q1 => ?_
  have S1 := S.step s1 k1
  cases e1 : tyN d with
  | none => rw [e1] at q1; exact q1.elim
  | some n =>
    rw [e1] at q1
    exact ⟨v, .ty T.nm, .type n, .type T.nm, _, rfl, .ty _, ty_d e1 (Rep.mono S1.hid.same d v r1), kit_d e1 T, (po.seq s1 k1).here (d := .bl (isi d T)) S1.hid rfl q1⟩⟩
theorem kit_any {K : PySem.W.Frag} {d : D} {n : String} (h : tyN d = some n) (T U : Ct) : PySem.W.kitAny K (.type n) [.type T.nm, .type U.nm] = some (isi d T || isi d U) := by
  refine kitAny_cons (kit_d h T) (fun e1 => ?_) (fun e1 => by rw [e1]; rfl)
  rw [e1, Bool.false_or]
  refine kitAny_cons (kit_d h U) (fun e2 => ?_) (fun e2 => e2)
  rw [e2]
  rfl
theorem qe_isi2 (T U : Ct) (hg : Gl X "isinstance") (hm : X.mg "isinstance" = none) (hgT : Gl X T.nm) (hmT : X.mg T.nm = none) (hgU : Gl X U.nm) (hmU : X.mg U.nm = none) (he : QE X e te) (hb : bootBuiltins T.nm = some (.type T.nm) := by exact rfl) (hb' : bootBuiltins U.nm = some (.type U.nm) := by exact rfl)
    (h1 : starEach [e, .Tuple [.Name T.nm q, .Name U.nm r] k1 r'] X.env = (false, eval e X.env) :: starEach [.Tuple [.Name T.nm q, .Name U.nm r] k1 r'] X.env := by rfl)
    (h2 : starEach [.Tuple [.Name T.nm q, .Name U.nm r] k1 r'] X.env = (false, eval (.Tuple [.Name T.nm q, .Name U.nm r] k1 r') X.env) :: starEach [] X.env := by rfl)
    (h3 : starEach [.Name T.nm q, .Name U.nm r] X.env = (false, eval (.Name T.nm q) X.env) :: starEach [.Name U.nm r] X.env := by rfl) (h4 : starEach [.Name U.nm r] X.env = (false, eval (.Name U.nm r) X.env) :: starEach [] X.env := by rfl)
    (hpl : (backTo pos (starEach [.Tuple [.Name T.nm q, .Name U.nm r] k1 r'] X.env)).any (·.1) = false := by rfl) :
    QE X (.Call (.Name "isinstance" p) [e, .Tuple [.Name T.nm q, .Name U.nm r] k1 r'] [] pos) (dIsi2 T U te) := ⟨fun G H ρ σ R Q S h po => by
  have pT : PE X (.Name T.nm q) (tC (.ty T.nm)) := pe_bltn hgT hmT hb rfl (by cases T <;> decide) (by cases T <;> decide)
  have pU : PE X (.Name U.nm r) (tC (.ty U.nm)) := pe_bltn hgU hmU hb' rfl (by cases U <;> decide) (by cases U <;> decide)
  refine W.of (pe_callB call_isiT hg hm (by decide +kernel) (pa_cons pe_w (pa_cons (pe_tup (pa_cons pT (pa_cons pU pa_nil h4) h3)) pa_nil h2) h1) (by decide) (by decide) h1 hpl) ?_
  refine he.run G H ρ σ _ _ S h fun v G1 d s1 k1 r1 q1 => ?_
  have S1 := S.step s1 k1
  cases e1 : tyN d with
  | none => rw [e1] at q1; exact q1.elim
  | some n =>
    rw [e1] at q1
    refine ⟨by show 2 ≤ sizeLine; decide, fun tp ntp => ?_⟩
    refine ⟨v, tp, [.ty T.nm, .ty U.nm], .type n, [.type T.nm, .type U.nm], _, rfl, upd_same, .cons (.ty _) (.cons (.ty _) .nil), ty_d e1 (Rep.mono (S1.hid.same.trans (same_upd ntp)) d v r1), kit_any e1 T U, ?_⟩
    exact (po.seq s1 k1).new (d := .bl (isi d T || isi d U)) S1.hid ntp rfl q1⟩
end

/-! ### methods -/
def WM (X : Cx) (id : String) : V → List V → Hp → VK → Prop := fun x xs H Q => ∀ (pins : List (Addr × Obj)) (s : Shared) (σ : St) (v : Value) (us : List Value), Inv X pins σ H s → RelV x v → Vals xs us → wpAny (model X.prog X.w) X.A (call (.builtin id) (v :: us)) (EP X pins σ Q) X.xe s
abbrev MD := D → List D → (D → Prop) → Prop
def MtD (X : Cx) (id : String) (r : MD) : Prop := ∀ (G H : Hp) (x : V) (xs : List V) (d : D) (ds : List D) (R : D → Prop) (Q : VK), Hid G H → Rep X.K G d x → RepAll X.K G ds xs → r d ds R → Po X.K G H R Q → WM X id x xs H Q
def str? : D → Bool
  | .str _ => true
  | _ => false
def dM1 (r : MD) (to te : ED) : ED := fun ρ R => to ρ fun x => str? x = true ∧ te ρ fun y => r x [y] R
def dJoin : MD
  | .str a, [.lst ds], R => ∃ ys : List Str, ds = ys.map D.str ∧ (ys.map (·.length)).sum + ys.length * a.length ≤ 16777216 ∧ R (.str (Txt.join a ys))
  | _, _, _ => False
def dPartition : MD
  | .str a, [.str b], R => (b.length == 0) = false ∧ a.length ≤ sizeLine ∧ R (.tup [.str (Txt.partition a b).1, .str (Txt.partition a b).2.1, .str (Txt.partition a b).2.2])
  | _, _, _ => False
def dSplit : MD
  | .str a, [.str b], R => (b.length == 0) = false ∧ a.length + 2 ≤ sizeLine ∧ R (.lst ((Txt.split a b).map D.str))
  | _, _, _ => False
def dStarts : MD
  | .str a, [.str b], R => R (.bl (Txt.startswith a b))
  | _, _, _ => False
/-- the first place of a text -/
def dIndexL : MD
  | .lst ds, [.str z], R => ∃ (ys : List Str) (j : Nat), ds = ys.map D.str ∧ ys[j]? = some z ∧ (∀ m, m < j → ys[m]? ≠ some z) ∧ R (.int j)
  | _, _, _ => False
def dIndexT : MD
  | .tup ds, [.str z], R => ∃ (ys : List Str) (j : Nat), ds = ys.map D.str ∧ ys[j]? = some z ∧ (∀ m, m < j → ys[m]? ≠ some z) ∧ R (.int j)
  | _, _, _ => False
/-- what type's method of that name is meant -/
def tyM : D → String
  | .str _ => "str"
  | .lst _ => "list"
  | .tup _ => "tuple"
  | _ => ""
def dMeth (r : D → MD) (to : ED) (t : AD) : ED := fun ρ R => to ρ fun x => t ρ fun ys => r x x ys R
section
variable {X : Cx} {o e : Expr} {es : List Expr} {to te : ED} {at_ : AD} {apos pos : Pos} {id : String} {name : Str} {r : MD}
theorem mt_w : MtR X id (WM X id) := fun pins s σ H x xs v us Q I rx rs h => h pins s σ v us I rx rs
theorem WM.of {r : V → List V → Hp → VK → Prop} {x : V} {xs : List V} {H : Hp} {Q : VK} (h : MtR X id r) (q : r x xs H Q) : WM X id x xs H Q := fun pins s σ v us I rx rs => h pins s σ H x xs v us Q I rx rs q
theorem rep_strs {K : PySem.W.Frag} {G : Hp} : ∀ {ys : List Str} {xs : List V}, RepAll K G (ys.map D.str) xs → xs = ys.map V.str
  | [], xs, r => by cases r; rfl
  | y :: ys, xs, r => by
    obtain ⟨x, t, rfl, rx, rt⟩ := r
    cases rx
    rw [rep_strs rt]
    rfl
theorem strs_rep {K : PySem.W.Frag} {G : Hp} : ∀ ys : List Str, RepAll K G (ys.map D.str) (ys.map V.str)
  | [] => rfl
  | y :: ys => ⟨.str y, ys.map V.str, rfl, rfl, strs_rep ys⟩
theorem md_join : MtD X "str.join" dJoin := by
  intro G H x xs d ds R Q hd rd r h po
  match d, ds, h with
  | .str a, [.lst ds], h =>
    cases rd
    obtain ⟨ys, rfl, hz, q⟩ := h
    obtain ⟨x, rfl, p, zs, rfl, hp, rp⟩ := one_of r
    have e := rep_strs rp
    subst e
    exact WM.of mt_join ⟨a, p, ys, rfl, rfl, .inl (SqL.of (hd.same _ _ hp)), hz, po.here (d := .str (Txt.join a ys)) hd rfl q⟩
theorem md_partition : MtD X "str.partition" dPartition := by
  intro G H x xs d ds R Q hd rd r h po
  match d, ds, h with
  | .str a, [.str b], h =>
    cases rd
    obtain ⟨x, rfl, e⟩ := one_of r
    cases e
    exact WM.of mtn_partition ⟨a, b, rfl, rfl, h.1, h.2.1, po.tup hd (strs_rep [(Txt.partition a b).1, (Txt.partition a b).2.1, (Txt.partition a b).2.2]) h.2.2⟩
theorem md_split : MtD X "str.split" dSplit := by
  intro G H x xs d ds R Q hd rd r h po
  match d, ds, h with
  | .str a, [.str b], h =>
    cases rd
    obtain ⟨x, rfl, e⟩ := one_of r
    cases e
    exact WM.of mt_split ⟨a, b, rfl, rfl, h.1, h.2.1, fun p n => po.lst hd n (strs_rep _) h.2.2⟩
theorem md_starts : MtD X "str.startswith" dStarts := by
  intro G H x xs d ds R Q hd rd r h po
  match d, ds, h with
  | .str a, [.str b], h =>
    cases rd
    obtain ⟨x, rfl, e⟩ := one_of r
    cases e
    exact WM.of mt_startswith ⟨a, b, rfl, rfl, po.here (d := .bl (Txt.startswith a b)) hd rfl h⟩
theorem flat_strs : ∀ ys : List Str, (ys.map V.str).all flatV = true
  | [] => rfl
  | y :: ys => by rw [List.map_cons, List.all_cons, flat_strs ys]; rfl
theorem md_indexL : MtD X "list.index" dIndexL := by
  intro G H x xs d ds R Q hd rd r h po
  match d, ds, h with
  | .lst ds, [.str z], h =>
    obtain ⟨p, zs, rfl, hp, rp⟩ := rd
    obtain ⟨ys, j, rfl, ej, hj, q⟩ := h
    obtain ⟨x, rfl, e⟩ := one_of r
    cases e
    have e := rep_strs rp
    subst e
    refine WM.of mt_index ⟨p, ys.map V.str, .str z, j, .str z, rfl, rfl, SqL.of (hd.same _ _ hp), rfl, flat_strs ys, by rw [List.getElem?_map, ej]; rfl, by show (z == z) = true; exact beq_self_eq_true z, fun m z' hm e' => ?_, po.here (d := .int j) hd rfl q⟩
    rw [List.getElem?_map] at e'
    cases e2 : ys[m]? with
    | none => rw [e2] at e'; cases e'
    | some w =>
      rw [e2] at e'
      cases e'
      show (w == z) = false
      refine beq_eq_false_iff_ne.mpr fun e3 => hj m hm ?_
      rw [e2, e3]
theorem md_indexT : MtD X "tuple.index" dIndexT := by
  intro G H x xs d ds R Q hd rd r h po
  match d, ds, h with
  | .tup ds, [.str z], h =>
    obtain ⟨p, zs, rfl, hp, rp⟩ := rd
    obtain ⟨ys, j, rfl, ej, hj, q⟩ := h
    obtain ⟨x, rfl, e⟩ := one_of r
    cases e
    have e := rep_strs rp
    subst e
    exact WM.of mt_tup_index ⟨p, ys, z, j, rfl, rfl, (hp.mono hd.same).sq, ej, hj, po.here (d := .int j) hd rfl q⟩
/-- a method of a built-in type, by what the receiver is -/
def TyM (X : Cx) (name : Str) (rr : D → MD) : Prop := ∀ d, tyM d ≠ "" → (∀ ys R, ¬ rr d d ys R) ∨ ∃ id, PlainAttrs (tyM d) ∧ Slot (tyM d) name id ∧ typeOf (.builtin id) = pure (.type "method_descriptor") ∧ MtD X id (rr d)
theorem tyM_is {pins : List (Addr × Obj)} {σ : St} {G H : Hp} {s : Shared} {d : D} {x : V} {v : Value} (I : Inv X pins σ H s) (sm : Same G H) (r : RelV x v) (rd : Rep X.K G d x) (h : tyM d ≠ "") : s.TypeIs v (tyM d) ∧ ∀ a, v = .ref a → ∃ ob, s.heap.get? a = some ob ∧ ob.dict = none := by
  cases d <;> first | exact absurd rfl h | skip
  case str z =>
    cases rd
    obtain ⟨t, rfl⟩ := r
    exact ⟨typeIs_str s z t, fun _ e => nomatch e⟩
  case lst ds =>
    obtain ⟨p, xs, rfl, hp, _⟩ := rd
    cases r
    obtain ⟨its, _, pl, _⟩ := I.list (SqL.of (K := X.K) (sm _ _ hp))
    refine ⟨pl.isList.typeIs, fun a e => ?_⟩
    cases e
    obtain ⟨o, n, e, _, hd, _⟩ := pl
    exact ⟨o, e, hd⟩
  case tup ds =>
    obtain ⟨p, xs, rfl, hp, _⟩ := rd
    cases r
    rcases hp.mono sm with ⟨o, hd, hp⟩ | ⟨o, its, n, hk, hc, hd, _⟩
    · obtain ⟨e, _, its, _, o2, e2, c2, _⟩ := I.hok p _ hp
      rw [e] at e2
      cases e2
      refine ⟨⟨o, e, c2⟩, fun a z => ?_⟩
      cases z
      exact ⟨o, e, hd⟩
    · refine ⟨⟨o, I.kIn p o hk, hc⟩, fun a z => ?_⟩
      cases z
      exact ⟨o, I.kIn p o hk, hd⟩
def dMethT (rr : D → MD) (to : ED) (t : AD) : ED := fun ρ R => to ρ fun x => tyM x ≠ "" ∧ (∃ ys R', rr x x ys R') ∧ t ρ fun ys => rr x x ys R
theorem qe_meth {rr : D → MD} (hT : TyM X name rr) (ho : QE X o to) (ha : QA X (e :: es) at_) (hbase : attributeBase o name X.env (eval o X.env) = eval o X.env := by rfl)
    (hfew : ((backTo pos (starEach (e :: es) X.env)).all (fun x => !x.1) && (backToKw pos (keywordEach [] X.env)).all (fun x => x.1.isSome) && decide ((e :: es).length + ([] : List Keyword).length + (if ([] : List Keyword).isEmpty then 0 else 1) < 30)) = true := by rfl)
    (hline : (apos.endLine == pos.line) = true := by rfl) (hs : starEach (e :: es) X.env = (false, eval e X.env) :: starEach es X.env := by rfl) (hpl : (backTo pos (starEach es X.env)).any (·.1) = false := by rfl) :
    QE X (.Call (.Attribute o name apos) (e :: es) [] pos) (dMethT rr to at_) := ⟨fun G H ρ σ R Q S h po pins s I => by
  refine wpAny_Call_method_late hbase hfew hline rfl ?_
  refine thn ((ho.run G H ρ σ _ (fun v H1 => ∃ G1 d, Same G G1 ∧ Kp G H G1 ∧ H1 = lay G H G1 ∧ Rep X.K G1 d v ∧ tyM d ≠ "" ∧ (∃ ys R', rr d d ys R') ∧ at_ ρ fun ys => rr d d ys R) S h fun v G1 d s1 k1 r1 q1 => ⟨G1, d, s1, k1, rfl, r1, q1⟩) pins s I) ?_
  rintro v s1 ⟨x, H1, I1, rx, G1, d, sm, kp, rfl, rd, ht, hne, q⟩
  have S1 := S.step sm kp
  obtain ⟨h1, h2⟩ := tyM_is I1 S1.hid.same rx rd ht
  rcases hT d ht with hno | ⟨id, pa, slot, hty, hm⟩
  · obtain ⟨ys, R', z⟩ := hne
    exact absurd z (hno ys R')
  · refine ⟨tyM d, id, pa, slot, hty, h1, h2, ?_⟩
    have hA := (ha.run G1 _ ρ σ _ (fun vs H2 => WM X id x vs H2 Q) S1 q fun vs G2 ys s2 k2 r2 q2 => hm G2 _ x vs d ys R Q (S1.hid.lay k2) (Rep.mono s2 d x rd) r2 q2 ((po.seq sm kp).seq s2 k2)) pos pins s1 I1
    rw [hs] at hA ⊢
    refine Calls.callWith_builtin (by show (false || (backTo pos (starEach es X.env)).any (·.1)) = false; rw [hpl]; rfl) (Calls.evalArgs_plain ?_)
    exact thn hA fun us s2 ⟨vs, H2, I2, r2, q2⟩ => q2 pins s2 σ v us I2 rx r2⟩
def mdStr (m : MD) (d : D) : MD := match d with
  | .str _ => m
  | _ => fun _ _ _ => False
def mdIndex (d : D) : MD := match d with
  | .lst _ => dIndexL
  | .tup _ => dIndexT
  | _ => fun _ _ _ => False
theorem ty_str {id : String} {m : MD} (slot : Slot "str" name id) (ty : typeOf (.builtin id) = pure (.type "method_descriptor")) (h : MtD X id m) : TyM X name (mdStr m) := fun d hd => by
  cases d <;> first | exact .inl fun _ _ z => z | exact .inr ⟨id, PySem.F.plainAttrs_str, slot, ty, h⟩
theorem ty_index : TyM X "index" mdIndex := fun d hd => by
  cases d <;> first | exact .inl fun _ _ z => z | exact .inr ⟨_, PySem.F.plainAttrs_list, PySem.F.slot_list_index, PySem.F.type_list_index, md_indexL⟩ | exact .inr ⟨_, PySem.F.plainAttrs_tuple, PySem.F.slot_tuple_index, PySem.F.type_tuple_index, md_indexT⟩
end
end DL

namespace DL
open PySem PySem.Spec PyProof.Rows
open L2 hiding St

/-! ### a list that one slot owns, seen for a while or for good -/
theorem get_set {ρ : Rho} {i j : Nat} {x : SL} (h : i < ρ.length) : (ρ.set i x)[j]? = if i = j then some x else ρ[j]? := by
  rw [List.getElem?_set]
  by_cases e : i = j
  · rw [if_pos e, if_pos e, if_pos h]
  · rw [if_neg e, if_neg e]
theorem lt_of_get {ρ : Rho} {i : Nat} {x : SL} (h : ρ[i]? = some x) : i < ρ.length := (List.getElem?_eq_some_iff.mp h).1
theorem Sim.free {K : PySem.W.Frag} {G H : Hp} {ρ : Rho} {σ : St} {i : Nat} {ds : List D} (S : Sim K G H ρ σ) (e : ρ[i]? = some (SL.own ds)) :
    ∃ p xs, G p = none ∧ H p = some (.lst xs) ∧ RepAll K G ds xs ∧ σ[i]? = some (some (V.ref p)) ∧ Sim K (upd G p (.lst xs)) H (ρ.set i (.val (.lst ds))) σ := by
  obtain ⟨p, xs, hs, hp, gp, r⟩ := S.own i ds e
  have hi := lt_of_get e
  have sm : Same G (upd G p (.lst xs)) := same_upd gp
  refine ⟨p, xs, gp, hp, r, hs, ⟨fun b o q => ?_, fun b u n q => ?_⟩, by rw [List.length_set]; exact S.len, fun j d q => ?_, fun j es q => ?_, fun j k es fs p' q1 q2 h1 h2 => ?_⟩
  · by_cases hb : b = p
    · rw [hb, upd_same] at q; cases q; rw [hb]; exact hp
    · rw [upd_ne hb] at q; exact S.hid.same b o q
  · have hb : b ≠ p := fun z => by rw [z, upd_same] at n; cases n
    rw [upd_ne hb] at n
    exact S.hid.lst b u n q
  · rw [get_set hi] at q
    by_cases hj : i = j
    · rw [if_pos hj] at q
      cases q
      rw [← hj]
      exact ⟨.ref p, hs, p, xs, rfl, upd_same, RepAll.mono sm ds xs r⟩
    · rw [if_neg hj] at q
      obtain ⟨v, h1, h2⟩ := S.val j d q
      exact ⟨v, h1, Rep.mono sm d v h2⟩
  · rw [get_set hi] at q
    by_cases hj : i = j
    · rw [if_pos hj] at q; cases q
    · rw [if_neg hj] at q
      obtain ⟨p', ys, h1, h2, h3, h4⟩ := S.own j es q
      have hn : p' ≠ p := fun z => hj (S.inj i j ds es p e q hs (by rw [← z]; exact h1))
      exact ⟨p', ys, h1, h2, by rw [upd_ne hn]; exact h3, RepAll.mono sm es ys h4⟩
  · rw [get_set hi] at q1 q2
    by_cases hj : i = j
    · rw [if_pos hj] at q1; cases q1
    · by_cases hk : i = k
      · rw [if_pos hk] at q2; cases q2
      · rw [if_neg hj] at q1; rw [if_neg hk] at q2
        exact S.inj j k es fs p' q1 q2 h1 h2
def dele (G : Hp) (p : Addr) : Hp := fun b => if b = p then none else G b
theorem dele_ne {G : Hp} {p b : Addr} (h : b ≠ p) : dele G p b = G b := if_neg h
theorem dele_same {G : Hp} {p : Addr} : dele G p p = none := if_pos rfl
theorem hide_back {G H G' : Hp} {p : Addr} {u : HO} (gp : G p = none) (hp : H p = some u) (s : Same (upd G p u) G') (k : Kp (upd G p u) H G') : Same G (dele G' p) ∧ Kp G H (dele G' p) ∧ lay (upd G p u) H G' = lay G H (dele G' p) := by
  refine ⟨fun b o e => ?_, fun b o n h => ?_, ?_⟩
  · have hb : b ≠ p := ne_of_none e gp
    rw [dele_ne hb]
    exact s b o (by rw [upd_ne hb]; exact e)
  · by_cases hb : b = p
    · rw [hb]; exact dele_same
    · rw [dele_ne hb]
      exact k b o (by rw [upd_ne hb]; exact n) h
  · funext b
    by_cases hb : b = p
    · subst hb
      rw [lay_hid gp hp, lay_some upd_same, s b u upd_same]
    · cases g : G b with
      | some o => rw [lay_some (u := o) (by rw [upd_ne hb]; exact g), lay_some g, dele_ne hb]
      | none =>
        cases h : H b with
        | some o => rw [lay_hid (by rw [upd_ne hb]; exact g) h, lay_hid g h]
        | none => rw [lay_none h, lay_none h, dele_ne hb]
def scal? : D → Bool
  | .non => true
  | .bl _ => true
  | .int _ => true
  | .str _ => true
  | _ => false
theorem rep_scal {K : PySem.W.Frag} {G G' : Hp} {d : D} {v : V} (h : scal? d = true) (r : Rep K G d v) : Rep K G' d v := by
  cases d <;> first | exact r | cases h
def dBorT (i : Nat) (t : TD) : TD := fun ρ R => match ρ[i]? with
  | some (.own ds) => t (ρ.set i (.val (.lst ds))) R
  | _ => t ρ R
def dBorE (i : Nat) (t : ED) : ED := fun ρ R => match ρ[i]? with
  | some (.own ds) => t (ρ.set i (.val (.lst ds))) fun d => scal? d = true ∧ R d
  | _ => t ρ R
section
variable {X : Cx} {e : Expr}
theorem qt_borrow (i : Nat) {t : TD} (h : QT X e t) : QT X e (dBorT i t) := ⟨fun G H ρ σ R Q S q po => by
  unfold dBorT at q
  cases z : ρ[i]? with
  | none => rw [z] at q; exact h.run G H ρ σ R Q S q po
  | some x =>
    rw [z] at q
    cases x with
    | nul => exact h.run G H ρ σ R Q S q po
    | val d => exact h.run G H ρ σ R Q S q po
    | own ds =>
      obtain ⟨p, xs, gp, hp, r, hs, S1⟩ := S.free z
      refine h.run _ H _ σ R Q S1 q fun b G' s k q1 => ?_
      obtain ⟨a1, a2, a3⟩ := hide_back gp hp s k
      rw [a3]
      exact po b _ a1 a2 q1⟩
theorem qe_borrow (i : Nat) {t : ED} (h : QE X e t) : QE X e (dBorE i t) := ⟨fun G H ρ σ R Q S q po => by
  unfold dBorE at q
  cases z : ρ[i]? with
  | none => rw [z] at q; exact h.run G H ρ σ R Q S q po
  | some x =>
    rw [z] at q
    cases x with
    | nul => exact h.run G H ρ σ R Q S q po
    | val d => exact h.run G H ρ σ R Q S q po
    | own ds =>
      obtain ⟨p, xs, gp, hp, r, hs, S1⟩ := S.free z
      refine h.run _ H _ σ _ Q S1 q fun v G' d s k r1 q1 => ?_
      obtain ⟨a1, a2, a3⟩ := hide_back gp hp s k
      rw [a3]
      exact po v _ d a1 a2 (rep_scal q1.1 r1) q1.2⟩
end

/-! ### statements -/
structure EndsD where
  nx : Rho → Prop
  rt : D → Prop
  bk : Rho → Prop
  ct : Rho → Prop
abbrev SD := EndsD → Rho → Prop
structure PoS (K : PySem.W.Frag) (G : Hp) (E : EndsD) (D : Ends) : Prop where
  nx : ∀ G' H' ρ' σ', Same G G' → Sim K G' H' ρ' σ' → E.nx ρ' → D.nx σ' H'
  rt : ∀ v G' H' d, Same G G' → Hid G' H' → Rep K G' d v → E.rt d → D.rt v H'
  bk : ∀ G' H' ρ' σ', Same G G' → Sim K G' H' ρ' σ' → E.bk ρ' → D.bk σ' H'
  ct : ∀ G' H' ρ' σ', Same G G' → Sim K G' H' ρ' σ' → E.ct ρ' → D.ct σ' H'
theorem PoS.seq {K : PySem.W.Frag} {G G1 : Hp} {E : EndsD} {D : Ends} (p : PoS K G E D) (s : Same G G1) : PoS K G1 E D :=
  ⟨fun G' H' ρ' σ' a => p.nx G' H' ρ' σ' (s.trans a), fun v G' H' d a => p.rt v G' H' d (s.trans a), fun G' H' ρ' σ' a => p.bk G' H' ρ' σ' (s.trans a), fun G' H' ρ' σ' a => p.ct G' H' ρ' σ' (s.trans a)⟩
def WS (X : Cx) (st : Stmt) : TS := fun D σ H => ∀ (pins : List (Addr × Obj)) (s : Shared), Inv X pins σ H s → wpAny (model X.prog X.w) X.A (exec st X.env) (SP X pins D) X.xe s
def WSs (X : Cx) (st : List Stmt) : TS := fun D σ H => ∀ (pins : List (Addr × Obj)) (s : Shared), Inv X pins σ H s → wpAny (model X.prog X.w) X.A (execs st X.env) (SP X pins D) X.xe s
structure QS (X : Cx) (st : Stmt) (t : SD) : Prop where
  run : ∀ (G H : Hp) (ρ : Rho) (σ : St) (E : EndsD) (D : Ends), Sim X.K G H ρ σ → t E ρ → PoS X.K G E D → WS X st D σ H
structure QSs (X : Cx) (st : List Stmt) (t : SD) : Prop where
  run : ∀ (G H : Hp) (ρ : Rho) (σ : St) (E : EndsD) (D : Ends), Sim X.K G H ρ σ → t E ρ → PoS X.K G E D → WSs X st D σ H
def dNext : SD := fun E ρ => E.nx ρ
def dSeq (t u : SD) : SD := fun E ρ => t { E with nx := u E } ρ
def dRet (t : ED) : SD := fun E ρ => t ρ E.rt
def dIfS (c : TD) (t u : SD) : SD := fun E ρ => c ρ fun b => if b = true then t E ρ else u E ρ
def dSet (i : Nat) (t : ED) : SD := fun E ρ => t ρ fun d => E.nx (ρ.set i (.val d))
def dDrop (t : ED) : SD := fun E ρ => t ρ fun _ => E.nx ρ
/-- what a target does with a datum -/
abbrev GD := D → Rho → (Rho → Prop) → Prop
def gdName (i : Nat) : GD := fun d ρ R => R (ρ.set i (.val d))
def gdTup (n : Nat) (g : List D → Rho → (Rho → Prop) → Prop) : GD := fun d ρ R => match d with
  | .tup ds => ds.length = n ∧ g ds ρ R
  | _ => False
def gdNil : List D → Rho → (Rho → Prop) → Prop
  | [], ρ, R => R ρ
  | _, _, _ => False
def gdCons (g : GD) (gs : List D → Rho → (Rho → Prop) → Prop) : List D → Rho → (Rho → Prop) → Prop
  | d :: ds, ρ, R => g d ρ fun ρ1 => gs ds ρ1 R
  | _, _, _ => False
def dAsg (t : ED) (g : GD) : SD := fun E ρ => t ρ fun d => g d ρ E.nx
theorem Sim.put {K : PySem.W.Frag} {G H : Hp} {ρ : Rho} {σ : St} {i : Nat} {d : D} {v : V} (S : Sim K G H ρ σ) (hi : i < ρ.length) (r : Rep K G d v) : Sim K G H (ρ.set i (.val d)) (σ.set i (some v)) := by
  have hσ : i < σ.length := by rw [← S.len]; exact hi
  refine ⟨S.hid, by rw [List.length_set, List.length_set]; exact S.len, fun j e q => ?_, fun j es q => ?_, fun j k es fs p q1 q2 h1 h2 => ?_⟩
  · rw [get_set hi] at q
    by_cases hj : i = j
    · rw [if_pos hj] at q; cases q
      rw [← hj, List.getElem?_set_self hσ]
      exact ⟨v, rfl, r⟩
    · rw [if_neg hj] at q
      rw [List.getElem?_set_ne hj]
      exact S.val j e q
  · rw [get_set hi] at q
    by_cases hj : i = j
    · rw [if_pos hj] at q; cases q
    · rw [if_neg hj] at q
      rw [List.getElem?_set_ne hj]
      exact S.own j es q
  · rw [get_set hi] at q1 q2
    by_cases hj : i = j
    · rw [if_pos hj] at q1; cases q1
    · by_cases hk : i = k
      · rw [if_pos hk] at q2; cases q2
      · rw [if_neg hj] at q1; rw [if_neg hk] at q2
        rw [List.getElem?_set_ne hj] at h1
        rw [List.getElem?_set_ne hk] at h2
        exact S.inj j k es fs p q1 q2 h1 h2
/-- a slot is put to nothing -/
theorem Sim.nul {K : PySem.W.Frag} {G H : Hp} {ρ : Rho} {σ : St} (i : Nat) (S : Sim K G H ρ σ) : Sim K G H (ρ.set i .nul) (σ.set i none) := by
  have gs : ∀ (j : Nat) (x : SL), x ≠ .nul → (ρ.set i .nul)[j]? = some x → i ≠ j ∧ ρ[j]? = some x := fun j x hx q => by
    rw [List.getElem?_set] at q
    by_cases hj : i = j
    · rw [if_pos hj] at q
      split at q
      · cases q; exact absurd rfl hx
      · cases q
    · rw [if_neg hj] at q
      exact ⟨hj, q⟩
  refine ⟨S.hid, by rw [List.length_set, List.length_set]; exact S.len, fun j e q => ?_, fun j es q => ?_, fun j k es fs p q1 q2 h1 h2 => ?_⟩
  · obtain ⟨hj, q⟩ := gs j _ (by intro z; cases z) q
    rw [List.getElem?_set_ne hj]
    exact S.val j e q
  · obtain ⟨hj, q⟩ := gs j _ (by intro z; cases z) q
    rw [List.getElem?_set_ne hj]
    exact S.own j es q
  · obtain ⟨hj, q1⟩ := gs j _ (by intro z; cases z) q1
    obtain ⟨hk, q2⟩ := gs k _ (by intro z; cases z) q2
    rw [List.getElem?_set_ne hj] at h1
    rw [List.getElem?_set_ne hk] at h2
    exact S.inj j k es fs p q1 q2 h1 h2
/-- a new list goes to a slot that owns it -/
theorem Sim.putOwn {K : PySem.W.Frag} {G H : Hp} {ρ : Rho} {σ : St} {i : Nat} {ds : List D} {p : Addr} {xs : List V} (S : Sim K G H ρ σ) (hi : i < ρ.length) (hn : H p = none) (r : RepAll K G ds xs) : Sim K G (upd H p (.lst xs)) (ρ.set i (.own ds)) (σ.set i (some (.ref p))) := by
  have hσ : i < σ.length := by rw [← S.len]; exact hi
  have gp : G p = none := S.hid.same.free hn
  have old : ∀ {q : Addr} {u : HO}, H q = some u → q ≠ p := fun {q u} e z => by rw [z, hn] at e; cases e
  refine ⟨⟨fun b o e => by rw [upd_ne (ne_of_none e gp)]; exact S.hid.same b o e, fun b u n q => ?_⟩, by rw [List.length_set, List.length_set]; exact S.len, fun j e q => ?_, fun j es q => ?_, fun j k es fs p' q1 q2 h1 h2 => ?_⟩
  · by_cases hb : b = p
    · rw [hb, upd_same] at q; cases q; exact ⟨xs, rfl⟩
    · rw [upd_ne hb] at q; exact S.hid.lst b u n q
  · rw [get_set hi] at q
    by_cases hj : i = j
    · rw [if_pos hj] at q; cases q
    · rw [if_neg hj] at q
      rw [List.getElem?_set_ne hj]
      exact S.val j e q
  · rw [get_set hi] at q
    by_cases hj : i = j
    · rw [if_pos hj] at q; cases q
      rw [← hj, List.getElem?_set_self hσ]
      exact ⟨p, xs, rfl, upd_same, gp, r⟩
    · rw [if_neg hj] at q
      rw [List.getElem?_set_ne hj]
      obtain ⟨p', ys, a1, a2, a3, a4⟩ := S.own j es q
      exact ⟨p', ys, a1, by rw [upd_ne (old a2)]; exact a2, a3, a4⟩
  · rw [get_set hi] at q1 q2
    by_cases hj : i = j
    · by_cases hk : i = k
      · rw [← hj, ← hk]
      · rw [if_neg hk] at q2
        rw [List.getElem?_set_ne hk] at h2
        rw [← hj, List.getElem?_set_self hσ] at h1
        cases h1
        obtain ⟨p', ys, a1, a2, a3, a4⟩ := S.own k fs q2
        rw [h2] at a1
        cases a1
        exact absurd rfl (old a2)
    · by_cases hk : i = k
      · rw [if_neg hj] at q1
        rw [List.getElem?_set_ne hj] at h1
        rw [← hk, List.getElem?_set_self hσ] at h2
        cases h2
        obtain ⟨p', ys, a1, a2, a3, a4⟩ := S.own j es q1
        rw [h1] at a1
        cases a1
        exact absurd rfl (old a2)
      · rw [if_neg hj] at q1; rw [if_neg hk] at q2
        rw [List.getElem?_set_ne hj] at h1
        rw [List.getElem?_set_ne hk] at h2
        exact S.inj j k es fs p' q1 q2 h1 h2
/-- the owned list is changed in place -/
theorem Sim.mut {K : PySem.W.Frag} {G H : Hp} {ρ : Rho} {σ : St} {i : Nat} {ds es : List D} {p : Addr} {xs : List V} (S : Sim K G H ρ σ) (e : ρ[i]? = some (SL.own ds)) (hs : σ[i]? = some (some (V.ref p))) (r : RepAll K G es xs) : Sim K G (upd H p (.lst xs)) (ρ.set i (.own es)) σ := by
  have hi := lt_of_get e
  obtain ⟨p0, xs0, a1, a2, a3, a4⟩ := S.own i ds e
  rw [hs] at a1
  cases a1
  have other : ∀ {j : Nat} {fs : List D} {q : Addr}, i ≠ j → ρ[j]? = some (SL.own fs) → σ[j]? = some (some (V.ref q)) → q ≠ p := fun {j fs q} hj q1 q2 z => hj (S.inj i j ds fs p e q1 hs (by rw [← z]; exact q2))
  refine ⟨⟨fun b o q => by rw [upd_ne (ne_of_none q a3)]; exact S.hid.same b o q, fun b u n q => ?_⟩, by rw [List.length_set]; exact S.len, fun j d q => ?_, fun j fs q => ?_, fun j k fs gs p' q1 q2 h1 h2 => ?_⟩
  · by_cases hb : b = p
    · rw [hb, upd_same] at q; cases q; exact ⟨xs, rfl⟩
    · rw [upd_ne hb] at q; exact S.hid.lst b u n q
  · rw [get_set hi] at q
    by_cases hj : i = j
    · rw [if_pos hj] at q; cases q
    · rw [if_neg hj] at q; exact S.val j d q
  · rw [get_set hi] at q
    by_cases hj : i = j
    · rw [if_pos hj] at q; cases q
      rw [← hj]
      exact ⟨p, xs, hs, upd_same, a3, r⟩
    · rw [if_neg hj] at q
      obtain ⟨p', ys, b1, b2, b3, b4⟩ := S.own j fs q
      exact ⟨p', ys, b1, by rw [upd_ne (other hj q b1)]; exact b2, b3, b4⟩
  · rw [get_set hi] at q1 q2
    have q1' : ∃ fs', ρ[j]? = some (SL.own fs') := by
      by_cases hj : i = j
      · exact ⟨ds, by rw [← hj]; exact e⟩
      · rw [if_neg hj] at q1; exact ⟨_, q1⟩
    have q2' : ∃ fs', ρ[k]? = some (SL.own fs') := by
      by_cases hk : i = k
      · exact ⟨ds, by rw [← hk]; exact e⟩
      · rw [if_neg hk] at q2; exact ⟨_, q2⟩
    obtain ⟨_, z1⟩ := q1'
    obtain ⟨_, z2⟩ := q2'
    exact S.inj j k _ _ p' z1 z2 h1 h2
end DL

namespace DL
open PySem PySem.Spec PyProof.Rows
open L2 hiding St

section
variable {X : Cx} {e : Expr} {st : Stmt} {rest a b : List Stmt} {t u : SD} {te : ED} {tc : TD} {pos pos' : Pos}
theorem ps_w : PS X st (WS X st) := ⟨fun pins s σ H D I h => h pins s I⟩
theorem pss_w : PSs X rest (WSs X rest) := ⟨fun pins s σ H D I h => h pins s I⟩
theorem WS.of {t : TS} {D : Ends} {σ : St} {H : Hp} (h : PS X st t) (q : t D σ H) : WS X st D σ H := fun pins s I => h.run pins s σ H D I q
theorem WSs.of {t : TS} {D : Ends} {σ : St} {H : Hp} (h : PSs X rest t) (q : t D σ H) : WSs X rest D σ H := fun pins s I => h.run pins s σ H D I q
theorem Sim.same {K : PySem.W.Frag} {G H G1 : Hp} {ρ : Rho} {σ : St} {E : EndsD} {D : Ends} (S : Sim K G H ρ σ) (po : PoS K G E D) (q : E.nx ρ) : D.nx σ H := po.nx G H ρ σ (Same.refl G) S q
theorem qss_nil : QSs X [] dNext := ⟨fun G H ρ σ E D S h po => WSs.of pss_nil (po.nx G H ρ σ (Same.refl G) S h)⟩
theorem qss_cons (h1 : QS X st t) (h2 : QSs X rest u) : QSs X (st :: rest) (dSeq t u) := ⟨fun G H ρ σ E D S h po =>
  WSs.of (pss_cons ps_w pss_w) (h1.run G H ρ σ { E with nx := u E } { D with nx := WSs X rest D } S h ⟨fun G' H' ρ' σ' s S' q => h2.run G' H' ρ' σ' E D S' q (po.seq s), po.rt, po.bk, po.ct⟩)⟩
theorem qss_one (h1 : QS X st t) : QSs X [st] t := ⟨fun G H ρ σ E D S h po => WSs.of (pss_one ps_w) (h1.run G H ρ σ E D S h po)⟩
theorem qs_pass : QS X (.Pass pos) dNext := ⟨fun G H ρ σ E D S h po => WS.of ps_pass (po.nx G H ρ σ (Same.refl G) S h)⟩
theorem qs_break : QS X (.Break pos) (fun E ρ => E.bk ρ) := ⟨fun G H ρ σ E D S h po => WS.of ps_break (po.bk G H ρ σ (Same.refl G) S h)⟩
theorem qs_continue : QS X (.Continue pos) (fun E ρ => E.ct ρ) := ⟨fun G H ρ σ E D S h po => WS.of ps_continue (po.ct G H ρ σ (Same.refl G) S h)⟩
theorem qs_never : QS X st (fun _ _ => False) := ⟨fun G H ρ σ E D S h po => h.elim⟩
theorem qss_never : QSs X rest (fun _ _ => False) := ⟨fun G H ρ σ E D S h po => h.elim⟩
theorem qs_expr (he : QE X e te) (hs : swapsWith e none pos.line X.env = pure false := by rfl) : QS X (.Expr e pos) (dDrop te) := ⟨fun G H ρ σ E D S h po =>
  WS.of (ps_expr pe_w hs) (he.run G H ρ σ _ _ S h fun v G1 d s1 k1 r1 q1 => po.nx G1 _ ρ σ s1 (S.step s1 k1) q1)⟩
theorem qs_ret (he : QE X e te) : QS X (.Return (some e) pos) (dRet te) := ⟨fun G H ρ σ E D S h po =>
  WS.of (ps_ret pe_w) (he.run G H ρ σ _ _ S h fun v G1 d s1 k1 r1 q1 => po.rt v G1 _ d s1 (S.step s1 k1).hid r1 q1)⟩
theorem qs_if {c : Expr} (hc : QT X c tc) (ha : QSs X a t) (hb : QSs X b u) : QS X (.If c a b pos) (dIfS tc t u) := ⟨fun G H ρ σ E D S h po =>
  WS.of (ps_if pt_w pss_w pss_w) (hc.run G H ρ σ _ _ S h fun k G1 s1 k1 q1 => by
    cases k with
    | true => exact ha.run G1 _ ρ σ E D (S.step s1 k1) q1 (po.seq s1)
    | false => exact hb.run G1 _ ρ σ E D (S.step s1 k1) q1 (po.seq s1))⟩
/-- i is a slot -/
theorem slot_lt {K : PySem.W.Frag} {G H : Hp} {ρ : Rho} {σ : St} {i : Nat} {x : Str} {pins : List (Addr × Obj)} {s : Shared} (S : Sim K G H ρ σ) (I : Inv X pins σ H s) (hi : X.N[i]? = some x) : i < ρ.length := by
  rw [S.len, I.len]
  exact (List.getElem?_eq_some_iff.mp hi).1
theorem qs_set {i : Nat} {x : Str} (hN : X.N.Nodup) (he : QE X e te) (hi : X.N[i]? = some x := by rfl) (hx : Loc X.env.scope x := by first | exact .inl rfl | exact .inr rfl) (hs : swapsWith e (some (.Name x pos')) pos.line X.env = pure false := by rfl)
    (hf : X.fn x = true ∨ X.env.scope.names.lookup x = some .local := by first | exact .inl rfl | exact .inr rfl | assumption) : QS X (.Assign [.Name x pos'] e pos) (dSet i te) := ⟨fun G H ρ σ E D S h po pins s I =>
  (WS.of (ps_set hN hi hx pe_w hs hf) (he.run G H ρ σ _ _ S h fun v G1 d s1 k1 r1 q1 => po.nx G1 _ _ _ s1 ((S.step s1 k1).put (slot_lt S I hi) r1) q1)) pins s I⟩
/-- the slot's list is let go: from here on anybody may hold it -/
def dFree (i : Nat) (t : SD) : SD := fun E ρ => match ρ[i]? with
  | some (.own ds) => t E (ρ.set i (.val (.lst ds)))
  | _ => t E ρ
theorem qs_free (i : Nat) (h : QS X st t) : QS X st (dFree i t) := ⟨fun G H ρ σ E D S q po => by
  unfold dFree at q
  cases z : ρ[i]? with
  | none => rw [z] at q; exact h.run G H ρ σ E D S q po
  | some x =>
    rw [z] at q
    cases x with
    | nul => exact h.run G H ρ σ E D S q po
    | val d => exact h.run G H ρ σ E D S q po
    | own ds =>
      obtain ⟨p, xs, gp, hp, r, hs, S1⟩ := S.free z
      exact h.run _ H _ σ E D S1 q (po.seq (same_upd gp))⟩
/-- x = a new list, which x owns -/
def NewL (K : PySem.W.Frag) (G H : Hp) (R : List D → Prop) (Q : VK) : Prop := ∀ p xs ds G', Same G G' → Kp G H G' → lay G H G' p = none → RepAll K G' ds xs → R ds → Q (.ref p) (upd (lay G H G') p (.lst xs))
structure QL (X : Cx) (e : Expr) (t : Rho → (List D → Prop) → Prop) : Prop where
  run : ∀ (G H : Hp) (ρ : Rho) (σ : St) (R : List D → Prop) (Q : VK), Sim X.K G H ρ σ → t ρ R → NewL X.K G H R Q → W X e σ H Q
def dSetO (i : Nat) (t : Rho → (List D → Prop) → Prop) : SD := fun E ρ => t ρ fun ds => E.nx (ρ.set i (.own ds))
theorem qs_own {i : Nat} {x : Str} {tl : Rho → (List D → Prop) → Prop} (hN : X.N.Nodup) (he : QL X e tl) (hi : X.N[i]? = some x := by rfl) (hx : Loc X.env.scope x := by first | exact .inl rfl | exact .inr rfl) (hs : swapsWith e (some (.Name x pos')) pos.line X.env = pure false := by rfl)
    (hf : X.fn x = true ∨ X.env.scope.names.lookup x = some .local := by first | exact .inl rfl | exact .inr rfl | assumption) : QS X (.Assign [.Name x pos'] e pos) (dSetO i tl) := ⟨fun G H ρ σ E D S h po pins s I =>
  (WS.of (ps_set hN hi hx pe_w hs hf) (he.run G H ρ σ _ _ S h fun p xs ds G1 s1 k1 n r q => po.nx G1 _ _ _ s1 ((S.step s1 k1).putOwn (slot_lt S I hi) n r) q)) pins s I⟩
def dLstO (t : AD) : Rho → (List D → Prop) → Prop := fun ρ R => t ρ fun xs => xs.length ≤ sizeLine ∧ R xs
theorem ql_lst {es : List Expr} {at_ : AD} (h : QA X es at_) : QL X (.List es pos) (dLstO at_) := ⟨fun G H ρ σ R Q S q nw =>
  W.of (pe_lst pa_w) (h.run G H ρ σ _ _ S q fun vs G1 ds s1 k1 r1 q1 => ⟨by rw [r1.length]; exact q1.1, fun p n => nw p vs ds G1 s1 k1 n r1 q1.2⟩)⟩
def dListO (t : AD) : Rho → (List D → Prop) → Prop := fun ρ R => t ρ fun xs => match xs with
  | [.lst ds] => R ds
  | [.tup ds] => R ds
  | _ => False
theorem ql_list {es : List Expr} {at_ : AD} {p : Pos} (hg : Gl X "list") (hm : X.mg "list" = none) (ha : QA X (e :: es) at_) (he : starEach (e :: es) X.env = (false, eval e X.env) :: starEach es X.env := by rfl)
    (hpl : (backTo pos (starEach es X.env)).any (·.1) = false := by rfl) : QL X (.Call (.Name "list" p) (e :: es) [] pos) (dListO at_) := ⟨fun G H ρ σ R Q S q nw =>
  W.of (pe_callTy call_list_of hg hm (by decide +kernel) pa_w (by decide) (by decide) he hpl) (ha.run G H ρ σ _ _ S q fun vs G1 ds s1 k1 r1 q1 => by
    have S1 := S.step s1 k1
    match ds, q1 with
    | [.lst ds], q1 =>
      obtain ⟨x, rfl, p, ys, rfl, hp, rp⟩ := one_of r1
      exact ⟨p, ys, rfl, .inl (SqL.of (S1.hid.same _ _ hp)), fun l n => nw l ys ds G1 s1 k1 n rp q1⟩
    | [.tup ds], q1 =>
      obtain ⟨x, rfl, p, ys, rfl, hp, rp⟩ := one_of r1
      exact ⟨p, ys, rfl, .inr (hp.mono S1.hid.same).sq, fun l n => nw l ys ds G1 s1 k1 n rp q1⟩)⟩
/-! the owner's own methods -/
def dAppend (i : Nat) (t : ED) : SD := fun E ρ => t ρ fun d => match ρ[i]? with
  | some (.own ds) => ds.length < sizeLine ∧ E.nx (ρ.set i (.own (ds ++ [d])))
  | _ => False
theorem own_of {i : Nat} {ρ : Rho} {P : List D → Prop} (h : match ρ[i]? with | some (.own ds) => P ds | _ => False) : ∃ ds, ρ[i]? = some (SL.own ds) ∧ P ds := by
  cases q : ρ[i]? with
  | none => rw [q] at h; exact h.elim
  | some x =>
    rw [q] at h
    cases x with
    | nul => exact h.elim
    | val d => exact h.elim
    | own ds => exact ⟨ds, rfl, h⟩
/-- the owner's list while the arguments are asked -/
theorem own_keep {K : PySem.W.Frag} {G H G1 : Hp} {ρ : Rho} {σ : St} {i : Nat} {ds : List D} (S : Sim K G H ρ σ) (e : ρ[i]? = some (SL.own ds)) : ∃ p xs, σ[i]? = some (some (V.ref p)) ∧ SqL K H p xs := by
  obtain ⟨p, xs, a1, a2, _, _⟩ := S.own i ds e
  exact ⟨p, xs, a1, SqL.of a2⟩
theorem qs_append {i : Nat} {x : Str} {apos cpos np : Pos} (ha : QE X e te) (hN : X.N[i]? = some x := by rfl) (hv : Vis X.env.scope x := by first | exact Or.inl rfl | exact Or.inr (Or.inl rfl) | exact Or.inr (Or.inr rfl))
    (hd : (x == ("__debug__" : Str)) = false := by decide) (hcd : (x == ("__classdict__" : Str)) = false := by decide) (hbase : attributeBase (.Name x np) "append" X.env (eval (.Name x np) X.env) = eval (.Name x np) X.env := by rfl)
    (hfew : ((backTo cpos (starEach [e] X.env)).all (fun x => !x.1) && (backToKw cpos (keywordEach [] X.env)).all (fun x => x.1.isSome) && decide ([e].length + ([] : List Keyword).length + (if ([] : List Keyword).isEmpty then 0 else 1) < 30)) = true := by rfl)
    (hline : (apos.endLine == cpos.line) = true := by rfl) (hst : starEach [e] X.env = (false, eval e X.env) :: starEach [] X.env := by rfl) (hpl : (backTo cpos (starEach [] X.env)).any (·.1) = false := by rfl)
    (hs : swapsWith (.Call (.Attribute (.Name x np) "append" apos) [e] [] cpos) none pos.line X.env = pure false := by rfl) : QS X (.Expr (.Call (.Attribute (.Name x np) "append" apos) [e] [] cpos) pos) (fun E ρ => (∃ ds, ρ[i]? = some (SL.own ds)) ∧ dAppend i te E ρ) := ⟨fun G H ρ σ E D S h po => by
  obtain ⟨⟨ds0, e0⟩, h⟩ := h
  obtain ⟨p, xs0, a1, a2⟩ := own_keep (G1 := G) S e0
  refine WS.of (ps_expr (pe_bm PySem.F.plainAttrs_list PySem.F.slot_list_append PySem.F.type_list_append mt_append (pe_var hN hv hd hcd) (pa_cons pe_w pa_nil hst) hbase hfew hline hst hpl) hs) ?_
  refine ⟨.ref p, a1, .inl ⟨rfl, xs0, a2⟩, ?_⟩
  refine ha.run G H ρ σ _ _ S h fun v G1 d s1 k1 r1 q1 => ?_
  obtain ⟨ds, e1, hz, q⟩ := own_of q1
  have S1 := S.step s1 k1
  obtain ⟨p', xs, b1, b2, b3, b4⟩ := S1.own i ds e1
  rw [a1] at b1
  cases b1
  exact ⟨p, xs, v, rfl, rfl, b2, by rw [b4.length]; exact hz, po.nx G1 _ _ _ s1 (S1.mut e1 a1 (b4.app (RepAll.one r1))) q⟩⟩
def dInsert (i : Nat) (tk te : ED) : SD := fun E ρ => (∃ ds, ρ[i]? = some (SL.own ds)) ∧ tk ρ fun k => te ρ fun d => match k with
  | .int k => match ρ[i]? with
    | some (.own ds) => ds.length < sizeLine ∧ 0 ≤ k ∧ k < 2 ^ 63 ∧ E.nx (ρ.set i (.own (ds.take k.toNat ++ [d] ++ ds.drop k.toNat)))
    | _ => False
  | _ => False
theorem qs_insert {i : Nat} {x : Str} {ek : Expr} {tk : ED} {apos cpos np : Pos} (hk : QE X ek tk) (ha : QE X e te) (hN : X.N[i]? = some x := by rfl) (hv : Vis X.env.scope x := by first | exact Or.inl rfl | exact Or.inr (Or.inl rfl) | exact Or.inr (Or.inr rfl))
    (hd : (x == ("__debug__" : Str)) = false := by decide) (hcd : (x == ("__classdict__" : Str)) = false := by decide) (hbase : attributeBase (.Name x np) "insert" X.env (eval (.Name x np) X.env) = eval (.Name x np) X.env := by rfl)
    (hfew : ((backTo cpos (starEach [ek, e] X.env)).all (fun x => !x.1) && (backToKw cpos (keywordEach [] X.env)).all (fun x => x.1.isSome) && decide ([ek, e].length + ([] : List Keyword).length + (if ([] : List Keyword).isEmpty then 0 else 1) < 30)) = true := by rfl)
    (hline : (apos.endLine == cpos.line) = true := by rfl) (hst : starEach [ek, e] X.env = (false, eval ek X.env) :: starEach [e] X.env := by rfl) (hst2 : starEach [e] X.env = (false, eval e X.env) :: starEach [] X.env := by rfl) (hpl : (backTo cpos (starEach [e] X.env)).any (·.1) = false := by rfl)
    (hs : swapsWith (.Call (.Attribute (.Name x np) "insert" apos) [ek, e] [] cpos) none pos.line X.env = pure false := by rfl) : QS X (.Expr (.Call (.Attribute (.Name x np) "insert" apos) [ek, e] [] cpos) pos) (dInsert i tk te) := ⟨fun G H ρ σ E D S h po => by
  obtain ⟨⟨ds0, e0⟩, h⟩ := h
  obtain ⟨p, xs0, a1, a2⟩ := own_keep (G1 := G) S e0
  refine WS.of (ps_expr (pe_bm PySem.F.plainAttrs_list PySem.F.slot_list_insert PySem.F.type_list_insert mt_insert (pe_var hN hv hd hcd) (pa_cons pe_w (pa_cons pe_w pa_nil hst2) hst) hbase hfew hline hst hpl) hs) ?_
  refine ⟨.ref p, a1, .inl ⟨rfl, xs0, a2⟩, ?_⟩
  refine hk.run G H ρ σ _ _ S h fun vk G1 dk s1 k1 r1 q1 => ?_
  have S1 := S.step s1 k1
  refine ha.run G1 _ ρ σ _ _ S1 q1 fun v G2 d s2 k2 r2 q2 => ?_
  have S2 := S1.step s2 k2
  cases dk <;> first | exact q2.elim | skip
  case int k =>
    cases r1
    obtain ⟨ds, e1, hz, h0, h1, q⟩ := own_of q2
    obtain ⟨p', xs, b1, b2, b3, b4⟩ := S2.own i ds e1
    rw [a1] at b1
    cases b1
    refine ⟨p, xs, k, v, rfl, rfl, b2, by rw [b4.length]; exact hz, h0, h1, po.nx G2 _ _ _ (s1.trans s2) (S2.mut e1 a1 ?_) q⟩
    exact ((b4.take _).app (RepAll.one r2)).app (b4.drop _)⟩
/-- x[k] = e, x the owner -/
def dSetIx (i : Nat) (te tk : ED) : SD := fun E ρ => te ρ fun d => (∃ ds, ρ[i]? = some (SL.own ds)) ∧ tk ρ fun k => match k with
  | .int k => match ρ[i]? with
    | some (.own ds) => ∃ j, ixN ds.length k = some j ∧ E.nx (ρ.set i (.own (ds.set j d)))
    | _ => False
  | _ => False
theorem qs_setix {i : Nat} {x : Str} {ek : Expr} {tk : ED} {np : Pos} (ha : QE X e te) (hk : QE X ek tk) (hN : X.N[i]? = some x := by rfl) (hv : Vis X.env.scope x := by first | exact Or.inl rfl | exact Or.inr (Or.inl rfl) | exact Or.inr (Or.inr rfl))
    (hd : (x == ("__debug__" : Str)) = false := by decide) (hcd : (x == ("__classdict__" : Str)) = false := by decide)
    (hasg : ∀ v, assign (.Subscript (.Name x np) ek pos') X.env v = (do let ov ← holding [v] (eval (.Name x np) X.env); let iv ← holding [v, ov] (eval ek X.env); standAt pos'; holding [v, ov, iv] (setItem ov iv v); release [v, ov, iv] []) := by intro _; rfl)
    (hs : swapsWithSole [.Subscript (.Name x np) ek pos'] e pos.line X.env = pure false := by rfl) (hw : swappedStores [.Subscript (.Name x np) ek pos'] e X.env = pure none := by rfl)
    (h1 : (assignEach [.Subscript (.Name x np) ek pos'] X.env).map (·.2) = [assign (.Subscript (.Name x np) ek pos') X.env] := by rfl) : QS X (.Assign [.Subscript (.Name x np) ek pos'] e pos) (dSetIx i te tk) := ⟨fun G H ρ σ E D S h po => by
  refine WS.of (ps_asg pe_w (pg_sub (pe_var hN hv hd hcd) pe_w set_list hasg) hs hw h1) ?_
  refine ha.run G H ρ σ _ _ S h fun v G1 d s1 k1 r1 q1 => ?_
  have S1 := S.step s1 k1
  obtain ⟨⟨ds0, e0⟩, q1⟩ := q1
  obtain ⟨p, xs0, a1, a2⟩ := own_keep (G1 := G1) S1 e0
  refine ⟨.ref p, a1, ?_⟩
  refine hk.run G1 _ ρ σ _ _ S1 q1 fun vk G2 dk s2 k2 r2 q2 => ?_
  have S2 := S1.step s2 k2
  cases dk <;> first | exact q2.elim | skip
  case int k =>
    cases r2
    obtain ⟨ds, e1, j, hj, q⟩ := own_of q2
    obtain ⟨p', xs, b1, b2, b3, b4⟩ := S2.own i ds e1
    rw [a1] at b1
    cases b1
    exact ⟨p, xs, k, j, rfl, rfl, b2, by rw [b4.length]; exact hj, po.nx G2 _ _ _ (s1.trans s2) (S2.mut e1 a1 (b4.set j (Rep.mono s2 d v r1))) q⟩⟩
end
end DL

namespace DL
open PySem PySem.Spec PyProof.Rows
open L2 hiding St

/-! ### targets -/
abbrev RP := PySem.W.Frag → Hp → D → V → Prop
/-- as Rep, of a tuple no more than its items -/
def WRep : RP := fun K G d v => match d with
  | .tup ds => ∃ a xs, v = .ref a ∧ SqT K G a xs ∧ RepAll K G ds xs
  | d => Rep K G d v
theorem Rep.weak {K : PySem.W.Frag} {G : Hp} {d : D} {v : V} (r : Rep K G d v) : WRep K G d v := by
  cases d <;> first | exact r | skip
  obtain ⟨a, xs, e, h, q⟩ := r
  exact ⟨a, xs, e, h.sq, q⟩
def WG (X : Cx) (tg : Expr) : TG := fun v σ H Q => ∀ (pins : List (Addr × Obj)) (s : Shared) (u : Value), Inv X pins σ H s → RelV v u → wpAny (model X.prog X.w) X.A (assign tg X.env u) (fun _ s' => ∃ σ' H', Inv X pins σ' H' s' ∧ Q σ' H') X.xe s
def WGs (X : Cx) (ts : List Expr) : TGs := fun vs σ H Q => ∀ (pins : List (Addr × Obj)) (s : Shared) (us : List Value), Inv X pins σ H s → Vals vs us → wpAny (model X.prog X.w) X.A (assignInOrder ((assignEach ts X.env).map (·.2)) us) (fun _ s' => ∃ σ' H', Inv X pins σ' H' s' ∧ Q σ' H') X.xe s
/-- only these slots were stored -/
def Only (ts : List Nat) (σ σ' : St) : Prop := σ'.length = σ.length ∧ ∀ j, j ∉ ts → σ'[j]? = σ[j]?
structure QG (X : Cx) (P : RP) (tg : Expr) (g : GD) (ts : List Nat) : Prop where
  run : ∀ (G H : Hp) (ρ : Rho) (σ : St) (d : D) (v : V) (R : Rho → Prop) (Q : St → Hp → Prop), Sim X.K G H ρ σ → P X.K G d v → g d ρ R → (∀ ρ' σ', Sim X.K G H ρ' σ' → Only ts σ σ' → R ρ' → Q σ' H) → WG X tg v σ H Q
structure QGs (X : Cx) (ts : List Expr) (g : List D → Rho → (Rho → Prop) → Prop) (is : List Nat) : Prop where
  run : ∀ (G H : Hp) (ρ : Rho) (σ : St) (ds : List D) (vs : List V) (R : Rho → Prop) (Q : St → Hp → Prop), Sim X.K G H ρ σ → RepAll X.K G ds vs → g ds ρ R → (∀ ρ' σ', Sim X.K G H ρ' σ' → Only is σ σ' → R ρ' → Q σ' H) → WGs X ts vs σ H Q
section
variable {X : Cx} {tg e : Expr} {es : List Expr} {g : GD} {gs : List D → Rho → (Rho → Prop) → Prop} {pos : Pos} {is js : List Nat}
theorem pg_w : PG X tg (WG X tg) := ⟨fun pins s σ H v u Q I r h => h pins s u I r⟩
theorem pgs_w : PGs X es (WGs X es) := ⟨fun pins s σ H vs us Q I r h => h pins s us I r⟩
theorem QG.str (h : QG X WRep tg g is) : QG X Rep tg g is := ⟨fun G H ρ σ d v R Q S r => h.run G H ρ σ d v R Q S r.weak⟩
theorem qg_name {i : Nat} {x : Str} (hN : X.N.Nodup) (hi : X.N[i]? = some x := by rfl) (hx : Loc X.env.scope x := by first | exact .inl rfl | exact .inr rfl) (hf : X.fn x = true ∨ X.env.scope.names.lookup x = some .local := by first | exact .inl rfl | exact .inr rfl | assumption) :
    QG X Rep (.Name x pos) (gdName i) [i] := ⟨fun G H ρ σ d v R Q S r h q pins s u I ru => (pg_name hN hi hx hf).run pins s σ H v u Q I ru (q _ _ (S.put (slot_lt S I hi) r) ⟨List.length_set, fun j hj => List.getElem?_set_ne (fun z => hj (by rw [z]; exact List.mem_singleton_self j))⟩ h)⟩
theorem qgs_nil : QGs X [] gdNil [] := ⟨fun G H ρ σ ds vs R Q S r h q pins s us I ru => by
  cases ds with
  | nil => cases r; exact pgs_nil.run pins s σ H [] us Q I ru ⟨rfl, q ρ σ S ⟨rfl, fun _ _ => rfl⟩ h⟩
  | cons d ds => exact h.elim⟩
theorem qgs_cons (h1 : QG X Rep e g is) (h2 : QGs X es gs js) (hs : (assignEach (e :: es) X.env).map (·.2) = assign e X.env :: (assignEach es X.env).map (·.2) := by rfl) : QGs X (e :: es) (gdCons g gs) (is ++ js) := ⟨fun G H ρ σ ds vs R Q S r h q pins s us I ru => by
  cases ds with
  | nil => exact h.elim
  | cons d ds =>
    obtain ⟨v, vr, rfl, rd, rr⟩ := r
    refine (pgs_cons pg_w pgs_w hs).run pins s σ H _ us Q I ru ⟨v, vr, rfl, ?_⟩
    exact h1.run G H ρ σ d v _ _ S rd h fun ρ1 σ1 S1 o1 q1 => h2.run G H ρ1 σ1 ds vr R Q S1 rr q1 fun ρ2 σ2 S2 o2 q2 => q ρ2 σ2 S2 ⟨o2.1.trans o1.1, fun j hj => (o2.2 j fun z => hj (List.mem_append_right _ z)).trans (o1.2 j fun z => hj (List.mem_append_left _ z))⟩ q2⟩
theorem qg_tup {k : Nat} {n : Nat} (hc : X.calm = true) (h : QGs X es gs is) (hn : (assignEach es X.env).length = n := by rfl) (hst : (assignEach es X.env).findIdx? (·.1) = none := by rfl) : QG X WRep (.Tuple es k pos) (gdTup n gs) is := ⟨fun G H ρ σ d v R Q S r q po pins s u I ru => by
  cases d <;> first | exact q.elim | skip
  case tup ds =>
    obtain ⟨a, xs, rfl, hs, rr⟩ := r
    refine (pg_tup hc pgs_w hn hst).run pins s σ H _ u Q I ru ⟨a, xs, rfl, ?_, by rw [rr.length]; exact q.1, h.run G H ρ σ ds xs R Q S rr q.2 po⟩
    rcases hs with (z | ⟨o, z⟩) | z
    · exact .inl (.inl (S.hid.same _ _ z))
    · exact .inl (.inr ⟨o, S.hid.same _ _ z⟩)
    · exact .inr z⟩
theorem qs_asg {te : ED} (he : QE X e te) (hg : QG X Rep tg g is) (hs : swapsWithSole [tg] e pos.line X.env = pure false := by rfl) (hw : swappedStores [tg] e X.env = pure none := by rfl) (h1 : (assignEach [tg] X.env).map (·.2) = [assign tg X.env] := by rfl) :
    QS X (.Assign [tg] e pos) (dAsg te g) := ⟨fun G H ρ σ E D S h po =>
  WS.of (ps_asg pe_w pg_w hs hw h1) (he.run G H ρ σ _ _ S h fun v G1 d s1 k1 r1 q1 => hg.run G1 _ ρ σ d v _ _ (S.step s1 k1) r1 q1 fun ρ' σ' S' _ q => po.nx G1 _ ρ' σ' s1 S' q)⟩
end

/-! ### what is walked -/
def IterOk (K : PySem.W.Frag) (P : RP) (G0 : Hp) (J : It) (ds : List D) : Prop :=
  (∀ i G H, Same G0 G → Hid G H → i = ds.length → J.stop i H) ∧
  ∀ i d G H, Same G0 G → Hid G H → ds[i]? = some d → J.go i H ∧ ∀ x H', J.yld i H x H' → ∃ G', Same G G' ∧ Kp G H G' ∧ H' = lay G H G' ∧ P K G' d x
def WI (X : Cx) (tg iter : Expr) : TI := fun σ H R => ∀ (pins : List (Addr × Obj)) (s : Shared), Inv X pins σ H s → wpAny (model X.prog X.w) X.A (eval iter X.env) (fun v s1 => wpAny (model X.prog X.w) X.A (pyIter v) (PIE X pins σ tg R) X.xe s1) X.xe s
abbrev ID := Rho → (List D → Prop) → Prop
structure QI (X : Cx) (P : RP) (tg iter : Expr) (t : ID) : Prop where
  run : ∀ (G H : Hp) (ρ : Rho) (σ : St) (R : List D → Prop) (Q : It → Hp → Prop), Sim X.K G H ρ σ → t ρ R → (∀ J G' ds, Same G G' → Kp G H G' → IterOk X.K P G' J ds → R ds → Q J (lay G H G')) → WI X tg iter σ H Q
section
variable {X : Cx} {tg iter e : Expr} {es : List Expr} {te : ED} {at_ : AD} {pos p : Pos}
theorem pi_w : PI X tg iter (WI X tg iter) := ⟨fun pins s σ H R I h => h pins s I⟩
theorem WI.of {t : TI} {σ : St} {H : Hp} {R : It → Hp → Prop} (h : PI X tg iter t) (q : t σ H R) : WI X tg iter σ H R := fun pins s I => h.run pins s σ H R I q
theorem QI.or {P : RP} {t u : ID} (h : QI X P tg iter t) (k : QI X P tg iter u) : QI X P tg iter (fun ρ R => t ρ R ∨ u ρ R) := ⟨fun G H ρ σ R Q S q po => by
  rcases q with q | q
  · exact h.run G H ρ σ R Q S q po
  · exact k.run G H ρ σ R Q S q po⟩
theorem QI.weak {t : ID} (h : QI X Rep tg iter t) : QI X WRep tg iter t := ⟨fun G H ρ σ R Q S q po => h.run G H ρ σ R Q S q fun J G' ds s k ok r => po J G' ds s k ⟨ok.1, fun i d G H a b c => by
  obtain ⟨h1, h2⟩ := ok.2 i d G H a b c
  refine ⟨h1, fun x H' y => ?_⟩
  obtain ⟨G', b1, b2, b3, b4⟩ := h2 x H' y
  exact ⟨G', b1, b2, b3, b4.weak⟩⟩ r⟩
theorem here_ok {K : PySem.W.Frag} {P : RP} {G H : Hp} {d : D} {x : V} (h : Hid G H) (r : P K G d x) : ∃ G', Same G G' ∧ Kp G H G' ∧ H = lay G H G' ∧ P K G' d x := ⟨G, Same.refl G, Kp.self, (lay_self h.same).symm, r⟩
def dItL (t : ED) : ID := fun ρ R => t ρ fun d => match d with
  | .lst ds => R ds
  | _ => False
def dItT (t : ED) : ID := fun ρ R => t ρ fun d => match d with
  | .tup ds => R ds
  | _ => False
def signs (z : Str) : List D := z.cps.toList.map fun c => D.str ⟨#[c]⟩
def dItS (t : ED) : ID := fun ρ R => t ρ fun d => match d with
  | .str z => R (signs z)
  | _ => False
theorem ok_lst {K : PySem.W.Frag} {G : Hp} {a : Addr} {xs : List V} {ds : List D} (hp : G a = some (.lst xs)) (rp : RepAll K G ds xs) : IterOk K Rep G (Itl K a) ds := by
  refine ⟨fun i G1 H1 s h hl => ⟨xs, SqL.of (h.same _ _ (s _ _ hp)), by rw [rp.length]; omega⟩, fun i d G1 H1 s h hd => ?_⟩
  obtain ⟨v, hv, rv⟩ := rp.get hd
  have sq : SqL K H1 a xs := SqL.of (h.same _ _ (s _ _ hp))
  refine ⟨⟨xs, v, sq, hv⟩, fun x H' y => ?_⟩
  obtain ⟨rfl, y⟩ := y
  have e := y xs sq
  rw [hv] at e
  cases e
  exact here_ok h (Rep.mono s d v rv)
theorem ok_tup {K : PySem.W.Frag} {G : Hp} {a : Addr} {xs : List V} {ds : List D} (hp : TupD K G a xs) (rp : RepAll K G ds xs) : IterOk K Rep G (Itt K a) ds := by
  refine ⟨fun i G1 H1 s h hl => ⟨xs, ((hp.mono s).mono h.same).sq, by rw [rp.length]; omega⟩, fun i d G1 H1 s h hd => ?_⟩
  obtain ⟨v, hv, rv⟩ := rp.get hd
  have sq : SqT K H1 a xs := ((hp.mono s).mono h.same).sq
  refine ⟨⟨xs, v, sq, hv⟩, fun x H' y => ?_⟩
  obtain ⟨rfl, y⟩ := y
  have e := y xs sq
  rw [hv] at e
  cases e
  exact here_ok h (Rep.mono s d v rv)
theorem qi_lst (he : QE X e te) : QI X Rep tg e (dItL te) := ⟨fun G H ρ σ R Q S h po =>
  WI.of (pi_list pe_w) (he.run G H ρ σ _ _ S h fun v G1 d s1 k1 r1 q1 => by
    cases d <;> first | exact q1.elim | skip
    case lst ds =>
      obtain ⟨a, xs, rfl, hp, rp⟩ := r1
      exact ⟨a, rfl, ⟨xs, SqL.of ((S.step s1 k1).hid.same _ _ hp)⟩, po _ G1 ds s1 k1 (ok_lst hp rp) q1⟩)⟩
theorem qi_tup (he : QE X e te) : QI X Rep tg e (dItT te) := ⟨fun G H ρ σ R Q S h po =>
  WI.of (pi_tup pe_w) (he.run G H ρ σ _ _ S h fun v G1 d s1 k1 r1 q1 => by
    cases d <;> first | exact q1.elim | skip
    case tup ds =>
      obtain ⟨a, xs, rfl, hp, rp⟩ := r1
      exact ⟨a, rfl, ⟨xs, (hp.mono (S.step s1 k1).hid.same).sq⟩, po _ G1 ds s1 k1 (ok_tup hp rp) q1⟩)⟩
theorem qi_str (he : QE X e te) : QI X Rep tg e (dItS te) := ⟨fun G H ρ σ R Q S h po =>
  WI.of (pi_str pe_w) (he.run G H ρ σ _ _ S h fun v G1 d s1 k1 r1 q1 => by
    cases d <;> first | exact q1.elim | skip
    case str z =>
      cases r1
      refine ⟨z, rfl, po _ G1 (signs z) s1 k1 ⟨fun i G2 H2 s h hl => ?_, fun i d G2 H2 s h hd => ?_⟩ q1⟩
      · show z.cps.size ≤ i
        have e : (signs z).length = z.cps.size := by unfold signs; rw [List.length_map, Array.length_toList]
        omega
      · unfold signs at hd
        rw [List.getElem?_map, Array.getElem?_toList] at hd
        cases q : z.cps[i]? with
        | none => rw [q] at hd; cases hd
        | some c =>
          rw [q] at hd
          cases hd
          refine ⟨(Array.getElem?_eq_some_iff.mp q).1, fun x H' y => ?_⟩
          obtain ⟨rfl, c', e1, e2⟩ := y
          rw [q] at e1
          cases e1
          subst e2
          exact here_ok (d := .str ⟨#[c]⟩) h rfl)⟩
/-- a list or a tuple or a text -/
def dItA (t : ED) : ID := fun ρ R => dItL t ρ R ∨ dItT t ρ R ∨ dItS t ρ R
theorem qi_any (he : QE X e te) : QI X Rep tg e (dItA te) := (qi_lst he).or ((qi_tup he).or (qi_str he))
def rangeD (lo : Int) (n : Nat) : List D := (List.range n).map fun (i : Nat) => D.int (lo + (i : Int))
theorem ok_range {K : PySem.W.Frag} {G : Hp} (lo : Int) (n : Nat) : IterOk K Rep G (Itr lo n) (rangeD lo n) := by
  have hl : (rangeD lo n).length = n := by unfold rangeD; rw [List.length_map, List.length_range]
  refine ⟨fun i G1 H1 s h hi => by rw [hl] at hi; exact Nat.le_of_eq hi.symm, fun i d G1 H1 s h hd => ?_⟩
  unfold rangeD at hd
  rw [List.getElem?_map] at hd
  cases q : (List.range n)[i]? with
  | none => rw [q] at hd; cases hd
  | some j =>
    rw [q] at hd
    cases hd
    obtain ⟨h1, h2⟩ := List.getElem?_eq_some_iff.mp q
    rw [List.getElem_range] at h2
    subst h2
    rw [List.length_range] at h1
    refine ⟨h1, fun x H' y => ?_⟩
    obtain ⟨rfl, rfl⟩ := y
    exact here_ok (d := .int (lo + i)) h rfl
def dRange1 (t : AD) : ID := fun ρ R => t ρ fun ds => match ds with
  | [.int j] => -(2 ^ 62) ≤ j ∧ j < 2 ^ 62 ∧ R (rangeD 0 j.toNat)
  | _ => False
theorem qi_range1 (hg : Gl X "range") (hm : X.mg "range" = none) (ha : QA X [e] at_) (hs : starEach [e] X.env = [(false, eval e X.env)] := by rfl) : QI X Rep tg (.Call (.Name "range" p) [e] [] pos) (dRange1 at_) := ⟨fun G H ρ σ R Q S h po =>
  WI.of (pi_range1 hg hm pa_w hs) (ha.run G H ρ σ _ _ S h fun vs G1 ds s1 k1 r1 q1 => by
    match ds, q1 with
    | [.int j], q1 =>
      obtain ⟨x, rfl, e⟩ := one_of r1
      cases e
      exact ⟨j, rfl, q1.1, q1.2.1, po _ G1 _ s1 k1 (ok_range 0 _) q1.2.2⟩)⟩
def dRange2 (t : AD) : ID := fun ρ R => t ρ fun ds => match ds with
  | [.int i, .int j] => (-(2 ^ 62) ≤ i ∧ i < 2 ^ 62 ∧ -(2 ^ 62) ≤ j ∧ j < 2 ^ 62) ∧ R (rangeD i (j - i).toNat)
  | _ => False
theorem qi_range2 {e2 : Expr} (hg : Gl X "range") (hm : X.mg "range" = none) (ha : QA X [e, e2] at_) (hs : starEach [e, e2] X.env = [(false, eval e X.env), (false, eval e2 X.env)] := by rfl) (hs2 : starEach [e2] X.env = [(false, eval e2 X.env)] := by rfl) :
    QI X Rep tg (.Call (.Name "range" p) [e, e2] [] pos) (dRange2 at_) := ⟨fun G H ρ σ R Q S h po =>
  WI.of (pi_range2 hg hm pa_w hs hs2) (ha.run G H ρ σ _ _ S h fun vs G1 ds s1 k1 r1 q1 => by
    match ds, q1 with
    | [.int i, .int j], q1 =>
      obtain ⟨x, y, rfl, e1, e2⟩ := two_of r1
      cases e1; cases e2
      exact ⟨i, j, rfl, q1.1, po _ G1 _ s1 k1 (ok_range i _) q1.2⟩)⟩
/-- pairs, each a new tuple -/
theorem pair_ok {K : PySem.W.Frag} {G H : Hp} {T : Addr} {x y : V} {a b : D} (h : Hid G H) (n : H T = none) (ra : Rep K G a x) (rb : Rep K G b y) : ∃ G', Same G G' ∧ Kp G H G' ∧ upd H T (.tup [x, y]) = lay G H G' ∧ WRep K G' (.tup [a, b]) (.ref T) := by
  have e := lay_self h.same
  have n' : lay G H G T = none := by rw [e]; exact n
  have sm := same_upd (o := .tup [x, y]) (h.same.free n)
  refine ⟨upd G T (.tup [x, y]), sm, Kp.self.upd n', ?_, T, [x, y], rfl, SqT.of upd_same, ⟨x, [y], rfl, Rep.mono sm a x ra, ⟨y, [], rfl, Rep.mono sm b y rb, rfl⟩⟩⟩
  rw [← lay_upd n', e]
def enumD : Nat → List D → List D
  | _, [] => []
  | n, d :: ds => .tup [.int n, d] :: enumD (n + 1) ds
theorem enumD_len : ∀ (n : Nat) (ds : List D), (enumD n ds).length = ds.length
  | _, [] => rfl
  | n, d :: ds => by rw [enumD, List.length_cons, List.length_cons, enumD_len]
theorem enumD_get : ∀ (ds : List D) (n i : Nat), (enumD n ds)[i]? = (ds[i]?).map fun d => D.tup [.int ((n + i : Nat) : Int), d]
  | [], n, i => by simp [enumD]
  | d :: ds, n, 0 => by simp [enumD]
  | d :: ds, n, i + 1 => by
    rw [enumD, List.getElem?_cons_succ, List.getElem?_cons_succ, enumD_get ds (n + 1) i, show n + 1 + i = n + (i + 1) by omega]
def dEnum (t : AD) : ID := fun ρ R => t ρ fun ds => match ds with
  | [.lst ds] => R (enumD 0 ds)
  | _ => False
theorem qi_enum {elts : List Expr} {kk : Nat} {tpos : Pos} (hg : Gl X "enumerate") (hm : X.mg "enumerate" = none) (ha : QA X [e] at_) (hs : starEach [e] X.env = [(false, eval e X.env)] := by rfl) : QI X WRep (.Tuple elts kk tpos) (.Call (.Name "enumerate" p) [e] [] pos) (dEnum at_) := ⟨fun G H ρ σ R Q S h po =>
  WI.of (pi_enum hg hm pa_w hs) (ha.run G H ρ σ _ _ S h fun vs G1 ds s1 k1 r1 q1 => by
    match ds, q1 with
    | [.lst ds], q1 =>
      obtain ⟨x, rfl, a, xs, rfl, hp, rp⟩ := one_of r1
      refine ⟨a, xs, rfl, SqL.of ((S.step s1 k1).hid.same _ _ hp), po _ G1 _ s1 k1 ⟨fun i G2 H2 s h hl => ?_, fun i d G2 H2 s h hd => ?_⟩ q1⟩
      · rw [enumD_len] at hl
        exact ⟨xs, SqL.of (h.same _ _ (s _ _ hp)), by rw [rp.length]; omega⟩
      · rw [enumD_get] at hd
        cases q : ds[i]? with
        | none => rw [q] at hd; cases hd
        | some c =>
          rw [q] at hd
          cases hd
          obtain ⟨v, hv, rv⟩ := rp.get q
          have sq : SqL X.K H2 a xs := SqL.of (h.same _ _ (s _ _ hp))
          refine ⟨⟨xs, v, sq, hv⟩, fun x H' y => ?_⟩
          obtain ⟨T, w, rfl, n, rfl, y⟩ := y
          have e := y xs sq
          rw [hv] at e
          cases e
          have z := pair_ok (a := .int ((0 + i : Nat) : Int)) (x := .int (i : Nat)) h n (by rw [Nat.zero_add]; rfl) (Rep.mono s c v rv)
          exact z)⟩
def zipD : List D → List D → List D
  | a :: as, b :: bs => .tup [a, b] :: zipD as bs
  | _, _ => []
theorem zipD_get : ∀ (as bs : List D) (i : Nat) (d : D), (zipD as bs)[i]? = some d → ∃ a b, as[i]? = some a ∧ bs[i]? = some b ∧ d = .tup [a, b]
  | [], _, i, d, h => by simp [zipD] at h
  | _ :: _, [], i, d, h => by simp [zipD] at h
  | a :: as, b :: bs, 0, d, h => by simp [zipD] at h; exact ⟨a, b, rfl, rfl, h.symm⟩
  | a :: as, b :: bs, i + 1, d, h => by
    rw [zipD, List.getElem?_cons_succ] at h
    exact zipD_get as bs i d h
theorem zipD_len : ∀ (as bs : List D), (zipD as bs).length = min as.length bs.length
  | [], _ => by simp [zipD]
  | _ :: _, [] => by simp [zipD]
  | a :: as, b :: bs => by rw [zipD, List.length_cons, List.length_cons, List.length_cons, zipD_len]; omega
def dZip (t : AD) : ID := fun ρ R => t ρ fun ds => match ds with
  | [.lst as, .lst bs] => R (zipD as bs)
  | _ => False
theorem qi_zip {e2 : Expr} {elts : List Expr} {kk : Nat} {tpos : Pos} (hg : Gl X "zip") (hm : X.mg "zip" = none) (ha : QA X [e, e2] at_) (hs : starEach [e, e2] X.env = (false, eval e X.env) :: starEach [e2] X.env := by rfl) (hpl : (backTo pos (starEach [e2] X.env)).any (·.1) = false := by rfl) :
    QI X WRep (.Tuple elts kk tpos) (.Call (.Name "zip" p) [e, e2] [] pos) (dZip at_) := ⟨fun G H ρ σ R Q S h po =>
  WI.of (pi_zip hg hm pa_w hs hpl) (ha.run G H ρ σ _ _ S h fun vs G1 ds s1 k1 r1 q1 => by
    match ds, q1 with
    | [.lst as, .lst bs], q1 =>
      obtain ⟨x, y, rfl, ⟨a, xs, rfl, hp, rp⟩, ⟨b, ys, rfl, hq, rq⟩⟩ := two_of r1
      have sm := (S.step s1 k1).hid.same
      refine ⟨a, b, xs, ys, rfl, SqL.of (sm _ _ hp), SqL.of (sm _ _ hq), po _ G1 _ s1 k1 ⟨fun i G2 H2 s h hl => ?_, fun i d G2 H2 s h hd => ?_⟩ q1⟩
      · rw [zipD_len] at hl
        refine ⟨xs, ys, SqL.of (h.same _ _ (s _ _ hp)), SqL.of (h.same _ _ (s _ _ hq)), ?_⟩
        rw [rp.length, rq.length]
        omega
      · obtain ⟨c, d', e1, e2, rfl⟩ := zipD_get as bs i d hd
        obtain ⟨v, hv, rv⟩ := rp.get e1
        obtain ⟨w, hw, rw'⟩ := rq.get e2
        have sq1 : SqL X.K H2 a xs := SqL.of (h.same _ _ (s _ _ hp))
        have sq2 : SqL X.K H2 b ys := SqL.of (h.same _ _ (s _ _ hq))
        refine ⟨⟨xs, ys, v, w, sq1, sq2, hv, hw⟩, fun x H' y => ?_⟩
        obtain ⟨T, x1, x2, rfl, n, rfl, y1, y2⟩ := y
        have e3 := y1 xs sq1
        have e4 := y2 ys sq2
        rw [hv] at e3
        rw [hw] at e4
        cases e3; cases e4
        exact pair_ok h n (Rep.mono s c v rv) (Rep.mono s d' w rw'))⟩
end

/-! ### for, while -/
def dForGo (g : GD) (tb : SD) (E : EndsD) : List D → Rho → Prop
  | [], ρ => E.nx ρ
  | d :: ds, ρ => g d ρ fun ρ1 => tb { nx := dForGo g tb E ds, ct := dForGo g tb E ds, bk := E.nx, rt := E.rt } ρ1
def dFor (ti : ID) (g : GD) (tb : SD) : SD := fun E ρ => ti ρ fun ds => dForGo g tb E ds ρ
def dWhile (tc : TD) (tb : SD) : SD := fun E ρ => ∃ W : Nat → Rho → Prop, (∃ m, W m ρ) ∧ ∀ m ρ, W m ρ → tc ρ fun b => if b = true then tb { nx := fun ρ' => ∃ m', m' < m ∧ W m' ρ', ct := fun ρ' => ∃ m', m' < m ∧ W m' ρ', bk := E.nx, rt := E.rt } ρ else E.nx ρ
section
variable {X : Cx} {tg iter c : Expr} {body : List Stmt} {ti : ID} {g : GD} {tb : SD} {tc : TD} {P : RP} {pos : Pos} {is : List Nat}
theorem qs_for (hp : PassesOwn (model X.prog X.w) X.A X.env X.xe) (hc : X.calm = true) (hi : QI X P tg iter ti) (hg : QG X P tg g is) (hb : QSs X body tb) (hs : ∀ x, foldedSetIterable iter X.env x = pure x := by intro _; rfl) : QS X (.For tg iter body [] pos) (dFor ti g tb) := ⟨fun G H ρ σ E D S h po => by
  refine WS.of (ps_for hp hc pi_w pg_w pss_w hs) ?_
  refine hi.run G H ρ σ _ _ S h fun J G1 ds s1 k1 ok q1 => ?_
  refine ⟨fun i m σ' H' => m = ds.length - i ∧ i ≤ ds.length ∧ ∃ G' ρ', Same G1 G' ∧ Sim X.K G' H' ρ' σ' ∧ dForGo g tb E (ds.drop i) ρ', ⟨_, rfl, Nat.zero_le _, G1, ρ, Same.refl G1, S.step s1 k1, q1⟩, ?_⟩
  rintro i m σ2 H2 ⟨rfl, hle, G2, ρ2, s2, S2, q2⟩
  by_cases hi : i < ds.length
  · right
    have hd : ds[i]? = some ds[i] := List.getElem?_eq_getElem hi
    obtain ⟨go, yl⟩ := ok.2 i _ G2 H2 s2 S2.hid hd
    rw [List.drop_eq_getElem_cons hi] at q2
    refine ⟨go, fun σ' H' => ∃ G' ρ', Same G1 G' ∧ Sim X.K G' H' ρ' σ' ∧ dForGo g tb E (ds.drop (i + 1)) ρ', ?_, ?_⟩
    · rintro σ' H' ⟨G', ρ', a, b, c⟩
      exact ⟨ds.length - (i + 1), by omega, rfl, hi, G', ρ', a, b, c⟩
    · intro x H' y
      obtain ⟨G3, s3, k3, rfl, rx⟩ := yl x H' y
      have S3 := S2.step s3 k3
      refine hg.run G3 _ ρ2 σ2 _ x _ _ S3 rx q2 fun ρ' σ' S' _ q' => ?_
      refine hb.run G3 _ ρ' σ' _ _ S' q' ⟨fun G' H' ρ' σ' a b c => ⟨G', ρ', (s2.trans s3).trans a, b, c⟩, fun v G' H' d a => po.rt v G' H' d (((s1.trans s2).trans s3).trans a), fun G' H' ρ' σ' a => po.nx G' H' ρ' σ' (((s1.trans s2).trans s3).trans a), fun G' H' ρ' σ' a b c => ⟨G', ρ', (s2.trans s3).trans a, b, c⟩⟩
  · left
    have e : ds.drop i = [] := List.drop_eq_nil_of_le (by omega)
    rw [e] at q2
    exact ⟨ok.1 i G2 H2 s2 S2.hid (by omega), po.nx G2 H2 ρ2 σ2 (s1.trans s2) S2 q2⟩⟩
theorem qs_while (hp : PassesOwn (model X.prog X.w) X.A X.env X.xe) (hc : QT X c tc) (hb : QSs X body tb) : QS X (.While c body [] pos) (dWhile tc tb) := ⟨fun G H ρ σ E D S h po => by
  obtain ⟨W, ⟨m0, w0⟩, turn⟩ := h
  refine WS.of (ps_while hp pt_w pss_w) ⟨fun m σ' H' => ∃ G' ρ', Same G G' ∧ Sim X.K G' H' ρ' σ' ∧ W m ρ', ⟨m0, G, ρ, Same.refl G, S, w0⟩, ?_⟩
  rintro m σ2 H2 ⟨G2, ρ2, s2, S2, w2⟩
  refine hc.run G2 H2 ρ2 σ2 _ _ S2 (turn m ρ2 w2) fun b G3 s3 k3 q3 => ?_
  have S3 := S2.step s3 k3
  have s13 := s2.trans s3
  cases b with
  | false => exact po.nx G3 _ ρ2 σ2 s13 S3 q3
  | true =>
    refine ⟨fun σ' H' => ∃ m' G' ρ', m' < m ∧ Same G G' ∧ Sim X.K G' H' ρ' σ' ∧ W m' ρ', ?_, ?_⟩
    · rintro σ' H' ⟨m', G', ρ', hl, a, b, c⟩
      exact ⟨m', hl, G', ρ', a, b, c⟩
    · exact hb.run G3 _ ρ2 σ2 _ _ S3 q3 ⟨fun G' H' ρ' σ' a b ⟨m', hl, w'⟩ => ⟨m', G', ρ', hl, s13.trans a, b, w'⟩, fun v G' H' d a => po.rt v G' H' d (s13.trans a), fun G' H' ρ' σ' a => po.nx G' H' ρ' σ' (s13.trans a), fun G' H' ρ' σ' a b ⟨m', hl, w'⟩ => ⟨m', G', ρ', hl, s13.trans a, b, w'⟩⟩⟩
end
end DL

namespace DL
open PySem PySem.Spec PyProof.Rows
open L2 hiding St

/-! ### list comprehensions -/
/-- a list is made that nobody sees yet -/
theorem Sim.add {K : PySem.W.Frag} {G H : Hp} {ρ : Rho} {σ : St} {p : Addr} {xs : List V} (S : Sim K G H ρ σ) (hn : H p = none) : Sim K G (upd H p (.lst xs)) ρ σ := by
  have gp : G p = none := S.hid.same.free hn
  refine ⟨⟨fun b o e => by rw [upd_ne (ne_of_none e gp)]; exact S.hid.same b o e, fun b u n q => ?_⟩, S.len, S.val, fun j es q => ?_, S.inj⟩
  · by_cases hb : b = p
    · rw [hb, upd_same] at q; cases q; exact ⟨xs, rfl⟩
    · rw [upd_ne hb] at q; exact S.hid.lst b u n q
  · obtain ⟨p', ys, a1, a2, a3, a4⟩ := S.own j es q
    exact ⟨p', ys, a1, by rw [upd_ne (ne_of_none a2 hn)]; exact a2, a3, a4⟩
theorem lay_hide {G0 H0 G G' : Hp} {p : Addr} {u : HO} (k : Kp G0 H0 G) (n : lay G0 H0 G p = none) (k' : Kp G (upd (lay G0 H0 G) p u) G') :
    lay G (upd (lay G0 H0 G) p u) G' = upd (lay G0 H0 G') p u ∧ Kp G0 H0 G' ∧ lay G0 H0 G' p = none := by
  have gp := (lay_free n).1
  have kk : Kp G0 H0 G' := fun b o a c => by
    have hb : b ≠ p := fun z => by
      rw [z] at a c
      rw [(lay_free n).2 a] at c
      cases c
    exact k' b o (k b o a c) (by rw [upd_ne hb]; exact lay_hid a c)
  have np : lay G0 H0 G' p = none := by
    have g'p := k' p u gp upd_same
    cases q : G0 p with
    | some o => rw [lay_some q]; exact g'p
    | none => rw [lay_none ((lay_free n).2 q)]; exact g'p
  refine ⟨?_, kk, np⟩
  funext b
  by_cases hb : b = p
  · subst hb
    rw [lay_hid gp upd_same, upd_same]
  · rw [upd_ne hb]
    cases g : G b with
    | some o =>
      rw [lay_some g]
      cases q : G0 b with
      | some o' => rw [lay_some q]
      | none =>
        cases h : H0 b with
        | some o' => rw [k b o' q h] at g; cases g
        | none => rw [lay_none h]
    | none =>
      cases q : G0 b with
      | some o' => rw [lay_none (by rw [upd_ne hb, lay_some q]; exact g), lay_some q]
      | none =>
        cases h : H0 b with
        | some o' => rw [lay_hid g (by rw [upd_ne hb]; exact lay_hid q h), lay_hid q h]
        | none => rw [lay_none (by rw [upd_ne hb, lay_none h]; exact g), lay_none h]
def wipeD (ρ : Rho) : List Nat → Rho
  | [] => ρ
  | v :: vs => (wipeD ρ vs).set v .nul
theorem Sim.wipe {K : PySem.W.Frag} {G H : Hp} {ρ : Rho} {σ : St} (S : Sim K G H ρ σ) : ∀ vs : List Nat, Sim K G H (wipeD ρ vs) (L2.wipe σ vs)
  | [] => S
  | v :: vs => (S.wipe vs).nul v
theorem wipe_get (σ : St) : ∀ (vs : List Nat) (j : Nat), (L2.wipe σ vs)[j]? = if j ∈ vs then (if j < σ.length then some none else none) else σ[j]?
  | [], j => by simp [L2.wipe]
  | v :: vs, j => by
    have len : (L2.wipe σ vs).length = σ.length := wipe_length σ vs
    rw [L2.wipe, List.getElem?_set, len]
    by_cases h : v = j
    · subst h
      rw [if_pos rfl, if_pos List.mem_cons_self]
    · rw [if_neg h, wipe_get σ vs j]
      by_cases h2 : j ∈ vs
      · rw [if_pos h2, if_pos (List.mem_cons_of_mem _ h2)]
      · rw [if_neg h2, if_neg (fun z => (List.mem_cons.mp z).elim (fun e => h e.symm) h2)]
theorem wipe_only {σ σ2 : St} {vs ts : List Nat} (hs : ∀ t ∈ ts, t ∈ vs) (o : Only ts (L2.wipe σ vs) σ2) : L2.wipe σ2 vs = L2.wipe σ vs := by
  have l1 : (L2.wipe σ vs).length = σ.length := wipe_length σ vs
  refine List.ext_getElem? fun j => ?_
  rw [wipe_get σ2, o.1, l1, wipe_get σ]
  by_cases h : j ∈ vs
  · rw [if_pos h, if_pos h]
  · rw [if_neg h, if_neg h, o.2 j fun z => h (hs j z), wipe_get, if_neg h]
def dYes : TD := fun _ R => R true
def WTs (X : Cx) (ifs : List Expr) : TT := fun σ H Q => ∀ (pins : List (Addr × Obj)) (s : Shared), Inv X pins σ H s →
  wpAny (model X.prog X.w) X.A (forIn ifs true fun c r => if r = true then do let ok ← isTrue c X.env (eval c X.env); pure (ForInStep.yield ok) else pure (ForInStep.yield r)) (TP X pins σ Q) X.xe s
structure QTs (X : Cx) (ifs : List Expr) (t : TD) : Prop where
  run : ∀ (G H : Hp) (ρ : Rho) (σ : St) (R : Bool → Prop) (Q : Bool → Hp → Prop), Sim X.K G H ρ σ → t ρ R → PoT G H R Q → WTs X ifs σ H Q
theorem qts_nil {X : Cx} : QTs X [] dYes := ⟨fun G H ρ σ R Q S h po pins s I => pts_nil.run pins s σ H Q I (po.here S.hid h)⟩
theorem qts_one {X : Cx} {c : Expr} {t : TD} (h : QT X c t) : QTs X [c] t := ⟨fun G H ρ σ R Q S q po pins s I => (pts_one pt_w).run pins s σ H Q I (h.run G H ρ σ R Q S q po)⟩
def dLcGo (ρ : Rho) (g : GD) (tt : TD) (te : ED) (R : List D → Prop) : List D → List D → Prop
  | [], acc => R acc
  | d :: ds, acc => g d ρ fun ρ1 => tt ρ1 fun b => if b = true then te ρ1 fun y => dLcGo ρ g tt te R ds (acc ++ [y]) else dLcGo ρ g tt te R ds acc
def dLc (ti : ID) (g : GD) (tt : TD) (te : ED) (vs : List Nat) : ID := fun ρ R => ti ρ fun ds => ds.length ≤ sizeLine ∧ dLcGo (wipeD ρ vs) g tt te R ds []
section
variable {X : Cx} {tg iter elt : Expr} {ifs : List Expr} {scope : Scope} {own : List (Str × Nat)} {ti : ID} {g : GD} {tt : TD} {te : ED} {P : RP} {pos : Pos} {is : List Nat}
abbrev Blk (X : Cx) (scope : Scope) (s : Shared) (H : Hp) (C : Addr) (cl : List (Str × Addr)) (fp : List Addr) : Cx := X.blk s H scope (compEnvC scope cl C X.env) fp
def WGb (X : Cx) (scope : Scope) (tg : Expr) : TG := fun v σ H Q => ∀ s H0 C cl fp, WG (Blk X scope s H0 C cl fp) tg v σ H Q
def WTb (X : Cx) (scope : Scope) (ifs : List Expr) : TT := fun σ H Q => ∀ s H0 C cl fp, WTs (Blk X scope s H0 C cl fp) ifs σ H Q
def WEb (X : Cx) (scope : Scope) (e : Expr) : TE := fun σ H Q => ∀ s H0 C cl fp, W (Blk X scope s H0 C cl fp) e σ H Q
theorem lc_read (hi : QI X P tg iter ti) (hg : ∀ s H C cl fp, QG (Blk X scope s H C cl fp) P tg g is) (ht : ∀ s H C cl fp, QTs (Blk X scope s H C cl fp) ifs tt) (he : ∀ s H C cl fp, QE (Blk X scope s H C cl fp) elt te) (hsub : ∀ t ∈ is, t ∈ own.map (·.2))
    {G H : Hp} {ρ : Rho} {σ : St} {R : List D → Prop} {Q : VK} (S : Sim X.K G H ρ σ) (h : dLc ti g tt te (own.map (·.2)) ρ R) (nw : NewL X.K G H R Q) :
    tLc (WI X tg iter) (WGb X scope tg) (WTb X scope ifs) (WEb X scope elt) (own.map (·.2)) σ H Q := by
  refine hi.run G H ρ σ _ _ S h fun J G1 ds s1 k1 ok q1 => ?_
  intro L nL
  refine ⟨fun i m H' => m = ds.length - i ∧ i ≤ ds.length ∧ ∃ G' acc xs, Same G1 G' ∧ Kp G H G' ∧ lay G H G' L = none ∧ H' = upd (lay G H G') L (.lst xs) ∧ RepAll X.K G' acc xs ∧ acc.length ≤ i ∧ dLcGo (wipeD ρ (own.map (·.2))) g tt te R (ds.drop i) acc,
    ⟨_, rfl, Nat.zero_le _, G1, [], [], Same.refl G1, k1, nL, rfl, rfl, Nat.le_refl _, q1.2⟩, ?_⟩
  rintro i m H2 ⟨rfl, hle, G2, acc, xs, s2, k2, n2, rfl, ra, hz, q2⟩
  have S2 : Sim X.K G2 (upd (lay G H G2) L (.lst xs)) (wipeD ρ (own.map (·.2))) (L2.wipe σ (own.map (·.2))) := ((S.step (s1.trans s2) k2).wipe _).add n2
  by_cases hi : i < ds.length
  · right
    have hd : ds[i]? = some ds[i] := List.getElem?_eq_getElem hi
    obtain ⟨go, yl⟩ := ok.2 i _ G2 _ s2 S2.hid hd
    rw [List.drop_eq_getElem_cons hi] at q2
    refine ⟨go, fun H' => ∃ G' acc xs, Same G1 G' ∧ Kp G H G' ∧ lay G H G' L = none ∧ H' = upd (lay G H G') L (.lst xs) ∧ RepAll X.K G' acc xs ∧ acc.length ≤ i + 1 ∧ dLcGo (wipeD ρ (own.map (·.2))) g tt te R (ds.drop (i + 1)) acc, ?_, ?_⟩
    · rintro H' ⟨G', acc', xs', b⟩
      exact ⟨ds.length - (i + 1), by omega, rfl, hi, G', acc', xs', b⟩
    · intro x H' y
      obtain ⟨G3, s3, k3, rfl, rx⟩ := yl x H' y
      have S3 := S2.step s3 k3
      intro sB HB CB cB fB
      refine (hg sB HB CB cB fB).run G3 _ _ _ _ x _ _ S3 rx q2 fun ρ' σ' S' o' q' => ⟨wipe_only hsub o', ?_⟩
      intro sB HB CB cB fB
      refine (ht sB HB CB cB fB).run G3 _ ρ' σ' _ _ S' q' fun b G4 s4 k4 q4 => ?_
      have S4 := S'.step s4 k4
      obtain ⟨e3, kk3, nn3⟩ := lay_hide k2 n2 k3
      rw [e3] at k4 S4 ⊢
      obtain ⟨e4, kk4, nn4⟩ := lay_hide kk3 nn3 k4
      rw [e4] at S4 ⊢
      have s24 : Same G2 G4 := s3.trans s4
      cases b with
      | false => exact ⟨G4, acc, xs, s2.trans s24, kk4, nn4, rfl, RepAll.mono s24 acc xs ra, by omega, q4⟩
      | true =>
        intro sB HB CB cB fB
        refine (he sB HB CB cB fB).run G4 _ ρ' σ' _ _ S4 q4 fun v G5 d s5 k5 r5 q5 => ?_
        obtain ⟨e5, kk5, nn5⟩ := lay_hide kk4 nn4 k5
        rw [e5]
        refine ⟨xs, upd_same, ?_, G5, acc ++ [d], xs ++ [v], s2.trans (s24.trans s5), kk5, nn5, upd_upd, (RepAll.mono (s24.trans s5) acc xs ra).app (RepAll.one r5), ?_, q5⟩
        · rw [ra.length]
          have := q1.1
          omega
        · rw [List.length_append]
          show acc.length + 1 ≤ i + 1
          omega
  · left
    have e : ds.drop i = [] := List.drop_eq_nil_of_le (by omega)
    rw [e] at q2
    exact ⟨ok.1 i G2 _ s2 S2.hid (by omega), nw L xs acc G2 (s1.trans s2) k2 n2 ra q2⟩
theorem ql_lc (hc : X.calm = true) (hN : X.N.Nodup) (ok : BlkOk X.N X.env.scope scope own) (hi : QI X P tg iter ti) (hg : ∀ s H C cl fp, QG (Blk X scope s H C cl fp) P tg g is) (ht : ∀ s H C cl fp, QTs (Blk X scope s H C cl fp) ifs tt) (he : ∀ s H C cl fp, QE (Blk X scope s H C cl fp) elt te)
    (hsub : ∀ t ∈ is, t ∈ own.map (·.2) := by decide) (hs : ∀ x, foldedSetIterable iter X.env x = pure x := by intro _; rfl) : QL X (.ListComp elt [⟨tg, iter, ifs, 0⟩] scope pos) (dLc ti g tt te (own.map (·.2))) := ⟨fun G H ρ σ R Q S h nw =>
  W.of (pe_lc hc hN pi_w ok (fun s H C cl fp => ⟨fun pins s' σ H v u Q I r h => h s _ C cl fp pins s' u I r⟩) (fun s H C cl fp => ⟨fun pins s' σ H Q I h => h s _ C cl fp pins s' I⟩) (fun s H C cl fp => ⟨fun pins s' σ H Q I h => h s _ C cl fp pins s' I⟩) hs) (lc_read hi hg ht he hsub S h nw)⟩
def dOfL (t : ID) : ED := fun ρ R => t ρ fun ds => R (.lst ds)
theorem Po.newL {K : PySem.W.Frag} {G H : Hp} {R : D → Prop} {Q : VK} (p : Po K G H R Q) : NewL K G H (fun ds => R (.lst ds)) Q := fun a xs ds G1 s k n r q => by
  rw [lay_upd n]
  exact p (.ref a) (upd G1 a (.lst xs)) (.lst ds) (s.trans (same_upd (lay_free n).1)) (k.upd n) ⟨a, xs, rfl, upd_same, RepAll.mono (same_upd (lay_free n).1) ds xs r⟩ q
theorem QL.qe {e : Expr} {t : ID} (h : QL X e t) : QE X e (dOfL t) := ⟨fun G H ρ σ R Q S q po => h.run G H ρ σ _ Q S q po.newL⟩
/-- y = [..], y a local -/
theorem qs_setLc {i : Nat} {y : Str} {py spos : Pos} (hc : X.calm = true) (hN : X.N.Nodup) (ok : BlkOk X.N X.env.scope scope own) (hi : QI X P tg iter ti) (hg : ∀ s H C cl fp, QG (Blk X scope s H C cl fp) P tg g is) (ht : ∀ s H C cl fp, QTs (Blk X scope s H C cl fp) ifs tt) (he : ∀ s H C cl fp, QE (Blk X scope s H C cl fp) elt te)
    (hsw : swapsWith (.ListComp elt [⟨tg, iter, ifs, 0⟩] scope pos) (some (.Name y py)) spos.line X.env = pure true) (hy : X.N[i]? = some y := by rfl) (hyl : X.env.scope.names.lookup y = some .local := by rfl)
    (hsub : ∀ t ∈ is, t ∈ own.map (·.2) := by decide) (hs : ∀ x, foldedSetIterable iter X.env x = pure x := by intro _; rfl) : QS X (.Assign [.Name y py] (.ListComp elt [⟨tg, iter, ifs, 0⟩] scope pos) spos) (dSet i (dOfL (dLc ti g tt te (own.map (·.2))))) := ⟨fun G H ρ σ E D S h po pins s I =>
  (WS.of (ps_setLc hc hN hy hyl hsw pi_w ok (fun s H C cl fp => ⟨fun pins s' σ H v u Q I r h => h s _ C cl fp pins s' u I r⟩) (fun s H C cl fp => ⟨fun pins s' σ H Q I h => h s _ C cl fp pins s' I⟩) (fun s H C cl fp => ⟨fun pins s' σ H Q I h => h s _ C cl fp pins s' I⟩) hs) (lc_read hi hg ht he hsub S h
    (Po.newL (R := fun d => E.nx (ρ.set i (.val d))) (Q := fun v H1 => D.nx (σ.set i (some v)) H1) fun v G1 d s1 k1 r1 q1 => po.nx G1 _ _ _ s1 ((S.step s1 k1).put (slot_lt S I hy) r1) q1))) pins s I⟩
theorem qs_ownLc {i : Nat} {y : Str} {py spos : Pos} (hc : X.calm = true) (hN : X.N.Nodup) (ok : BlkOk X.N X.env.scope scope own) (hi : QI X P tg iter ti) (hg : ∀ s H C cl fp, QG (Blk X scope s H C cl fp) P tg g is) (ht : ∀ s H C cl fp, QTs (Blk X scope s H C cl fp) ifs tt) (he : ∀ s H C cl fp, QE (Blk X scope s H C cl fp) elt te)
    (hsw : swapsWith (.ListComp elt [⟨tg, iter, ifs, 0⟩] scope pos) (some (.Name y py)) spos.line X.env = pure true) (hy : X.N[i]? = some y := by rfl) (hyl : X.env.scope.names.lookup y = some .local := by rfl)
    (hsub : ∀ t ∈ is, t ∈ own.map (·.2) := by decide) (hs : ∀ x, foldedSetIterable iter X.env x = pure x := by intro _; rfl) : QS X (.Assign [.Name y py] (.ListComp elt [⟨tg, iter, ifs, 0⟩] scope pos) spos) (dSetO i (dLc ti g tt te (own.map (·.2)))) := ⟨fun G H ρ σ E D S h po pins s I =>
  (WS.of (ps_setLc hc hN hy hyl hsw pi_w ok (fun s H C cl fp => ⟨fun pins s' σ H v u Q I r h => h s _ C cl fp pins s' u I r⟩) (fun s H C cl fp => ⟨fun pins s' σ H Q I h => h s _ C cl fp pins s' I⟩) (fun s H C cl fp => ⟨fun pins s' σ H Q I h => h s _ C cl fp pins s' I⟩) hs) (lc_read hi hg ht he hsub S h
    fun p xs ds G1 s1 k1 n r q => po.nx G1 _ _ _ s1 ((S.step s1 k1).putOwn (slot_lt S I hy) n r) q)) pins s I⟩
end

/-! ### defs -/
def startD (N : List Str) (ds : List D) : Rho := ds.map SL.val ++ List.replicate (N.length - ds.length) SL.nul
theorem sim_start {K : PySem.W.Frag} {H : Hp} {N : List Str} {ds : List D} {vs : List V} (r : RepAll K H ds vs) : Sim K H H (startD N ds) (start N vs) := by
  have hl := r.length
  have own : ∀ (i : Nat) (es : List D), (startD N ds)[i]? ≠ some (SL.own es) := fun i es q => by
    unfold startD at q
    by_cases h : i < ds.length
    · rw [List.getElem?_append_left (by rw [List.length_map]; exact h), List.getElem?_map, List.getElem?_eq_getElem h] at q
      cases q
    · rw [List.getElem?_append_right (by rw [List.length_map]; omega), List.getElem?_replicate] at q
      split at q <;> cases q
  refine ⟨Hid.self H, ?_, fun i d q => ?_, fun i es q => absurd q (own i es), fun i j es fs p q => absurd q (own i es)⟩
  · unfold startD L2.start
    rw [List.length_append, List.length_append, List.length_map, List.length_map, List.length_replicate, List.length_replicate, hl]
  · unfold startD at q
    by_cases h : i < ds.length
    · rw [List.getElem?_append_left (by rw [List.length_map]; exact h), List.getElem?_map, List.getElem?_eq_getElem h] at q
      cases q
      obtain ⟨v, hv, rv⟩ := r.get (List.getElem?_eq_getElem h)
      refine ⟨v, ?_, rv⟩
      unfold L2.start
      rw [List.getElem?_append_left (by rw [List.length_map, hl]; exact h), List.getElem?_map, hv]
      rfl
    · rw [List.getElem?_append_right (by rw [List.length_map]; omega), List.getElem?_replicate] at q
      split at q <;> cases q
section
variable {P : Program} {w : World} {K : PySem.W.Frag} {mg : Str → Option Value} {base : Heap}
/-- THE RULE for a def over data -/
theorem fn_data {x qual : Str} {st : Stmt} {f : Addr} {fd : FuncData} {N ps : List Str} {k : Nat} {Φ : List D → (D → Prop) → Prop} (F : Fun K x qual st f fd) (S : FnScope N ps (defScope st)) (len : ∀ ds R, Φ ds R → ds.length = ps.length)
    (hbody : ∀ (cdv : Value) (A : Around) (outer : List Env) (s : Shared) (H : Hp) (E : XK), Room k (A.deeper (envOfC qual (defScope st) s.heap.objs.size f cdv)) →
      ∃ t, QSs (cxOf CX0 P w K mg base N qual (defScope st) f cdv A outer s H E).nox (defBody st) t ∧ ∀ ds R, Φ ds R → t ⟨fun _ => R .non, R, fun _ => False, fun _ => False⟩ (startD N ds)) : FnOk P w K mg base CX0 (k + 1) f fd ps (spD K Φ) := by
  refine F.ok S (fun vs H Q E h => ?_) (fun cdv A outer s H vs Q E hr h => ?_)
  · obtain ⟨ds, R, r, q, _⟩ := h
    rw [r.length]
    exact len ds R q
  · obtain ⟨ds, R, r, q, po⟩ := h
    obtain ⟨t, ht, hq⟩ := hbody cdv A outer s H E hr
    refine ⟨_, pss_w, ?_⟩
    refine ht.run H H (startD N ds) (start N vs) _ _ (sim_start r) (hq ds R q) ⟨fun G' H' ρ' σ' sm S' q' => ?_, fun v G' H' d sm hd rv q' => ?_, fun _ _ _ _ _ _ z => z.elim, fun _ _ _ _ _ _ z => z.elim⟩
    · exact po .non H' .non (sm.trans S'.hid.same) rfl q'
    · exact po v H' d (sm.trans hd.same) (Rep.mono hd.same d v rv) q'
end
end DL

namespace DL
open PySem PySem.Spec PyProof.Rows
open L2 hiding St

/-! ### enumerate over a tuple -/
abbrev tupIt (t : Addr) : Obj := { cls := .type "tuple_iterator", data := .fields #[.ref t, .int 0 0] }
abbrev enumOb (it : Addr) : Obj :=
  { cls := .type "enumerate", data := .fields #[.none, .bool false, .ref it, rawInt 0, .none, .none] }
theorem meets_enumT (t : Addr) (items : Array Value) (o : Obj) (hc : o.cls = .type "tuple") (n : Nat) (hd : o.data = .seq items n) :
    Meets (Builtin.«enumerate.__new__» ⟨[.type "enumerate", .ref t], []⟩) (fun _ R s => s.heap.get? t = some o ∧
      R (.ok (.ret (.ref (s.heap.push (tupIt t)).objs.size)))
        { s with heap := (s.heap.push (tupIt t)).push (enumOb s.heap.objs.size) }) :=
  .of_wp fun prog w A R s h => by
    obtain ⟨hp, g, d, tk, os⟩ := s
    obtain ⟨hl, h⟩ := h
    have hsub := sub_enumerate
    have hT : Heap.IsTuple (Shared.heap ⟨hp, g, d, tk, os⟩) t items := ⟨o, hl, hc, n, hd⟩
    wp_walk using wpAny_loadPart' hl
    refine wpAny_stack_any fun st => wpAny_pure ?_
    split
    case h_1 =>
      rename_i c _ _ _ _ _
      cases (c == Value.type "enumerate") <;>
      · wp_walk using wpAny_loadPart' hl, wpAny_pyIter_tuple hT
        exact ⟨_, rfl, h⟩
    case h_2 =>
      wp_walk using wpAny_loadPart' hl, wpAny_pyIter_tuple hT
      exact ⟨_, rfl, h⟩
theorem call_enumT {prog : Program} {w : World} {A : Around} {E : Value → Shared → Prop} {s : Shared} {t : Addr} {items : Array Value} {Q : Value → Shared → Prop} (hT : s.heap.IsTuple t items)
    (h : ∀ h', IsEnum h' (s.heap.objs.size + 1) s.heap.objs.size 0 .none → h'.IsTupleIter s.heap.objs.size t 0 → (∀ b o, s.heap.get? b = some o → h'.get? b = some o) → Q (.ref (s.heap.objs.size + 1)) { s with heap := h' }) :
    wpAny (model prog w) A (call (.type "enumerate") [.ref t]) Q E s := by
  obtain ⟨o, ho, hc, n, hd⟩ := hT
  refine callType_new F.called_enumerate (by decide) (F.typeCall_enumerate_1 _) (F.newCall_enumerate_1 _)
    (fun obj => F.args_object_init_2 obj _) F.entry_enumerate_new (meets_enumT t items o hc n hd) ⟨ho, ?_⟩
  have sz : (s.heap.push (tupIt t)).objs.size = s.heap.objs.size + 1 := Heap.size_push ..
  have he : IsEnum ((s.heap.push (tupIt t)).push (enumOb s.heap.objs.size)) (s.heap.objs.size + 1) s.heap.objs.size 0 .none := by
    have q := Heap.get?_push_size (s.heap.push (tupIt t)) (o := enumOb s.heap.objs.size) rfl
    rw [sz] at q
    exact q
  show _ ∧ _
  rw [sz]
  refine ⟨⟨_, he, rfl⟩, h _ he ⟨_, Heap.get?_push_of_some _ (Heap.get?_push_size _ rfl), rfl, rfl⟩ fun b o x => ?_⟩
  exact Heap.get?_push_of_some _ (Heap.get?_push_of_some _ x)
def IteT (K : PySem.W.Frag) (a : Addr) : It :=
  ⟨fun i H => ∃ (xs : List V) (x : V), SqT K H a xs ∧ xs[i]? = some x,
   fun i H v H' => ∃ T x, v = .ref T ∧ H T = none ∧ H' = upd H T (.tup [.int (i : Nat), x]) ∧ ∀ xs, SqT K H a xs → xs[i]? = some x,
   fun i H => ∃ xs : List V, SqT K H a xs ∧ i = xs.length⟩
theorem turn_enumT {P : Program} {w : World} {K : PySem.W.Frag} {elts : List Expr} {kk : Nat} {tpos : Pos} (a e it : Addr) :
    Turn P w K (.Tuple elts kk tpos) (IteT K a) [e, it] e (fun i h => (∃ old, IsEnum h e it ((i : Nat) : Int) old) ∧ h.IsTupleIter it a i ∧ e ≠ it) where
  mem := List.mem_cons_self
  obj := fun i h st b hb => by
    obtain ⟨⟨old, he⟩, ⟨o, ho, hc, hd⟩, _⟩ := st
    rcases List.mem_cons.mp hb with z | z
    · subst z; exact ⟨_, he, fun v q => nomatch q⟩
    · have z := List.mem_singleton.mp z
      subst z
      exact ⟨o, ho, fun v q => by rw [hd] at q; cases q⟩
  keep := fun i h h' st k => by
    obtain ⟨⟨old, he⟩, ⟨o, ho, hc, hd⟩, hne⟩ := st
    exact ⟨⟨old, k e (by simp) _ he⟩, ⟨o, k it (by simp) _ ho, hc, hd⟩, hne⟩
  item := by
    intro X hP hw hK hc i pins s σ H E I hf st hg
    subst hP hw hK
    obtain ⟨⟨old, he⟩, hit, hne⟩ := st
    obtain ⟨xs, x, hq, hx⟩ := hg
    obtain ⟨its, rv, p, hz⟩ := I.tuple hq
    obtain ⟨u, hu, ru⟩ := rv.get hx
    have pT : s.heap.IsTuple a its.toArray := p
    have el : e < s.heap.objs.size := Heap.lt_size he
    have il : it < s.heap.objs.size := by
      obtain ⟨_, q, _⟩ := hit
      exact Heap.lt_size q
    have ai : a ≠ it := fun z => by
      obtain ⟨o1, e1, c1, _⟩ := pT
      obtain ⟨o2, e2, c2, _⟩ := hit
      rw [z, e2] at e1
      cases e1
      rw [c2] at c1
      exact absurd (Value.type.inj c1) (by decide)
    have ae : e ∉ [it, a] := fun z => by
      rcases List.mem_cons.mp z with z | z
      · exact hne z
      · have z := List.mem_singleton.mp z
        obtain ⟨o1, e1, c1, _⟩ := pT
        rw [← z] at e1
        have q : s.heap.get? e = _ := he
        rw [q] at e1
        cases e1
        exact absurd (Value.type.inj c1) (by decide)
    have hd : X.A.in1.handled = none := I.ok.hd hc
    have len : i < its.toArray.size := by
      have h2 := (List.getElem?_eq_some_iff.mp hx).1
      rw [List.size_toArray, ← rv.length]
      exact h2
    refine wpAny_pyNext_enum_itemD (Draws.tuple (prog := X.prog) (w := X.w) hd it a ai its.toArray) he ⟨hit, pT⟩ len hne ae ?_
    intro y h' tk hy ho hst hT hsz hk
    have ey : y = u := by
      have h1 : its.toArray[i]? = some y := hy
      have h2 : its.toArray[i]? = some u := by simpa using hu
      rw [h2] at h1
      exact (Option.some.inj h1).symm
    subst ey
    refine ⟨_, rfl, wpAny_letOwnedTupleGo_enum (s := { s with heap := h', toks := tk + 1 }) ho fun h'' he' sb => ?_⟩
    have neq : s.heap.objs.size ≠ e := Nat.ne_of_gt el
    have hT2 := (sb.2 _ neq).trans hT
    have new : ObjOk X.prog X.w (upd H s.heap.objs.size (.tup [.int (i : Nat), x])) h'' s.heap.objs.size (.tup [.int (i : Nat), x]) := by
      refine ⟨by show 2 ≤ sizeLine; decide, [.int i tk, y], ?_, ⟨_, hT2, rfl, _, rfl⟩⟩
      exact .cons ⟨_, rfl⟩ (.cons ru .nil)
    have all : ∀ b ob, b ∉ [e, it] → s.heap.get? b = some ob → h''.get? b = some ob := fun b ob hb q => by
      have b1 : b ≠ e := fun z => hb (by simp [z])
      have b2 : b ≠ it := fun z => hb (by simp [z])
      exact (sb.2 b b1).trans (hk b ob b1 b2 q)
    have J : Inv X pins σ (upd H s.heap.objs.size (.tup [.int (i : Nat), x])) { s with heap := h'', toks := tk + 1 } :=
      I.turnedNew (ch := [e, it]) all hf (Nat.le_refl _) new
    have fr : H s.heap.objs.size = none := I.hok.fresh (Nat.le_refl _)
    refine ⟨.ref s.heap.objs.size, _, J, rfl, ⟨_, x, rfl, fr, rfl, fun ys hy2 => ?_⟩, ⟨⟨y, ?_⟩, ?_, hne⟩, fun b hb => ?_⟩
    · rw [I.tuple_inj hy2 hq]
      exact hx
    · have e1 : ((i + 1 : Nat) : Int) = (i : Int) + 1 := Int.natCast_add i 1
      rw [e1]
      exact he'
    · obtain ⟨o, q, c, d⟩ := hst.1
      exact ⟨o, (sb.2 it hne.symm).trans q, c, d⟩
    · have lt : b < s.heap.objs.size := by
        rcases List.mem_cons.mp hb with z | z
        · rw [z]; exact el
        · rw [List.mem_singleton.mp z]; exact il
      rw [upd_ne (Nat.ne_of_lt lt)]
      exact (hf b hb).1
  done := by
    intro X hP hw hK hc i pins s σ H E I hf st hg
    subst hP hw hK
    obtain ⟨⟨old, he⟩, hit, hne⟩ := st
    obtain ⟨xs, hq, hx⟩ := hg
    obtain ⟨its, rv, p, hz⟩ := I.tuple hq
    have pT : s.heap.IsTuple a its.toArray := p
    obtain ⟨f0, f1, f2, f3, f4, f5⟩ := hf it (by simp)
    have hd : X.A.in1.handled = none := I.ok.hd hc
    have ai : a ≠ it := fun z => by
      obtain ⟨o1, e1, c1, _⟩ := pT
      obtain ⟨o2, e2, c2, _⟩ := hit
      rw [z, e2] at e1
      cases e1
      rw [c2] at c1
      exact absurd (Value.type.inj c1) (by decide)
    have D := Draws.tuple (prog := X.prog) (w := X.w) hd it a ai its.toArray
    have hi : i = its.toArray.size := by
      rw [List.size_toArray, ← rv.length]
      exact hx
    subst hi
    refine wpAny_pyNext_enum_endD D he ⟨hit, pT⟩ fun h' eb => ⟨rfl, ?_⟩
    exact I.turned (t' := s.toks) (fun b o hb q => eb b o hb q) f0 f1 f3 f4 f5
  self := fun A i s Q E st h => by
    obtain ⟨⟨_, he⟩, _⟩ := st
    exact wpAny_pyIter_enum he h
theorem pi_enumT {X : Cx} {e : Expr} {ta : TA} {p pos tpos : Pos} {elts : List Expr} {kk : Nat} (hg : Gl X "enumerate") (hm : X.mg "enumerate" = none) (ha : PA X [e] ta) (hs : starEach [e] X.env = [(false, eval e X.env)] := by rfl) :
    PI X (.Tuple elts kk tpos) (.Call (.Name "enumerate" p) [e] [] pos) (fun σ H R => ta σ H fun vs H1 => ∃ a xs, vs = [.ref a] ∧ SqT X.K H1 a xs ∧ R (IteT X.K a) H1) := by
  refine ⟨fun pins s σ H R I h => ?_⟩
  refine Call_ (ld_blt I hg hm boot_enumerate (callWith_type1 (thn (ha.run pos pins s σ H _ I h) ?_) hs rfl))
  rintro us s1 ⟨vs, H1, I1, r1, a, xs, rfl, hq, q⟩
  cases r1 with
  | cons r rr =>
    cases rr
    cases r
    obtain ⟨its, rv, p', hz⟩ := I1.tuple hq
    refine call_enumT (show s1.heap.IsTuple a its.toArray from p') fun h' he hit hk => wpAny_pyIter_enum he ?_
    have I2 : Inv X pins σ H1 { s1 with heap := h' } := I1.kept (t' := s1.toks) hk
    refine ⟨s1.heap.objs.size + 1, [s1.heap.objs.size + 1, s1.heap.objs.size], _, _, H1, rfl, I2, turn_enumT a (s1.heap.objs.size + 1) s1.heap.objs.size, ⟨⟨.none, he⟩, hit, Nat.succ_ne_self _⟩, fun b hb => ?_, q⟩
    have hle : s1.heap.objs.size ≤ b := by
      rcases List.mem_cons.mp hb with z | z
      · rw [z]; exact Nat.le_add_right _ _
      · rw [List.mem_singleton.mp z]; exact Nat.le_refl _
    exact I1.fpOk hle (I1.hok.fresh hle)
def dEnumT (t : AD) : ID := fun ρ R => t ρ fun ds => match ds with
  | [.tup ds] => R (enumD 0 ds)
  | _ => False
section
variable {X : Cx} {e : Expr} {at_ : AD} {pos p : Pos}
theorem qi_enumT {elts : List Expr} {kk : Nat} {tpos : Pos} (hg : Gl X "enumerate") (hm : X.mg "enumerate" = none) (ha : QA X [e] at_) (hs : starEach [e] X.env = [(false, eval e X.env)] := by rfl) : QI X WRep (.Tuple elts kk tpos) (.Call (.Name "enumerate" p) [e] [] pos) (dEnumT at_) := ⟨fun G H ρ σ R Q S h po =>
  WI.of (pi_enumT hg hm pa_w hs) (ha.run G H ρ σ _ _ S h fun vs G1 ds s1 k1 r1 q1 => by
    match ds, q1 with
    | [.tup ds], q1 =>
      obtain ⟨x, rfl, a, xs, rfl, hp, rp⟩ := one_of r1
      refine ⟨a, xs, rfl, (hp.mono (S.step s1 k1).hid.same).sq, po _ G1 _ s1 k1 ⟨fun i G2 H2 s h hl => ?_, fun i d G2 H2 s h hd => ?_⟩ q1⟩
      · rw [enumD_len] at hl
        exact ⟨xs, ((hp.mono s).mono h.same).sq, by rw [rp.length]; exact hl⟩
      · rw [enumD_get] at hd
        cases q : ds[i]? with
        | none => rw [q] at hd; cases hd
        | some c =>
          rw [q] at hd
          cases hd
          obtain ⟨v, hv, rv⟩ := rp.get q
          have sq : SqT X.K H2 a xs := ((hp.mono s).mono h.same).sq
          refine ⟨⟨xs, v, sq, hv⟩, fun x H' y => ?_⟩
          obtain ⟨T, w, rfl, n, rfl, y⟩ := y
          have e := y xs sq
          rw [hv] at e
          cases e
          exact pair_ok (a := .int ((0 + i : Nat) : Int)) (x := .int (i : Nat)) h n (by rw [Nat.zero_add]; rfl) (Rep.mono s c v rv))⟩
def dEnumA (t : AD) : ID := fun ρ R => dEnum t ρ R ∨ dEnumT t ρ R
theorem qi_enumA {elts : List Expr} {kk : Nat} {tpos : Pos} (hg : Gl X "enumerate") (hm : X.mg "enumerate" = none) (ha : QA X [e] at_) (hs : starEach [e] X.env = [(false, eval e X.env)] := by rfl) : QI X WRep (.Tuple elts kk tpos) (.Call (.Name "enumerate" p) [e] [] pos) (dEnumA at_) := (qi_enum hg hm ha hs).or (qi_enumT hg hm ha hs)
end
end DL

namespace DL
open PySem PySem.Spec PyProof.Rows
open L2 hiding St

/-! ### a, b = e1, e2 where some of them are new lists -/
def KpH (G H G' H' : Hp) : Prop := ∀ b u, G b = none → H b = some u → G' b = none ∧ H' b = some u
/-- the owned ones among some values -/
def owned : List SL → List V → List Addr
  | .own _ :: xs, .ref p :: vs => p :: owned xs vs
  | _ :: xs, _ :: vs => owned xs vs
  | _, _ => []
def RepS (K : PySem.W.Frag) (H0 G H : Hp) : List SL → List V → Prop
  | [], vs => vs = []
  | .nul :: _, _ => False
  | .val d :: r, vs => ∃ v vr, vs = v :: vr ∧ Rep K G d v ∧ RepS K H0 G H r vr
  | .own ds :: r, vs => ∃ p xs vr, vs = .ref p :: vr ∧ H0 p = none ∧ H p = some (.lst xs) ∧ G p = none ∧ RepAll K G ds xs ∧ p ∉ owned r vr ∧ RepS K H0 G H r vr
theorem owned_new {K : PySem.W.Frag} {H0 G H : Hp} : ∀ {sls : List SL} {vs : List V}, RepS K H0 G H sls vs → ∀ p ∈ owned sls vs, H0 p = none
  | [], vs, h, p, m => by cases h; cases m
  | .nul :: _, vs, h, p, m => h.elim
  | .val d :: r, vs, h, p, m => by
    obtain ⟨v, vr, rfl, _, h⟩ := h
    exact owned_new h p m
  | .own ds :: r, vs, h, p, m => by
    obtain ⟨q, xs, vr, rfl, n, _, _, _, _, h⟩ := h
    rcases List.mem_cons.mp m with z | z
    · rw [z]; exact n
    · exact owned_new h p z
theorem RepS.back {K : PySem.W.Frag} {H0 H1 G H : Hp} (hb : ∀ p, H1 p = none → H0 p = none) : ∀ {sls : List SL} {vs : List V}, RepS K H1 G H sls vs → RepS K H0 G H sls vs
  | [], vs, h => h
  | .nul :: _, vs, h => h
  | .val d :: r, vs, h => by
    obtain ⟨v, vr, e, r1, h⟩ := h
    exact ⟨v, vr, e, r1, h.back hb⟩
  | .own ds :: r, vs, h => by
    obtain ⟨q, xs, vr, e, n, a, b, c, d, h⟩ := h
    exact ⟨q, xs, vr, e, hb q n, a, b, c, d, h.back hb⟩
abbrev PD := Rho → (List SL → Prop) → Prop
structure QP (X : Cx) (es : List Expr) (t : PD) : Prop where
  run : ∀ (G H : Hp) (ρ : Rho) (σ : St) (R : List SL → Prop) (Q : List V → Hp → Prop), Sim X.K G H ρ σ → t ρ R →
    (∀ vs G' H' sls, Same G G' → KpH G H G' H' → Sim X.K G' H' ρ σ → RepS X.K H G' H' sls vs → R sls → Q vs H') → WA X es σ H Q
def pNil : PD := fun _ R => R []
def pVal (t : ED) (u : PD) : PD := fun ρ R => t ρ fun d => u ρ fun r => R (.val d :: r)
def pOwn (t : ID) (u : PD) : PD := fun ρ R => t ρ fun ds => u ρ fun r => R (.own ds :: r)
theorem kph_lay {G H G1 : Hp} (k : Kp G H G1) : KpH G H G1 (lay G H G1) := fun b u a c => ⟨k b u a c, lay_hid a c⟩
theorem KpH.trans {G H G1 H1 G2 H2 : Hp} (a : KpH G H G1 H1) (b : KpH G1 H1 G2 H2) : KpH G H G2 H2 := fun x u g h => b x u (a x u g h).1 (a x u g h).2
theorem lay_new {G H G1 : Hp} (s : Same G G1) {p : Addr} (n : lay G H G1 p = none) : H p = none := by
  obtain ⟨g1, h⟩ := lay_free n
  exact h (s.free g1)
section
variable {X : Cx} {e : Expr} {es : List Expr} {te : ED} {tl : ID} {t : PD} {pos : Pos}
theorem qp_nil : QP X [] pNil := ⟨fun G H ρ σ R Q S h po => WA.of pa_nil (po [] G H [] (Same.refl G) (fun _ _ a c => ⟨a, c⟩) S rfl h)⟩
theorem qp_val (ha : QE X e te) (hr : QP X es t) (hs : starEach (e :: es) X.env = (false, eval e X.env) :: starEach es X.env := by rfl) : QP X (e :: es) (pVal te t) := ⟨fun G H ρ σ R Q S h po =>
  WA.of (pa_cons pe_w pa_w hs) (ha.run G H ρ σ _ _ S h fun v G1 d s1 k1 r1 q1 =>
    hr.run G1 _ ρ σ _ _ (S.step s1 k1) q1 fun vs G2 H2 sls s2 k2 S2 r2 q2 =>
      po (v :: vs) G2 H2 (.val d :: sls) (s1.trans s2) ((kph_lay k1).trans k2) S2 ⟨v, vs, rfl, Rep.mono s2 d v r1, r2.back fun p n => lay_new s1 n⟩ q2)⟩
theorem qp_own (ha : QL X e tl) (hr : QP X es t) (hs : starEach (e :: es) X.env = (false, eval e X.env) :: starEach es X.env := by rfl) : QP X (e :: es) (pOwn tl t) := ⟨fun G H ρ σ R Q S h po =>
  WA.of (pa_cons pe_w pa_w hs) (ha.run G H ρ σ _ _ S h fun p xs ds G1 s1 k1 n r q1 => by
    have S1 := (S.step s1 k1).add (xs := xs) n
    have g1 := (lay_free n).1
    refine hr.run G1 _ ρ σ _ _ S1 q1 fun vs G2 H2 sls s2 k2 S2 r2 q2 => ?_
    obtain ⟨g2, h2⟩ := k2 p _ g1 upd_same
    have hb : ∀ b, upd (lay G H G1) p (.lst xs) b = none → b ≠ p ∧ H b = none := fun b z => by
      have ne : b ≠ p := fun e => by rw [e, upd_same] at z; cases z
      rw [upd_ne ne] at z
      exact ⟨ne, lay_new s1 z⟩
    refine po (.ref p :: vs) G2 H2 (.own ds :: sls) (s1.trans s2) ?_ S2 ⟨p, xs, vs, rfl, lay_new s1 n, h2, g2, RepAll.mono s2 ds xs r, fun m => ?_, r2.back fun b z => (hb b z).2⟩ q2
    · refine (KpH.trans (fun b u a c => ?_) k2 : KpH G H G2 H2)
      have ne : b ≠ p := fun z => by rw [z, lay_new s1 n] at c; cases c
      exact ⟨k1 b u a c, by rw [upd_ne ne]; exact lay_hid a c⟩
    · exact (hb p (owned_new r2 p m)).1 rfl)⟩
end
/-- what goes to a slot -/
def RepO (K : PySem.W.Frag) (G H : Hp) (ρ : Rho) (σ : St) (i : Nat) : SL → V → Prop
  | .nul, _ => False
  | .val d, v => Rep K G d v
  | .own ds, v => ∃ p xs, v = .ref p ∧ H p = some (.lst xs) ∧ G p = none ∧ RepAll K G ds xs ∧ ∀ (k : Nat) (es : List D), k ≠ i → ρ[k]? = some (SL.own es) → σ[k]? ≠ some (some (V.ref p))
theorem Sim.putS {K : PySem.W.Frag} {G H : Hp} {ρ : Rho} {σ : St} {i : Nat} {x : SL} {v : V} (S : Sim K G H ρ σ) (hi : i < ρ.length) (r : RepO K G H ρ σ i x v) : Sim K G H (ρ.set i x) (σ.set i (some v)) := by
  cases x with
  | nul => exact r.elim
  | val d => exact S.put hi r
  | own ds =>
    obtain ⟨p, xs, rfl, hp, gp, rr, ap⟩ := r
    have hσ : i < σ.length := by rw [← S.len]; exact hi
    refine ⟨S.hid, by rw [List.length_set, List.length_set]; exact S.len, fun j e q => ?_, fun j es q => ?_, fun j k es fs p' q1 q2 h1 h2 => ?_⟩
    · rw [get_set hi] at q
      by_cases hj : i = j
      · rw [if_pos hj] at q; cases q
      · rw [if_neg hj] at q
        rw [List.getElem?_set_ne hj]
        exact S.val j e q
    · rw [get_set hi] at q
      by_cases hj : i = j
      · rw [if_pos hj] at q; cases q
        rw [← hj, List.getElem?_set_self hσ]
        exact ⟨p, xs, rfl, hp, gp, rr⟩
      · rw [if_neg hj] at q
        rw [List.getElem?_set_ne hj]
        exact S.own j es q
    · rw [get_set hi] at q1 q2
      by_cases hj : i = j
      · by_cases hk : i = k
        · rw [← hj, ← hk]
        · rw [if_neg hk] at q2
          rw [List.getElem?_set_ne hk] at h2
          rw [← hj, List.getElem?_set_self hσ] at h1
          cases h1
          exact absurd h2 (ap k fs (Ne.symm hk) q2)
      · by_cases hk : i = k
        · rw [if_neg hj] at q1
          rw [List.getElem?_set_ne hj] at h1
          rw [← hk, List.getElem?_set_self hσ] at h2
          cases h2
          exact absurd h1 (ap j es (Ne.symm hj) q1)
        · rw [if_neg hj] at q1; rw [if_neg hk] at q2
          rw [List.getElem?_set_ne hj] at h1
          rw [List.getElem?_set_ne hk] at h2
          exact S.inj j k es fs p' q1 q2 h1 h2
def setAll : List Nat → List SL → Rho → Rho
  | i :: is, x :: xs, ρ => setAll is xs (ρ.set i x)
  | _, _, ρ => ρ
def setAllV : List Nat → List V → St → St
  | i :: is, v :: vs, σ => setAllV is vs (σ.set i (some v))
  | _, _, σ => σ
/-- no slot holds any of these -/
def Apart (ρ : Rho) (σ : St) (ps : List Addr) : Prop := ∀ p ∈ ps, ∀ (k : Nat) (es : List D), ρ[k]? = some (SL.own es) → σ[k]? ≠ some (some (V.ref p))
theorem sim_all {K : PySem.W.Frag} {H0 G H : Hp} : ∀ {is : List Nat} {sls : List SL} {vs : List V} {ρ : Rho} {σ : St}, Sim K G H ρ σ → (∀ i ∈ is, i < ρ.length) → RepS K H0 G H sls vs → Apart ρ σ (owned sls vs) → Sim K G H (setAll is sls ρ) (setAllV is vs σ)
  | [], sls, vs, ρ, σ, S, _, _, _ => S
  | i :: is, [], vs, ρ, σ, S, _, h, _ => by cases h; exact S
  | i :: is, .nul :: _, vs, ρ, σ, S, _, h, _ => h.elim
  | i :: is, .val d :: sls, vs, ρ, σ, S, hl, h, ap => by
    obtain ⟨v, vr, rfl, rv, h⟩ := h
    have hi := hl i List.mem_cons_self
    have hσ : i < σ.length := by rw [← S.len]; exact hi
    show Sim K G H (setAll is sls (ρ.set i (.val d))) (setAllV is vr (σ.set i (some v)))
    refine sim_all (S.put hi rv) (fun j m => by rw [List.length_set]; exact hl j (List.mem_cons_of_mem _ m)) h fun p m k es q => ?_
    rw [get_set hi] at q
    by_cases hk : i = k
    · rw [if_pos hk] at q; cases q
    · rw [if_neg hk] at q
      rw [List.getElem?_set_ne hk]
      exact ap p m k es q
  | i :: is, .own ds :: sls, vs, ρ, σ, S, hl, h, ap => by
    obtain ⟨p0, xs, vr, rfl, n, hp, gp, rr, nm, h⟩ := h
    have hi := hl i List.mem_cons_self
    have hσ : i < σ.length := by rw [← S.len]; exact hi
    have ro : RepO K G H ρ σ i (.own ds) (.ref p0) := ⟨p0, xs, rfl, hp, gp, rr, fun k es _ q => ap p0 List.mem_cons_self k es q⟩
    show Sim K G H (setAll is sls (ρ.set i (.own ds))) (setAllV is vr (σ.set i (some (.ref p0))))
    refine sim_all (S.putS hi ro) (fun j m => by rw [List.length_set]; exact hl j (List.mem_cons_of_mem _ m)) h fun p m k es q => ?_
    rw [get_set hi] at q
    by_cases hk : i = k
    · rw [← hk, List.getElem?_set_self hσ]
      intro z
      cases z
      exact nm m
    · rw [if_neg hk] at q
      rw [List.getElem?_set_ne hk]
      exact ap p (List.mem_cons_of_mem _ m) k es q
def dPar (is : List Nat) (t : PD) : SD := fun E ρ => t ρ fun sls => sls.length = is.length ∧ E.nx (setAll is sls ρ)
theorem reps_len {K : PySem.W.Frag} {H0 G H : Hp} : ∀ {sls : List SL} {vs : List V}, RepS K H0 G H sls vs → vs.length = sls.length
  | [], vs, h => by cases h; rfl
  | .nul :: _, vs, h => h.elim
  | .val d :: r, vs, h => by
    obtain ⟨v, vr, rfl, _, h⟩ := h
    rw [List.length_cons, List.length_cons, reps_len h]
  | .own ds :: r, vs, h => by
    obtain ⟨q, xs, vr, rfl, _, _, _, _, _, h⟩ := h
    rw [List.length_cons, List.length_cons, reps_len h]
theorem apart_new {K : PySem.W.Frag} {G H G' H' : Hp} {ρ : Rho} {σ : St} {sls : List SL} {vs : List V} (S : Sim K G H ρ σ) (r : RepS K H G' H' sls vs) : Apart ρ σ (owned sls vs) := fun p m k es q z => by
  obtain ⟨p', xs, a1, a2, _, _⟩ := S.own k es q
  rw [a1] at z
  cases z
  rw [owned_new r p m] at a2
  cases a2
section
variable {X : Cx} {a b c : Expr} {t : PD} {px py pz pt pos : Pos} {kt k2 : Nat} {pt2 : Pos}
theorem qs_par {i j : Nat} {x y : Str} (hc : X.calm = true) (hN : X.N.Nodup) (ha : QP X [a, b] t) (hi : X.N[i]? = some x := by rfl) (hj : X.N[j]? = some y := by rfl) (hij : i ≠ j := by decide) (hx : X.env.scope.names.lookup x = some .local := by rfl) (hy : X.env.scope.names.lookup y = some .local := by rfl)
    (hw : swappedStores [.Tuple [.Name x px, .Name y py] kt pt] (.Tuple [a, b] k2 pt2) X.env = pure (some [x, y]) := by rfl) (hs : swapsWithSole [.Tuple [.Name x px, .Name y py] kt pt] (.Tuple [a, b] k2 pt2) pos.line X.env = pure false := by rfl) :
    QS X (.Assign [.Tuple [.Name x px, .Name y py] kt pt] (.Tuple [a, b] k2 pt2) pos) (dPar [i, j] t) := ⟨fun G H ρ σ E D S h po pins s I =>
  (WS.of (ps_par hc hN hi hj hij hx hy pa_w hw hs) (ha.run G H ρ σ _ _ S h fun vs G1 H1 sls s1 k1 S1 r1 q1 => by
    have l := (reps_len r1).trans q1.1
    match vs, l with
    | [v, w'], _ =>
      refine ⟨v, w', rfl, po.nx G1 H1 _ _ s1 (sim_all (is := [i, j]) S1 (fun k m => ?_) r1 (apart_new S r1)) q1.2⟩
      rcases List.mem_cons.mp m with z | z
      · rw [z]; exact slot_lt S I hi
      · rw [List.mem_singleton.mp z]; exact slot_lt S I hj)) pins s I⟩
theorem qs_par3 {i j l : Nat} {x y z : Str} (hc : X.calm = true) (hN : X.N.Nodup) (ha : QP X [a, b, c] t) (hi : X.N[i]? = some x := by rfl) (hj : X.N[j]? = some y := by rfl) (hl : X.N[l]? = some z := by rfl) (hij : i ≠ j := by decide) (hil : i ≠ l := by decide) (hjl : j ≠ l := by decide)
    (hx : X.env.scope.names.lookup x = some .local := by rfl) (hy : X.env.scope.names.lookup y = some .local := by rfl) (hz : X.env.scope.names.lookup z = some .local := by rfl)
    (hw : swappedStores [.Tuple [.Name x px, .Name y py, .Name z pz] kt pt] (.Tuple [a, b, c] k2 pt2) X.env = pure (some [x, y, z]) := by rfl) (hs : swapsWithSole [.Tuple [.Name x px, .Name y py, .Name z pz] kt pt] (.Tuple [a, b, c] k2 pt2) pos.line X.env = pure false := by rfl) :
    QS X (.Assign [.Tuple [.Name x px, .Name y py, .Name z pz] kt pt] (.Tuple [a, b, c] k2 pt2) pos) (dPar [i, j, l] t) := ⟨fun G H ρ σ E D S h po pins s I =>
  (WS.of (ps_par3 hc hN hi hj hl hij hil hjl hx hy hz pa_w hw hs) (ha.run G H ρ σ _ _ S h fun vs G1 H1 sls s1 k1 S1 r1 q1 => by
    have len := (reps_len r1).trans q1.1
    match vs, len with
    | [v, w', u], _ =>
      refine ⟨v, w', u, rfl, po.nx G1 H1 _ _ s1 (sim_all (is := [i, j, l]) S1 (fun k m => ?_) r1 (apart_new S r1)) q1.2⟩
      rcases List.mem_cons.mp m with z | z
      · rw [z]; exact slot_lt S I hi
      · rcases List.mem_cons.mp z with z | z
        · rw [z]; exact slot_lt S I hj
        · rw [List.mem_singleton.mp z]; exact slot_lt S I hl)) pins s I⟩
end

/-! ### calls with keywords -/
def pick {α : Type} (is : List Nat) (xs : List α) : List α := is.filterMap fun i => xs[i]?
theorem pick_rep {K : PySem.W.Frag} {G : Hp} {ds : List D} {vs : List V} (r : RepAll K G ds vs) : ∀ is : List Nat, RepAll K G (pick is ds) (pick is vs)
  | [] => rfl
  | i :: is => by
    have ih := pick_rep r is
    unfold pick at ih ⊢
    cases h : ds[i]? with
    | none =>
      have h2 : vs[i]? = none := by
        rw [List.getElem?_eq_none_iff] at h ⊢
        rw [r.length]
        exact h
      rw [List.filterMap_cons, List.filterMap_cons, h, h2]
      exact ih
    | some d =>
      obtain ⟨v, hv, rv⟩ := r.get h
      rw [List.filterMap_cons, List.filterMap_cons, h, hv]
      exact ⟨v, _, rfl, rv, ih⟩
theorem pick_vals {vs : List V} {us : List Value} (r : Vals vs us) : ∀ is : List Nat, Vals (pick is vs) (pick is us)
  | [] => .nil
  | i :: is => by
    have ih := pick_vals r is
    unfold pick at ih ⊢
    cases h : vs[i]? with
    | none =>
      have h2 : us[i]? = none := by
        rw [List.getElem?_eq_none_iff] at h ⊢
        rw [← r.length]
        exact h
      rw [List.filterMap_cons, List.filterMap_cons, h, h2]
      exact ih
    | some d =>
      obtain ⟨v, hv, rv⟩ := r.get h
      rw [List.filterMap_cons, List.filterMap_cons, h, hv]
      exact .cons rv ih
/-- how a call by keywords alone binds -/
def KB0 (K : PySem.W.Frag) (fd : FuncData) (ps ks : List Str) (is : List Nat) : Prop := ∀ (s : Shared) (ws : List Value), K.In s.heap → ws.length = ks.length → BindsTo s fd ⟨[], ks.zip ws⟩ (ps.zip (pick is ws))
structure QK (X : Cx) (kws : List Keyword) (t : AD) : Prop where
  run : ∀ (G H : Hp) (ρ : Rho) (σ : St) (R : List D → Prop) (Q : List V → Hp → Prop), Sim X.K G H ρ σ → t ρ R → PoA X.K G H R Q →
    ∀ (pos : Pos) (pins : List (Addr × Obj)) (s : Shared), Inv X pins σ H s → wpAny (model X.prog X.w) X.A (evalAll ((backToKw pos (keywordEach kws X.env)).map (·.2))) (AP X pins σ Q) X.xe s
section
variable {X : Cx} {e : Expr} {te : ED} {t : AD} {kws : List Keyword} {nm : Option Str} {kpos pos p : Pos}
theorem qk_nil : QK X [] dNil := ⟨fun G H ρ σ R Q S h po pos pins s I => pk_nil.run pos pins s σ H Q I (po.here (vs := []) (ds := []) S.hid rfl h)⟩
theorem qk_cons (ha : QE X e te) (hr : QK X kws t) : QK X (⟨nm, e, kpos⟩ :: kws) (dCons te t) := ⟨fun G H ρ σ R Q S h po pos pins s I => by
  have pr : PK X kws (fun σ H Q => ∀ (pos : Pos) (pins : List (Addr × Obj)) (s : Shared), Inv X pins σ H s → wpAny (model X.prog X.w) X.A (evalAll ((backToKw pos (keywordEach kws X.env)).map (·.2))) (AP X pins σ Q) X.xe s) := ⟨fun pos pins s σ H Q I h => h pos pins s I⟩
  refine (pk_cons pe_w pr).run pos pins s σ H Q I ?_
  refine ha.run G H ρ σ _ _ S h fun v G1 d s1 k1 r1 q1 => ?_
  refine hr.run G1 _ ρ σ _ _ (S.step s1 k1) q1 fun vs G2 ds s2 k2 r2 q2 => ?_
  exact ((po.seq s1 k1).seq s2 k2).here (vs := v :: vs) (ds := d :: ds) ((S.step s1 k1).hid.lay k2) ⟨v, vs, rfl, Rep.mono s2 d v r1, r2⟩ q2⟩
def dCallK (is : List Nat) (n : Nat) (Φ : List D → (D → Prop) → Prop) (t : AD) : ED := fun ρ R => t ρ fun ds => ds.length = n ∧ Φ (pick is ds) R
theorem qe_callK0 {x : Str} {Φ : List D → (D → Prop) → Prop} {k : Nat} {f : Addr} {fd : FuncData} {ps ks : List Str} {is : List Nat} (F : FnOk X.prog X.w X.K X.mg X.base CX0 k f fd ps (spD X.K Φ)) (hr : Room k X.A) (hg : Gl X x) (hm : X.mg x = some (.ref f)) (hk : PySem.W.keepIn X.K (.ref f) = true)
    (hb : KB0 X.K fd ps ks is) (hx : Passes CX0 X E0) (ha : QK X kws t) (hdb : (x == ("__debug__" : Str)) = false := by decide) (hall : (backToKw pos (keywordEach kws X.env)).all (·.1.isSome) = true := by rfl) (hks : (backToKw pos (keywordEach kws X.env)).filterMap (·.1) = ks := by rfl)
    (hpl : ((backTo pos (starEach [] X.env)).any (·.1) || (backToKw pos (keywordEach kws X.env)).any (·.1.isNone)) = false := by rfl) : QE X (.Call (.Name x p) [] kws pos) (dCallK is ks.length Φ t) := ⟨fun G H ρ σ R Q S h po pins s I => by
  refine wpAny_Call_Name_kw (ld_glob I hg hm ?_ hdb)
  refine PySem.W.callWith_KW0 (h₀ := X.base) I.ok.mod.kin hk hall (thn (ha.run G H ρ σ _ (fun zs H1 => zs.length = ks.length ∧ spHid (spD X.K Φ) (pick is zs) H1 Q E0) S h (fun vs G1 ds s1 k1 r1 q1 => ?_) pos pins s I) ?_) hpl
  · refine ⟨by rw [r1.length]; exact q1.1, G1, (S.step s1 k1).hid, pick is ds, R, pick_rep r1 is, q1.2, fun v G2 d s2 r2 q2 k2 => ?_⟩
    exact (po.seq s1 k1) v G2 d s2 k2 r2 q2
  · rintro ws s2 ⟨zs, H2, I2, rz, lz, q2⟩
    refine ⟨I2.kIn, ?_⟩
    rw [hks]
    have F' := DL.FnOk.frame F
    have r2 := pick_vals rz is
    have lw : ws.length = ks.length := by rw [← rz.length]; exact lz
    refine wpAny_call (codeAny_mono (F'.run X.A X.stack s2 H2 ⟨[], ks.zip ws⟩ (pick is ws) (pick is zs) Q E0 hr I2.env0 (hb s2 ws I2.kIn lw) r2 q2) fun r s' hq => ?_)
    cases r with
    | error e => exact hx pins σ H2 s2 e s' I2 hq
    | ok fl =>
      cases fl with
      | ret u => exact I2.after hq
      | next => exact hq.elim
      | brk => exact hq.elim
      | cont => exact hq.elim⟩
end
end DL

namespace DL
open PySem PySem.Spec PyProof.Rows
open L2 hiding St

/-! ### zip of two tuples; further small rules -/
def dZipT (t : AD) : ID := fun ρ R => t ρ fun ds => match ds with
  | [.tup as, .tup bs] => R (zipD as bs)
  | _ => False
section
variable {X : Cx} {e e2 : Expr} {at_ : AD} {pos p : Pos} {te : ED}
theorem qi_zipT {elts : List Expr} {kk : Nat} {tpos : Pos} (hg : Gl X "zip") (hm : X.mg "zip" = none) (ha : QA X [e, e2] at_) (hs : starEach [e, e2] X.env = (false, eval e X.env) :: starEach [e2] X.env := by rfl) (hpl : (backTo pos (starEach [e2] X.env)).any (·.1) = false := by rfl) :
    QI X WRep (.Tuple elts kk tpos) (.Call (.Name "zip" p) [e, e2] [] pos) (dZipT at_) := ⟨fun G H ρ σ R Q S h po =>
  WI.of (RZ.pi_zipA hg hm pa_w hs hpl) (ha.run G H ρ σ _ _ S h fun vs G1 ds s1 k1 r1 q1 => by
    match ds, q1 with
    | [.tup as, .tup bs], q1 =>
      obtain ⟨x, y, rfl, ⟨a, xs, rfl, hp, rp⟩, ⟨b, ys, rfl, hq, rq⟩⟩ := two_of r1
      have sm := (S.step s1 k1).hid.same
      refine ⟨a, b, xs, ys, rfl, .inr ⟨(hp.mono sm).sq, (hq.mono sm).sq, po _ G1 _ s1 k1 ⟨fun i G2 H2 s h hl => ?_, fun i d G2 H2 s h hd => ?_⟩ q1⟩⟩
      · rw [zipD_len] at hl
        refine ⟨xs, ys, ((hp.mono s).mono h.same).sq, ((hq.mono s).mono h.same).sq, ?_⟩
        rw [rp.length, rq.length]
        omega
      · obtain ⟨c, d', e1, e2, rfl⟩ := zipD_get as bs i d hd
        obtain ⟨v, hv, rv⟩ := rp.get e1
        obtain ⟨w, hw, rw'⟩ := rq.get e2
        have sq1 : SqT X.K H2 a xs := ((hp.mono s).mono h.same).sq
        have sq2 : SqT X.K H2 b ys := ((hq.mono s).mono h.same).sq
        refine ⟨⟨xs, ys, v, w, sq1, sq2, hv, hw⟩, fun x H' y => ?_⟩
        obtain ⟨T, x1, x2, rfl, n, rfl, y1, y2⟩ := y
        have e3 := y1 xs sq1
        have e4 := y2 ys sq2
        rw [hv] at e3
        rw [hw] at e4
        cases e3; cases e4
        exact pair_ok h n (Rep.mono s c v rv) (Rep.mono s d' w rw'))⟩
def dZipA (t : AD) : ID := fun ρ R => dZip t ρ R ∨ dZipT t ρ R
theorem qi_zipA {elts : List Expr} {kk : Nat} {tpos : Pos} (hg : Gl X "zip") (hm : X.mg "zip" = none) (ha : QA X [e, e2] at_) (hs : starEach [e, e2] X.env = (false, eval e X.env) :: starEach [e2] X.env := by rfl) (hpl : (backTo pos (starEach [e2] X.env)).any (·.1) = false := by rfl) :
    QI X WRep (.Tuple elts kk tpos) (.Call (.Name "zip" p) [e, e2] [] pos) (dZipA at_) := (qi_zip hg hm ha hs hpl).or (qi_zipT hg hm ha hs hpl)
def dNeg (t : ED) : ED := fun ρ R => t ρ fun d => match d with
  | .int i => R (.int (-i))
  | _ => False
theorem qe_neg (ha : QE X e te) : QE X (.UnaryOp .USub e pos) (dNeg te) := ⟨fun G H ρ σ R Q S h po =>
  W.of (pe_un un_neg pe_w) (ha.run G H ρ σ _ _ S h fun v G1 d s1 k1 r1 q1 => by
    cases d <;> first | exact q1.elim | skip
    case int i => cases r1; exact ⟨i, rfl, (po.seq s1 k1).here (d := .int (-i)) (S.step s1 k1).hid rfl q1⟩)⟩
theorem qs_retN : QS X (.Return none pos) (fun E _ => E.rt .non) := ⟨fun G H ρ σ E D S h po => WS.of ps_retN (po.rt .non G H .non (Same.refl G) S.hid rfl h)⟩
theorem qe_gint {x : Str} {i : Int} (hg : Gl X x) (hm : ∃ t, X.mg x = some (.int i t)) (hd : (x == ("__debug__" : Str)) = false := by decide) : QE X (.Name x pos) (dC (.int i)) := ⟨fun G H ρ σ R Q S h po => by
  obtain ⟨t, hm⟩ := hm
  exact W.of (pe_glob (v := .int i) hg hm ⟨t, rfl⟩ hd) (po.here (d := .int i) S.hid rfl h)⟩
theorem qe_gstr {x : Str} {z : Str} (hg : Gl X x) (hm : ∃ t, X.mg x = some (.str z t)) (hd : (x == ("__debug__" : Str)) = false := by decide) : QE X (.Name x pos) (dC (.str z)) := ⟨fun G H ρ σ R Q S h po => by
  obtain ⟨t, hm⟩ := hm
  exact W.of (pe_glob (v := .str z) hg hm ⟨t, rfl⟩ hd) (po.here (d := .str z) S.hid rfl h)⟩
end
/-! ### a def of the text -/
structure DefAt (K : PySem.W.Frag) (mg : Str → Option Value) (x : Str) (st : Stmt) (ps : List Str) (f : Addr) (fd : FuncData) : Prop where
  fn : Fun K x x st f fd
  mgf : mg x = some (.ref f)
  bd : Binds K fd ps []
theorem hu65 {k : Nat} {A : Around} (r : Room k A) : A.units + 65 < cLine := by
  have := r.un
  omega
end DL

namespace DL
open PySem PySem.Spec PyProof.Rows
open L2 hiding St

/-! ### return [list, 0, 0, seed]: a new bag -/
section
variable {X : Cx} {e : Expr} {t : ID} {pos : Pos}
theorem ints_of {K : PySem.W.Frag} {G : Hp} : ∀ {ns : List Int} {xs : List V}, RepAll K G (ns.map D.int) xs → xs = ns.map V.int
  | [], xs, r => by cases r; rfl
  | n :: ns, xs, r => by
    obtain ⟨x, t, rfl, rx, rt⟩ := r
    cases rx
    rw [ints_of rt]
    rfl
theorem qss_retBag (he : QL X e t) : QSs X [.Return (some e) pos] (fun E ρ => t ρ fun ds => ∃ (ns : List Int) (i x sd : Int), ds = [.lst (ns.map D.int), .int i, .int x, .int sd] ∧ BagOk i x sd ∧ E.rt .bag) := ⟨fun G H ρ σ E D S h po => by
  refine WSs.of (pss_bagNew (pss_one (ps_ret pe_w))) ?_
  refine he.run G H ρ σ _ _ S h fun p xs ds G1 s1 k1 n r q => ?_
  obtain ⟨ns, i, x, sd, rfl, ok, q⟩ := q
  obtain ⟨v0, r0, rfl, ⟨l, ys, rfl, hl, rl⟩, v1, r1, rfl, e1, v2, r2, rfl, e2, v3, r3, rfl, e3, e4⟩ := r
  cases e1; cases e2; cases e3; cases e4
  have ez := ints_of rl
  subst ez
  have g1 := (lay_free n).1
  have np : l ≠ p := fun z => by rw [z, g1] at hl; cases hl
  have kk : Kp G H (upd G1 p (BagO p l)) := k1.upd n
  refine ⟨p, l, i, x, sd, rfl, upd_same, ok, ?_⟩
  rw [upd_upd, lay_upd n]
  refine po.rt (.ref p) (upd G1 p (BagO p l)) _ .bag (s1.trans (same_upd g1)) (S.hid.lay kk) ⟨p, rfl, l, ns, upd_same, ?_⟩ q
  rw [upd_ne np]
  exact hl⟩
end
/-! ### draws: the arithmetic -/
theorem draw_sd {a : Int} : 0 ≤ a % 2147483647 ∧ a % 2147483647 < 2147483647 := ⟨Int.emod_nonneg a (by decide), Int.emod_lt_of_pos a (by decide)⟩
/-- what a draw promises: any number below n -/
def Φdraw : List D → (D → Prop) → Prop := fun ds R => ∃ n : Int, ds = [.bag, .int n] ∧ 0 < n ∧ n < 1073741824 ∧ ∀ r, 0 ≤ r → r < n → R (.int r)
theorem bag_at {H : Hp} {b l : Addr} {i x sd : Int} {K : PySem.W.Frag} : SqL K (upd H b (.lst (bagIts l i x sd))) b (bagIts l i x sd) := SqL.of upd_same
theorem cells_at {K : PySem.W.Frag} {H : Hp} {b l : Addr} {i x sd : Int} {ns : List Int} (hl : H l = some (.lst (ns.map V.int))) (ne : l ≠ b) : SqL K (upd H b (.lst (bagIts l i x sd))) l (ns.map V.int) := SqL.of (by rw [upd_ne ne]; exact hl)
section
variable {P : Program} {w : World} {K : PySem.W.Frag} {mg : Str → Option Value} {base : Heap}
theorem ok_draw {st : Stmt} {f : Addr} {fd : FuncData} {pb pm cell found old : Str} (D0 : DefAt K mg "_law_draw" st [pb, pm] f fd) (sc : FnScope [pb, pm, cell, found, old] [pb, pm] (defScope st)) (bl : mg "len" = none) (bi : mg "int" = none)
    (hb : ∀ (cdv : Value) (A : Around) (outer : List Env) (s : Shared) (H : Hp) (E : XK),
      ∃ t1 t2 t3 : TS, ∃ st1 st2 st3 st4 st5, defBody st = [st1, st2, st3, st4, st5] ∧ PS (cxOf CX0 P w K mg base [pb, pm, cell, found, old] "_law_draw" (defScope st) f cdv A outer s H E).nox st1 t1 ∧ PS (cxOf CX0 P w K mg base [pb, pm, cell, found, old] "_law_draw" (defScope st) f cdv A outer s H E).nox st2 t2 ∧ PSs (cxOf CX0 P w K mg base [pb, pm, cell, found, old] "_law_draw" (defScope st) f cdv A outer s H E).nox [st3, st4, st5] t3 ∧
      (∀ (D : Ends) (H : Hp) (b l : Addr) (n i x sd : Int) (ns : List Int), BagOk i x sd → H l = some (.lst (ns.map V.int)) → l ≠ b → (∀ i x sd c, BagOk i x sd → D.nx [some (.ref b), some (.int n), c, none, none] (upd H b (.lst (bagIts l i x sd)))) → t1 D [some (.ref b), some (.int n), none, none, none] (upd H b (.lst (bagIts l i x sd)))) ∧
      (∀ (D : Ends) (H : Hp) (b l : Addr) (n i x sd : Int) (c : Option V), BagOk i x sd → 0 < n → n < 1073741824 → (D.nx [some (.ref b), some (.int n), c, none, none] (upd H b (.lst (bagIts l i x sd)))) → (∀ i x sd r, BagOk i x sd → 0 ≤ r → r < n → D.rt (.int r) (upd H b (.lst (bagIts l i x sd)))) → t2 D [some (.ref b), some (.int n), c, none, none] (upd H b (.lst (bagIts l i x sd)))) ∧
      (∀ (D : Ends) (H : Hp) (b l : Addr) (n i x sd : Int) (c : Option V), BagOk i x sd → 0 < n → n < 1073741824 → (∀ i x sd r, BagOk i x sd → 0 ≤ r → r < n → D.rt (.int r) (upd H b (.lst (bagIts l i x sd)))) → t3 D [some (.ref b), some (.int n), c, none, none] (upd H b (.lst (bagIts l i x sd))))) :
    FnOk P w K mg base CX0 1 f fd [pb, pm] (spD K Φdraw) := by
  refine D0.fn.ok sc (fun vs H Q E h => ?_) (fun cdv A outer s H vs Q E hr h => ?_)
  · obtain ⟨ds, R, r, ⟨n, rfl, _⟩, _⟩ := h
    rw [r.length]
    rfl
  · obtain ⟨ds, R, r, ⟨n, rfl, n0, n1, q⟩, po⟩ := h
    obtain ⟨v0, v1, rfl, ⟨b, rfl, l, ns, hB, hl⟩, e1⟩ := two_of r
    cases e1
    obtain ⟨t1, t2, t3, st1, st2, st3, st4, st5, eb, p1, p2, p3, q1, q2, q3⟩ := hb cdv A outer s H E
    have ne : l ≠ b := fun z => by
      rw [z, hB] at hl
      exact absurd (Option.some.inj hl) (fun y => nomatch y)
    have pw := pss_bag (pss_cons p1 (pss_cons p2 p3))
    rw [← eb] at pw
    refine ⟨_, pw, b, l, hB, fun i x sd ok => ?_⟩
    have fin : ∀ i x sd r, BagOk i x sd → 0 ≤ r → r < n → ∃ i' x' sd', upd H b (.lst (bagIts l i x sd)) b = some (.lst (bagIts l i' x' sd')) ∧ BagOk i' x' sd' ∧ Q (.int r) (upd (upd H b (.lst (bagIts l i x sd))) b (BagO b l)) := fun i x sd r ok r0 r1 => by
      refine ⟨i, x, sd, upd_same, ok, ?_⟩
      have e : upd (upd H b (.lst (bagIts l i x sd))) b (BagO b l) = H := by
        rw [upd_upd]
        funext c
        by_cases hc : c = b
        · rw [hc, upd_same, hB]
        · rw [upd_ne hc]
      rw [e]
      exact po (.int r) H (.int r) (Same.refl H) rfl (q r r0 r1)
    refine q1 _ H b l n i x sd ns ok hl ne fun i x sd c ok => ?_
    refine q2 _ H b l n i x sd c ok n0 n1 ?_ fin
    exact q3 _ H b l n i x sd c ok n0 n1 fin
end
end DL

namespace DL
open PySem PySem.Spec PyProof.Rows
open L2 hiding St

/-! ### loops by induction -/
theorem dfor_ind {g : GD} {tb : SD} {E : EndsD} (I : List D → Rho → Prop) (fin : ∀ ρ, I [] ρ → E.nx ρ)
    (step : ∀ d ds ρ, I (d :: ds) ρ → (∀ ρ', I ds ρ' → dForGo g tb E ds ρ') → g d ρ fun ρ1 => tb { nx := dForGo g tb E ds, ct := dForGo g tb E ds, bk := E.nx, rt := E.rt } ρ1) : ∀ (ds : List D) (ρ : Rho), I ds ρ → dForGo g tb E ds ρ
  | [], ρ, h => fin ρ h
  | d :: ds, ρ, h => step d ds ρ h fun ρ' h' => dfor_ind I fin step ds ρ' h'
theorem dlc_ind {ρ : Rho} {g : GD} {tt : TD} {te : ED} {R : List D → Prop} (I : List D → List D → Prop) (fin : ∀ acc, I [] acc → R acc)
    (step : ∀ d ds acc, I (d :: ds) acc → (∀ acc', I ds acc' → dLcGo ρ g tt te R ds acc') → g d ρ fun ρ1 => tt ρ1 fun b => if b = true then te ρ1 fun y => dLcGo ρ g tt te R ds (acc ++ [y]) else dLcGo ρ g tt te R ds acc) : ∀ (ds acc : List D), I ds acc → dLcGo ρ g tt te R ds acc
  | [], acc, h => fin acc h
  | d :: ds, acc, h => step d ds acc h fun acc' h' => dlc_ind I fin step ds acc' h'
/-- a comprehension without ifs whose turn gives f of the item -/
theorem dlc_map {ρ : Rho} {g : GD} {te : ED} {R : List D → Prop} (f : D → D) (ds : List D) (step : ∀ d, d ∈ ds → ∀ k : D → Prop, k (f d) → g d ρ fun ρ1 => te ρ1 k) (h : R (ds.map f)) : dLcGo ρ g dYes te R ds [] := by
  have gen : ∀ (l acc : List D), (∀ d, d ∈ l → ∀ k : D → Prop, k (f d) → g d ρ fun ρ1 => te ρ1 k) → R (acc ++ l.map f) → dLcGo ρ g dYes te R l acc := by
    intro l
    induction l with
    | nil => intro acc _ h; rw [List.map_nil, List.append_nil] at h; exact h
    | cons d l ih =>
      intro acc st h
      refine st d List.mem_cons_self _ ?_
      refine ih (acc ++ [f d]) (fun e m => st e (List.mem_cons_of_mem _ m)) ?_
      rw [List.append_assoc]
      exact h
  exact gen ds [] step h
/-- the same, the items being the data of some things -/
theorem dlc_maps {α : Type} {ρ : Rho} {g : GD} {te : ED} {R : List D → Prop} (enc f : α → D) (l : List α) (step : ∀ a, a ∈ l → ∀ k : D → Prop, k (f a) → g (enc a) ρ fun ρ1 => te ρ1 k) (h : R (l.map f)) : dLcGo ρ g dYes te R (l.map enc) [] := by
  have gen : ∀ (l : List α) (acc : List D), (∀ a, a ∈ l → ∀ k : D → Prop, k (f a) → g (enc a) ρ fun ρ1 => te ρ1 k) → R (acc ++ l.map f) → dLcGo ρ g dYes te R (l.map enc) acc := by
    intro l
    induction l with
    | nil => intro acc _ h; rw [List.map_nil, List.append_nil] at h; exact h
    | cons d l ih =>
      intro acc st h
      refine st d List.mem_cons_self _ ?_
      refine ih (acc ++ [f d]) (fun e m => st e (List.mem_cons_of_mem _ m)) ?_
      rw [List.append_assoc]
      exact h
  exact gen l [] step h
theorem bools_map {α : Type} (f : α → Bool) : ∀ l : List α, bools (l.map fun a => D.bl (f a)) = some (l.map f)
  | [] => rfl
  | a :: l => by rw [List.map_cons, bools, bools_map f l]; rfl
theorem all_map {α : Type} (f : α → Bool) (l : List α) : (l.map f).all id = l.all f := by
  rw [List.all_map]; rfl
theorem ixN_nat {n j : Nat} (h : j < n) : ixN n (j : Int) = some j := by
  unfold ixN
  rw [if_pos (Int.natCast_nonneg j), if_pos (Int.ofNat_lt.mpr h), Int.toNat_natCast]
theorem small {n : Nat} (h : n ≤ 1000000) : n ≤ sizeLine := Nat.le_trans h (by rw [sizeLine_eq]; decide)
theorem small' {n : Nat} (h : n < 1000000) : n < sizeLine := Nat.lt_of_lt_of_le h (by rw [sizeLine_eq]; decide)
end DL

namespace DL
open PySem PySem.Spec PyProof.Rows
open L2 hiding St
/-- a datum of texts, numbers, lists and tuples, at most so deep -/
def okD : Nat → D → Prop
  | _, .non => True
  | _, .bl _ => True
  | _, .int _ => True
  | _, .str x => (PyData.str x).canLay0 = true
  | n + 1, .lst ds => ∀ d ∈ ds, okD n d
  | n + 1, .tup ds => ∀ d ∈ ds, okD n d
  | _, _ => False
theorem okD_fit : ∀ (n : Nat) (d : D), okD n d → pure? d = true ∧ (py d).canLay0 = true ∧ (py d).depth ≤ n := by
  intro n
  have rows : ∀ m, (∀ d, okD m d → pure? d = true ∧ (py d).canLay0 = true ∧ (py d).depth ≤ m) → ∀ ds : List D, (∀ d ∈ ds, okD m d) → pureAll ds = true ∧ PyData.canLayAll0 (pyAll ds) = true ∧ PyData.depthAll (pyAll ds) ≤ m := by
    intro m ih ds
    induction ds with
    | nil => intro _; exact ⟨rfl, rfl, Nat.zero_le _⟩
    | cons d ds ihd =>
      intro h
      obtain ⟨a, b, c⟩ := ih d (h d List.mem_cons_self)
      obtain ⟨a', b', c'⟩ := ihd fun e m => h e (List.mem_cons_of_mem _ m)
      refine ⟨by rw [pureAll, a, a']; rfl, by rw [pyAll, PyData.canLayAll0, b, b']; rfl, ?_⟩
      rw [pyAll, PyData.depthAll]
      exact Nat.max_le.mpr ⟨c, c'⟩
  induction n with
  | zero =>
    intro d h
    cases d with
    | non => exact ⟨rfl, rfl, Nat.zero_le _⟩
    | bl b => exact ⟨rfl, rfl, Nat.zero_le _⟩
    | int b => exact ⟨rfl, rfl, Nat.zero_le _⟩
    | str b => exact ⟨rfl, h, Nat.zero_le _⟩
    | _ => exact h.elim
  | succ n ih =>
    intro d h
    cases d with
    | non => exact ⟨rfl, rfl, Nat.zero_le _⟩
    | bl b => exact ⟨rfl, rfl, Nat.zero_le _⟩
    | int b => exact ⟨rfl, rfl, Nat.zero_le _⟩
    | str b => exact ⟨rfl, h, Nat.zero_le _⟩
    | lst ds =>
      obtain ⟨a, b, c⟩ := rows n ih ds h
      exact ⟨by rw [pure?]; exact a, by rw [py, PyData.canLay0]; exact b, by rw [py, PyData.depth]; omega⟩
    | tup ds =>
      obtain ⟨a, b, c⟩ := rows n ih ds h
      exact ⟨by rw [pure?]; exact a, by rw [py, PyData.canLay0]; exact b, by rw [py, PyData.depth]; omega⟩
    | _ => exact h.elim
theorem okD.fit {n : Nat} {d : D} (h : okD n d) (hn : n ≤ 64) : fit d = true := by
  obtain ⟨a, b, c⟩ := okD_fit n d h
  unfold DL.fit SeqAt.shaped
  rw [a, b, decide_eq_true (by omega : (py d).depth ≤ 64)]
  rfl
theorem okD.refl {n : Nat} {d : D} (h : okD n d) : eqD d d = true := SeqAt.eqv_refl _ (okD_fit n d h).2.1
end DL

namespace DL
open PySem PySem.Spec PyProof.Rows
open L2 hiding St
section
variable {X : Cx} {pos : Pos}
/-- a datum that the top has written -/
def GD0 (K : PySem.W.Frag) (mg : Str → Option Value) (x : Str) (d : D) : Prop := ∃ (u : Value) (v : V), mg x = some u ∧ RelV v u ∧ Rep K (fun _ => none) d v
theorem qe_gdata {x : Str} {d : D} (hg : Gl X x) (hm : GD0 X.K X.mg x d) (hd : (x == ("__debug__" : Str)) = false := by decide) : QE X (.Name x pos) (dC d) := ⟨fun G H ρ σ R Q S h po => by
  obtain ⟨u, v, hm, hr, r⟩ := hm
  exact W.of (pe_glob (v := v) hg hm hr hd) (po.here (d := d) S.hid (Rep.mono (fun _ _ e => by cases e) d v r) h)⟩
/-- a written tuple of flat things -/
theorem gd_tup {K : PySem.W.Frag} {h : Heap} {mg : Str → Option Value} {x : Str} {a : Addr} {its : Array Value} {n : Nat} {sl : Array (Option Value)} {ds : List D} {xs : List V} (X : K.In h) (G : h.Ns mainGlobals mg) (hx : PySem.W.nsIn K mainGlobals x = some (some (.ref a)))
    (l : K.lookup a = some ⟨.type "tuple", none, .seq its n, sl⟩) (hz : its.size ≤ 1000) (hv : Vals xs its.toList) (hd : RepAll K (fun _ => none) ds xs) : GD0 K mg x (.tup ds) :=
  ⟨.ref a, .ref a, PySem.W.mg_of X G hx, rfl, a, xs, rfl, .inr ⟨_, its, n, l, rfl, rfl, rfl, small (by omega), hv⟩, hd⟩
end
end DL

namespace LW
open PySem PySem.Spec PyProof.Rows DL
open L2 hiding St

/-! ### fields, tests, steps, cases as plain data -/
def items? : D → Option (List D)
  | .lst ds => some ds
  | .tup ds => some ds
  | _ => none
abbrev Fld := Str × List Str
abbrev Tst := Str × Str × Str
abbrev Stp := Str × Str
abbrev Case := List Tst × Option (List Stp)
def eSs (l : List Str) : D := .tup (l.map D.str)
def eFld (f : Fld) : D := .tup [.str f.1, eSs f.2]
def eTst (t : Tst) : D := .tup [.str t.1, .str t.2.1, .str t.2.2]
def eStp (t : Stp) : D := .tup [.str t.1, .str t.2]
def eStps : Option (List Stp) → D
  | none => .non
  | some l => .tup (l.map eStp)
def eCase (c : Case) : D := .tup [.tup (c.1.map eTst), eStps c.2]
def eVal : Option (List Str) → D
  | none => .non
  | some v => eSs v
/-- the first field with that name -/
def look : List Fld → Nat → Str → Option (Nat × List Str)
  | [], _, _ => none
  | f :: fs, i, n => if f.1 = n then some (i, f.2) else look fs (i + 1) n
/-- the first place of a text -/
def ix : List Str → Str → Nat
  | [], _ => 0
  | x :: xs, z => if x = z then 0 else ix xs z + 1
theorem ix_get : ∀ {xs : List Str} {z : Str}, z ∈ xs → xs[ix xs z]? = some z
  | [], z, h => by cases h
  | x :: xs, z, h => by
    unfold ix
    by_cases e : x = z
    · rw [if_pos e, e]; rfl
    · rw [if_neg e, List.getElem?_cons_succ]
      exact ix_get ((List.mem_cons.mp h).resolve_left fun q => e q.symm)
theorem ix_first : ∀ {xs : List Str} {z : Str} {m : Nat}, m < ix xs z → xs[m]? ≠ some z
  | [], z, m, h => by cases h
  | x :: xs, z, m, h => by
    unfold ix at h
    by_cases e : x = z
    · rw [if_pos e] at h; cases h
    · rw [if_neg e] at h
      cases m with
      | zero => intro q; exact e (Option.some.inj q)
      | succ m => rw [List.getElem?_cons_succ]; exact ix_first (by omega)
theorem ix_lt {xs : List Str} {z : Str} (h : z ∈ xs) : ix xs z < xs.length := (List.getElem?_eq_some_iff.mp (ix_get h)).1
def holdM (sign : Str) (here there : Nat) : Bool :=
  if sign = "=" then decide (here = there) else if sign = "!" then !decide (here = there) else if sign = "<" then decide (here < there) else decide (there < here)
def testM (F : List Fld) (t : Tst) (v : List Str) : Bool := match look F 0 t.1 with
  | some (i, o) => holdM t.2.1 (ix o (v.getD i "")) (ix o t.2.2)
  | none => false
def nextM (o : List Str) (z : Str) : Str := o.getD (min (ix o z + 1) (o.length - 1)) ""
def stepM (F : List Fld) (v : List Str) (s : Stp) : List Str := match look F 0 s.1 with
  | some (i, o) => v.set i (if s.2 = "+" then nextM o (v.getD i "") else s.2)
  | none => v
def applyM (F : List Fld) : List Case → List Str → Option (List Str)
  | [], _ => none
  | c :: cs, v => if c.1.all (fun t => testM F t v) = true then c.2.map (fun l => l.foldl (stepM F) v) else applyM F cs v
def okTst (F : List Fld) (t : Tst) : Prop := t.2.1 ∈ (["=", "!", "<", ">"] : List Str) ∧ ∃ i o, look F 0 t.1 = some (i, o) ∧ t.2.2 ∈ o
def okStp (F : List Fld) (s : Stp) : Prop := ∃ i o, look F 0 s.1 = some (i, o) ∧ (s.2 = "+" ∨ s.2 ∈ o)
def okCase (F : List Fld) (c : Case) : Prop := c.1.length ≤ 1000 ∧ (∀ t ∈ c.1, okTst F t) ∧ ∀ l, c.2 = some l → ∀ s ∈ l, okStp F s
def okV (F : List Fld) (v : List Str) : Prop := v.length ≤ 1000 ∧ ∀ n i o, look F 0 n = some (i, o) → ∃ z, v[i]? = some z ∧ z ∈ o
theorem getD_of {v : List Str} {i : Nat} {z : Str} (h : v[i]? = some z) (d : Str) : v.getD i d = z := by
  rw [List.getD_eq_getElem?_getD, h]; rfl
theorem next_mem {o : List Str} {z : Str} (h : z ∈ o) : nextM o z ∈ o ∧ o[min (ix o z + 1) (o.length - 1)]? = some (nextM o z) := by
  have hl := ix_lt h
  have hm : min (ix o z + 1) (o.length - 1) < o.length := by omega
  have e : o[min (ix o z + 1) (o.length - 1)]? = some (nextM o z) := by
    unfold nextM
    rw [List.getElem?_eq_getElem hm, getD_of (List.getElem?_eq_getElem hm)]
  exact ⟨List.mem_of_getElem? e, e⟩
theorem look_inj {F : List Fld} {k : Nat} {n m : Str} {i : Nat} {o p : List Str} (h1 : look F k n = some (i, o)) (h2 : look F k m = some (i, p)) : o = p := by
  induction F generalizing k with
  | nil => cases h1
  | cons f fs ih =>
    have low : ∀ {n : Str} {j : Nat} {q : List Str} {k : Nat}, look fs k n = some (j, q) → k ≤ j := by
      intro n j q k h
      clear ih h1 h2
      induction fs generalizing k with
      | nil => cases h
      | cons g gs ih =>
        unfold look at h
        by_cases e : g.1 = n
        · rw [if_pos e] at h; cases h; exact Nat.le_refl _
        · rw [if_neg e] at h; exact Nat.le_trans (Nat.le_succ _) (ih h)
    unfold look at h1 h2
    by_cases e1 : f.1 = n
    · rw [if_pos e1] at h1
      cases h1
      by_cases e2 : f.1 = m
      · rw [if_pos e2] at h2; cases h2; rfl
      · rw [if_neg e2] at h2
        have := low h2
        omega
    · rw [if_neg e1] at h1
      by_cases e2 : f.1 = m
      · rw [if_pos e2] at h2; cases h2
        have := low h1
        omega
      · rw [if_neg e2] at h2
        exact ih h1 h2
theorem step_ok {F : List Fld} {v : List Str} {s : Stp} (hv : okV F v) (hs : okStp F s) : okV F (stepM F v s) := by
  obtain ⟨i, o, e, h⟩ := hs
  obtain ⟨z, hz, mz⟩ := hv.2 _ i o e
  have es : stepM F v s = v.set i (if s.2 = "+" then nextM o (v.getD i "") else s.2) := by unfold stepM; rw [e]
  rw [es]
  refine ⟨by rw [List.length_set]; exact hv.1, fun n j p hn => ?_⟩
  obtain ⟨y, hy, my⟩ := hv.2 n j p hn
  have hi : i < v.length := (List.getElem?_eq_some_iff.mp hz).1
  by_cases hij : i = j
  · subst hij
    have ep := look_inj e hn
    subst ep
    refine ⟨_, List.getElem?_set_self hi, ?_⟩
    by_cases e2 : s.2 = "+"
    · rw [if_pos e2, getD_of hz]; exact (next_mem mz).1
    · rw [if_neg e2]; exact h.resolve_left e2
  · exact ⟨y, by rw [List.getElem?_set_ne hij]; exact hy, my⟩
theorem look_get {F : List Fld} {n : Str} {i : Nat} {o : List Str} {k : Nat} (h : look F k n = some (i, o)) : n ∈ F.map (·.1) ∧ i = k + ix (F.map (·.1)) n ∧ ∃ f, F[i - k]? = some f ∧ f.1 = n ∧ f.2 = o := by
  induction F generalizing k with
  | nil => cases h
  | cons f fs ih =>
    unfold look at h
    by_cases e : f.1 = n
    · rw [if_pos e] at h
      cases h
      refine ⟨by rw [List.map_cons, e]; exact List.mem_cons_self, ?_, f, by rw [Nat.sub_self]; rfl, e, rfl⟩
      rw [List.map_cons, ix, if_pos e, Nat.add_zero]
    · rw [if_neg e] at h
      obtain ⟨h1, h2, g, h3, h4, h5⟩ := ih h
      refine ⟨List.mem_cons_of_mem _ h1, ?_, g, ?_, h4, h5⟩
      · rw [List.map_cons, ix, if_neg e]; omega
      · rw [show i - k = (i - (k + 1)) + 1 by omega, List.getElem?_cons_succ]; exact h3
theorem hold_eq (a b : Nat) : holdM "=" a b = decide (a = b) := by unfold holdM; rw [if_pos rfl]
theorem hold_ne (a b : Nat) : holdM "!" a b = !decide (a = b) := by unfold holdM; rw [if_neg (by decide +kernel), if_pos rfl]
theorem hold_lt (a b : Nat) : holdM "<" a b = decide (a < b) := by unfold holdM; rw [if_neg (by decide +kernel), if_neg (by decide +kernel), if_pos rfl]
theorem hold_gt (a b : Nat) : holdM ">" a b = decide (b < a) := by unfold holdM; rw [if_neg (by decide +kernel), if_neg (by decide +kernel), if_neg (by decide +kernel)]
theorem sg_in1 : (false ^^ inV (V.str "=") [V.str "=", V.str "!"]) = true := by decide +kernel
theorem sg_in2 : (false ^^ inV (V.str "!") [V.str "=", V.str "!"]) = true := by decide +kernel
theorem sg_in3 : (false ^^ inV (V.str "<") [V.str "=", V.str "!"]) = false := by decide +kernel
theorem sg_in4 : (false ^^ inV (V.str ">") [V.str "=", V.str "!"]) = false := by decide +kernel
theorem sg_e1 : decide (("=" : Str) = "=") = true := by decide +kernel
theorem sg_e2 : decide (("!" : Str) = "=") = false := by decide +kernel
theorem sg_e3 : decide (("<" : Str) = "<") = true := by decide +kernel
theorem sg_e4 : decide ((">" : Str) = "<") = false := by decide +kernel
end LW

namespace LW
open PySem PySem.Spec PyProof.Rows DL
open L2 hiding St

/-! ### all values -/
def valStep (acc : List (List Str)) (f : Fld) : List (List Str) := acc.flatMap fun v => f.2.map fun o => v ++ [o]
def valsM (F : List Fld) : List (List Str) := F.foldl valStep [[]]
theorem vals_mem : ∀ (F : List Fld) (acc : List (List Str)) (v : List Str), v ∈ F.foldl valStep acc → ∃ u ∈ acc, ∃ w, v = u ++ w ∧ w.length = F.length ∧ ∀ (i : Nat) (f : Fld), F[i]? = some f → ∃ z, w[i]? = some z ∧ z ∈ f.2
  | [], acc, v, h => ⟨v, h, [], by rw [List.append_nil], rfl, fun i f e => by simp at e⟩
  | f :: F, acc, v, h => by
    obtain ⟨u, hu, w, rfl, hl, hw⟩ := vals_mem F (valStep acc f) v h
    unfold valStep at hu
    rw [List.mem_flatMap] at hu
    obtain ⟨u0, hu0, hu⟩ := hu
    rw [List.mem_map] at hu
    obtain ⟨o, ho, rfl⟩ := hu
    refine ⟨u0, hu0, o :: w, by rw [List.append_assoc]; rfl, by rw [List.length_cons, List.length_cons, hl], fun i g e => ?_⟩
    cases i with
    | zero => cases e; exact ⟨o, rfl, ho⟩
    | succ i => exact hw i g (by simpa using e)
theorem vals_ok {F : List Fld} (hF : F.length ≤ 1000) {v : List Str} (h : v ∈ valsM F) : okV F v ∧ v.length = F.length := by
  obtain ⟨u, hu, w, rfl, hl, hw⟩ := vals_mem F [[]] v h
  have e : u = [] := by simpa using hu
  subst e
  refine ⟨⟨by rw [List.nil_append, hl]; exact hF, fun n i o hn => ?_⟩, by rw [List.nil_append]; exact hl⟩
  obtain ⟨_, _, f, hf, _, fo⟩ := look_get hn
  rw [Nat.sub_zero] at hf
  subst fo
  exact hw i f hf
theorem vals_len (f : Fld) (acc : List (List Str)) : (valStep acc f).length = acc.length * f.2.length := by
  unfold valStep
  induction acc with
  | nil => simp
  | cons v acc ih => rw [List.flatMap_cons, List.length_append, ih, List.length_map, List.length_cons, Nat.add_mul, Nat.one_mul, Nat.add_comm]
/-! ### words -/
def letters : Str := "abcdefghijklmnopqrstuvwxyz"
theorem letter_at : ∀ i : Nat, i < 26 → letters.cps.toList[i]? = some (97 + i) := by decide +kernel
def wordM (tl : Str) (a : Nat) (s k : Nat) : Str := cutS tl none (some (a : Int)) ++ ⟨#[97 + (s + 5 * k) % 26]⟩ ++ cutS tl (some (a : Int)) none
def wordsM (tl : Str) (a s n : Nat) : List Str := (List.range n).map (wordM tl a s)
def tails : List Str := ["", "a", "qq", "xyz", "mmmmmmm"]
theorem app_cps (x y : Str) : (x ++ y).cps.toList = x.cps.toList ++ y.cps.toList := by
  show (x.cps ++ y.cps).toList = _
  exact Array.toList_append
theorem word_cps (tl : Str) (a s k : Nat) : (wordM tl a s k).cps.toList = (cutS tl none (some (a : Int))).cps.toList ++ (97 + (s + 5 * k) % 26) :: (cutS tl (some (a : Int)) none).cps.toList := by
  unfold wordM
  rw [app_cps, app_cps, List.append_assoc]
  rfl
theorem word_inj {tl : Str} {a s k j : Nat} (h : wordM tl a s k = wordM tl a s j) : (s + 5 * k) % 26 = (s + 5 * j) % 26 := by
  have e := congrArg (fun x : Str => x.cps.toList) h
  simp only [word_cps] at e
  have e2 := List.append_cancel_left e
  have e3 := (List.cons.inj e2).1
  omega
theorem words_nodup (tl : Str) (a s : Nat) {n : Nat} (hn : n ≤ 26) : (wordsM tl a s n).Nodup := by
  unfold wordsM
  rw [List.nodup_iff_pairwise_ne, List.pairwise_map]
  refine List.Pairwise.imp_of_mem ?_ (List.nodup_iff_pairwise_ne.mp List.nodup_range)
  intro x y hx hy ne e
  have h1 := List.mem_range.mp hx
  have h2 := List.mem_range.mp hy
  have h3 := word_inj e
  omega
theorem tails_len : ∀ t ∈ tails, t.length ≤ 7 := by decide +kernel
theorem tails_ok : ∀ t ∈ tails, ∀ c ∈ t.cps.toList, 97 ≤ c ∧ c ≤ 122 := by decide +kernel
/-- a text of 1 to 8 small letters -/
def isWord (x : Str) : Prop := 1 ≤ x.length ∧ x.length ≤ 8 ∧ ∀ c ∈ x.cps.toList, 97 ≤ c ∧ c ≤ 122
theorem cut_lo (tl : Str) {a : Nat} (h : a ≤ tl.length) : (cutS tl none (some (a : Int))).cps.toList = tl.cps.toList.take a := by
  unfold cutS
  rw [HT.sIx_none, HT.sIx_nat, Nat.min_eq_left h, Nat.sub_zero, List.drop_zero]
theorem len_cps (x : Str) : x.length = x.cps.toList.length := by
  show x.cps.size = _
  exact Array.length_toList.symm
theorem cut_hi (tl : Str) {a : Nat} (h : a ≤ tl.length) : (cutS tl (some (a : Int)) none).cps.toList = tl.cps.toList.drop a := by
  unfold cutS
  rw [HT.sIx_none, HT.sIx_nat, Nat.min_eq_left h]
  show List.take (tl.length - a) (List.drop a tl.cps.toList) = _
  refine List.take_of_length_le ?_
  rw [List.length_drop, len_cps]
  exact Nat.le_refl _
theorem word_ok {tl : Str} (ht : tl ∈ tails) {a : Nat} (ha : a ≤ tl.length) (s k : Nat) : isWord (wordM tl a s k) := by
  have h7 := tails_len tl ht
  have hc := word_cps tl a s k
  rw [cut_lo tl ha, cut_hi tl ha] at hc
  have hl : (wordM tl a s k).length = tl.length + 1 := by
    rw [len_cps, hc, List.length_append, List.length_cons, List.length_take, List.length_drop, ← len_cps]
    omega
  refine ⟨by omega, by omega, fun c m => ?_⟩
  rw [hc, List.mem_append, List.mem_cons] at m
  rcases m with m | m | m
  · exact tails_ok tl ht c (List.mem_of_mem_take m)
  · omega
  · exact tails_ok tl ht c (List.mem_of_mem_drop m)
/-! ### options -/
def pool : List Str := ["0", "1", "2", "10", "a", "b", "far", "x9", "zzzzzzzz", "7up"]
theorem pool_nodup : pool.Nodup := by decide +kernel
theorem perm_back {α β : Type} (f : α → β) {ys zs : List β} (h : ys.Perm zs) : ∀ l : List α, zs = l.map f → ∃ m : List α, ys = m.map f ∧ m.Perm l := by
  induction h with
  | nil =>
    intro l e
    cases l with
    | nil => exact ⟨[], rfl, .nil⟩
    | cons a l => cases e
  | cons x p ih =>
    intro l e
    cases l with
    | nil => cases e
    | cons a l =>
      obtain ⟨e1, e2⟩ := List.cons.inj e
      obtain ⟨m, rfl, pm⟩ := ih l e2
      exact ⟨a :: m, by rw [e1]; rfl, pm.cons a⟩
  | swap x y l' =>
    intro l e
    match l, e with
    | a :: b :: l, e =>
      obtain ⟨e1, e2⟩ := List.cons.inj e
      obtain ⟨e2, e3⟩ := List.cons.inj e2
      exact ⟨b :: a :: l, by rw [e1, e2, e3]; rfl, .swap a b l⟩
  | trans p q ih1 ih2 =>
    intro l e
    obtain ⟨m, rfl, pm⟩ := ih2 l e
    obtain ⟨m', rfl, pm'⟩ := ih1 m rfl
    exact ⟨m', rfl, pm'.trans pm⟩
/-! ### fields as they are drawn -/
def prodM : List Fld → Nat
  | [] => 1
  | f :: F => f.2.length * prodM F
structure okFld (f : Fld) : Prop where
  nm : isWord f.1
  lo : 2 ≤ f.2.length
  hi : f.2.length ≤ 6
  nd : f.2.Nodup
  pl : ∀ o ∈ f.2, o ∈ pool
structure okFs (F : List Fld) : Prop where
  ne : 0 < F.length
  le : F.length ≤ 3
  nd : (F.map (·.1)).Nodup
  each : ∀ f ∈ F, okFld f
  pr : prodM F ≤ 24
theorem look_of {F : List Fld} (hn : (F.map (·.1)).Nodup) : ∀ {k : Nat} {f : Fld}, f ∈ F → ∃ i, look F k f.1 = some (i, f.2) := by
  induction F with
  | nil => intro k f m; cases m
  | cons g F ih =>
    intro k f m
    rw [List.map_cons, List.nodup_cons] at hn
    unfold look
    rcases List.mem_cons.mp m with e | m
    · subst e
      exact ⟨k, by rw [if_pos rfl]⟩
    · have ne : ¬ g.1 = f.1 := fun z => hn.1 (by rw [z]; exact List.mem_map_of_mem m)
      rw [if_neg ne]
      exact ih hn.2 m
theorem prod_app (F : List Fld) (f : Fld) : prodM (F ++ [f]) = prodM F * f.2.length := by
  induction F with
  | nil => show f.2.length * 1 = 1 * f.2.length; rw [Nat.mul_comm]
  | cons g F ih => show g.2.length * prodM (F ++ [f]) = g.2.length * prodM F * f.2.length; rw [ih, Nat.mul_assoc]
end LW

namespace LW
open PySem PySem.Spec PyProof.Rows DL
open L2 hiding St
/-! ### lines of cases -/
def digits : Str := "0123456789"
def madeM (v signs : Str) : Bool := (decide (1 ≤ v.length) && decide (v.length ≤ 8)) && v.cps.toList.all fun c => decide (c ∈ signs.cps.toList)
def isNm (v : Str) : Bool := madeM v letters
def isOp (v : Str) : Bool := madeM v (letters ++ digits)
def parM (x y : Str) : Str × Str × Str := match TL.par y.cps.toList [] x.cps.toList with
  | some (a, b) => (⟨a.toArray⟩, y, ⟨b.toArray⟩)
  | none => (x, Str.empty, Str.empty)
theorem parM_eq {x y : Str} (hy : TL.tl y ≠ []) : Txt.partition x y = parM x y := TL.partition_par x y hy
def splM (x y : Str) : List Str := (TL.spl y.cps.toList 0 [] x.cps.toList).map fun l => ⟨l.toArray⟩
theorem splM_eq {x y : Str} (hy : TL.tl y ≠ []) (hk : y.cps.all (· < 256) = true) : Txt.split x y = splM x y := by
  refine TL.map_tl_inj ?_
  rw [TL.split_spl x y hy (TL.kind_ok hk)]
  unfold splM
  rw [List.map_map]
  exact (List.map_id _).symm
def signs4 : List Str := ["=", "!", "<", ">"]
def rT1 (w sg : Str) : Option Tst := if (decide (¬ (parM w sg).2.1 = "") && (isNm (parM w sg).1 && isOp (parM w sg).2.2)) = true then some ((parM w sg).1, sg, (parM w sg).2.2) else none
def rTs : List Str → Str → Option Tst
  | [], _ => none
  | s :: ss, w => match rT1 w s with
    | some t => some t
    | none => rTs ss w
def rT (w : Str) : Option Tst := rTs signs4 w
def rS (w : Str) : Option Stp :=
  if (parM w ":").2.1 = "" then (if (decide (cutS w (some (-1)) none = "+") && isNm (cutS w none (some (-1)))) = true then some (cutS w none (some (-1)), "+") else none)
  else if (isNm (parM w ":").1 && isOp (parM w ":").2.2) = true then some ((parM w ":").1, (parM w ":").2.2) else none
def seqO {α : Type} : List (Option α) → Option (List α)
  | [] => some []
  | none :: _ => none
  | some a :: r => (seqO r).map (a :: ·)
def rRight (ts : List Tst) (x : Str) : Option Case :=
  if x = "drop" then some (ts, none) else
    match (if x = "keep" then some [] else seqO ((splM x ", ").map rS)) with
    | none => none
    | some ss => if 6 < ss.length then none else some (ts, some ss)
def rC (l : Str) : Option Case :=
  if Txt.startswith l "when " = true then
    if (parM (cutS l (some 5) none) " do ").2.1 = "" then none else
    match (if (parM (cutS l (some 5) none) " do ").1 = "always" then some [] else seqO ((splM (parM (cutS l (some 5) none) " do ").1 " and ").map rT)) with
    | none => none
    | some ts => if 6 < ts.length then none else rRight ts (parM (cutS l (some 5) none) " do ").2.2
  else none
def tW (t : Tst) : Str := t.1 ++ t.2.1 ++ t.2.2
def sW (s : Stp) : Str := if s.2 = "+" then s.1 ++ "+" else s.1 ++ ":" ++ s.2
def leftM (ts : List Tst) : Str := if ts = [] then "always" else Txt.join " and " (ts.map tW)
def rightM (ss : List Stp) : Str := if ss = [] then "keep" else Txt.join ", " (ss.map sW)
def lineM (c : Case) : Str := match c.2 with
  | none => "when " ++ leftM c.1 ++ " do drop"
  | some ss => "when " ++ leftM c.1 ++ " do " ++ rightM ss
/-! a line that is read is the line of what is read -/
theorem par_eq : ∀ {S acc l a b : List Nat}, TL.par S acc l = some (a, b) → ∃ p, a = acc ++ p ∧ l = p ++ (S ++ b)
  | S, acc, [], a, b, h => by cases h
  | S, acc, c :: r, a, b, h => by
    unfold TL.par at h
    by_cases e : TL.pre S (c :: r) = true
    · rw [if_pos e] at h
      cases h
      refine ⟨[], (List.append_nil _).symm, ?_⟩
      have e2 : (c :: r).take S.length = S := eq_of_beq e
      rw [List.nil_append]
      conv => lhs; rw [← List.take_append_drop S.length (c :: r), e2]
    · rw [if_neg e] at h
      obtain ⟨p, rfl, h2⟩ := par_eq h
      exact ⟨c :: p, by rw [List.append_assoc]; rfl, by rw [h2]; rfl⟩
theorem parM_sum {x y : Str} (h : ¬ (parM x y).2.1 = "") : x = (parM x y).1 ++ y ++ (parM x y).2.2 := by
  unfold parM at h ⊢
  cases e : TL.par y.cps.toList [] x.cps.toList with
  | none => rw [e] at h; exact absurd rfl h
  | some ab =>
    obtain ⟨a, b⟩ := ab
    obtain ⟨p, h1, h2⟩ := par_eq e
    rw [List.nil_append] at h1
    subst h1
    refine TL.ext_tl ?_
    show x.cps.toList = _
    rw [TL.tl_append, TL.tl_append, h2, List.append_assoc]
theorem rT1_eq {w sg : Str} {t : Tst} (h : rT1 w sg = some t) : tW t = w ∧ t.2.1 = sg := by
  unfold rT1 at h
  by_cases e : (decide (¬ (parM w sg).2.1 = "") && (isNm (parM w sg).1 && isOp (parM w sg).2.2)) = true
  · rw [if_pos e] at h
    cases h
    have e1 := of_decide_eq_true (Bool.and_eq_true_iff.mp e).1
    exact ⟨(parM_sum e1).symm, rfl⟩
  · rw [if_neg e] at h; cases h
theorem rTs_eq : ∀ {ss : List Str} {w : Str} {t : Tst}, rTs ss w = some t → tW t = w
  | [], w, t, h => by cases h
  | s :: ss, w, t, h => by
    unfold rTs at h
    cases e : rT1 w s with
    | none => rw [e] at h; exact rTs_eq h
    | some u => rw [e] at h; cases h; exact (rT1_eq e).1
theorem op_ne_plus {x : Str} (h : isOp x = true) : ¬ x = "+" := by
  rintro rfl
  exact absurd h (by decide +kernel)
theorem cut_last {w : Str} (h : cutS w (some (-1)) none = "+") : w = cutS w none (some (-1)) ++ "+" := by
  have hl : w.cps.toList.length = w.length := (len_cps w).symm
  have h2 : TL.tl (cutS w (some (-1)) none) = TL.tl "+" := congrArg TL.tl h
  have e1 : TL.tl (cutS w (some (-1)) none) = w.cps.toList.drop (w.length - 1) := by
    show ((w.cps.toList.drop (if (-1 : Int) < 0 then ((-1 : Int) + (w.length : Int)).toNat else min (-1 : Int).toNat w.length)).take (w.length - (if (-1 : Int) < 0 then ((-1 : Int) + (w.length : Int)).toNat else min (-1 : Int).toNat w.length))) = _
    rw [if_pos (by decide), show ((-1 : Int) + (w.length : Int)).toNat = w.length - 1 by omega]
    exact List.take_of_length_le (by rw [List.length_drop, hl]; omega)
  have e2 : TL.tl (cutS w none (some (-1))) = w.cps.toList.take (w.length - 1) := by
    show ((w.cps.toList.drop 0).take ((if (-1 : Int) < 0 then ((-1 : Int) + (w.length : Int)).toNat else min (-1 : Int).toNat w.length) - 0)) = _
    rw [if_pos (by decide), show ((-1 : Int) + (w.length : Int)).toNat = w.length - 1 by omega, List.drop_zero, Nat.sub_zero]
  refine TL.ext_tl ?_
  rw [TL.tl_append, ← h2, e1, e2]
  exact (List.take_append_drop _ _).symm
theorem rS_eq {w : Str} {s : Stp} (h : rS w = some s) : sW s = w := by
  unfold rS at h
  by_cases e : (parM w ":").2.1 = ""
  · rw [if_pos e] at h
    by_cases e2 : (decide (cutS w (some (-1)) none = "+") && isNm (cutS w none (some (-1)))) = true
    · rw [if_pos e2] at h
      cases h
      have e3 := of_decide_eq_true (Bool.and_eq_true_iff.mp e2).1
      unfold sW
      rw [if_pos rfl]
      exact (cut_last e3).symm
    · rw [if_neg e2] at h; cases h
  · rw [if_neg e] at h
    by_cases e2 : (isNm (parM w ":").1 && isOp (parM w ":").2.2) = true
    · rw [if_pos e2] at h
      cases h
      unfold sW
      rw [if_neg (op_ne_plus (Bool.and_eq_true_iff.mp e2).2)]
      exact (parM_sum e).symm
    · rw [if_neg e2] at h; cases h
theorem seqO_eq {α : Type} {f : Str → Option α} {g : α → Str} (hf : ∀ w a, f w = some a → g a = w) : ∀ {ws : List Str} {as : List α}, seqO (ws.map f) = some as → as.map g = ws
  | [], as, h => by cases h; rfl
  | w :: ws, as, h => by
    rw [List.map_cons] at h
    cases e : f w with
    | none => rw [e] at h; cases h
    | some a =>
      rw [e] at h
      unfold seqO at h
      cases e2 : seqO (ws.map f) with
      | none => rw [e2] at h; cases h
      | some r =>
        rw [e2] at h
        cases h
        rw [List.map_cons, hf w a e, seqO_eq hf e2]
theorem spl_ne (S : List Nat) : ∀ (l : List Nat) (k : Nat) (acc : List Nat), TL.spl S k acc l ≠ []
  | [], k, acc => by rw [TL.spl_nil]; simp
  | c :: r, 0, acc => by
    unfold TL.spl
    by_cases e : TL.pre S (c :: r) = true
    · rw [if_pos e]; simp
    · rw [if_neg e]; exact spl_ne S r 0 _
  | c :: r, k + 1, acc => by unfold TL.spl; exact spl_ne S r k _
theorem left_eq {x : Str} {ts : List Tst} (h : (if x = "always" then some [] else seqO ((splM x " and ").map rT)) = some ts) : leftM ts = x := by
  unfold leftM
  by_cases e : x = "always"
  · rw [if_pos e] at h
    cases h
    rw [if_pos rfl, e]
  · rw [if_neg e] at h
    have hm := seqO_eq (fun w a q => rTs_eq q) h
    have ne : ¬ ts = [] := by
      rintro rfl
      exact spl_ne _ _ _ _ (List.map_eq_nil_iff.mp hm.symm)
    rw [if_neg ne, hm, ← splM_eq (by decide +kernel) (by decide +kernel), TL.join_eq]
    exact StrLaws.join_split x _
theorem right_eq {ts : List Tst} {x : Str} {c : Case} (h : rRight ts x = some c) : c.1 = ts ∧ (match c.2 with | none => x = "drop" | some ss => rightM ss = x) := by
  unfold rRight at h
  by_cases e : x = "drop"
  · rw [if_pos e] at h; cases h; exact ⟨rfl, e⟩
  · rw [if_neg e] at h
    cases e2 : (if x = "keep" then some [] else seqO ((splM x ", ").map rS)) with
    | none => rw [e2] at h; cases h
    | some ss =>
      rw [e2] at h
      have h : (if 6 < ss.length then none else some (ts, some ss)) = some c := h
      by_cases e3 : 6 < ss.length
      · rw [if_pos e3] at h; cases h
      · rw [if_neg e3] at h
        cases h
        refine ⟨rfl, ?_⟩
        show rightM ss = x
        unfold rightM
        by_cases e4 : x = "keep"
        · rw [if_pos e4] at e2
          cases e2
          rw [if_pos rfl, e4]
        · rw [if_neg e4] at e2
          have hm := seqO_eq (fun w a q => rS_eq q) e2
          have ne : ¬ ss = [] := by
            rintro rfl
            exact spl_ne _ _ _ _ (List.map_eq_nil_iff.mp hm.symm)
          rw [if_neg ne, hm, ← splM_eq (by decide +kernel) (by decide +kernel), TL.join_eq]
          exact StrLaws.join_split x _
theorem starts_pre {x y : Str} (hy : TL.tl y ≠ []) : Txt.startswith x y = TL.pre (TL.tl y) (TL.tl x) := by
  have e := TL.at_iff (x := x) hy 0
  rw [List.drop_zero] at e
  cases h : TL.pre (TL.tl y) (TL.tl x) with
  | true =>
    have z := e.mpr h
    unfold Txt.startswith
    rw [decide_eq_true z.1, z.2]; rfl
  | false =>
    cases h2 : Txt.startswith x y with
    | false => rfl
    | true =>
      unfold Txt.startswith at h2
      have z := Bool.and_eq_true_iff.mp h2
      have := e.mp ⟨of_decide_eq_true z.1, z.2⟩
      rw [h] at this
      cases this
theorem cut_from (l : Str) (n : Nat) (h : n ≤ l.length) : (cutS l (some (n : Int)) none).cps.toList = l.cps.toList.drop n := cut_hi l h
theorem starts_cut {l : Str} (h : Txt.startswith l "when " = true) : l = "when " ++ cutS l (some 5) none := by
  rw [starts_pre (by decide +kernel)] at h
  have e : l.cps.toList.take (TL.tl "when ").length = TL.tl "when " := eq_of_beq h
  have e5 : (TL.tl "when ").length = 5 := by decide +kernel
  rw [e5] at e
  have hl : 5 ≤ l.length := by
    have := congrArg List.length e
    rw [List.length_take, e5, ← len_cps] at this
    omega
  refine TL.ext_tl ?_
  rw [TL.tl_append, ← e]
  have := cut_from l 5 hl
  show l.cps.toList = _
  rw [show TL.tl (cutS l (some 5) none) = l.cps.toList.drop 5 from this]
  exact (List.take_append_drop 5 _).symm
theorem app_assoc (a b c : Str) : a ++ b ++ c = a ++ (b ++ c) := TL.ext_tl (by simp only [TL.tl_append, List.append_assoc])
theorem line_none (ts : List Tst) : lineM (ts, none) = "when " ++ leftM ts ++ " do drop" := rfl
theorem line_some (ts : List Tst) (ss : List Stp) : lineM (ts, some ss) = "when " ++ leftM ts ++ " do " ++ rightM ss := rfl
theorem do_drop : (" do drop" : Str) = " do " ++ "drop" := by decide +kernel
theorem line_of_read {l : Str} {c : Case} (h : rC l = some c) : lineM c = l := by
  unfold rC at h
  by_cases e : Txt.startswith l "when " = true
  · rw [if_pos e] at h
    have hl := starts_cut e
    generalize cutS l (some 5) none = x at h hl
    by_cases e2 : (parM x " do ").2.1 = ""
    · rw [if_pos e2] at h; cases h
    · rw [if_neg e2] at h
      have hx := parM_sum e2
      generalize (parM x " do ").1 = a at h hx
      generalize (parM x " do ").2.2 = b at h hx
      cases e3 : (if a = "always" then some [] else seqO ((splM a " and ").map rT)) with
      | none => rw [e3] at h; cases h
      | some ts =>
        rw [e3] at h
        have h : (if 6 < ts.length then none else rRight ts b) = some c := h
        by_cases e4 : 6 < ts.length
        · rw [if_pos e4] at h; cases h
        · rw [if_neg e4] at h
          obtain ⟨h1, h2⟩ := right_eq h
          have h3 := left_eq e3
          obtain ⟨c1, c2⟩ := c
          have h1 : c1 = ts := h1
          rw [hl, hx, ← h3, h1]
          cases c2 with
          | none =>
            have h2 : b = "drop" := h2
            rw [h2, line_none, do_drop, app_assoc, app_assoc]
          | some ss =>
            have h2 : rightM ss = b := h2
            rw [← h2, line_some, app_assoc, app_assoc, app_assoc]
  · rw [if_neg e] at h; cases h
end LW

namespace LW
open PySem PySem.Spec PyProof.Rows DL
open L2 hiding St
/-! ### a case's line is read back -/
structure okT (t : Tst) : Prop where
  nm : isNm t.1 = true
  sg : t.2.1 ∈ signs4
  op : isOp t.2.2 = true
structure okS (s : Stp) : Prop where
  nm : isNm s.1 = true
  op : s.2 = "+" ∨ isOp s.2 = true
structure okC (c : Case) : Prop where
  t6 : c.1.length ≤ 6
  ts : ∀ t ∈ c.1, okT t
  s6 : ∀ l, c.2 = some l → l.length ≤ 6
  ss : ∀ l, c.2 = some l → ∀ s ∈ l, okS s
def low (c : Nat) : Prop := 97 ≤ c ∧ c ≤ 122
def lowd (c : Nat) : Prop := (97 ≤ c ∧ c ≤ 122) ∨ (48 ≤ c ∧ c ≤ 57)
theorem letters_low : ∀ c ∈ letters.cps.toList, 97 ≤ c ∧ c ≤ 122 := by decide +kernel
theorem both_low : ∀ c ∈ (letters ++ digits).cps.toList, (97 ≤ c ∧ c ≤ 122) ∨ (48 ≤ c ∧ c ≤ 57) := by decide +kernel
theorem made_len {v s : Str} (h : madeM v s = true) : 1 ≤ v.length ∧ v.length ≤ 8 := by
  unfold madeM at h
  have h1 := Bool.and_eq_true_iff.mp (Bool.and_eq_true_iff.mp h).1
  exact ⟨of_decide_eq_true h1.1, of_decide_eq_true h1.2⟩
theorem made_mem {v s : Str} (h : madeM v s = true) : ∀ c ∈ v.cps.toList, c ∈ s.cps.toList := by
  unfold madeM at h
  intro c m
  exact of_decide_eq_true (List.all_eq_true.mp (Bool.and_eq_true_iff.mp h).2 c m)
theorem nm_low {v : Str} (h : isNm v = true) : ∀ c ∈ v.cps.toList, 97 ≤ c ∧ c ≤ 122 := fun c m => letters_low c (made_mem h c m)
theorem op_low {v : Str} (h : isOp v = true) : ∀ c ∈ v.cps.toList, (97 ≤ c ∧ c ≤ 122) ∨ (48 ≤ c ∧ c ≤ 57) := fun c m => both_low c (made_mem h c m)
theorem parM_app {y : Str} {s : Nat} {S : List Nat} (ey : TL.tl y = s :: S) {a b : Str} (h : s ∉ TL.tl a) : parM (a ++ y ++ b) y = (a, y, b) := by
  rw [← parM_eq (by rw [ey]; simp)]; exact TL.partition_app ey h
theorem parM_none {y : Str} {s : Nat} {S : List Nat} (ey : TL.tl y = s :: S) {a : Str} (h : s ∉ TL.tl a) : parM a y = (a, Str.empty, Str.empty) := by
  rw [← parM_eq (by rw [ey]; simp)]; exact TL.partition_none ey h
def sgc (s : Str) : Nat := s.cps.toList.headD 0
theorem sg_tl : ∀ s ∈ signs4, TL.tl s = [sgc s] := by decide +kernel
theorem sg_not : ∀ s ∈ signs4, ¬ (97 ≤ sgc s ∧ sgc s ≤ 122) ∧ ¬ (48 ≤ sgc s ∧ sgc s ≤ 57) ∧ sgc s ≠ 32 ∧ ¬ s = "" := by decide +kernel
theorem sg_inj : ∀ s ∈ signs4, ∀ t ∈ signs4, sgc s = sgc t → s = t := by decide +kernel
theorem tl_tW (t : Tst) : TL.tl (tW t) = TL.tl t.1 ++ (TL.tl t.2.1 ++ TL.tl t.2.2) := by
  unfold tW; rw [TL.tl_append, TL.tl_append, List.append_assoc]
theorem rT1_other {t : Tst} (h : okT t) {s : Str} (hs : s ∈ signs4) (ne : ¬ t.2.1 = s) : rT1 (tW t) s = none := by
  have n := sg_not s hs
  have hn : sgc s ∉ TL.tl (tW t) := by
    rw [tl_tW, List.mem_append, List.mem_append, sg_tl _ h.sg]
    rintro (m | m | m)
    · exact n.1 (nm_low h.nm _ m)
    · exact ne (sg_inj _ h.sg _ hs (List.mem_singleton.mp m).symm)
    · rcases op_low h.op _ m with z | z
      · exact n.1 z
      · exact n.2.1 z
  have e := parM_none (sg_tl s hs) hn
  unfold rT1
  rw [e]
  rfl
theorem rT1_own {t : Tst} (h : okT t) : rT1 (tW t) t.2.1 = some t := by
  have n := sg_not _ h.sg
  have e : parM (tW t) t.2.1 = (t.1, t.2.1, t.2.2) := parM_app (sg_tl _ h.sg) fun m => n.1 (nm_low h.nm _ m)
  unfold rT1
  rw [e]
  have n4 : decide (¬ (t.1, t.2.1, t.2.2).2.1 = "") = true := decide_eq_true n.2.2.2
  rw [n4, show isNm (t.1, t.2.1, t.2.2).1 = true from h.nm, show isOp (t.1, t.2.1, t.2.2).2.2 = true from h.op]
  rfl
theorem rTs_own {t : Tst} (h : okT t) : ∀ ss : List Str, (∀ s ∈ ss, s ∈ signs4) → t.2.1 ∈ ss → rTs ss (tW t) = some t
  | [], _, m => by cases m
  | s :: ss, hs, m => by
    unfold rTs
    by_cases e : t.2.1 = s
    · rw [← e, rT1_own h]
    · rw [rT1_other h (hs s List.mem_cons_self) e]
      exact rTs_own h ss (fun x mx => hs x (List.mem_cons_of_mem _ mx)) ((List.mem_cons.mp m).resolve_left e)
theorem rT_own {t : Tst} (h : okT t) : rT (tW t) = some t := rTs_own h signs4 (fun _ m => m) h.sg
theorem seqO_own {α : Type} {f : Str → Option α} {g : α → Str} : ∀ {as : List α}, (∀ a ∈ as, f (g a) = some a) → seqO ((as.map g).map f) = some as
  | [], _ => rfl
  | a :: as, h => by
    rw [List.map_cons, List.map_cons, h a List.mem_cons_self]
    unfold seqO
    rw [seqO_own fun b m => h b (List.mem_cons_of_mem _ m)]
    rfl
theorem and_tl : TL.tl " and " = [32, 97, 110, 100, 32] := by decide +kernel
theorem do_tl : TL.tl " do " = [32, 100, 111, 32] := by decide +kernel
theorem com_tl : TL.tl ", " = [44, 32] := by decide +kernel
theorem col_tl : TL.tl ":" = [58] := by decide +kernel
theorem plus_tl : TL.tl "+" = [43] := by decide +kernel
theorem tW_free {t : Tst} (h : okT t) : 32 ∉ TL.tl (tW t) := by
  rw [tl_tW, List.mem_append, List.mem_append, sg_tl _ h.sg]
  rintro (m | m | m)
  · have := nm_low h.nm _ m; omega
  · exact (sg_not _ h.sg).2.2.1 (List.mem_singleton.mp m).symm
  · have := op_low h.op _ m; omega
theorem tW_len {t : Tst} (h : okT t) : 3 ≤ (TL.tl (tW t)).length ∧ (TL.tl (tW t)).length ≤ 17 := by
  rw [tl_tW, List.length_append, List.length_append, sg_tl _ h.sg, ← TL.len_tl, ← TL.len_tl, List.length_singleton]
  have := made_len h.nm
  have := made_len h.op
  omega
theorem split_ts {ts : List Tst} (hne : ts ≠ []) (h : ∀ t ∈ ts, okT t) : splM (Txt.join " and " (ts.map tW)) " and " = ts.map tW := by
  rw [← splM_eq (by decide +kernel) (by decide +kernel)]
  refine TL.split_join and_tl (by decide +kernel) (fun e => hne (List.map_eq_nil_iff.mp e)) fun p m => ?_
  obtain ⟨t, mt, rfl⟩ := List.mem_map.mp m
  exact tW_free (h t mt)
/-! the first ' do ' -/
theorem par_skip {s : Nat} {S : List Nat} : ∀ (p acc r : List Nat), s ∉ p → TL.par (s :: S) acc (p ++ r) = TL.par (s :: S) (acc ++ p) r
  | [], acc, r, _ => by rw [List.nil_append, List.append_nil]
  | c :: p, acc, r, h => by
    have hc : c ≠ s := fun e => h (by rw [e]; exact List.mem_cons_self)
    rw [List.cons_append, TL.par, if_neg (by rw [TL.pre_of_head _ _ hc]; decide), par_skip p _ r fun m => h (List.mem_cons_of_mem _ m), List.append_assoc]
    rfl
theorem pre_do {a b c : Nat} (h : c ≠ 32) (r : List Nat) : TL.pre [32, 100, 111, 32] (32 :: a :: b :: c :: r) = false := by
  cases z : TL.pre [32, 100, 111, 32] (32 :: a :: b :: c :: r) with
  | false => rfl
  | true =>
    have e : [32, a, b, c] = [32, 100, 111, 32] := eq_of_beq z
    simp only [List.cons.injEq] at e
    exact absurd e.2.2.2.1 h
theorem par_ands (rest : List Nat) : ∀ (ws : List (List Nat)) (acc : List Nat), ws ≠ [] → (∀ w ∈ ws, 32 ∉ w ∧ 3 ≤ w.length) → TL.par [32, 100, 111, 32] acc (TL.joinL [32, 97, 110, 100, 32] ws ++ ([32, 100, 111, 32] ++ rest)) = some (acc ++ TL.joinL [32, 97, 110, 100, 32] ws, rest)
  | [], acc, h, _ => absurd rfl h
  | [p], acc, _, hp => by
    show TL.par [32, 100, 111, 32] acc (p ++ ([32, 100, 111, 32] ++ rest)) = some (acc ++ p, rest)
    exact TL.par_part1 (hp p List.mem_cons_self).1
  | p :: q :: r, acc, _, hp => by
    have ih := par_ands rest (q :: r) (acc ++ p ++ [32, 97, 110, 100, 32]) (by simp) fun w m => hp w (List.mem_cons_of_mem _ m)
    have ej : TL.joinL [32, 97, 110, 100, 32] (p :: q :: r) = p ++ ([32, 97, 110, 100, 32] ++ TL.joinL [32, 97, 110, 100, 32] (q :: r)) := rfl
    rw [ej, List.append_assoc, par_skip p acc _ (hp p List.mem_cons_self).1]
    obtain ⟨x, y, z, t, ez, hz⟩ : ∃ x y z t, TL.joinL [32, 97, 110, 100, 32] (q :: r) = x :: y :: z :: t ∧ z ≠ 32 := by
      obtain ⟨h1, h2⟩ := hp q (List.mem_cons_of_mem _ List.mem_cons_self)
      match q, h1, h2 with
      | x :: y :: z :: t, h1, _ =>
        refine ⟨x, y, z, ?_⟩
        cases r with
        | nil => exact ⟨t, rfl, fun e => h1 (by rw [e]; simp)⟩
        | cons r1 r2 => exact ⟨t ++ ([32, 97, 110, 100, 32] ++ TL.joinL [32, 97, 110, 100, 32] (r1 :: r2)), rfl, fun e => h1 (by rw [e]; simp)⟩
    have s1 : ∀ (ac l : List Nat), TL.par [32, 100, 111, 32] ac (32 :: 97 :: 110 :: 100 :: l) = TL.par [32, 100, 111, 32] (ac ++ [32, 97, 110, 100]) l := fun ac l => by
      rw [TL.par, if_neg (by rw [pre_do (by decide)]; decide)]
      have := par_skip (s := 32) (S := [100, 111, 32]) [97, 110, 100] (ac ++ [32]) l (by decide)
      rw [List.append_assoc] at this
      exact this
    have s2 : TL.par [32, 100, 111, 32] (acc ++ p ++ [32, 97, 110, 100]) (32 :: (TL.joinL [32, 97, 110, 100, 32] (q :: r) ++ ([32, 100, 111, 32] ++ rest))) = TL.par [32, 100, 111, 32] (acc ++ p ++ [32, 97, 110, 100] ++ [32]) (TL.joinL [32, 97, 110, 100, 32] (q :: r) ++ ([32, 100, 111, 32] ++ rest)) := by
      rw [ez]
      show TL.par _ _ (32 :: x :: y :: z :: _) = _
      rw [TL.par, if_neg (by rw [pre_do hz]; decide)]
      rfl
    show TL.par [32, 100, 111, 32] (acc ++ p) (32 :: 97 :: 110 :: 100 :: (32 :: (TL.joinL [32, 97, 110, 100, 32] (q :: r) ++ ([32, 100, 111, 32] ++ rest)))) = _
    rw [s1, s2, List.append_assoc (acc ++ p)]
    rw [show ([32, 97, 110, 100] ++ [32] : List Nat) = [32, 97, 110, 100, 32] from rfl, ih, List.append_assoc, List.append_assoc]
theorem parM_left {ts : List Tst} (h : ∀ t ∈ ts, okT t) (b : Str) : parM (leftM ts ++ " do " ++ b) " do " = (leftM ts, (" do " : Str), b) := by
  unfold leftM
  by_cases e : ts = []
  · rw [if_pos e]
    exact parM_app do_tl (by decide +kernel)
  · rw [if_neg e]
    have hj : TL.tl (Txt.join " and " (ts.map tW)) = TL.joinL [32, 97, 110, 100, 32] ((ts.map tW).map TL.tl) := by rw [TL.join_eq, TL.tl_join, and_tl]
    have hp := par_ands (TL.tl b) ((ts.map tW).map TL.tl) [] (by simp [e]) fun w m => by
      obtain ⟨x, mx, rfl⟩ := List.mem_map.mp m
      obtain ⟨t, mt, rfl⟩ := List.mem_map.mp mx
      exact ⟨tW_free (h t mt), (tW_len (h t mt)).1⟩
    rw [← hj, List.nil_append] at hp
    unfold parM
    have e2 : (Txt.join " and " (ts.map tW) ++ " do " ++ b).cps.toList = TL.tl (Txt.join " and " (ts.map tW)) ++ ([32, 100, 111, 32] ++ TL.tl b) := by
      show TL.tl _ = _
      rw [TL.tl_append, TL.tl_append, do_tl, List.append_assoc]
    rw [e2, show (" do " : Str).cps.toList = [32, 100, 111, 32] from do_tl, hp]
theorem mem_joinL {S : List Nat} {c : Nat} : ∀ {parts : List (List Nat)} {p : List Nat}, p ∈ parts → c ∈ p → c ∈ TL.joinL S parts
  | [q], p, m, h => by
    rw [List.mem_singleton] at m; subst m; exact h
  | q :: r :: t, p, m, h => by
    show c ∈ q ++ (S ++ TL.joinL S (r :: t))
    rcases List.mem_cons.mp m with e | m
    · subst e; exact List.mem_append_left _ h
    · exact List.mem_append_right _ (List.mem_append_right _ (mem_joinL m h))
theorem left_always {ts : List Tst} (hne : ts ≠ []) (h : ∀ t ∈ ts, okT t) : ¬ leftM ts = "always" := by
  unfold leftM
  rw [if_neg hne]
  intro e
  cases ts with
  | nil => exact hne rfl
  | cons t ts =>
    have ht := h t List.mem_cons_self
    have m : sgc t.2.1 ∈ TL.tl (Txt.join " and " ((t :: ts).map tW)) := by
      rw [TL.join_eq, TL.tl_join]
      refine mem_joinL (p := TL.tl (tW t)) (by simp) ?_
      rw [tl_tW, sg_tl _ ht.sg]
      simp
    rw [e] at m
    have : ∀ c ∈ TL.tl "always", 97 ≤ c ∧ c ≤ 122 := by decide +kernel
    exact (sg_not _ ht.sg).1 (this _ m)
theorem left_read {ts : List Tst} (h : ∀ t ∈ ts, okT t) : (if leftM ts = "always" then some [] else seqO ((splM (leftM ts) " and ").map rT)) = some ts := by
  by_cases e : ts = []
  · subst e
    exact if_pos (show leftM [] = "always" from if_pos rfl)
  · rw [if_neg (left_always e h)]
    have : leftM ts = Txt.join " and " (ts.map tW) := by unfold leftM; rw [if_neg e]
    rw [this, split_ts e h]
    exact seqO_own fun t m => rT_own (h t m)
/-! steps -/
theorem tl_sW (s : Stp) : TL.tl (sW s) = if s.2 = "+" then TL.tl s.1 ++ [43] else TL.tl s.1 ++ (58 :: TL.tl s.2) := by
  unfold sW
  by_cases e : s.2 = "+"
  · rw [if_pos e, if_pos e, TL.tl_append, plus_tl]
  · rw [if_neg e, if_neg e, TL.tl_append, TL.tl_append, col_tl, List.append_assoc]; rfl
theorem sW_free {s : Stp} (h : okS s) : 44 ∉ TL.tl (sW s) := by
  rw [tl_sW]
  by_cases e : s.2 = "+"
  · rw [if_pos e, List.mem_append]
    rintro (m | m)
    · have := nm_low h.nm _ m; omega
    · exact absurd m (by decide)
  · rw [if_neg e, List.mem_append, List.mem_cons]
    rintro (m | m | m)
    · have := nm_low h.nm _ m; omega
    · exact absurd m (by decide)
    · have := op_low (h.op.resolve_left e) _ m; omega
theorem rS_own {s : Stp} (h : okS s) : rS (sW s) = some s := by
  obtain ⟨n, o⟩ := s
  by_cases e : o = "+"
  · subst e
    have ew : sW (n, "+") = n ++ "+" := by unfold sW; rw [if_pos rfl]
    have ep : parM (sW (n, "+")) ":" = (sW (n, "+"), Str.empty, Str.empty) := parM_none col_tl (by
      rw [ew, TL.tl_append, plus_tl, List.mem_append]
      rintro (m | m)
      · have := nm_low h.nm _ m; omega
      · exact absurd m (by decide))
    have hl : (sW (n, "+")).length = n.length + 1 := by rw [ew, len_cps, app_cps, List.length_append, ← len_cps]; rfl
    have c1 : cutS (sW (n, "+")) (some (-1)) none = "+" := by
      refine TL.ext_tl ?_
      show (((sW (n, "+")).cps.toList.drop (if (-1 : Int) < 0 then ((-1 : Int) + ((sW (n, "+")).length : Int)).toNat else min (-1 : Int).toNat (sW (n, "+")).length)).take ((sW (n, "+")).length - (if (-1 : Int) < 0 then ((-1 : Int) + ((sW (n, "+")).length : Int)).toNat else min (-1 : Int).toNat (sW (n, "+")).length))) = _
      rw [if_pos (by decide), hl, show ((-1 : Int) + ((n.length + 1 : Nat) : Int)).toNat = n.length by omega, ew, show (n ++ "+" : Str).cps.toList = TL.tl n ++ TL.tl "+" from TL.tl_append _ _, TL.len_tl n, List.drop_left, plus_tl]
      exact List.take_of_length_le (by show 1 ≤ _; omega)
    have c2 : cutS (sW (n, "+")) none (some (-1)) = n := by
      refine TL.ext_tl ?_
      show (((sW (n, "+")).cps.toList.drop 0).take ((if (-1 : Int) < 0 then ((-1 : Int) + ((sW (n, "+")).length : Int)).toNat else min (-1 : Int).toNat (sW (n, "+")).length) - 0)) = _
      rw [if_pos (by decide), hl, show ((-1 : Int) + ((n.length + 1 : Nat) : Int)).toNat = n.length by omega, ew, show (n ++ "+" : Str).cps.toList = TL.tl n ++ TL.tl "+" from TL.tl_append _ _, TL.len_tl n, Nat.sub_zero, List.drop_zero, List.take_left]
    unfold rS
    rw [ep, if_pos (show (sW (n, "+"), Str.empty, Str.empty).2.1 = "" from (by decide +kernel : (Str.empty : Str) = "")), c1, c2, decide_eq_true rfl, show isNm n = true from h.nm]
    rfl
  · have ho := h.op.resolve_left e
    have ew : sW (n, o) = n ++ ":" ++ o := by unfold sW; rw [if_neg e]
    have ep : parM (sW (n, o)) ":" = (n, (":" : Str), o) := by
      rw [ew]
      exact parM_app col_tl fun m => by have := nm_low h.nm _ m; omega
    unfold rS
    rw [ep, if_neg (show ¬ (n, (":" : Str), o).2.1 = "" from (by decide +kernel : ¬ (":" : Str) = "")), show isNm (n, (":" : Str), o).1 = true from h.nm, show isOp (n, (":" : Str), o).2.2 = true from ho]
    rfl
theorem split_ss {ss : List Stp} (hne : ss ≠ []) (h : ∀ t ∈ ss, okS t) : splM (Txt.join ", " (ss.map sW)) ", " = ss.map sW := by
  rw [← splM_eq (by decide +kernel) (by decide +kernel)]
  refine TL.split_join com_tl (by decide +kernel) (fun e => hne (List.map_eq_nil_iff.mp e)) fun p m => ?_
  obtain ⟨t, mt, rfl⟩ := List.mem_map.mp m
  exact sW_free (h t mt)
theorem right_word {ss : List Stp} (hne : ss ≠ []) (h : ∀ t ∈ ss, okS t) {x : Str} (hx : 43 ∉ TL.tl x ∧ 58 ∉ TL.tl x) : ¬ rightM ss = x := by
  unfold rightM
  rw [if_neg hne]
  intro e
  cases ss with
  | nil => exact hne rfl
  | cons t ts =>
    have hs := tl_sW t
    have m : ∀ c, c ∈ TL.tl (sW t) → c ∈ TL.tl x := fun c mc => by
      rw [← e, TL.join_eq, TL.tl_join]
      exact mem_joinL (p := TL.tl (sW t)) (by simp) mc
    by_cases e2 : t.2 = "+"
    · rw [if_pos e2] at hs
      exact hx.1 (m 43 (by rw [hs]; simp))
    · rw [if_neg e2] at hs
      exact hx.2 (m 58 (by rw [hs]; simp))
theorem right_read {ts : List Tst} {ss : List Stp} (h6 : ss.length ≤ 6) (h : ∀ t ∈ ss, okS t) : rRight ts (rightM ss) = some (ts, some ss) := by
  unfold rRight
  by_cases e : ss = []
  · subst e
    have e2 : rightM [] = "keep" := rfl
    rw [e2, if_neg (by decide +kernel), if_pos rfl]
    rfl
  · rw [if_neg (right_word e h (by decide +kernel)), if_neg (right_word e h (by decide +kernel))]
    have : rightM ss = Txt.join ", " (ss.map sW) := by unfold rightM; rw [if_neg e]
    rw [this, split_ss e h, seqO_own fun t m => rS_own (h t m)]
    show (if 6 < ss.length then none else some (ts, some ss)) = _
    rw [if_neg (by omega)]
theorem starts_when (x : Str) : Txt.startswith ("when " ++ x) "when " = true := by
  rw [starts_pre (by decide +kernel), TL.tl_append]
  exact TL.pre_self _ _
theorem cut_when (x : Str) : cutS ("when " ++ x) (some 5) none = x := by
  have hl : ("when " ++ x : Str).length = 5 + x.length := by rw [len_cps, app_cps, List.length_append, ← len_cps, ← len_cps]; rfl
  refine TL.ext_tl ?_
  have e := cut_from ("when " ++ x) 5 (by omega)
  refine Eq.trans e ?_
  rw [app_cps]
  exact List.drop_left' (by decide +kernel)
theorem rC_mid {ts : List Tst} (h6 : ts.length ≤ 6) (h : ∀ t ∈ ts, okT t) (b : Str) : rC ("when " ++ (leftM ts ++ " do " ++ b)) = rRight ts b := by
  unfold rC
  rw [if_pos (starts_when _), cut_when, parM_left h]
  show (if (" do " : Str) = "" then none else _) = _
  rw [if_neg (by decide +kernel)]
  show (match (if leftM ts = "always" then some [] else seqO ((splM (leftM ts) " and ").map rT)) with
    | none => none
    | some ts => if 6 < ts.length then none else rRight ts b) = _
  rw [left_read h]
  show (if 6 < ts.length then none else rRight ts b) = _
  rw [if_neg (by omega)]
theorem read_line {c : Case} (h : okC c) : rC (lineM c) = some c := by
  obtain ⟨ts, o⟩ := c
  cases o with
  | none =>
    rw [line_none, do_drop, app_assoc, ← app_assoc (leftM ts), rC_mid h.t6 h.ts]
    unfold rRight
    rw [if_pos rfl]
  | some ss =>
    rw [line_some, app_assoc, app_assoc, ← app_assoc (leftM ts), rC_mid h.t6 h.ts, right_read (h.s6 ss rfl) (h.ss ss rfl)]
end LW

namespace LW
open PySem PySem.Spec PyProof.Rows DL
open L2 hiding St
theorem rT1_ok {w sg : Str} {t : Tst} (hs : sg ∈ signs4) (h : rT1 w sg = some t) : okT t := by
  unfold rT1 at h
  by_cases e : (decide (¬ (parM w sg).2.1 = "") && (isNm (parM w sg).1 && isOp (parM w sg).2.2)) = true
  · rw [if_pos e] at h
    cases h
    have e1 := Bool.and_eq_true_iff.mp (Bool.and_eq_true_iff.mp e).2
    exact ⟨e1.1, hs, e1.2⟩
  · rw [if_neg e] at h; cases h
theorem rTs_ok : ∀ {ss : List Str} {w : Str} {t : Tst}, (∀ s ∈ ss, s ∈ signs4) → rTs ss w = some t → okT t
  | [], w, t, _, h => by cases h
  | s :: ss, w, t, hs, h => by
    unfold rTs at h
    cases e : rT1 w s with
    | none => rw [e] at h; exact rTs_ok (fun x m => hs x (List.mem_cons_of_mem _ m)) h
    | some u => rw [e] at h; cases h; exact rT1_ok (hs s List.mem_cons_self) e
theorem rT_ok {w : Str} {t : Tst} (h : rT w = some t) : okT t := rTs_ok (fun _ m => m) h
theorem rS_ok {w : Str} {s : Stp} (h : rS w = some s) : okS s := by
  unfold rS at h
  by_cases e : (parM w ":").2.1 = ""
  · rw [if_pos e] at h
    by_cases e2 : (decide (cutS w (some (-1)) none = "+") && isNm (cutS w none (some (-1)))) = true
    · rw [if_pos e2] at h
      cases h
      exact ⟨(Bool.and_eq_true_iff.mp e2).2, .inl rfl⟩
    · rw [if_neg e2] at h; cases h
  · rw [if_neg e] at h
    by_cases e2 : (isNm (parM w ":").1 && isOp (parM w ":").2.2) = true
    · rw [if_pos e2] at h
      cases h
      exact ⟨(Bool.and_eq_true_iff.mp e2).1, .inr (Bool.and_eq_true_iff.mp e2).2⟩
    · rw [if_neg e2] at h; cases h
theorem seqO_cases {α : Type} : ∀ os : List (Option α), (os.any (·.isNone) = true ∧ seqO os = none) ∨ ∃ as, os = as.map some ∧ os.any (·.isNone) = false ∧ seqO os = some as
  | [] => .inr ⟨[], rfl, rfl, rfl⟩
  | none :: os => .inl ⟨rfl, rfl⟩
  | some a :: os => by
    rcases seqO_cases os with ⟨h1, h2⟩ | ⟨as, rfl, h1, h2⟩
    · refine .inl ⟨?_, ?_⟩
      · rw [List.any_cons, h1]; rfl
      · unfold seqO; rw [h2]; rfl
    · refine .inr ⟨a :: as, rfl, ?_, ?_⟩
      · rw [List.any_cons, h1]; rfl
      · unfold seqO; rw [h2]; rfl
theorem seqO_mem {α : Type} {f : Str → Option α} : ∀ {ws : List Str} {as : List α}, seqO (ws.map f) = some as → ∀ a ∈ as, ∃ w, f w = some a
  | [], as, h, a, m => by cases h; cases m
  | w :: ws, as, h, a, m => by
    rw [List.map_cons] at h
    cases e : f w with
    | none => rw [e] at h; cases h
    | some b =>
      rw [e] at h
      unfold seqO at h
      cases e2 : seqO (ws.map f) with
      | none => rw [e2] at h; cases h
      | some r =>
        rw [e2] at h
        cases h
        rcases List.mem_cons.mp m with rfl | m
        · exact ⟨w, e⟩
        · exact seqO_mem e2 a m
theorem rC_ok {l : Str} {c : Case} (h : rC l = some c) : okC c := by
  unfold rC at h
  by_cases e : Txt.startswith l "when " = true
  · rw [if_pos e] at h
    generalize cutS l (some 5) none = x at h
    by_cases e2 : (parM x " do ").2.1 = ""
    · rw [if_pos e2] at h; cases h
    · rw [if_neg e2] at h
      generalize (parM x " do ").1 = a at h
      generalize (parM x " do ").2.2 = b at h
      cases e3 : (if a = "always" then some [] else seqO ((splM a " and ").map rT)) with
      | none => rw [e3] at h; cases h
      | some ts =>
        rw [e3] at h
        have h : (if 6 < ts.length then none else rRight ts b) = some c := h
        have ht : ∀ t ∈ ts, okT t := fun t m => by
          by_cases e5 : a = "always"
          · rw [if_pos e5] at e3; cases e3; cases m
          · rw [if_neg e5] at e3
            obtain ⟨w, hw⟩ := seqO_mem e3 t m
            exact rT_ok hw
        by_cases e4 : 6 < ts.length
        · rw [if_pos e4] at h; cases h
        · rw [if_neg e4] at h
          unfold rRight at h
          by_cases e6 : b = "drop"
          · rw [if_pos e6] at h; cases h; exact ⟨by show ts.length ≤ 6; omega, ht, fun l e => (by cases e), fun l e => (by cases e)⟩
          · rw [if_neg e6] at h
            cases e7 : (if b = "keep" then some [] else seqO ((splM b ", ").map rS)) with
            | none => rw [e7] at h; cases h
            | some ss =>
              rw [e7] at h
              have h : (if 6 < ss.length then none else some (ts, some ss)) = some c := h
              have hs : ∀ t ∈ ss, okS t := fun t m => by
                by_cases e5 : b = "keep"
                · rw [if_pos e5] at e7; cases e7; cases m
                · rw [if_neg e5] at e7
                  obtain ⟨w, hw⟩ := seqO_mem e7 t m
                  exact rS_ok hw
              by_cases e8 : 6 < ss.length
              · rw [if_pos e8] at h; cases h
              · rw [if_neg e8] at h
                cases h
                exact ⟨by show ts.length ≤ 6; omega, ht, fun l e => (by cases e; omega), fun l e => (by cases e; exact hs)⟩
  · rw [if_neg e] at h; cases h
theorem spl_parts (S : List Nat) : ∀ (l : List Nat) (k : Nat) (acc : List Nat), (TL.spl S k acc l).length ≤ l.length + 1 ∧ ∀ p ∈ TL.spl S k acc l, p.length ≤ acc.length + l.length
  | [], k, acc => by rw [TL.spl_nil]; exact ⟨Nat.le_refl _, fun p m => by rw [List.mem_singleton.mp m]; exact Nat.le_add_right _ _⟩
  | c :: r, 0, acc => by
    unfold TL.spl
    by_cases e : TL.pre S (c :: r) = true
    · rw [if_pos e]
      obtain ⟨h1, h2⟩ := spl_parts S r (S.length - 1) []
      refine ⟨by rw [List.length_cons, List.length_cons]; omega, fun p m => ?_⟩
      rcases List.mem_cons.mp m with rfl | m
      · exact Nat.le_add_right _ _
      · have := h2 p m; rw [List.length_nil] at this; rw [List.length_cons]; omega
    · rw [if_neg e]
      obtain ⟨h1, h2⟩ := spl_parts S r 0 (acc ++ [c])
      refine ⟨by rw [List.length_cons]; omega, fun p m => ?_⟩
      have := h2 p m
      rw [List.length_append, List.length_singleton] at this
      rw [List.length_cons]; omega
  | c :: r, k + 1, acc => by
    unfold TL.spl
    obtain ⟨h1, h2⟩ := spl_parts S r k acc
    refine ⟨by rw [List.length_cons]; omega, fun p m => ?_⟩
    have := h2 p m
    rw [List.length_cons]; omega
theorem splM_len (x y : Str) : (splM x y).length ≤ x.length + 1 ∧ ∀ p ∈ splM x y, p.length ≤ x.length := by
  obtain ⟨h1, h2⟩ := spl_parts y.cps.toList x.cps.toList 0 []
  unfold splM
  rw [List.length_map]
  rw [← len_cps] at h1 h2
  refine ⟨h1, fun p m => ?_⟩
  obtain ⟨q, mq, rfl⟩ := List.mem_map.mp m
  have := h2 q mq
  rw [List.length_nil, Nat.zero_add] at this
  rw [len_cps]
  exact this
/-! texts that may be laid -/
theorem lay_lt {x : Str} (h : ∀ c ∈ x.cps.toList, c < 200) : (PyData.str x).canLay0 = true := by
  rw [PyData.canLay0, PyData.strOk, Array.all_eq_true']
  intro c m
  have := h c (Array.mem_toList_iff.mpr m)
  exact decide_eq_true (by omega)
theorem nm_lay {x : Str} (h : isNm x = true) : (PyData.str x).canLay0 = true := lay_lt fun c m => by have := nm_low h c m; omega
theorem op_lay {x : Str} (h : isOp x = true) : (PyData.str x).canLay0 = true := lay_lt fun c m => by have := op_low h c m; omega
theorem sg_lay : ∀ s ∈ signs4, (PyData.str s).canLay0 = true := by decide +kernel
theorem tst_okD {t : Tst} (h : okT t) : okD 1 (eTst t) := by
  intro d m
  rcases List.mem_cons.mp m with rfl | m
  · exact nm_lay h.nm
  · rcases List.mem_cons.mp m with rfl | m
    · exact sg_lay _ h.sg
    · rw [List.mem_singleton] at m; subst m; exact op_lay h.op
theorem stp_okD {s : Stp} (h : okS s) : okD 1 (eStp s) := by
  intro d m
  rcases List.mem_cons.mp m with rfl | m
  · exact nm_lay h.nm
  · rw [List.mem_singleton] at m; subst m
    rcases h.op with e | e
    · rw [e]; exact (by decide +kernel : (PyData.str "+").canLay0 = true)
    · exact op_lay e
theorem sW_lay {s : Stp} (h : okS s) : (PyData.str (sW s)).canLay0 = true := lay_lt fun c m => by
  have m : c ∈ TL.tl (sW s) := m
  rw [tl_sW] at m
  by_cases e : s.2 = "+"
  · rw [if_pos e, List.mem_append, List.mem_singleton] at m
    rcases m with m | m
    · have := nm_low h.nm _ m; omega
    · omega
  · rw [if_neg e, List.mem_append, List.mem_cons] at m
    rcases m with m | m | m
    · have := nm_low h.nm _ m; omega
    · omega
    · have := op_low (h.op.resolve_left e) _ m; omega
/-! lengths -/
theorem sW_len {s : Stp} (h : okS s) : (sW s).length ≤ 17 := by
  have h1 := made_len h.nm
  rw [TL.len_tl, tl_sW]
  by_cases e : s.2 = "+"
  · rw [if_pos e, List.length_append, ← TL.len_tl]; show _ + 1 ≤ _; omega
  · have h2 := made_len (h.op.resolve_left e)
    rw [if_neg e, List.length_append, List.length_cons, ← TL.len_tl, ← TL.len_tl]; omega
theorem join_len {y : Str} {ws : List Str} (hy : y.length ≤ 5) (h6 : ws.length ≤ 6) (h : ∀ w ∈ ws, w.length ≤ 17) : (ws.map (·.length)).sum + ws.length * y.length ≤ 132 ∧ (Txt.join y ws).length ≤ 132 := by
  have hs : ∀ l : List Str, (∀ w ∈ l, w.length ≤ 17) → (l.map (·.length)).sum ≤ l.length * 17 := by
    intro l
    induction l with
    | nil => intro _; exact Nat.le_refl _
    | cons a l ih =>
      intro hl
      have h1 := hl a List.mem_cons_self
      have h2 := ih fun w m => hl w (List.mem_cons_of_mem _ m)
      rw [List.map_cons, List.sum_cons, List.length_cons, Nat.add_mul]
      omega
  have h1 := hs ws h
  have h2 : ws.length * 17 ≤ 6 * 17 := Nat.mul_le_mul_right _ h6
  have h3 : ws.length * y.length ≤ 6 * 5 := Nat.mul_le_mul h6 hy
  have h4 := StrLaws.join_length_le y ws
  rw [TL.join_eq]
  omega
theorem left_len {ts : List Tst} (h6 : ts.length ≤ 6) (h : ∀ t ∈ ts, okT t) : (leftM ts).length ≤ 132 := by
  unfold leftM
  by_cases e : ts = []
  · rw [if_pos e]; decide +kernel
  · rw [if_neg e]
    exact (join_len (by decide +kernel) (by rw [List.length_map]; exact h6) fun w m => by obtain ⟨t, mt, rfl⟩ := List.mem_map.mp m; have := (tW_len (h t mt)).2; rw [← TL.len_tl] at this; exact this).2
theorem right_len {ss : List Stp} (h6 : ss.length ≤ 6) (h : ∀ t ∈ ss, okS t) : (rightM ss).length ≤ 132 := by
  unfold rightM
  by_cases e : ss = []
  · rw [if_pos e]; decide +kernel
  · rw [if_neg e]
    exact (join_len (by decide +kernel) (by rw [List.length_map]; exact h6) fun w m => by obtain ⟨t, mt, rfl⟩ := List.mem_map.mp m; exact sW_len (h t mt)).2
theorem app_len (a b : Str) : (a ++ b).length = a.length + b.length := by rw [len_cps, app_cps, List.length_append, ← len_cps, ← len_cps]
theorem line_len {c : Case} (h : okC c) : (lineM c).length ≤ 300 := by
  have h1 := left_len h.t6 h.ts
  have k1 : ("when " : Str).length = 5 := by decide +kernel
  have k2 : (" do drop" : Str).length = 8 := by decide +kernel
  have k3 : (" do " : Str).length = 4 := by decide +kernel
  obtain ⟨ts, o⟩ := c
  have h1 : (leftM ts).length ≤ 132 := h1
  cases o with
  | none => rw [line_none, app_len, app_len]; omega
  | some ss =>
    have h2 := right_len (h.s6 ss rfl) (h.ss ss rfl)
    rw [line_some, app_len, app_len, app_len]; omega
theorem eqD_tup_nil (ds : List D) : eqD (.tup ds) (.tup []) = ds.isEmpty := by cases ds <;> rfl
theorem eqD_lst_nil (ds : List D) : eqD (.lst ds) (.lst []) = ds.isEmpty := by cases ds <;> rfl
end LW

namespace LW
open PySem PySem.Spec PyProof.Rows DL
open L2 hiding St
def oddL : List Str := ["", "when", "when ", "when always", "when always do", "when always do ", "always do keep", "when do keep",
  "when always do keep ", " when always do keep", "when a do keep", "when a= do keep", "when =b do keep",
  "when always and a=b do keep", "when a=b and always do keep", "when always do keep, a+", "when always do a",
  "when always do a:", "when always do :b", "when always do +", "when always do a++", "when always do a:+",
  "when always do drop, a+", "When always do keep", "when a=b  and c=d do keep", "when always do a+,b+",
  "when a==b do keep", "when a=B do keep", "when abcdefghi=b do keep", "when always do keep do keep",
  "when " ++ Txt.join " and " (List.replicate 7 "a=b") ++ " do keep", "when always do " ++ Txt.join ", " (List.replicate 7 "a+")]
theorem odd_none : ∀ s ∈ oddL, rC s = none ∧ s.length ≤ 9000 := by decide +kernel
theorem letters_mem {c : Nat} (h : 97 ≤ c ∧ c ≤ 122) : c ∈ letters.cps.toList := by
  have := letter_at (c - 97) (by omega)
  rw [show 97 + (c - 97) = c by omega] at this
  exact List.mem_of_getElem? this
theorem word_nm {x : Str} (h : isWord x) : isNm x = true := by
  unfold isNm madeM
  rw [decide_eq_true h.1, decide_eq_true h.2.1, Bool.true_and, Bool.true_and, List.all_eq_true]
  exact fun c m => decide_eq_true (letters_mem (h.2.2 c m))
theorem pool_op : ∀ x ∈ pool, isOp x = true := by decide +kernel
theorem fld_of {F : List Fld} (hF : okFs F) {n : Str} {i : Nat} {o : List Str} (h : look F 0 n = some (i, o)) : isNm n = true ∧ ∀ x ∈ o, isOp x = true := by
  obtain ⟨_, _, f, hf, rfl, rfl⟩ := look_get h
  have fo := hF.each f (List.mem_of_getElem? hf)
  exact ⟨word_nm fo.nm, fun x m => pool_op x (fo.pl x m)⟩
theorem tst_ok {F : List Fld} (hF : okFs F) {t : Tst} (h : okTst F t) : okT t := by
  obtain ⟨h1, i, o, h2, h3⟩ := h
  have := fld_of hF h2
  exact ⟨this.1, h1, this.2 _ h3⟩
theorem stp_ok {F : List Fld} (hF : okFs F) {s : Stp} (h : okStp F s) : okS s := by
  obtain ⟨i, o, h2, h3⟩ := h
  have := fld_of hF h2
  exact ⟨this.1, h3.imp id fun m => this.2 _ m⟩
theorem cut6 {α : Type} (f : α → D) (l : List α) : DL.cutD (l.map f) none (some 6) = (l.take 6).map f := by
  unfold DL.cutD
  rw [HT.sIx_none, show (6 : Int) = ((6 : Nat) : Int) from rfl, HT.sIx_nat, List.drop_zero, Nat.sub_zero, ← List.map_take, List.length_map]
  rw [show l.take (min 6 l.length) = l.take 6 by rw [← List.take_eq_take_min]]
theorem cut_len (x : Str) (lo hi : Option Int) : (cutS x lo hi).length ≤ x.length := by
  rw [len_cps]
  show ((x.cps.toList.drop _).take _).length ≤ _
  rw [List.length_take, List.length_drop, ← len_cps]
  omega
end LW

namespace LW
open PySem PySem.Spec PyProof.Rows DL
open L2 hiding St
def topS (i : Nat) : Stmt := PySem.Challenge.pw_bestheard_k04_lines_of_cases.main.body.getD i (.Pass ⟨0, 0, 0, 0⟩)
abbrev s_is_made_of : Stmt := topS 4
abbrev N_is_made_of : List Str := ["value", "signs", "sign"]
abbrev P_is_made_of : List Str := ["value", "signs"]
theorem sc_is_made_of : FnScope N_is_made_of P_is_made_of (defScope s_is_made_of) := ⟨rfl, rfl, rfl, by decide +kernel, rfl, by decide +kernel, by decide +kernel⟩
abbrev s_is_name : Stmt := topS 5
abbrev N_is_name : List Str := ["value"]
abbrev P_is_name : List Str := ["value"]
theorem sc_is_name : FnScope N_is_name P_is_name (defScope s_is_name) := ⟨rfl, rfl, rfl, by decide +kernel, rfl, by decide +kernel, by decide +kernel⟩
abbrev s_is_option : Stmt := topS 6
abbrev N_is_option : List Str := ["value"]
abbrev P_is_option : List Str := ["value"]
theorem sc_is_option : FnScope N_is_option P_is_option (defScope s_is_option) := ⟨rfl, rfl, rfl, by decide +kernel, rfl, by decide +kernel, by decide +kernel⟩
abbrev s_case_text : Stmt := topS 11
abbrev N_case_text : List Str := ["case", "tests", "steps", "left", "words", "name", "sign", "option"]
abbrev P_case_text : List Str := ["case"]
theorem sc_case_text : FnScope N_case_text P_case_text (defScope s_case_text) := ⟨rfl, rfl, rfl, by decide +kernel, rfl, by decide +kernel, by decide +kernel⟩
abbrev s_read_test : Stmt := topS 12
abbrev N_read_test : List Str := ["word", "sign", "name", "found", "option"]
abbrev P_read_test : List Str := ["word"]
theorem sc_read_test : FnScope N_read_test P_read_test (defScope s_read_test) := ⟨rfl, rfl, rfl, by decide +kernel, rfl, by decide +kernel, by decide +kernel⟩
abbrev s_read_step : Stmt := topS 13
abbrev N_read_step : List Str := ["word", "name", "found", "option"]
abbrev P_read_step : List Str := ["word"]
theorem sc_read_step : FnScope N_read_step P_read_step (defScope s_read_step) := ⟨rfl, rfl, rfl, by decide +kernel, rfl, by decide +kernel, by decide +kernel⟩
abbrev s_read_case : Stmt := topS 14
abbrev N_read_case : List Str := ["line", "left", "middle", "right", "tests", "steps", "word"]
abbrev P_read_case : List Str := ["line"]
theorem sc_read_case : FnScope N_read_case P_read_case (defScope s_read_case) := ⟨rfl, rfl, rfl, by decide +kernel, rfl, by decide +kernel, by decide +kernel⟩
abbrev s_law_bag : Stmt := topS 16
abbrev N_law_bag : List Str := ["_law_script", "_law_seed", "_law_cell"]
abbrev P_law_bag : List Str := ["_law_script"]
theorem sc_law_bag : FnScope N_law_bag P_law_bag (defScope s_law_bag) := ⟨rfl, rfl, rfl, by decide +kernel, rfl, by decide +kernel, by decide +kernel⟩
abbrev s_law_draw : Stmt := topS 17
abbrev N_law_draw : List Str := ["_law_bag_here", "_law_many", "_law_cell", "_law_found", "_law_old"]
abbrev P_law_draw : List Str := ["_law_bag_here", "_law_many"]
theorem sc_law_draw : FnScope N_law_draw P_law_draw (defScope s_law_draw) := ⟨rfl, rfl, rfl, by decide +kernel, rfl, by decide +kernel, by decide +kernel⟩
abbrev s_law_any : Stmt := topS 18
abbrev N_law_any : List Str := ["_law_bag_here", "_law_row"]
abbrev P_law_any : List Str := ["_law_bag_here", "_law_row"]
theorem sc_law_any : FnScope N_law_any P_law_any (defScope s_law_any) := ⟨rfl, rfl, rfl, by decide +kernel, rfl, by decide +kernel, by decide +kernel⟩
abbrev s_law_mixed : Stmt := topS 19
abbrev N_law_mixed : List Str := ["_law_bag_here", "_law_row", "_law_found", "_law_item"]
abbrev P_law_mixed : List Str := ["_law_bag_here", "_law_row"]
theorem sc_law_mixed : FnScope N_law_mixed P_law_mixed (defScope s_law_mixed) := ⟨rfl, rfl, rfl, by decide +kernel, rfl, by decide +kernel, by decide +kernel⟩
abbrev s_law_like : Stmt := topS 20
abbrev N_law_like : List Str := ["_law_found", "_law_due", "_law_key", "_law_one", "_law_other"]
abbrev P_law_like : List Str := ["_law_found", "_law_due"]
theorem sc_law_like : FnScope N_law_like P_law_like (defScope s_law_like) := ⟨rfl, rfl, rfl, by decide +kernel, rfl, by decide +kernel, by decide +kernel⟩
abbrev s_law_words : Stmt := topS 21
abbrev N_law_words : List Str := ["_law_bag_here", "_law_many", "_law_tail", "_law_at", "_law_start", "_law_letters", "_law_k"]
abbrev P_law_words : List Str := ["_law_bag_here", "_law_many"]
theorem sc_law_words : FnScope N_law_words P_law_words (defScope s_law_words) := ⟨rfl, rfl, rfl, by decide +kernel, rfl, by decide +kernel, by decide +kernel⟩
abbrev s_law_options : Stmt := topS 22
abbrev N_law_options : List Str := ["_law_bag_here", "_law_many", "_law_pool"]
abbrev P_law_options : List Str := ["_law_bag_here", "_law_many"]
theorem sc_law_options : FnScope N_law_options P_law_options (defScope s_law_options) := ⟨rfl, rfl, rfl, by decide +kernel, rfl, by decide +kernel, by decide +kernel⟩
abbrev s_law_fields : Stmt := topS 23
abbrev N_law_fields : List Str := ["_law_bag_here", "_law_room", "_law_names", "_law_found", "_law_left", "_law_k", "_law_many"]
abbrev P_law_fields : List Str := ["_law_bag_here", "_law_room"]
theorem sc_law_fields : FnScope N_law_fields P_law_fields (defScope s_law_fields) := ⟨rfl, rfl, rfl, by decide +kernel, rfl, by decide +kernel, by decide +kernel⟩
abbrev s_law_case : Stmt := topS 24
abbrev N_law_case : List Str := ["_law_bag_here", "_law_fields_here", "_law_tests", "_law_steps", "_law_k", "_law_name", "_law_options_here"]
abbrev P_law_case : List Str := ["_law_bag_here", "_law_fields_here"]
theorem sc_law_case : FnScope N_law_case P_law_case (defScope s_law_case) := ⟨rfl, rfl, rfl, by decide +kernel, rfl, by decide +kernel, by decide +kernel⟩
abbrev s_law_line : Stmt := topS 25
abbrev N_law_line : List Str := ["_law_case_z", "_law_tests", "_law_steps", "_law_left", "_law_words_here", "_law_name", "_law_option", "_law_sign"]
abbrev P_law_line : List Str := ["_law_case_z"]
theorem sc_law_line : FnScope N_law_line P_law_line (defScope s_law_line) := ⟨rfl, rfl, rfl, by decide +kernel, rfl, by decide +kernel, by decide +kernel⟩
abbrev s_law : Stmt := topS 26
abbrev N_law : List Str := ["_law_script", "_law_bag_here", "_law_turn", "_law_fields_here", "_law_tests", "_law_steps", "_law_k", "_law_more", "_law_case_z", "_law_line_z", "_law_at", "_law_sign", "_law_bent", "_law_found", "_law_odd"]
abbrev P_law : List Str := ["_law_script"]
theorem sc_law : FnScope N_law P_law (defScope s_law) := ⟨rfl, rfl, rfl, by decide +kernel, rfl, by decide +kernel, by decide +kernel⟩
/-- the built-in names that the text leaves alone -/
structure Blt (K : PySem.W.Frag) (mg : Str → Option Value) : Prop where
  b_len : mg "len" = none
  b_int : mg "int" = none
  b_list : mg "list" = none
  b_tuple : mg "tuple" = none
  b_range : mg "range" = none
  b_min : mg "min" = none
  b_max : mg "max" = none
  b_all : mg "all" = none
  b_enumerate : mg "enumerate" = none
  b_zip : mg "zip" = none
  b_isinstance : mg "isinstance" = none
  b_dict : mg "dict" = none
  b_bool : mg "bool" = none
  b_str : mg "str" = none
  c_LETTERS : ∃ t, mg "LETTERS" = some (.str "abcdefghijklmnopqrstuvwxyz" t)
  c_DIGITS : ∃ t, mg "DIGITS" = some (.str "0123456789" t)
  c_MAX_LENGTH : ∃ t, mg "MAX_LENGTH" = some (.int 8 t)
  c_SIGNS : GD0 K mg "SIGNS" (.tup [(.str "="), (.str "!"), (.str "<"), (.str ">")])
  c_MAX_TESTS : ∃ t, mg "MAX_TESTS" = some (.int 6 t)
  c_MAX_STEPS : ∃ t, mg "MAX_STEPS" = some (.int 6 t)
section
variable {P : Program} {w : World} {K : PySem.W.Frag} {mg : Str → Option Value} {base : Heap}
theorem ok_law_draw {f : Addr} {fd : FuncData} (B : Blt K mg) (D0 : DefAt K mg "_law_draw" s_law_draw P_law_draw f fd) : FnOk P w K mg base CX0 1 f fd P_law_draw (spD K Φdraw) := by
  refine ok_draw D0 sc_law_draw B.b_len B.b_int fun cdv A outer s H E => ⟨_, _, _, _, _, _, _, _, rfl,
    ps_if (PW.pt (pw_and (pt_cmpR op_eq (pe_ix ix_list (pv 0) pe_int (fun _ _ => rfl)) pe_int (nomark _)) (pw_and1 (pt_cmpR op_lt (pe_ix ix_list (pv 0) pe_int (fun _ _ => rfl)) (pe_callB call_len_seq (by rfl) B.b_len PySem.boot_len (pa_cons (pe_ix ix_list (pv 0) pe_int (fun _ _ => rfl)) pa_nil)) (nomark _)))))
      (pss_cons (ps_set (i := 2) sc_law_draw.nd rfl (.inl rfl) (pe_ix ix_list (pe_ix ix_list (pv 0) pe_int (fun _ _ => rfl)) (pe_ix ix_list (pv 0) pe_int (fun _ _ => rfl)) (fun _ _ => rfl)))
        (pss_cons (ps_asg (pe_op op_add (pe_ix ix_list (pv 0) pe_int (fun _ _ => rfl)) pe_int) (pg_sub (pv 0) pe_int set_list))
          (pss_one (ps_if (pt_cmpR op_ge (pv 2) (pe_op op_pow pe_int pe_int) (nomark _)) (pss_one (ps_asg (pv 2) (pg_sub (pv 0) pe_int set_list)))
            (pss_one (ps_asg (pe_op op_mod (pe_callTy call_int1 (by rfl) B.b_int (by decide +kernel) (pa_cons (pe_op op_add (pe_op op_add (pe_op op_mul (pe_ix ix_list (pv 0) pe_int (fun _ _ => rfl)) pe_int) (pe_op op_mul (pe_op op_mod (pe_callTy call_int1 (by rfl) B.b_int (by decide +kernel) (pa_cons (pv 2) pa_nil)) pe_int) pe_int)) (pe_ix ix_list (pv 0) pe_int (fun _ _ => rfl))) pa_nil)) pe_int) (pg_sub (pv 0) pe_int set_list))))))) pss_nil,
    ps_if (pt_cmpR op_gt (pe_ix ix_list (pv 0) pe_int (fun _ _ => rfl)) pe_int (nomark _))
      (pss_cons (ps_set (i := 3) sc_law_draw.nd rfl (.inl rfl) (pe_op op_mod (pe_callTy call_int1 (by rfl) B.b_int (by decide +kernel) (pa_cons (pe_ix ix_list (pv 0) pe_int (fun _ _ => rfl)) pa_nil)) (pv 1)))
        (pss_cons (ps_asg (pe_op op_fdiv (pe_ix ix_list (pv 0) pe_int (fun _ _ => rfl)) (pv 1)) (pg_sub (pv 0) pe_int set_list))
          (pss_one (ps_ret (pv 3))))) pss_nil,
    pss_cons (ps_set (i := 4) sc_law_draw.nd rfl (.inl rfl) (pe_ix ix_list (pv 0) pe_int (fun _ _ => rfl)))
      (pss_cons (ps_asg (pe_op op_mod (pe_callTy call_int1 (by rfl) B.b_int (by decide +kernel) (pa_cons (pe_op op_add (pe_op op_add (pe_op op_mul (pv 4) (pv 4)) (pe_op op_mul (pv 4) pe_int)) pe_int) pa_nil)) pe_int) (pg_sub (pv 0) pe_int set_list))
        (pss_one (ps_ret (pe_op op_mod (pe_callTy call_int1 (by rfl) B.b_int (by decide +kernel) (pa_cons (pe_op op_add (pe_op op_fdiv (pe_ix ix_list (pv 0) pe_int (fun _ _ => rfl)) pe_int) (pe_op op_mul (pe_op op_mod (pe_callTy call_int1 (by rfl) B.b_int (by decide +kernel) (pa_cons (pe_ix ix_list (pv 0) pe_int (fun _ _ => rfl)) pa_nil)) pe_int) pe_int)) pa_nil)) (pv 1))))), ?_, ?_, ?_⟩
  · intro D H b l n i x sd ns ok hl ne nx
    have at0 : ∀ i x sd, atI (bagIts l i x sd) 0 = some (.ref l) := fun i x sd => atI_nat (j := 0) rfl
    have at1 : ∀ i x sd, atI (bagIts l i x sd) 1 = some (.int i) := fun i x sd => atI_nat (j := 1) rfl
    have at2 : ∀ i x sd, atI (bagIts l i x sd) 2 = some (.int x) := fun i x sd => atI_nat (j := 2) rfl
    have at3 : ∀ i x sd, atI (bagIts l i x sd) 3 = some (.int sd) := fun i x sd => atI_nat (j := 3) rfl
    have stay := nx i x sd none ok
    refine ⟨_, rfl, b, _, 2, _, rfl, rfl, bag_at, at2 i x sd, rfl, _, rfl, ite2 (fun e => ?_) (fun e => iteF stay)⟩
    refine ⟨_, rfl, b, _, 1, _, rfl, rfl, bag_at, at1 i x sd, _, rfl, b, _, 0, _, rfl, rfl, bag_at, at0 i x sd, l, _, rfl, .inl (cells_at hl ne), _, _, rfl, rfl, _, rfl, ite2 (fun e2 => ?_) (fun e2 => stay)⟩
    have hi : i < (ns.length : Int) := by
      have z := of_decide_eq_true e2
      rw [List.length_map] at z
      exact z
    obtain ⟨j, rfl⟩ := Int.eq_ofNat_of_zero_le ok.1
    have hj : j < ns.length := by omega
    have gj : (ns.map V.int)[j]? = some (.int ns[j]) := by rw [List.getElem?_map, List.getElem?_eq_getElem hj]; rfl
    refine ⟨_, rfl, b, _, 0, _, rfl, rfl, bag_at, at0 _ x sd, _, rfl, b, _, 1, _, rfl, rfl, bag_at, at1 _ x sd, l, _, _, _, rfl, rfl, cells_at hl ne, atI_nat gj, ?_⟩
    refine ⟨_, rfl, b, _, 1, _, rfl, rfl, bag_at, at1 _ x sd, _, _, rfl, rfl, _, rfl, b, _, 1, 1, rfl, rfl, upd_same, rfl, ?_⟩
    rw [upd_upd]
    have ok1 : BagOk ((j : Int) + 1) x sd := ⟨by omega, ok.2⟩
    refine ⟨_, rfl, _, _, rfl, rfl, ⟨by decide, by decide, by decide⟩, _, _, rfl, rfl, _, rfl, ite2 (fun e3 => ?_) (fun e3 => ?_)⟩
    · have z : (10 : Int) ^ (18 : Int).toNat ≤ ns[j] := of_decide_eq_true e3
      refine ⟨_, rfl, _, rfl, b, _, 2, 2, rfl, rfl, upd_same, rfl, ?_⟩
      rw [upd_upd]
      refine nx _ _ _ _ ⟨by omega, ?_, ok.2.2⟩
      exact Int.le_trans (by decide) z
    · refine ⟨_, rfl, b, _, 3, _, rfl, rfl, bag_at, at3 _ x sd, _, _, rfl, rfl, .inr ⟨by decide, by decide⟩, _, rfl, .inl ⟨_, rfl, _, _, rfl, rfl, (by show (0 : Int) < 2147483647; decide), _, _, rfl, rfl, .inr ⟨by decide, by decide⟩, _, _, rfl, rfl, _, rfl, b, _, 1, _, rfl, rfl, bag_at, at1 _ x sd, _, _, rfl, rfl, .inl ⟨_, rfl, _, _, rfl, rfl, (by show (0 : Int) < 2147483647; decide), _, rfl, b, _, 3, 3, rfl, rfl, upd_same, rfl, ?_⟩⟩⟩
      rw [upd_upd]
      exact nx _ _ _ _ ⟨ok1.1, ok.2.1, draw_sd⟩
  · intro D H b l n i x sd c ok n0 n1 nx rt
    have at2 : atI (bagIts l i x sd) 2 = some (.int x) := atI_nat (j := 2) rfl
    refine ⟨_, rfl, b, _, 2, _, rfl, rfl, bag_at, at2, _, _, rfl, rfl, _, rfl, ite2 (fun e => ?_) (fun e => nx)⟩
    have hx : 0 < x := of_decide_eq_true e
    refine ⟨_, rfl, b, _, 2, _, rfl, rfl, bag_at, at2, .inl ⟨_, rfl, _, rfl, _, _, rfl, rfl, n0, ?_⟩⟩
    refine ⟨_, rfl, b, _, 2, _, rfl, rfl, bag_at, at2, _, rfl, _, _, rfl, rfl, ⟨n0, n1⟩, _, rfl, b, _, 2, 2, rfl, rfl, upd_same, rfl, ?_⟩
    rw [upd_upd]
    exact ⟨_, rfl, rt _ _ _ _ ⟨ok.1, Int.ediv_nonneg ok.2.1 (by omega), ok.2.2⟩ (Int.emod_nonneg _ (by omega)) (Int.emod_lt_of_pos _ n0)⟩
  · intro D H b l n i x sd c ok n0 n1 rt
    have at3 : ∀ i x sd, atI (bagIts l i x sd) 3 = some (.int sd) := fun i x sd => atI_nat (j := 3) rfl
    refine ⟨_, rfl, b, _, 3, _, rfl, rfl, bag_at, at3 i x sd, ?_⟩
    have bd : -(2 ^ 64) < sd ∧ sd < 2 ^ 64 := by have := ok.2.2; omega
    refine ⟨_, rfl, _, rfl, _, _, rfl, rfl, .inl bd, _, rfl, _, _, rfl, rfl, .inl bd, _, _, rfl, rfl, _, _, rfl, rfl, .inl ⟨_, rfl, _, _, rfl, rfl, (by show (0 : Int) < 2147483647; decide), _, rfl, b, _, 3, 3, rfl, rfl, upd_same, rfl, ?_⟩⟩
    rw [upd_upd]
    have ok3 : BagOk i x ((sd * sd + sd * 39373 + 90001) % 2147483647) := ⟨ok.1, ok.2.1, draw_sd⟩
    refine ⟨_, rfl, b, _, 3, _, rfl, rfl, bag_at, at3 i x _, _, _, rfl, rfl, ⟨by decide, by decide⟩, _, rfl, b, _, 3, _, rfl, rfl, bag_at, at3 i x _, .inl ⟨_, rfl, _, _, rfl, rfl, (by show (0 : Int) < 8117; decide), _, _, rfl, rfl, .inr ⟨by decide, by decide⟩, _, _, rfl, rfl, .inl ⟨_, rfl, _, rfl, _, _, rfl, rfl, n0, ?_⟩⟩⟩
    exact rt _ _ _ _ ok3 (Int.emod_nonneg _ (by omega)) (Int.emod_lt_of_pos _ n0)
end
end LW

namespace LW
open PySem PySem.Spec PyProof.Rows DL
open L2 hiding St
section
variable {P : Program} {w : World} {K : PySem.W.Frag} {mg : Str → Option Value} {base : Heap}
/-! ### any of a row -/
abbrev Φ_law_draw := Φdraw
def Φ_law_any : List D → (D → Prop) → Prop := fun ds R => ∃ d xs, ds = [.bag, d] ∧ items? d = some xs ∧ 0 < xs.length ∧ xs.length < 1000 ∧ ∀ x ∈ xs, R x
theorem ok_law_any {f_law_any : Addr} {fd_law_any : FuncData} (B : Blt K mg) (D_law_any : DefAt K mg "_law_any" s_law_any P_law_any f_law_any fd_law_any) {f_law_draw : Addr} {fd_law_draw : FuncData} (D_law_draw : DefAt K mg "_law_draw" s_law_draw P_law_draw f_law_draw fd_law_draw) (G_law_draw : FnOk P w K mg base CX0 1 f_law_draw fd_law_draw P_law_draw (spD K Φ_law_draw)) : FnOk P w K mg base CX0 (2) f_law_any fd_law_any P_law_any (spD K Φ_law_any) := by
  refine fn_data (k := 1) D_law_any.fn sc_law_any (fun ds R h => ?_) (fun cdv A outer s H E hr => ⟨_, (qss_one (qs_ret (qe_ix ixd (qe_var (i := 1)) (qe_call (G_law_draw) (hr.mono (by decide)) (by rfl) D_law_draw.mgf D_law_draw.fn.kp D_law_draw.bd pass0 (qa_cons (qe_var (i := 0)) (qa_cons (qe_callB cd_len (by rfl) B.b_len (by decide +kernel) (qa_cons (qe_var (i := 1)) qa_nil)) qa_nil)))))), fun ds R h => ?_⟩)
  · obtain ⟨d, xs, rfl, _⟩ := h; rfl
  · obtain ⟨d, xs, rfl, hd, h0, h1, q⟩ := h
    have key : ∀ r : Int, 0 ≤ r → r < xs.length → ∃ x, atI xs r = some x ∧ R x := fun r r0 r1 => by
      obtain ⟨j, rfl⟩ := Int.eq_ofNat_of_zero_le r0
      have hj : j < xs.length := by omega
      exact ⟨xs[j], atI_nat (List.getElem?_eq_getElem hj), q _ (List.getElem_mem hj)⟩
    cases d with
    | lst ds => cases hd; exact ⟨xs.length, rfl, by omega, by omega, key⟩
    | tup ds => cases hd; exact ⟨xs.length, rfl, by omega, by omega, key⟩
    | _ => cases hd
/-! ### a row in any order -/
def Φ_law_mixed : List D → (D → Prop) → Prop := fun ds R => ∃ xs, ds = [.bag, .lst xs] ∧ xs.length < 1000 ∧ ∀ ys : List D, ys.Perm xs → R (.lst ys)
theorem perm_insert {α : Type} (x : α) (ys : List α) (n : Nat) : (ys.take n ++ [x] ++ ys.drop n).Perm (ys ++ [x]) := by
  have h : (ys.take n ++ [x] ++ ys.drop n).Perm ([x] ++ ys) := by
    rw [List.append_assoc]
    refine (List.perm_append_comm_assoc _ _ _).trans ?_
    rw [List.take_append_drop]
  exact h.trans List.perm_append_comm
theorem ok_law_mixed {f_law_mixed : Addr} {fd_law_mixed : FuncData} (B : Blt K mg) (D_law_mixed : DefAt K mg "_law_mixed" s_law_mixed P_law_mixed f_law_mixed fd_law_mixed) {f_law_draw : Addr} {fd_law_draw : FuncData} (D_law_draw : DefAt K mg "_law_draw" s_law_draw P_law_draw f_law_draw fd_law_draw) (G_law_draw : FnOk P w K mg base CX0 1 f_law_draw fd_law_draw P_law_draw (spD K Φ_law_draw)) : FnOk P w K mg base CX0 (2) f_law_mixed fd_law_mixed P_law_mixed (spD K Φ_law_mixed) := by
  refine fn_data (k := 1) D_law_mixed.fn sc_law_mixed (fun ds R h => ?_) (fun cdv A outer s H E hr => ⟨_, (qss_cons (qs_own (i := 2) sc_law_mixed.nd (ql_lst qa_nil))
      (qss_cons (qs_for PassesOwn.never rfl (qi_any (qe_var (i := 1))) (qg_name sc_law_mixed.nd (i := 3)) (qss_one (qs_insert (i := 2) (qe_borrow 2 (qe_call (G_law_draw) (hr.mono (by decide)) (by rfl) D_law_draw.mgf D_law_draw.fn.kp D_law_draw.bd pass0 (qa_cons (qe_var (i := 0)) (qa_cons (qe_op od_add (qe_callB cd_len (by rfl) B.b_len (by decide +kernel) (qa_cons (qe_var (i := 2)) qa_nil)) qe_int) qa_nil)))) (qe_var (i := 3)))))
      (qss_one (qs_free 2 (qs_ret (qe_var (i := 2))))))), fun ds R h => ?_⟩)
  · obtain ⟨xs, rfl, _⟩ := h; rfl
  · obtain ⟨xs, rfl, h1, q⟩ := h
    refine ⟨Nat.zero_le _, .inl ?_⟩
    refine dfor_ind (fun rest ρ => ∃ pre ys x, pre ++ rest = xs ∧ ys.Perm pre ∧ ρ = [.val .bag, .val (.lst xs), .own ys, x]) ?_ ?_ _ _ ⟨[], [], .nul, rfl, .nil, rfl⟩
    · rintro ρ ⟨pre, ys, x, e, p, rfl⟩
      rw [List.append_nil] at e
      subst e
      exact q ys p
    · rintro d rest ρ ⟨pre, ys, x, e, p, rfl⟩ k
      have hl : ys.length < 1000 := by rw [p.length_eq]; rw [← e, List.length_append] at h1; omega
      refine ⟨⟨ys, rfl⟩, ?_⟩
      refine ⟨(ys.length : Int) + 1, rfl, by omega, by omega, fun r r0 r1 => ⟨rfl, small' (by omega), r0, by omega, k _ ⟨pre ++ [d], _, .val d, ?_, ?_, rfl⟩⟩⟩
      · rw [List.append_assoc]; exact e
      · exact (perm_insert d ys _).trans (p.append (List.Perm.refl _))
/-! ### the bag is made -/
def Φ_law_bag : List D → (D → Prop) → Prop := fun ds R => ∃ ns, ds = [.scr ns] ∧ R .bag
end
end LW

namespace LW
open PySem PySem.Spec PyProof.Rows DL
open L2 hiding St
section
variable {P : Program} {w : World} {K : PySem.W.Frag} {mg : Str → Option Value} {base : Heap}
/-! ### words -/
def Φ_law_words : List D → (D → Prop) → Prop := fun ds R => ∃ (n : Nat), ds = [.bag, .int n] ∧ n ≤ 100 ∧ ∀ (tl : Str) (a s : Nat), tl ∈ tails → a ≤ tl.length → R (.lst ((wordsM tl a s n).map D.str))
theorem ok_law_words {f_law_words : Addr} {fd_law_words : FuncData} (B : Blt K mg) (D_law_words : DefAt K mg "_law_words" s_law_words P_law_words f_law_words fd_law_words) {f_law_draw : Addr} {fd_law_draw : FuncData} (D_law_draw : DefAt K mg "_law_draw" s_law_draw P_law_draw f_law_draw fd_law_draw) (G_law_draw : FnOk P w K mg base CX0 1 f_law_draw fd_law_draw P_law_draw (spD K Φ_law_draw)) {f_law_any : Addr} {fd_law_any : FuncData} (D_law_any : DefAt K mg "_law_any" s_law_any P_law_any f_law_any fd_law_any) (G_law_any : FnOk P w K mg base CX0 2 f_law_any fd_law_any P_law_any (spD K Φ_law_any)) : FnOk P w K mg base CX0 (3) f_law_words fd_law_words P_law_words (spD K Φ_law_words) := by
  refine fn_data (k := 2) D_law_words.fn sc_law_words (fun ds R h => ?_) (fun cdv A outer s H E hr => ⟨_, (qss_cons (qs_set (i := 2) sc_law_words.nd (qe_call (G_law_any) (hr.mono (by decide)) (by rfl) D_law_any.mgf D_law_any.fn.kp D_law_any.bd pass0 (qa_cons (qe_var (i := 0)) (qa_cons (qe_lst (qa_cons qe_str (qa_cons qe_str (qa_cons qe_str (qa_cons qe_str (qa_cons qe_str qa_nil)))))) qa_nil))))
      (qss_cons (qs_asg (qe_tup (qa_cons (qe_call (G_law_draw) (hr.mono (by decide)) (by rfl) D_law_draw.mgf D_law_draw.fn.kp D_law_draw.bd pass0 (qa_cons (qe_var (i := 0)) (qa_cons (qe_op od_add (qe_callB cd_len (by rfl) B.b_len (by decide +kernel) (qa_cons (qe_var (i := 2)) qa_nil)) qe_int) qa_nil))) (qa_cons (qe_call (G_law_draw) (hr.mono (by decide)) (by rfl) D_law_draw.mgf D_law_draw.fn.kp D_law_draw.bd pass0 (qa_cons (qe_var (i := 0)) (qa_cons qe_int qa_nil))) qa_nil))) (QG.str (qg_tup (n := 2) rfl (qgs_cons (qg_name sc_law_words.nd (i := 3)) (qgs_cons (qg_name sc_law_words.nd (i := 4)) qgs_nil)))))
      (qss_cons (qs_set (i := 5) sc_law_words.nd qe_str)
      (qss_one (qs_ret (QL.qe (ql_lc rfl sc_law_words.nd (blkOk_by (own := [("_law_k", 6)]) (N := N_law_words) (sc := defScope s_law_words) (by decide +kernel)) (qi_range1 (by rfl) B.b_range (qa_cons (qe_var (i := 1)) qa_nil)) (fun _ _ _ _ _ => (qg_name sc_law_words.nd (i := 6))) (fun _ _ _ _ _ => qts_nil) (fun _ _ _ _ _ => (qe_op od_add (qe_op od_add (qe_slice (qe_var (i := 2)) qo_none (qo_some (qe_var (i := 3)))) (qe_ix ixd (qe_var (i := 5)) (qe_op od_mod (qe_callTy cd_int (by rfl) B.b_int (by decide +kernel) (qa_cons (qe_op od_add (qe_var (i := 4)) (qe_op od_mul qe_int (qe_var (i := 6)))) qa_nil)) qe_int))) (qe_slice (qe_var (i := 2)) (qo_some (qe_var (i := 3))) qo_none)))))))))), fun ds R h => ?_⟩)
  · obtain ⟨n, rfl, _⟩ := h; rfl
  · obtain ⟨n, rfl, hn, q⟩ := h
    refine ⟨small (by show 5 ≤ 1000000; decide), ?_⟩
    refine ⟨_, tails.map D.str, rfl, rfl, by decide, by decide, ?_⟩
    intro x mx
    obtain ⟨tl, mt, rfl⟩ := List.mem_map.mp mx
    have t7 := tails_len tl mt
    refine ⟨small (by omega), (tl.length : Int) + 1, rfl, by omega, by omega, fun a a0 a1 => ?_⟩
    refine ⟨26, rfl, by omega, by omega, fun s s0 s1 => ⟨small (by show 2 ≤ 1000000; decide), rfl, ?_⟩⟩
    obtain ⟨a, rfl⟩ := Int.eq_ofNat_of_zero_le a0
    obtain ⟨s, rfl⟩ := Int.eq_ofNat_of_zero_le s0
    refine ⟨by omega, by omega, small (by show (rangeD 0 (n : Int).toNat).length ≤ _; unfold rangeD; rw [List.length_map, List.length_range]; omega), ?_⟩
    refine dlc_maps (fun i : Nat => D.int (0 + (i : Int))) (fun k => D.str (wordM tl a s k)) (List.range n) (fun i mi k hk => ?_) ?_
    · have hi := List.mem_range.mp mi
      refine ⟨small (by omega), .inl ⟨by omega, by omega⟩, by omega, small (by decide), ?_⟩
      have e1 : ((s : Int) + 5 * (0 + (i : Int))) % 26 = ((s + 5 * i) % 26 : Nat) := by omega
      show ∃ c, atI letters.cps.toList (((s : Int) + 5 * (0 + (i : Int))) % 26) = some c ∧ _
      rw [e1]
      refine ⟨_, atI_nat (letter_at _ (Nat.mod_lt _ (by decide))), ?_⟩
      have l1 : (cutS tl none (some (a : Int))).length ≤ 7 := by rw [len_cps, cut_lo tl (by omega), List.length_take]; omega
      have l2 : (cutS tl (some (a : Int)) none).length ≤ 7 := by rw [len_cps, cut_hi tl (by omega), List.length_drop, ← len_cps]; omega
      have l3 : (cutS tl none (some (a : Int)) ++ ⟨#[97 + (s + 5 * i) % 26]⟩ : Str).length ≤ 8 := by rw [len_cps, app_cps, List.length_append, ← len_cps]; show _ + 1 ≤ 8; omega
      exact ⟨small (by show _ + 1 ≤ _; omega), small (by omega), small (by omega), hk⟩
    · have := q tl a s mt (by omega)
      unfold wordsM at this
      rw [List.map_map] at this
      exact this
/-! ### options -/
def Φ_law_options : List D → (D → Prop) → Prop := fun ds R => ∃ (n : Nat), ds = [.bag, .int n] ∧ n ≤ 10 ∧ ∀ o : List Str, o.length = n → o.Nodup → (∀ x ∈ o, x ∈ pool) → R (eSs o)
theorem ok_law_options {f_law_options : Addr} {fd_law_options : FuncData} (B : Blt K mg) (D_law_options : DefAt K mg "_law_options" s_law_options P_law_options f_law_options fd_law_options) {f_law_mixed : Addr} {fd_law_mixed : FuncData} (D_law_mixed : DefAt K mg "_law_mixed" s_law_mixed P_law_mixed f_law_mixed fd_law_mixed) (G_law_mixed : FnOk P w K mg base CX0 2 f_law_mixed fd_law_mixed P_law_mixed (spD K Φ_law_mixed)) : FnOk P w K mg base CX0 (3) f_law_options fd_law_options P_law_options (spD K Φ_law_options) := by
  refine fn_data (k := 2) D_law_options.fn sc_law_options (fun ds R h => ?_) (fun cdv A outer s H E hr => ⟨_, (qss_cons (qs_set (i := 2) sc_law_options.nd (qe_lst (qa_cons qe_str (qa_cons qe_str (qa_cons qe_str (qa_cons qe_str (qa_cons qe_str (qa_cons qe_str (qa_cons qe_str (qa_cons qe_str (qa_cons qe_str (qa_cons qe_str qa_nil))))))))))))
      (qss_one (qs_ret (qe_callTy cd_tuple (by rfl) B.b_tuple (by decide +kernel) (qa_cons (qe_slice (qe_call (G_law_mixed) (hr.mono (by decide)) (by rfl) D_law_mixed.mgf D_law_mixed.fn.kp D_law_mixed.bd pass0 (qa_cons (qe_var (i := 0)) (qa_cons (qe_var (i := 2)) qa_nil))) qo_none (qo_some (qe_var (i := 1)))) qa_nil))))), fun ds R h => ?_⟩)
  · obtain ⟨n, rfl, _⟩ := h; rfl
  · obtain ⟨n, rfl, hn, q⟩ := h
    refine ⟨small (by show 10 ≤ 1000000; decide), ?_⟩
    refine ⟨_, rfl, by decide, fun ys hp => ?_⟩
    obtain ⟨m, rfl, pm⟩ := perm_back D.str (zs := pool.map D.str) hp pool rfl
    have e : DL.cutD (m.map D.str) none (some (n : Int)) = (m.take n).map D.str := by
      unfold DL.cutD
      rw [HT.sIx_none, HT.sIx_nat, List.drop_zero, Nat.sub_zero, List.length_map, pm.length_eq, ← List.map_take]
      show (m.take (min n 10)).map D.str = _
      rw [Nat.min_eq_left hn]
    show R (.tup (DL.cutD (m.map D.str) none (some (n : Int))))
    rw [e]
    refine q (m.take n) ?_ ?_ ?_
    · rw [List.length_take, pm.length_eq]; show min n 10 = n; omega
    · exact (pm.nodup_iff.mpr pool_nodup).sublist (List.take_sublist n m)
    · intro x mx; exact pm.mem_iff.mp (List.mem_of_mem_take mx)
end
end LW

namespace LW
open PySem PySem.Spec PyProof.Rows DL
open L2 hiding St
section
variable {P : Program} {w : World} {K : PySem.W.Frag} {mg : Str → Option Value} {base : Heap}
/-! ### fields -/
theorem lay_of {x : Str} (h : ∀ c ∈ x.cps.toList, 97 ≤ c ∧ c ≤ 122) : (PyData.str x).canLay0 = true := by
  rw [PyData.canLay0, PyData.strOk, Array.all_eq_true']
  intro c m
  have := h c (Array.mem_toList_iff.mpr m)
  exact decide_eq_true (by omega)
theorem lay_pool : ∀ x ∈ pool, (PyData.str x).canLay0 = true := by decide +kernel
theorem fld_okD {f : Fld} (h : okFld f) : okD 2 (eFld f) := by
  intro d m
  rcases List.mem_cons.mp m with rfl | m
  · exact lay_of h.nm.2.2
  · rcases List.mem_cons.mp m with rfl | m
    · intro e me
      obtain ⟨o, mo, rfl⟩ := List.mem_map.mp me
      exact lay_pool o (h.pl o mo)
    · cases m
theorem flds_okD {F : List Fld} (h : ∀ f ∈ F, okFld f) : okD 3 (.lst (F.map eFld)) := by
  intro d m
  obtain ⟨f, mf, rfl⟩ := List.mem_map.mp m
  exact fld_okD (h f mf)
theorem range_cut (j n : Nat) (h : j < n) : (rangeD 0 n).drop j = .int j :: (rangeD 0 n).drop (j + 1) := by
  have hl : (rangeD 0 n).length = n := by unfold rangeD; rw [List.length_map, List.length_range]
  have : (rangeD 0 n)[j]? = some (.int j) := by
    unfold rangeD
    rw [List.getElem?_map, List.getElem?_range h]
    show some (D.int (0 + (j : Int))) = _
    rw [Int.zero_add]
  rw [List.drop_eq_getElem_cons (by omega)]
  rw [List.getElem?_eq_getElem (by omega)] at this
  rw [Option.some.inj this]
def Φ_law_fields : List D → (D → Prop) → Prop := fun ds R => ds = [.bag, .int 24] ∧ ∀ F, okFs F → R (.lst (F.map eFld))
theorem ok_law_fields {f_law_fields : Addr} {fd_law_fields : FuncData} (B : Blt K mg) (D_law_fields : DefAt K mg "_law_fields" s_law_fields P_law_fields f_law_fields fd_law_fields) {f_law_draw : Addr} {fd_law_draw : FuncData} (D_law_draw : DefAt K mg "_law_draw" s_law_draw P_law_draw f_law_draw fd_law_draw) (G_law_draw : FnOk P w K mg base CX0 1 f_law_draw fd_law_draw P_law_draw (spD K Φ_law_draw)) {f_law_options : Addr} {fd_law_options : FuncData} (D_law_options : DefAt K mg "_law_options" s_law_options P_law_options f_law_options fd_law_options) (G_law_options : FnOk P w K mg base CX0 3 f_law_options fd_law_options P_law_options (spD K Φ_law_options)) {f_law_words : Addr} {fd_law_words : FuncData} (D_law_words : DefAt K mg "_law_words" s_law_words P_law_words f_law_words fd_law_words) (G_law_words : FnOk P w K mg base CX0 3 f_law_words fd_law_words P_law_words (spD K Φ_law_words)) : FnOk P w K mg base CX0 (4) f_law_fields fd_law_fields P_law_fields (spD K Φ_law_fields) := by
  refine fn_data (k := 3) D_law_fields.fn sc_law_fields (fun ds R h => ?_) (fun cdv A outer s H E hr => ⟨_, (qss_cons (qs_par3 (i := 2) (j := 3) (l := 4) rfl sc_law_fields.nd (qp_val (qe_call (G_law_words) (hr.mono (by decide)) (by rfl) D_law_words.mgf D_law_words.fn.kp D_law_words.bd pass0 (qa_cons (qe_var (i := 0)) (qa_cons qe_int qa_nil))) (qp_own (ql_lst qa_nil) (qp_val (qe_var (i := 1)) qp_nil))))
      (qss_cons (qs_for PassesOwn.never rfl (qi_range1 (by rfl) B.b_range (qa_cons (qe_op od_add qe_int (qe_call (G_law_draw) (hr.mono (by decide)) (by rfl) D_law_draw.mgf D_law_draw.fn.kp D_law_draw.bd pass0 (qa_cons (qe_var (i := 0)) (qa_cons qe_int qa_nil)))) qa_nil)) (qg_name sc_law_fields.nd (i := 5)) (qss_one (qs_if (qt_borrow 3 (QW.qt (qw_or (qt_cmp od_ge (qe_var (i := 4)) qe_int) (qw_or1 (qt_cmp (od_eq hr.units) (qe_var (i := 3)) (qe_lst qa_nil)))))) (qss_cons (qs_set (i := 6) sc_law_fields.nd (qe_op od_add qe_int (qe_call (G_law_draw) (hr.mono (by decide)) (by rfl) D_law_draw.mgf D_law_draw.fn.kp D_law_draw.bd pass0 (qa_cons (qe_var (i := 0)) (qa_cons (qe_callB (cd_min2 rfl) (by rfl) B.b_min (by decide +kernel) (qa_cons qe_int (qa_cons (qe_callB (cd_max2 rfl) (by rfl) B.b_max (by decide +kernel) (qa_cons qe_int (qa_cons (qe_op od_sub (qe_var (i := 4)) qe_int) qa_nil))) qa_nil))) qa_nil)))))
      (qss_cons (qs_append (i := 3) (qe_tup (qa_cons (qe_ix ixd (qe_var (i := 2)) (qe_var (i := 5))) (qa_cons (qe_call (G_law_options) (hr.mono (by decide)) (by rfl) D_law_options.mgf D_law_options.fn.kp D_law_options.bd pass0 (qa_cons (qe_var (i := 0)) (qa_cons (qe_var (i := 6)) qa_nil))) qa_nil))))
      (qss_one (qs_set (i := 4) sc_law_fields.nd (qe_op od_fdiv (qe_var (i := 4)) (qe_var (i := 6))))))) qss_nil)))
      (qss_one (qs_free 3 (qs_ret (qe_var (i := 3))))))), fun ds R h => ?_⟩)
  · obtain ⟨rfl, _⟩ := h; rfl
  · obtain ⟨rfl, q⟩ := h
    refine ⟨3, rfl, by decide, fun tl a s mt ha => ?_⟩
    refine ⟨small (by show 0 ≤ _; omega), rfl, ?_⟩
    refine ⟨3, rfl, by omega, by omega, fun r r0 r1 => ⟨by omega, by omega, ?_⟩⟩
    obtain ⟨r, rfl⟩ := Int.eq_ofNat_of_zero_le r0
    have er : (1 + (r : Int)).toNat = 1 + r := by omega
    rw [er]
    have hW : (wordsM tl a s 3).Nodup := words_nodup tl a s (by decide)
    have hL : (wordsM tl a s 3).length = 3 := by unfold wordsM; rw [List.length_map, List.length_range]
    refine dfor_ind (fun rest ρ => ∃ (j : Nat) (F : List Fld) (left : Nat) (x5 x6 : SL), rest = (rangeD 0 (1 + r)).drop j ∧ j ≤ 1 + r ∧ F.length ≤ j ∧ (j = 0 ↔ F = []) ∧ (F = [] → left = 24) ∧ (F.map (·.1)).Sublist ((wordsM tl a s 3).take j) ∧ (∀ f ∈ F, okFld f) ∧ 1 ≤ left ∧ prodM F * left ≤ 24 ∧ ρ = [.val .bag, .val (.int 24), .val (.lst ((wordsM tl a s 3).map D.str)), .own (F.map eFld), .val (.int left), x5, x6]) ?_ ?_ _ _
      ⟨0, [], 24, .nul, .nul, rfl, Nat.zero_le _, Nat.zero_le _, ⟨fun _ => rfl, fun _ => rfl⟩, fun _ => rfl, List.nil_sublist _, fun f m => (by cases m), by decide, by decide, rfl⟩
    · rintro ρ ⟨j, F, left, x5, x6, e, hj, hl, h0, h24, hs, hf, l1, hp, rfl⟩
      have hj2 : j = 1 + r := by
        by_cases z : j < 1 + r
        · rw [range_cut j _ z] at e; cases e
        · omega
      refine q F ⟨?_, by omega, hs.nodup (hW.sublist (List.take_sublist _ _)), hf, Nat.le_trans (Nat.le_mul_of_pos_right _ l1) hp⟩
      refine List.length_pos_iff.mpr fun z => ?_
      have := h0.mpr z
      omega
    · rintro c rest ρ ⟨j, F, left, x5, x6, e, hj, hl, h0, h24, hs, hf, l1, hp, rfl⟩ k
      have hj2 : j < 1 + r := by
        by_cases z : j < 1 + r
        · exact z
        · rw [List.drop_of_length_le (by unfold rangeD; rw [List.length_map, List.length_range]; omega)] at e; cases e
      rw [range_cut j _ hj2] at e
      obtain ⟨rfl, rfl⟩ := List.cons.inj e
      have hj3 : j < (wordsM tl a s 3).length := by omega
      have take : (wordsM tl a s 3).take (j + 1) = (wordsM tl a s 3).take j ++ [(wordsM tl a s 3)[j]] := (List.take_append_getElem hj3).symm
      have W : isWord (wordsM tl a s 3)[j] := by
        have m := List.getElem_mem hj3
        generalize (wordsM tl a s 3)[j] = x at m
        unfold wordsM at m
        obtain ⟨i, _, rfl⟩ := List.mem_map.mp m
        exact word_ok mt ha s _
      have gW : ((wordsM tl a s 3).map D.str)[j]? = some (.str (wordsM tl a s 3)[j]) := by rw [List.getElem?_map, List.getElem?_eq_getElem hj3]; rfl
      refine ite2 (fun e => ?_) (fun e => ?_)
      · have hl2 : (2 : Int) ≤ left := of_decide_eq_true e
        have hM : ∃ M : Int, (if (if (left : Int) - 1 > 1 then (left : Int) - 1 else 1) < 5 then (if (left : Int) - 1 > 1 then (left : Int) - 1 else 1) else 5) = M ∧ 1 ≤ M ∧ M ≤ 5 ∧ M ≤ (left : Int) - 1 := by
          refine ⟨_, rfl, ?_⟩
          split <;> split <;> omega
        obtain ⟨M, eM, m1, m5, ml⟩ := hM
        refine ⟨M, by rw [← eM], by omega, by omega, fun d d0 d1 => ⟨⟨_, rfl⟩, _, atI_nat gW, (2 + d).toNat, ?_, by omega, fun o ol ond op => ⟨small (by show 2 ≤ 1000000; decide), small' (by rw [List.length_map]; omega), ⟨by omega, by omega⟩, ?_⟩⟩⟩
        · show [D.bag, D.int (2 + d)] = [D.bag, D.int ((2 + d).toNat : Int)]
          rw [Int.toNat_of_nonneg (by omega)]
        · refine k _ ⟨j + 1, F ++ [((wordsM tl a s 3)[j], o)], ((left : Int) / (2 + d)).toNat, .val (.int j), .val (.int (2 + d)), rfl, by omega, by rw [List.length_append]; show _ + 1 ≤ _; omega, ⟨fun z => by omega, fun z => by simp at z⟩, fun z => by simp at z, by rw [take, List.map_append]; exact hs.append (List.Sublist.refl _), fun f m => ?_, ?_, ?_, ?_⟩
          · rcases List.mem_append.mp m with m | m
            · exact hf f m
            · rw [List.mem_singleton] at m
              subst m
              exact ⟨W, by show 2 ≤ o.length; omega, by show o.length ≤ 6; omega, ond, op⟩
          · have : 1 ≤ (left : Int) / (2 + d) := (Int.le_ediv_iff_mul_le (by omega)).mpr (by omega)
            omega
          · rw [prod_app]
            show prodM F * o.length * _ ≤ 24
            rw [Nat.mul_assoc]
            refine Nat.le_trans (Nat.mul_le_mul_left _ ?_) hp
            rw [ol]
            have h1 : (2 + d) * ((left : Int) / (2 + d)) ≤ left := Int.mul_ediv_self_le (by omega)
            have h2 : 0 ≤ (left : Int) / (2 + d) := Int.ediv_nonneg (by omega) (by omega)
            have h3 : (((2 + d).toNat * ((left : Int) / (2 + d)).toNat : Nat) : Int) ≤ left := by
              rw [Int.natCast_mul, Int.toNat_of_nonneg (by omega), Int.toNat_of_nonneg h2]; exact h1
            exact Int.ofNat_le.mp h3
          · have h2 : 0 ≤ (left : Int) / (2 + d) := Int.ediv_nonneg (by omega) (by omega)
            rw [Int.toNat_of_nonneg h2, List.map_append]
            rfl
      · have hl2 : ¬ (2 : Int) ≤ left := fun z => e (decide_eq_true z)
        have hF : F ≠ [] := fun z => by have := h24 z; omega
        refine ⟨small (by show 0 ≤ _; omega), (flds_okD hf).fit (by decide), by decide +kernel, ?_⟩
        have ne : eqD (.lst (F.map eFld)) (.lst []) = false := by
          cases F with
          | nil => exact absurd rfl hF
          | cons f F => rfl
        rw [ne]
        exact k _ ⟨j + 1, F, left, _, _, rfl, by omega, by omega, ⟨fun z => by omega, fun z => absurd z hF⟩, h24, by rw [take]; exact hs.trans (List.sublist_append_left _ _), hf, l1, hp, rfl⟩
end
end LW

namespace LW
open PySem PySem.Spec PyProof.Rows DL
open L2 hiding St
section
variable {P : Program} {w : World} {K : PySem.W.Frag} {mg : Str → Option Value} {base : Heap}
/-! ### cases -/
def Φ_law_case : List D → (D → Prop) → Prop := fun ds R => ∃ F : List Fld, ds = [.bag, .lst (F.map eFld)] ∧ okFs F ∧ ∀ c : Case, okCase F c → c.1.length ≤ 2 → (∀ l, c.2 = some l → l.length ≤ 2) → R (eCase c)
theorem range_len (n : Nat) : (rangeD 0 n).length = n := by unfold rangeD; rw [List.length_map, List.length_range]
/-- a loop over a range whose body ignores the number -/
theorem dfor_range {g : GD} {tb : SD} {E : EndsD} {n : Nat} (I : Nat → Rho → Prop) (ρ : Rho) (h0 : I 0 ρ) (fin : ∀ ρ, I n ρ → E.nx ρ)
    (step : ∀ (j : Nat) ρ, j < n → I j ρ → ∀ nx : Rho → Prop, (∀ ρ', I (j + 1) ρ' → nx ρ') → g (.int j) ρ fun ρ1 => tb { nx := nx, ct := nx, bk := E.nx, rt := E.rt } ρ1) : dForGo g tb E (rangeD 0 n) ρ := by
  refine dfor_ind (fun rest ρ => ∃ j, j ≤ n ∧ rest = (rangeD 0 n).drop j ∧ I j ρ) ?_ ?_ _ _ ⟨0, Nat.zero_le _, rfl, h0⟩
  · rintro ρ ⟨j, hj, e, h⟩
    have : j = n := by
      by_cases z : j < n
      · rw [range_cut j _ z] at e; cases e
      · omega
    subst this
    exact fin ρ h
  · rintro c rest ρ ⟨j, hj, e, h⟩ k
    have hj2 : j < n := by
      by_cases z : j < n
      · exact z
      · rw [List.drop_of_length_le (by rw [range_len]; omega)] at e; cases e
    rw [range_cut j _ hj2] at e
    obtain ⟨rfl, rfl⟩ := List.cons.inj e
    exact step j ρ hj2 h _ fun ρ' h' => k ρ' ⟨j + 1, hj2, rfl, h'⟩
theorem ok_law_case {f_law_case : Addr} {fd_law_case : FuncData} (B : Blt K mg) (D_law_case : DefAt K mg "_law_case" s_law_case P_law_case f_law_case fd_law_case) {f_law_draw : Addr} {fd_law_draw : FuncData} (D_law_draw : DefAt K mg "_law_draw" s_law_draw P_law_draw f_law_draw fd_law_draw) (G_law_draw : FnOk P w K mg base CX0 1 f_law_draw fd_law_draw P_law_draw (spD K Φ_law_draw)) {f_law_any : Addr} {fd_law_any : FuncData} (D_law_any : DefAt K mg "_law_any" s_law_any P_law_any f_law_any fd_law_any) (G_law_any : FnOk P w K mg base CX0 2 f_law_any fd_law_any P_law_any (spD K Φ_law_any)) : FnOk P w K mg base CX0 (3) f_law_case fd_law_case P_law_case (spD K Φ_law_case) := by
  refine fn_data (k := 2) D_law_case.fn sc_law_case (fun ds R h => ?_) (fun cdv A outer s H E hr => ⟨_, (qss_cons (qs_par (i := 2) (j := 3) rfl sc_law_case.nd (qp_own (ql_lst qa_nil) (qp_own (ql_lst qa_nil) qp_nil)))
      (qss_cons (qs_for PassesOwn.never rfl (qi_range1 (by rfl) B.b_range (qa_cons (qe_call (G_law_draw) (hr.mono (by decide)) (by rfl) D_law_draw.mgf D_law_draw.fn.kp D_law_draw.bd pass0 (qa_cons (qe_var (i := 0)) (qa_cons qe_int qa_nil))) qa_nil)) (qg_name sc_law_case.nd (i := 4)) (qss_cons (qs_asg (qe_call (G_law_any) (hr.mono (by decide)) (by rfl) D_law_any.mgf D_law_any.fn.kp D_law_any.bd pass0 (qa_cons (qe_var (i := 0)) (qa_cons (qe_var (i := 1)) qa_nil))) (QG.str (qg_tup (n := 2) rfl (qgs_cons (qg_name sc_law_case.nd (i := 5)) (qgs_cons (qg_name sc_law_case.nd (i := 6)) qgs_nil)))))
      (qss_one (qs_append (i := 2) (qe_tup (qa_cons (qe_var (i := 5)) (qa_cons (qe_call (G_law_any) (hr.mono (by decide)) (by rfl) D_law_any.mgf D_law_any.fn.kp D_law_any.bd pass0 (qa_cons (qe_var (i := 0)) (qa_cons (qe_lst (qa_cons qe_str (qa_cons qe_str (qa_cons qe_str (qa_cons qe_str qa_nil))))) qa_nil))) (qa_cons (qe_call (G_law_any) (hr.mono (by decide)) (by rfl) D_law_any.mgf D_law_any.fn.kp D_law_any.bd pass0 (qa_cons (qe_var (i := 0)) (qa_cons (qe_var (i := 6)) qa_nil))) qa_nil))))))))
      (qss_cons (qs_for PassesOwn.never rfl (qi_range1 (by rfl) B.b_range (qa_cons (qe_call (G_law_draw) (hr.mono (by decide)) (by rfl) D_law_draw.mgf D_law_draw.fn.kp D_law_draw.bd pass0 (qa_cons (qe_var (i := 0)) (qa_cons qe_int qa_nil))) qa_nil)) (qg_name sc_law_case.nd (i := 4)) (qss_cons (qs_asg (qe_call (G_law_any) (hr.mono (by decide)) (by rfl) D_law_any.mgf D_law_any.fn.kp D_law_any.bd pass0 (qa_cons (qe_var (i := 0)) (qa_cons (qe_var (i := 1)) qa_nil))) (QG.str (qg_tup (n := 2) rfl (qgs_cons (qg_name sc_law_case.nd (i := 5)) (qgs_cons (qg_name sc_law_case.nd (i := 6)) qgs_nil)))))
      (qss_one (qs_append (i := 3) (qe_tup (qa_cons (qe_var (i := 5)) (qa_cons (qe_call (G_law_any) (hr.mono (by decide)) (by rfl) D_law_any.mgf D_law_any.fn.kp D_law_any.bd pass0 (qa_cons (qe_var (i := 0)) (qa_cons (qe_op od_add (qe_lst (qa_cons qe_str qa_nil)) (qe_callTy cd_list (by rfl) B.b_list (by decide +kernel) (qa_cons (qe_var (i := 6)) qa_nil))) qa_nil))) qa_nil)))))))
      (qss_one (qs_free 3 (qs_free 2 (qs_ret (qe_tup (qa_cons (qe_callTy cd_tuple (by rfl) B.b_tuple (by decide +kernel) (qa_cons (qe_var (i := 2)) qa_nil)) (qa_cons (qe_ifExp (qt_cmp (od_eq hr.units) (qe_call (G_law_draw) (hr.mono (by decide)) (by rfl) D_law_draw.mgf D_law_draw.fn.kp D_law_draw.bd pass0 (qa_cons (qe_var (i := 0)) (qa_cons qe_int qa_nil))) qe_int) qe_non (qe_callTy cd_tuple (by rfl) B.b_tuple (by decide +kernel) (qa_cons (qe_var (i := 3)) qa_nil))) qa_nil)))))))))), fun ds R h => ?_⟩)
  · obtain ⟨F, rfl, _⟩ := h; rfl
  · obtain ⟨F, rfl, hF, q⟩ := h
    have hf0 := hF.ne
    have hf3 := hF.le
    refine ⟨small (by show 0 ≤ _; omega), small (by show 0 ≤ _; omega), rfl, ?_⟩
    refine ⟨3, rfl, by omega, by omega, fun r r0 r1 => ⟨by omega, by omega, ?_⟩⟩
    refine dfor_range (fun j ρ => ∃ (T : List Tst) (x4 x5 x6 : SL), T.length ≤ j ∧ (∀ t ∈ T, okTst F t) ∧ ρ = [.val .bag, .val (.lst (F.map eFld)), .own (T.map eTst), .own [], x4, x5, x6]) _ ⟨[], .nul, .nul, .nul, Nat.le_refl _, fun t m => (by cases m), rfl⟩ ?_ ?_
    · rintro ρ ⟨T, x4, x5, x6, hT, hT2, rfl⟩
      refine ⟨3, rfl, by omega, by omega, fun u u0 u1 => ⟨by omega, by omega, ?_⟩⟩
      refine dfor_range (fun j ρ => ∃ (S : List Stp) (x4 x5 x6 : SL), S.length ≤ j ∧ (∀ t ∈ S, okStp F t) ∧ ρ = [.val .bag, .val (.lst (F.map eFld)), .own (T.map eTst), .own (S.map eStp), x4, x5, x6]) _ ⟨[], _, _, _, Nat.le_refl _, fun t m => (by cases m), rfl⟩ ?_ ?_
      · rintro ρ ⟨S, x4, x5, x6, hS, hS2, rfl⟩
        refine ⟨5, rfl, by omega, by omega, fun v v0 v1 => ?_⟩
        refine ite2 (fun e => ⟨small (by show 2 ≤ 1000000; decide), ?_⟩) (fun e => ⟨small (by show 2 ≤ 1000000; decide), ?_⟩)
        · exact q (T, none) ⟨by show T.length ≤ _; omega, hT2, fun l e => by cases e⟩ (by show T.length ≤ 2; omega) (fun l e => by cases e)
        · exact q (T, some S) ⟨by show T.length ≤ _; omega, hT2, fun l e => by cases e; exact hS2⟩ (by show T.length ≤ 2; omega) (fun l e => by cases e; omega)
      · rintro j ρ hj ⟨S, x4, x5, x6, hS, hS2, rfl⟩ nx k
        refine ⟨_, _, rfl, rfl, by rw [List.length_map]; exact hf0, by rw [List.length_map]; omega, fun x mx => ?_⟩
        obtain ⟨f, mf, rfl⟩ := List.mem_map.mp mx
        have fo := hF.each f mf
        have h6 := fo.hi
        have h2 := fo.lo
        refine ⟨rfl, ⟨_, rfl⟩, small (by show 1 ≤ 1000000; decide), small (by rw [List.length_map]; show 1 + _ ≤ _; omega), _, _, rfl, rfl, by rw [List.length_append]; show 0 < 1 + _; omega, by rw [List.length_append, List.length_map]; show 1 + _ < _; omega, fun y my => ⟨small (by show 2 ≤ 1000000; decide), small' (by rw [List.length_map]; omega), ?_⟩⟩
        have hy : ∃ z, y = .str z ∧ (z = "+" ∨ z ∈ f.2) := by
          rcases List.mem_append.mp my with m | m
          · exact ⟨"+", List.mem_singleton.mp m, .inl rfl⟩
          · obtain ⟨o, mo, rfl⟩ := List.mem_map.mp m
            exact ⟨o, rfl, .inr mo⟩
        obtain ⟨z, rfl, hz⟩ := hy
        refine k _ ⟨S ++ [(f.1, z)], .val (.int j), .val (.str f.1), .val (eSs f.2), by rw [List.length_append]; show _ + 1 ≤ _; omega, fun t m => ?_, by rw [List.map_append]; rfl⟩
        rcases List.mem_append.mp m with m | m
        · exact hS2 t m
        · rw [List.mem_singleton] at m
          subst m
          obtain ⟨i, hi⟩ := look_of hF.nd (k := 0) mf
          exact ⟨i, f.2, hi, hz⟩
    · rintro j ρ hj ⟨T, x4, x5, x6, hT, hT2, rfl⟩ nx k
      refine ⟨_, _, rfl, rfl, by rw [List.length_map]; exact hf0, by rw [List.length_map]; omega, fun x mx => ?_⟩
      obtain ⟨f, mf, rfl⟩ := List.mem_map.mp mx
      have fo := hF.each f mf
      have h6 := fo.hi
      have h2 := fo.lo
      refine ⟨rfl, ⟨_, rfl⟩, small (by show 4 ≤ 1000000; decide), _, _, rfl, rfl, by show 0 < 4; decide, by show 4 < 1000; decide, fun y my => ?_⟩
      refine ⟨_, _, rfl, rfl, by rw [List.length_map]; omega, by rw [List.length_map]; omega, fun z mz => ⟨small (by show 3 ≤ 1000000; decide), small' (by rw [List.length_map]; omega), ?_⟩⟩
      obtain ⟨sg, ms, rfl⟩ := List.mem_map.mp (show y ∈ (["=", "!", "<", ">"] : List Str).map D.str from my)
      obtain ⟨o, mo, rfl⟩ := List.mem_map.mp mz
      refine k _ ⟨T ++ [(f.1, sg, o)], .val (.int j), .val (.str f.1), .val (eSs f.2), by rw [List.length_append]; show _ + 1 ≤ _; omega, fun t m => ?_, by rw [List.map_append]; rfl⟩
      rcases List.mem_append.mp m with m | m
      · exact hT2 t m
      · rw [List.mem_singleton] at m
        subst m
        obtain ⟨i, hi⟩ := look_of hF.nd (k := 0) mf
        exact ⟨ms, i, f.2, hi, mo⟩
end
end LW

namespace LW
open PySem PySem.Spec PyProof.Rows DL
open L2 hiding St
section
variable {P : Program} {w : World} {K : PySem.W.Frag} {mg : Str → Option Value} {base : Heap}
/-! ### the bag is made -/
theorem ok_law_bag {f_law_bag : Addr} {fd_law_bag : FuncData} (B : Blt K mg) (D_law_bag : DefAt K mg "_law_bag" s_law_bag P_law_bag f_law_bag fd_law_bag) : FnOk P w K mg base CX0 (1) f_law_bag fd_law_bag P_law_bag (spD K Φ_law_bag) := by
  refine fn_data (k := 0) D_law_bag.fn sc_law_bag (fun ds R h => ?_) (fun cdv A outer s H E hr => ⟨_, (qss_cons (qs_set (i := 1) sc_law_bag.nd (qe_op od_add qe_int (qe_op od_mul qe_int (qe_callB cd_len (by rfl) B.b_len (by decide +kernel) (qa_cons (qe_slice (qe_var (i := 0)) qo_none (qo_some qe_int)) qa_nil)))))
      (qss_cons (qs_for PassesOwn.never rfl (qi_any (qe_slice (qe_var (i := 0)) qo_none (qo_some qe_int))) (qg_name sc_law_bag.nd (i := 2)) (qss_one (qs_set (i := 1) sc_law_bag.nd (qe_op od_mod (qe_callTy cd_int (by rfl) B.b_int (by decide +kernel) (qa_cons (qe_op od_add (qe_op od_add (qe_op od_mul (qe_var (i := 1)) qe_int) (qe_op od_mod (qe_callTy cd_int (by rfl) B.b_int (by decide +kernel) (qa_cons (qe_var (i := 2)) qa_nil)) qe_int)) qe_int) qa_nil)) qe_int))))
      (qss_retBag (ql_lst (qa_cons (qe_callTy cd_list (by rfl) B.b_list (by decide +kernel) (qa_cons (qe_slice (qe_var (i := 0)) qo_none (qo_some qe_int)) qa_nil)) (qa_cons qe_int (qa_cons qe_int (qa_cons (qe_var (i := 1)) qa_nil)))))))), fun ds R h => ?_⟩)
  · obtain ⟨ns, rfl, _⟩ := h; rfl
  · obtain ⟨ns, rfl, q⟩ := h
    refine ⟨.inl ⟨by omega, by omega⟩, .inl ?_⟩
    have ec : DL.cutD (ns.map D.int) none (some 63) = (ns.take 63).map D.int := by
      unfold DL.cutD
      rw [HT.sIx_none, show (63 : Int) = ((63 : Nat) : Int) from rfl, HT.sIx_nat, List.drop_zero, Nat.sub_zero, ← List.map_take, List.length_map]
      rw [show ns.take (min 63 ns.length) = ns.take 63 by rw [← List.take_eq_take_min]]
    refine dfor_ind (fun rest ρ => ∃ (ms : List Int) (sd : Int) (x : SL), rest = ms.map D.int ∧ 0 ≤ sd ∧ sd < 2147483647 ∧ ρ = [.val (.scr ns), .val (.int sd), x]) ?_ ?_ _ _ ⟨ns.take 63, 5747 + 31 * ((DL.cutD (ns.map D.int) none (some 63)).length : Int), .nul, ec, by omega, ?_, rfl⟩
    · rintro ρ ⟨ms, sd, x, e, s0, s1, rfl⟩
      refine ⟨small (by show 4 ≤ 1000000; decide), ns.take 63, 0, 0, sd, by rw [ec], ⟨by decide, by decide, s0, s1⟩, q⟩
    · rintro c rest ρ ⟨ms, sd, x, e, s0, s1, rfl⟩ k
      cases ms with
      | nil => cases e
      | cons m ms =>
        cases e
        exact ⟨.inr ⟨by omega, by omega⟩, by omega, by omega, k _ ⟨ms, _, _, rfl, by omega, by omega, rfl⟩⟩
    · rw [ec, List.length_map, List.length_take]
      omega
/-! ### what is like itself -/
def lk : Nat → D → Prop
  | _ + 1, .non => True
  | _ + 1, .bl _ => True
  | _ + 1, .int _ => True
  | _ + 1, .str _ => True
  | n + 1, .lst ds => ds.length ≤ 1000 ∧ ∀ d ∈ ds, lk n d
  | n + 1, .tup ds => ds.length ≤ 1000 ∧ ∀ d ∈ ds, lk n d
  | _, _ => False
def Φl (n : Nat) : List D → (D → Prop) → Prop := fun ds R => ∃ d, ds = [d, d] ∧ lk n d ∧ R (.bl true)
theorem zip_same : ∀ ds : List D, zipD ds ds = ds.map fun d => .tup [d, d]
  | [] => rfl
  | d :: ds => by rw [zipD, zip_same ds]; rfl
theorem ok_law_like {f_law_like : Addr} {fd_law_like : FuncData} (B : Blt K mg) (D_law_like : DefAt K mg "_law_like" s_law_like P_law_like f_law_like fd_law_like){n : Nat} (G_law_like : FnOk P w K mg base CX0 n f_law_like fd_law_like P_law_like (spD K (Φl n))) : FnOk P w K mg base CX0 (n+1) f_law_like fd_law_like P_law_like (spD K (Φl (n+1))) := by
  refine fn_data (k := n) D_law_like.fn sc_law_like (fun ds R h => ?_) (fun cdv A outer s H E hr => ⟨_, (qss_cons (qs_if (qt_cmp od_is (qe_var (i := 1)) qe_non) (qss_one (qs_ret (qe_cmp od_is (qe_var (i := 0)) qe_non))) qss_nil)
      (qss_cons (qs_if (qt_tru (qe_isi .dict (by rfl) B.b_isinstance (by rfl) B.b_dict (qe_var (i := 1)))) qss_never qss_nil)
      (qss_cons (qs_if (qt_tru (qe_isi2 .list .tuple (by rfl) B.b_isinstance (by rfl) B.b_list (by rfl) B.b_tuple (qe_var (i := 1)))) (qss_cons (qs_if (QW.qt (qw_or (qt_cmp (od_ne hr.units) (qe_isi .list (by rfl) B.b_isinstance (by rfl) B.b_list (qe_var (i := 0))) (qe_isi .list (by rfl) B.b_isinstance (by rfl) B.b_list (qe_var (i := 1)))) (qw_or1 (qt_cmp (od_ne hr.units) (qe_isi .tuple (by rfl) B.b_isinstance (by rfl) B.b_tuple (qe_var (i := 0))) (qe_isi .tuple (by rfl) B.b_isinstance (by rfl) B.b_tuple (qe_var (i := 1))))))) (qss_one (qs_ret qe_bl)) qss_nil)
      (qss_one (qs_ret (qe_and (qe_cmp (od_eq hr.units) (qe_callB cd_len (by rfl) B.b_len (by decide +kernel) (qa_cons (qe_var (i := 0)) qa_nil)) (qe_callB cd_len (by rfl) B.b_len (by decide +kernel) (qa_cons (qe_var (i := 1)) qa_nil))) (qe_one (qe_callB (cd_all rfl) (by rfl) B.b_all (by decide +kernel) (qa_cons (QL.qe (ql_lc rfl sc_law_like.nd (blkOk_by (own := [("_law_one", 3), ("_law_other", 4)]) (N := N_law_like) (sc := defScope s_law_like) (by decide +kernel)) (qi_zipA (by rfl) B.b_zip (qa_cons (qe_var (i := 0)) (qa_cons (qe_var (i := 1)) qa_nil))) (fun _ _ _ _ _ => (qg_tup (n := 2) rfl (qgs_cons (qg_name sc_law_like.nd (i := 3)) (qgs_cons (qg_name sc_law_like.nd (i := 4)) qgs_nil)))) (fun _ _ _ _ _ => qts_nil) (fun _ _ _ _ _ => (qe_call (G_law_like) (hr.mono (Nat.le_refl _)) (by rfl) D_law_like.mgf D_law_like.fn.kp D_law_like.bd pass0 (qa_cons (qe_var (i := 3)) (qa_cons (qe_var (i := 4)) qa_nil)))))) qa_nil))))))) qss_nil)
      (qss_cons (qs_if (QW.qt (qw_or (qt_cmp (od_ne hr.units) (qe_isi .bool (by rfl) B.b_isinstance (by rfl) B.b_bool (qe_var (i := 0))) (qe_isi .bool (by rfl) B.b_isinstance (by rfl) B.b_bool (qe_var (i := 1)))) (qw_or1 (qt_cmp (od_ne hr.units) (qe_isi .int (by rfl) B.b_isinstance (by rfl) B.b_int (qe_var (i := 0))) (qe_isi .int (by rfl) B.b_isinstance (by rfl) B.b_int (qe_var (i := 1))))))) (qss_one (qs_ret qe_bl)) qss_nil)
      (qss_one (qs_ret (qe_and (qe_cmp (od_eq hr.units) (qe_isi .str (by rfl) B.b_isinstance (by rfl) B.b_str (qe_var (i := 0))) (qe_isi .str (by rfl) B.b_isinstance (by rfl) B.b_str (qe_var (i := 1)))) (qe_one (qe_cmp (od_eq hr.units) (qe_var (i := 0)) (qe_var (i := 1))))))))))), fun ds R h => ?_⟩)
  · obtain ⟨d, rfl, _⟩ := h; rfl
  · obtain ⟨d, rfl, hd, q⟩ := h
    cases d with
    | non => exact q
    | bl b =>
      show R (.bl (decide (b = b)))
      rw [decide_eq_true rfl]; exact q
    | int b =>
      show R (.bl (decide (b = b)))
      rw [decide_eq_true rfl]; exact q
    | str b =>
      show R (.bl (decide (b = b)))
      rw [decide_eq_true rfl]; exact q
    | lst ds =>
      refine ite2 (fun _ => .inl ⟨small ?_, ?_⟩) (fun e => absurd (decide_eq_true rfl) e)
      · rw [zip_same, List.length_map]; exact Nat.le_trans hd.1 (by decide)
      · rw [zip_same]
        refine dlc_maps (fun d => .tup [d, d]) (fun _ => .bl true) ds (fun d md k hk => ⟨rfl, d, rfl, hd.2 d md, hk⟩) ?_
        refine ⟨ds.map fun _ => true, bools_map _ _, ?_⟩
        rw [all_map, List.all_eq_true.mpr fun _ _ => rfl]
        exact q
    | tup ds =>
      refine ite2 (fun _ => .inr ⟨small ?_, ?_⟩) (fun e => absurd (decide_eq_true rfl) e)
      · rw [zip_same, List.length_map]; exact Nat.le_trans hd.1 (by decide)
      · rw [zip_same]
        refine dlc_maps (fun d => .tup [d, d]) (fun _ => .bl true) ds (fun d md k hk => ⟨rfl, d, rfl, hd.2 d md, hk⟩) ?_
        refine ⟨ds.map fun _ => true, bools_map _ _, ?_⟩
        rw [all_map, List.all_eq_true.mpr fun _ _ => rfl]
        exact q
    | _ => exact hd.elim
theorem like_all {f_law_like : Addr} {fd_law_like : FuncData} (B : Blt K mg) (D_law_like : DefAt K mg "_law_like" s_law_like P_law_like f_law_like fd_law_like) : ∀ n, FnOk P w K mg base CX0 n f_law_like fd_law_like P_law_like (spD K (Φl n))
  | 0 => by
    have no : ∀ vs H Q E, ¬ spD K (Φl 0) vs H Q E := by
      rintro vs H Q E ⟨ds, R, _, ⟨d, _, h, _⟩, _⟩
      cases d <;> exact h
    exact ⟨fun vs H Q E h => absurd h (no _ _ _ _), fun A outer s H args us vs Q E _ _ _ _ h => absurd h (no _ _ _ _)⟩
  | n + 1 => ok_law_like B D_law_like (like_all B D_law_like n)
end
end LW

namespace LW
open PySem PySem.Spec PyProof.Rows DL
open L2 hiding St
section
variable {P : Program} {w : World} {K : PySem.W.Frag} {mg : Str → Option Value} {base : Heap}
def Φ_is_made_of : List D → (D → Prop) → Prop := fun ds R => ∃ v s : Str, ds = [.str v, .str s] ∧ v.length ≤ 10000 ∧ R (.bl (madeM v s))
theorem ok_is_made_of {f_is_made_of : Addr} {fd_is_made_of : FuncData} (B : Blt K mg) (D_is_made_of : DefAt K mg "is_made_of" s_is_made_of P_is_made_of f_is_made_of fd_is_made_of) : FnOk P w K mg base CX0 (1) f_is_made_of fd_is_made_of P_is_made_of (spD K Φ_is_made_of) := by
  refine fn_data (k := 0) D_is_made_of.fn sc_is_made_of (fun ds R h => ?_) (fun cdv A outer s H E hr => ⟨_, (qss_cons (qs_if (QW.qt (qw_or (qt_not (qt_tru (qe_isi .str (by rfl) B.b_isinstance (by rfl) B.b_str (qe_var (i := 0))))) (qw_or1 (qt_not (qt_chain od_le od_le qe_int (qe_callB cd_len (by rfl) B.b_len (by decide +kernel) (qa_cons (qe_var (i := 0)) qa_nil)) (qe_gint (by rfl) B.c_MAX_LENGTH)))))) (qss_one (qs_ret qe_bl)) qss_nil)
      (qss_one (qs_ret (qe_callB (cd_all rfl) (by rfl) B.b_all (by decide +kernel) (qa_cons (QL.qe (ql_lc rfl sc_is_made_of.nd (blkOk_by (own := [("sign", 2)]) (N := N_is_made_of) (sc := defScope s_is_made_of) (by decide +kernel)) (qi_any (qe_var (i := 0))) (fun _ _ _ _ _ => (qg_name sc_is_made_of.nd (i := 2))) (fun _ _ _ _ _ => qts_nil) (fun _ _ _ _ _ => (qe_cmp (od_in (hu65 hr)) (qe_var (i := 2)) (qe_var (i := 1)))))) qa_nil))))), fun ds R h => ?_⟩)
  · obtain ⟨v, s, rfl, _⟩ := h; rfl
  · obtain ⟨v, s, rfl, hv, q⟩ := h
    unfold madeM at q
    refine ⟨small (by omega), ?_⟩
    refine ite2 (fun e1 => ?_) (fun e1 => ?_)
    · have e1 : 1 ≤ v.length := by have := of_decide_eq_true e1; omega
      refine ite2 (fun e2 => ?_) (fun e2 => ?_)
      · have e2 : (!decide ((v.length : Int) ≤ 8)) = true := e2
        have e2 : ¬ v.length ≤ 8 := fun z => by
          have : decide ((v.length : Int) ≤ 8) = true := decide_eq_true (by omega)
          rw [this] at e2
          cases e2
        rw [decide_eq_false e2, Bool.and_false, Bool.false_and] at q
        exact q
      · have e2 : ¬ (!decide ((v.length : Int) ≤ 8)) = true := e2
        have e2 : v.length ≤ 8 := by
          cases z : decide ((v.length : Int) ≤ 8) with
          | true => have := of_decide_eq_true z; omega
          | false => rw [z] at e2; exact absurd rfl e2
        rw [decide_eq_true e1, decide_eq_true e2, Bool.true_and, Bool.true_and] at q
        refine .inr (.inr ⟨small (by unfold DL.signs; rw [List.length_map, ← len_cps]; omega), ?_⟩)
        refine dlc_maps (fun c : Nat => D.str ⟨#[c]⟩) (fun c => .bl (false ^^ decide (c ∈ s.cps.toList))) v.cps.toList (fun c mc k hk => ⟨c, rfl, hk⟩) ?_
        refine ⟨v.cps.toList.map fun c => (false ^^ decide (c ∈ s.cps.toList)), bools_map _ _, ?_⟩
        rw [all_map]
        simp only [Bool.false_xor]
        exact q
    · have e1 : ¬ 1 ≤ v.length := fun z => e1 (decide_eq_true (by omega))
      rw [decide_eq_false e1, Bool.false_and, Bool.false_and] at q
      exact q
def Φ_is_name : List D → (D → Prop) → Prop := fun ds R => ∃ v : Str, ds = [.str v] ∧ v.length ≤ 10000 ∧ R (.bl (isNm v))
theorem ok_is_name {f_is_name : Addr} {fd_is_name : FuncData} (B : Blt K mg) (D_is_name : DefAt K mg "is_name" s_is_name P_is_name f_is_name fd_is_name) {f_is_made_of : Addr} {fd_is_made_of : FuncData} (D_is_made_of : DefAt K mg "is_made_of" s_is_made_of P_is_made_of f_is_made_of fd_is_made_of) (G_is_made_of : FnOk P w K mg base CX0 1 f_is_made_of fd_is_made_of P_is_made_of (spD K Φ_is_made_of)) : FnOk P w K mg base CX0 (2) f_is_name fd_is_name P_is_name (spD K Φ_is_name) := by
  refine fn_data (k := 1) D_is_name.fn sc_is_name (fun ds R h => ?_) (fun cdv A outer s H E hr => ⟨_, (qss_one (qs_ret (qe_call (G_is_made_of) (hr.mono (by decide)) (by rfl) D_is_made_of.mgf D_is_made_of.fn.kp D_is_made_of.bd pass0 (qa_cons (qe_var (i := 0)) (qa_cons (qe_gstr (by rfl) B.c_LETTERS) qa_nil))))), fun ds R h => ?_⟩)
  · obtain ⟨v, rfl, _⟩ := h; rfl
  · obtain ⟨v, rfl, hv, q⟩ := h
    exact ⟨v, letters, rfl, hv, q⟩
def Φ_is_option : List D → (D → Prop) → Prop := fun ds R => ∃ v : Str, ds = [.str v] ∧ v.length ≤ 10000 ∧ R (.bl (isOp v))
theorem ok_is_option {f_is_option : Addr} {fd_is_option : FuncData} (B : Blt K mg) (D_is_option : DefAt K mg "is_option" s_is_option P_is_option f_is_option fd_is_option) {f_is_made_of : Addr} {fd_is_made_of : FuncData} (D_is_made_of : DefAt K mg "is_made_of" s_is_made_of P_is_made_of f_is_made_of fd_is_made_of) (G_is_made_of : FnOk P w K mg base CX0 1 f_is_made_of fd_is_made_of P_is_made_of (spD K Φ_is_made_of)) : FnOk P w K mg base CX0 (2) f_is_option fd_is_option P_is_option (spD K Φ_is_option) := by
  refine fn_data (k := 1) D_is_option.fn sc_is_option (fun ds R h => ?_) (fun cdv A outer s H E hr => ⟨_, (qss_one (qs_ret (qe_call (G_is_made_of) (hr.mono (by decide)) (by rfl) D_is_made_of.mgf D_is_made_of.fn.kp D_is_made_of.bd pass0 (qa_cons (qe_var (i := 0)) (qa_cons (qe_op od_add (qe_gstr (by rfl) B.c_LETTERS) (qe_gstr (by rfl) B.c_DIGITS)) qa_nil))))), fun ds R h => ?_⟩)
  · obtain ⟨v, rfl, _⟩ := h; rfl
  · obtain ⟨v, rfl, hv, q⟩ := h
    exact ⟨small (by decide), v, letters ++ digits, rfl, hv, q⟩
theorem parM_len (x y : Str) : (parM x y).1.length ≤ x.length ∧ (parM x y).2.2.length ≤ x.length := by
  unfold parM
  cases e : TL.par y.cps.toList [] x.cps.toList with
  | none => exact ⟨Nat.le_refl _, Nat.zero_le _⟩
  | some ab =>
    obtain ⟨a, b⟩ := ab
    obtain ⟨p, h1, h2⟩ := par_eq e
    rw [List.nil_append] at h1
    subst h1
    have hl := congrArg List.length h2
    rw [List.length_append, List.length_append, ← len_cps] at hl
    show (⟨a.toArray⟩ : Str).length ≤ _ ∧ (⟨b.toArray⟩ : Str).length ≤ _
    rw [len_cps ⟨a.toArray⟩, len_cps ⟨b.toArray⟩]
    show a.length ≤ _ ∧ b.length ≤ _
    omega
theorem dec_not {p : Prop} [Decidable p] : (!decide p) = true ↔ ¬ p := by
  by_cases h : p
  · simp [h]
  · simp [h]
/-! ### tests and steps are read -/
def eO {α : Type} (e : α → D) : Option α → D
  | none => .non
  | some a => e a
def Φ_read_test : List D → (D → Prop) → Prop := fun ds R => ∃ v : Str, ds = [.str v] ∧ v.length ≤ 10000 ∧ R (eO eTst (rT v))
theorem ok_read_test {f_read_test : Addr} {fd_read_test : FuncData} (B : Blt K mg) (D_read_test : DefAt K mg "read_test" s_read_test P_read_test f_read_test fd_read_test) {f_is_option : Addr} {fd_is_option : FuncData} (D_is_option : DefAt K mg "is_option" s_is_option P_is_option f_is_option fd_is_option) (G_is_option : FnOk P w K mg base CX0 2 f_is_option fd_is_option P_is_option (spD K Φ_is_option)) {f_is_name : Addr} {fd_is_name : FuncData} (D_is_name : DefAt K mg "is_name" s_is_name P_is_name f_is_name fd_is_name) (G_is_name : FnOk P w K mg base CX0 2 f_is_name fd_is_name P_is_name (spD K Φ_is_name)) : FnOk P w K mg base CX0 (3) f_read_test fd_read_test P_read_test (spD K Φ_read_test) := by
  refine fn_data (k := 2) D_read_test.fn sc_read_test (fun ds R h => ?_) (fun cdv A outer s H E hr => ⟨_, (qss_cons (qs_for PassesOwn.never rfl (qi_any (qe_gdata (by rfl) B.c_SIGNS)) (qg_name sc_read_test.nd (i := 1)) (qss_cons (qs_asg (qe_meth (ty_str PySem.F.slot_str_partition PySem.F.type_str_partition md_partition) (qe_var (i := 0)) (qa_cons (qe_var (i := 1)) qa_nil)) (QG.str (qg_tup (n := 3) rfl (qgs_cons (qg_name sc_read_test.nd (i := 2)) (qgs_cons (qg_name sc_read_test.nd (i := 3)) (qgs_cons (qg_name sc_read_test.nd (i := 4)) qgs_nil))))))
      (qss_one (qs_if (QW.qt (qw_and (qt_cmp (od_ne hr.units) (qe_var (i := 3)) qe_str) (qw_and (qt_tru (qe_call (G_is_name) (hr.mono (by decide)) (by rfl) D_is_name.mgf D_is_name.fn.kp D_is_name.bd pass0 (qa_cons (qe_var (i := 2)) qa_nil))) (qw_and1 (qt_tru (qe_call (G_is_option) (hr.mono (by decide)) (by rfl) D_is_option.mgf D_is_option.fn.kp D_is_option.bd pass0 (qa_cons (qe_var (i := 4)) qa_nil))))))) (qss_one (qs_ret (qe_tup (qa_cons (qe_var (i := 2)) (qa_cons (qe_var (i := 1)) (qa_cons (qe_var (i := 4)) qa_nil)))))) qss_nil))))
      (qss_one (qs_ret qe_non))), fun ds R h => ?_⟩)
  · obtain ⟨v, rfl, _⟩ := h; rfl
  · obtain ⟨v, rfl, hv, q⟩ := h
    refine .inr (.inl ?_)
    refine dfor_ind (fun rest ρ => ∃ (ss : List Str) (x1 x2 x3 x4 : SL), rest = ss.map D.str ∧ (∀ s ∈ ss, s ∈ signs4) ∧ R (eO eTst (rTs ss v)) ∧ ρ = [.val (.str v), x1, x2, x3, x4]) ?_ ?_ _ _ ⟨signs4, .nul, .nul, .nul, .nul, rfl, fun s m => m, q, rfl⟩
    · rintro ρ ⟨ss, x1, x2, x3, x4, e, _, q, rfl⟩
      cases ss with
      | nil => exact q
      | cons s ss => cases e
    · rintro c rest ρ ⟨ss, x1, x2, x3, x4, e, hs, q, rfl⟩ k
      cases ss with
      | nil => cases e
      | cons s ss =>
        cases e
        have hs1 := hs s List.mem_cons_self
        have h0 : (s.length == 0) = false := by rw [len_cps, show s.cps.toList = [sgc s] from sg_tl s hs1]; rfl
        have hp : Txt.partition v s = parM v s := parM_eq (by rw [sg_tl s hs1]; simp)
        refine ⟨by show "str" ≠ ""; decide, ⟨[.str s], fun _ => True, h0, small (by omega), trivial⟩, h0, small (by omega), ?_⟩
        rw [hp]
        have hl := parM_len v s
        refine ⟨rfl, ?_⟩
        have no : rT1 v s = none → R (eO eTst (rTs ss v)) := fun z => by unfold rTs at q; rw [z] at q; exact q
        have yes : ∀ t, rT1 v s = some t → R (eTst t) := fun t z => by unfold rTs at q; rw [z] at q; exact q
        have nx : ∀ y2 y3 y4, rT1 v s = none → dForGo _ _ _ (ss.map D.str) [.val (.str v), .val (.str s), y2, y3, y4] := fun y2 y3 y4 z => k _ ⟨ss, _, _, _, _, rfl, fun x m => hs x (List.mem_cons_of_mem _ m), no z, rfl⟩
        unfold rT1 at no yes nx
        refine ite2 (fun e1 => ?_) (fun e1 => ?_)
        · have e1 := dec_not.mp e1
          refine ⟨_, rfl, by omega, ite2 (fun e2 => ?_) (fun e2 => ?_)⟩
          · refine ⟨_, rfl, by omega, ite2 (fun e3 => ?_) (fun e3 => ?_)⟩
            · exact ⟨small (by show 3 ≤ 1000000; decide), yes _ (if_pos (by rw [decide_eq_true e1, e2, e3]; rfl))⟩
            · exact nx _ _ _ (if_neg (by rw [Bool.eq_false_iff.mpr e3, Bool.and_false, Bool.and_false]; decide))
          · exact nx _ _ _ (if_neg (by rw [Bool.eq_false_iff.mpr e2, Bool.false_and, Bool.and_false]; decide))
        · have e1 : ¬ ¬ (parM v s).2.1 = "" := fun z => e1 (dec_not.mpr z)
          exact nx _ _ _ (if_neg (by rw [decide_eq_false e1, Bool.false_and]; decide))
def Φ_read_step : List D → (D → Prop) → Prop := fun ds R => ∃ v : Str, ds = [.str v] ∧ v.length ≤ 10000 ∧ R (eO eStp (rS v))
theorem ok_read_step {f_read_step : Addr} {fd_read_step : FuncData} (B : Blt K mg) (D_read_step : DefAt K mg "read_step" s_read_step P_read_step f_read_step fd_read_step) {f_is_name : Addr} {fd_is_name : FuncData} (D_is_name : DefAt K mg "is_name" s_is_name P_is_name f_is_name fd_is_name) (G_is_name : FnOk P w K mg base CX0 2 f_is_name fd_is_name P_is_name (spD K Φ_is_name)) {f_is_option : Addr} {fd_is_option : FuncData} (D_is_option : DefAt K mg "is_option" s_is_option P_is_option f_is_option fd_is_option) (G_is_option : FnOk P w K mg base CX0 2 f_is_option fd_is_option P_is_option (spD K Φ_is_option)) : FnOk P w K mg base CX0 (3) f_read_step fd_read_step P_read_step (spD K Φ_read_step) := by
  refine fn_data (k := 2) D_read_step.fn sc_read_step (fun ds R h => ?_) (fun cdv A outer s H E hr => ⟨_, (qss_cons (qs_asg (qe_meth (ty_str PySem.F.slot_str_partition PySem.F.type_str_partition md_partition) (qe_var (i := 0)) (qa_cons qe_str qa_nil)) (QG.str (qg_tup (n := 3) rfl (qgs_cons (qg_name sc_read_step.nd (i := 1)) (qgs_cons (qg_name sc_read_step.nd (i := 2)) (qgs_cons (qg_name sc_read_step.nd (i := 3)) qgs_nil))))))
      (qss_cons (qs_if (qt_cmp (od_ne hr.units) (qe_var (i := 2)) qe_str) (qss_one (qs_ret (qe_ifExp (QW.qt (qw_and (qt_tru (qe_call (G_is_name) (hr.mono (by decide)) (by rfl) D_is_name.mgf D_is_name.fn.kp D_is_name.bd pass0 (qa_cons (qe_var (i := 1)) qa_nil))) (qw_and1 (qt_tru (qe_call (G_is_option) (hr.mono (by decide)) (by rfl) D_is_option.mgf D_is_option.fn.kp D_is_option.bd pass0 (qa_cons (qe_var (i := 3)) qa_nil)))))) (qe_tup (qa_cons (qe_var (i := 1)) (qa_cons (qe_var (i := 3)) qa_nil))) qe_non))) qss_nil)
      (qss_one (qs_ret (qe_ifExp (QW.qt (qw_and (qt_cmp (od_eq hr.units) (qe_slice (qe_var (i := 0)) (qo_some (qe_neg qe_int)) qo_none) qe_str) (qw_and1 (qt_tru (qe_call (G_is_name) (hr.mono (by decide)) (by rfl) D_is_name.mgf D_is_name.fn.kp D_is_name.bd pass0 (qa_cons (qe_slice (qe_var (i := 0)) qo_none (qo_some (qe_neg qe_int))) qa_nil)))))) (qe_tup (qa_cons (qe_slice (qe_var (i := 0)) qo_none (qo_some (qe_neg qe_int))) (qa_cons qe_str qa_nil))) qe_non))))), fun ds R h => ?_⟩)
  · obtain ⟨v, rfl, _⟩ := h; rfl
  · obtain ⟨v, rfl, hv, q⟩ := h
    have h0 : (((":" : Str)).length == 0) = false := by decide +kernel
    have hp : Txt.partition v ":" = parM v ":" := parM_eq (by decide +kernel)
    refine ⟨by show "str" ≠ ""; decide, ⟨[.str ":"], fun _ => True, h0, small (by omega), trivial⟩, h0, small (by omega), ?_⟩
    rw [hp]
    have hl := parM_len v ":"
    refine ⟨rfl, ?_⟩
    unfold rS at q
    refine ite2 (fun e1 => ?_) (fun e1 => ?_)
    · have e1 := dec_not.mp e1
      rw [if_neg e1] at q
      refine ⟨_, rfl, by omega, ite2 (fun e2 => ?_) (fun e2 => ?_)⟩
      · refine ⟨_, rfl, by omega, ite2 (fun e3 => ?_) (fun e3 => ?_)⟩
        · rw [if_pos (by rw [e2, e3]; rfl)] at q
          exact ⟨small (by show 2 ≤ 1000000; decide), q⟩
        · rw [if_neg (by rw [Bool.eq_false_iff.mpr e3, Bool.and_false]; decide)] at q
          exact q
      · rw [if_neg (by rw [Bool.eq_false_iff.mpr e2, Bool.false_and]; decide)] at q
        exact q
    · have e1 : (parM v ":").2.1 = "" := Decidable.byContradiction fun z => e1 (dec_not.mpr z)
      rw [if_pos e1] at q
      have hc : (cutS v none (some (-1))).length ≤ 10000 := by
        rw [len_cps]
        show ((v.cps.toList.drop _).take _).length ≤ _
        rw [List.length_take, List.length_drop, ← len_cps]
        omega
      refine ⟨small (by omega), ite2 (fun e2 => ?_) (fun e2 => ?_)⟩
      · have e2 := of_decide_eq_true e2
        refine ⟨small (by omega), _, rfl, hc, ite2 (fun e3 => ?_) (fun e3 => ?_)⟩
        · rw [if_pos (by rw [decide_eq_true e2, e3]; rfl)] at q
          exact ⟨small (by omega), small (by show 2 ≤ 1000000; decide), q⟩
        · rw [if_neg (by rw [Bool.eq_false_iff.mpr e3, Bool.and_false]; decide)] at q
          exact q
      · have e2 : ¬ cutS v (some (-1)) none = "+" := fun z => e2 (decide_eq_true z)
        rw [if_neg (by rw [decide_eq_false e2, Bool.false_and]; decide)] at q
        exact q
end
end LW

namespace LW
open PySem PySem.Spec PyProof.Rows DL
open L2 hiding St
section
variable {P : Program} {w : World} {K : PySem.W.Frag} {mg : Str → Option Value} {base : Heap}
theorem seq_set {i : Nat} {t : ED} {U : SD} {E : EndsD} {ρ : Rho} (X : D) (h : ∀ R : D → Prop, R X → t ρ R) (k : U E (ρ.set i (.val X))) : dSeq (dSet i t) U E ρ := h _ k
theorem next_set {i : Nat} {t : ED} {U : SD} {E : EndsD} {ρ : Rho} {rt : D → Prop} {bk ct : Rho → Prop} (X : D) (h : ∀ R : D → Prop, R X → t ρ R) (k : U E (ρ.set i (.val X))) : dNext { nx := dSeq (dSet i t) U E, rt := rt, bk := bk, ct := ct } ρ := h _ k
theorem any_none {α : Type} (e : α → D) (he : ∀ a, eqD (e a) .non = false) : ∀ os : List (Option α), (os.map (eO e)).any (fun z => eqD z .non) = os.any (·.isNone)
  | [] => rfl
  | none :: os => by rw [List.map_cons, List.any_cons, List.any_cons, any_none e he os]; rfl
  | some a :: os => by rw [List.map_cons, List.any_cons, List.any_cons, any_none e he os, show eO e (some a) = e a from rfl, he a]; rfl
def Φ_read_case : List D → (D → Prop) → Prop := fun ds R => ∃ l : Str, ds = [.str l] ∧ l.length ≤ 9000 ∧ R (eO eCase (rC l))
theorem ok_read_case {f_read_case : Addr} {fd_read_case : FuncData} (B : Blt K mg) (D_read_case : DefAt K mg "read_case" s_read_case P_read_case f_read_case fd_read_case) {f_read_step : Addr} {fd_read_step : FuncData} (D_read_step : DefAt K mg "read_step" s_read_step P_read_step f_read_step fd_read_step) (G_read_step : FnOk P w K mg base CX0 3 f_read_step fd_read_step P_read_step (spD K Φ_read_step)) {f_read_test : Addr} {fd_read_test : FuncData} (D_read_test : DefAt K mg "read_test" s_read_test P_read_test f_read_test fd_read_test) (G_read_test : FnOk P w K mg base CX0 3 f_read_test fd_read_test P_read_test (spD K Φ_read_test)) : FnOk P w K mg base CX0 (4) f_read_case fd_read_case P_read_case (spD K Φ_read_case) := by
  refine fn_data (k := 3) D_read_case.fn sc_read_case (fun ds R h => ?_) (fun cdv A outer s H E hr => ⟨_, (qss_cons (qs_if (qt_not (qt_tru (qe_meth (ty_str PySem.F.slot_str_startswith PySem.F.type_str_startswith md_starts) (qe_var (i := 0)) (qa_cons qe_str qa_nil)))) (qss_one (qs_ret qe_non)) qss_nil)
      (qss_cons (qs_asg (qe_meth (ty_str PySem.F.slot_str_partition PySem.F.type_str_partition md_partition) (qe_slice (qe_var (i := 0)) (qo_some qe_int) qo_none) (qa_cons qe_str qa_nil)) (QG.str (qg_tup (n := 3) rfl (qgs_cons (qg_name sc_read_case.nd (i := 1)) (qgs_cons (qg_name sc_read_case.nd (i := 2)) (qgs_cons (qg_name sc_read_case.nd (i := 3)) qgs_nil))))))
      (qss_cons (qs_if (qt_cmp (od_eq hr.units) (qe_var (i := 2)) qe_str) (qss_one (qs_ret qe_non)) qss_nil)
      (qss_cons (qs_set (i := 4) sc_read_case.nd (qe_ifExp (qt_cmp (od_eq hr.units) (qe_var (i := 1)) qe_str) (qe_lst qa_nil) (QL.qe (ql_lc rfl sc_read_case.nd (blkOk_by (own := [("word", 6)]) (N := N_read_case) (sc := defScope s_read_case) (by decide +kernel)) (qi_any (qe_meth (ty_str PySem.F.slot_str_split PySem.F.type_str_split md_split) (qe_var (i := 1)) (qa_cons qe_str qa_nil))) (fun _ _ _ _ _ => (qg_name sc_read_case.nd (i := 6))) (fun _ _ _ _ _ => qts_nil) (fun _ _ _ _ _ => (qe_call (G_read_test) (hr.mono (by decide)) (by rfl) D_read_test.mgf D_read_test.fn.kp D_read_test.bd pass0 (qa_cons (qe_var (i := 6)) qa_nil)))))))
      (qss_cons (qs_if (QW.qt (qw_or (qt_cmp (od_in (hu65 hr)) qe_non (qe_var (i := 4))) (qw_or1 (qt_cmp od_gt (qe_callB cd_len (by rfl) B.b_len (by decide +kernel) (qa_cons (qe_var (i := 4)) qa_nil)) (qe_gint (by rfl) B.c_MAX_TESTS))))) (qss_one (qs_ret qe_non)) qss_nil)
      (qss_cons (qs_if (qt_cmp (od_eq hr.units) (qe_var (i := 3)) qe_str) (qss_one (qs_ret (qe_tup (qa_cons (qe_callTy cd_tuple (by rfl) B.b_tuple (by decide +kernel) (qa_cons (qe_var (i := 4)) qa_nil)) (qa_cons qe_non qa_nil))))) qss_nil)
      (qss_cons (qs_set (i := 5) sc_read_case.nd (qe_ifExp (qt_cmp (od_eq hr.units) (qe_var (i := 3)) qe_str) (qe_lst qa_nil) (QL.qe (ql_lc rfl sc_read_case.nd (blkOk_by (own := [("word", 6)]) (N := N_read_case) (sc := defScope s_read_case) (by decide +kernel)) (qi_any (qe_meth (ty_str PySem.F.slot_str_split PySem.F.type_str_split md_split) (qe_var (i := 3)) (qa_cons qe_str qa_nil))) (fun _ _ _ _ _ => (qg_name sc_read_case.nd (i := 6))) (fun _ _ _ _ _ => qts_nil) (fun _ _ _ _ _ => (qe_call (G_read_step) (hr.mono (by decide)) (by rfl) D_read_step.mgf D_read_step.fn.kp D_read_step.bd pass0 (qa_cons (qe_var (i := 6)) qa_nil)))))))
      (qss_cons (qs_if (QW.qt (qw_or (qt_cmp (od_in (hu65 hr)) qe_non (qe_var (i := 5))) (qw_or1 (qt_cmp od_gt (qe_callB cd_len (by rfl) B.b_len (by decide +kernel) (qa_cons (qe_var (i := 5)) qa_nil)) (qe_gint (by rfl) B.c_MAX_STEPS))))) (qss_one (qs_ret qe_non)) qss_nil)
      (qss_one (qs_ret (qe_tup (qa_cons (qe_callTy cd_tuple (by rfl) B.b_tuple (by decide +kernel) (qa_cons (qe_var (i := 4)) qa_nil)) (qa_cons (qe_callTy cd_tuple (by rfl) B.b_tuple (by decide +kernel) (qa_cons (qe_var (i := 5)) qa_nil)) qa_nil))))))))))))), fun ds R h => ?_⟩)
  · obtain ⟨v, rfl, _⟩ := h; rfl
  · obtain ⟨l, rfl, hl, q⟩ := h
    have k0 : ([] : List D).length ≤ sizeLine := small (by show 0 ≤ _; omega)
    unfold rC at q
    refine ⟨by show "str" ≠ ""; decide, ⟨[.str ""], fun _ => True, trivial⟩, ?_⟩
    refine ite2 (fun e1 => ?_) (fun e1 => ?_)
    · have e1 : (!Txt.startswith l "when ") = true := e1
      rw [if_neg (by intro z; rw [z] at e1; cases e1)] at q
      exact q
    · have e1 : ¬ (!Txt.startswith l "when ") = true := e1
      have e1 : Txt.startswith l "when " = true := by
        cases z : Txt.startswith l "when " with
        | true => rfl
        | false => rw [z] at e1; exact absurd rfl e1
      rw [if_pos e1] at q
      have hx : (cutS l (some 5) none).length ≤ 9000 := by
        rw [len_cps]
        show ((l.cps.toList.drop _).take _).length ≤ _
        rw [List.length_take, List.length_drop, ← len_cps]
        omega
      have h0 : (((" do " : Str)).length == 0) = false := by decide +kernel
      have hp : Txt.partition (cutS l (some 5) none) " do " = parM (cutS l (some 5) none) " do " := parM_eq (by decide +kernel)
      refine ⟨small (by omega), by show "str" ≠ ""; decide, ⟨[.str " do "], fun _ => True, h0, small (by omega), trivial⟩, h0, small (by omega), ?_⟩
      rw [hp]
      have hl2 := parM_len (cutS l (some 5) none) " do "
      generalize parM (cutS l (some 5) none) " do " = pr at q hl2
      obtain ⟨a, m, b⟩ := pr
      have la : a.length ≤ 9000 := Nat.le_trans hl2.1 hx
      have lb : b.length ≤ 9000 := Nat.le_trans hl2.2 hx
      refine ⟨rfl, ?_⟩
      refine ite2 (fun e2 => ?_) (fun e2 => ?_)
      · have e2 : m = "" := of_decide_eq_true e2
        have q : R (eO eCase (if m = "" then none else _)) := q
        rw [if_pos e2] at q
        exact q
      · have e2 : ¬ m = "" := fun z => e2 (decide_eq_true z)
        have q : R (eO eCase (if m = "" then none else match (if a = "always" then some [] else seqO ((splM a " and ").map rT)) with
            | none => none
            | some ts => if 6 < ts.length then none else rRight ts b)) := q
        rw [if_neg e2] at q
        have hos : ∃ os : List (Option Tst), os = (if a = "always" then [] else (splM a " and ").map rT) := ⟨_, rfl⟩
        obtain ⟨os, eos⟩ := hos
        have eseq : (if a = "always" then some [] else seqO ((splM a " and ").map rT)) = seqO os := by
          rw [eos]
          by_cases z : a = "always"
          · rw [if_pos z, if_pos z]; rfl
          · rw [if_neg z, if_neg z]
        rw [eseq] at q
        have los : os.length ≤ 9001 := by
          rw [eos]
          by_cases z : a = "always"
          · rw [if_pos z]; exact Nat.zero_le _
          · rw [if_neg z, List.length_map]; have := (splM_len a " and ").1; omega
        have oos : ∀ o ∈ os, okD 1 (eO eTst o) := fun o mo => by
          cases o with
          | none => exact trivial
          | some t =>
            rw [eos] at mo
            by_cases z : a = "always"
            · rw [if_pos z] at mo; cases mo
            · rw [if_neg z] at mo
              obtain ⟨w, _, hw⟩ := List.mem_map.mp mo
              exact tst_okD (rT_ok hw)
        refine next_set (.lst (os.map (eO eTst))) (fun R k => ?_) ?_
        · refine ite2 (fun e3 => ?_) (fun e3 => ?_)
          · rw [eos, if_pos (of_decide_eq_true e3)] at k
            exact ⟨k0, k⟩
          · rw [eos, if_neg (fun z => e3 (decide_eq_true z)), List.map_map] at k
            have h0 : (((" and " : Str)).length == 0) = false := by decide +kernel
            have hsp : Txt.split a " and " = splM a " and " := splM_eq (by decide +kernel) (by decide +kernel)
            refine .inl ⟨by show "str" ≠ ""; decide, ⟨[.str " and "], fun _ => True, h0, small (by omega), trivial⟩, h0, small (by omega), ?_⟩
            rw [hsp]
            have hsl := splM_len a " and "
            refine ⟨small (by rw [List.length_map]; omega), dlc_maps D.str (fun w => eO eTst (rT w)) (splM a " and ") (fun w mw k hk => ⟨w, rfl, by have := hsl.2 w mw; omega, hk⟩) k⟩
        · refine ⟨by decide +kernel, okD.fit (n := 2) (fun d m => by obtain ⟨o, mo, rfl⟩ := List.mem_map.mp m; exact oos o mo) (by decide), ?_⟩
          rw [any_none eTst (fun _ => rfl)]
          rcases seqO_cases os with ⟨g1, g2⟩ | ⟨ts, rfl, g1, g2⟩
          · rw [g1]
            rw [g2] at q
            exact q
          · rw [g1]
            rw [g2] at q
            have q : R (eO eCase (if 6 < ts.length then none else rRight ts b)) := q
            refine ite2 (fun e4 => ?_) (fun e4 => ?_)
            · have e4 : 6 < (((ts.map some).map (eO eTst)).length : Int) := of_decide_eq_true e4
              rw [List.length_map, List.length_map] at e4
              rw [if_pos (by omega)] at q
              exact q
            · have e4 : ¬ 6 < (((ts.map some).map (eO eTst)).length : Int) := fun z => e4 (decide_eq_true z)
              rw [List.length_map, List.length_map] at e4
              rw [if_neg (by omega)] at q
              have ets : (ts.map some).map (eO eTst) = ts.map eTst := by rw [List.map_map]; rfl
              rw [ets]
              unfold rRight at q
              refine ite2 (fun e5 => ?_) (fun e5 => ?_)
              · rw [if_pos (of_decide_eq_true e5)] at q
                exact ⟨small (by show 2 ≤ 1000000; decide), q⟩
              · have e5 : ¬ b = "drop" := fun z => e5 (decide_eq_true z)
                rw [if_neg e5] at q
                have hps : ∃ ps : List (Option Stp), ps = (if b = "keep" then [] else (splM b ", ").map rS) := ⟨_, rfl⟩
                obtain ⟨ps, eps⟩ := hps
                have eseq2 : (if b = "keep" then some [] else seqO ((splM b ", ").map rS)) = seqO ps := by
                  rw [eps]
                  by_cases z : b = "keep"
                  · rw [if_pos z, if_pos z]; rfl
                  · rw [if_neg z, if_neg z]
                rw [eseq2] at q
                have lps : ps.length ≤ 9001 := by
                  rw [eps]
                  by_cases z : b = "keep"
                  · rw [if_pos z]; exact Nat.zero_le _
                  · rw [if_neg z, List.length_map]; have := (splM_len b ", ").1; omega
                have ops : ∀ o ∈ ps, okD 1 (eO eStp o) := fun o mo => by
                  cases o with
                  | none => exact trivial
                  | some t =>
                    rw [eps] at mo
                    by_cases z : b = "keep"
                    · rw [if_pos z] at mo; cases mo
                    · rw [if_neg z] at mo
                      obtain ⟨w, _, hw⟩ := List.mem_map.mp mo
                      exact stp_okD (rS_ok hw)
                refine next_set (.lst (ps.map (eO eStp))) (fun R k => ?_) ?_
                · refine ite2 (fun e3 => ?_) (fun e3 => ?_)
                  · rw [eps, if_pos (of_decide_eq_true e3)] at k
                    exact ⟨k0, k⟩
                  · rw [eps, if_neg (fun z => e3 (decide_eq_true z)), List.map_map] at k
                    have h0 : (((", " : Str)).length == 0) = false := by decide +kernel
                    have hsp : Txt.split b ", " = splM b ", " := splM_eq (by decide +kernel) (by decide +kernel)
                    refine .inl ⟨by show "str" ≠ ""; decide, ⟨[.str ", "], fun _ => True, h0, small (by omega), trivial⟩, h0, small (by omega), ?_⟩
                    rw [hsp]
                    have hsl := splM_len b ", "
                    refine ⟨small (by rw [List.length_map]; omega), dlc_maps D.str (fun w => eO eStp (rS w)) (splM b ", ") (fun w mw k hk => ⟨w, rfl, by have := hsl.2 w mw; omega, hk⟩) k⟩
                · refine ⟨by decide +kernel, okD.fit (n := 2) (fun d m => by obtain ⟨o, mo, rfl⟩ := List.mem_map.mp m; exact ops o mo) (by decide), ?_⟩
                  rw [any_none eStp (fun _ => rfl)]
                  rcases seqO_cases ps with ⟨g1, g2⟩ | ⟨ss, rfl, g1, g2⟩
                  · rw [g1]
                    rw [g2] at q
                    exact q
                  · rw [g1]
                    rw [g2] at q
                    have q : R (eO eCase (if 6 < ss.length then none else some (ts, some ss))) := q
                    refine ite2 (fun e4 => ?_) (fun e4 => ?_)
                    · have e4 : 6 < (((ss.map some).map (eO eStp)).length : Int) := of_decide_eq_true e4
                      rw [List.length_map, List.length_map] at e4
                      rw [if_pos (by omega)] at q
                      exact q
                    · have e4 : ¬ 6 < (((ss.map some).map (eO eStp)).length : Int) := fun z => e4 (decide_eq_true z)
                      rw [List.length_map, List.length_map] at e4
                      rw [if_neg (by omega)] at q
                      have ess : (ss.map some).map (eO eStp) = ss.map eStp := by rw [List.map_map]; rfl
                      rw [ess]
                      exact ⟨small (by show 2 ≤ 1000000; decide), q⟩
/-! ### lines are made -/
theorem gd_two {i j : Nat} {a b : D} {ρ : Rho} {R : Rho → Prop} (h : R ((ρ.set i (.val a)).set j (.val b))) : gdCons (gdName i) (gdCons (gdName j) gdNil) [a, b] ρ R := h
theorem ts_fit {ts : List Tst} (h : ∀ t ∈ ts, okT t) : fit (.tup (ts.map eTst)) = true := okD.fit (n := 2) (fun d m => by obtain ⟨t, mt, rfl⟩ := List.mem_map.mp m; exact tst_okD (h t mt)) (by decide)
theorem ws_fit {ss : List Stp} (h : ∀ s ∈ ss, okS s) : fit (.lst (ss.map fun s => .str (sW s))) = true := okD.fit (n := 1) (fun d m => by obtain ⟨t, mt, rfl⟩ := List.mem_map.mp m; exact sW_lay (h t mt)) (by decide)
theorem ts_join {ts : List Tst} (h6 : ts.length ≤ 6) (h : ∀ t ∈ ts, okT t) : ((ts.map tW).map (·.length)).sum + (ts.map tW).length * (" and " : Str).length ≤ 132 ∧ (Txt.join " and " (ts.map tW)).length ≤ 132 :=
  join_len (by decide +kernel) (by rw [List.length_map]; exact h6) fun w m => by obtain ⟨t, mt, rfl⟩ := List.mem_map.mp m; have := (tW_len (h t mt)).2; rw [← TL.len_tl] at this; exact this
theorem ss_join {ss : List Stp} (h6 : ss.length ≤ 6) (h : ∀ t ∈ ss, okS t) : ((ss.map sW).map (·.length)).sum + (ss.map sW).length * (", " : Str).length ≤ 132 ∧ (Txt.join ", " (ss.map sW)).length ≤ 132 :=
  join_len (by decide +kernel) (by rw [List.length_map]; exact h6) fun w m => by obtain ⟨t, mt, rfl⟩ := List.mem_map.mp m; exact sW_len (h t mt)
theorem tW_parts {t : Tst} (h : okT t) : t.1.length + t.2.1.length ≤ 9 ∧ (t.1 ++ t.2.1).length + t.2.2.length ≤ 17 := by
  have h1 := made_len h.nm
  have h2 := made_len h.op
  have h3 : t.2.1.length = 1 := by rw [TL.len_tl, sg_tl _ h.sg]; rfl
  rw [app_len]
  omega
theorem one_len : ("+" : Str).length = 1 ∧ (":" : Str).length = 1 := by decide +kernel
theorem sW_read {s : Stp} (h : okS s) {R : D → Prop} (hk : R (.str (sW s))) : if decide (s.2 = "+") = true then (s.1.length + ("+" : Str).length ≤ sizeLine ∧ R (.str (s.1 ++ "+"))) else (s.1.length + (":" : Str).length ≤ sizeLine ∧ (s.1 ++ ":").length + s.2.length ≤ sizeLine ∧ R (.str (s.1 ++ ":" ++ s.2))) := by
  have h1 := made_len h.nm
  have h2 := one_len
  unfold sW at hk
  refine ite2 (fun e => ?_) (fun e => ?_)
  · rw [if_pos (of_decide_eq_true e)] at hk
    exact ⟨small (by omega), hk⟩
  · have e : ¬ s.2 = "+" := fun z => e (decide_eq_true z)
    have h3 := made_len (h.op.resolve_left e)
    rw [if_neg e] at hk
    exact ⟨small (by omega), small (by rw [app_len]; omega), hk⟩
theorem lens : ("when " : Str).length = 5 ∧ (" do drop" : Str).length = 8 ∧ (" do " : Str).length = 4 := by decide +kernel
def Φ_case_text : List D → (D → Prop) → Prop := fun ds R => ∃ c : Case, ds = [eCase c] ∧ okC c ∧ R (.str (lineM c))
theorem ok_case_text {f_case_text : Addr} {fd_case_text : FuncData} (B : Blt K mg) (D_case_text : DefAt K mg "case_text" s_case_text P_case_text f_case_text fd_case_text) : FnOk P w K mg base CX0 (1) f_case_text fd_case_text P_case_text (spD K Φ_case_text) := by
  refine fn_data (k := 0) D_case_text.fn sc_case_text (fun ds R h => ?_) (fun cdv A outer s H E hr => ⟨_, (qss_cons (qs_asg (qe_var (i := 0)) (QG.str (qg_tup (n := 2) rfl (qgs_cons (qg_name sc_case_text.nd (i := 1)) (qgs_cons (qg_name sc_case_text.nd (i := 2)) qgs_nil)))))
      (qss_cons (qs_set (i := 3) sc_case_text.nd (qe_ifExp (qt_cmp (od_ne hr.units) (qe_var (i := 1)) (qe_tup qa_nil)) (qe_meth (ty_str PySem.F.slot_str_join PySem.F.type_str_join md_join) qe_str (qa_cons (QL.qe (ql_lc rfl sc_case_text.nd (blkOk_by (own := [("name", 5), ("sign", 6), ("option", 7)]) (N := N_case_text) (sc := defScope s_case_text) (by decide +kernel)) (qi_any (qe_var (i := 1))) (fun _ _ _ _ _ => (QG.str (qg_tup (n := 3) rfl (qgs_cons (qg_name sc_case_text.nd (i := 5)) (qgs_cons (qg_name sc_case_text.nd (i := 6)) (qgs_cons (qg_name sc_case_text.nd (i := 7)) qgs_nil)))))) (fun _ _ _ _ _ => qts_nil) (fun _ _ _ _ _ => (qe_op od_add (qe_op od_add (qe_var (i := 5)) (qe_var (i := 6))) (qe_var (i := 7)))))) qa_nil)) qe_str))
      (qss_cons (qs_if (qt_cmp od_is (qe_var (i := 2)) qe_non) (qss_one (qs_ret (qe_op od_add (qe_op od_add qe_str (qe_var (i := 3))) qe_str))) qss_nil)
      (qss_cons (qs_setLc (i := 4) rfl sc_case_text.nd (blkOk_by (own := [("name", 5), ("option", 7)]) (N := N_case_text) (sc := defScope s_case_text) (by decide +kernel)) (qi_any (qe_var (i := 2))) (fun _ _ _ _ _ => (QG.str (qg_tup (n := 2) rfl (qgs_cons (qg_name sc_case_text.nd (i := 5)) (qgs_cons (qg_name sc_case_text.nd (i := 7)) qgs_nil))))) (fun _ _ _ _ _ => qts_nil) (fun _ _ _ _ _ => (qe_ifExp (qt_cmp (od_eq hr.units) (qe_var (i := 7)) qe_str) (qe_op od_add (qe_var (i := 5)) qe_str) (qe_op od_add (qe_op od_add (qe_var (i := 5)) qe_str) (qe_var (i := 7))))) (sw_true rfl rfl rfl (by decide +kernel)))
      (qss_one (qs_ret (qe_op od_add (qe_op od_add (qe_op od_add qe_str (qe_var (i := 3))) qe_str) (qe_ifExp (qt_cmp (od_ne hr.units) (qe_var (i := 4)) (qe_lst qa_nil)) (qe_meth (ty_str PySem.F.slot_str_join PySem.F.type_str_join md_join) qe_str (qa_cons (qe_var (i := 4)) qa_nil)) qe_str)))))))), fun ds R h => ?_⟩)
  · obtain ⟨c, rfl, _⟩ := h; rfl
  · obtain ⟨c, rfl, hc, q⟩ := h
    obtain ⟨ts, o⟩ := c
    have h6 : ts.length ≤ 6 := hc.t6
    have ht : ∀ t ∈ ts, okT t := hc.ts
    have k0 : ([] : List D).length ≤ sizeLine := small (by show 0 ≤ _; omega)
    have ll := left_len h6 ht
    have kl := lens
    refine ⟨rfl, gd_two ?_⟩
    dsimp only
    refine seq_set (.str (leftM ts)) (fun R k => ?_) ?_
    · refine ⟨k0, ts_fit ht, by decide +kernel, ?_⟩
      rw [eqD_tup_nil]
      refine ite2 (fun e => ?_) (fun e => ?_)
      · have ne : ¬ ts = [] := fun z => by rw [z] at e; exact absurd e (by decide)
        refine ⟨by show "str" ≠ ""; decide, ⟨[.lst []], fun _ => True, [], rfl, by show 0 + 0 * _ ≤ _; omega, trivial⟩, .inr (.inl ⟨small (by rw [List.length_map]; omega), ?_⟩)⟩
        refine dlc_maps eTst (fun t => .str (tW t)) ts (fun t mt k hk => ⟨rfl, small (by have := (tW_parts (ht t mt)).1; omega), small (by have := (tW_parts (ht t mt)).2; omega), hk⟩) ?_
        refine ⟨ts.map tW, by rw [List.map_map]; rfl, by have := (ts_join h6 ht).1; omega, ?_⟩
        unfold leftM at k
        rw [if_neg ne] at k
        exact k
      · have ez : ts = [] := by
          cases ts with
          | nil => rfl
          | cons t ts => exact absurd rfl e
        unfold leftM at k
        rw [if_pos ez] at k
        exact k
    · cases o with
      | none => exact ⟨small (by omega), small (by rw [app_len]; omega), q⟩
      | some ss =>
        have hs6 : ss.length ≤ 6 := hc.s6 ss rfl
        have hs : ∀ s ∈ ss, okS s := hc.ss ss rfl
        have lr := right_len hs6 hs
        refine .inr (.inl ⟨small (by rw [List.length_map]; omega), dlc_maps eStp (fun s => .str (sW s)) ss (fun s ms k hk => ⟨rfl, sW_read (hs s ms) hk⟩) ?_⟩)
        refine ⟨small (by omega), small (by rw [app_len]; omega), k0, ws_fit hs, by decide +kernel, ?_⟩
        rw [eqD_lst_nil]
        have lw : ("when " ++ leftM ts ++ " do " : Str).length ≤ 200 := by rw [app_len, app_len]; omega
        refine ite2 (fun e => ?_) (fun e => ?_)
        · have ne : ¬ ss = [] := fun z => by rw [z] at e; exact absurd e (by decide)
          have er : rightM ss = Txt.join ", " (ss.map sW) := by unfold rightM; rw [if_neg ne]
          have q : R (.str ("when " ++ leftM ts ++ " do " ++ rightM ss)) := q
          rw [er] at q lr
          refine ⟨by show "str" ≠ ""; decide, ⟨[.lst []], fun _ => True, [], rfl, by show 0 + 0 * _ ≤ _; omega, trivial⟩, ss.map sW, by rw [List.map_map]; rfl, by have := (ss_join hs6 hs).1; omega, small (by omega), q⟩
        · have ez : ss = [] := by
            cases ss with
            | nil => rfl
            | cons t ts => exact absurd rfl e
          have er : rightM ss = "keep" := by unfold rightM; rw [if_pos ez]
          have q : R (.str ("when " ++ leftM ts ++ " do " ++ rightM ss)) := q
          rw [er] at q lr
          exact ⟨small (by omega), q⟩
def Φ_law_line : List D → (D → Prop) → Prop := fun ds R => ∃ c : Case, ds = [eCase c] ∧ okC c ∧ R (.str (lineM c))
theorem ok_law_line {f_law_line : Addr} {fd_law_line : FuncData} (B : Blt K mg) (D_law_line : DefAt K mg "_law_line" s_law_line P_law_line f_law_line fd_law_line) : FnOk P w K mg base CX0 (1) f_law_line fd_law_line P_law_line (spD K Φ_law_line) := by
  refine fn_data (k := 0) D_law_line.fn sc_law_line (fun ds R h => ?_) (fun cdv A outer s H E hr => ⟨_, (qss_cons (qs_asg (qe_var (i := 0)) (QG.str (qg_tup (n := 2) rfl (qgs_cons (qg_name sc_law_line.nd (i := 1)) (qgs_cons (qg_name sc_law_line.nd (i := 2)) qgs_nil)))))
      (qss_cons (qs_set (i := 3) sc_law_line.nd (qe_meth (ty_str PySem.F.slot_str_join PySem.F.type_str_join md_join) qe_str (qa_cons (QL.qe (ql_lc rfl sc_law_line.nd (blkOk_by (own := [("_law_name", 5), ("_law_sign", 7), ("_law_option", 6)]) (N := N_law_line) (sc := defScope s_law_line) (by decide +kernel)) (qi_any (qe_var (i := 1))) (fun _ _ _ _ _ => (QG.str (qg_tup (n := 3) rfl (qgs_cons (qg_name sc_law_line.nd (i := 5)) (qgs_cons (qg_name sc_law_line.nd (i := 7)) (qgs_cons (qg_name sc_law_line.nd (i := 6)) qgs_nil)))))) (fun _ _ _ _ _ => qts_nil) (fun _ _ _ _ _ => (qe_op od_add (qe_op od_add (qe_var (i := 5)) (qe_var (i := 7))) (qe_var (i := 6)))))) qa_nil)))
      (qss_cons (qs_set (i := 3) sc_law_line.nd (qe_ifExp (qt_cmp (od_ne hr.units) (qe_var (i := 1)) (qe_tup qa_nil)) (qe_var (i := 3)) qe_str))
      (qss_cons (qs_if (qt_cmp od_is (qe_var (i := 2)) qe_non) (qss_one (qs_ret (qe_op od_add (qe_op od_add qe_str (qe_var (i := 3))) qe_str))) qss_nil)
      (qss_cons (qs_own (i := 4) sc_law_line.nd (ql_lst qa_nil))
      (qss_cons (qs_for PassesOwn.never rfl (qi_any (qe_var (i := 2))) (QG.str (qg_tup (n := 2) rfl (qgs_cons (qg_name sc_law_line.nd (i := 5)) (qgs_cons (qg_name sc_law_line.nd (i := 6)) qgs_nil)))) (qss_one (qs_append (i := 4) (qe_ifExp (qt_cmp (od_eq hr.units) (qe_var (i := 6)) qe_str) (qe_op od_add (qe_var (i := 5)) qe_str) (qe_op od_add (qe_op od_add (qe_var (i := 5)) qe_str) (qe_var (i := 6)))))))
      (qss_one (qs_free 4 (qs_ret (qe_op od_add (qe_op od_add (qe_op od_add qe_str (qe_var (i := 3))) qe_str) (qe_ifExp (qt_cmp (od_ne hr.units) (qe_var (i := 4)) (qe_lst qa_nil)) (qe_meth (ty_str PySem.F.slot_str_join PySem.F.type_str_join md_join) qe_str (qa_cons (qe_var (i := 4)) qa_nil)) qe_str))))))))))), fun ds R h => ?_⟩)
  · obtain ⟨c, rfl, _⟩ := h; rfl
  · obtain ⟨c, rfl, hc, q⟩ := h
    obtain ⟨ts, o⟩ := c
    have h6 : ts.length ≤ 6 := hc.t6
    have ht : ∀ t ∈ ts, okT t := hc.ts
    have k0 : ([] : List D).length ≤ sizeLine := small (by show 0 ≤ _; omega)
    have ll := left_len h6 ht
    have kl := lens
    refine ⟨rfl, gd_two ?_⟩
    dsimp only
    refine seq_set (.str (Txt.join " and " (ts.map tW))) (fun R k => ?_) ?_
    · refine ⟨by show "str" ≠ ""; decide, ⟨[.lst []], fun _ => True, [], rfl, by show 0 + 0 * _ ≤ _; omega, trivial⟩, .inr (.inl ⟨small (by rw [List.length_map]; omega), ?_⟩)⟩
      refine dlc_maps eTst (fun t => .str (tW t)) ts (fun t mt k hk => ⟨rfl, small (by have := (tW_parts (ht t mt)).1; omega), small (by have := (tW_parts (ht t mt)).2; omega), hk⟩) ?_
      exact ⟨ts.map tW, by rw [List.map_map]; rfl, by have := (ts_join h6 ht).1; omega, k⟩
    · refine seq_set (.str (leftM ts)) (fun R k => ?_) ?_
      · refine ⟨k0, ts_fit ht, by decide +kernel, ?_⟩
        rw [eqD_tup_nil]
        unfold leftM at k
        refine ite2 (fun e => ?_) (fun e => ?_)
        · have ne : ¬ ts = [] := fun z => by rw [z] at e; exact absurd e (by decide)
          rw [if_neg ne] at k
          exact k
        · have ez : ts = [] := by
            cases ts with
            | nil => rfl
            | cons t ts => exact absurd rfl e
          rw [if_pos ez] at k
          exact k
      · cases o with
        | none => exact ⟨small (by omega), small (by rw [app_len]; omega), q⟩
        | some ss =>
          have hs6 : ss.length ≤ 6 := hc.s6 ss rfl
          have hs : ∀ s ∈ ss, okS s := hc.ss ss rfl
          have lr := right_len hs6 hs
          refine ⟨k0, .inr (.inl ?_)⟩
          refine dfor_ind (fun rest ρ => ∃ (pre post : List Stp) (x5 x6 x7 : SL), ss = pre ++ post ∧ rest = post.map eStp ∧ ρ = [.val (eCase (ts, some ss)), .val (.tup (ts.map eTst)), .val (.tup (ss.map eStp)), .val (.str (leftM ts)), .own (pre.map fun s => .str (sW s)), x5, x6, x7]) ?_ ?_ _ _ ⟨[], ss, _, _, _, rfl, rfl, rfl⟩
          · rintro ρ ⟨pre, post, x5, x6, x7, es, e, rfl⟩
            cases post with
            | cons s post => cases e
            | nil =>
              rw [List.append_nil] at es
              subst es
              refine ⟨small (by omega), small (by rw [app_len]; omega), k0, ws_fit hs, by decide +kernel, ?_⟩
              rw [eqD_lst_nil]
              have lw : ("when " ++ leftM ts ++ " do " : Str).length ≤ 200 := by rw [app_len, app_len]; omega
              refine ite2 (fun e => ?_) (fun e => ?_)
              · have ne : ¬ ss = [] := fun z => by rw [z] at e; exact absurd e (by decide)
                have er : rightM ss = Txt.join ", " (ss.map sW) := by unfold rightM; rw [if_neg ne]
                have q : R (.str ("when " ++ leftM ts ++ " do " ++ rightM ss)) := q
                rw [er] at q lr
                refine ⟨by show "str" ≠ ""; decide, ⟨[.lst []], fun _ => True, [], rfl, by show 0 + 0 * _ ≤ _; omega, trivial⟩, ss.map sW, by rw [List.map_map]; rfl, by have := (ss_join hs6 hs).1; omega, small (by omega), q⟩
              · have ez : ss = [] := by
                  cases ss with
                  | nil => rfl
                  | cons t ts => exact absurd rfl e
                have er : rightM ss = "keep" := by unfold rightM; rw [if_pos ez]
                have q : R (.str ("when " ++ leftM ts ++ " do " ++ rightM ss)) := q
                rw [er] at q lr
                exact ⟨small (by omega), q⟩
          · rintro c rest ρ ⟨pre, post, x5, x6, x7, es, e, rfl⟩ k
            cases post with
            | nil => cases e
            | cons s post =>
              cases e
              have hp : pre.length < 6 := by rw [es, List.length_append, List.length_cons] at hs6; omega
              have so := hs s (by rw [es]; simp)
              have h1 := made_len so.nm
              have h2 := one_len
              have nx : ∀ z, z = sW s → dForGo _ _ _ (post.map eStp) [.val (eCase (ts, some ss)), .val (.tup (ts.map eTst)), .val (.tup (ss.map eStp)), .val (.str (leftM ts)), .own ((pre.map fun s => .str (sW s)) ++ [.str z]), .val (.str s.1), .val (.str s.2), x7] := fun z ez => k _ ⟨pre ++ [s], post, .val (.str s.1), .val (.str s.2), x7, by rw [es, List.append_assoc]; rfl, rfl, by rw [List.map_append, ez]; rfl⟩
              refine ⟨rfl, ⟨_, rfl⟩, ite2 (fun e => ?_) (fun e => ?_)⟩
              · exact ⟨small (by omega), small' (by rw [List.length_map]; omega), nx _ (by unfold sW; rw [if_pos (of_decide_eq_true e)])⟩
              · have e : ¬ s.2 = "+" := fun z => e (decide_eq_true z)
                have h3 := made_len (so.op.resolve_left e)
                exact ⟨small (by omega), small (by rw [app_len]; omega), small' (by rw [List.length_map]; omega), nx _ (by unfold sW; rw [if_neg e])⟩
end
end LW

namespace LW
open PySem PySem.Spec PyProof.Rows DL
open L2 hiding St
section
variable {P : Program} {w : World} {K : PySem.W.Frag} {mg : Str → Option Value} {base : Heap}
theorem lk_strs {n : Nat} {l : List D} (h6 : l.length ≤ 6) (h : ∀ d ∈ l, ∃ x : Str, d = .str x) : lk (n + 2) (.tup l) := ⟨by omega, fun d m => by obtain ⟨x, rfl⟩ := h d m; trivial⟩
theorem lk_case {z : Case} (h : okC z) : lk 4 (eCase z) := by
  obtain ⟨ts, o⟩ := z
  have h6 : ts.length ≤ 6 := h.t6
  refine ⟨by show 2 ≤ 1000; decide, fun d m => ?_⟩
  rcases List.mem_cons.mp m with rfl | m
  · refine ⟨by show (ts.map eTst).length ≤ 1000; rw [List.length_map]; omega, fun d m => ?_⟩
    obtain ⟨t, _, rfl⟩ := List.mem_map.mp m
    exact lk_strs (n := 0) (by show 3 ≤ 6; decide) fun d m => by
      rcases List.mem_cons.mp m with rfl | m
      · exact ⟨_, rfl⟩
      · rcases List.mem_cons.mp m with rfl | m
        · exact ⟨_, rfl⟩
        · rw [List.mem_singleton] at m; exact ⟨_, m⟩
  · have m : d = eStps o := List.mem_singleton.mp m
    subst m
    cases o with
    | none => trivial
    | some ss =>
      have s6 : ss.length ≤ 6 := h.s6 ss rfl
      refine ⟨by rw [List.length_map]; omega, fun d m => ?_⟩
      obtain ⟨t, _, rfl⟩ := List.mem_map.mp m
      exact lk_strs (n := 0) (by show 2 ≤ 6; decide) fun d m => by
        rcases List.mem_cons.mp m with rfl | m
        · exact ⟨_, rfl⟩
        · rw [List.mem_singleton] at m; exact ⟨_, m⟩
def bendL : List Str := ["", " ", ",", "+", ":", "=", "<", "a", "7", "A", " and "]
theorem bend_len : ∀ s ∈ bendL, s.length ≤ 5 := by decide +kernel
def Φ_law : List D → (D → Prop) → Prop := fun ds R => ∃ ns, ds = [.scr ns] ∧ R (.bl true)
theorem ok_law {f_law : Addr} {fd_law : FuncData} (B : Blt K mg) (D_law : DefAt K mg "law" s_law P_law f_law fd_law) {f_read_case : Addr} {fd_read_case : FuncData} (D_read_case : DefAt K mg "read_case" s_read_case P_read_case f_read_case fd_read_case) (G_read_case : FnOk P w K mg base CX0 4 f_read_case fd_read_case P_read_case (spD K Φ_read_case)) {f_law_line : Addr} {fd_law_line : FuncData} (D_law_line : DefAt K mg "_law_line" s_law_line P_law_line f_law_line fd_law_line) (G_law_line : FnOk P w K mg base CX0 1 f_law_line fd_law_line P_law_line (spD K Φ_law_line)) {f_law_draw : Addr} {fd_law_draw : FuncData} (D_law_draw : DefAt K mg "_law_draw" s_law_draw P_law_draw f_law_draw fd_law_draw) (G_law_draw : FnOk P w K mg base CX0 1 f_law_draw fd_law_draw P_law_draw (spD K Φ_law_draw)) {f_law_any : Addr} {fd_law_any : FuncData} (D_law_any : DefAt K mg "_law_any" s_law_any P_law_any f_law_any fd_law_any) (G_law_any : FnOk P w K mg base CX0 2 f_law_any fd_law_any P_law_any (spD K Φ_law_any)) {f_law_like : Addr} {fd_law_like : FuncData} (D_law_like : DefAt K mg "_law_like" s_law_like P_law_like f_law_like fd_law_like) (G_law_like : FnOk P w K mg base CX0 5 f_law_like fd_law_like P_law_like (spD K (Φl 5))) {f_case_text : Addr} {fd_case_text : FuncData} (D_case_text : DefAt K mg "case_text" s_case_text P_case_text f_case_text fd_case_text) (G_case_text : FnOk P w K mg base CX0 1 f_case_text fd_case_text P_case_text (spD K Φ_case_text)) {f_law_case : Addr} {fd_law_case : FuncData} (D_law_case : DefAt K mg "_law_case" s_law_case P_law_case f_law_case fd_law_case) (G_law_case : FnOk P w K mg base CX0 3 f_law_case fd_law_case P_law_case (spD K Φ_law_case)) {f_law_fields : Addr} {fd_law_fields : FuncData} (D_law_fields : DefAt K mg "_law_fields" s_law_fields P_law_fields f_law_fields fd_law_fields) (G_law_fields : FnOk P w K mg base CX0 4 f_law_fields fd_law_fields P_law_fields (spD K Φ_law_fields)) {f_law_bag : Addr} {fd_law_bag : FuncData} (D_law_bag : DefAt K mg "_law_bag" s_law_bag P_law_bag f_law_bag fd_law_bag) (G_law_bag : FnOk P w K mg base CX0 1 f_law_bag fd_law_bag P_law_bag (spD K Φ_law_bag))(K_case_text_case : KB0 K fd_case_text P_case_text ["case"] [0]) (K_read_case_line : KB0 K fd_read_case P_read_case ["line"] [0]) : FnOk P w K mg base CX0 (6) f_law fd_law P_law (spD K Φ_law) := by
  refine fn_data (k := 5) D_law.fn sc_law (fun ds R h => ?_) (fun cdv A outer s H E hr => ⟨_, (qss_cons (qs_set (i := 1) sc_law.nd (qe_call (G_law_bag) (hr.mono (by decide)) (by rfl) D_law_bag.mgf D_law_bag.fn.kp D_law_bag.bd pass0 (qa_cons (qe_var (i := 0)) qa_nil)))
      (qss_cons (qs_for PassesOwn.never rfl (qi_range1 (by rfl) B.b_range (qa_cons qe_int qa_nil)) (qg_name sc_law.nd (i := 2)) (qss_cons (qs_set (i := 3) sc_law.nd (qe_call (G_law_fields) (hr.mono (by decide)) (by rfl) D_law_fields.mgf D_law_fields.fn.kp D_law_fields.bd pass0 (qa_cons (qe_var (i := 1)) (qa_cons qe_int qa_nil))))
      (qss_cons (qs_asg (qe_call (G_law_case) (hr.mono (by decide)) (by rfl) D_law_case.mgf D_law_case.fn.kp D_law_case.bd pass0 (qa_cons (qe_var (i := 1)) (qa_cons (qe_var (i := 3)) qa_nil))) (QG.str (qg_tup (n := 2) rfl (qgs_cons (qg_name sc_law.nd (i := 4)) (qgs_cons (qg_name sc_law.nd (i := 5)) qgs_nil)))))
      (qss_cons (qs_for PassesOwn.never rfl (qi_range1 (by rfl) B.b_range (qa_cons (qe_call (G_law_draw) (hr.mono (by decide)) (by rfl) D_law_draw.mgf D_law_draw.fn.kp D_law_draw.bd pass0 (qa_cons (qe_var (i := 1)) (qa_cons qe_int qa_nil))) qa_nil)) (qg_name sc_law.nd (i := 6)) (qss_one (qs_set (i := 4) sc_law.nd (qe_op od_add (qe_var (i := 4)) (qe_ix ixd (qe_call (G_law_case) (hr.mono (by decide)) (by rfl) D_law_case.mgf D_law_case.fn.kp D_law_case.bd pass0 (qa_cons (qe_var (i := 1)) (qa_cons (qe_var (i := 3)) qa_nil))) qe_int)))))
      (qss_cons (qs_for PassesOwn.never rfl (qi_range1 (by rfl) B.b_range (qa_cons (qe_call (G_law_draw) (hr.mono (by decide)) (by rfl) D_law_draw.mgf D_law_draw.fn.kp D_law_draw.bd pass0 (qa_cons (qe_var (i := 1)) (qa_cons qe_int qa_nil))) qa_nil)) (qg_name sc_law.nd (i := 6)) (qss_cons (qs_set (i := 7) sc_law.nd (qe_ix ixd (qe_call (G_law_case) (hr.mono (by decide)) (by rfl) D_law_case.mgf D_law_case.fn.kp D_law_case.bd pass0 (qa_cons (qe_var (i := 1)) (qa_cons (qe_var (i := 3)) qa_nil))) qe_int))
      (qss_one (qs_set (i := 5) sc_law.nd (qe_ifExp (QW.qt (qw_or (qt_cmp od_is (qe_var (i := 5)) qe_non) (qw_or1 (qt_cmp od_is (qe_var (i := 7)) qe_non)))) (qe_var (i := 5)) (qe_op od_add (qe_var (i := 5)) (qe_var (i := 7))))))))
      (qss_cons (qs_set (i := 8) sc_law.nd (qe_tup (qa_cons (qe_slice (qe_var (i := 4)) qo_none (qo_some qe_int)) (qa_cons (qe_ifExp (qt_cmp od_is (qe_var (i := 5)) qe_non) qe_non (qe_slice (qe_var (i := 5)) qo_none (qo_some qe_int))) qa_nil))))
      (qss_cons (qs_set (i := 9) sc_law.nd (qe_call (G_law_line) (hr.mono (by decide)) (by rfl) D_law_line.mgf D_law_line.fn.kp D_law_line.bd pass0 (qa_cons (qe_var (i := 8)) qa_nil)))
      (qss_cons (qs_if (qt_not (qt_tru (qe_call (G_law_like) (hr.mono (by decide)) (by rfl) D_law_like.mgf D_law_like.fn.kp D_law_like.bd pass0 (qa_cons (qe_lst (qa_cons (qe_call (G_case_text) (hr.mono (by decide)) (by rfl) D_case_text.mgf D_case_text.fn.kp D_case_text.bd pass0 (qa_cons (qe_var (i := 8)) qa_nil)) (qa_cons (qe_call (G_read_case) (hr.mono (by decide)) (by rfl) D_read_case.mgf D_read_case.fn.kp D_read_case.bd pass0 (qa_cons (qe_var (i := 9)) qa_nil)) (qa_cons (qe_callK0 (G_case_text) (hr.mono (by decide)) (by rfl) D_case_text.mgf D_case_text.fn.kp K_case_text_case pass0 (qk_cons (qe_var (i := 8)) qk_nil)) (qa_cons (qe_callK0 (G_read_case) (hr.mono (by decide)) (by rfl) D_read_case.mgf D_read_case.fn.kp K_read_case_line pass0 (qk_cons (qe_var (i := 9)) qk_nil)) qa_nil))))) (qa_cons (qe_op od_mul (qe_lst (qa_cons (qe_var (i := 9)) (qa_cons (qe_var (i := 8)) qa_nil))) qe_int) qa_nil))))) (qss_one (qs_ret qe_bl)) qss_nil)
      (qss_cons (qs_par (i := 10) (j := 11) rfl sc_law.nd (qp_val (qe_call (G_law_draw) (hr.mono (by decide)) (by rfl) D_law_draw.mgf D_law_draw.fn.kp D_law_draw.bd pass0 (qa_cons (qe_var (i := 1)) (qa_cons (qe_op od_add (qe_callB cd_len (by rfl) B.b_len (by decide +kernel) (qa_cons (qe_var (i := 9)) qa_nil)) qe_int) qa_nil))) (qp_val (qe_call (G_law_any) (hr.mono (by decide)) (by rfl) D_law_any.mgf D_law_any.fn.kp D_law_any.bd pass0 (qa_cons (qe_var (i := 1)) (qa_cons (qe_lst (qa_cons qe_str (qa_cons qe_str (qa_cons qe_str (qa_cons qe_str (qa_cons qe_str (qa_cons qe_str (qa_cons qe_str (qa_cons qe_str (qa_cons qe_str (qa_cons qe_str (qa_cons qe_str qa_nil)))))))))))) qa_nil))) qp_nil)))
      (qss_cons (qs_set (i := 12) sc_law.nd (qe_op od_add (qe_op od_add (qe_slice (qe_var (i := 9)) qo_none (qo_some (qe_var (i := 10)))) (qe_var (i := 11))) (qe_slice (qe_var (i := 9)) (qo_some (qe_op od_add (qe_var (i := 10)) (qe_call (G_law_draw) (hr.mono (by decide)) (by rfl) D_law_draw.mgf D_law_draw.fn.kp D_law_draw.bd pass0 (qa_cons (qe_var (i := 1)) (qa_cons qe_int qa_nil))))) qo_none)))
      (qss_cons (qs_set (i := 13) sc_law.nd (qe_call (G_read_case) (hr.mono (by decide)) (by rfl) D_read_case.mgf D_read_case.fn.kp D_read_case.bd pass0 (qa_cons (qe_var (i := 12)) qa_nil)))
      (qss_cons (qs_if (QW.qt (qw_and (qt_cmp od_isnot (qe_var (i := 13)) qe_non) (qw_and1 (qt_cmp (od_ne hr.units) (qe_call (G_law_line) (hr.mono (by decide)) (by rfl) D_law_line.mgf D_law_line.fn.kp D_law_line.bd pass0 (qa_cons (qe_var (i := 13)) qa_nil)) (qe_var (i := 12)))))) (qss_one (qs_ret qe_bl)) qss_nil)
      (qss_one (qs_if (QW.qt (qw_and (qt_cmp od_is (qe_var (i := 13)) qe_non) (qw_and1 (qt_cmp (od_eq hr.units) (qe_var (i := 12)) (qe_var (i := 9)))))) (qss_one (qs_ret qe_bl)) qss_nil))))))))))))))
      (qss_cons (qs_set (i := 14) sc_law.nd (qe_lst (qa_cons qe_str (qa_cons qe_str (qa_cons qe_str (qa_cons qe_str (qa_cons qe_str (qa_cons qe_str (qa_cons qe_str (qa_cons qe_str qa_nil))))))))))
      (qss_cons (qs_set (i := 14) sc_law.nd (qe_op od_add (qe_var (i := 14)) (qe_lst (qa_cons qe_str (qa_cons qe_str (qa_cons qe_str (qa_cons qe_str (qa_cons qe_str qa_nil))))))))
      (qss_cons (qs_set (i := 14) sc_law.nd (qe_op od_add (qe_var (i := 14)) (qe_lst (qa_cons qe_str (qa_cons qe_str (qa_cons qe_str (qa_cons qe_str qa_nil)))))))
      (qss_cons (qs_set (i := 14) sc_law.nd (qe_op od_add (qe_var (i := 14)) (qe_lst (qa_cons qe_str (qa_cons qe_str (qa_cons qe_str (qa_cons qe_str (qa_cons qe_str qa_nil))))))))
      (qss_cons (qs_set (i := 14) sc_law.nd (qe_op od_add (qe_var (i := 14)) (qe_lst (qa_cons qe_str (qa_cons qe_str (qa_cons qe_str (qa_cons qe_str qa_nil)))))))
      (qss_cons (qs_set (i := 14) sc_law.nd (qe_op od_add (qe_var (i := 14)) (qe_lst (qa_cons qe_str (qa_cons qe_str (qa_cons qe_str (qa_cons qe_str qa_nil)))))))
      (qss_cons (qs_set (i := 14) sc_law.nd (qe_op od_add (qe_var (i := 14)) (qe_lst (qa_cons (qe_op od_add (qe_op od_add qe_str (qe_meth (ty_str PySem.F.slot_str_join PySem.F.type_str_join md_join) qe_str (qa_cons (qe_op od_mul (qe_lst (qa_cons qe_str qa_nil)) qe_int) qa_nil))) qe_str) (qa_cons (qe_op od_add qe_str (qe_meth (ty_str PySem.F.slot_str_join PySem.F.type_str_join md_join) qe_str (qa_cons (qe_op od_mul (qe_lst (qa_cons qe_str qa_nil)) qe_int) qa_nil))) qa_nil)))))
      (qss_one (qs_ret (qe_cmp (od_eq hr.units) (QL.qe (ql_lc rfl sc_law.nd (blkOk_by (own := [("_law_line_z", 9)]) (N := N_law) (sc := defScope s_law) (by decide +kernel)) (qi_any (qe_var (i := 14))) (fun _ _ _ _ _ => (qg_name sc_law.nd (i := 9))) (fun _ _ _ _ _ => qts_nil) (fun _ _ _ _ _ => (qe_call (G_read_case) (hr.mono (by decide)) (by rfl) D_read_case.mgf D_read_case.fn.kp D_read_case.bd pass0 (qa_cons (qe_var (i := 9)) qa_nil))))) (qe_op od_mul (qe_lst (qa_cons qe_non qa_nil)) (qe_callB cd_len (by rfl) B.b_len (by decide +kernel) (qa_cons (qe_var (i := 14)) qa_nil))))))))))))))), fun ds R h => ?_⟩)
  · obtain ⟨ns, rfl, _⟩ := h; rfl
  · obtain ⟨ns, rfl, q⟩ := h
    refine ⟨ns, rfl, by omega, by omega, ?_⟩
    have kk : ∀ {n : Nat}, n ≤ 1000 → n ≤ sizeLine := fun h => small (by omega)
    refine dfor_range (fun j ρ => ∃ x2 x3 x4 x5 x6 x7 x8 x9 x10 x11 x12 x13 : SL, ρ = [.val (.scr ns), .val .bag, x2, x3, x4, x5, x6, x7, x8, x9, x10, x11, x12, x13, .nul]) _ ⟨_, _, _, _, _, _, _, _, _, _, _, _, rfl⟩ ?_ ?_
    · rintro ρ ⟨x2, x3, x4, x5, x6, x7, x8, x9, x10, x11, x12, x13, rfl⟩
      have k1 : ∀ a : D, [a].length ≤ sizeLine := fun a => kk (by show 1 ≤ 1000; decide)
      have kb : ∀ {n m : Nat}, n + m ≤ 1000 → n + m ≤ sizeLine := fun h => small (by omega)
      refine ⟨kk (by show 8 ≤ 1000; decide), kk (by show 5 ≤ 1000; decide), kk (by show 8 + 5 ≤ 1000; decide), kk (by show 4 ≤ 1000; decide), kk (by show 13 + 4 ≤ 1000; decide), kk (by show 5 ≤ 1000; decide), kk (by show 17 + 5 ≤ 1000; decide), kk (by show 4 ≤ 1000; decide), kk (by show 22 + 4 ≤ 1000; decide), kk (by show 4 ≤ 1000; decide), kk (by show 26 + 4 ≤ 1000; decide), ?_⟩
      refine ⟨by show "str" ≠ ""; decide, ⟨[.lst []], fun _ => True, [], rfl, by show 0 + 0 * _ ≤ _; omega, trivial⟩, k1 _, by decide, by decide, kk (by show 7 ≤ 1000; decide), List.replicate 7 "a=b", rfl, by decide +kernel, kk (by decide +kernel), kk (by decide +kernel), ?_⟩
      refine ⟨by show "str" ≠ ""; decide, ⟨[.lst []], fun _ => True, [], rfl, by show 0 + 0 * _ ≤ _; omega, trivial⟩, k1 _, by decide, by decide, kk (by show 7 ≤ 1000; decide), List.replicate 7 "a+", rfl, by decide +kernel, kk (by decide +kernel), kk (by show 2 ≤ 1000; decide), kk (by show 30 + 2 ≤ 1000; decide), ?_⟩
      refine .inl ⟨kk (by show 32 ≤ 1000; decide), ?_⟩
      refine dlc_maps D.str (fun _ => D.non) oddL (fun s ms k hk => ⟨s, rfl, (odd_none s ms).2, by rw [(odd_none s ms).1]; exact hk⟩) ?_
      refine ⟨k1 _, by decide, by decide, kk (by show 32 ≤ 1000; decide), by decide +kernel, by decide +kernel, ?_⟩
      exact q
    · rintro j ρ hj ⟨x2, x3, x4, x5, x6, x7, x8, x9, x10, x11, x12, x13, rfl⟩ nx k
      refine ⟨rfl, fun F hF => ⟨F, rfl, hF, fun c hc c2 s2 => ⟨rfl, ?_⟩⟩⟩
      have hc1 : ∀ t ∈ c.1, okT t := fun t m => tst_ok hF (hc.2.1 t m)
      have hc2 : ∀ l, c.2 = some l → ∀ s ∈ l, okS s := fun l e s m => stp_ok hF (hc.2.2 l e s m)
      refine ⟨5, rfl, by omega, by omega, fun r r0 r1 => ⟨by omega, by omega, ?_⟩⟩
      refine dfor_range (fun i ρ => ∃ (T : List Tst) (y6 : SL), T.length ≤ 2 + 2 * i ∧ (∀ t ∈ T, okT t) ∧ ρ = [.val (.scr ns), .val .bag, .val (.int j), .val (.lst (F.map eFld)), .val (.tup (T.map eTst)), .val (eStps c.2), y6, x7, x8, x9, x10, x11, x12, x13, .nul]) _ ⟨c.1, x6, by omega, hc1, rfl⟩ ?_ ?_
      · rintro ρ ⟨T, y6, hT, hT2, rfl⟩
        refine ⟨5, rfl, by omega, by omega, fun u u0 u1 => ⟨by omega, by omega, ?_⟩⟩
        refine dfor_range (fun i ρ => ∃ (O : Option (List Stp)) (y6 y7 : SL), (∀ l, O = some l → l.length ≤ 2 + 2 * i ∧ ∀ s ∈ l, okS s) ∧ ρ = [.val (.scr ns), .val .bag, .val (.int j), .val (.lst (F.map eFld)), .val (.tup (T.map eTst)), .val (eStps O), y6, y7, x8, x9, x10, x11, x12, x13, .nul]) _ ⟨c.2, y6, x7, fun l e => ⟨by have := s2 l e; omega, hc2 l e⟩, rfl⟩ ?_ ?_
        · rintro ρ ⟨O, y6, y7, hO, rfl⟩
          obtain ⟨z, ez⟩ : ∃ z : Case, z = (T.take 6, O.map (·.take 6)) := ⟨_, rfl⟩
          have okz : okC z := by
            rw [ez]
            refine ⟨by show (T.take 6).length ≤ 6; rw [List.length_take]; omega, fun t m => hT2 t (List.mem_of_mem_take m), fun l e => ?_, fun l e s m => ?_⟩
            · cases O with
              | none => cases e
              | some l0 => cases e; rw [List.length_take]; omega
            · cases O with
              | none => cases e
              | some l0 => cases e; exact (hO l0 rfl).2 s (List.mem_of_mem_take m)
          have hr := read_line okz
          have hl := line_len okz
          dsimp only
          refine seq_set (eCase z) (fun R k => ?_) ?_
          · rw [ez] at k
            cases O with
            | none =>
              show _ ∧ R (.tup [.tup (DL.cutD (T.map eTst) none (some 6)), .non])
              rw [cut6]
              exact ⟨kk (by show 2 ≤ 1000; decide), k⟩
            | some l0 =>
              show _ ∧ R (.tup [.tup (DL.cutD (T.map eTst) none (some 6)), .tup (DL.cutD (l0.map eStp) none (some 6))])
              rw [cut6, cut6]
              exact ⟨kk (by show 2 ≤ 1000; decide), k⟩
          · clear ez
            refine ⟨z, rfl, okz, ?_⟩
            refine ⟨z, rfl, okz, lineM z, rfl, by omega, rfl, z, rfl, okz, rfl, lineM z, rfl, by omega, ?_⟩
            rw [hr]
            refine ⟨kk (by show 4 ≤ 1000; decide), kk (by show 2 ≤ 1000; decide), by decide, by decide, kk (by show 2 * 2 ≤ 1000; decide), .lst [.str (lineM z), eCase z, .str (lineM z), eCase z], rfl, ?_, ?_⟩
            · refine ⟨by show 4 ≤ 1000; decide, fun d m => ?_⟩
              rcases List.mem_cons.mp m with rfl | m
              · trivial
              · rcases List.mem_cons.mp m with rfl | m
                · exact lk_case okz
                · rcases List.mem_cons.mp m with rfl | m
                  · trivial
                  · rw [List.mem_singleton] at m; subst m; exact lk_case okz
            · refine ⟨kk (by omega), ((lineM z).length : Int) + 1, rfl, by omega, by omega, fun a a0 a1 => ?_⟩
              refine ⟨kk (by show 11 ≤ 1000; decide), _, _, rfl, rfl, by show 0 < 11; decide, by show 11 < 1000; decide, fun x mx => ⟨rfl, ?_⟩⟩
              obtain ⟨sg, ms, rfl⟩ := List.mem_map.mp (show x ∈ bendL.map D.str from mx)
              have lsg := bend_len sg ms
              have lc := cut_len (lineM z)
              refine ⟨kk (by omega), kk (by have := lc none (some a); omega), 2, rfl, by omega, by omega, fun d d0 d1 => ⟨kk (by omega), kk (by rw [app_len]; have := lc none (some a); have := lc (some (a + d)) none; omega), ?_⟩⟩
              have lb : (cutS (lineM z) none (some a) ++ sg ++ cutS (lineM z) (some (a + d)) none).length ≤ 9000 := by
                rw [app_len, app_len]
                have := lc none (some a)
                have := lc (some (a + d)) none
                omega
              generalize cutS (lineM z) none (some a) ++ sg ++ cutS (lineM z) (some (a + d)) none = b at lb
              refine ⟨b, rfl, lb, ?_⟩
              cases hb : rC b with
              | none =>
                refine ite2 (fun e => ?_) (fun e => ?_)
                · have e : b = lineM z := of_decide_eq_true e
                  rw [e, hr] at hb
                  cases hb
                · exact k _ ⟨_, _, _, _, _, _, _, _, _, _, _, _, rfl⟩
              | some c' =>
                have hline := line_of_read hb
                refine ⟨c', rfl, rC_ok hb, ?_⟩
                refine ite2 (fun e => ?_) (fun e => ?_)
                · have e : (!decide (lineM c' = b)) = true := e
                  exact absurd hline (dec_not.mp e)
                · exact k _ ⟨_, _, _, _, _, _, _, _, _, _, _, _, rfl⟩
        · rintro i ρ hi ⟨O, y6, y7, hO, rfl⟩ nx2 k2
          refine ⟨F, rfl, hF, fun d hd d2 s2' => ⟨_, rfl, ?_⟩⟩
          have hd2 : ∀ l, d.2 = some l → ∀ s ∈ l, okS s := fun l e s m => stp_ok hF (hd.2.2 l e s m)
          obtain ⟨dt, ds⟩ := d
          cases O with
          | none => exact k2 _ ⟨none, _, _, fun l e => (by cases e), rfl⟩
          | some l =>
            obtain ⟨hl1, hl2⟩ := hO l rfl
            cases ds with
            | none => exact k2 _ ⟨some l, _, _, fun l' e => (by cases e; exact ⟨by omega, hl2⟩), rfl⟩
            | some l' =>
              have h1 := s2' l' rfl
              refine ⟨kk (by rw [List.length_map, List.length_map]; omega), k2 _ ⟨some (l ++ l'), .val (.int i), .val (.tup (l'.map eStp)), fun m e => ?_, ?_⟩⟩
              · cases e
                refine ⟨by rw [List.length_append]; omega, fun s ms => ?_⟩
                rcases List.mem_append.mp ms with ms | ms
                · exact hl2 s ms
                · exact hd2 l' rfl s ms
              · show _ = [_, _, _, _, _, SL.val (.tup ((l ++ l').map eStp)), _, _, _, _, _, _, _, _, _]
                rw [List.map_append]
                rfl
      · rintro i ρ hi ⟨T, y6, hT, hT2, rfl⟩ nx2 k2
        refine ⟨F, rfl, hF, fun d hd d2 s2' => ⟨_, rfl, ?_⟩⟩
        refine ⟨kk (by rw [List.length_map, List.length_map]; omega), k2 _ ⟨T ++ d.1, .val (.int i), by rw [List.length_append]; omega, fun t m => ?_, by rw [List.map_append]; rfl⟩⟩
        rcases List.mem_append.mp m with m | m
        · exact hT2 t m
        · exact tst_ok hF (hd.2.1 t m)
end
end LW

namespace LW
open PySem PySem.Spec PyProof.Rows DL
open L2 hiding St
theorem def_at {K : PySem.W.Frag} {h : Heap} {mg : Str → Option Value} (X : K.In h) (G : h.Ns mainGlobals mg) {x : Str} {st : Stmt} {ps : List Str} {f : Addr} {oc : Value} {od an : Option Addr} {osl : Array (Option Value)} {kV doc pm cdv ct : Value} (a : PySem.W.nsIn K mainGlobals x = some (some (.ref f)))
    (l : K.lookup f = some ⟨oc, od, .func (PySem.W.fnOf x x (defArgs st) (defBody st) (defScope st) .none kV doc pm an cdv ct), osl⟩) (c : PySem.W.codeIn K cdv x = true) (k : PySem.W.keepIn K (.ref f) = true) (b : Binds K (PySem.W.fnOf x x (defArgs st) (defBody st) (defScope st) .none kV doc pm an cdv ct) ps []) : DefAt K mg x st ps f (PySem.W.fnOf x x (defArgs st) (defBody st) (defScope st) .none kV doc pm an cdv ct) :=
  ⟨fun_mk l c k, PySem.W.mg_of X G a, b⟩
theorem all_mk {l : PySem.W.OpenLaw} {w : World} {K : PySem.W.Frag} {h : Heap} {mg : Str → Option Value} {fa : Addr} (X : K.In h) (G : h.Ns mainGlobals mg) (hfa : mg "law" = some (.ref fa))
    {f_0 : Addr} {od0 an0 : Option Addr} {sl0 : Array (Option Value)} {oc0 kV0 dc0 pm0 cd0 ct0 : Value} (a0 : PySem.W.nsIn K mainGlobals "_law_draw" = some (some (.ref f_0))) (l0 : K.lookup f_0 = some ⟨oc0, od0, .func (PySem.W.fnOf "_law_draw" "_law_draw" (defArgs s_law_draw) (defBody s_law_draw) (defScope s_law_draw) .none kV0 dc0 pm0 an0 cd0 ct0), sl0⟩) (c0 : PySem.W.codeIn K cd0 "_law_draw" = true) (k0 : PySem.W.keepIn K (.ref f_0) = true)
    {f_1 : Addr} {od1 an1 : Option Addr} {sl1 : Array (Option Value)} {oc1 kV1 dc1 pm1 cd1 ct1 : Value} (a1 : PySem.W.nsIn K mainGlobals "is_made_of" = some (some (.ref f_1))) (l1 : K.lookup f_1 = some ⟨oc1, od1, .func (PySem.W.fnOf "is_made_of" "is_made_of" (defArgs s_is_made_of) (defBody s_is_made_of) (defScope s_is_made_of) .none kV1 dc1 pm1 an1 cd1 ct1), sl1⟩) (c1 : PySem.W.codeIn K cd1 "is_made_of" = true) (k1 : PySem.W.keepIn K (.ref f_1) = true)
    {f_2 : Addr} {od2 an2 : Option Addr} {sl2 : Array (Option Value)} {oc2 kV2 dc2 pm2 cd2 ct2 : Value} (a2 : PySem.W.nsIn K mainGlobals "is_name" = some (some (.ref f_2))) (l2 : K.lookup f_2 = some ⟨oc2, od2, .func (PySem.W.fnOf "is_name" "is_name" (defArgs s_is_name) (defBody s_is_name) (defScope s_is_name) .none kV2 dc2 pm2 an2 cd2 ct2), sl2⟩) (c2 : PySem.W.codeIn K cd2 "is_name" = true) (k2 : PySem.W.keepIn K (.ref f_2) = true)
    {f_3 : Addr} {od3 an3 : Option Addr} {sl3 : Array (Option Value)} {oc3 kV3 dc3 pm3 cd3 ct3 : Value} (a3 : PySem.W.nsIn K mainGlobals "is_option" = some (some (.ref f_3))) (l3 : K.lookup f_3 = some ⟨oc3, od3, .func (PySem.W.fnOf "is_option" "is_option" (defArgs s_is_option) (defBody s_is_option) (defScope s_is_option) .none kV3 dc3 pm3 an3 cd3 ct3), sl3⟩) (c3 : PySem.W.codeIn K cd3 "is_option" = true) (k3 : PySem.W.keepIn K (.ref f_3) = true)
    {f_4 : Addr} {od4 an4 : Option Addr} {sl4 : Array (Option Value)} {oc4 kV4 dc4 pm4 cd4 ct4 : Value} (a4 : PySem.W.nsIn K mainGlobals "case_text" = some (some (.ref f_4))) (l4 : K.lookup f_4 = some ⟨oc4, od4, .func (PySem.W.fnOf "case_text" "case_text" (defArgs s_case_text) (defBody s_case_text) (defScope s_case_text) .none kV4 dc4 pm4 an4 cd4 ct4), sl4⟩) (c4 : PySem.W.codeIn K cd4 "case_text" = true) (k4 : PySem.W.keepIn K (.ref f_4) = true)
    {f_5 : Addr} {od5 an5 : Option Addr} {sl5 : Array (Option Value)} {oc5 kV5 dc5 pm5 cd5 ct5 : Value} (a5 : PySem.W.nsIn K mainGlobals "read_test" = some (some (.ref f_5))) (l5 : K.lookup f_5 = some ⟨oc5, od5, .func (PySem.W.fnOf "read_test" "read_test" (defArgs s_read_test) (defBody s_read_test) (defScope s_read_test) .none kV5 dc5 pm5 an5 cd5 ct5), sl5⟩) (c5 : PySem.W.codeIn K cd5 "read_test" = true) (k5 : PySem.W.keepIn K (.ref f_5) = true)
    {f_6 : Addr} {od6 an6 : Option Addr} {sl6 : Array (Option Value)} {oc6 kV6 dc6 pm6 cd6 ct6 : Value} (a6 : PySem.W.nsIn K mainGlobals "read_step" = some (some (.ref f_6))) (l6 : K.lookup f_6 = some ⟨oc6, od6, .func (PySem.W.fnOf "read_step" "read_step" (defArgs s_read_step) (defBody s_read_step) (defScope s_read_step) .none kV6 dc6 pm6 an6 cd6 ct6), sl6⟩) (c6 : PySem.W.codeIn K cd6 "read_step" = true) (k6 : PySem.W.keepIn K (.ref f_6) = true)
    {f_7 : Addr} {od7 an7 : Option Addr} {sl7 : Array (Option Value)} {oc7 kV7 dc7 pm7 cd7 ct7 : Value} (a7 : PySem.W.nsIn K mainGlobals "read_case" = some (some (.ref f_7))) (l7 : K.lookup f_7 = some ⟨oc7, od7, .func (PySem.W.fnOf "read_case" "read_case" (defArgs s_read_case) (defBody s_read_case) (defScope s_read_case) .none kV7 dc7 pm7 an7 cd7 ct7), sl7⟩) (c7 : PySem.W.codeIn K cd7 "read_case" = true) (k7 : PySem.W.keepIn K (.ref f_7) = true)
    {f_8 : Addr} {od8 an8 : Option Addr} {sl8 : Array (Option Value)} {oc8 kV8 dc8 pm8 cd8 ct8 : Value} (a8 : PySem.W.nsIn K mainGlobals "_law_bag" = some (some (.ref f_8))) (l8 : K.lookup f_8 = some ⟨oc8, od8, .func (PySem.W.fnOf "_law_bag" "_law_bag" (defArgs s_law_bag) (defBody s_law_bag) (defScope s_law_bag) .none kV8 dc8 pm8 an8 cd8 ct8), sl8⟩) (c8 : PySem.W.codeIn K cd8 "_law_bag" = true) (k8 : PySem.W.keepIn K (.ref f_8) = true)
    {f_9 : Addr} {od9 an9 : Option Addr} {sl9 : Array (Option Value)} {oc9 kV9 dc9 pm9 cd9 ct9 : Value} (a9 : PySem.W.nsIn K mainGlobals "_law_any" = some (some (.ref f_9))) (l9 : K.lookup f_9 = some ⟨oc9, od9, .func (PySem.W.fnOf "_law_any" "_law_any" (defArgs s_law_any) (defBody s_law_any) (defScope s_law_any) .none kV9 dc9 pm9 an9 cd9 ct9), sl9⟩) (c9 : PySem.W.codeIn K cd9 "_law_any" = true) (k9 : PySem.W.keepIn K (.ref f_9) = true)
    {f_10 : Addr} {od10 an10 : Option Addr} {sl10 : Array (Option Value)} {oc10 kV10 dc10 pm10 cd10 ct10 : Value} (a10 : PySem.W.nsIn K mainGlobals "_law_mixed" = some (some (.ref f_10))) (l10 : K.lookup f_10 = some ⟨oc10, od10, .func (PySem.W.fnOf "_law_mixed" "_law_mixed" (defArgs s_law_mixed) (defBody s_law_mixed) (defScope s_law_mixed) .none kV10 dc10 pm10 an10 cd10 ct10), sl10⟩) (c10 : PySem.W.codeIn K cd10 "_law_mixed" = true) (k10 : PySem.W.keepIn K (.ref f_10) = true)
    {f_11 : Addr} {od11 an11 : Option Addr} {sl11 : Array (Option Value)} {oc11 kV11 dc11 pm11 cd11 ct11 : Value} (a11 : PySem.W.nsIn K mainGlobals "_law_like" = some (some (.ref f_11))) (l11 : K.lookup f_11 = some ⟨oc11, od11, .func (PySem.W.fnOf "_law_like" "_law_like" (defArgs s_law_like) (defBody s_law_like) (defScope s_law_like) .none kV11 dc11 pm11 an11 cd11 ct11), sl11⟩) (c11 : PySem.W.codeIn K cd11 "_law_like" = true) (k11 : PySem.W.keepIn K (.ref f_11) = true)
    {f_12 : Addr} {od12 an12 : Option Addr} {sl12 : Array (Option Value)} {oc12 kV12 dc12 pm12 cd12 ct12 : Value} (a12 : PySem.W.nsIn K mainGlobals "_law_words" = some (some (.ref f_12))) (l12 : K.lookup f_12 = some ⟨oc12, od12, .func (PySem.W.fnOf "_law_words" "_law_words" (defArgs s_law_words) (defBody s_law_words) (defScope s_law_words) .none kV12 dc12 pm12 an12 cd12 ct12), sl12⟩) (c12 : PySem.W.codeIn K cd12 "_law_words" = true) (k12 : PySem.W.keepIn K (.ref f_12) = true)
    {f_13 : Addr} {od13 an13 : Option Addr} {sl13 : Array (Option Value)} {oc13 kV13 dc13 pm13 cd13 ct13 : Value} (a13 : PySem.W.nsIn K mainGlobals "_law_options" = some (some (.ref f_13))) (l13 : K.lookup f_13 = some ⟨oc13, od13, .func (PySem.W.fnOf "_law_options" "_law_options" (defArgs s_law_options) (defBody s_law_options) (defScope s_law_options) .none kV13 dc13 pm13 an13 cd13 ct13), sl13⟩) (c13 : PySem.W.codeIn K cd13 "_law_options" = true) (k13 : PySem.W.keepIn K (.ref f_13) = true)
    {f_14 : Addr} {od14 an14 : Option Addr} {sl14 : Array (Option Value)} {oc14 kV14 dc14 pm14 cd14 ct14 : Value} (a14 : PySem.W.nsIn K mainGlobals "_law_fields" = some (some (.ref f_14))) (l14 : K.lookup f_14 = some ⟨oc14, od14, .func (PySem.W.fnOf "_law_fields" "_law_fields" (defArgs s_law_fields) (defBody s_law_fields) (defScope s_law_fields) .none kV14 dc14 pm14 an14 cd14 ct14), sl14⟩) (c14 : PySem.W.codeIn K cd14 "_law_fields" = true) (k14 : PySem.W.keepIn K (.ref f_14) = true)
    {f_15 : Addr} {od15 an15 : Option Addr} {sl15 : Array (Option Value)} {oc15 kV15 dc15 pm15 cd15 ct15 : Value} (a15 : PySem.W.nsIn K mainGlobals "_law_case" = some (some (.ref f_15))) (l15 : K.lookup f_15 = some ⟨oc15, od15, .func (PySem.W.fnOf "_law_case" "_law_case" (defArgs s_law_case) (defBody s_law_case) (defScope s_law_case) .none kV15 dc15 pm15 an15 cd15 ct15), sl15⟩) (c15 : PySem.W.codeIn K cd15 "_law_case" = true) (k15 : PySem.W.keepIn K (.ref f_15) = true)
    {f_16 : Addr} {od16 an16 : Option Addr} {sl16 : Array (Option Value)} {oc16 kV16 dc16 pm16 cd16 ct16 : Value} (a16 : PySem.W.nsIn K mainGlobals "_law_line" = some (some (.ref f_16))) (l16 : K.lookup f_16 = some ⟨oc16, od16, .func (PySem.W.fnOf "_law_line" "_law_line" (defArgs s_law_line) (defBody s_law_line) (defScope s_law_line) .none kV16 dc16 pm16 an16 cd16 ct16), sl16⟩) (c16 : PySem.W.codeIn K cd16 "_law_line" = true) (k16 : PySem.W.keepIn K (.ref f_16) = true)
    {f_17 : Addr} {od17 an17 : Option Addr} {sl17 : Array (Option Value)} {oc17 kV17 dc17 pm17 cd17 ct17 : Value} (a17 : PySem.W.nsIn K mainGlobals "law" = some (some (.ref f_17))) (l17 : K.lookup f_17 = some ⟨oc17, od17, .func (PySem.W.fnOf "law" "law" (defArgs s_law) (defBody s_law) (defScope s_law) .none kV17 dc17 pm17 an17 cd17 ct17), sl17⟩) (c17 : PySem.W.codeIn K cd17 "law" = true) (k17 : PySem.W.keepIn K (.ref f_17) = true)
    (z0 : PySem.W.nsIn K mainGlobals "len" = some none)
    (z1 : PySem.W.nsIn K mainGlobals "int" = some none)
    (z2 : PySem.W.nsIn K mainGlobals "list" = some none)
    (z3 : PySem.W.nsIn K mainGlobals "tuple" = some none)
    (z4 : PySem.W.nsIn K mainGlobals "range" = some none)
    (z5 : PySem.W.nsIn K mainGlobals "min" = some none)
    (z6 : PySem.W.nsIn K mainGlobals "max" = some none)
    (z7 : PySem.W.nsIn K mainGlobals "all" = some none)
    (z8 : PySem.W.nsIn K mainGlobals "enumerate" = some none)
    (z9 : PySem.W.nsIn K mainGlobals "zip" = some none)
    (z10 : PySem.W.nsIn K mainGlobals "isinstance" = some none)
    (z11 : PySem.W.nsIn K mainGlobals "dict" = some none)
    (z12 : PySem.W.nsIn K mainGlobals "bool" = some none)
    (z13 : PySem.W.nsIn K mainGlobals "str" = some none)
    {uLETTERS : Tok} (zLETTERS : PySem.W.nsIn K mainGlobals "LETTERS" = some (some (.str "abcdefghijklmnopqrstuvwxyz" uLETTERS)))
    {uDIGITS : Tok} (zDIGITS : PySem.W.nsIn K mainGlobals "DIGITS" = some (some (.str "0123456789" uDIGITS)))
    {uMAX_LENGTH : Tok} (zMAX_LENGTH : PySem.W.nsIn K mainGlobals "MAX_LENGTH" = some (some (.int 8 uMAX_LENGTH)))
    {rSIGNS : Addr} {itsSIGNS : Array Value} {nSIGNS : Nat} {slSIGNS : Array (Option Value)} (zSIGNS : PySem.W.nsIn K mainGlobals "SIGNS" = some (some (.ref rSIGNS))) (ySIGNS : K.lookup rSIGNS = some ⟨.type "tuple", none, .seq itsSIGNS nSIGNS, slSIGNS⟩) (xSIGNS : itsSIGNS.size ≤ 1000) (wSIGNS : Vals [V.str "=", V.str "!", V.str "<", V.str ">"] itsSIGNS.toList)
    {uMAX_TESTS : Tok} (zMAX_TESTS : PySem.W.nsIn K mainGlobals "MAX_TESTS" = some (some (.int 6 uMAX_TESTS)))
    {uMAX_STEPS : Tok} (zMAX_STEPS : PySem.W.nsIn K mainGlobals "MAX_STEPS" = some (some (.int 6 uMAX_STEPS)))
    : ∃ fd : FuncData, (∀ (s : Shared) (v : Value), BindsTo s fd ⟨[v], []⟩ [("_law_script", v)]) ∧ ∀ base : Heap, K.In base → base.Ns mainGlobals mg → FnOk l.prog w K mg base CX0 6 fa fd ["_law_script"] (spD K Φ_law) := by
  have e := hfa.symm.trans (PySem.W.mg_of X G a17)
  cases e
  have B : Blt K mg := ⟨PySem.W.mg_none_of X G z0, PySem.W.mg_none_of X G z1, PySem.W.mg_none_of X G z2, PySem.W.mg_none_of X G z3, PySem.W.mg_none_of X G z4, PySem.W.mg_none_of X G z5, PySem.W.mg_none_of X G z6, PySem.W.mg_none_of X G z7, PySem.W.mg_none_of X G z8, PySem.W.mg_none_of X G z9, PySem.W.mg_none_of X G z10, PySem.W.mg_none_of X G z11, PySem.W.mg_none_of X G z12, PySem.W.mg_none_of X G z13, ⟨_, PySem.W.mg_of X G zLETTERS⟩, ⟨_, PySem.W.mg_of X G zDIGITS⟩, ⟨_, PySem.W.mg_of X G zMAX_LENGTH⟩, gd_tup X G zSIGNS ySIGNS xSIGNS wSIGNS (strs_rep ["=", "!", "<", ">"]), ⟨_, PySem.W.mg_of X G zMAX_TESTS⟩, ⟨_, PySem.W.mg_of X G zMAX_STEPS⟩⟩
  have D_law_draw : DefAt K mg "_law_draw" s_law_draw P_law_draw _ _ := def_at X G a0 l0 c0 k0 ((fun_mk (st := s_law_draw) l0 c0 k0).binds (ps := P_law_draw) fun _ _ _ _ _ _ us hl => match us, hl with | [_, _], _ => rfl)
  have D_is_made_of : DefAt K mg "is_made_of" s_is_made_of P_is_made_of _ _ := def_at X G a1 l1 c1 k1 ((fun_mk (st := s_is_made_of) l1 c1 k1).binds (ps := P_is_made_of) fun _ _ _ _ _ _ us hl => match us, hl with | [_, _], _ => rfl)
  have D_is_name : DefAt K mg "is_name" s_is_name P_is_name _ _ := def_at X G a2 l2 c2 k2 ((fun_mk (st := s_is_name) l2 c2 k2).binds (ps := P_is_name) fun _ _ _ _ _ _ us hl => match us, hl with | [_], _ => rfl)
  have D_is_option : DefAt K mg "is_option" s_is_option P_is_option _ _ := def_at X G a3 l3 c3 k3 ((fun_mk (st := s_is_option) l3 c3 k3).binds (ps := P_is_option) fun _ _ _ _ _ _ us hl => match us, hl with | [_], _ => rfl)
  have D_case_text : DefAt K mg "case_text" s_case_text P_case_text _ _ := def_at X G a4 l4 c4 k4 ((fun_mk (st := s_case_text) l4 c4 k4).binds (ps := P_case_text) fun _ _ _ _ _ _ us hl => match us, hl with | [_], _ => rfl)
  have D_read_test : DefAt K mg "read_test" s_read_test P_read_test _ _ := def_at X G a5 l5 c5 k5 ((fun_mk (st := s_read_test) l5 c5 k5).binds (ps := P_read_test) fun _ _ _ _ _ _ us hl => match us, hl with | [_], _ => rfl)
  have D_read_step : DefAt K mg "read_step" s_read_step P_read_step _ _ := def_at X G a6 l6 c6 k6 ((fun_mk (st := s_read_step) l6 c6 k6).binds (ps := P_read_step) fun _ _ _ _ _ _ us hl => match us, hl with | [_], _ => rfl)
  have D_read_case : DefAt K mg "read_case" s_read_case P_read_case _ _ := def_at X G a7 l7 c7 k7 ((fun_mk (st := s_read_case) l7 c7 k7).binds (ps := P_read_case) fun _ _ _ _ _ _ us hl => match us, hl with | [_], _ => rfl)
  have D_law_bag : DefAt K mg "_law_bag" s_law_bag P_law_bag _ _ := def_at X G a8 l8 c8 k8 ((fun_mk (st := s_law_bag) l8 c8 k8).binds (ps := P_law_bag) fun _ _ _ _ _ _ us hl => match us, hl with | [_], _ => rfl)
  have D_law_any : DefAt K mg "_law_any" s_law_any P_law_any _ _ := def_at X G a9 l9 c9 k9 ((fun_mk (st := s_law_any) l9 c9 k9).binds (ps := P_law_any) fun _ _ _ _ _ _ us hl => match us, hl with | [_, _], _ => rfl)
  have D_law_mixed : DefAt K mg "_law_mixed" s_law_mixed P_law_mixed _ _ := def_at X G a10 l10 c10 k10 ((fun_mk (st := s_law_mixed) l10 c10 k10).binds (ps := P_law_mixed) fun _ _ _ _ _ _ us hl => match us, hl with | [_, _], _ => rfl)
  have D_law_like : DefAt K mg "_law_like" s_law_like P_law_like _ _ := def_at X G a11 l11 c11 k11 ((fun_mk (st := s_law_like) l11 c11 k11).binds (ps := P_law_like) fun _ _ _ _ _ _ us hl => match us, hl with | [_, _], _ => rfl)
  have D_law_words : DefAt K mg "_law_words" s_law_words P_law_words _ _ := def_at X G a12 l12 c12 k12 ((fun_mk (st := s_law_words) l12 c12 k12).binds (ps := P_law_words) fun _ _ _ _ _ _ us hl => match us, hl with | [_, _], _ => rfl)
  have D_law_options : DefAt K mg "_law_options" s_law_options P_law_options _ _ := def_at X G a13 l13 c13 k13 ((fun_mk (st := s_law_options) l13 c13 k13).binds (ps := P_law_options) fun _ _ _ _ _ _ us hl => match us, hl with | [_, _], _ => rfl)
  have D_law_fields : DefAt K mg "_law_fields" s_law_fields P_law_fields _ _ := def_at X G a14 l14 c14 k14 ((fun_mk (st := s_law_fields) l14 c14 k14).binds (ps := P_law_fields) fun _ _ _ _ _ _ us hl => match us, hl with | [_, _], _ => rfl)
  have D_law_case : DefAt K mg "_law_case" s_law_case P_law_case _ _ := def_at X G a15 l15 c15 k15 ((fun_mk (st := s_law_case) l15 c15 k15).binds (ps := P_law_case) fun _ _ _ _ _ _ us hl => match us, hl with | [_, _], _ => rfl)
  have D_law_line : DefAt K mg "_law_line" s_law_line P_law_line _ _ := def_at X G a16 l16 c16 k16 ((fun_mk (st := s_law_line) l16 c16 k16).binds (ps := P_law_line) fun _ _ _ _ _ _ us hl => match us, hl with | [_], _ => rfl)
  have D_law : DefAt K mg "law" s_law P_law _ _ := def_at X G a17 l17 c17 k17 ((fun_mk (st := s_law) l17 c17 k17).binds (ps := P_law) fun _ _ _ _ _ _ us hl => match us, hl with | [_], _ => rfl)
  have K_read_case_line : KB0 K (PySem.W.fnOf "read_case" "read_case" (defArgs s_read_case) (defBody s_read_case) (defScope s_read_case) .none kV7 dc7 pm7 an7 cd7 ct7) P_read_case ["line"] [0] := fun s ws _ hl => match ws, hl with | [_], _ => .of_eq rfl
  have K_case_text_case : KB0 K (PySem.W.fnOf "case_text" "case_text" (defArgs s_case_text) (defBody s_case_text) (defScope s_case_text) .none kV4 dc4 pm4 an4 cd4 ct4) P_case_text ["case"] [0] := fun s ws _ hl => match ws, hl with | [_], _ => .of_eq rfl
  refine ⟨PySem.W.fnOf "law" "law" (defArgs s_law) (defBody s_law) (defScope s_law) .none kV17 dc17 pm17 an17 cd17 ct17, fun s v => .of_eq rfl, fun base _ _ => ?_⟩
  have G_is_made_of := ok_is_made_of (P := l.prog) (w := w) (base := base) B D_is_made_of  
  have G_is_name := ok_is_name (P := l.prog) (w := w) (base := base) B D_is_name D_is_made_of G_is_made_of 
  have G_is_option := ok_is_option (P := l.prog) (w := w) (base := base) B D_is_option D_is_made_of G_is_made_of 
  have G_read_step := ok_read_step (P := l.prog) (w := w) (base := base) B D_read_step D_is_name G_is_name D_is_option G_is_option 
  have G_read_test := ok_read_test (P := l.prog) (w := w) (base := base) B D_read_test D_is_option G_is_option D_is_name G_is_name 
  have G_read_case := ok_read_case (P := l.prog) (w := w) (base := base) B D_read_case D_read_step G_read_step D_read_test G_read_test 
  have G_law_line := ok_law_line (P := l.prog) (w := w) (base := base) B D_law_line  
  have G_law_draw := ok_law_draw (P := l.prog) (w := w) (base := base) B D_law_draw
  have G_law_any := ok_law_any (P := l.prog) (w := w) (base := base) B D_law_any D_law_draw G_law_draw 
  have G_law_like := like_all (P := l.prog) (w := w) (base := base) B D_law_like 5
  have G_case_text := ok_case_text (P := l.prog) (w := w) (base := base) B D_case_text  
  have G_law_case := ok_law_case (P := l.prog) (w := w) (base := base) B D_law_case D_law_draw G_law_draw D_law_any G_law_any 
  have G_law_mixed := ok_law_mixed (P := l.prog) (w := w) (base := base) B D_law_mixed D_law_draw G_law_draw 
  have G_law_options := ok_law_options (P := l.prog) (w := w) (base := base) B D_law_options D_law_mixed G_law_mixed 
  have G_law_words := ok_law_words (P := l.prog) (w := w) (base := base) B D_law_words D_law_draw G_law_draw D_law_any G_law_any 
  have G_law_fields := ok_law_fields (P := l.prog) (w := w) (base := base) B D_law_fields D_law_draw G_law_draw D_law_options G_law_options D_law_words G_law_words 
  have G_law_bag := ok_law_bag (P := l.prog) (w := w) (base := base) B D_law_bag  
  have G_law := ok_law (P := l.prog) (w := w) (base := base) B D_law D_read_case G_read_case D_law_line G_law_line D_law_draw G_law_draw D_law_any G_law_any D_law_like G_law_like D_case_text G_case_text D_law_case G_law_case D_law_fields G_law_fields D_law_bag G_law_bag (K_read_case_line := K_read_case_line) (K_case_text_case := K_case_text_case)
  exact G_law
end LW
open PySem PySem.W PyProof.Rows
set_option maxHeartbeats 0 in
theorem PySem.Challenge.cw_bestheard_k04_lines_of_cases_holds : PySem.Challenge.rw_bestheard_k04_lines_of_cases.Holds := by
  w_on; o_law; k_head; (case hw => w_witness2)
  k_fill
  refine L2.walk_of (l := PySem.Challenge.rw_bestheard_k04_lines_of_cases) (n := 63) (k := 6) (x := "_law_script") (CX := fun _ => L2.CX0) (sp := fun w => DL.spD _ LW.Φ_law) rfl (by decide) rfl ⟨rfl, by decide, by decide⟩ (fun w h Y => PySem.W.kIn_of Y) ?F (fun _ _ a ns hl _ hS => ⟨[.scr ns], fun d => d = .bl true, ⟨_, _, rfl, ⟨a, rfl, hS⟩, rfl⟩, ⟨ns, rfl, rfl⟩, fun v H2 d s r e => by subst e; exact r⟩) (fun _ _ _ _ _ z => z)
  case F =>
    intro w mg fa h KX G hmg
    refine' LW.all_mk KX G hmg ?a0 ?l0 ?c0 ?k0 ?a1 ?l1 ?c1 ?k1 ?a2 ?l2 ?c2 ?k2 ?a3 ?l3 ?c3 ?k3 ?a4 ?l4 ?c4 ?k4 ?a5 ?l5 ?c5 ?k5 ?a6 ?l6 ?c6 ?k6 ?a7 ?l7 ?c7 ?k7 ?a8 ?l8 ?c8 ?k8 ?a9 ?l9 ?c9 ?k9 ?a10 ?l10 ?c10 ?k10 ?a11 ?l11 ?c11 ?k11 ?a12 ?l12 ?c12 ?k12 ?a13 ?l13 ?c13 ?k13 ?a14 ?l14 ?c14 ?k14 ?a15 ?l15 ?c15 ?k15 ?a16 ?l16 ?c16 ?k16 ?a17 ?l17 ?c17 ?k17 ?z0 ?z1 ?z2 ?z3 ?z4 ?z5 ?z6 ?z7 ?z8 ?z9 ?z10 ?z11 ?z12 ?z13 ?zLETTERS ?zDIGITS ?zMAX_LENGTH ?zSIGNS ?ySIGNS ?xSIGNS ?wSIGNS ?zMAX_TESTS ?zMAX_STEPS
    (case a0 => k_is)
    (case l0 => k_is)
    (case c0 => k_is)
    (case k0 => k_is)
    (case a1 => k_is)
    (case l1 => k_is)
    (case c1 => k_is)
    (case k1 => k_is)
    (case a2 => k_is)
    (case l2 => k_is)
    (case c2 => k_is)
    (case k2 => k_is)
    (case a3 => k_is)
    (case l3 => k_is)
    (case c3 => k_is)
    (case k3 => k_is)
    (case a4 => k_is)
    (case l4 => k_is)
    (case c4 => k_is)
    (case k4 => k_is)
    (case a5 => k_is)
    (case l5 => k_is)
    (case c5 => k_is)
    (case k5 => k_is)
    (case a6 => k_is)
    (case l6 => k_is)
    (case c6 => k_is)
    (case k6 => k_is)
    (case a7 => k_is)
    (case l7 => k_is)
    (case c7 => k_is)
    (case k7 => k_is)
    (case a8 => k_is)
    (case l8 => k_is)
    (case c8 => k_is)
    (case k8 => k_is)
    (case a9 => k_is)
    (case l9 => k_is)
    (case c9 => k_is)
    (case k9 => k_is)
    (case a10 => k_is)
    (case l10 => k_is)
    (case c10 => k_is)
    (case k10 => k_is)
    (case a11 => k_is)
    (case l11 => k_is)
    (case c11 => k_is)
    (case k11 => k_is)
    (case a12 => k_is)
    (case l12 => k_is)
    (case c12 => k_is)
    (case k12 => k_is)
    (case a13 => k_is)
    (case l13 => k_is)
    (case c13 => k_is)
    (case k13 => k_is)
    (case a14 => k_is)
    (case l14 => k_is)
    (case c14 => k_is)
    (case k14 => k_is)
    (case a15 => k_is)
    (case l15 => k_is)
    (case c15 => k_is)
    (case k15 => k_is)
    (case a16 => k_is)
    (case l16 => k_is)
    (case c16 => k_is)
    (case k16 => k_is)
    (case a17 => k_is)
    (case l17 => k_is)
    (case c17 => k_is)
    (case k17 => k_is)
    (case z0 => k_is)
    (case z1 => k_is)
    (case z2 => k_is)
    (case z3 => k_is)
    (case z4 => k_is)
    (case z5 => k_is)
    (case z6 => k_is)
    (case z7 => k_is)
    (case z8 => k_is)
    (case z9 => k_is)
    (case z10 => k_is)
    (case z11 => k_is)
    (case z12 => k_is)
    (case z13 => k_is)
    (case zLETTERS => k_is)
    (case zDIGITS => k_is)
    (case zMAX_LENGTH => k_is)
    (case zSIGNS => k_is)
    (case ySIGNS => k_is)
    (case xSIGNS => decide)
    (case wSIGNS => exact .cons ⟨_, rfl⟩ (.cons ⟨_, rfl⟩ (.cons ⟨_, rfl⟩ (.cons ⟨_, rfl⟩ (.nil)))))
    (case zMAX_TESTS => k_is)
    (case zMAX_STEPS => k_is)
