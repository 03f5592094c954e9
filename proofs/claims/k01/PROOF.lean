import PyProof.Rows.All
import Wide.All
import OpenK.AllK
import Wide.FinOn
import HandS.ForMost
import HandS.IsInst
import HandS.Deep
import HandS.TupAny
import HandS.TupMul
import HandS.Strs
import HandS.More
import HandS.ExcInit
import KE.GoesMore
import HandS.Style
import HandS.Zip
import KE.KExcInit
import KE.KExcIs
import HandS.Head0
import HandS.Head1
import HandS.Head2
import HandS.HeadEnd
import HandS.HeadHook1
import HandS.HeadHook2
import HandS.HeadHook3
import HandS.HeadHook4
import PySem.Challenge.RW_bestheard_k01_errors_by_themselves
set_option Elab.async false
set_option linter.all false
set_option autoImplicit false
set_option maxRecDepth 100000
set_option maxHeartbeats 4000000
namespace DL
open PySem PySem.Spec PyProof.Rows L2

/-! ### heaps: G is seen, what H has beyond G is hidden -/
/-- what H tracks and G does not stays as it is; all else is as G' has it -/
def lay (G H G' : Hp) : Hp := fun b => match G b, H b with
  | none, some u => some u
  | _, _ => G' b
/-- the hidden stays out of what is seen -/
def Kp (G H G' : Hp) : Prop := ∀ b u, G b = none → H b = some u → G' b = none
theorem lay_hid {G H G' : Hp} {b : Addr} {u : HO} (h : G b = none) (k : H b = some u) : lay G H G' b = some u := by
  unfold lay; rw [h, k]
theorem lay_none {G H G' : Hp} {b : Addr} (h : H b = none) : lay G H G' b = G' b := by
  unfold lay; rw [h]; cases G b <;> rfl
theorem lay_some {G H G' : Hp} {b : Addr} {u : HO} (h : G b = some u) : lay G H G' b = G' b := by
  unfold lay; rw [h]
theorem lay_self {G H : Hp} (s : Same G H) : lay G H G = H := by
  funext b
  cases h : G b with
  | some o => rw [lay_some h, h, s b o h]
  | none =>
    cases k : H b with
    | some u => rw [lay_hid h k]
    | none => rw [lay_none k, h]
theorem Kp.self {G H : Hp} : Kp G H G := fun _ _ h _ => h
theorem same_lay {G H G' : Hp} (k : Kp G H G') : Same G' (lay G H G') := fun b o e => by
  cases h : G b with
  | some u => rw [lay_some h, e]
  | none =>
    cases q : H b with
    | some u => rw [k b u h q] at e; cases e
    | none => rw [lay_none q, e]
theorem lay_lay {G H G1 G2 : Hp} (k : Kp G H G1) : lay G1 (lay G H G1) G2 = lay G H G2 := by
  funext b
  cases h : G b with
  | some u =>
    rw [lay_some h]
    cases q : G1 b with
    | some o => rw [lay_some q]
    | none => rw [lay_none (by rw [lay_some h, q])]
  | none =>
    cases q : H b with
    | some u => rw [lay_hid h q, lay_hid (k b u h q) (lay_hid h q)]
    | none =>
      rw [lay_none q]
      cases r : G1 b with
      | some o => rw [lay_some r]
      | none => rw [lay_none (by rw [lay_none q, r])]
theorem Kp.trans {G H G1 G2 : Hp} (k : Kp G H G1) (k2 : Kp G1 (lay G H G1) G2) : Kp G H G2 := fun b u h q => k2 b u (k b u h q) (lay_hid h q)
theorem lay_free {G H G1 : Hp} {p : Addr} (h : lay G H G1 p = none) : G1 p = none ∧ (G p = none → H p = none) := by
  cases q : G p with
  | some u => rw [lay_some q] at h; exact ⟨h, fun z => nomatch z⟩
  | none =>
    cases r : H p with
    | some u => rw [lay_hid q r] at h; cases h
    | none => rw [lay_none r] at h; exact ⟨h, fun _ => rfl⟩
theorem lay_upd {G H G1 : Hp} {p : Addr} {o : HO} (h : lay G H G1 p = none) : upd (lay G H G1) p o = lay G H (upd G1 p o) := by
  funext b
  by_cases hb : b = p
  · subst hb
    rw [upd_same]
    cases q : G b with
    | some u => rw [lay_some q, upd_same]
    | none => rw [lay_none ((lay_free h).2 q), upd_same]
  · rw [upd_ne hb]
    cases q : G b with
    | some u => rw [lay_some q, lay_some q, upd_ne hb]
    | none =>
      cases r : H b with
      | some u => rw [lay_hid q r, lay_hid q r]
      | none => rw [lay_none r, lay_none r, upd_ne hb]
theorem Kp.upd {G H G1 : Hp} {p : Addr} {o : HO} (k : Kp G H G1) (h : lay G H G1 p = none) : Kp G H (L2.upd G1 p o) := fun b u a c => by
  have hb : b ≠ p := fun e => by
    rw [e] at a c
    rw [(lay_free h).2 a] at c
    cases c
  rw [upd_ne hb]
  exact k b u a c
theorem same_upd {H : Hp} {p : Addr} {o : HO} (h : H p = none) : Same H (upd H p o) := fun b x e => by
  rw [upd_ne (ne_of_none e h)]
  exact e
/-- the hidden things are lists -/
structure Hid (G H : Hp) : Prop where
  same : Same G H
  lst : ∀ b u, G b = none → H b = some u → ∃ xs, u = .lst xs
theorem Hid.self (H : Hp) : Hid H H := ⟨Same.refl H, fun b u h k => by rw [h] at k; cases k⟩
theorem Hid.not {G H : Hp} (d : Hid G H) {b : Addr} {u : HO} (h : H b = some u) (n : ∀ xs, u ≠ .lst xs) : G b = some u := by
  cases q : G b with
  | some o => rw [← h, d.same b o q]
  | none =>
    obtain ⟨xs, e⟩ := d.lst b u q h
    exact absurd e (n xs)
theorem Hid.lay {G H G' : Hp} (d : Hid G H) (k : Kp G H G') : Hid G' (DL.lay G H G') := ⟨same_lay k, fun b u h q => by
  cases r : G b with
  | some o => rw [lay_some r, h] at q; cases q
  | none =>
    cases z : H b with
    | some w =>
      rw [lay_hid r z] at q
      cases q
      exact d.lst b _ r z
    | none => rw [lay_none z, h] at q; cases q⟩

/-! ### a def that is called while some lists are hidden -/
section
variable {P : Program} {w : World} {K : PySem.W.Frag} {mg : Str → Option Value} {base : Heap}
theorem hok_seen {G H : Hp} {h : Heap} (d : Hid G H) (ok : HOk P w H h) : HOk P w G h := fun a o e =>
  (ok a o (d.same a o e)).stay (fun _ _ _ q => q) (fun b q => d.not q (fun xs z => nomatch z)) (fun b xs q => d.not q (fun ys z => nomatch z))
theorem frame_run {CX : CXT} {outer : List Env} {s s' : Shared} {G H : Hp} {Q : VK} {u : Value} (d : Hid G H) (ok : HOk P w H s.heap) (frf : ∀ b ∈ frs outer, H b = none)
    (c : CE outer P w G s (fun v G' => Kp G H G' → Q v (lay G H G')) u s') : CE outer P w H s Q u s' := by
  obtain ⟨v, G', os, bare, un, hok, rv, q⟩ := c
  have obj : ∀ {b : Addr} {u : HO}, G b = none → H b = some u → ∃ (xs : List V) (its : List Value) (n : Nat), u = .lst xs ∧ xs.length ≤ sizeLine ∧ Vals xs its ∧ s.heap.get? b = some { cls := .type "list", data := .seq its.toArray n } := fun {b u} h k => by
    obtain ⟨xs, rfl⟩ := d.lst b u h k
    obtain ⟨z, its, n, r, e⟩ := ok b _ k
    exact ⟨xs, its, n, rfl, z, r, e⟩
  have kp : Kp G H G' := fun b u h k => by
    obtain ⟨xs, its, n, _, _, _, e⟩ := obj h k
    exact un.free b _ e h (by simp)
  have gn : ∀ {b : Addr}, H b = none → G b = none := fun {b} h => d.same.free h
  refine ⟨v, lay G H G', os, bare, ⟨fun b o e n hb hx => un.keep b o e (gn n) hb hx, fun b o e n hb hx => un.slot b o e (gn n) hb hx, fun b o e n hx => ?_, un.there, fun b xs e => ?_, fun b o x e => ?_, fun b ps e => ?_⟩, fun a o e => ?_, rv, q kp⟩
  · rw [lay_none n]; exact un.free b o e (gn n) hx
  · have g := d.not e (fun ys z => nomatch z)
    rw [lay_some g]; exact un.tups b xs g
  · have g := d.not e (fun ys z => nomatch z)
    rw [lay_some g]; exact un.frzs b o x g
  · have g := d.not e (fun ys z => nomatch z)
    rw [lay_some g]; exact un.tbls b ps g
  · cases h : G a with
    | none =>
      cases k : H a with
      | some x =>
        rw [lay_hid h k] at e
        cases e
        obtain ⟨xs, its, n, rfl, z, r, e1⟩ := obj h k
        refine ⟨z, its, n, r, un.keep a _ e1 h (fun m => ?_) (by simp)⟩
        rw [frf a m] at k
        cases k
      | none =>
        rw [lay_none k] at e
        exact (hok a o e).stay (fun _ _ _ q => q) (fun b q => same_lay kp b _ q) (fun b xs q => same_lay kp b _ q)
    | some x =>
      rw [lay_some h] at e
      exact (hok a o e).stay (fun _ _ _ q => q) (fun b q => same_lay kp b _ q) (fun b xs q => same_lay kp b _ q)
/-- the promise sp, kept while lists are hidden -/
def spHid (sp : Sp) : Sp := fun vs H Q E => ∃ G, Hid G H ∧ sp vs G (fun v G' => Kp G H G' → Q v (lay G H G')) E
theorem FnOk.frame {k : Nat} {f : Addr} {fd : FuncData} {ps : List Str} {sp : Sp} (F : FnOk P w K mg base CX0 k f fd ps sp) : FnOk P w K mg base CX0 k f fd ps (spHid sp) := by
  refine ⟨fun vs H Q E h => ?_, fun A outer s H args us vs Q E hr e0 hb r h => ?_⟩
  · obtain ⟨G, _, h⟩ := h
    exact F.len _ _ _ _ h
  · obtain ⟨G, d, h⟩ := h
    have e1 : Env0 P w K mg base A outer s G := ⟨e0.frames, e0.mod, fun b o e => ⟨(e0.bs b o e).1, d.same.free (e0.bs b o e).2⟩, e0.bsz, e0.funs, fun b m => d.same.free (e0.frf b m), hok_seen d e0.hok, e0.bare⟩
    refine codeAny_mono (F.run A outer s G args us vs _ E hr e1 hb r h) fun res s' c => ?_
    cases res with
    | error e => exact c
    | ok fl =>
      cases fl with
      | ret u => exact frame_run (CX := CX0) d e0.hok e0.frf c
      | next => exact c
      | brk => exact c
      | cont => exact c
end
end DL

namespace DL
open PySem PySem.Spec PyProof.Rows
open L2 hiding St
abbrev St := L2.St

/-! ### tuples that are known to bear no attributes -/
def TupD (K : PySem.W.Frag) (H : Hp) (a : Addr) (xs : List V) : Prop :=
  (∃ o : Obj, o.dict = none ∧ H a = some (.frz o (.tup xs))) ∨ ∃ (o : Obj) (its : Array Value) (n : Nat), K.lookup a = some o ∧ o.cls = .type "tuple" ∧ o.dict = none ∧ o.data = .seq its n ∧ its.size ≤ sizeLine ∧ Vals xs its.toList
theorem TupD.sq {K : PySem.W.Frag} {H : Hp} {a : Addr} {xs : List V} (h : TupD K H a xs) : SqT K H a xs := by
  rcases h with ⟨o, _, h⟩ | ⟨o, its, n, h1, h2, _, h3, h4, h5⟩
  · exact .inl (.inr ⟨o, h⟩)
  · exact .inr ⟨o, its, n, h1, h2, h3, h4, h5⟩
theorem TupD.mono {K : PySem.W.Frag} {H H' : Hp} {a : Addr} {xs : List V} (s : Same H H') (h : TupD K H a xs) : TupD K H' a xs := by
  rcases h with ⟨o, hd, h⟩ | h
  · exact .inl ⟨o, hd, s _ _ h⟩
  · exact .inr h
/-- a new tuple, whatever its object is -/
abbrev NewT (H : Hp) (Q : VK) (xs : List V) : Prop := ∀ (p : Addr) (o : Obj), H p = none → o.dict = none → Q (.ref p) (upd H p (.frz o (.tup xs)))
section
variable {X : Cx} {pins : List (Addr × Obj)} {σ : St} {H : Hp} {s : Shared} {Q : VK}
theorem laidT {its : List Value} {xs : List V} {k : Nat} (I : Inv X pins σ H s) (r : Vals xs its) (hz : xs.length ≤ sizeLine) (q : NewT H Q xs) :
    EP X pins σ Q (.ref s.heap.objs.size) { s with heap := s.heap.push { cls := .type "tuple", data := .seq its.toArray }, toks := k } := by
  refine ⟨.ref s.heap.objs.size, upd H s.heap.objs.size (.frz { cls := .type "tuple", data := .seq its.toArray } (.tup xs)), ?_, rfl, q _ _ (I.hok.fresh (Nat.le_refl _)) rfl⟩
  refine I.laid (t' := k) (fun b ob e => Heap.get?_push_of_some _ e) (Nat.le_refl _) ?_
  exact ⟨Heap.get?_push_size _ rfl, hz, its, r, ⟨_, Heap.get?_push_size _ rfl, rfl, _, rfl⟩⟩
def tTupN (t : TA) : TE := fun σ H Q => t σ H fun xs H1 => xs.length ≤ sizeLine ∧ NewT H1 Q xs
theorem pen_tup {es : List Expr} {t : TA} {x1 : Nat} {pos : Pos} (h : PA X es t) : PE X (.Tuple es x1 pos) (tTupN t) := by
  refine ⟨fun pins s σ H Q I hq => ?_⟩
  refine wpAny_Tuple_spliced (thn (h.run pos pins s σ H _ I hq) ?_)
  rintro us s1 ⟨xs, H1, I1, r, z, q⟩
  have e := r.length
  exact ⟨by rw [← e]; exact z, laidT (k := s1.toks) I1 r z q⟩
theorem calln_tuple : CallR X (.type "tuple") (fun xs H Q => ∃ p ys, xs = [.ref p] ∧ ((SqL X.K H p ys ∧ NewT H Q ys) ∨ (SqT X.K H p ys ∧ Q (.ref p) H))) := by
  rintro pins s σ H _ us Q I r ⟨p, ys, rfl, h⟩
  cases r with
  | cons r0 rn =>
    cases rn
    cases r0
    rcases h with ⟨hq, q⟩ | ⟨hq, q⟩
    · obtain ⟨its, r', pl, hz⟩ := I.list hq
      refine call_tuple_list pl.isList (fun h' kp => ?_) ?_
      · exact laidT (k := s.toks) (I.kept (t' := s.toks) kp) r' hz q
      · rw [List.size_toArray, ← r'.length]
        exact hz
    · obtain ⟨its, r', pl, hz⟩ := I.tuple hq
      exact call_tuple_same pl ⟨.ref p, H, I, rfl, q⟩
theorem opn_cat : OpR X (binaryOp .Add) (fun x y H Q => ∃ a b xs ys, x = .ref a ∧ y = .ref b ∧ SqT X.K H a xs ∧ SqT X.K H b ys ∧ xs.length + ys.length ≤ sizeLine ∧ (xs = [] → Q (.ref b) H) ∧ (xs ≠ [] → ys = [] → Q (.ref a) H) ∧ (xs ≠ [] → ys ≠ [] → NewT H Q (xs ++ ys))) := by
  rintro pins s σ H x y v u Q I rx ry ⟨a, b, xs, ys, rfl, rfl, ha, hb, hz, q0, q1, q2⟩
  by_cases hx : xs = []
  · exact op_catA pins s σ H _ _ v u Q I rx ry ⟨a, b, xs, ys, rfl, rfl, ha, hb, hz, q0, fun n => absurd hx n, fun n => absurd hx n⟩
  · by_cases hy : ys = []
    · exact op_catA pins s σ H _ _ v u Q I rx ry ⟨a, b, xs, ys, rfl, rfl, ha, hb, hz, q0, q1, fun _ n => absurd hy n⟩
    · cases rx
      cases ry
      obtain ⟨i1, r1, p1, _⟩ := I.tuple ha
      obtain ⟨i2, r2, p2, _⟩ := I.tuple hb
      have l1 := r1.length
      have l2 := r2.length
      refine HT.cat_tup p1 p2 (fun z => hx ?_) (fun z => absurd ?_ hy) (fun _ => ?_) (by rw [← l1, ← l2]; exact hz)
      · rw [z] at l1; exact List.length_eq_zero_iff.mp l1
      · rw [z] at l2; exact List.length_eq_zero_iff.mp l2
      · exact laidT (k := s.toks) I (r1.append r2) (by rw [List.length_append]; exact hz) (q2 hx hy)
theorem sln_tup : SlR X (fun x lo hi H Q => ∃ a xs, x = .ref a ∧ SqT X.K H a xs ∧ (HT.sIx xs.length 0 lo = 0 ∧ HT.sIx xs.length xs.length hi = xs.length → Q (.ref a) H) ∧ (¬ (HT.sIx xs.length 0 lo = 0 ∧ HT.sIx xs.length xs.length hi = xs.length) → NewT H Q (cutV xs lo hi))) := by
  rintro pins s σ H x v vl vu lo hi sl Q I rx hs pl pu ⟨a, xs, rfl, hx, q1, q2⟩
  by_cases hw : HT.sIx xs.length 0 lo = 0 ∧ HT.sIx xs.length xs.length hi = xs.length
  · exact sl_tupA pins s σ H _ v vl vu lo hi sl Q I rx hs pl pu ⟨a, xs, rfl, hx, q1, fun n => absurd hw n⟩
  · cases rx
    obtain ⟨its, r, ht, hz⟩ := I.tuple hx
    have hl : its.toArray.size = xs.length := by rw [List.size_toArray, r.length]
    refine ⟨"tuple", _, slot_tuple_getitem.lookup, ht.typeIs, HT.getItem_tuple_cut ht hs pl pu (by rw [hl]; exact hw) ?_ (by rw [hl]; exact hz)⟩
    rw [hl]
    exact laidT (k := s.toks) I ((r.drop _).take _) (Nat.le_trans (cutV_length xs lo hi) hz) (q2 hw)
/-- t * k, for small tuples that aren't empty -/
theorem opn_rep : OpR X (binaryOp .Mult) (fun x y H Q => ∃ l k xs, x = .ref l ∧ y = .int k ∧ SqT X.K H l xs ∧ xs ≠ [] ∧ 2 ≤ k ∧ k ≤ 1000 ∧ xs.length ≤ 1000 ∧ NewT H Q (List.replicate k.toNat xs).flatten) := by
  rintro pins s σ H x y v u Q I rx ry ⟨l, k, xs, rfl, rfl, hT, hne, h1, h2, hz, q⟩
  cases rx
  obtain ⟨t, rfl⟩ := ry
  obtain ⟨its, r, ⟨⟨cl, dd, da, sl⟩, ho, hc, n, hd⟩, hs⟩ := I.tuple hT
  dsimp only at hc hd
  subst hc
  subst hd
  have le : its.length = xs.length := r.length.symm
  have ne : its.toArray.isEmpty = false := by
    cases its with
    | nil => exact absurd (List.length_eq_zero_iff.mp le.symm) hne
    | cons a b => rfl
  have sz : its.toArray.size = xs.length := by
    rw [List.size_toArray]
    exact le
  have bz : k.toNat * xs.length ≤ 1000000 :=
    Nat.le_trans (Nat.mul_le_mul (show k.toNat ≤ 1000 by omega) hz) (by decide)
  have bi : (its.toArray.size : Int) * k ≤ 1000000 := by
    rw [sz]
    have e : ((k.toNat : Nat) : Int) = k := by omega
    rw [← e, ← Int.natCast_mul, Nat.mul_comm]
    omega
  have fl : (List.replicate k.toNat its).flatten.length ≤ sizeLine := by
    rw [lm_len_rep_flat, le, sizeLine_eq]
    omega
  have c0 : (decide (k < -(2 ^ 63)) || decide (k ≥ 2 ^ 63)) = false := by
    rw [decide_eq_false (show ¬ k < -(2 ^ 63) by omega),
      decide_eq_false (show ¬ k ≥ 2 ^ 63 by omega)]
    rfl
  have c1 : (its.toArray.isEmpty || k == 1) = false := by
    rw [ne]
    exact beq_eq_false_iff_ne.mpr (show k ≠ 1 by omega)
  have c2 : (decide (k ≤ 0) || its.toArray.isEmpty) = false := by
    rw [ne, decide_eq_false (show ¬ k ≤ 0 by omega)]
    rfl
  have c4 : Builtin.Tuple.tupleTooMany ((its.toArray.size : Int) * k) = false := by
    unfold Builtin.Tuple.tupleTooMany
    refine decide_eq_false ?_
    rw [sizeLine_eq]
    omega
  have ty : s.TypeIs (.ref l) "tuple" := ⟨_, ho, rfl⟩
  have mul := tuple_mulW l its.toArray n dd sl k t c0 c1 c2 (by omega) c4
    (by rw [size_rep, List.size_toArray]; exact fl)
  refine wpAny_binaryOp_repeat_ref (T := "tuple") (U := "int") (by decide) ty
    (fun s' => typeIs_int s' k t) noFill_tuple_mul F.fills_int_mul F.slot_int_rmul repeat_tuple
    F.slot_int_index.lookup ?_
  refine call_meets F.slot_int_rmul (typeIs_int s k t) F.entry_int_rmul (F.args_int_rmul_2 _ _)
    (int_rmul_tuple k t l its.toArray n dd sl) ⟨ho, rfl, ty, ?_⟩
  refine call_meets F.slot_tuple_mul ty F.entry_tuple_mul (F.args_tuple_mul_2 _ _) mul ⟨ho, ?_⟩
  rw [size_rep]
  refine laidT (k := s.toks) I (r.rep k.toNat) ?_ q
  rw [lm_len_rep_flat, sizeLine_eq]
  omega
theorem rel_str (x : Str) (t : Tok) : RelV (.str x) (.str x t) := ⟨t, rfl⟩
theorem mtn_partition : MtR X "str.partition" (fun x xs H Q => ∃ a b, x = .str a ∧ xs = [.str b] ∧ (b.length == 0) = false ∧ a.length ≤ sizeLine ∧ NewT H Q [.str (Txt.partition a b).1, .str (Txt.partition a b).2.1, .str (Txt.partition a b).2.2]) := by
  rintro pins s σ H x xs v us Q I rx rs ⟨a, b, rfl, rfl, hb, hz, h⟩
  obtain ⟨t, rfl⟩ := rx
  cases rs with
  | cons r0 rn =>
    cases rn
    obtain ⟨u, rfl⟩ := r0
    refine call_meets F.slot_str_partition (typeIs_str _ _ _) F.entry_str_partition (F.args_str_partition_2 _ _) (meets_str_partition a b t u hb hz) ?_
    unfold Txt.partition at h
    revert h
    cases Builtin.Str.occurrences a b 0 a.length 1 with
    | nil => intro h; exact laidT I (.cons (rel_str _ _) (.cons (rel_str _ _) (.cons (rel_str _ _) .nil))) (by show 3 ≤ sizeLine; decide) h
    | cons i r => intro h; exact laidT I (.cons (rel_str _ _) (.cons (rel_str _ _) (.cons (rel_str _ _) .nil))) (by show 3 ≤ sizeLine; decide) h
end
end DL

namespace DL
open PySem PySem.Spec
open L2 hiding St

/-! ### data -/
inductive D where
  | non | bl (b : Bool) | int (i : Int) | str (x : Str) | lst (xs : List D) | tup (xs : List D)
  /-- the bag of draws -/
  | bag
  /-- the script -/
  | scr (ns : List Int)
  /-- an error of the class at C, with these fields -/
  | err (C : Addr) (ns : List Str) (xs : List D)

/-! ### the bag: its four items are told by bounds alone -/
def bagIts (l : Addr) (i x sd : Int) : List V := [.ref l, .int i, .int x, .int sd]
def BagOk (i x sd : Int) : Prop := 0 ≤ i ∧ 0 ≤ x ∧ 0 ≤ sd ∧ sd < 2147483647
def BagO (a l : Addr) : HO := .ext fun h => ∃ (i x sd : Int) (its : List Value) (m : Nat), BagOk i x sd ∧ Vals (bagIts l i x sd) its ∧ h.get? a = some { cls := .type "list", data := .seq its.toArray m }
def Bag (H : Hp) (b : Addr) : Prop := ∃ (l : Addr) (ns : List Int), H b = some (BagO b l) ∧ H l = some (.lst (ns.map V.int))
theorem Bag.mono {H H' : Hp} {b : Addr} (s : Same H H') (h : Bag H b) : Bag H' b := by
  obtain ⟨l, ns, h1, h2⟩ := h
  exact ⟨l, ns, s _ _ h1, s _ _ h2⟩
theorem bag_ok {P : Program} {w : World} {H : Hp} {h : Heap} {a l : Addr} {i x sd : Int} (ok : BagOk i x sd) (o : ObjOk P w H h a (.lst (bagIts l i x sd))) (H' : Hp) : ObjOk P w H' h a (BagO a l) := by
  obtain ⟨z, its, n, r, e⟩ := o
  exact ⟨⟨i, x, sd, its, n, ok, r, e⟩, ⟨_, e⟩, fun h1 h2 p k => by
    obtain ⟨i, x, sd, its, n, ok, r, e⟩ := p
    exact ⟨i, x, sd, its, n, ok, r, k _ e⟩⟩
theorem bag_open {P : Program} {w : World} {H : Hp} {h : Heap} {a l : Addr} (o : ObjOk P w H h a (BagO a l)) : ∃ i x sd, BagOk i x sd ∧ ∀ H', ObjOk P w H' h a (.lst (bagIts l i x sd)) := by
  have o' : ObjOk P w H h a (.ext fun h => ∃ (i x sd : Int) (its : List Value) (m : Nat), BagOk i x sd ∧ Vals (bagIts l i x sd) its ∧ h.get? a = some { cls := .type "list", data := .seq its.toArray m }) := o
  obtain ⟨⟨i, x, sd, its, m, ok, r, e⟩, _, _⟩ := o'
  exact ⟨i, x, sd, ok, fun H' => ⟨by show 4 ≤ sizeLine; decide, its, m, r, e⟩⟩
section
variable {X : Cx} {pins : List (Addr × Obj)} {σ : St} {H : Hp} {s : Shared}
theorem inv_open {a l : Addr} (I : Inv X pins σ H s) (h : H a = some (BagO a l)) : ∃ i x sd, BagOk i x sd ∧ Inv X pins σ (upd H a (.lst (bagIts l i x sd))) s := by
  obtain ⟨i, x, sd, ok, o⟩ := bag_open (I.hok a _ h)
  obtain ⟨_, its, m, _, e⟩ := o H
  exact ⟨i, x, sd, ok, I.write (t' := s.toks) (x := a) (e := a) (by rw [h]; exact True.intro) (.inl rfl) (fun _ _ _ q => q) ⟨_, e⟩ (o _)⟩
theorem inv_close {a l : Addr} {i x sd : Int} (I : Inv X pins σ H s) (h : H a = some (.lst (bagIts l i x sd))) (ok : BagOk i x sd) : Inv X pins σ (upd H a (BagO a l)) s := by
  have o := I.hok a _ h
  obtain ⟨_, its, m, _, e⟩ := id o
  exact I.write (t' := s.toks) (x := a) (e := a) (by rw [h]; exact True.intro) (.inl rfl) (fun _ _ _ q => q) ⟨_, e⟩ (bag_ok ok o _)
/-- a block that opens the bag and closes it at each end -/
def tBag (t : TS) : TS := fun D σ H => ∃ a l, H a = some (BagO a l) ∧ ∀ i x sd, BagOk i x sd →
  t ⟨fun σ' H' => ∃ i x sd, H' a = some (.lst (bagIts l i x sd)) ∧ BagOk i x sd ∧ D.nx σ' (upd H' a (BagO a l)), fun v H' => ∃ i x sd, H' a = some (.lst (bagIts l i x sd)) ∧ BagOk i x sd ∧ D.rt v (upd H' a (BagO a l)), fun _ _ => False, fun _ _ => False⟩ σ (upd H a (.lst (bagIts l i x sd)))
theorem pss_bag {st : List Stmt} {t : TS} (h : PSs X st t) : PSs X st (tBag t) := by
  refine ⟨fun pins s σ H D I q => ?_⟩
  obtain ⟨a, l, e, q⟩ := q
  obtain ⟨i, x, sd, ok, I1⟩ := inv_open I e
  refine thn (h.run pins s σ _ _ I1 (q i x sd ok)) fun f s1 z => ?_
  cases f with
  | next => obtain ⟨σ', H', J, i, x, sd, e, ok, q⟩ := z; exact ⟨σ', _, inv_close J e ok, q⟩
  | brk => obtain ⟨σ', H', J, q⟩ := z; exact q.elim
  | cont => obtain ⟨σ', H', J, q⟩ := z; exact q.elim
  | ret v => obtain ⟨v, σ', H', J, r, i, x, sd, e, ok, q⟩ := z; exact ⟨v, σ', _, inv_close J e ok, r, q⟩
/-- a block whose value is a new list that becomes the bag -/
def tBagNew (t : TS) : TS := fun D σ H => t ⟨fun _ _ => False, fun v H' => ∃ a l i x sd, v = .ref a ∧ H' a = some (.lst (bagIts l i x sd)) ∧ BagOk i x sd ∧ D.rt v (upd H' a (BagO a l)), fun _ _ => False, fun _ _ => False⟩ σ H
theorem pss_bagNew {st : List Stmt} {t : TS} (h : PSs X st t) : PSs X st (tBagNew t) := by
  refine ⟨fun pins s σ H D I q => ?_⟩
  refine thn (h.run pins s σ _ _ I q) fun f s1 z => ?_
  cases f with
  | next => obtain ⟨σ', H', J, q⟩ := z; exact q.elim
  | brk => obtain ⟨σ', H', J, q⟩ := z; exact q.elim
  | cont => obtain ⟨σ', H', J, q⟩ := z; exact q.elim
  | ret v => obtain ⟨v, σ', H', J, r, a, l, i, x, sd, ev, e, ok, q⟩ := z; exact ⟨v, σ', _, inv_close J e ok, r, q⟩
end

/-! ### what a value is worth as data -/
mutual
def Rep (K : PySem.W.Frag) (H : Hp) : D → V → Prop
  | .non, v => v = .non
  | .bl b, v => v = .bl b
  | .int i, v => v = .int i
  | .str x, v => v = .str x
  | .lst ds, v => ∃ a xs, v = .ref a ∧ H a = some (.lst xs) ∧ RepAll K H ds xs
  | .tup ds, v => ∃ a xs, v = .ref a ∧ TupD K H a xs ∧ RepAll K H ds xs
  | .bag, v => ∃ a, v = .ref a ∧ Bag H a
  | .scr ns, v => ∃ a, v = .ref a ∧ SqL K H a (ns.map V.int)
  | .err C ns ds, v => ∃ a dx xs, v = .ref a ∧ H a = some (exo a C (some dx)) ∧ H dx = some (exd dx (ns.zip xs)) ∧ ns.length = ds.length ∧ RepAll K H ds xs
def RepAll (K : PySem.W.Frag) (H : Hp) : List D → List V → Prop
  | [], xs => xs = []
  | d :: ds, xs => ∃ x r, xs = x :: r ∧ Rep K H d x ∧ RepAll K H ds r
end
mutual
theorem Rep.mono {K : PySem.W.Frag} {H H' : Hp} (s : Same H H') : ∀ (d : D) (v : V), Rep K H d v → Rep K H' d v
  | .non, _, h => h
  | .bl _, _, h => h
  | .int _, _, h => h
  | .str _, _, h => h
  | .lst ds, _, ⟨a, xs, e, h, r⟩ => ⟨a, xs, e, s _ _ h, RepAll.mono s ds xs r⟩
  | .tup ds, _, ⟨a, xs, e, h, r⟩ => ⟨a, xs, e, h.mono s, RepAll.mono s ds xs r⟩
  | .bag, _, ⟨a, e, h⟩ => ⟨a, e, h.mono s⟩
  | .scr _, _, ⟨a, e, h⟩ => ⟨a, e, s.seq h⟩
  | .err _ _ ds, _, ⟨a, dx, xs, e, h, h2, l, r⟩ => ⟨a, dx, xs, e, s _ _ h, s _ _ h2, l, RepAll.mono s ds xs r⟩
theorem RepAll.mono {K : PySem.W.Frag} {H H' : Hp} (s : Same H H') : ∀ (ds : List D) (vs : List V), RepAll K H ds vs → RepAll K H' ds vs
  | [], _, h => h
  | d :: ds, _, ⟨x, r, e, h, t⟩ => ⟨x, r, e, Rep.mono s d x h, RepAll.mono s ds r t⟩
end
section
variable {K : PySem.W.Frag} {H : Hp}
theorem RepAll.length : ∀ {ds : List D} {vs : List V}, RepAll K H ds vs → vs.length = ds.length
  | [], _, h => by cases h; rfl
  | d :: ds, _, ⟨x, r, e, _, t⟩ => by rw [e, List.length_cons, List.length_cons, RepAll.length t]
theorem RepAll.get : ∀ {ds : List D} {vs : List V} {i : Nat} {d : D}, RepAll K H ds vs → ds[i]? = some d → ∃ v, vs[i]? = some v ∧ Rep K H d v
  | [], _, i, d, _, e => by simp at e
  | d0 :: ds, _, 0, d, ⟨x, r, e, h, _⟩, q => by
    have z : d0 = d := by simpa using q
    subst z; subst e
    exact ⟨x, rfl, h⟩
  | d0 :: ds, _, i + 1, d, ⟨x, r, e, _, t⟩, q => by
    subst e
    exact RepAll.get (i := i) t (by simpa using q)
theorem RepAll.app : ∀ {ds es : List D} {vs ws : List V}, RepAll K H ds vs → RepAll K H es ws → RepAll K H (ds ++ es) (vs ++ ws)
  | [], es, vs, ws, h, q => by cases h; exact q
  | d :: ds, es, _, ws, ⟨x, r, e, h, t⟩, q => by subst e; exact ⟨x, r ++ ws, rfl, h, RepAll.app t q⟩
theorem RepAll.take : ∀ {ds : List D} {vs : List V} (n : Nat), RepAll K H ds vs → RepAll K H (ds.take n) (vs.take n)
  | [], _, n, h => by cases h; simp; rfl
  | d :: ds, _, 0, _ => rfl
  | d :: ds, _, n + 1, ⟨x, r, e, h, t⟩ => by subst e; exact ⟨x, r.take n, rfl, h, RepAll.take n t⟩
theorem RepAll.drop : ∀ {ds : List D} {vs : List V} (n : Nat), RepAll K H ds vs → RepAll K H (ds.drop n) (vs.drop n)
  | [], _, n, h => by cases h; simp; rfl
  | d :: ds, _, 0, h => h
  | d :: ds, _, n + 1, ⟨x, r, e, h, t⟩ => by subst e; exact RepAll.drop n t
theorem RepAll.set : ∀ {ds : List D} {vs : List V} (n : Nat) {d : D} {v : V}, RepAll K H ds vs → Rep K H d v → RepAll K H (ds.set n d) (vs.set n v)
  | [], _, n, _, _, h, _ => by cases h; simp; rfl
  | d :: ds, _, 0, _, _, ⟨x, r, e, _, t⟩, q => by subst e; exact ⟨_, r, rfl, q, t⟩
  | d :: ds, _, n + 1, _, _, ⟨x, r, e, h, t⟩, q => by subst e; exact ⟨x, _, rfl, h, RepAll.set n t q⟩
theorem RepAll.one {d : D} {v : V} (h : Rep K H d v) : RepAll K H [d] [v] := ⟨v, [], rfl, h, rfl⟩
theorem RepAll.cut {ds : List D} {vs : List V} (lo hi : Option Int) (h : RepAll K H ds vs) : RepAll K H ((ds.drop (HT.sIx ds.length 0 lo)).take (HT.sIx ds.length ds.length hi - HT.sIx ds.length 0 lo)) (cutV vs lo hi) := by
  unfold cutV
  rw [h.length]
  exact (h.drop _).take _
theorem RepAll.at {ds : List D} {vs : List V} {i : Int} {d : D} (h : RepAll K H ds vs) (e : atI ds i = some d) : ∃ v, atI vs i = some v ∧ Rep K H d v := by
  unfold atI at e ⊢
  rw [h.length]
  cases q : ixN ds.length i with
  | none => rw [q] at e; cases e
  | some j =>
    rw [q] at e
    exact h.get e
theorem RepAll.join : ∀ {ds : List D} {vs : List V} (n : Nat), RepAll K H ds vs → RepAll K H (List.replicate n ds).flatten (List.replicate n vs).flatten
  | ds, vs, 0, _ => rfl
  | ds, vs, n + 1, h => by
    rw [List.replicate_succ, List.replicate_succ, List.flatten_cons, List.flatten_cons]
    exact h.app (h.join n)
end

/-! ### as the library's data -/
mutual
def py : D → PyData
  | .non => .none
  | .bl b => .bool b
  | .int i => .int i
  | .str x => .str x
  | .lst ds => .list (pyAll ds)
  | .tup ds => .tuple (pyAll ds)
  | .bag => .none
  | .scr ns => .list (ns.map .int)
  | .err _ _ _ => .none
def pyAll : List D → List PyData
  | [] => []
  | d :: ds => py d :: pyAll ds
end
mutual
def pure? : D → Bool
  | .lst ds => pureAll ds
  | .tup ds => pureAll ds
  | .bag => false
  | .scr _ => false
  | .err _ _ _ => false
  | _ => true
def pureAll : List D → Bool
  | [] => true
  | d :: ds => pure? d && pureAll ds
end
mutual
theorem rep_dp {K : PySem.W.Frag} {H : Hp} : ∀ (d : D) (v : V), pure? d = true → Rep K H d v → Dp K H v (py d)
  | .non, _, _, h => by cases h; exact .non
  | .bl b, _, _, h => by cases h; exact .bl b
  | .int i, _, _, h => by cases h; exact .int i
  | .str x, _, _, h => by cases h; exact .str x
  | .lst ds, _, p, ⟨a, xs, e, h, r⟩ => by subst e; exact .lst (SqL.of h) (rep_dpAll ds xs p r)
  | .tup ds, _, p, ⟨a, xs, e, h, r⟩ => by subst e; exact .tup h.sq (rep_dpAll ds xs p r)
theorem rep_dpAll {K : PySem.W.Frag} {H : Hp} : ∀ (ds : List D) (vs : List V), pureAll ds = true → RepAll K H ds vs → DpAll K H vs (pyAll ds)
  | [], _, _, h => by cases h; exact .nil
  | d :: ds, _, p, ⟨x, r, e, h, t⟩ => by
    have p' : pure? d = true ∧ pureAll ds = true := by simpa [pureAll] using p
    subst e
    exact .cons (rep_dp d x p'.1 h) (rep_dpAll ds r p'.2 t)
end
/-- a datum that may be compared -/
def fit (d : D) : Bool := pure? d && SeqAt.shaped (py d)
theorem fit_pure {d : D} (h : fit d = true) : pure? d = true := (Bool.and_eq_true_iff.mp h).1
theorem fit_shaped {d : D} (h : fit d = true) : SeqAt.shaped (py d) = true := (Bool.and_eq_true_iff.mp h).2
def eqD (d e : D) : Bool := PyData.eqv (py d) (py e)
def flat? : D → Option V
  | .non => some .non
  | .bl b => some (.bl b)
  | .int i => some (.int i)
  | .str x => some (.str x)
  | _ => none
def flats : List D → Option (List V)
  | [] => some []
  | d :: ds => match flat? d, flats ds with
    | some v, some vs => some (v :: vs)
    | _, _ => none
theorem rep_flat {K : PySem.W.Frag} {H : Hp} {d : D} {v w : V} (h : flat? d = some w) (r : Rep K H d v) : v = w ∧ flatV w = true := by
  cases d <;> simp [flat?] at h <;> subst h <;> exact ⟨r, rfl⟩
theorem rep_flats {K : PySem.W.Frag} {H : Hp} : ∀ {ds : List D} {vs ws : List V}, flats ds = some ws → RepAll K H ds vs → vs = ws ∧ ws.all flatV = true
  | [], vs, ws, h, r => by cases h; cases r; exact ⟨rfl, rfl⟩
  | d :: ds, vs, ws, h, ⟨x, t, e, r, rt⟩ => by
    subst e
    unfold flats at h
    cases h1 : flat? d with
    | none => rw [h1] at h; cases h
    | some v =>
      cases h2 : flats ds with
      | none => rw [h1, h2] at h; cases h
      | some us =>
        rw [h1, h2] at h
        cases h
        obtain ⟨e1, f1⟩ := rep_flat h1 r
        obtain ⟨e2, f2⟩ := rep_flats h2 rt
        subst e1; subst e2
        exact ⟨rfl, by rw [List.all_cons, f1, f2]; rfl⟩
end DL

namespace DL
open PySem PySem.Spec
open L2 hiding St
open PyProof.Rows (subscriptTail)

/-! ### a frame's slots as data -/
inductive SL where
  | nul | val (d : D)
  /-- a list that this slot alone holds -/
  | own (ds : List D)
abbrev Rho := List SL
abbrev ED := Rho → (D → Prop) → Prop
abbrev TD := Rho → (Bool → Prop) → Prop
abbrev AD := Rho → (List D → Prop) → Prop
abbrev OD := D → D → (D → Prop) → Prop
structure Sim (K : PySem.W.Frag) (G H : Hp) (ρ : Rho) (σ : St) : Prop where
  hid : Hid G H
  len : ρ.length = σ.length
  val : ∀ (i : Nat) (d : D), ρ[i]? = some (SL.val d) → ∃ v, σ[i]? = some (some v) ∧ Rep K G d v
  own : ∀ (i : Nat) (ds : List D), ρ[i]? = some (SL.own ds) → ∃ p xs, σ[i]? = some (some (V.ref p)) ∧ H p = some (.lst xs) ∧ G p = none ∧ RepAll K G ds xs
  inj : ∀ (i j : Nat) (ds es : List D) (p : Addr), ρ[i]? = some (SL.own ds) → ρ[j]? = some (SL.own es) → σ[i]? = some (some (V.ref p)) → σ[j]? = some (some (V.ref p)) → i = j
theorem Sim.step {K : PySem.W.Frag} {G H G' : Hp} {ρ : Rho} {σ : St} (S : Sim K G H ρ σ) (s : Same G G') (k : Kp G H G') : Sim K G' (lay G H G') ρ σ :=
  ⟨S.hid.lay k, S.len, fun i d e => by
    obtain ⟨v, h, r⟩ := S.val i d e
    exact ⟨v, h, Rep.mono s d v r⟩, fun i ds e => by
    obtain ⟨p, xs, h, hp, gp, r⟩ := S.own i ds e
    exact ⟨p, xs, h, lay_hid gp hp, k p _ gp hp, RepAll.mono s ds xs r⟩, S.inj⟩

/-- what is wanted of a datum, as it is wanted of a value -/
def Po (K : PySem.W.Frag) (G H : Hp) (R : D → Prop) (Q : VK) : Prop := ∀ v G' d, Same G G' → Kp G H G' → Rep K G' d v → R d → Q v (lay G H G')
def PoT (G H : Hp) (R : Bool → Prop) (Q : Bool → Hp → Prop) : Prop := ∀ b G', Same G G' → Kp G H G' → R b → Q b (lay G H G')
def PoA (K : PySem.W.Frag) (G H : Hp) (R : List D → Prop) (Q : List V → Hp → Prop) : Prop := ∀ vs G' ds, Same G G' → Kp G H G' → RepAll K G' ds vs → R ds → Q vs (lay G H G')
section
variable {K : PySem.W.Frag} {G H G1 : Hp} {R : D → Prop} {Q : VK}
theorem Po.seq (p : Po K G H R Q) (s : Same G G1) (k : Kp G H G1) : Po K G1 (lay G H G1) R Q := fun v G' d s2 k2 r q => by
  rw [lay_lay k]
  exact p v G' d (s.trans s2) (k.trans k2) r q
theorem PoT.seq {R : Bool → Prop} {Q : Bool → Hp → Prop} (p : PoT G H R Q) (s : Same G G1) (k : Kp G H G1) : PoT G1 (lay G H G1) R Q := fun b G' s2 k2 q => by
  rw [lay_lay k]
  exact p b G' (s.trans s2) (k.trans k2) q
theorem PoA.seq {R : List D → Prop} {Q : List V → Hp → Prop} (p : PoA K G H R Q) (s : Same G G1) (k : Kp G H G1) : PoA K G1 (lay G H G1) R Q := fun v G' d s2 k2 r q => by
  rw [lay_lay k]
  exact p v G' d (s.trans s2) (k.trans k2) r q
theorem Po.here (p : Po K G H R Q) (h : Hid G H) {d : D} {v : V} (r : Rep K G d v) (q : R d) : Q v H := by
  have z := p v G d (Same.refl G) Kp.self r q
  rw [lay_self h.same] at z
  exact z
theorem PoT.here {R : Bool → Prop} {Q : Bool → Hp → Prop} (p : PoT G H R Q) (h : Hid G H) {b : Bool} (q : R b) : Q b H := by
  have z := p b G (Same.refl G) Kp.self q
  rw [lay_self h.same] at z
  exact z
theorem PoA.here {R : List D → Prop} {Q : List V → Hp → Prop} (p : PoA K G H R Q) (h : Hid G H) {ds : List D} {vs : List V} (r : RepAll K G ds vs) (q : R ds) : Q vs H := by
  have z := p vs G ds (Same.refl G) Kp.self r q
  rw [lay_self h.same] at z
  exact z
/-- a new object -/
theorem Po.new (p : Po K G H R Q) (h : Hid G H) {a : Addr} {o : HO} {d : D} {v : V} (n : H a = none) (r : Rep K (upd G a o) d v) (q : R d) : Q v (upd H a o) := by
  have e := lay_self h.same
  have n' : lay G H G a = none := by rw [e]; exact n
  have z := p v (upd G a o) d (same_upd (h.same.free n)) (Kp.self.upd n') r q
  rw [← lay_upd n', e] at z
  exact z
theorem Po.lst (p : Po K G H R Q) (h : Hid G H) {a : Addr} {xs : List V} {ds : List D} (n : H a = none) (r : RepAll K G ds xs) (q : R (.lst ds)) : Q (.ref a) (upd H a (.lst xs)) :=
  p.new (d := .lst ds) h n ⟨a, xs, rfl, upd_same, RepAll.mono (same_upd (h.same.free n)) ds xs r⟩ q
theorem Po.tup (p : Po K G H R Q) (h : Hid G H) {xs : List V} {ds : List D} (r : RepAll K G ds xs) (q : R (.tup ds)) : NewT H Q xs := fun a o n hd =>
  p.new (d := .tup ds) h n ⟨a, xs, rfl, .inl ⟨o, hd, upd_same⟩, RepAll.mono (same_upd (h.same.free n)) ds xs r⟩ q
end

/-! ### what a piece of text asks for, as the machine has it -/
section
variable (X : Cx)
def W (e : Expr) : TE := fun σ H Q => ∀ (pins : List (Addr × Obj)) (s : Shared), Inv X pins σ H s → wpAny (model X.prog X.w) X.A (eval e X.env) (EP X pins σ Q) X.xe s
def WT (e : Expr) : TT := fun σ H Q => ∀ (pins : List (Addr × Obj)) (s : Shared), Inv X pins σ H s → wpAny (model X.prog X.w) X.A (isTrue e X.env (eval e X.env)) (TP X pins σ Q) X.xe s
def WW (e : Expr) : TT := fun σ H Q => ∀ (whole : Sem Value) (pins : List (Addr × Obj)) (s : Shared), Inv X pins σ H s → wpAny (model X.prog X.w) X.A (isTrue e X.env whole) (TP X pins σ Q) X.xe s
def WA (es : List Expr) : TA := fun σ H Q => ∀ (pos : Pos) (pins : List (Addr × Obj)) (s : Shared), Inv X pins σ H s → wpAny (model X.prog X.w) X.A (spliced (backTo pos (starEach es X.env))) (AP X pins σ Q) X.xe s
def WO (f : Value → Value → Sem Value) : R2 := fun x y H Q => ∀ (pins : List (Addr × Obj)) (s : Shared) (σ : St) (v u : Value), Inv X pins σ H s → RelV x v → RelV y u → wpAny (model X.prog X.w) X.A (f v u) (EP X pins σ Q) X.xe s
def WC (f : Value) : List V → Hp → VK → Prop := fun xs H Q => ∀ (pins : List (Addr × Obj)) (s : Shared) (σ : St) (us : List Value), Inv X pins σ H s → Vals xs us → wpAny (model X.prog X.w) X.A (call f us) (EP X pins σ Q) X.xe s
def WIx : R2 := fun x y H Q => ∀ (value slice : Expr) (pins : List (Addr × Obj)) (s : Shared) (σ : St) (v u : Value), Inv X pins σ H s → RelV x v → RelV y u →
    subscripted slice false v u = operate [v, u] (getItem v u) → wpAny (model X.prog X.w) X.A (subscriptTail value slice v u) (EP X pins σ Q) X.xe s
end
section
variable {X : Cx} {e : Expr} {es : List Expr} {σ : St} {H : Hp} {Q : VK}
theorem pe_w : PE X e (W X e) := ⟨fun pins s σ H Q I h => h pins s I⟩
theorem pt_w : PT X e (WT X e) := ⟨fun pins s σ H Q I h => h pins s I⟩
theorem pw_w : PW X e (WW X e) := ⟨fun wh pins s σ H Q I h => h wh pins s I⟩
theorem pa_w : PA X es (WA X es) := ⟨fun pos pins s σ H Q I h => h pos pins s I⟩
theorem op_w {f : Value → Value → Sem Value} : OpR X f (WO X f) := fun pins s σ H x y v u Q I rx ry h => h pins s σ v u I rx ry
theorem call_w {f : Value} : CallR X f (WC X f) := fun pins s σ H xs us Q I r h => h pins s σ us I r
theorem ix_w : IxR X (WIx X) := fun value slice pins s σ H x y v u Q I rx ry h hs => h value slice pins s σ v u I rx ry hs
theorem W.of {t : TE} (h : PE X e t) (q : t σ H Q) : W X e σ H Q := fun pins s I => h.run pins s σ H Q I q
theorem WT.of {t : TT} {Q : Bool → Hp → Prop} (h : PT X e t) (q : t σ H Q) : WT X e σ H Q := fun pins s I => h.run pins s σ H Q I q
theorem WW.of {t : TT} {Q : Bool → Hp → Prop} (h : PW X e t) (q : t σ H Q) : WW X e σ H Q := fun wh pins s I => h.run wh pins s σ H Q I q
theorem WA.of {t : TA} {Q : List V → Hp → Prop} (h : PA X es t) (q : t σ H Q) : WA X es σ H Q := fun pos pins s I => h.run pos pins s σ H Q I q
theorem WO.of {f : Value → Value → Sem Value} {r : R2} {x y : V} (h : OpR X f r) (q : r x y H Q) : WO X f x y H Q := fun pins s σ v u I rx ry => h pins s σ H x y v u Q I rx ry q
theorem WC.of {f : Value} {r : List V → Hp → VK → Prop} {xs : List V} (h : CallR X f r) (q : r xs H Q) : WC X f xs H Q := fun pins s σ us I r => h pins s σ H xs us Q I r q
theorem WIx.of {r : R2} {x y : V} (h : IxR X r) (q : r x y H Q) : WIx X x y H Q := fun value slice pins s σ v u I rx ry hs => h value slice pins s σ H x y v u Q I rx ry q hs
end

/-! ### the judgements over data -/
structure QE (X : Cx) (e : Expr) (t : ED) : Prop where
  run : ∀ (G H : Hp) (ρ : Rho) (σ : St) (R : D → Prop) (Q : VK), Sim X.K G H ρ σ → t ρ R → Po X.K G H R Q → W X e σ H Q
structure QT (X : Cx) (e : Expr) (t : TD) : Prop where
  run : ∀ (G H : Hp) (ρ : Rho) (σ : St) (R : Bool → Prop) (Q : Bool → Hp → Prop), Sim X.K G H ρ σ → t ρ R → PoT G H R Q → WT X e σ H Q
structure QW (X : Cx) (e : Expr) (t : TD) : Prop where
  run : ∀ (G H : Hp) (ρ : Rho) (σ : St) (R : Bool → Prop) (Q : Bool → Hp → Prop), Sim X.K G H ρ σ → t ρ R → PoT G H R Q → WW X e σ H Q
structure QA (X : Cx) (es : List Expr) (t : AD) : Prop where
  run : ∀ (G H : Hp) (ρ : Rho) (σ : St) (R : List D → Prop) (Q : List V → Hp → Prop), Sim X.K G H ρ σ → t ρ R → PoA X.K G H R Q → WA X es σ H Q
def OpD (X : Cx) (f : Value → Value → Sem Value) (r : OD) : Prop := ∀ (G H : Hp) (x y : V) (a b : D) (R : D → Prop) (Q : VK), Hid G H → Rep X.K G a x → Rep X.K G b y → r a b R → Po X.K G H R Q → WO X f x y H Q
def IxD (X : Cx) (r : OD) : Prop := ∀ (G H : Hp) (x y : V) (a b : D) (R : D → Prop) (Q : VK), Hid G H → Rep X.K G a x → Rep X.K G b y → r a b R → Po X.K G H R Q → WIx X x y H Q
def CallD (X : Cx) (f : Value) (r : List D → (D → Prop) → Prop) : Prop := ∀ (G H : Hp) (xs : List V) (ds : List D) (R : D → Prop) (Q : VK), Hid G H → RepAll X.K G ds xs → r ds R → Po X.K G H R Q → WC X f xs H Q

def dVar (i : Nat) : ED := fun ρ R => match ρ[i]? with
  | some (SL.val d) => R d
  | _ => False
def dC (d : D) : ED := fun _ R => R d
def dOp (r : OD) (ta tb : ED) : ED := fun ρ R => ta ρ fun x => tb ρ fun y => r x y R
def dNil : AD := fun _ R => R []
def dCons (t : ED) (u : AD) : AD := fun ρ R => t ρ fun x => u ρ fun xs => R (x :: xs)
def dTup (t : AD) : ED := fun ρ R => t ρ fun xs => xs.length ≤ sizeLine ∧ R (.tup xs)
def dLst (t : AD) : ED := fun ρ R => t ρ fun xs => xs.length ≤ sizeLine ∧ R (.lst xs)
def dCall (r : List D → (D → Prop) → Prop) (t : AD) : ED := fun ρ R => t ρ fun ds => r ds R
def tru : D → (Bool → Prop) → Prop
  | .non, R => R false
  | .bl b, R => R b
  | .int i, R => R (i != 0)
  | .str x, R => x.length ≤ sizeLine ∧ R ((x.length : Int) != 0)
  | .lst ds, R => R (!ds.isEmpty)
  | .tup ds, R => R (!ds.isEmpty)
  | _, _ => False
def bool? : D → (Bool → Prop) → Prop
  | .bl b, R => R b
  | _, _ => False
def dTru (t : ED) : TD := fun ρ R => t ρ fun d => tru d R
def dBool (t : ED) : TD := fun ρ R => t ρ fun d => bool? d R
def dAnd (t u : TD) : TD := fun ρ R => t ρ fun b => if b = true then u ρ R else R false
def dOr (t u : TD) : TD := fun ρ R => t ρ fun b => if b = true then R true else u ρ R
def dNot (t : TD) : TD := fun ρ R => t ρ fun b => R (!b)
def dAndV (ta tb : ED) : ED := fun ρ R => ta ρ fun x => bool? x fun b => if b = true then tb ρ R else R (.bl false)
def dOrV (ta tb : ED) : ED := fun ρ R => ta ρ fun x => bool? x fun b => if b = true then R (.bl true) else tb ρ R
def dNotV (ta : ED) : ED := fun ρ R => ta ρ fun x => bool? x fun b => R (.bl (!b))
def dIf (tc : TD) (ta tb : ED) : ED := fun ρ R => tc ρ fun b => if b = true then ta ρ R else tb ρ R
def dChain (r r' : OD) (ta tb tc : ED) : ED := fun ρ R => ta ρ fun x => tb ρ fun y => r x y fun z => bool? z fun k => if k = true then tc ρ fun w => r' y w R else R (.bl false)

section
variable {X : Cx} {a b c e : Expr} {es : List Expr} {ta tb tc te : ED} {t u : TD} {at_ : AD} {pos p : Pos}
theorem bool_of {d : D} {R : Bool → Prop} (h : bool? d R) : ∃ b, d = .bl b ∧ R b := by
  cases d <;> first | exact ⟨_, rfl, h⟩ | exact h.elim
theorem qe_var {i : Nat} {x : Str} (hN : X.N[i]? = some x := by rfl) (hv : Vis X.env.scope x := by first | exact Or.inl rfl | exact Or.inr (Or.inl rfl) | exact Or.inr (Or.inr rfl)) (hd : (x == ("__debug__" : Str)) = false := by decide)
    (hcd : (x == ("__classdict__" : Str)) = false := by decide) : QE X (.Name x pos) (dVar i) := ⟨fun G H ρ σ R Q S h po => by
  unfold dVar at h
  cases q : ρ[i]? with
  | none => rw [q] at h; exact h.elim
  | some z =>
    rw [q] at h
    cases z with
    | nul => exact h.elim
    | own ds => exact h.elim
    | val d =>
      obtain ⟨v, hv', r⟩ := S.val i d q
      exact W.of (pe_var hN hv hd hcd) ⟨v, hv', po.here S.hid r h⟩⟩
theorem qe_int {i j} : QE X (.Constant (.int i) j pos) (dC (.int i)) := ⟨fun G H ρ σ R Q S h po => W.of pe_int (po.here (d := .int i) S.hid rfl h)⟩
theorem qe_bl {v j} : QE X (.Constant (.bool v) j pos) (dC (.bl v)) := ⟨fun G H ρ σ R Q S h po => W.of pe_bl (po.here (d := .bl v) S.hid rfl h)⟩
theorem qe_non {j} : QE X (.Constant .none j pos) (dC .non) := ⟨fun G H ρ σ R Q S h po => W.of pe_non (po.here (d := .non) S.hid rfl h)⟩
theorem qe_str {x j} : QE X (.Constant (.str x) j pos) (dC (.str x)) := ⟨fun G H ρ σ R Q S h po => W.of pe_str (po.here (d := .str x) S.hid rfl h)⟩
/-- a module's constant: an int, a text -/
theorem qe_glob {x : Str} {v : Value} {d : D} (hg : Gl X x) (hm : X.mg x = some v) (hr : ∀ G, ∃ y, RelV y v ∧ Rep X.K G d y) (hd : (x == ("__debug__" : Str)) = false := by decide) : QE X (.Name x pos) (dC d) := ⟨fun G H ρ σ R Q S h po => by
  obtain ⟨y, r1, r2⟩ := hr G
  exact W.of (pe_glob hg hm r1 hd) (po.here S.hid r2 h)⟩
theorem qe_op {op : Operator} {r : OD} (ho : OpD X (binaryOp op) r) (ha : QE X a ta) (hb : QE X b tb) : QE X (.BinOp a op b pos) (dOp r ta tb) := ⟨fun G H ρ σ R Q S h po =>
  W.of (pe_op op_w pe_w pe_w) (ha.run G H ρ σ _ _ S h fun v G1 dx s1 k1 r1 q1 =>
    hb.run G1 _ ρ σ _ _ (S.step s1 k1) q1 fun u G2 dy s2 k2 r2 q2 =>
      ho G2 _ v u dx dy R Q ((S.step s1 k1).hid.lay k2) (Rep.mono s2 dx v r1) r2 q2 ((po.seq s1 k1).seq s2 k2))⟩
theorem qe_cmp {op : CmpOp} {r : OD} (ho : OpD X (compareOp op) r) (ha : QE X a ta) (hb : QE X b tb) (hm : behindInMarks op b = false := by first | exact nomark _ | rfl) : QE X (.Compare a [op] [b] pos) (dOp r ta tb) := ⟨fun G H ρ σ R Q S h po =>
  W.of (pe_cmpR op_w pe_w pe_w hm) (ha.run G H ρ σ _ _ S h fun v G1 dx s1 k1 r1 q1 =>
    hb.run G1 _ ρ σ _ _ (S.step s1 k1) q1 fun u G2 dy s2 k2 r2 q2 =>
      ho G2 _ v u dx dy R Q ((S.step s1 k1).hid.lay k2) (Rep.mono s2 dx v r1) r2 q2 ((po.seq s1 k1).seq s2 k2))⟩
theorem qt_cmp {op : CmpOp} {r : OD} (ho : OpD X (compareOp op) r) (ha : QE X a ta) (hb : QE X b tb) (hm : behindInMarks op b = false := by first | exact nomark _ | rfl) : QT X (.Compare a [op] [b] pos) (dBool (dOp r ta tb)) := ⟨fun G H ρ σ R Q S h po =>
  WT.of (pt_cmpR op_w pe_w pe_w hm) (ha.run G H ρ σ _ _ S h fun v G1 dx s1 k1 r1 q1 =>
    hb.run G1 _ ρ σ _ _ (S.step s1 k1) q1 fun u G2 dy s2 k2 r2 q2 =>
      ho G2 _ v u dx dy _ _ ((S.step s1 k1).hid.lay k2) (Rep.mono s2 dx v r1) r2 q2 fun z G3 d s3 k3 r3 q3 => by
        obtain ⟨b, rfl, q⟩ := bool_of q3
        cases r3
        exact ⟨b, rfl, ((po.seq s1 k1).seq s2 k2) b G3 s3 k3 q⟩)⟩
theorem qe_chain {op op' : CmpOp} {r r' : OD} (ho : OpD X (compareOp op) r) (ho' : OpD X (compareOp op') r') (ha : QE X a ta) (hb : QE X b tb) (hc : QE X c tc) (hm : lastMarks [op, op'] [b, c] = false := by with_unfolding_all rfl) :
    QE X (.Compare a [op, op'] [b, c] pos) (dChain r r' ta tb tc) := ⟨fun G H ρ σ R Q S h po =>
  W.of (pe_chain op_w op_w pe_w pe_w pe_w hm) (ha.run G H ρ σ _ _ S h fun v G1 dx s1 k1 r1 q1 =>
    hb.run G1 _ ρ σ _ _ (S.step s1 k1) q1 fun u G2 dy s2 k2 r2 q2 =>
      ho G2 _ v u dx dy _ _ ((S.step s1 k1).hid.lay k2) (Rep.mono s2 dx v r1) r2 q2 fun z G3 d s3 k3 r3 q3 => by
        obtain ⟨k, rfl, q⟩ := bool_of q3
        cases r3
        refine ⟨k, rfl, ?_⟩
        have po3 := ((po.seq s1 k1).seq s2 k2).seq s3 k3
        have S3 := ((S.step s1 k1).step s2 k2).step s3 k3
        cases k with
        | false => exact po3.here (d := .bl false) S3.hid rfl q
        | true =>
          refine hc.run G3 _ ρ σ _ _ S3 q fun w G4 dw s4 k4 r4 q4 => ?_
          exact ho' G4 _ u w dy dw R Q (S3.hid.lay k4) (Rep.mono (s3.trans s4) dy u r2) r4 q4 (po3.seq s4 k4))⟩
theorem qt_chain {op op' : CmpOp} {r r' : OD} (ho : OpD X (compareOp op) r) (ho' : OpD X (compareOp op') r') (ha : QE X a ta) (hb : QE X b tb) (hc : QE X c tc) (hm : lastMarks [op, op'] [b, c] = false := by with_unfolding_all rfl) :
    QT X (.Compare a [op, op'] [b, c] pos) (dBool (dChain r r' ta tb tc)) := ⟨fun G H ρ σ R Q S h po =>
  WT.of (pt_chain op_w op_w pe_w pe_w pe_w hm) (ha.run G H ρ σ _ _ S h fun v G1 dx s1 k1 r1 q1 =>
    hb.run G1 _ ρ σ _ _ (S.step s1 k1) q1 fun u G2 dy s2 k2 r2 q2 =>
      ho G2 _ v u dx dy _ _ ((S.step s1 k1).hid.lay k2) (Rep.mono s2 dx v r1) r2 q2 fun z G3 d s3 k3 r3 q3 => by
        obtain ⟨k, rfl, q⟩ := bool_of q3
        cases r3
        refine ⟨k, rfl, ?_⟩
        have po3 := ((po.seq s1 k1).seq s2 k2).seq s3 k3
        have S3 := ((S.step s1 k1).step s2 k2).step s3 k3
        cases k with
        | false => exact ⟨false, rfl, po3.here S3.hid q⟩
        | true =>
          refine hc.run G3 _ ρ σ _ _ S3 q fun w G4 dw s4 k4 r4 q4 => ?_
          refine ho' G4 _ u w dy dw _ _ (S3.hid.lay k4) (Rep.mono (s3.trans s4) dy u r2) r4 q4 fun z G5 d s5 k5 r5 q5 => ?_
          obtain ⟨b, rfl, q⟩ := bool_of q5
          cases r5
          exact ⟨b, rfl, (po3.seq s4 k4) b G5 s5 k5 q⟩)⟩
theorem qt_tru (ha : QE X a ta) (he : ∀ whole, isTrue a X.env whole = (do let v ← whole; standAt a.pos; holding [v] (truthy v)) := by intro _; rfl) : QT X a (dTru ta) := ⟨fun G H ρ σ R Q S h po =>
  WT.of (pt_truth pe_w he) (ha.run G H ρ σ _ _ S h fun v G1 d s1 k1 r1 q1 => by
    have S1 := S.step s1 k1
    have po1 := po.seq s1 k1
    cases d with
    | non => cases r1; exact ⟨false, rfl, po1.here S1.hid q1⟩
    | bl b => cases r1; exact ⟨b, rfl, po1.here S1.hid q1⟩
    | int i => cases r1; exact ⟨_, rfl, po1.here S1.hid q1⟩
    | str x => cases r1; exact ⟨_, ⟨q1.1, rfl⟩, po1.here S1.hid q1.2⟩
    | lst ds =>
      obtain ⟨p, xs, rfl, hp, rr⟩ := r1
      refine ⟨!ds.isEmpty, .inl ⟨xs, SqL.of (S1.hid.same _ _ hp), ?_⟩, po1.here S1.hid q1⟩
      have := rr.length
      cases ds <;> cases xs <;> simp_all
    | tup ds =>
      obtain ⟨p, xs, rfl, hp, rr⟩ := r1
      refine ⟨!ds.isEmpty, .inr (.inl ⟨xs, (hp.mono S1.hid.same).sq, ?_⟩), po1.here S1.hid q1⟩
      have := rr.length
      cases ds <;> cases xs <;> simp_all
    | bag => exact q1.elim
    | scr ns => exact q1.elim
    | err C ns xs => exact q1.elim)⟩
theorem QW.qt (h : QW X e t) : QT X e t := ⟨fun G H ρ σ R Q S q po => fun pins s I => h.run G H ρ σ R Q S q po _ pins s I⟩
theorem qw_and1 (ha : QT X a t) : QW X (.BoolOp .And [a] pos) t := ⟨fun G H ρ σ R Q S h po => WW.of (pw_and1 pt_w) (ha.run G H ρ σ R Q S h po)⟩
theorem qw_or1 (ha : QT X a t) : QW X (.BoolOp .Or [a] pos) t := ⟨fun G H ρ σ R Q S h po => WW.of (pw_or1 pt_w) (ha.run G H ρ σ R Q S h po)⟩
theorem qw_and (ha : QT X a t) (hb : QW X (.BoolOp .And (b :: es) pos) u) : QW X (.BoolOp .And (a :: b :: es) pos) (dAnd t u) := ⟨fun G H ρ σ R Q S h po =>
  WW.of (pw_and pt_w pw_w) (ha.run G H ρ σ _ _ S h fun k G1 s1 k1 q1 => by
    cases k with
    | true => exact hb.run G1 _ ρ σ R Q (S.step s1 k1) q1 (po.seq s1 k1)
    | false => exact (po.seq s1 k1).here (S.step s1 k1).hid q1)⟩
theorem qw_or (ha : QT X a t) (hb : QW X (.BoolOp .Or (b :: es) pos) u) : QW X (.BoolOp .Or (a :: b :: es) pos) (dOr t u) := ⟨fun G H ρ σ R Q S h po =>
  WW.of (pw_or pt_w pw_w) (ha.run G H ρ σ _ _ S h fun k G1 s1 k1 q1 => by
    cases k with
    | false => exact hb.run G1 _ ρ σ R Q (S.step s1 k1) q1 (po.seq s1 k1)
    | true => exact (po.seq s1 k1).here (S.step s1 k1).hid q1)⟩
theorem qt_not (ha : QT X a t) : QT X (.UnaryOp .Not a pos) (dNot t) := ⟨fun G H ρ σ R Q S h po => WT.of (pt_not pt_w) (ha.run G H ρ σ _ _ S h fun k G1 s1 k1 q1 => po _ G1 s1 k1 q1)⟩
theorem qe_one {op} (h : QE X a ta) : QE X (.BoolOp op [a] pos) ta := ⟨fun G H ρ σ R Q S q po => W.of (pe_one pe_w) (h.run G H ρ σ R Q S q po)⟩
theorem qe_and (ha : QE X a ta) (hb : QE X (.BoolOp .And (b :: es) pos) tb) : QE X (.BoolOp .And (a :: b :: es) pos) (dAndV ta tb) := ⟨fun G H ρ σ R Q S h po =>
  W.of (pe_and pe_w pe_w) (ha.run G H ρ σ _ _ S h fun v G1 d s1 k1 r1 q1 => by
    obtain ⟨k, rfl, q⟩ := bool_of q1
    cases r1
    refine ⟨k, rfl, ?_⟩
    cases k with
    | true => exact hb.run G1 _ ρ σ R Q (S.step s1 k1) q (po.seq s1 k1)
    | false => exact (po.seq s1 k1).here (d := .bl false) (S.step s1 k1).hid rfl q)⟩
theorem qe_or (ha : QE X a ta) (hb : QE X (.BoolOp .Or (b :: es) pos) tb) : QE X (.BoolOp .Or (a :: b :: es) pos) (dOrV ta tb) := ⟨fun G H ρ σ R Q S h po =>
  W.of (pe_or pe_w pe_w) (ha.run G H ρ σ _ _ S h fun v G1 d s1 k1 r1 q1 => by
    obtain ⟨k, rfl, q⟩ := bool_of q1
    cases r1
    refine ⟨k, rfl, ?_⟩
    cases k with
    | false => exact hb.run G1 _ ρ σ R Q (S.step s1 k1) q (po.seq s1 k1)
    | true => exact (po.seq s1 k1).here (d := .bl true) (S.step s1 k1).hid rfl q)⟩
theorem qe_not (ha : QE X a ta) : QE X (.UnaryOp .Not a pos) (dNotV ta) := ⟨fun G H ρ σ R Q S h po =>
  W.of (pe_not pe_w) (ha.run G H ρ σ _ _ S h fun v G1 d s1 k1 r1 q1 => by
    obtain ⟨k, rfl, q⟩ := bool_of q1
    cases r1
    exact ⟨k, rfl, (po.seq s1 k1).here (d := .bl (!k)) (S.step s1 k1).hid rfl q⟩)⟩
theorem qe_ifExp (hc : QT X c t) (ha : QE X a ta) (hb : QE X b tb) : QE X (.IfExp c a b pos) (dIf t ta tb) := ⟨fun G H ρ σ R Q S h po =>
  W.of (pe_ifExp pt_w pe_w pe_w) (hc.run G H ρ σ _ _ S h fun k G1 s1 k1 q1 => by
    cases k with
    | true => exact ha.run G1 _ ρ σ R Q (S.step s1 k1) q1 (po.seq s1 k1)
    | false => exact hb.run G1 _ ρ σ R Q (S.step s1 k1) q1 (po.seq s1 k1))⟩
theorem qa_nil : QA X [] dNil := ⟨fun G H ρ σ R Q S h po => WA.of pa_nil (po.here (vs := []) (ds := []) S.hid rfl h)⟩
theorem qa_cons (ha : QE X e te) (hr : QA X es at_) (hs : starEach (e :: es) X.env = (false, eval e X.env) :: starEach es X.env := by rfl) : QA X (e :: es) (dCons te at_) := ⟨fun G H ρ σ R Q S h po =>
  WA.of (pa_cons pe_w pa_w hs) (ha.run G H ρ σ _ _ S h fun v G1 d s1 k1 r1 q1 =>
    hr.run G1 _ ρ σ _ _ (S.step s1 k1) q1 fun vs G2 ds s2 k2 r2 q2 =>
      ((po.seq s1 k1).seq s2 k2).here (vs := v :: vs) (ds := d :: ds) ((S.step s1 k1).hid.lay k2) ⟨v, vs, rfl, Rep.mono s2 d v r1, r2⟩ q2)⟩
theorem qe_tup {x1} (h : QA X es at_) : QE X (.Tuple es x1 pos) (dTup at_) := ⟨fun G H ρ σ R Q S q po =>
  W.of (pen_tup pa_w) (h.run G H ρ σ _ _ S q fun vs G1 ds s1 k1 r1 q1 => ⟨by rw [r1.length]; exact q1.1, (po.seq s1 k1).tup (S.step s1 k1).hid r1 q1.2⟩)⟩
theorem qe_lst (h : QA X es at_) : QE X (.List es pos) (dLst at_) := ⟨fun G H ρ σ R Q S q po =>
  W.of (pe_lst pa_w) (h.run G H ρ σ _ _ S q fun vs G1 ds s1 k1 r1 q1 => ⟨by rw [r1.length]; exact q1.1, fun p n => (po.seq s1 k1).lst (S.step s1 k1).hid n r1 q1.2⟩)⟩
theorem qe_ix {r : OD} (hr : IxD X r) (ha : QE X a ta) (hb : QE X b tb) (hs : PlainIx b := by exact fun _ _ => rfl) : QE X (.Subscript a b pos) (dOp r ta tb) := ⟨fun G H ρ σ R Q S h po =>
  W.of (pe_ix ix_w pe_w pe_w hs) (ha.run G H ρ σ _ _ S h fun v G1 dx s1 k1 r1 q1 =>
    hb.run G1 _ ρ σ _ _ (S.step s1 k1) q1 fun u G2 dy s2 k2 r2 q2 =>
      hr G2 _ v u dx dy R Q ((S.step s1 k1).hid.lay k2) (Rep.mono s2 dx v r1) r2 q2 ((po.seq s1 k1).seq s2 k2))⟩
theorem qe_callB {x : Str} {id : String} {r : List D → (D → Prop) → Prop} (hc : CallD X (.builtin id) r) (hg : Gl X x) (hm : X.mg x = none) (hv : bootBuiltins x = some (.builtin id)) (ha : QA X (e :: es) at_) (hn : x ≠ "__name__" := by decide) (hd : (x == ("__debug__" : Str)) = false := by decide)
    (he : starEach (e :: es) X.env = (false, eval e X.env) :: starEach es X.env := by rfl) (hpl : (backTo pos (starEach es X.env)).any (·.1) = false := by rfl) : QE X (.Call (.Name x p) (e :: es) [] pos) (dCall r at_) := ⟨fun G H ρ σ R Q S h po =>
  W.of (pe_callB call_w hg hm hv pa_w hn hd he hpl) (ha.run G H ρ σ _ _ S h fun vs G1 ds s1 k1 r1 q1 => hc G1 _ vs ds R Q (S.step s1 k1).hid r1 q1 (po.seq s1 k1))⟩
theorem qe_callTy {x : Str} {T : String} {r : List D → (D → Prop) → Prop} (hc : CallD X (.type T) r) (hg : Gl X x) (hm : X.mg x = none) (hv : bootBuiltins x = some (.type T)) (ha : QA X (e :: es) at_) (hn : x ≠ "__name__" := by decide) (hd : (x == ("__debug__" : Str)) = false := by decide)
    (he : starEach (e :: es) X.env = (false, eval e X.env) :: starEach es X.env := by rfl) (hpl : (backTo pos (starEach es X.env)).any (·.1) = false := by rfl) : QE X (.Call (.Name x p) (e :: es) [] pos) (dCall r at_) := ⟨fun G H ρ σ R Q S h po =>
  W.of (pe_callTy call_w hg hm hv pa_w hn hd he hpl) (ha.run G H ρ σ _ _ S h fun vs G1 ds s1 k1 r1 q1 => hc G1 _ vs ds R Q (S.step s1 k1).hid r1 q1 (po.seq s1 k1))⟩
end

/-! ### defs -/
/-- a def by what it makes of data -/
def spD (K : PySem.W.Frag) (Φ : List D → (D → Prop) → Prop) : Sp := fun vs H Q _ => ∃ ds R, RepAll K H ds vs ∧ Φ ds R ∧ ∀ v H' d, Same H H' → Rep K H' d v → R d → Q v H'
section
variable {X : Cx} {e : Expr} {es : List Expr} {at_ : AD} {pos p : Pos}
theorem qe_call {x : Str} {Φ : List D → (D → Prop) → Prop} {k : Nat} {f : Addr} {fd : FuncData} {ps : List Str} (F : FnOk X.prog X.w X.K X.mg X.base CX0 k f fd ps (spD X.K Φ)) (hr : Room k X.A) (hg : Gl X x) (hm : X.mg x = some (.ref f))
    (hk : PySem.W.keepIn X.K (.ref f) = true) (hb : Binds X.K fd ps []) (hx : Passes CX0 X E0) (ha : QA X (e :: es) at_) (hdb : (x == ("__debug__" : Str)) = false := by decide) (he : starEach (e :: es) X.env = (false, eval e X.env) :: starEach es X.env := by rfl)
    (hpl : (backTo pos (starEach es X.env)).any (·.1) = false := by rfl) : QE X (.Call (.Name x p) (e :: es) [] pos) (dCall Φ at_) := ⟨fun G H ρ σ R Q S h po =>
  W.of (pe_call (DL.FnOk.frame F) hr hg hm hk hb .nil hx pa_w hdb he hpl) (ha.run G H ρ σ _ _ S h fun vs G1 ds s1 k1 r1 q1 =>
    ⟨G1, (S.step s1 k1).hid, ds, R, by rw [List.append_nil]; exact r1, q1, fun v G2 d s2 r2 q2 k2 => (po.seq s1 k1) v G2 d s2 k2 r2 q2⟩)⟩
end
end DL

namespace DL
open PySem PySem.Spec
open L2 hiding St
open PyProof.Rows (subscriptTail)

/-! ### operators over data -/
def dAdd : OD
  | .int i, .int j, R => R (.int (i + j))
  | .str a, .str b, R => a.length + b.length ≤ sizeLine ∧ R (.str (a ++ b))
  | .lst xs, .lst ys, R => xs.length + ys.length ≤ sizeLine ∧ R (.lst (xs ++ ys))
  | .tup xs, .tup ys, R => xs.length + ys.length ≤ sizeLine ∧ R (.tup (xs ++ ys))
  | _, _, _ => False
def dSub : OD
  | .int i, .int j, R => R (.int (i - j))
  | _, _, _ => False
def dMul : OD
  | .int i, .int j, R => CMul i j ∧ R (.int (i * j))
  | .lst xs, .int k, R => -(2 ^ 63) ≤ k ∧ k < 2 ^ 63 ∧ xs.length * k.toNat ≤ sizeLine ∧ R (.lst (List.replicate k.toNat xs).flatten)
  | .tup xs, .int k, R => xs ≠ [] ∧ 2 ≤ k ∧ k ≤ 1000 ∧ xs.length ≤ 1000 ∧ R (.tup (List.replicate k.toNat xs).flatten)
  | _, _, _ => False
def dFdiv : OD
  | .int i, .int j, R => (0 < j ∧ j < 1073741824) ∧ R (.int (i / j))
  | _, _, _ => False
def dMod : OD
  | .int i, .int j, R => 0 < j ∧ R (.int (i % j))
  | _, _, _ => False
def dPow : OD
  | .int i, .int j, R => CPow i j ∧ R (.int (i ^ j.toNat))
  | _, _, _ => False
def dCmpI (p : Int → Int → Bool) : OD
  | .int i, .int j, R => R (.bl (p i j))
  | _, _, _ => False
abbrev dLt : OD := dCmpI fun i j => decide (i < j)
abbrev dLe : OD := dCmpI fun i j => decide (i ≤ j)
abbrev dGt : OD := dCmpI fun i j => decide (j < i)
abbrev dGe : OD := dCmpI fun i j => decide (j ≤ i)
def dEq : OD
  | .int i, .int j, R => R (.bl (decide (i = j)))
  | .str a, .str b, R => R (.bl (decide (a = b)))
  | .bl a, .bl b, R => R (.bl (decide (a = b)))
  | x, y, R => fit x = true ∧ fit y = true ∧ R (.bl (eqD x y))
def dNe : OD
  | .int i, .int j, R => R (.bl (!decide (i = j)))
  | .str a, .str b, R => R (.bl (!decide (a = b)))
  | .bl a, .bl b, R => R (.bl (!decide (a = b)))
  | x, y, R => fit x = true ∧ fit y = true ∧ R (.bl (!eqD x y))
def non? : D → Bool
  | .non => true
  | _ => false
def dIs : OD
  | x, .non, R => R (.bl (non? x))
  | _, _, _ => False
def dIsNot : OD
  | x, .non, R => R (.bl (!non? x))
  | _, _, _ => False
/-- x in y: a sign in a text; a flat thing in a tuple; anything comparable in a list -/
def dIn (neg : Bool) : OD
  | .str a, .str z, R => ∃ c, a = ⟨#[c]⟩ ∧ R (.bl (neg ^^ decide (c ∈ z.cps.toList)))
  | x, .lst ds, R => fit x = true ∧ fit (.lst ds) = true ∧ R (.bl (neg ^^ ds.any fun z => eqD z x))
  | x, .tup ds, R => ∃ v vs, flat? x = some v ∧ flats ds = some vs ∧ R (.bl (neg ^^ inV v vs))
  | _, _, _ => False
def dIx : OD
  | .lst ds, .int i, R => ∃ d, atI ds i = some d ∧ R d
  | .tup ds, .int i, R => ∃ d, atI ds i = some d ∧ R d
  | .str z, .int i, R => z.length ≤ sizeLine ∧ ∃ c, atI z.cps.toList i = some c ∧ R (.str ⟨#[c]⟩)
  | _, _, _ => False

section
variable {X : Cx}
theorem rep_non {K : PySem.W.Frag} {G : Hp} {d : D} {v : V} (r : Rep K G d v) : decide (v = .non) = non? d := by
  cases d with
  | non => cases r; rfl
  | bl b => cases r; rfl
  | int b => cases r; rfl
  | str b => cases r; rfl
  | lst b => obtain ⟨a, xs, rfl, _⟩ := r; rfl
  | tup b => obtain ⟨a, xs, rfl, _⟩ := r; rfl
  | bag => obtain ⟨a, rfl, _⟩ := r; rfl
  | scr b => obtain ⟨a, rfl, _⟩ := r; rfl
  | err C ns xs => obtain ⟨a, _, _, rfl, _⟩ := r; rfl
theorem od_add : OpD X (binaryOp .Add) dAdd := by
  intro G H x y a b R Q hd ra rb h po
  cases a <;> cases b <;> first | exact h.elim | skip
  case int.int i j => cases ra; cases rb; exact WO.of op_add ⟨i, j, rfl, rfl, po.here (d := .int (i + j)) hd rfl h⟩
  case str.str i j => cases ra; cases rb; exact WO.of op_add_str ⟨i, j, rfl, rfl, h.1, po.here (d := .str (i ++ j)) hd rfl h.2⟩
  case lst.lst ds es =>
    obtain ⟨p, xs, rfl, hp, rp⟩ := ra
    obtain ⟨q, ys, rfl, hq, rq⟩ := rb
    exact WO.of op_cat ⟨p, q, xs, ys, rfl, rfl, hd.same _ _ hp, hd.same _ _ hq, by rw [rp.length, rq.length]; exact h.1, fun l n => po.lst hd n (rp.app rq) h.2⟩
  case tup.tup ds es =>
    obtain ⟨p, xs, rfl, hp, rp⟩ := ra
    obtain ⟨q, ys, rfl, hq, rq⟩ := rb
    refine WO.of opn_cat ⟨p, q, xs, ys, rfl, rfl, (hp.mono hd.same).sq, (hq.mono hd.same).sq, by rw [rp.length, rq.length]; exact h.1, fun e => ?_, fun _ e => ?_, fun _ _ => po.tup hd (rp.app rq) h.2⟩
    · have z : ds = [] := by
        have := rp.length
        rw [e] at this
        exact List.length_eq_zero_iff.mp this.symm
      subst z
      exact po.here (d := .tup es) hd ⟨q, ys, rfl, hq, rq⟩ h.2
    · have z : es = [] := by
        have := rq.length
        rw [e] at this
        exact List.length_eq_zero_iff.mp this.symm
      subst z
      exact po.here (d := .tup ds) hd ⟨p, xs, rfl, hp, rp⟩ (by have q := h.2; rw [List.append_nil] at q; exact q)
theorem od_sub : OpD X (binaryOp .Sub) dSub := by
  intro G H x y a b R Q hd ra rb h po
  cases a <;> cases b <;> first | exact h.elim | skip
  case int.int i j => cases ra; cases rb; exact WO.of op_sub ⟨i, j, rfl, rfl, po.here (d := .int (i - j)) hd rfl h⟩
theorem od_mul : OpD X (binaryOp .Mult) dMul := by
  intro G H x y a b R Q hd ra rb h po
  cases a <;> cases b <;> first | exact h.elim | skip
  case int.int i j => cases ra; cases rb; exact WO.of op_mul ⟨i, j, rfl, rfl, h.1, po.here (d := .int (i * j)) hd rfl h.2⟩
  case lst.int ds k =>
    obtain ⟨p, xs, rfl, hp, rp⟩ := ra
    cases rb
    obtain ⟨h1, h2, h3, h4⟩ := h
    exact WO.of op_rep ⟨p, k, xs, rfl, rfl, hd.same _ _ hp, h1, h2, by rw [rp.length]; exact h3, fun l n => po.lst hd n (rp.join _) h4⟩
  case tup.int ds k =>
    obtain ⟨p, xs, rfl, hp, rp⟩ := ra
    cases rb
    obtain ⟨h0, h1, h2, h3, h4⟩ := h
    refine WO.of opn_rep ⟨p, k, xs, rfl, rfl, (hp.mono hd.same).sq, fun e => h0 ?_, h1, h2, by rw [rp.length]; exact h3, po.tup hd (rp.join _) h4⟩
    have := rp.length
    rw [e] at this
    exact List.length_eq_zero_iff.mp this.symm
theorem od_fdiv : OpD X (binaryOp .FloorDiv) dFdiv := by
  intro G H x y a b R Q hd ra rb h po
  cases a <;> cases b <;> first | exact h.elim | skip
  case int.int i j => cases ra; cases rb; exact WO.of op_fdiv ⟨i, j, rfl, rfl, h.1, po.here (d := .int (i / j)) hd rfl h.2⟩
theorem od_mod : OpD X (binaryOp .Mod) dMod := by
  intro G H x y a b R Q hd ra rb h po
  cases a <;> cases b <;> first | exact h.elim | skip
  case int.int i j => cases ra; cases rb; exact WO.of op_mod ⟨i, j, rfl, rfl, h.1, po.here (d := .int (i % j)) hd rfl h.2⟩
theorem od_pow : OpD X (binaryOp .Pow) dPow := by
  intro G H x y a b R Q hd ra rb h po
  cases a <;> cases b <;> first | exact h.elim | skip
  case int.int i j => cases ra; cases rb; exact WO.of op_pow ⟨i, j, rfl, rfl, h.1, po.here (d := .int (i ^ j.toNat)) hd rfl h.2⟩
theorem od_lt : OpD X (compareOp .Lt) dLt := by
  intro G H x y a b R Q hd ra rb h po
  cases a <;> cases b <;> first | exact h.elim | skip
  case int.int i j => cases ra; cases rb; exact WO.of op_lt ⟨i, j, rfl, rfl, po.here (d := .bl (decide (i < j))) hd rfl h⟩
theorem od_le : OpD X (compareOp .LtE) dLe := by
  intro G H x y a b R Q hd ra rb h po
  cases a <;> cases b <;> first | exact h.elim | skip
  case int.int i j => cases ra; cases rb; exact WO.of op_le ⟨i, j, rfl, rfl, po.here (d := .bl (decide (i ≤ j))) hd rfl h⟩
theorem od_gt : OpD X (compareOp .Gt) dGt := by
  intro G H x y a b R Q hd ra rb h po
  cases a <;> cases b <;> first | exact h.elim | skip
  case int.int i j => cases ra; cases rb; exact WO.of op_gt ⟨i, j, rfl, rfl, po.here (d := .bl (decide (j < i))) hd rfl h⟩
theorem od_ge : OpD X (compareOp .GtE) dGe := by
  intro G H x y a b R Q hd ra rb h po
  cases a <;> cases b <;> first | exact h.elim | skip
  case int.int i j => cases ra; cases rb; exact WO.of op_ge ⟨i, j, rfl, rfl, po.here (d := .bl (decide (j ≤ i))) hd rfl h⟩
theorem dec_int (i j : Int) : decide (V.int i = V.int j) = decide (i = j) := by simp
theorem dec_str (i j : Str) : decide (V.str i = V.str j) = decide (i = j) := by simp
theorem dec_bl (i j : Bool) : decide (V.bl i = V.bl j) = decide (i = j) := by simp
theorem od_eq (hu : X.A.units + 64 < cLine) : OpD X (compareOp .Eq) dEq := by
  intro G H x y a b R Q hd ra rb h po
  have gen : fit a = true → fit b = true → R (.bl (eqD a b)) → WO X (compareOp .Eq) x y H Q := fun fa fb q =>
    WO.of (op_eqD hu) ⟨py a, py b, rep_dp a x (fit_pure fa) (Rep.mono hd.same a x ra), rep_dp b y (fit_pure fb) (Rep.mono hd.same b y rb), fit_shaped fa, fit_shaped fb, po.here (d := .bl (eqD a b)) hd rfl q⟩
  cases a <;> cases b <;> first | exact gen h.1 h.2.1 h.2.2 | skip
  case int.int i j => cases ra; cases rb; exact WO.of op_eq ⟨rfl, po.here (d := .bl (decide (i = j))) hd (by rw [dec_int]; rfl) h⟩
  case str.str i j => cases ra; cases rb; exact WO.of op_eq ⟨rfl, po.here (d := .bl (decide (i = j))) hd (by rw [dec_str]; rfl) h⟩
  case bl.bl i j => cases ra; cases rb; exact WO.of op_eq ⟨rfl, po.here (d := .bl (decide (i = j))) hd (by rw [dec_bl]; rfl) h⟩
theorem od_ne (hu : X.A.units + 64 < cLine) : OpD X (compareOp .NotEq) dNe := by
  intro G H x y a b R Q hd ra rb h po
  have gen : fit a = true → fit b = true → R (.bl (!eqD a b)) → WO X (compareOp .NotEq) x y H Q := fun fa fb q =>
    WO.of (op_neD hu) ⟨py a, py b, rep_dp a x (fit_pure fa) (Rep.mono hd.same a x ra), rep_dp b y (fit_pure fb) (Rep.mono hd.same b y rb), fit_shaped fa, fit_shaped fb, po.here (d := .bl (!eqD a b)) hd rfl q⟩
  cases a <;> cases b <;> first | exact gen h.1 h.2.1 h.2.2 | skip
  case int.int i j => cases ra; cases rb; exact WO.of op_ne ⟨rfl, po.here (d := .bl (!decide (i = j))) hd (by rw [dec_int]; rfl) h⟩
  case str.str i j => cases ra; cases rb; exact WO.of op_ne ⟨rfl, po.here (d := .bl (!decide (i = j))) hd (by rw [dec_str]; rfl) h⟩
  case bl.bl i j => cases ra; cases rb; exact WO.of op_ne ⟨rfl, po.here (d := .bl (!decide (i = j))) hd (by rw [dec_bl]; rfl) h⟩
theorem od_is : OpD X (compareOp .Is) dIs := by
  intro G H x y a b R Q hd ra rb h po
  have z : b = .non ∧ R (.bl (non? a)) := by cases a <;> cases b <;> first | exact h.elim | exact ⟨rfl, h⟩
  obtain ⟨rfl, q⟩ := z
  cases rb
  exact WO.of op_isN ⟨rfl, po.here (d := .bl (non? a)) hd (by rw [rep_non ra]; rfl) q⟩
theorem od_isnot : OpD X (compareOp .IsNot) dIsNot := by
  intro G H x y a b R Q hd ra rb h po
  have z : b = .non ∧ R (.bl (!non? a)) := by cases a <;> cases b <;> first | exact h.elim | exact ⟨rfl, h⟩
  obtain ⟨rfl, q⟩ := z
  cases rb
  exact WO.of op_notN ⟨rfl, po.here (d := .bl (!non? a)) hd (by rw [rep_non ra]; rfl) q⟩
theorem any_eqD (x : D) : ∀ ds : List D, ((pyAll ds).any fun z => PyData.eqv z (py x)) = ds.any fun z => eqD z x
  | [] => rfl
  | d :: ds => by
    rw [List.any_cons, ← any_eqD x ds]
    rfl
theorem od_in (hu : X.A.units + 65 < cLine) : OpD X (compareOp .In) (dIn false) := by
  intro G H x y a b R Q hd ra rb h po
  have inl : ∀ ds, b = .lst ds → fit a = true → fit (.lst ds) = true → R (.bl (ds.any fun z => eqD z a)) → WO X (compareOp .In) x y H Q := fun ds e fa fb q => by
    subst e
    exact WO.of (op_inD hu) ⟨py a, pyAll ds, rep_dp a x (fit_pure fa) (Rep.mono hd.same a x ra), rep_dp (.lst ds) y (fit_pure fb) (Rep.mono hd.same _ y rb), fit_shaped fa, fit_shaped fb, po.here (d := .bl (ds.any fun z => eqD z a)) hd (by rw [any_eqD]; rfl) q⟩
  have int : ∀ ds, b = .tup ds → (∃ v vs, flat? a = some v ∧ flats ds = some vs ∧ R (.bl (inV v vs))) → WO X (compareOp .In) x y H Q := fun ds e q => by
    subst e
    obtain ⟨v, vs, f1, f2, q⟩ := q
    obtain ⟨p, xs, rfl, hp, rp⟩ := rb
    obtain ⟨e1, z1⟩ := rep_flat f1 ra
    obtain ⟨e2, z2⟩ := rep_flats f2 rp
    subst e1; subst e2
    exact WO.of op_in_seq ⟨p, xs, rfl, .inr ((hp.mono hd.same).sq), z1, z2, po.here (d := .bl (inV x xs)) hd rfl q⟩
  cases a <;> cases b <;> first | exact h.elim | exact inl _ rfl h.1 h.2.1 (by have q := h.2.2; rw [Bool.false_xor] at q; exact q) | exact int _ rfl (by obtain ⟨v, vs, f1, f2, q⟩ := h; rw [Bool.false_xor] at q; exact ⟨v, vs, f1, f2, q⟩) | skip
  case str.str i j =>
    cases ra; cases rb
    obtain ⟨c, rfl, q⟩ := h
    rw [Bool.false_xor] at q
    exact WO.of op_in_sign ⟨c, j, rfl, rfl, po.here (d := .bl (decide (c ∈ j.cps.toList))) hd rfl q⟩
theorem od_notin (hu : X.A.units + 65 < cLine) : OpD X (compareOp .NotIn) (dIn true) := by
  intro G H x y a b R Q hd ra rb h po
  have inl : ∀ ds, b = .lst ds → fit a = true → fit (.lst ds) = true → R (.bl (!ds.any fun z => eqD z a)) → WO X (compareOp .NotIn) x y H Q := fun ds e fa fb q => by
    subst e
    exact WO.of (op_notInD hu) ⟨py a, pyAll ds, rep_dp a x (fit_pure fa) (Rep.mono hd.same a x ra), rep_dp (.lst ds) y (fit_pure fb) (Rep.mono hd.same _ y rb), fit_shaped fa, fit_shaped fb, po.here (d := .bl (!ds.any fun z => eqD z a)) hd (by rw [any_eqD]; rfl) q⟩
  have int : ∀ ds, b = .tup ds → (∃ v vs, flat? a = some v ∧ flats ds = some vs ∧ R (.bl (!inV v vs))) → WO X (compareOp .NotIn) x y H Q := fun ds e q => by
    subst e
    obtain ⟨v, vs, f1, f2, q⟩ := q
    obtain ⟨p, xs, rfl, hp, rp⟩ := rb
    obtain ⟨e1, z1⟩ := rep_flat f1 ra
    obtain ⟨e2, z2⟩ := rep_flats f2 rp
    subst e1; subst e2
    exact WO.of op_notIn_seq ⟨p, xs, rfl, .inr ((hp.mono hd.same).sq), z1, z2, po.here (d := .bl (!inV x xs)) hd rfl q⟩
  cases a <;> cases b <;> first | exact h.elim | exact inl _ rfl h.1 h.2.1 (by have q := h.2.2; rw [Bool.true_xor] at q; exact q) | exact int _ rfl (by obtain ⟨v, vs, f1, f2, q⟩ := h; rw [Bool.true_xor] at q; exact ⟨v, vs, f1, f2, q⟩) | skip
  case str.str i j =>
    cases ra; cases rb
    obtain ⟨c, rfl, q⟩ := h
    rw [Bool.true_xor] at q
    exact WO.of op_notIn_sign ⟨c, j, rfl, rfl, po.here (d := .bl (!decide (c ∈ j.cps.toList))) hd rfl q⟩
theorem ixd : IxD X dIx := by
  intro G H x y a b R Q hd ra rb h po
  cases a <;> cases b <;> first | exact h.elim | skip
  case lst.int ds i =>
    obtain ⟨p, xs, rfl, hp, rp⟩ := ra
    cases rb
    obtain ⟨d, e, q⟩ := h
    obtain ⟨v, ev, rv⟩ := rp.at e
    exact WIx.of ix_list ⟨p, xs, i, v, rfl, rfl, SqL.of (hd.same _ _ hp), ev, po.here hd rv q⟩
  case tup.int ds i =>
    obtain ⟨p, xs, rfl, hp, rp⟩ := ra
    cases rb
    obtain ⟨d, e, q⟩ := h
    obtain ⟨v, ev, rv⟩ := rp.at e
    exact WIx.of ix_tup ⟨p, xs, i, v, rfl, rfl, (hp.mono hd.same).sq, ev, po.here hd rv q⟩
  case str.int z i =>
    cases ra; cases rb
    obtain ⟨hl, c, e, q⟩ := h
    exact WIx.of ix_str ⟨z, i, c, rfl, rfl, hl, e, po.here (d := .str ⟨#[c]⟩) hd rfl q⟩
end

/-! ### slices -/
abbrev LD := Rho → (Option Int → Prop) → Prop
def dNoP : LD := fun _ R => R none
def dPart (t : ED) : LD := fun ρ R => t ρ fun d => match d with
  | .int i => R (some i)
  | _ => False
def cutD (ds : List D) (lo hi : Option Int) : List D := (ds.drop (HT.sIx ds.length 0 lo)).take (HT.sIx ds.length ds.length hi - HT.sIx ds.length 0 lo)
def dCut (d : D) (lo hi : Option Int) (R : D → Prop) : Prop := match d with
  | .lst ds => R (.lst (cutD ds lo hi))
  | .tup ds => R (.tup (cutD ds lo hi))
  | .str z => z.length ≤ sizeLine ∧ R (.str (cutS z lo hi))
  | .scr ns => R (.lst ((cutD (ns.map D.int) lo hi)))
  | _ => False
def dSlice (te : ED) (tl th : LD) : ED := fun ρ R => te ρ fun d => tl ρ fun lo => th ρ fun hi => dCut d lo hi R
structure QO (X : Cx) (e : Option Expr) (t : LD) : Prop where
  run : ∀ (G H : Hp) (ρ : Rho) (σ : St) (R : Option Int → Prop) (Q : Option Int → Hp → Prop), Sim X.K G H ρ σ → t ρ R → (∀ o G', Same G G' → Kp G H G' → R o → Q o (lay G H G')) →
    ∀ (pins : List (Addr × Obj)) (s : Shared), Inv X pins σ H s → wpAny (model X.prog X.w) X.A (evalPart e X.env) (fun u s' => ∃ o H', Inv X pins σ H' s' ∧ IsPart u o ∧ Q o H') X.xe s
def WSl (X : Cx) : V → Option Int → Option Int → Hp → VK → Prop := fun x lo hi H Q => ∀ (pins : List (Addr × Obj)) (s : Shared) (σ : St) (v vl vu : Value) (sl : Addr), Inv X pins σ H s → RelV x v → s.heap.IsSliceOf sl vl vu .none → IsPart vl lo → IsPart vu hi →
    ∃ T id, typeLookup (.type T) "__getitem__" = pure (some (.builtin id)) ∧ s.TypeIs v T ∧ wpAny (model X.prog X.w) X.A (getItem v (.ref sl)) (EP X pins σ Q) X.xe s
section
variable {X : Cx} {e : Expr} {lo hi : Option Expr} {te : ED} {tl th : LD} {p2 pos : Pos}
theorem sl_w : SlR X (WSl X) := fun pins s σ H x v vl vu lo hi sl Q I rx hs pl pu h => h pins s σ v vl vu sl I rx hs pl pu
theorem WSl.of {r : V → Option Int → Option Int → Hp → VK → Prop} {x : V} {lo hi : Option Int} {H : Hp} {Q : VK} (h : SlR X r) (q : r x lo hi H Q) : WSl X x lo hi H Q := fun pins s σ v vl vu sl I rx hs pl pu => h pins s σ H x v vl vu lo hi sl Q I rx hs pl pu q
theorem qo_none : QO X none dNoP := ⟨fun G H ρ σ R Q S h po pins s I => po_none.run pins s σ H Q I (by
  have z := po none G (Same.refl G) Kp.self h
  rw [lay_self S.hid.same] at z
  exact z)⟩
theorem qo_some (he : QE X e te) : QO X (some e) (dPart te) := ⟨fun G H ρ σ R Q S h po pins s I => (po_some pe_w).run pins s σ H Q I (he.run G H ρ σ _ _ S h fun v G1 d s1 k1 r1 q1 => by
  cases d <;> first | exact q1.elim | skip
  case int i => cases r1; exact ⟨i, rfl, po (some i) G1 s1 k1 q1⟩)⟩
theorem cut_int (ns : List Int) (lo hi : Option Int) : ∃ ms : List Int, cutV (ns.map V.int) lo hi = ms.map V.int ∧ cutD (ns.map D.int) lo hi = ms.map D.int := by
  refine ⟨(ns.drop (HT.sIx ns.length 0 lo)).take (HT.sIx ns.length ns.length hi - HT.sIx ns.length 0 lo), ?_, ?_⟩
  · unfold cutV; rw [List.length_map, List.map_take, List.map_drop]
  · unfold cutD; rw [List.length_map, List.map_take, List.map_drop]
theorem rep_ints {K : PySem.W.Frag} {H : Hp} : ∀ ns : List Int, RepAll K H (ns.map D.int) (ns.map V.int)
  | [] => rfl
  | n :: ns => ⟨.int n, ns.map V.int, rfl, rfl, rep_ints ns⟩
theorem qe_slice (he : QE X e te) (hl : QO X lo tl) (hh : QO X hi th) : QE X (.Subscript e (.Slice lo hi none p2) pos) (dSlice te tl th) := ⟨fun G H ρ σ R Q S h po => by
  have pl : PO X lo (fun σ H Q => ∀ (pins : List (Addr × Obj)) (s : Shared), Inv X pins σ H s → wpAny (model X.prog X.w) X.A (evalPart lo X.env) (fun u s' => ∃ o H', Inv X pins σ H' s' ∧ IsPart u o ∧ Q o H') X.xe s) := ⟨fun pins s σ H Q I h => h pins s I⟩
  have ph : PO X hi (fun σ H Q => ∀ (pins : List (Addr × Obj)) (s : Shared), Inv X pins σ H s → wpAny (model X.prog X.w) X.A (evalPart hi X.env) (fun u s' => ∃ o H', Inv X pins σ H' s' ∧ IsPart u o ∧ Q o H') X.xe s) := ⟨fun pins s σ H Q I h => h pins s I⟩
  refine W.of (pe_slice sl_w pe_w pl ph) ?_
  refine he.run G H ρ σ _ _ S h fun v G1 d s1 k1 r1 q1 => ?_
  have S1 := S.step s1 k1
  refine hl.run G1 _ ρ σ _ _ S1 q1 fun o1 G2 s2 k2 q2 => ?_
  have S2 := S1.step s2 k2
  refine hh.run G2 _ ρ σ _ _ S2 q2 fun o2 G3 s3 k3 q3 => ?_
  have S3 := S2.step s3 k3
  have po3 := ((po.seq s1 k1).seq s2 k2).seq s3 k3
  have r3 := Rep.mono (s2.trans s3) d v r1
  cases d <;> first | exact q3.elim | skip
  case lst ds =>
    obtain ⟨p, xs, rfl, hp, rp⟩ := r3
    exact WSl.of sl_list ⟨p, xs, rfl, SqL.of (S3.hid.same _ _ hp), fun l n => po3.lst S3.hid n (rp.cut _ _) q3⟩
  case tup ds =>
    obtain ⟨p, xs, rfl, hp, rp⟩ := r3
    refine WSl.of sln_tup ⟨p, xs, rfl, (hp.mono S3.hid.same).sq, fun c => ?_, fun _ => po3.tup S3.hid (rp.cut _ _) q3⟩
    have e : cutD ds o1 o2 = ds := by
      unfold cutD
      rw [← rp.length, c.1, c.2, Nat.sub_zero, List.drop_zero, rp.length, List.take_length]
    exact po3.here (d := .tup ds) S3.hid ⟨p, xs, rfl, hp, rp⟩ (by have q : R (.tup (cutD ds o1 o2)) := q3; rw [e] at q; exact q)
  case str z => cases r3; exact WSl.of sl_str ⟨z, rfl, q3.1, po3.here (d := .str (cutS z o1 o2)) S3.hid rfl q3.2⟩
  case scr ns =>
    obtain ⟨p, rfl, hp⟩ := r3
    obtain ⟨ms, e1, e2⟩ := cut_int ns o1 o2
    exact WSl.of sl_list ⟨p, _, rfl, S3.hid.same.seq hp, fun l n => po3.lst S3.hid n (by rw [e1]; exact rep_ints ms) (by have q : R (.lst (cutD (ns.map D.int) o1 o2)) := q3; rw [e2] at q; exact q)⟩⟩
end
end DL

namespace DL
open PySem PySem.Spec
open L2 hiding St
open PyProof.Rows (subscriptTail)

/-! ### built-ins over data -/
def dLen : List D → (D → Prop) → Prop
  | [.lst ds], R => R (.int ds.length)
  | [.tup ds], R => R (.int ds.length)
  | [.str z], R => z.length ≤ sizeLine ∧ R (.int z.length)
  | _, _ => False
def dList : List D → (D → Prop) → Prop
  | [.lst ds], R => R (.lst ds)
  | [.tup ds], R => R (.lst ds)
  | _, _ => False
def dTuple : List D → (D → Prop) → Prop
  | [.lst ds], R => R (.tup ds)
  | [.tup ds], R => R (.tup ds)
  | _, _ => False
def dInt : List D → (D → Prop) → Prop
  | [.int i], R => R (.int i)
  | [.bl k], R => R (.int (if k then 1 else 0))
  | _, _ => False
def dMin2 : List D → (D → Prop) → Prop
  | [.int i, .int j], R => R (.int (if j < i then j else i))
  | _, _ => False
def dMax2 : List D → (D → Prop) → Prop
  | [.int i, .int j], R => R (.int (if j > i then j else i))
  | _, _ => False
def bools : List D → Option (List Bool)
  | [] => some []
  | .bl b :: ds => (bools ds).map (b :: ·)
  | _ :: _ => none
def dAll : List D → (D → Prop) → Prop
  | [.lst ds], R => ∃ bs, bools ds = some bs ∧ R (.bl (bs.all id))
  | _, _ => False
def dStr : List D → (D → Prop) → Prop
  | [.int i], R => i.natAbs.log2 < 1920 ∧ R (.str (toString i))
  | _, _ => False
section
variable {X : Cx}
theorem one_of {K : PySem.W.Frag} {G : Hp} {d : D} {xs : List V} (h : RepAll K G [d] xs) : ∃ x, xs = [x] ∧ Rep K G d x := by
  obtain ⟨x, r, rfl, h, e⟩ := h
  cases e
  exact ⟨x, rfl, h⟩
theorem two_of {K : PySem.W.Frag} {G : Hp} {d e : D} {xs : List V} (h : RepAll K G [d, e] xs) : ∃ x y, xs = [x, y] ∧ Rep K G d x ∧ Rep K G e y := by
  obtain ⟨x, r, rfl, h, t⟩ := h
  obtain ⟨y, rfl, q⟩ := one_of t
  exact ⟨x, y, rfl, h, q⟩
theorem cd_len : CallD X (.builtin "len") dLen := by
  intro G H xs ds R Q hd r h po
  match ds, h with
  | [.lst ds], h =>
    obtain ⟨x, rfl, p, ys, rfl, hp, rp⟩ := one_of r
    exact WC.of call_len_seq ⟨p, ys, rfl, .inl (SqL.of (hd.same _ _ hp)), po.here (d := .int ds.length) hd (by rw [rp.length]; rfl) h⟩
  | [.tup ds], h =>
    obtain ⟨x, rfl, p, ys, rfl, hp, rp⟩ := one_of r
    exact WC.of call_len_seq ⟨p, ys, rfl, .inr ((hp.mono hd.same).sq), po.here (d := .int ds.length) hd (by rw [rp.length]; rfl) h⟩
  | [.str z], h =>
    obtain ⟨x, rfl, e⟩ := one_of r
    cases e
    exact WC.of call_len_str ⟨z, rfl, h.1, po.here (d := .int z.length) hd rfl h.2⟩
theorem cd_list : CallD X (.type "list") dList := by
  intro G H xs ds R Q hd r h po
  match ds, h with
  | [.lst ds], h =>
    obtain ⟨x, rfl, p, ys, rfl, hp, rp⟩ := one_of r
    exact WC.of call_list_of ⟨p, ys, rfl, .inl (SqL.of (hd.same _ _ hp)), fun l n => po.lst hd n rp h⟩
  | [.tup ds], h =>
    obtain ⟨x, rfl, p, ys, rfl, hp, rp⟩ := one_of r
    exact WC.of call_list_of ⟨p, ys, rfl, .inr ((hp.mono hd.same).sq), fun l n => po.lst hd n rp h⟩
theorem cd_tuple : CallD X (.type "tuple") dTuple := by
  intro G H xs ds R Q hd r h po
  match ds, h with
  | [.lst ds], h =>
    obtain ⟨x, rfl, p, ys, rfl, hp, rp⟩ := one_of r
    exact WC.of calln_tuple ⟨p, ys, rfl, .inl ⟨SqL.of (hd.same _ _ hp), po.tup hd rp h⟩⟩
  | [.tup ds], h =>
    obtain ⟨x, rfl, p, ys, rfl, hp, rp⟩ := one_of r
    exact WC.of calln_tuple ⟨p, ys, rfl, .inr ⟨(hp.mono hd.same).sq, po.here (d := .tup ds) hd ⟨p, ys, rfl, hp, rp⟩ h⟩⟩
theorem cd_int : CallD X (.type "int") dInt := by
  intro G H xs ds R Q hd r h po
  match ds, h with
  | [.int i], h =>
    obtain ⟨x, rfl, e⟩ := one_of r
    cases e
    exact WC.of call_int1 (.inl ⟨i, rfl, po.here (d := .int i) hd rfl h⟩)
  | [.bl k], h =>
    obtain ⟨x, rfl, e⟩ := one_of r
    cases e
    exact WC.of call_int1 (.inr ⟨k, rfl, po.here (d := .int (if k then 1 else 0)) hd rfl h⟩)
theorem cd_min2 (hc : X.calm = true) : CallD X (.builtin "min") dMin2 := by
  intro G H xs ds R Q hd r h po
  match ds, h with
  | [.int i, .int j], h =>
    obtain ⟨x, y, rfl, e1, e2⟩ := two_of r
    cases e1; cases e2
    exact WC.of (call_min2 hc) ⟨i, j, rfl, po.here (d := .int (if j < i then j else i)) hd rfl h⟩
theorem cd_max2 (hc : X.calm = true) : CallD X (.builtin "max") dMax2 := by
  intro G H xs ds R Q hd r h po
  match ds, h with
  | [.int i, .int j], h =>
    obtain ⟨x, y, rfl, e1, e2⟩ := two_of r
    cases e1; cases e2
    exact WC.of (call_max2 hc) ⟨i, j, rfl, po.here (d := .int (if j > i then j else i)) hd rfl h⟩
theorem rep_bools {K : PySem.W.Frag} {G : Hp} : ∀ {ds : List D} {bs : List Bool} {xs : List V}, bools ds = some bs → RepAll K G ds xs → xs = bs.map V.bl
  | [], bs, xs, e, r => by cases e; cases r; rfl
  | .bl b :: ds, bs, xs, e, r => by
    obtain ⟨x, t, rfl, rx, rt⟩ := r
    cases rx
    unfold bools at e
    cases q : bools ds with
    | none => rw [q] at e; cases e
    | some cs =>
      rw [q] at e
      cases e
      rw [rep_bools q rt]
      rfl
theorem cd_all (hc : X.calm = true) : CallD X (.builtin "all") dAll := by
  intro G H xs ds R Q hd r h po
  match ds, h with
  | [.lst ds], h =>
    obtain ⟨bs, e, q⟩ := h
    obtain ⟨x, rfl, p, ys, rfl, hp, rp⟩ := one_of r
    have z := rep_bools e rp
    subst z
    exact WC.of (cr_all hc) ⟨p, bs, rfl, SqL.of (hd.same _ _ hp), po.here (d := .bl (bs.all id)) hd rfl q⟩
theorem cd_str : CallD X (.type "str") dStr := by
  intro G H xs ds R Q hd r h po
  match ds, h with
  | [.int i], h =>
    obtain ⟨x, rfl, e⟩ := one_of r
    cases e
    exact WC.of call_str_int ⟨i, rfl, h.1, po.here (d := .str (toString i)) hd rfl h.2⟩
end

/-! ### isinstance -/
inductive Ct where | int | str | bool | list | tuple | dict
def Ct.nm : Ct → String
  | .int => "int" | .str => "str" | .bool => "bool" | .list => "list" | .tuple => "tuple" | .dict => "dict"
def isi : D → Ct → Bool
  | .bl _, .bool => true
  | .bl _, .int => true
  | .int _, .int => true
  | .str _, .str => true
  | .lst _, .list => true
  | .tup _, .tuple => true
  | _, _ => false
def tyN : D → Option String
  | .non => some "NoneType" | .bl _ => some "bool" | .int _ => some "int" | .str _ => some "str" | .lst _ => some "list" | .tup _ => some "tuple" | _ => none
def dIsi (T : Ct) (te : ED) : ED := fun ρ R => te ρ fun d => match tyN d with
  | some _ => R (.bl (isi d T))
  | none => False
def dIsi2 (T U : Ct) (te : ED) : ED := fun ρ R => te ρ fun d => match tyN d with
  | some _ => R (.bl (isi d T || isi d U))
  | none => False
theorem kb_non (T : Ct) : kitB "NoneType" T.nm = some (isi .non T) := by cases T <;> decide +kernel
theorem kb_bl (T : Ct) : kitB "bool" T.nm = some (isi (.bl true) T) := by cases T <;> decide +kernel
theorem kb_int (T : Ct) : kitB "int" T.nm = some (isi (.int 0) T) := by cases T <;> decide +kernel
theorem kb_str (T : Ct) : kitB "str" T.nm = some (isi (.str ⟨#[]⟩) T) := by cases T <;> decide +kernel
theorem kb_lst (T : Ct) : kitB "list" T.nm = some (isi (.lst []) T) := by cases T <;> decide +kernel
theorem kb_tup (T : Ct) : kitB "tuple" T.nm = some (isi (.tup []) T) := by cases T <;> decide +kernel
theorem kit_d {K : PySem.W.Frag} {d : D} {n : String} (h : tyN d = some n) (T : Ct) : PySem.W.kitOne K (.type n) (.type T.nm) = some (isi d T) := by
  cases d with
  | non => cases h; exact kit_ty (kb_non T)
  | bl b => cases h; exact kit_ty ((kb_bl T).trans (by cases T <;> rfl))
  | int b => cases h; exact kit_ty ((kb_int T).trans (by cases T <;> rfl))
  | str b => cases h; exact kit_ty ((kb_str T).trans (by cases T <;> rfl))
  | lst b => cases h; exact kit_ty ((kb_lst T).trans (by cases T <;> rfl))
  | tup b => cases h; exact kit_ty ((kb_tup T).trans (by cases T <;> rfl))
  | bag => cases h
  | scr b => cases h
  | err C ns xs => cases h
theorem ty_d {K : PySem.W.Frag} {H : Hp} {d : D} {v : V} {n : String} (h : tyN d = some n) (r : Rep K H d v) : TyX K H v (.type n) := by
  cases d with
  | non => cases h; cases r; exact .base .non
  | bl b => cases h; cases r; exact .base (.bl b)
  | int b => cases h; cases r; exact .base (.int b)
  | str b => cases h; cases r; exact .base (.str b)
  | lst ds => cases h; obtain ⟨a, xs, rfl, hp, _⟩ := r; exact .base (.lst hp)
  | tup ds =>
    cases h
    obtain ⟨a, xs, rfl, hp, _⟩ := r
    rcases hp with ⟨o, _, hp⟩ | ⟨o, its, n, hk, hc, _⟩
    · exact .fTuple hp
    · exact .kTuple hk hc
  | bag => cases h
  | scr ns => cases h
  | err C ns xs => cases h
section
variable {X : Cx} {e : Expr} {te : ED} {p q r r' pos : Pos} {k1 : Nat}
theorem qe_isi (T : Ct) (hg : Gl X "isinstance") (hm : X.mg "isinstance" = none) (hgT : Gl X T.nm) (hmT : X.mg T.nm = none) (he : QE X e te) (hb : bootBuiltins T.nm = some (.type T.nm) := by exact rfl)
    (h1 : starEach [e, .Name T.nm q] X.env = (false, eval e X.env) :: starEach [.Name T.nm q] X.env := by rfl) (h2 : starEach [.Name T.nm q] X.env = (false, eval (.Name T.nm q) X.env) :: starEach [] X.env := by rfl) (hpl : (backTo pos (starEach [.Name T.nm q] X.env)).any (·.1) = false := by rfl) :
    QE X (.Call (.Name "isinstance" p) [e, .Name T.nm q] [] pos) (dIsi T te) := ⟨fun G H ρ σ R Q S h po => by
  have pT : PE X (.Name T.nm q) (tC (.ty T.nm)) := pe_bltn hgT hmT hb rfl (by cases T <;> decide) (by cases T <;> decide)
  refine W.of (pe_callB call_isi hg hm (by decide +kernel) (pa_cons pe_w (pa_cons pT pa_nil h2) h1) (by decide) (by decide) h1 hpl) ?_
  refine he.run G H ρ σ _ _ S h fun v G1 d s1 k1 r1 q1 => ?_
  have S1 := S.step s1 k1
  cases e1 : tyN d with
  | none => rw [e1] at q1; exact q1.elim
  | some n =>
    rw [e1] at q1
    exact ⟨v, .ty T.nm, .type n, .type T.nm, _, rfl, .ty _, ty_d e1 (Rep.mono S1.hid.same d v r1), kit_d e1 T, (po.seq s1 k1).here (d := .bl (isi d T)) S1.hid rfl q1⟩⟩
theorem kit_any {K : PySem.W.Frag} {d : D} {n : String} (h : tyN d = some n) (T U : Ct) : PySem.W.kitAny K (.type n) [.type T.nm, .type U.nm] = some (isi d T || isi d U) := by
  refine kitAny_cons (kit_d h T) (fun e1 => ?_) (fun e1 => by rw [e1]; rfl)
  rw [e1, Bool.false_or]
  refine kitAny_cons (kit_d h U) (fun e2 => ?_) (fun e2 => e2)
  rw [e2]
  rfl
theorem qe_isi2 (T U : Ct) (hg : Gl X "isinstance") (hm : X.mg "isinstance" = none) (hgT : Gl X T.nm) (hmT : X.mg T.nm = none) (hgU : Gl X U.nm) (hmU : X.mg U.nm = none) (he : QE X e te) (hb : bootBuiltins T.nm = some (.type T.nm) := by exact rfl) (hb' : bootBuiltins U.nm = some (.type U.nm) := by exact rfl)
    (h1 : starEach [e, .Tuple [.Name T.nm q, .Name U.nm r] k1 r'] X.env = (false, eval e X.env) :: starEach [.Tuple [.Name T.nm q, .Name U.nm r] k1 r'] X.env := by rfl)
    (h2 : starEach [.Tuple [.Name T.nm q, .Name U.nm r] k1 r'] X.env = (false, eval (.Tuple [.Name T.nm q, .Name U.nm r] k1 r') X.env) :: starEach [] X.env := by rfl)
    (h3 : starEach [.Name T.nm q, .Name U.nm r] X.env = (false, eval (.Name T.nm q) X.env) :: starEach [.Name U.nm r] X.env := by rfl) (h4 : starEach [.Name U.nm r] X.env = (false, eval (.Name U.nm r) X.env) :: starEach [] X.env := by rfl)
    (hpl : (backTo pos (starEach [.Tuple [.Name T.nm q, .Name U.nm r] k1 r'] X.env)).any (·.1) = false := by rfl) :
    QE X (.Call (.Name "isinstance" p) [e, .Tuple [.Name T.nm q, .Name U.nm r] k1 r'] [] pos) (dIsi2 T U te) := ⟨fun G H ρ σ R Q S h po => by
  have pT : PE X (.Name T.nm q) (tC (.ty T.nm)) := pe_bltn hgT hmT hb rfl (by cases T <;> decide) (by cases T <;> decide)
  have pU : PE X (.Name U.nm r) (tC (.ty U.nm)) := pe_bltn hgU hmU hb' rfl (by cases U <;> decide) (by cases U <;> decide)
  refine W.of (pe_callB call_isiT hg hm (by decide +kernel) (pa_cons pe_w (pa_cons (pe_tup (pa_cons pT (pa_cons pU pa_nil h4) h3)) pa_nil h2) h1) (by decide) (by decide) h1 hpl) ?_
  refine he.run G H ρ σ _ _ S h fun v G1 d s1 k1 r1 q1 => ?_
  have S1 := S.step s1 k1
  cases e1 : tyN d with
  | none => rw [e1] at q1; exact q1.elim
  | some n =>
    rw [e1] at q1
    refine ⟨by show 2 ≤ sizeLine; decide, fun tp ntp => ?_⟩
    refine ⟨v, tp, [.ty T.nm, .ty U.nm], .type n, [.type T.nm, .type U.nm], _, rfl, upd_same, .cons (.ty _) (.cons (.ty _) .nil), ty_d e1 (Rep.mono (S1.hid.same.trans (same_upd ntp)) d v r1), kit_any e1 T U, ?_⟩
    exact (po.seq s1 k1).new (d := .bl (isi d T || isi d U)) S1.hid ntp rfl q1⟩
end

/-! ### methods -/
def WM (X : Cx) (id : String) : V → List V → Hp → VK → Prop := fun x xs H Q => ∀ (pins : List (Addr × Obj)) (s : Shared) (σ : St) (v : Value) (us : List Value), Inv X pins σ H s → RelV x v → Vals xs us → wpAny (model X.prog X.w) X.A (call (.builtin id) (v :: us)) (EP X pins σ Q) X.xe s
abbrev MD := D → List D → (D → Prop) → Prop
def MtD (X : Cx) (id : String) (r : MD) : Prop := ∀ (G H : Hp) (x : V) (xs : List V) (d : D) (ds : List D) (R : D → Prop) (Q : VK), Hid G H → Rep X.K G d x → RepAll X.K G ds xs → r d ds R → Po X.K G H R Q → WM X id x xs H Q
def str? : D → Bool
  | .str _ => true
  | _ => false
def dM1 (r : MD) (to te : ED) : ED := fun ρ R => to ρ fun x => str? x = true ∧ te ρ fun y => r x [y] R
def dJoin : MD
  | .str a, [.lst ds], R => ∃ ys : List Str, ds = ys.map D.str ∧ (ys.map (·.length)).sum + ys.length * a.length ≤ 16777216 ∧ R (.str (Txt.join a ys))
  | _, _, _ => False
def dPartition : MD
  | .str a, [.str b], R => (b.length == 0) = false ∧ a.length ≤ sizeLine ∧ R (.tup [.str (Txt.partition a b).1, .str (Txt.partition a b).2.1, .str (Txt.partition a b).2.2])
  | _, _, _ => False
def dSplit : MD
  | .str a, [.str b], R => (b.length == 0) = false ∧ a.length + 2 ≤ sizeLine ∧ R (.lst ((Txt.split a b).map D.str))
  | _, _, _ => False
def dStarts : MD
  | .str a, [.str b], R => R (.bl (Txt.startswith a b))
  | _, _, _ => False
/-- the first place of a text -/
def dIndexL : MD
  | .lst ds, [.str z], R => ∃ (ys : List Str) (j : Nat), ds = ys.map D.str ∧ ys[j]? = some z ∧ (∀ m, m < j → ys[m]? ≠ some z) ∧ R (.int j)
  | _, _, _ => False
def dIndexT : MD
  | .tup ds, [.str z], R => ∃ (ys : List Str) (j : Nat), ds = ys.map D.str ∧ ys[j]? = some z ∧ (∀ m, m < j → ys[m]? ≠ some z) ∧ R (.int j)
  | _, _, _ => False
/-- what type's method of that name is meant -/
def tyM : D → String
  | .str _ => "str"
  | .lst _ => "list"
  | .tup _ => "tuple"
  | _ => ""
def dMeth (r : D → MD) (to : ED) (t : AD) : ED := fun ρ R => to ρ fun x => t ρ fun ys => r x x ys R
section
variable {X : Cx} {o e : Expr} {es : List Expr} {to te : ED} {at_ : AD} {apos pos : Pos} {id : String} {name : Str} {r : MD}
theorem mt_w : MtR X id (WM X id) := fun pins s σ H x xs v us Q I rx rs h => h pins s σ v us I rx rs
theorem WM.of {r : V → List V → Hp → VK → Prop} {x : V} {xs : List V} {H : Hp} {Q : VK} (h : MtR X id r) (q : r x xs H Q) : WM X id x xs H Q := fun pins s σ v us I rx rs => h pins s σ H x xs v us Q I rx rs q
theorem rep_strs {K : PySem.W.Frag} {G : Hp} : ∀ {ys : List Str} {xs : List V}, RepAll K G (ys.map D.str) xs → xs = ys.map V.str
  | [], xs, r => by cases r; rfl
  | y :: ys, xs, r => by
    obtain ⟨x, t, rfl, rx, rt⟩ := r
    cases rx
    rw [rep_strs rt]
    rfl
theorem strs_rep {K : PySem.W.Frag} {G : Hp} : ∀ ys : List Str, RepAll K G (ys.map D.str) (ys.map V.str)
  | [] => rfl
  | y :: ys => ⟨.str y, ys.map V.str, rfl, rfl, strs_rep ys⟩
theorem md_join : MtD X "str.join" dJoin := by
  intro G H x xs d ds R Q hd rd r h po
  match d, ds, h with
  | .str a, [.lst ds], h =>
    cases rd
    obtain ⟨ys, rfl, hz, q⟩ := h
    obtain ⟨x, rfl, p, zs, rfl, hp, rp⟩ := one_of r
    have e := rep_strs rp
    subst e
    exact WM.of mt_join ⟨a, p, ys, rfl, rfl, .inl (SqL.of (hd.same _ _ hp)), hz, po.here (d := .str (Txt.join a ys)) hd rfl q⟩
theorem md_partition : MtD X "str.partition" dPartition := by
  intro G H x xs d ds R Q hd rd r h po
  match d, ds, h with
  | .str a, [.str b], h =>
    cases rd
    obtain ⟨x, rfl, e⟩ := one_of r
    cases e
    exact WM.of mtn_partition ⟨a, b, rfl, rfl, h.1, h.2.1, po.tup hd (strs_rep [(Txt.partition a b).1, (Txt.partition a b).2.1, (Txt.partition a b).2.2]) h.2.2⟩
theorem md_split : MtD X "str.split" dSplit := by
  intro G H x xs d ds R Q hd rd r h po
  match d, ds, h with
  | .str a, [.str b], h =>
    cases rd
    obtain ⟨x, rfl, e⟩ := one_of r
    cases e
    exact WM.of mt_split ⟨a, b, rfl, rfl, h.1, h.2.1, fun p n => po.lst hd n (strs_rep _) h.2.2⟩
theorem md_starts : MtD X "str.startswith" dStarts := by
  intro G H x xs d ds R Q hd rd r h po
  match d, ds, h with
  | .str a, [.str b], h =>
    cases rd
    obtain ⟨x, rfl, e⟩ := one_of r
    cases e
    exact WM.of mt_startswith ⟨a, b, rfl, rfl, po.here (d := .bl (Txt.startswith a b)) hd rfl h⟩
theorem flat_strs : ∀ ys : List Str, (ys.map V.str).all flatV = true
  | [] => rfl
  | y :: ys => by rw [List.map_cons, List.all_cons, flat_strs ys]; rfl
theorem md_indexL : MtD X "list.index" dIndexL := by
  intro G H x xs d ds R Q hd rd r h po
  match d, ds, h with
  | .lst ds, [.str z], h =>
    obtain ⟨p, zs, rfl, hp, rp⟩ := rd
    obtain ⟨ys, j, rfl, ej, hj, q⟩ := h
    obtain ⟨x, rfl, e⟩ := one_of r
    cases e
    have e := rep_strs rp
    subst e
    refine WM.of mt_index ⟨p, ys.map V.str, .str z, j, .str z, rfl, rfl, SqL.of (hd.same _ _ hp), rfl, flat_strs ys, by rw [List.getElem?_map, ej]; rfl, by show (z == z) = true; exact beq_self_eq_true z, fun m z' hm e' => ?_, po.here (d := .int j) hd rfl q⟩
    rw [List.getElem?_map] at e'
    cases e2 : ys[m]? with
    | none => rw [e2] at e'; cases e'
    | some w =>
      rw [e2] at e'
      cases e'
      show (w == z) = false
      refine beq_eq_false_iff_ne.mpr fun e3 => hj m hm ?_
      rw [e2, e3]
theorem md_indexT : MtD X "tuple.index" dIndexT := by
  intro G H x xs d ds R Q hd rd r h po
  match d, ds, h with
  | .tup ds, [.str z], h =>
    obtain ⟨p, zs, rfl, hp, rp⟩ := rd
    obtain ⟨ys, j, rfl, ej, hj, q⟩ := h
    obtain ⟨x, rfl, e⟩ := one_of r
    cases e
    have e := rep_strs rp
    subst e
    exact WM.of mt_tup_index ⟨p, ys, z, j, rfl, rfl, (hp.mono hd.same).sq, ej, hj, po.here (d := .int j) hd rfl q⟩
/-- a method of a built-in type, by what the receiver is -/
def TyM (X : Cx) (name : Str) (rr : D → MD) : Prop := ∀ d, tyM d ≠ "" → (∀ ys R, ¬ rr d d ys R) ∨ ∃ id, PlainAttrs (tyM d) ∧ Slot (tyM d) name id ∧ typeOf (.builtin id) = pure (.type "method_descriptor") ∧ MtD X id (rr d)
theorem tyM_is {pins : List (Addr × Obj)} {σ : St} {G H : Hp} {s : Shared} {d : D} {x : V} {v : Value} (I : Inv X pins σ H s) (sm : Same G H) (r : RelV x v) (rd : Rep X.K G d x) (h : tyM d ≠ "") : s.TypeIs v (tyM d) ∧ ∀ a, v = .ref a → ∃ ob, s.heap.get? a = some ob ∧ ob.dict = none := by
  cases d <;> first | exact absurd rfl h | skip
  case str z =>
    cases rd
    obtain ⟨t, rfl⟩ := r
    exact ⟨typeIs_str s z t, fun _ e => nomatch e⟩
  case lst ds =>
    obtain ⟨p, xs, rfl, hp, _⟩ := rd
    cases r
    obtain ⟨its, _, pl, _⟩ := I.list (SqL.of (K := X.K) (sm _ _ hp))
    refine ⟨pl.isList.typeIs, fun a e => ?_⟩
    cases e
    obtain ⟨o, n, e, _, hd, _⟩ := pl
    exact ⟨o, e, hd⟩
  case tup ds =>
    obtain ⟨p, xs, rfl, hp, _⟩ := rd
    cases r
    rcases hp.mono sm with ⟨o, hd, hp⟩ | ⟨o, its, n, hk, hc, hd, _⟩
    · obtain ⟨e, _, its, _, o2, e2, c2, _⟩ := I.hok p _ hp
      rw [e] at e2
      cases e2
      refine ⟨⟨o, e, c2⟩, fun a z => ?_⟩
      cases z
      exact ⟨o, e, hd⟩
    · refine ⟨⟨o, I.kIn p o hk, hc⟩, fun a z => ?_⟩
      cases z
      exact ⟨o, I.kIn p o hk, hd⟩
def dMethT (rr : D → MD) (to : ED) (t : AD) : ED := fun ρ R => to ρ fun x => tyM x ≠ "" ∧ (∃ ys R', rr x x ys R') ∧ t ρ fun ys => rr x x ys R
theorem qe_meth {rr : D → MD} (hT : TyM X name rr) (ho : QE X o to) (ha : QA X (e :: es) at_) (hbase : attributeBase o name X.env (eval o X.env) = eval o X.env := by rfl)
    (hfew : ((backTo pos (starEach (e :: es) X.env)).all (fun x => !x.1) && (backToKw pos (keywordEach [] X.env)).all (fun x => x.1.isSome) && decide ((e :: es).length + ([] : List Keyword).length + (if ([] : List Keyword).isEmpty then 0 else 1) < 30)) = true := by rfl)
    (hline : (apos.endLine == pos.line) = true := by rfl) (hs : starEach (e :: es) X.env = (false, eval e X.env) :: starEach es X.env := by rfl) (hpl : (backTo pos (starEach es X.env)).any (·.1) = false := by rfl) :
    QE X (.Call (.Attribute o name apos) (e :: es) [] pos) (dMethT rr to at_) := ⟨fun G H ρ σ R Q S h po pins s I => by
  refine wpAny_Call_method_late hbase hfew hline rfl ?_
  refine thn ((ho.run G H ρ σ _ (fun v H1 => ∃ G1 d, Same G G1 ∧ Kp G H G1 ∧ H1 = lay G H G1 ∧ Rep X.K G1 d v ∧ tyM d ≠ "" ∧ (∃ ys R', rr d d ys R') ∧ at_ ρ fun ys => rr d d ys R) S h fun v G1 d s1 k1 r1 q1 => ⟨G1, d, s1, k1, rfl, r1, q1⟩) pins s I) ?_
  rintro v s1 ⟨x, H1, I1, rx, G1, d, sm, kp, rfl, rd, ht, hne, q⟩
  have S1 := S.step sm kp
  obtain ⟨h1, h2⟩ := tyM_is I1 S1.hid.same rx rd ht
  rcases hT d ht with hno | ⟨id, pa, slot, hty, hm⟩
  · obtain ⟨ys, R', z⟩ := hne
    exact absurd z (hno ys R')
  · refine ⟨tyM d, id, pa, slot, hty, h1, h2, ?_⟩
    have hA := (ha.run G1 _ ρ σ _ (fun vs H2 => WM X id x vs H2 Q) S1 q fun vs G2 ys s2 k2 r2 q2 => hm G2 _ x vs d ys R Q (S1.hid.lay k2) (Rep.mono s2 d x rd) r2 q2 ((po.seq sm kp).seq s2 k2)) pos pins s1 I1
    rw [hs] at hA ⊢
    refine Calls.callWith_builtin (by show (false || (backTo pos (starEach es X.env)).any (·.1)) = false; rw [hpl]; rfl) (Calls.evalArgs_plain ?_)
    exact thn hA fun us s2 ⟨vs, H2, I2, r2, q2⟩ => q2 pins s2 σ v us I2 rx r2⟩
def mdStr (m : MD) (d : D) : MD := match d with
  | .str _ => m
  | _ => fun _ _ _ => False
def mdIndex (d : D) : MD := match d with
  | .lst _ => dIndexL
  | .tup _ => dIndexT
  | _ => fun _ _ _ => False
theorem ty_str {id : String} {m : MD} (slot : Slot "str" name id) (ty : typeOf (.builtin id) = pure (.type "method_descriptor")) (h : MtD X id m) : TyM X name (mdStr m) := fun d hd => by
  cases d <;> first | exact .inl fun _ _ z => z | exact .inr ⟨id, PySem.F.plainAttrs_str, slot, ty, h⟩
theorem ty_index : TyM X "index" mdIndex := fun d hd => by
  cases d <;> first | exact .inl fun _ _ z => z | exact .inr ⟨_, PySem.F.plainAttrs_list, PySem.F.slot_list_index, PySem.F.type_list_index, md_indexL⟩ | exact .inr ⟨_, PySem.F.plainAttrs_tuple, PySem.F.slot_tuple_index, PySem.F.type_tuple_index, md_indexT⟩
end
end DL

namespace DL
open PySem PySem.Spec PyProof.Rows
open L2 hiding St

/-! ### a list that one slot owns, seen for a while or for good -/
theorem get_set {ρ : Rho} {i j : Nat} {x : SL} (h : i < ρ.length) : (ρ.set i x)[j]? = if i = j then some x else ρ[j]? := by
  rw [List.getElem?_set]
  by_cases e : i = j
  · rw [if_pos e, if_pos e, if_pos h]
  · rw [if_neg e, if_neg e]
theorem lt_of_get {ρ : Rho} {i : Nat} {x : SL} (h : ρ[i]? = some x) : i < ρ.length := (List.getElem?_eq_some_iff.mp h).1
theorem Sim.free {K : PySem.W.Frag} {G H : Hp} {ρ : Rho} {σ : St} {i : Nat} {ds : List D} (S : Sim K G H ρ σ) (e : ρ[i]? = some (SL.own ds)) :
    ∃ p xs, G p = none ∧ H p = some (.lst xs) ∧ RepAll K G ds xs ∧ σ[i]? = some (some (V.ref p)) ∧ Sim K (upd G p (.lst xs)) H (ρ.set i (.val (.lst ds))) σ := by
  obtain ⟨p, xs, hs, hp, gp, r⟩ := S.own i ds e
  have hi := lt_of_get e
  have sm : Same G (upd G p (.lst xs)) := same_upd gp
  refine ⟨p, xs, gp, hp, r, hs, ⟨fun b o q => ?_, fun b u n q => ?_⟩, by rw [List.length_set]; exact S.len, fun j d q => ?_, fun j es q => ?_, fun j k es fs p' q1 q2 h1 h2 => ?_⟩
  · by_cases hb : b = p
    · rw [hb, upd_same] at q; cases q; rw [hb]; exact hp
    · rw [upd_ne hb] at q; exact S.hid.same b o q
  · have hb : b ≠ p := fun z => by rw [z, upd_same] at n; cases n
    rw [upd_ne hb] at n
    exact S.hid.lst b u n q
  · rw [get_set hi] at q
    by_cases hj : i = j
    · rw [if_pos hj] at q
      cases q
      rw [← hj]
      exact ⟨.ref p, hs, p, xs, rfl, upd_same, RepAll.mono sm ds xs r⟩
    · rw [if_neg hj] at q
      obtain ⟨v, h1, h2⟩ := S.val j d q
      exact ⟨v, h1, Rep.mono sm d v h2⟩
  · rw [get_set hi] at q
    by_cases hj : i = j
    · rw [if_pos hj] at q; cases q
    · rw [if_neg hj] at q
      obtain ⟨p', ys, h1, h2, h3, h4⟩ := S.own j es q
      have hn : p' ≠ p := fun z => hj (S.inj i j ds es p e q hs (by rw [← z]; exact h1))
      exact ⟨p', ys, h1, h2, by rw [upd_ne hn]; exact h3, RepAll.mono sm es ys h4⟩
  · rw [get_set hi] at q1 q2
    by_cases hj : i = j
    · rw [if_pos hj] at q1; cases q1
    · by_cases hk : i = k
      · rw [if_pos hk] at q2; cases q2
      · rw [if_neg hj] at q1; rw [if_neg hk] at q2
        exact S.inj j k es fs p' q1 q2 h1 h2
def dele (G : Hp) (p : Addr) : Hp := fun b => if b = p then none else G b
theorem dele_ne {G : Hp} {p b : Addr} (h : b ≠ p) : dele G p b = G b := if_neg h
theorem dele_same {G : Hp} {p : Addr} : dele G p p = none := if_pos rfl
theorem hide_back {G H G' : Hp} {p : Addr} {u : HO} (gp : G p = none) (hp : H p = some u) (s : Same (upd G p u) G') (k : Kp (upd G p u) H G') : Same G (dele G' p) ∧ Kp G H (dele G' p) ∧ lay (upd G p u) H G' = lay G H (dele G' p) := by
  refine ⟨fun b o e => ?_, fun b o n h => ?_, ?_⟩
  · have hb : b ≠ p := ne_of_none e gp
    rw [dele_ne hb]
    exact s b o (by rw [upd_ne hb]; exact e)
  · by_cases hb : b = p
    · rw [hb]; exact dele_same
    · rw [dele_ne hb]
      exact k b o (by rw [upd_ne hb]; exact n) h
  · funext b
    by_cases hb : b = p
    · subst hb
      rw [lay_hid gp hp, lay_some upd_same, s b u upd_same]
    · cases g : G b with
      | some o => rw [lay_some (u := o) (by rw [upd_ne hb]; exact g), lay_some g, dele_ne hb]
      | none =>
        cases h : H b with
        | some o => rw [lay_hid (by rw [upd_ne hb]; exact g) h, lay_hid g h]
        | none => rw [lay_none h, lay_none h, dele_ne hb]
def scal? : D → Bool
  | .non => true
  | .bl _ => true
  | .int _ => true
  | .str _ => true
  | _ => false
theorem rep_scal {K : PySem.W.Frag} {G G' : Hp} {d : D} {v : V} (h : scal? d = true) (r : Rep K G d v) : Rep K G' d v := by
  cases d <;> first | exact r | cases h
def dBorT (i : Nat) (t : TD) : TD := fun ρ R => match ρ[i]? with
  | some (.own ds) => t (ρ.set i (.val (.lst ds))) R
  | _ => t ρ R
def dBorE (i : Nat) (t : ED) : ED := fun ρ R => match ρ[i]? with
  | some (.own ds) => t (ρ.set i (.val (.lst ds))) fun d => scal? d = true ∧ R d
  | _ => t ρ R
section
variable {X : Cx} {e : Expr}
theorem qt_borrow (i : Nat) {t : TD} (h : QT X e t) : QT X e (dBorT i t) := ⟨fun G H ρ σ R Q S q po => by
  unfold dBorT at q
  cases z : ρ[i]? with
  | none => rw [z] at q; exact h.run G H ρ σ R Q S q po
  | some x =>
    rw [z] at q
    cases x with
    | nul => exact h.run G H ρ σ R Q S q po
    | val d => exact h.run G H ρ σ R Q S q po
    | own ds =>
      obtain ⟨p, xs, gp, hp, r, hs, S1⟩ := S.free z
      refine h.run _ H _ σ R Q S1 q fun b G' s k q1 => ?_
      obtain ⟨a1, a2, a3⟩ := hide_back gp hp s k
      rw [a3]
      exact po b _ a1 a2 q1⟩
theorem qe_borrow (i : Nat) {t : ED} (h : QE X e t) : QE X e (dBorE i t) := ⟨fun G H ρ σ R Q S q po => by
  unfold dBorE at q
  cases z : ρ[i]? with
  | none => rw [z] at q; exact h.run G H ρ σ R Q S q po
  | some x =>
    rw [z] at q
    cases x with
    | nul => exact h.run G H ρ σ R Q S q po
    | val d => exact h.run G H ρ σ R Q S q po
    | own ds =>
      obtain ⟨p, xs, gp, hp, r, hs, S1⟩ := S.free z
      refine h.run _ H _ σ _ Q S1 q fun v G' d s k r1 q1 => ?_
      obtain ⟨a1, a2, a3⟩ := hide_back gp hp s k
      rw [a3]
      exact po v _ d a1 a2 (rep_scal q1.1 r1) q1.2⟩
end

/-! ### statements -/
structure EndsD where
  nx : Rho → Prop
  rt : D → Prop
  bk : Rho → Prop
  ct : Rho → Prop
abbrev SD := EndsD → Rho → Prop
structure PoS (K : PySem.W.Frag) (G : Hp) (E : EndsD) (D : Ends) : Prop where
  nx : ∀ G' H' ρ' σ', Same G G' → Sim K G' H' ρ' σ' → E.nx ρ' → D.nx σ' H'
  rt : ∀ v G' H' d, Same G G' → Hid G' H' → Rep K G' d v → E.rt d → D.rt v H'
  bk : ∀ G' H' ρ' σ', Same G G' → Sim K G' H' ρ' σ' → E.bk ρ' → D.bk σ' H'
  ct : ∀ G' H' ρ' σ', Same G G' → Sim K G' H' ρ' σ' → E.ct ρ' → D.ct σ' H'
theorem PoS.seq {K : PySem.W.Frag} {G G1 : Hp} {E : EndsD} {D : Ends} (p : PoS K G E D) (s : Same G G1) : PoS K G1 E D :=
  ⟨fun G' H' ρ' σ' a => p.nx G' H' ρ' σ' (s.trans a), fun v G' H' d a => p.rt v G' H' d (s.trans a), fun G' H' ρ' σ' a => p.bk G' H' ρ' σ' (s.trans a), fun G' H' ρ' σ' a => p.ct G' H' ρ' σ' (s.trans a)⟩
def WS (X : Cx) (st : Stmt) : TS := fun D σ H => ∀ (pins : List (Addr × Obj)) (s : Shared), Inv X pins σ H s → wpAny (model X.prog X.w) X.A (exec st X.env) (SP X pins D) X.xe s
def WSs (X : Cx) (st : List Stmt) : TS := fun D σ H => ∀ (pins : List (Addr × Obj)) (s : Shared), Inv X pins σ H s → wpAny (model X.prog X.w) X.A (execs st X.env) (SP X pins D) X.xe s
structure QS (X : Cx) (st : Stmt) (t : SD) : Prop where
  run : ∀ (G H : Hp) (ρ : Rho) (σ : St) (E : EndsD) (D : Ends), Sim X.K G H ρ σ → t E ρ → PoS X.K G E D → WS X st D σ H
structure QSs (X : Cx) (st : List Stmt) (t : SD) : Prop where
  run : ∀ (G H : Hp) (ρ : Rho) (σ : St) (E : EndsD) (D : Ends), Sim X.K G H ρ σ → t E ρ → PoS X.K G E D → WSs X st D σ H
def dNext : SD := fun E ρ => E.nx ρ
def dSeq (t u : SD) : SD := fun E ρ => t { E with nx := u E } ρ
def dRet (t : ED) : SD := fun E ρ => t ρ E.rt
def dIfS (c : TD) (t u : SD) : SD := fun E ρ => c ρ fun b => if b = true then t E ρ else u E ρ
def dSet (i : Nat) (t : ED) : SD := fun E ρ => t ρ fun d => E.nx (ρ.set i (.val d))
def dDrop (t : ED) : SD := fun E ρ => t ρ fun _ => E.nx ρ
/-- what a target does with a datum -/
abbrev GD := D → Rho → (Rho → Prop) → Prop
def gdName (i : Nat) : GD := fun d ρ R => R (ρ.set i (.val d))
def gdTup (n : Nat) (g : List D → Rho → (Rho → Prop) → Prop) : GD := fun d ρ R => match d with
  | .tup ds => ds.length = n ∧ g ds ρ R
  | _ => False
def gdNil : List D → Rho → (Rho → Prop) → Prop
  | [], ρ, R => R ρ
  | _, _, _ => False
def gdCons (g : GD) (gs : List D → Rho → (Rho → Prop) → Prop) : List D → Rho → (Rho → Prop) → Prop
  | d :: ds, ρ, R => g d ρ fun ρ1 => gs ds ρ1 R
  | _, _, _ => False
def dAsg (t : ED) (g : GD) : SD := fun E ρ => t ρ fun d => g d ρ E.nx
theorem Sim.put {K : PySem.W.Frag} {G H : Hp} {ρ : Rho} {σ : St} {i : Nat} {d : D} {v : V} (S : Sim K G H ρ σ) (hi : i < ρ.length) (r : Rep K G d v) : Sim K G H (ρ.set i (.val d)) (σ.set i (some v)) := by
  have hσ : i < σ.length := by rw [← S.len]; exact hi
  refine ⟨S.hid, by rw [List.length_set, List.length_set]; exact S.len, fun j e q => ?_, fun j es q => ?_, fun j k es fs p q1 q2 h1 h2 => ?_⟩
  · rw [get_set hi] at q
    by_cases hj : i = j
    · rw [if_pos hj] at q; cases q
      rw [← hj, List.getElem?_set_self hσ]
      exact ⟨v, rfl, r⟩
    · rw [if_neg hj] at q
      rw [List.getElem?_set_ne hj]
      exact S.val j e q
  · rw [get_set hi] at q
    by_cases hj : i = j
    · rw [if_pos hj] at q; cases q
    · rw [if_neg hj] at q
      rw [List.getElem?_set_ne hj]
      exact S.own j es q
  · rw [get_set hi] at q1 q2
    by_cases hj : i = j
    · rw [if_pos hj] at q1; cases q1
    · by_cases hk : i = k
      · rw [if_pos hk] at q2; cases q2
      · rw [if_neg hj] at q1; rw [if_neg hk] at q2
        rw [List.getElem?_set_ne hj] at h1
        rw [List.getElem?_set_ne hk] at h2
        exact S.inj j k es fs p q1 q2 h1 h2
/-- a slot is put to nothing -/
theorem Sim.nul {K : PySem.W.Frag} {G H : Hp} {ρ : Rho} {σ : St} (i : Nat) (S : Sim K G H ρ σ) : Sim K G H (ρ.set i .nul) (σ.set i none) := by
  have gs : ∀ (j : Nat) (x : SL), x ≠ .nul → (ρ.set i .nul)[j]? = some x → i ≠ j ∧ ρ[j]? = some x := fun j x hx q => by
    rw [List.getElem?_set] at q
    by_cases hj : i = j
    · rw [if_pos hj] at q
      split at q
      · cases q; exact absurd rfl hx
      · cases q
    · rw [if_neg hj] at q
      exact ⟨hj, q⟩
  refine ⟨S.hid, by rw [List.length_set, List.length_set]; exact S.len, fun j e q => ?_, fun j es q => ?_, fun j k es fs p q1 q2 h1 h2 => ?_⟩
  · obtain ⟨hj, q⟩ := gs j _ (by intro z; cases z) q
    rw [List.getElem?_set_ne hj]
    exact S.val j e q
  · obtain ⟨hj, q⟩ := gs j _ (by intro z; cases z) q
    rw [List.getElem?_set_ne hj]
    exact S.own j es q
  · obtain ⟨hj, q1⟩ := gs j _ (by intro z; cases z) q1
    obtain ⟨hk, q2⟩ := gs k _ (by intro z; cases z) q2
    rw [List.getElem?_set_ne hj] at h1
    rw [List.getElem?_set_ne hk] at h2
    exact S.inj j k es fs p q1 q2 h1 h2
/-- a new list goes to a slot that owns it -/
theorem Sim.putOwn {K : PySem.W.Frag} {G H : Hp} {ρ : Rho} {σ : St} {i : Nat} {ds : List D} {p : Addr} {xs : List V} (S : Sim K G H ρ σ) (hi : i < ρ.length) (hn : H p = none) (r : RepAll K G ds xs) : Sim K G (upd H p (.lst xs)) (ρ.set i (.own ds)) (σ.set i (some (.ref p))) := by
  have hσ : i < σ.length := by rw [← S.len]; exact hi
  have gp : G p = none := S.hid.same.free hn
  have old : ∀ {q : Addr} {u : HO}, H q = some u → q ≠ p := fun {q u} e z => by rw [z, hn] at e; cases e
  refine ⟨⟨fun b o e => by rw [upd_ne (ne_of_none e gp)]; exact S.hid.same b o e, fun b u n q => ?_⟩, by rw [List.length_set, List.length_set]; exact S.len, fun j e q => ?_, fun j es q => ?_, fun j k es fs p' q1 q2 h1 h2 => ?_⟩
  · by_cases hb : b = p
    · rw [hb, upd_same] at q; cases q; exact ⟨xs, rfl⟩
    · rw [upd_ne hb] at q; exact S.hid.lst b u n q
  · rw [get_set hi] at q
    by_cases hj : i = j
    · rw [if_pos hj] at q; cases q
    · rw [if_neg hj] at q
      rw [List.getElem?_set_ne hj]
      exact S.val j e q
  · rw [get_set hi] at q
    by_cases hj : i = j
    · rw [if_pos hj] at q; cases q
      rw [← hj, List.getElem?_set_self hσ]
      exact ⟨p, xs, rfl, upd_same, gp, r⟩
    · rw [if_neg hj] at q
      rw [List.getElem?_set_ne hj]
      obtain ⟨p', ys, a1, a2, a3, a4⟩ := S.own j es q
      exact ⟨p', ys, a1, by rw [upd_ne (old a2)]; exact a2, a3, a4⟩
  · rw [get_set hi] at q1 q2
    by_cases hj : i = j
    · by_cases hk : i = k
      · rw [← hj, ← hk]
      · rw [if_neg hk] at q2
        rw [List.getElem?_set_ne hk] at h2
        rw [← hj, List.getElem?_set_self hσ] at h1
        cases h1
        obtain ⟨p', ys, a1, a2, a3, a4⟩ := S.own k fs q2
        rw [h2] at a1
        cases a1
        exact absurd rfl (old a2)
    · by_cases hk : i = k
      · rw [if_neg hj] at q1
        rw [List.getElem?_set_ne hj] at h1
        rw [← hk, List.getElem?_set_self hσ] at h2
        cases h2
        obtain ⟨p', ys, a1, a2, a3, a4⟩ := S.own j es q1
        rw [h1] at a1
        cases a1
        exact absurd rfl (old a2)
      · rw [if_neg hj] at q1; rw [if_neg hk] at q2
        rw [List.getElem?_set_ne hj] at h1
        rw [List.getElem?_set_ne hk] at h2
        exact S.inj j k es fs p' q1 q2 h1 h2
/-- the owned list is changed in place -/
theorem Sim.mut {K : PySem.W.Frag} {G H : Hp} {ρ : Rho} {σ : St} {i : Nat} {ds es : List D} {p : Addr} {xs : List V} (S : Sim K G H ρ σ) (e : ρ[i]? = some (SL.own ds)) (hs : σ[i]? = some (some (V.ref p))) (r : RepAll K G es xs) : Sim K G (upd H p (.lst xs)) (ρ.set i (.own es)) σ := by
  have hi := lt_of_get e
  obtain ⟨p0, xs0, a1, a2, a3, a4⟩ := S.own i ds e
  rw [hs] at a1
  cases a1
  have other : ∀ {j : Nat} {fs : List D} {q : Addr}, i ≠ j → ρ[j]? = some (SL.own fs) → σ[j]? = some (some (V.ref q)) → q ≠ p := fun {j fs q} hj q1 q2 z => hj (S.inj i j ds fs p e q1 hs (by rw [← z]; exact q2))
  refine ⟨⟨fun b o q => by rw [upd_ne (ne_of_none q a3)]; exact S.hid.same b o q, fun b u n q => ?_⟩, by rw [List.length_set]; exact S.len, fun j d q => ?_, fun j fs q => ?_, fun j k fs gs p' q1 q2 h1 h2 => ?_⟩
  · by_cases hb : b = p
    · rw [hb, upd_same] at q; cases q; exact ⟨xs, rfl⟩
    · rw [upd_ne hb] at q; exact S.hid.lst b u n q
  · rw [get_set hi] at q
    by_cases hj : i = j
    · rw [if_pos hj] at q; cases q
    · rw [if_neg hj] at q; exact S.val j d q
  · rw [get_set hi] at q
    by_cases hj : i = j
    · rw [if_pos hj] at q; cases q
      rw [← hj]
      exact ⟨p, xs, hs, upd_same, a3, r⟩
    · rw [if_neg hj] at q
      obtain ⟨p', ys, b1, b2, b3, b4⟩ := S.own j fs q
      exact ⟨p', ys, b1, by rw [upd_ne (other hj q b1)]; exact b2, b3, b4⟩
  · rw [get_set hi] at q1 q2
    have q1' : ∃ fs', ρ[j]? = some (SL.own fs') := by
      by_cases hj : i = j
      · exact ⟨ds, by rw [← hj]; exact e⟩
      · rw [if_neg hj] at q1; exact ⟨_, q1⟩
    have q2' : ∃ fs', ρ[k]? = some (SL.own fs') := by
      by_cases hk : i = k
      · exact ⟨ds, by rw [← hk]; exact e⟩
      · rw [if_neg hk] at q2; exact ⟨_, q2⟩
    obtain ⟨_, z1⟩ := q1'
    obtain ⟨_, z2⟩ := q2'
    exact S.inj j k _ _ p' z1 z2 h1 h2
end DL

namespace DL
open PySem PySem.Spec PyProof.Rows
open L2 hiding St

section
variable {X : Cx} {e : Expr} {st : Stmt} {rest a b : List Stmt} {t u : SD} {te : ED} {tc : TD} {pos pos' : Pos}
theorem ps_w : PS X st (WS X st) := ⟨fun pins s σ H D I h => h pins s I⟩
theorem pss_w : PSs X rest (WSs X rest) := ⟨fun pins s σ H D I h => h pins s I⟩
theorem WS.of {t : TS} {D : Ends} {σ : St} {H : Hp} (h : PS X st t) (q : t D σ H) : WS X st D σ H := fun pins s I => h.run pins s σ H D I q
theorem WSs.of {t : TS} {D : Ends} {σ : St} {H : Hp} (h : PSs X rest t) (q : t D σ H) : WSs X rest D σ H := fun pins s I => h.run pins s σ H D I q
theorem Sim.same {K : PySem.W.Frag} {G H G1 : Hp} {ρ : Rho} {σ : St} {E : EndsD} {D : Ends} (S : Sim K G H ρ σ) (po : PoS K G E D) (q : E.nx ρ) : D.nx σ H := po.nx G H ρ σ (Same.refl G) S q
theorem qss_nil : QSs X [] dNext := ⟨fun G H ρ σ E D S h po => WSs.of pss_nil (po.nx G H ρ σ (Same.refl G) S h)⟩
theorem qss_cons (h1 : QS X st t) (h2 : QSs X rest u) : QSs X (st :: rest) (dSeq t u) := ⟨fun G H ρ σ E D S h po =>
  WSs.of (pss_cons ps_w pss_w) (h1.run G H ρ σ { E with nx := u E } { D with nx := WSs X rest D } S h ⟨fun G' H' ρ' σ' s S' q => h2.run G' H' ρ' σ' E D S' q (po.seq s), po.rt, po.bk, po.ct⟩)⟩
theorem qss_one (h1 : QS X st t) : QSs X [st] t := ⟨fun G H ρ σ E D S h po => WSs.of (pss_one ps_w) (h1.run G H ρ σ E D S h po)⟩
theorem qs_pass : QS X (.Pass pos) dNext := ⟨fun G H ρ σ E D S h po => WS.of ps_pass (po.nx G H ρ σ (Same.refl G) S h)⟩
theorem qs_break : QS X (.Break pos) (fun E ρ => E.bk ρ) := ⟨fun G H ρ σ E D S h po => WS.of ps_break (po.bk G H ρ σ (Same.refl G) S h)⟩
theorem qs_continue : QS X (.Continue pos) (fun E ρ => E.ct ρ) := ⟨fun G H ρ σ E D S h po => WS.of ps_continue (po.ct G H ρ σ (Same.refl G) S h)⟩
theorem qs_never : QS X st (fun _ _ => False) := ⟨fun G H ρ σ E D S h po => h.elim⟩
theorem qss_never : QSs X rest (fun _ _ => False) := ⟨fun G H ρ σ E D S h po => h.elim⟩
theorem qs_expr (he : QE X e te) (hs : swapsWith e none pos.line X.env = pure false := by rfl) : QS X (.Expr e pos) (dDrop te) := ⟨fun G H ρ σ E D S h po =>
  WS.of (ps_expr pe_w hs) (he.run G H ρ σ _ _ S h fun v G1 d s1 k1 r1 q1 => po.nx G1 _ ρ σ s1 (S.step s1 k1) q1)⟩
theorem qs_ret (he : QE X e te) : QS X (.Return (some e) pos) (dRet te) := ⟨fun G H ρ σ E D S h po =>
  WS.of (ps_ret pe_w) (he.run G H ρ σ _ _ S h fun v G1 d s1 k1 r1 q1 => po.rt v G1 _ d s1 (S.step s1 k1).hid r1 q1)⟩
theorem qs_if {c : Expr} (hc : QT X c tc) (ha : QSs X a t) (hb : QSs X b u) : QS X (.If c a b pos) (dIfS tc t u) := ⟨fun G H ρ σ E D S h po =>
  WS.of (ps_if pt_w pss_w pss_w) (hc.run G H ρ σ _ _ S h fun k G1 s1 k1 q1 => by
    cases k with
    | true => exact ha.run G1 _ ρ σ E D (S.step s1 k1) q1 (po.seq s1)
    | false => exact hb.run G1 _ ρ σ E D (S.step s1 k1) q1 (po.seq s1))⟩
/-- i is a slot -/
theorem slot_lt {K : PySem.W.Frag} {G H : Hp} {ρ : Rho} {σ : St} {i : Nat} {x : Str} {pins : List (Addr × Obj)} {s : Shared} (S : Sim K G H ρ σ) (I : Inv X pins σ H s) (hi : X.N[i]? = some x) : i < ρ.length := by
  rw [S.len, I.len]
  exact (List.getElem?_eq_some_iff.mp hi).1
theorem qs_set {i : Nat} {x : Str} (hN : X.N.Nodup) (he : QE X e te) (hi : X.N[i]? = some x := by rfl) (hx : Loc X.env.scope x := by first | exact .inl rfl | exact .inr rfl) (hs : swapsWith e (some (.Name x pos')) pos.line X.env = pure false := by rfl)
    (hf : X.fn x = true ∨ X.env.scope.names.lookup x = some .local := by first | exact .inl rfl | exact .inr rfl | assumption) : QS X (.Assign [.Name x pos'] e pos) (dSet i te) := ⟨fun G H ρ σ E D S h po pins s I =>
  (WS.of (ps_set hN hi hx pe_w hs hf) (he.run G H ρ σ _ _ S h fun v G1 d s1 k1 r1 q1 => po.nx G1 _ _ _ s1 ((S.step s1 k1).put (slot_lt S I hi) r1) q1)) pins s I⟩
/-- the slot's list is let go: from here on anybody may hold it -/
def dFree (i : Nat) (t : SD) : SD := fun E ρ => match ρ[i]? with
  | some (.own ds) => t E (ρ.set i (.val (.lst ds)))
  | _ => t E ρ
theorem qs_free (i : Nat) (h : QS X st t) : QS X st (dFree i t) := ⟨fun G H ρ σ E D S q po => by
  unfold dFree at q
  cases z : ρ[i]? with
  | none => rw [z] at q; exact h.run G H ρ σ E D S q po
  | some x =>
    rw [z] at q
    cases x with
    | nul => exact h.run G H ρ σ E D S q po
    | val d => exact h.run G H ρ σ E D S q po
    | own ds =>
      obtain ⟨p, xs, gp, hp, r, hs, S1⟩ := S.free z
      exact h.run _ H _ σ E D S1 q (po.seq (same_upd gp))⟩
/-- x = a new list, which x owns -/
def NewL (K : PySem.W.Frag) (G H : Hp) (R : List D → Prop) (Q : VK) : Prop := ∀ p xs ds G', Same G G' → Kp G H G' → lay G H G' p = none → RepAll K G' ds xs → R ds → Q (.ref p) (upd (lay G H G') p (.lst xs))
structure QL (X : Cx) (e : Expr) (t : Rho → (List D → Prop) → Prop) : Prop where
  run : ∀ (G H : Hp) (ρ : Rho) (σ : St) (R : List D → Prop) (Q : VK), Sim X.K G H ρ σ → t ρ R → NewL X.K G H R Q → W X e σ H Q
def dSetO (i : Nat) (t : Rho → (List D → Prop) → Prop) : SD := fun E ρ => t ρ fun ds => E.nx (ρ.set i (.own ds))
theorem qs_own {i : Nat} {x : Str} {tl : Rho → (List D → Prop) → Prop} (hN : X.N.Nodup) (he : QL X e tl) (hi : X.N[i]? = some x := by rfl) (hx : Loc X.env.scope x := by first | exact .inl rfl | exact .inr rfl) (hs : swapsWith e (some (.Name x pos')) pos.line X.env = pure false := by rfl)
    (hf : X.fn x = true ∨ X.env.scope.names.lookup x = some .local := by first | exact .inl rfl | exact .inr rfl | assumption) : QS X (.Assign [.Name x pos'] e pos) (dSetO i tl) := ⟨fun G H ρ σ E D S h po pins s I =>
  (WS.of (ps_set hN hi hx pe_w hs hf) (he.run G H ρ σ _ _ S h fun p xs ds G1 s1 k1 n r q => po.nx G1 _ _ _ s1 ((S.step s1 k1).putOwn (slot_lt S I hi) n r) q)) pins s I⟩
def dLstO (t : AD) : Rho → (List D → Prop) → Prop := fun ρ R => t ρ fun xs => xs.length ≤ sizeLine ∧ R xs
theorem ql_lst {es : List Expr} {at_ : AD} (h : QA X es at_) : QL X (.List es pos) (dLstO at_) := ⟨fun G H ρ σ R Q S q nw =>
  W.of (pe_lst pa_w) (h.run G H ρ σ _ _ S q fun vs G1 ds s1 k1 r1 q1 => ⟨by rw [r1.length]; exact q1.1, fun p n => nw p vs ds G1 s1 k1 n r1 q1.2⟩)⟩
def dListO (t : AD) : Rho → (List D → Prop) → Prop := fun ρ R => t ρ fun xs => match xs with
  | [.lst ds] => R ds
  | [.tup ds] => R ds
  | _ => False
theorem ql_list {es : List Expr} {at_ : AD} {p : Pos} (hg : Gl X "list") (hm : X.mg "list" = none) (ha : QA X (e :: es) at_) (he : starEach (e :: es) X.env = (false, eval e X.env) :: starEach es X.env := by rfl)
    (hpl : (backTo pos (starEach es X.env)).any (·.1) = false := by rfl) : QL X (.Call (.Name "list" p) (e :: es) [] pos) (dListO at_) := ⟨fun G H ρ σ R Q S q nw =>
  W.of (pe_callTy call_list_of hg hm (by decide +kernel) pa_w (by decide) (by decide) he hpl) (ha.run G H ρ σ _ _ S q fun vs G1 ds s1 k1 r1 q1 => by
    have S1 := S.step s1 k1
    match ds, q1 with
    | [.lst ds], q1 =>
      obtain ⟨x, rfl, p, ys, rfl, hp, rp⟩ := one_of r1
      exact ⟨p, ys, rfl, .inl (SqL.of (S1.hid.same _ _ hp)), fun l n => nw l ys ds G1 s1 k1 n rp q1⟩
    | [.tup ds], q1 =>
      obtain ⟨x, rfl, p, ys, rfl, hp, rp⟩ := one_of r1
      exact ⟨p, ys, rfl, .inr (hp.mono S1.hid.same).sq, fun l n => nw l ys ds G1 s1 k1 n rp q1⟩)⟩
/-! the owner's own methods -/
def dAppend (i : Nat) (t : ED) : SD := fun E ρ => t ρ fun d => match ρ[i]? with
  | some (.own ds) => ds.length < sizeLine ∧ E.nx (ρ.set i (.own (ds ++ [d])))
  | _ => False
theorem own_of {i : Nat} {ρ : Rho} {P : List D → Prop} (h : match ρ[i]? with | some (.own ds) => P ds | _ => False) : ∃ ds, ρ[i]? = some (SL.own ds) ∧ P ds := by
  cases q : ρ[i]? with
  | none => rw [q] at h; exact h.elim
  | some x =>
    rw [q] at h
    cases x with
    | nul => exact h.elim
    | val d => exact h.elim
    | own ds => exact ⟨ds, rfl, h⟩
/-- the owner's list while the arguments are asked -/
theorem own_keep {K : PySem.W.Frag} {G H G1 : Hp} {ρ : Rho} {σ : St} {i : Nat} {ds : List D} (S : Sim K G H ρ σ) (e : ρ[i]? = some (SL.own ds)) : ∃ p xs, σ[i]? = some (some (V.ref p)) ∧ SqL K H p xs := by
  obtain ⟨p, xs, a1, a2, _, _⟩ := S.own i ds e
  exact ⟨p, xs, a1, SqL.of a2⟩
theorem qs_append {i : Nat} {x : Str} {apos cpos np : Pos} (ha : QE X e te) (hN : X.N[i]? = some x := by rfl) (hv : Vis X.env.scope x := by first | exact Or.inl rfl | exact Or.inr (Or.inl rfl) | exact Or.inr (Or.inr rfl))
    (hd : (x == ("__debug__" : Str)) = false := by decide) (hcd : (x == ("__classdict__" : Str)) = false := by decide) (hbase : attributeBase (.Name x np) "append" X.env (eval (.Name x np) X.env) = eval (.Name x np) X.env := by rfl)
    (hfew : ((backTo cpos (starEach [e] X.env)).all (fun x => !x.1) && (backToKw cpos (keywordEach [] X.env)).all (fun x => x.1.isSome) && decide ([e].length + ([] : List Keyword).length + (if ([] : List Keyword).isEmpty then 0 else 1) < 30)) = true := by rfl)
    (hline : (apos.endLine == cpos.line) = true := by rfl) (hst : starEach [e] X.env = (false, eval e X.env) :: starEach [] X.env := by rfl) (hpl : (backTo cpos (starEach [] X.env)).any (·.1) = false := by rfl)
    (hs : swapsWith (.Call (.Attribute (.Name x np) "append" apos) [e] [] cpos) none pos.line X.env = pure false := by rfl) : QS X (.Expr (.Call (.Attribute (.Name x np) "append" apos) [e] [] cpos) pos) (fun E ρ => (∃ ds, ρ[i]? = some (SL.own ds)) ∧ dAppend i te E ρ) := ⟨fun G H ρ σ E D S h po => by
  obtain ⟨⟨ds0, e0⟩, h⟩ := h
  obtain ⟨p, xs0, a1, a2⟩ := own_keep (G1 := G) S e0
  refine WS.of (ps_expr (pe_bm PySem.F.plainAttrs_list PySem.F.slot_list_append PySem.F.type_list_append mt_append (pe_var hN hv hd hcd) (pa_cons pe_w pa_nil hst) hbase hfew hline hst hpl) hs) ?_
  refine ⟨.ref p, a1, .inl ⟨rfl, xs0, a2⟩, ?_⟩
  refine ha.run G H ρ σ _ _ S h fun v G1 d s1 k1 r1 q1 => ?_
  obtain ⟨ds, e1, hz, q⟩ := own_of q1
  have S1 := S.step s1 k1
  obtain ⟨p', xs, b1, b2, b3, b4⟩ := S1.own i ds e1
  rw [a1] at b1
  cases b1
  exact ⟨p, xs, v, rfl, rfl, b2, by rw [b4.length]; exact hz, po.nx G1 _ _ _ s1 (S1.mut e1 a1 (b4.app (RepAll.one r1))) q⟩⟩
def dInsert (i : Nat) (tk te : ED) : SD := fun E ρ => (∃ ds, ρ[i]? = some (SL.own ds)) ∧ tk ρ fun k => te ρ fun d => match k with
  | .int k => match ρ[i]? with
    | some (.own ds) => ds.length < sizeLine ∧ 0 ≤ k ∧ k < 2 ^ 63 ∧ E.nx (ρ.set i (.own (ds.take k.toNat ++ [d] ++ ds.drop k.toNat)))
    | _ => False
  | _ => False
theorem qs_insert {i : Nat} {x : Str} {ek : Expr} {tk : ED} {apos cpos np : Pos} (hk : QE X ek tk) (ha : QE X e te) (hN : X.N[i]? = some x := by rfl) (hv : Vis X.env.scope x := by first | exact Or.inl rfl | exact Or.inr (Or.inl rfl) | exact Or.inr (Or.inr rfl))
    (hd : (x == ("__debug__" : Str)) = false := by decide) (hcd : (x == ("__classdict__" : Str)) = false := by decide) (hbase : attributeBase (.Name x np) "insert" X.env (eval (.Name x np) X.env) = eval (.Name x np) X.env := by rfl)
    (hfew : ((backTo cpos (starEach [ek, e] X.env)).all (fun x => !x.1) && (backToKw cpos (keywordEach [] X.env)).all (fun x => x.1.isSome) && decide ([ek, e].length + ([] : List Keyword).length + (if ([] : List Keyword).isEmpty then 0 else 1) < 30)) = true := by rfl)
    (hline : (apos.endLine == cpos.line) = true := by rfl) (hst : starEach [ek, e] X.env = (false, eval ek X.env) :: starEach [e] X.env := by rfl) (hst2 : starEach [e] X.env = (false, eval e X.env) :: starEach [] X.env := by rfl) (hpl : (backTo cpos (starEach [e] X.env)).any (·.1) = false := by rfl)
    (hs : swapsWith (.Call (.Attribute (.Name x np) "insert" apos) [ek, e] [] cpos) none pos.line X.env = pure false := by rfl) : QS X (.Expr (.Call (.Attribute (.Name x np) "insert" apos) [ek, e] [] cpos) pos) (dInsert i tk te) := ⟨fun G H ρ σ E D S h po => by
  obtain ⟨⟨ds0, e0⟩, h⟩ := h
  obtain ⟨p, xs0, a1, a2⟩ := own_keep (G1 := G) S e0
  refine WS.of (ps_expr (pe_bm PySem.F.plainAttrs_list PySem.F.slot_list_insert PySem.F.type_list_insert mt_insert (pe_var hN hv hd hcd) (pa_cons pe_w (pa_cons pe_w pa_nil hst2) hst) hbase hfew hline hst hpl) hs) ?_
  refine ⟨.ref p, a1, .inl ⟨rfl, xs0, a2⟩, ?_⟩
  refine hk.run G H ρ σ _ _ S h fun vk G1 dk s1 k1 r1 q1 => ?_
  have S1 := S.step s1 k1
  refine ha.run G1 _ ρ σ _ _ S1 q1 fun v G2 d s2 k2 r2 q2 => ?_
  have S2 := S1.step s2 k2
  cases dk <;> first | exact q2.elim | skip
  case int k =>
    cases r1
    obtain ⟨ds, e1, hz, h0, h1, q⟩ := own_of q2
    obtain ⟨p', xs, b1, b2, b3, b4⟩ := S2.own i ds e1
    rw [a1] at b1
    cases b1
    refine ⟨p, xs, k, v, rfl, rfl, b2, by rw [b4.length]; exact hz, h0, h1, po.nx G2 _ _ _ (s1.trans s2) (S2.mut e1 a1 ?_) q⟩
    exact ((b4.take _).app (RepAll.one r2)).app (b4.drop _)⟩
/-- x[k] = e, x the owner -/
def dSetIx (i : Nat) (te tk : ED) : SD := fun E ρ => te ρ fun d => (∃ ds, ρ[i]? = some (SL.own ds)) ∧ tk ρ fun k => match k with
  | .int k => match ρ[i]? with
    | some (.own ds) => ∃ j, ixN ds.length k = some j ∧ E.nx (ρ.set i (.own (ds.set j d)))
    | _ => False
  | _ => False
theorem qs_setix {i : Nat} {x : Str} {ek : Expr} {tk : ED} {np : Pos} (ha : QE X e te) (hk : QE X ek tk) (hN : X.N[i]? = some x := by rfl) (hv : Vis X.env.scope x := by first | exact Or.inl rfl | exact Or.inr (Or.inl rfl) | exact Or.inr (Or.inr rfl))
    (hd : (x == ("__debug__" : Str)) = false := by decide) (hcd : (x == ("__classdict__" : Str)) = false := by decide)
    (hasg : ∀ v, assign (.Subscript (.Name x np) ek pos') X.env v = (do let ov ← holding [v] (eval (.Name x np) X.env); let iv ← holding [v, ov] (eval ek X.env); standAt pos'; holding [v, ov, iv] (setItem ov iv v); release [v, ov, iv] []) := by intro _; rfl)
    (hs : swapsWithSole [.Subscript (.Name x np) ek pos'] e pos.line X.env = pure false := by rfl) (hw : swappedStores [.Subscript (.Name x np) ek pos'] e X.env = pure none := by rfl)
    (h1 : (assignEach [.Subscript (.Name x np) ek pos'] X.env).map (·.2) = [assign (.Subscript (.Name x np) ek pos') X.env] := by rfl) : QS X (.Assign [.Subscript (.Name x np) ek pos'] e pos) (dSetIx i te tk) := ⟨fun G H ρ σ E D S h po => by
  refine WS.of (ps_asg pe_w (pg_sub (pe_var hN hv hd hcd) pe_w set_list hasg) hs hw h1) ?_
  refine ha.run G H ρ σ _ _ S h fun v G1 d s1 k1 r1 q1 => ?_
  have S1 := S.step s1 k1
  obtain ⟨⟨ds0, e0⟩, q1⟩ := q1
  obtain ⟨p, xs0, a1, a2⟩ := own_keep (G1 := G1) S1 e0
  refine ⟨.ref p, a1, ?_⟩
  refine hk.run G1 _ ρ σ _ _ S1 q1 fun vk G2 dk s2 k2 r2 q2 => ?_
  have S2 := S1.step s2 k2
  cases dk <;> first | exact q2.elim | skip
  case int k =>
    cases r2
    obtain ⟨ds, e1, j, hj, q⟩ := own_of q2
    obtain ⟨p', xs, b1, b2, b3, b4⟩ := S2.own i ds e1
    rw [a1] at b1
    cases b1
    exact ⟨p, xs, k, j, rfl, rfl, b2, by rw [b4.length]; exact hj, po.nx G2 _ _ _ (s1.trans s2) (S2.mut e1 a1 (b4.set j (Rep.mono s2 d v r1))) q⟩⟩
end
end DL

namespace DL
open PySem PySem.Spec PyProof.Rows
open L2 hiding St

/-! ### targets -/
abbrev RP := PySem.W.Frag → Hp → D → V → Prop
/-- as Rep, of a tuple no more than its items -/
def WRep : RP := fun K G d v => match d with
  | .tup ds => ∃ a xs, v = .ref a ∧ SqT K G a xs ∧ RepAll K G ds xs
  | d => Rep K G d v
theorem Rep.weak {K : PySem.W.Frag} {G : Hp} {d : D} {v : V} (r : Rep K G d v) : WRep K G d v := by
  cases d <;> first | exact r | skip
  obtain ⟨a, xs, e, h, q⟩ := r
  exact ⟨a, xs, e, h.sq, q⟩
def WG (X : Cx) (tg : Expr) : TG := fun v σ H Q => ∀ (pins : List (Addr × Obj)) (s : Shared) (u : Value), Inv X pins σ H s → RelV v u → wpAny (model X.prog X.w) X.A (assign tg X.env u) (fun _ s' => ∃ σ' H', Inv X pins σ' H' s' ∧ Q σ' H') X.xe s
def WGs (X : Cx) (ts : List Expr) : TGs := fun vs σ H Q => ∀ (pins : List (Addr × Obj)) (s : Shared) (us : List Value), Inv X pins σ H s → Vals vs us → wpAny (model X.prog X.w) X.A (assignInOrder ((assignEach ts X.env).map (·.2)) us) (fun _ s' => ∃ σ' H', Inv X pins σ' H' s' ∧ Q σ' H') X.xe s
/-- only these slots were stored -/
def Only (ts : List Nat) (σ σ' : St) : Prop := σ'.length = σ.length ∧ ∀ j, j ∉ ts → σ'[j]? = σ[j]?
structure QG (X : Cx) (P : RP) (tg : Expr) (g : GD) (ts : List Nat) : Prop where
  run : ∀ (G H : Hp) (ρ : Rho) (σ : St) (d : D) (v : V) (R : Rho → Prop) (Q : St → Hp → Prop), Sim X.K G H ρ σ → P X.K G d v → g d ρ R → (∀ ρ' σ', Sim X.K G H ρ' σ' → Only ts σ σ' → R ρ' → Q σ' H) → WG X tg v σ H Q
structure QGs (X : Cx) (ts : List Expr) (g : List D → Rho → (Rho → Prop) → Prop) (is : List Nat) : Prop where
  run : ∀ (G H : Hp) (ρ : Rho) (σ : St) (ds : List D) (vs : List V) (R : Rho → Prop) (Q : St → Hp → Prop), Sim X.K G H ρ σ → RepAll X.K G ds vs → g ds ρ R → (∀ ρ' σ', Sim X.K G H ρ' σ' → Only is σ σ' → R ρ' → Q σ' H) → WGs X ts vs σ H Q
section
variable {X : Cx} {tg e : Expr} {es : List Expr} {g : GD} {gs : List D → Rho → (Rho → Prop) → Prop} {pos : Pos} {is js : List Nat}
theorem pg_w : PG X tg (WG X tg) := ⟨fun pins s σ H v u Q I r h => h pins s u I r⟩
theorem pgs_w : PGs X es (WGs X es) := ⟨fun pins s σ H vs us Q I r h => h pins s us I r⟩
theorem QG.str (h : QG X WRep tg g is) : QG X Rep tg g is := ⟨fun G H ρ σ d v R Q S r => h.run G H ρ σ d v R Q S r.weak⟩
theorem qg_name {i : Nat} {x : Str} (hN : X.N.Nodup) (hi : X.N[i]? = some x := by rfl) (hx : Loc X.env.scope x := by first | exact .inl rfl | exact .inr rfl) (hf : X.fn x = true ∨ X.env.scope.names.lookup x = some .local := by first | exact .inl rfl | exact .inr rfl | assumption) :
    QG X Rep (.Name x pos) (gdName i) [i] := ⟨fun G H ρ σ d v R Q S r h q pins s u I ru => (pg_name hN hi hx hf).run pins s σ H v u Q I ru (q _ _ (S.put (slot_lt S I hi) r) ⟨List.length_set, fun j hj => List.getElem?_set_ne (fun z => hj (by rw [z]; exact List.mem_singleton_self j))⟩ h)⟩
theorem qgs_nil : QGs X [] gdNil [] := ⟨fun G H ρ σ ds vs R Q S r h q pins s us I ru => by
  cases ds with
  | nil => cases r; exact pgs_nil.run pins s σ H [] us Q I ru ⟨rfl, q ρ σ S ⟨rfl, fun _ _ => rfl⟩ h⟩
  | cons d ds => exact h.elim⟩
theorem qgs_cons (h1 : QG X Rep e g is) (h2 : QGs X es gs js) (hs : (assignEach (e :: es) X.env).map (·.2) = assign e X.env :: (assignEach es X.env).map (·.2) := by rfl) : QGs X (e :: es) (gdCons g gs) (is ++ js) := ⟨fun G H ρ σ ds vs R Q S r h q pins s us I ru => by
  cases ds with
  | nil => exact h.elim
  | cons d ds =>
    obtain ⟨v, vr, rfl, rd, rr⟩ := r
    refine (pgs_cons pg_w pgs_w hs).run pins s σ H _ us Q I ru ⟨v, vr, rfl, ?_⟩
    exact h1.run G H ρ σ d v _ _ S rd h fun ρ1 σ1 S1 o1 q1 => h2.run G H ρ1 σ1 ds vr R Q S1 rr q1 fun ρ2 σ2 S2 o2 q2 => q ρ2 σ2 S2 ⟨o2.1.trans o1.1, fun j hj => (o2.2 j fun z => hj (List.mem_append_right _ z)).trans (o1.2 j fun z => hj (List.mem_append_left _ z))⟩ q2⟩
theorem qg_tup {k : Nat} {n : Nat} (hc : X.calm = true) (h : QGs X es gs is) (hn : (assignEach es X.env).length = n := by rfl) (hst : (assignEach es X.env).findIdx? (·.1) = none := by rfl) : QG X WRep (.Tuple es k pos) (gdTup n gs) is := ⟨fun G H ρ σ d v R Q S r q po pins s u I ru => by
  cases d <;> first | exact q.elim | skip
  case tup ds =>
    obtain ⟨a, xs, rfl, hs, rr⟩ := r
    refine (pg_tup hc pgs_w hn hst).run pins s σ H _ u Q I ru ⟨a, xs, rfl, ?_, by rw [rr.length]; exact q.1, h.run G H ρ σ ds xs R Q S rr q.2 po⟩
    rcases hs with (z | ⟨o, z⟩) | z
    · exact .inl (.inl (S.hid.same _ _ z))
    · exact .inl (.inr ⟨o, S.hid.same _ _ z⟩)
    · exact .inr z⟩
theorem qs_asg {te : ED} (he : QE X e te) (hg : QG X Rep tg g is) (hs : swapsWithSole [tg] e pos.line X.env = pure false := by rfl) (hw : swappedStores [tg] e X.env = pure none := by rfl) (h1 : (assignEach [tg] X.env).map (·.2) = [assign tg X.env] := by rfl) :
    QS X (.Assign [tg] e pos) (dAsg te g) := ⟨fun G H ρ σ E D S h po =>
  WS.of (ps_asg pe_w pg_w hs hw h1) (he.run G H ρ σ _ _ S h fun v G1 d s1 k1 r1 q1 => hg.run G1 _ ρ σ d v _ _ (S.step s1 k1) r1 q1 fun ρ' σ' S' _ q => po.nx G1 _ ρ' σ' s1 S' q)⟩
end

/-! ### what is walked -/
def IterOk (K : PySem.W.Frag) (P : RP) (G0 : Hp) (J : It) (ds : List D) : Prop :=
  (∀ i G H, Same G0 G → Hid G H → i = ds.length → J.stop i H) ∧
  ∀ i d G H, Same G0 G → Hid G H → ds[i]? = some d → J.go i H ∧ ∀ x H', J.yld i H x H' → ∃ G', Same G G' ∧ Kp G H G' ∧ H' = lay G H G' ∧ P K G' d x
def WI (X : Cx) (tg iter : Expr) : TI := fun σ H R => ∀ (pins : List (Addr × Obj)) (s : Shared), Inv X pins σ H s → wpAny (model X.prog X.w) X.A (eval iter X.env) (fun v s1 => wpAny (model X.prog X.w) X.A (pyIter v) (PIE X pins σ tg R) X.xe s1) X.xe s
abbrev ID := Rho → (List D → Prop) → Prop
structure QI (X : Cx) (P : RP) (tg iter : Expr) (t : ID) : Prop where
  run : ∀ (G H : Hp) (ρ : Rho) (σ : St) (R : List D → Prop) (Q : It → Hp → Prop), Sim X.K G H ρ σ → t ρ R → (∀ J G' ds, Same G G' → Kp G H G' → IterOk X.K P G' J ds → R ds → Q J (lay G H G')) → WI X tg iter σ H Q
section
variable {X : Cx} {tg iter e : Expr} {es : List Expr} {te : ED} {at_ : AD} {pos p : Pos}
theorem pi_w : PI X tg iter (WI X tg iter) := ⟨fun pins s σ H R I h => h pins s I⟩
theorem WI.of {t : TI} {σ : St} {H : Hp} {R : It → Hp → Prop} (h : PI X tg iter t) (q : t σ H R) : WI X tg iter σ H R := fun pins s I => h.run pins s σ H R I q
theorem QI.or {P : RP} {t u : ID} (h : QI X P tg iter t) (k : QI X P tg iter u) : QI X P tg iter (fun ρ R => t ρ R ∨ u ρ R) := ⟨fun G H ρ σ R Q S q po => by
  rcases q with q | q
  · exact h.run G H ρ σ R Q S q po
  · exact k.run G H ρ σ R Q S q po⟩
theorem QI.weak {t : ID} (h : QI X Rep tg iter t) : QI X WRep tg iter t := ⟨fun G H ρ σ R Q S q po => h.run G H ρ σ R Q S q fun J G' ds s k ok r => po J G' ds s k ⟨ok.1, fun i d G H a b c => by
  obtain ⟨h1, h2⟩ := ok.2 i d G H a b c
  refine ⟨h1, fun x H' y => ?_⟩
  obtain ⟨G', b1, b2, b3, b4⟩ := h2 x H' y
  exact ⟨G', b1, b2, b3, b4.weak⟩⟩ r⟩
theorem here_ok {K : PySem.W.Frag} {P : RP} {G H : Hp} {d : D} {x : V} (h : Hid G H) (r : P K G d x) : ∃ G', Same G G' ∧ Kp G H G' ∧ H = lay G H G' ∧ P K G' d x := ⟨G, Same.refl G, Kp.self, (lay_self h.same).symm, r⟩
def dItL (t : ED) : ID := fun ρ R => t ρ fun d => match d with
  | .lst ds => R ds
  | _ => False
def dItT (t : ED) : ID := fun ρ R => t ρ fun d => match d with
  | .tup ds => R ds
  | _ => False
def signs (z : Str) : List D := z.cps.toList.map fun c => D.str ⟨#[c]⟩
def dItS (t : ED) : ID := fun ρ R => t ρ fun d => match d with
  | .str z => R (signs z)
  | _ => False
theorem ok_lst {K : PySem.W.Frag} {G : Hp} {a : Addr} {xs : List V} {ds : List D} (hp : G a = some (.lst xs)) (rp : RepAll K G ds xs) : IterOk K Rep G (Itl K a) ds := by
  refine ⟨fun i G1 H1 s h hl => ⟨xs, SqL.of (h.same _ _ (s _ _ hp)), by rw [rp.length]; omega⟩, fun i d G1 H1 s h hd => ?_⟩
  obtain ⟨v, hv, rv⟩ := rp.get hd
  have sq : SqL K H1 a xs := SqL.of (h.same _ _ (s _ _ hp))
  refine ⟨⟨xs, v, sq, hv⟩, fun x H' y => ?_⟩
  obtain ⟨rfl, y⟩ := y
  have e := y xs sq
  rw [hv] at e
  cases e
  exact here_ok h (Rep.mono s d v rv)
theorem ok_tup {K : PySem.W.Frag} {G : Hp} {a : Addr} {xs : List V} {ds : List D} (hp : TupD K G a xs) (rp : RepAll K G ds xs) : IterOk K Rep G (Itt K a) ds := by
  refine ⟨fun i G1 H1 s h hl => ⟨xs, ((hp.mono s).mono h.same).sq, by rw [rp.length]; omega⟩, fun i d G1 H1 s h hd => ?_⟩
  obtain ⟨v, hv, rv⟩ := rp.get hd
  have sq : SqT K H1 a xs := ((hp.mono s).mono h.same).sq
  refine ⟨⟨xs, v, sq, hv⟩, fun x H' y => ?_⟩
  obtain ⟨rfl, y⟩ := y
  have e := y xs sq
  rw [hv] at e
  cases e
  exact here_ok h (Rep.mono s d v rv)
theorem qi_lst (he : QE X e te) : QI X Rep tg e (dItL te) := ⟨fun G H ρ σ R Q S h po =>
  WI.of (pi_list pe_w) (he.run G H ρ σ _ _ S h fun v G1 d s1 k1 r1 q1 => by
    cases d <;> first | exact q1.elim | skip
    case lst ds =>
      obtain ⟨a, xs, rfl, hp, rp⟩ := r1
      exact ⟨a, rfl, ⟨xs, SqL.of ((S.step s1 k1).hid.same _ _ hp)⟩, po _ G1 ds s1 k1 (ok_lst hp rp) q1⟩)⟩
theorem qi_tup (he : QE X e te) : QI X Rep tg e (dItT te) := ⟨fun G H ρ σ R Q S h po =>
  WI.of (pi_tup pe_w) (he.run G H ρ σ _ _ S h fun v G1 d s1 k1 r1 q1 => by
    cases d <;> first | exact q1.elim | skip
    case tup ds =>
      obtain ⟨a, xs, rfl, hp, rp⟩ := r1
      exact ⟨a, rfl, ⟨xs, (hp.mono (S.step s1 k1).hid.same).sq⟩, po _ G1 ds s1 k1 (ok_tup hp rp) q1⟩)⟩
theorem qi_str (he : QE X e te) : QI X Rep tg e (dItS te) := ⟨fun G H ρ σ R Q S h po =>
  WI.of (pi_str pe_w) (he.run G H ρ σ _ _ S h fun v G1 d s1 k1 r1 q1 => by
    cases d <;> first | exact q1.elim | skip
    case str z =>
      cases r1
      refine ⟨z, rfl, po _ G1 (signs z) s1 k1 ⟨fun i G2 H2 s h hl => ?_, fun i d G2 H2 s h hd => ?_⟩ q1⟩
      · show z.cps.size ≤ i
        have e : (signs z).length = z.cps.size := by unfold signs; rw [List.length_map, Array.length_toList]
        omega
      · unfold signs at hd
        rw [List.getElem?_map, Array.getElem?_toList] at hd
        cases q : z.cps[i]? with
        | none => rw [q] at hd; cases hd
        | some c =>
          rw [q] at hd
          cases hd
          refine ⟨(Array.getElem?_eq_some_iff.mp q).1, fun x H' y => ?_⟩
          obtain ⟨rfl, c', e1, e2⟩ := y
          rw [q] at e1
          cases e1
          subst e2
          exact here_ok (d := .str ⟨#[c]⟩) h rfl)⟩
/-- a list or a tuple or a text -/
def dItA (t : ED) : ID := fun ρ R => dItL t ρ R ∨ dItT t ρ R ∨ dItS t ρ R
theorem qi_any (he : QE X e te) : QI X Rep tg e (dItA te) := (qi_lst he).or ((qi_tup he).or (qi_str he))
def rangeD (lo : Int) (n : Nat) : List D := (List.range n).map fun (i : Nat) => D.int (lo + (i : Int))
theorem ok_range {K : PySem.W.Frag} {G : Hp} (lo : Int) (n : Nat) : IterOk K Rep G (Itr lo n) (rangeD lo n) := by
  have hl : (rangeD lo n).length = n := by unfold rangeD; rw [List.length_map, List.length_range]
  refine ⟨fun i G1 H1 s h hi => by rw [hl] at hi; exact Nat.le_of_eq hi.symm, fun i d G1 H1 s h hd => ?_⟩
  unfold rangeD at hd
  rw [List.getElem?_map] at hd
  cases q : (List.range n)[i]? with
  | none => rw [q] at hd; cases hd
  | some j =>
    rw [q] at hd
    cases hd
    obtain ⟨h1, h2⟩ := List.getElem?_eq_some_iff.mp q
    rw [List.getElem_range] at h2
    subst h2
    rw [List.length_range] at h1
    refine ⟨h1, fun x H' y => ?_⟩
    obtain ⟨rfl, rfl⟩ := y
    exact here_ok (d := .int (lo + i)) h rfl
def dRange1 (t : AD) : ID := fun ρ R => t ρ fun ds => match ds with
  | [.int j] => -(2 ^ 62) ≤ j ∧ j < 2 ^ 62 ∧ R (rangeD 0 j.toNat)
  | _ => False
theorem qi_range1 (hg : Gl X "range") (hm : X.mg "range" = none) (ha : QA X [e] at_) (hs : starEach [e] X.env = [(false, eval e X.env)] := by rfl) : QI X Rep tg (.Call (.Name "range" p) [e] [] pos) (dRange1 at_) := ⟨fun G H ρ σ R Q S h po =>
  WI.of (pi_range1 hg hm pa_w hs) (ha.run G H ρ σ _ _ S h fun vs G1 ds s1 k1 r1 q1 => by
    match ds, q1 with
    | [.int j], q1 =>
      obtain ⟨x, rfl, e⟩ := one_of r1
      cases e
      exact ⟨j, rfl, q1.1, q1.2.1, po _ G1 _ s1 k1 (ok_range 0 _) q1.2.2⟩)⟩
def dRange2 (t : AD) : ID := fun ρ R => t ρ fun ds => match ds with
  | [.int i, .int j] => (-(2 ^ 62) ≤ i ∧ i < 2 ^ 62 ∧ -(2 ^ 62) ≤ j ∧ j < 2 ^ 62) ∧ R (rangeD i (j - i).toNat)
  | _ => False
theorem qi_range2 {e2 : Expr} (hg : Gl X "range") (hm : X.mg "range" = none) (ha : QA X [e, e2] at_) (hs : starEach [e, e2] X.env = [(false, eval e X.env), (false, eval e2 X.env)] := by rfl) (hs2 : starEach [e2] X.env = [(false, eval e2 X.env)] := by rfl) :
    QI X Rep tg (.Call (.Name "range" p) [e, e2] [] pos) (dRange2 at_) := ⟨fun G H ρ σ R Q S h po =>
  WI.of (pi_range2 hg hm pa_w hs hs2) (ha.run G H ρ σ _ _ S h fun vs G1 ds s1 k1 r1 q1 => by
    match ds, q1 with
    | [.int i, .int j], q1 =>
      obtain ⟨x, y, rfl, e1, e2⟩ := two_of r1
      cases e1; cases e2
      exact ⟨i, j, rfl, q1.1, po _ G1 _ s1 k1 (ok_range i _) q1.2⟩)⟩
/-- pairs, each a new tuple -/
theorem pair_ok {K : PySem.W.Frag} {G H : Hp} {T : Addr} {x y : V} {a b : D} (h : Hid G H) (n : H T = none) (ra : Rep K G a x) (rb : Rep K G b y) : ∃ G', Same G G' ∧ Kp G H G' ∧ upd H T (.tup [x, y]) = lay G H G' ∧ WRep K G' (.tup [a, b]) (.ref T) := by
  have e := lay_self h.same
  have n' : lay G H G T = none := by rw [e]; exact n
  have sm := same_upd (o := .tup [x, y]) (h.same.free n)
  refine ⟨upd G T (.tup [x, y]), sm, Kp.self.upd n', ?_, T, [x, y], rfl, SqT.of upd_same, ⟨x, [y], rfl, Rep.mono sm a x ra, ⟨y, [], rfl, Rep.mono sm b y rb, rfl⟩⟩⟩
  rw [← lay_upd n', e]
def enumD : Nat → List D → List D
  | _, [] => []
  | n, d :: ds => .tup [.int n, d] :: enumD (n + 1) ds
theorem enumD_len : ∀ (n : Nat) (ds : List D), (enumD n ds).length = ds.length
  | _, [] => rfl
  | n, d :: ds => by rw [enumD, List.length_cons, List.length_cons, enumD_len]
theorem enumD_get : ∀ (ds : List D) (n i : Nat), (enumD n ds)[i]? = (ds[i]?).map fun d => D.tup [.int ((n + i : Nat) : Int), d]
  | [], n, i => by simp [enumD]
  | d :: ds, n, 0 => by simp [enumD]
  | d :: ds, n, i + 1 => by
    rw [enumD, List.getElem?_cons_succ, List.getElem?_cons_succ, enumD_get ds (n + 1) i, show n + 1 + i = n + (i + 1) by omega]
def dEnum (t : AD) : ID := fun ρ R => t ρ fun ds => match ds with
  | [.lst ds] => R (enumD 0 ds)
  | _ => False
theorem qi_enum {elts : List Expr} {kk : Nat} {tpos : Pos} (hg : Gl X "enumerate") (hm : X.mg "enumerate" = none) (ha : QA X [e] at_) (hs : starEach [e] X.env = [(false, eval e X.env)] := by rfl) : QI X WRep (.Tuple elts kk tpos) (.Call (.Name "enumerate" p) [e] [] pos) (dEnum at_) := ⟨fun G H ρ σ R Q S h po =>
  WI.of (pi_enum hg hm pa_w hs) (ha.run G H ρ σ _ _ S h fun vs G1 ds s1 k1 r1 q1 => by
    match ds, q1 with
    | [.lst ds], q1 =>
      obtain ⟨x, rfl, a, xs, rfl, hp, rp⟩ := one_of r1
      refine ⟨a, xs, rfl, SqL.of ((S.step s1 k1).hid.same _ _ hp), po _ G1 _ s1 k1 ⟨fun i G2 H2 s h hl => ?_, fun i d G2 H2 s h hd => ?_⟩ q1⟩
      · rw [enumD_len] at hl
        exact ⟨xs, SqL.of (h.same _ _ (s _ _ hp)), by rw [rp.length]; omega⟩
      · rw [enumD_get] at hd
        cases q : ds[i]? with
        | none => rw [q] at hd; cases hd
        | some c =>
          rw [q] at hd
          cases hd
          obtain ⟨v, hv, rv⟩ := rp.get q
          have sq : SqL X.K H2 a xs := SqL.of (h.same _ _ (s _ _ hp))
          refine ⟨⟨xs, v, sq, hv⟩, fun x H' y => ?_⟩
          obtain ⟨T, w, rfl, n, rfl, y⟩ := y
          have e := y xs sq
          rw [hv] at e
          cases e
          have z := pair_ok (a := .int ((0 + i : Nat) : Int)) (x := .int (i : Nat)) h n (by rw [Nat.zero_add]; rfl) (Rep.mono s c v rv)
          exact z)⟩
def zipD : List D → List D → List D
  | a :: as, b :: bs => .tup [a, b] :: zipD as bs
  | _, _ => []
theorem zipD_get : ∀ (as bs : List D) (i : Nat) (d : D), (zipD as bs)[i]? = some d → ∃ a b, as[i]? = some a ∧ bs[i]? = some b ∧ d = .tup [a, b]
  | [], _, i, d, h => by simp [zipD] at h
  | _ :: _, [], i, d, h => by simp [zipD] at h
  | a :: as, b :: bs, 0, d, h => by simp [zipD] at h; exact ⟨a, b, rfl, rfl, h.symm⟩
  | a :: as, b :: bs, i + 1, d, h => by
    rw [zipD, List.getElem?_cons_succ] at h
    exact zipD_get as bs i d h
theorem zipD_len : ∀ (as bs : List D), (zipD as bs).length = min as.length bs.length
  | [], _ => by simp [zipD]
  | _ :: _, [] => by simp [zipD]
  | a :: as, b :: bs => by rw [zipD, List.length_cons, List.length_cons, List.length_cons, zipD_len]; omega
def dZip (t : AD) : ID := fun ρ R => t ρ fun ds => match ds with
  | [.lst as, .lst bs] => R (zipD as bs)
  | _ => False
theorem qi_zip {e2 : Expr} {elts : List Expr} {kk : Nat} {tpos : Pos} (hg : Gl X "zip") (hm : X.mg "zip" = none) (ha : QA X [e, e2] at_) (hs : starEach [e, e2] X.env = (false, eval e X.env) :: starEach [e2] X.env := by rfl) (hpl : (backTo pos (starEach [e2] X.env)).any (·.1) = false := by rfl) :
    QI X WRep (.Tuple elts kk tpos) (.Call (.Name "zip" p) [e, e2] [] pos) (dZip at_) := ⟨fun G H ρ σ R Q S h po =>
  WI.of (pi_zip hg hm pa_w hs hpl) (ha.run G H ρ σ _ _ S h fun vs G1 ds s1 k1 r1 q1 => by
    match ds, q1 with
    | [.lst as, .lst bs], q1 =>
      obtain ⟨x, y, rfl, ⟨a, xs, rfl, hp, rp⟩, ⟨b, ys, rfl, hq, rq⟩⟩ := two_of r1
      have sm := (S.step s1 k1).hid.same
      refine ⟨a, b, xs, ys, rfl, SqL.of (sm _ _ hp), SqL.of (sm _ _ hq), po _ G1 _ s1 k1 ⟨fun i G2 H2 s h hl => ?_, fun i d G2 H2 s h hd => ?_⟩ q1⟩
      · rw [zipD_len] at hl
        refine ⟨xs, ys, SqL.of (h.same _ _ (s _ _ hp)), SqL.of (h.same _ _ (s _ _ hq)), ?_⟩
        rw [rp.length, rq.length]
        omega
      · obtain ⟨c, d', e1, e2, rfl⟩ := zipD_get as bs i d hd
        obtain ⟨v, hv, rv⟩ := rp.get e1
        obtain ⟨w, hw, rw'⟩ := rq.get e2
        have sq1 : SqL X.K H2 a xs := SqL.of (h.same _ _ (s _ _ hp))
        have sq2 : SqL X.K H2 b ys := SqL.of (h.same _ _ (s _ _ hq))
        refine ⟨⟨xs, ys, v, w, sq1, sq2, hv, hw⟩, fun x H' y => ?_⟩
        obtain ⟨T, x1, x2, rfl, n, rfl, y1, y2⟩ := y
        have e3 := y1 xs sq1
        have e4 := y2 ys sq2
        rw [hv] at e3
        rw [hw] at e4
        cases e3; cases e4
        exact pair_ok h n (Rep.mono s c v rv) (Rep.mono s d' w rw'))⟩
end

/-! ### for, while -/
def dForGo (g : GD) (tb : SD) (E : EndsD) : List D → Rho → Prop
  | [], ρ => E.nx ρ
  | d :: ds, ρ => g d ρ fun ρ1 => tb { nx := dForGo g tb E ds, ct := dForGo g tb E ds, bk := E.nx, rt := E.rt } ρ1
def dFor (ti : ID) (g : GD) (tb : SD) : SD := fun E ρ => ti ρ fun ds => dForGo g tb E ds ρ
def dWhile (tc : TD) (tb : SD) : SD := fun E ρ => ∃ W : Nat → Rho → Prop, (∃ m, W m ρ) ∧ ∀ m ρ, W m ρ → tc ρ fun b => if b = true then tb { nx := fun ρ' => ∃ m', m' < m ∧ W m' ρ', ct := fun ρ' => ∃ m', m' < m ∧ W m' ρ', bk := E.nx, rt := E.rt } ρ else E.nx ρ
section
variable {X : Cx} {tg iter c : Expr} {body : List Stmt} {ti : ID} {g : GD} {tb : SD} {tc : TD} {P : RP} {pos : Pos} {is : List Nat}
theorem qs_for (hp : PassesOwn (model X.prog X.w) X.A X.env X.xe) (hc : X.calm = true) (hi : QI X P tg iter ti) (hg : QG X P tg g is) (hb : QSs X body tb) (hs : ∀ x, foldedSetIterable iter X.env x = pure x := by intro _; rfl) : QS X (.For tg iter body [] pos) (dFor ti g tb) := ⟨fun G H ρ σ E D S h po => by
  refine WS.of (ps_for hp hc pi_w pg_w pss_w hs) ?_
  refine hi.run G H ρ σ _ _ S h fun J G1 ds s1 k1 ok q1 => ?_
  refine ⟨fun i m σ' H' => m = ds.length - i ∧ i ≤ ds.length ∧ ∃ G' ρ', Same G1 G' ∧ Sim X.K G' H' ρ' σ' ∧ dForGo g tb E (ds.drop i) ρ', ⟨_, rfl, Nat.zero_le _, G1, ρ, Same.refl G1, S.step s1 k1, q1⟩, ?_⟩
  rintro i m σ2 H2 ⟨rfl, hle, G2, ρ2, s2, S2, q2⟩
  by_cases hi : i < ds.length
  · right
    have hd : ds[i]? = some ds[i] := List.getElem?_eq_getElem hi
    obtain ⟨go, yl⟩ := ok.2 i _ G2 H2 s2 S2.hid hd
    rw [List.drop_eq_getElem_cons hi] at q2
    refine ⟨go, fun σ' H' => ∃ G' ρ', Same G1 G' ∧ Sim X.K G' H' ρ' σ' ∧ dForGo g tb E (ds.drop (i + 1)) ρ', ?_, ?_⟩
    · rintro σ' H' ⟨G', ρ', a, b, c⟩
      exact ⟨ds.length - (i + 1), by omega, rfl, hi, G', ρ', a, b, c⟩
    · intro x H' y
      obtain ⟨G3, s3, k3, rfl, rx⟩ := yl x H' y
      have S3 := S2.step s3 k3
      refine hg.run G3 _ ρ2 σ2 _ x _ _ S3 rx q2 fun ρ' σ' S' _ q' => ?_
      refine hb.run G3 _ ρ' σ' _ _ S' q' ⟨fun G' H' ρ' σ' a b c => ⟨G', ρ', (s2.trans s3).trans a, b, c⟩, fun v G' H' d a => po.rt v G' H' d (((s1.trans s2).trans s3).trans a), fun G' H' ρ' σ' a => po.nx G' H' ρ' σ' (((s1.trans s2).trans s3).trans a), fun G' H' ρ' σ' a b c => ⟨G', ρ', (s2.trans s3).trans a, b, c⟩⟩
  · left
    have e : ds.drop i = [] := List.drop_eq_nil_of_le (by omega)
    rw [e] at q2
    exact ⟨ok.1 i G2 H2 s2 S2.hid (by omega), po.nx G2 H2 ρ2 σ2 (s1.trans s2) S2 q2⟩⟩
theorem qs_while (hp : PassesOwn (model X.prog X.w) X.A X.env X.xe) (hc : QT X c tc) (hb : QSs X body tb) : QS X (.While c body [] pos) (dWhile tc tb) := ⟨fun G H ρ σ E D S h po => by
  obtain ⟨W, ⟨m0, w0⟩, turn⟩ := h
  refine WS.of (ps_while hp pt_w pss_w) ⟨fun m σ' H' => ∃ G' ρ', Same G G' ∧ Sim X.K G' H' ρ' σ' ∧ W m ρ', ⟨m0, G, ρ, Same.refl G, S, w0⟩, ?_⟩
  rintro m σ2 H2 ⟨G2, ρ2, s2, S2, w2⟩
  refine hc.run G2 H2 ρ2 σ2 _ _ S2 (turn m ρ2 w2) fun b G3 s3 k3 q3 => ?_
  have S3 := S2.step s3 k3
  have s13 := s2.trans s3
  cases b with
  | false => exact po.nx G3 _ ρ2 σ2 s13 S3 q3
  | true =>
    refine ⟨fun σ' H' => ∃ m' G' ρ', m' < m ∧ Same G G' ∧ Sim X.K G' H' ρ' σ' ∧ W m' ρ', ?_, ?_⟩
    · rintro σ' H' ⟨m', G', ρ', hl, a, b, c⟩
      exact ⟨m', hl, G', ρ', a, b, c⟩
    · exact hb.run G3 _ ρ2 σ2 _ _ S3 q3 ⟨fun G' H' ρ' σ' a b ⟨m', hl, w'⟩ => ⟨m', G', ρ', hl, s13.trans a, b, w'⟩, fun v G' H' d a => po.rt v G' H' d (s13.trans a), fun G' H' ρ' σ' a => po.nx G' H' ρ' σ' (s13.trans a), fun G' H' ρ' σ' a b ⟨m', hl, w'⟩ => ⟨m', G', ρ', hl, s13.trans a, b, w'⟩⟩⟩
end
end DL

namespace DL
open PySem PySem.Spec PyProof.Rows
open L2 hiding St

/-! ### list comprehensions -/
/-- a list is made that nobody sees yet -/
theorem Sim.add {K : PySem.W.Frag} {G H : Hp} {ρ : Rho} {σ : St} {p : Addr} {xs : List V} (S : Sim K G H ρ σ) (hn : H p = none) : Sim K G (upd H p (.lst xs)) ρ σ := by
  have gp : G p = none := S.hid.same.free hn
  refine ⟨⟨fun b o e => by rw [upd_ne (ne_of_none e gp)]; exact S.hid.same b o e, fun b u n q => ?_⟩, S.len, S.val, fun j es q => ?_, S.inj⟩
  · by_cases hb : b = p
    · rw [hb, upd_same] at q; cases q; exact ⟨xs, rfl⟩
    · rw [upd_ne hb] at q; exact S.hid.lst b u n q
  · obtain ⟨p', ys, a1, a2, a3, a4⟩ := S.own j es q
    exact ⟨p', ys, a1, by rw [upd_ne (ne_of_none a2 hn)]; exact a2, a3, a4⟩
theorem lay_hide {G0 H0 G G' : Hp} {p : Addr} {u : HO} (k : Kp G0 H0 G) (n : lay G0 H0 G p = none) (k' : Kp G (upd (lay G0 H0 G) p u) G') :
    lay G (upd (lay G0 H0 G) p u) G' = upd (lay G0 H0 G') p u ∧ Kp G0 H0 G' ∧ lay G0 H0 G' p = none := by
  have gp := (lay_free n).1
  have kk : Kp G0 H0 G' := fun b o a c => by
    have hb : b ≠ p := fun z => by
      rw [z] at a c
      rw [(lay_free n).2 a] at c
      cases c
    exact k' b o (k b o a c) (by rw [upd_ne hb]; exact lay_hid a c)
  have np : lay G0 H0 G' p = none := by
    have g'p := k' p u gp upd_same
    cases q : G0 p with
    | some o => rw [lay_some q]; exact g'p
    | none => rw [lay_none ((lay_free n).2 q)]; exact g'p
  refine ⟨?_, kk, np⟩
  funext b
  by_cases hb : b = p
  · subst hb
    rw [lay_hid gp upd_same, upd_same]
  · rw [upd_ne hb]
    cases g : G b with
    | some o =>
      rw [lay_some g]
      cases q : G0 b with
      | some o' => rw [lay_some q]
      | none =>
        cases h : H0 b with
        | some o' => rw [k b o' q h] at g; cases g
        | none => rw [lay_none h]
    | none =>
      cases q : G0 b with
      | some o' => rw [lay_none (by rw [upd_ne hb, lay_some q]; exact g), lay_some q]
      | none =>
        cases h : H0 b with
        | some o' => rw [lay_hid g (by rw [upd_ne hb]; exact lay_hid q h), lay_hid q h]
        | none => rw [lay_none (by rw [upd_ne hb, lay_none h]; exact g), lay_none h]
def wipeD (ρ : Rho) : List Nat → Rho
  | [] => ρ
  | v :: vs => (wipeD ρ vs).set v .nul
theorem Sim.wipe {K : PySem.W.Frag} {G H : Hp} {ρ : Rho} {σ : St} (S : Sim K G H ρ σ) : ∀ vs : List Nat, Sim K G H (wipeD ρ vs) (L2.wipe σ vs)
  | [] => S
  | v :: vs => (S.wipe vs).nul v
theorem wipe_get (σ : St) : ∀ (vs : List Nat) (j : Nat), (L2.wipe σ vs)[j]? = if j ∈ vs then (if j < σ.length then some none else none) else σ[j]?
  | [], j => by simp [L2.wipe]
  | v :: vs, j => by
    have len : (L2.wipe σ vs).length = σ.length := wipe_length σ vs
    rw [L2.wipe, List.getElem?_set, len]
    by_cases h : v = j
    · subst h
      rw [if_pos rfl, if_pos List.mem_cons_self]
    · rw [if_neg h, wipe_get σ vs j]
      by_cases h2 : j ∈ vs
      · rw [if_pos h2, if_pos (List.mem_cons_of_mem _ h2)]
      · rw [if_neg h2, if_neg (fun z => (List.mem_cons.mp z).elim (fun e => h e.symm) h2)]
theorem wipe_only {σ σ2 : St} {vs ts : List Nat} (hs : ∀ t ∈ ts, t ∈ vs) (o : Only ts (L2.wipe σ vs) σ2) : L2.wipe σ2 vs = L2.wipe σ vs := by
  have l1 : (L2.wipe σ vs).length = σ.length := wipe_length σ vs
  refine List.ext_getElem? fun j => ?_
  rw [wipe_get σ2, o.1, l1, wipe_get σ]
  by_cases h : j ∈ vs
  · rw [if_pos h, if_pos h]
  · rw [if_neg h, if_neg h, o.2 j fun z => h (hs j z), wipe_get, if_neg h]
def dYes : TD := fun _ R => R true
def WTs (X : Cx) (ifs : List Expr) : TT := fun σ H Q => ∀ (pins : List (Addr × Obj)) (s : Shared), Inv X pins σ H s →
  wpAny (model X.prog X.w) X.A (forIn ifs true fun c r => if r = true then do let ok ← isTrue c X.env (eval c X.env); pure (ForInStep.yield ok) else pure (ForInStep.yield r)) (TP X pins σ Q) X.xe s
structure QTs (X : Cx) (ifs : List Expr) (t : TD) : Prop where
  run : ∀ (G H : Hp) (ρ : Rho) (σ : St) (R : Bool → Prop) (Q : Bool → Hp → Prop), Sim X.K G H ρ σ → t ρ R → PoT G H R Q → WTs X ifs σ H Q
theorem qts_nil {X : Cx} : QTs X [] dYes := ⟨fun G H ρ σ R Q S h po pins s I => pts_nil.run pins s σ H Q I (po.here S.hid h)⟩
theorem qts_one {X : Cx} {c : Expr} {t : TD} (h : QT X c t) : QTs X [c] t := ⟨fun G H ρ σ R Q S q po pins s I => (pts_one pt_w).run pins s σ H Q I (h.run G H ρ σ R Q S q po)⟩
def dLcGo (ρ : Rho) (g : GD) (tt : TD) (te : ED) (R : List D → Prop) : List D → List D → Prop
  | [], acc => R acc
  | d :: ds, acc => g d ρ fun ρ1 => tt ρ1 fun b => if b = true then te ρ1 fun y => dLcGo ρ g tt te R ds (acc ++ [y]) else dLcGo ρ g tt te R ds acc
def dLc (ti : ID) (g : GD) (tt : TD) (te : ED) (vs : List Nat) : ID := fun ρ R => ti ρ fun ds => ds.length ≤ sizeLine ∧ dLcGo (wipeD ρ vs) g tt te R ds []
section
variable {X : Cx} {tg iter elt : Expr} {ifs : List Expr} {scope : Scope} {own : List (Str × Nat)} {ti : ID} {g : GD} {tt : TD} {te : ED} {P : RP} {pos : Pos} {is : List Nat}
abbrev Blk (X : Cx) (scope : Scope) (s : Shared) (H : Hp) (C : Addr) (cl : List (Str × Addr)) (fp : List Addr) : Cx := X.blk s H scope (compEnvC scope cl C X.env) fp
def WGb (X : Cx) (scope : Scope) (tg : Expr) : TG := fun v σ H Q => ∀ s H0 C cl fp, WG (Blk X scope s H0 C cl fp) tg v σ H Q
def WTb (X : Cx) (scope : Scope) (ifs : List Expr) : TT := fun σ H Q => ∀ s H0 C cl fp, WTs (Blk X scope s H0 C cl fp) ifs σ H Q
def WEb (X : Cx) (scope : Scope) (e : Expr) : TE := fun σ H Q => ∀ s H0 C cl fp, W (Blk X scope s H0 C cl fp) e σ H Q
theorem lc_read (hi : QI X P tg iter ti) (hg : ∀ s H C cl fp, QG (Blk X scope s H C cl fp) P tg g is) (ht : ∀ s H C cl fp, QTs (Blk X scope s H C cl fp) ifs tt) (he : ∀ s H C cl fp, QE (Blk X scope s H C cl fp) elt te) (hsub : ∀ t ∈ is, t ∈ own.map (·.2))
    {G H : Hp} {ρ : Rho} {σ : St} {R : List D → Prop} {Q : VK} (S : Sim X.K G H ρ σ) (h : dLc ti g tt te (own.map (·.2)) ρ R) (nw : NewL X.K G H R Q) :
    tLc (WI X tg iter) (WGb X scope tg) (WTb X scope ifs) (WEb X scope elt) (own.map (·.2)) σ H Q := by
  refine hi.run G H ρ σ _ _ S h fun J G1 ds s1 k1 ok q1 => ?_
  intro L nL
  refine ⟨fun i m H' => m = ds.length - i ∧ i ≤ ds.length ∧ ∃ G' acc xs, Same G1 G' ∧ Kp G H G' ∧ lay G H G' L = none ∧ H' = upd (lay G H G') L (.lst xs) ∧ RepAll X.K G' acc xs ∧ acc.length ≤ i ∧ dLcGo (wipeD ρ (own.map (·.2))) g tt te R (ds.drop i) acc,
    ⟨_, rfl, Nat.zero_le _, G1, [], [], Same.refl G1, k1, nL, rfl, rfl, Nat.le_refl _, q1.2⟩, ?_⟩
  rintro i m H2 ⟨rfl, hle, G2, acc, xs, s2, k2, n2, rfl, ra, hz, q2⟩
  have S2 : Sim X.K G2 (upd (lay G H G2) L (.lst xs)) (wipeD ρ (own.map (·.2))) (L2.wipe σ (own.map (·.2))) := ((S.step (s1.trans s2) k2).wipe _).add n2
  by_cases hi : i < ds.length
  · right
    have hd : ds[i]? = some ds[i] := List.getElem?_eq_getElem hi
    obtain ⟨go, yl⟩ := ok.2 i _ G2 _ s2 S2.hid hd
    rw [List.drop_eq_getElem_cons hi] at q2
    refine ⟨go, fun H' => ∃ G' acc xs, Same G1 G' ∧ Kp G H G' ∧ lay G H G' L = none ∧ H' = upd (lay G H G') L (.lst xs) ∧ RepAll X.K G' acc xs ∧ acc.length ≤ i + 1 ∧ dLcGo (wipeD ρ (own.map (·.2))) g tt te R (ds.drop (i + 1)) acc, ?_, ?_⟩
    · rintro H' ⟨G', acc', xs', b⟩
      exact ⟨ds.length - (i + 1), by omega, rfl, hi, G', acc', xs', b⟩
    · intro x H' y
      obtain ⟨G3, s3, k3, rfl, rx⟩ := yl x H' y
      have S3 := S2.step s3 k3
      intro sB HB CB cB fB
      refine (hg sB HB CB cB fB).run G3 _ _ _ _ x _ _ S3 rx q2 fun ρ' σ' S' o' q' => ⟨wipe_only hsub o', ?_⟩
      intro sB HB CB cB fB
      refine (ht sB HB CB cB fB).run G3 _ ρ' σ' _ _ S' q' fun b G4 s4 k4 q4 => ?_
      have S4 := S'.step s4 k4
      obtain ⟨e3, kk3, nn3⟩ := lay_hide k2 n2 k3
      rw [e3] at k4 S4 ⊢
      obtain ⟨e4, kk4, nn4⟩ := lay_hide kk3 nn3 k4
      rw [e4] at S4 ⊢
      have s24 : Same G2 G4 := s3.trans s4
      cases b with
      | false => exact ⟨G4, acc, xs, s2.trans s24, kk4, nn4, rfl, RepAll.mono s24 acc xs ra, by omega, q4⟩
      | true =>
        intro sB HB CB cB fB
        refine (he sB HB CB cB fB).run G4 _ ρ' σ' _ _ S4 q4 fun v G5 d s5 k5 r5 q5 => ?_
        obtain ⟨e5, kk5, nn5⟩ := lay_hide kk4 nn4 k5
        rw [e5]
        refine ⟨xs, upd_same, ?_, G5, acc ++ [d], xs ++ [v], s2.trans (s24.trans s5), kk5, nn5, upd_upd, (RepAll.mono (s24.trans s5) acc xs ra).app (RepAll.one r5), ?_, q5⟩
        · rw [ra.length]
          have := q1.1
          omega
        · rw [List.length_append]
          show acc.length + 1 ≤ i + 1
          omega
  · left
    have e : ds.drop i = [] := List.drop_eq_nil_of_le (by omega)
    rw [e] at q2
    exact ⟨ok.1 i G2 _ s2 S2.hid (by omega), nw L xs acc G2 (s1.trans s2) k2 n2 ra q2⟩
theorem ql_lc (hc : X.calm = true) (hN : X.N.Nodup) (ok : BlkOk X.N X.env.scope scope own) (hi : QI X P tg iter ti) (hg : ∀ s H C cl fp, QG (Blk X scope s H C cl fp) P tg g is) (ht : ∀ s H C cl fp, QTs (Blk X scope s H C cl fp) ifs tt) (he : ∀ s H C cl fp, QE (Blk X scope s H C cl fp) elt te)
    (hsub : ∀ t ∈ is, t ∈ own.map (·.2) := by decide) (hs : ∀ x, foldedSetIterable iter X.env x = pure x := by intro _; rfl) : QL X (.ListComp elt [⟨tg, iter, ifs, 0⟩] scope pos) (dLc ti g tt te (own.map (·.2))) := ⟨fun G H ρ σ R Q S h nw =>
  W.of (pe_lc hc hN pi_w ok (fun s H C cl fp => ⟨fun pins s' σ H v u Q I r h => h s _ C cl fp pins s' u I r⟩) (fun s H C cl fp => ⟨fun pins s' σ H Q I h => h s _ C cl fp pins s' I⟩) (fun s H C cl fp => ⟨fun pins s' σ H Q I h => h s _ C cl fp pins s' I⟩) hs) (lc_read hi hg ht he hsub S h nw)⟩
def dOfL (t : ID) : ED := fun ρ R => t ρ fun ds => R (.lst ds)
theorem Po.newL {K : PySem.W.Frag} {G H : Hp} {R : D → Prop} {Q : VK} (p : Po K G H R Q) : NewL K G H (fun ds => R (.lst ds)) Q := fun a xs ds G1 s k n r q => by
  rw [lay_upd n]
  exact p (.ref a) (upd G1 a (.lst xs)) (.lst ds) (s.trans (same_upd (lay_free n).1)) (k.upd n) ⟨a, xs, rfl, upd_same, RepAll.mono (same_upd (lay_free n).1) ds xs r⟩ q
theorem QL.qe {e : Expr} {t : ID} (h : QL X e t) : QE X e (dOfL t) := ⟨fun G H ρ σ R Q S q po => h.run G H ρ σ _ Q S q po.newL⟩
/-- y = [..], y a local -/
theorem qs_setLc {i : Nat} {y : Str} {py spos : Pos} (hc : X.calm = true) (hN : X.N.Nodup) (ok : BlkOk X.N X.env.scope scope own) (hi : QI X P tg iter ti) (hg : ∀ s H C cl fp, QG (Blk X scope s H C cl fp) P tg g is) (ht : ∀ s H C cl fp, QTs (Blk X scope s H C cl fp) ifs tt) (he : ∀ s H C cl fp, QE (Blk X scope s H C cl fp) elt te)
    (hsw : swapsWith (.ListComp elt [⟨tg, iter, ifs, 0⟩] scope pos) (some (.Name y py)) spos.line X.env = pure true) (hy : X.N[i]? = some y := by rfl) (hyl : X.env.scope.names.lookup y = some .local := by rfl)
    (hsub : ∀ t ∈ is, t ∈ own.map (·.2) := by decide) (hs : ∀ x, foldedSetIterable iter X.env x = pure x := by intro _; rfl) : QS X (.Assign [.Name y py] (.ListComp elt [⟨tg, iter, ifs, 0⟩] scope pos) spos) (dSet i (dOfL (dLc ti g tt te (own.map (·.2))))) := ⟨fun G H ρ σ E D S h po pins s I =>
  (WS.of (ps_setLc hc hN hy hyl hsw pi_w ok (fun s H C cl fp => ⟨fun pins s' σ H v u Q I r h => h s _ C cl fp pins s' u I r⟩) (fun s H C cl fp => ⟨fun pins s' σ H Q I h => h s _ C cl fp pins s' I⟩) (fun s H C cl fp => ⟨fun pins s' σ H Q I h => h s _ C cl fp pins s' I⟩) hs) (lc_read hi hg ht he hsub S h
    (Po.newL (R := fun d => E.nx (ρ.set i (.val d))) (Q := fun v H1 => D.nx (σ.set i (some v)) H1) fun v G1 d s1 k1 r1 q1 => po.nx G1 _ _ _ s1 ((S.step s1 k1).put (slot_lt S I hy) r1) q1))) pins s I⟩
theorem qs_ownLc {i : Nat} {y : Str} {py spos : Pos} (hc : X.calm = true) (hN : X.N.Nodup) (ok : BlkOk X.N X.env.scope scope own) (hi : QI X P tg iter ti) (hg : ∀ s H C cl fp, QG (Blk X scope s H C cl fp) P tg g is) (ht : ∀ s H C cl fp, QTs (Blk X scope s H C cl fp) ifs tt) (he : ∀ s H C cl fp, QE (Blk X scope s H C cl fp) elt te)
    (hsw : swapsWith (.ListComp elt [⟨tg, iter, ifs, 0⟩] scope pos) (some (.Name y py)) spos.line X.env = pure true) (hy : X.N[i]? = some y := by rfl) (hyl : X.env.scope.names.lookup y = some .local := by rfl)
    (hsub : ∀ t ∈ is, t ∈ own.map (·.2) := by decide) (hs : ∀ x, foldedSetIterable iter X.env x = pure x := by intro _; rfl) : QS X (.Assign [.Name y py] (.ListComp elt [⟨tg, iter, ifs, 0⟩] scope pos) spos) (dSetO i (dLc ti g tt te (own.map (·.2)))) := ⟨fun G H ρ σ E D S h po pins s I =>
  (WS.of (ps_setLc hc hN hy hyl hsw pi_w ok (fun s H C cl fp => ⟨fun pins s' σ H v u Q I r h => h s _ C cl fp pins s' u I r⟩) (fun s H C cl fp => ⟨fun pins s' σ H Q I h => h s _ C cl fp pins s' I⟩) (fun s H C cl fp => ⟨fun pins s' σ H Q I h => h s _ C cl fp pins s' I⟩) hs) (lc_read hi hg ht he hsub S h
    fun p xs ds G1 s1 k1 n r q => po.nx G1 _ _ _ s1 ((S.step s1 k1).putOwn (slot_lt S I hy) n r) q)) pins s I⟩
end

/-! ### defs -/
def startD (N : List Str) (ds : List D) : Rho := ds.map SL.val ++ List.replicate (N.length - ds.length) SL.nul
theorem sim_start {K : PySem.W.Frag} {H : Hp} {N : List Str} {ds : List D} {vs : List V} (r : RepAll K H ds vs) : Sim K H H (startD N ds) (start N vs) := by
  have hl := r.length
  have own : ∀ (i : Nat) (es : List D), (startD N ds)[i]? ≠ some (SL.own es) := fun i es q => by
    unfold startD at q
    by_cases h : i < ds.length
    · rw [List.getElem?_append_left (by rw [List.length_map]; exact h), List.getElem?_map, List.getElem?_eq_getElem h] at q
      cases q
    · rw [List.getElem?_append_right (by rw [List.length_map]; omega), List.getElem?_replicate] at q
      split at q <;> cases q
  refine ⟨Hid.self H, ?_, fun i d q => ?_, fun i es q => absurd q (own i es), fun i j es fs p q => absurd q (own i es)⟩
  · unfold startD L2.start
    rw [List.length_append, List.length_append, List.length_map, List.length_map, List.length_replicate, List.length_replicate, hl]
  · unfold startD at q
    by_cases h : i < ds.length
    · rw [List.getElem?_append_left (by rw [List.length_map]; exact h), List.getElem?_map, List.getElem?_eq_getElem h] at q
      cases q
      obtain ⟨v, hv, rv⟩ := r.get (List.getElem?_eq_getElem h)
      refine ⟨v, ?_, rv⟩
      unfold L2.start
      rw [List.getElem?_append_left (by rw [List.length_map, hl]; exact h), List.getElem?_map, hv]
      rfl
    · rw [List.getElem?_append_right (by rw [List.length_map]; omega), List.getElem?_replicate] at q
      split at q <;> cases q
section
variable {P : Program} {w : World} {K : PySem.W.Frag} {mg : Str → Option Value} {base : Heap}
/-- THE RULE for a def over data -/
theorem fn_data {x qual : Str} {st : Stmt} {f : Addr} {fd : FuncData} {N ps : List Str} {k : Nat} {Φ : List D → (D → Prop) → Prop} (F : Fun K x qual st f fd) (S : FnScope N ps (defScope st)) (len : ∀ ds R, Φ ds R → ds.length = ps.length)
    (hbody : ∀ (cdv : Value) (A : Around) (outer : List Env) (s : Shared) (H : Hp) (E : XK), Room k (A.deeper (envOfC qual (defScope st) s.heap.objs.size f cdv)) →
      ∃ t, QSs (cxOf CX0 P w K mg base N qual (defScope st) f cdv A outer s H E).nox (defBody st) t ∧ ∀ ds R, Φ ds R → t ⟨fun _ => R .non, R, fun _ => False, fun _ => False⟩ (startD N ds)) : FnOk P w K mg base CX0 (k + 1) f fd ps (spD K Φ) := by
  refine F.ok S (fun vs H Q E h => ?_) (fun cdv A outer s H vs Q E hr h => ?_)
  · obtain ⟨ds, R, r, q, _⟩ := h
    rw [r.length]
    exact len ds R q
  · obtain ⟨ds, R, r, q, po⟩ := h
    obtain ⟨t, ht, hq⟩ := hbody cdv A outer s H E hr
    refine ⟨_, pss_w, ?_⟩
    refine ht.run H H (startD N ds) (start N vs) _ _ (sim_start r) (hq ds R q) ⟨fun G' H' ρ' σ' sm S' q' => ?_, fun v G' H' d sm hd rv q' => ?_, fun _ _ _ _ _ _ z => z.elim, fun _ _ _ _ _ _ z => z.elim⟩
    · exact po .non H' .non (sm.trans S'.hid.same) rfl q'
    · exact po v H' d (sm.trans hd.same) (Rep.mono hd.same d v rv) q'
end
end DL

namespace DL
open PySem PySem.Spec PyProof.Rows
open L2 hiding St

/-! ### enumerate over a tuple -/
abbrev tupIt (t : Addr) : Obj := { cls := .type "tuple_iterator", data := .fields #[.ref t, .int 0 0] }
abbrev enumOb (it : Addr) : Obj :=
  { cls := .type "enumerate", data := .fields #[.none, .bool false, .ref it, rawInt 0, .none, .none] }
theorem meets_enumT (t : Addr) (items : Array Value) (o : Obj) (hc : o.cls = .type "tuple") (n : Nat) (hd : o.data = .seq items n) :
    Meets (Builtin.«enumerate.__new__» ⟨[.type "enumerate", .ref t], []⟩) (fun _ R s => s.heap.get? t = some o ∧
      R (.ok (.ret (.ref (s.heap.push (tupIt t)).objs.size)))
        { s with heap := (s.heap.push (tupIt t)).push (enumOb s.heap.objs.size) }) :=
  .of_wp fun prog w A R s h => by
    obtain ⟨hp, g, d, tk, os⟩ := s
    obtain ⟨hl, h⟩ := h
    have hsub := sub_enumerate
    have hT : Heap.IsTuple (Shared.heap ⟨hp, g, d, tk, os⟩) t items := ⟨o, hl, hc, n, hd⟩
    wp_walk using wpAny_loadPart' hl
    refine wpAny_stack_any fun st => wpAny_pure ?_
    split
    case h_1 =>
      rename_i c _ _ _ _ _
      cases (c == Value.type "enumerate") <;>
      · wp_walk using wpAny_loadPart' hl, wpAny_pyIter_tuple hT
        exact ⟨_, rfl, h⟩
    case h_2 =>
      wp_walk using wpAny_loadPart' hl, wpAny_pyIter_tuple hT
      exact ⟨_, rfl, h⟩
theorem call_enumT {prog : Program} {w : World} {A : Around} {E : Value → Shared → Prop} {s : Shared} {t : Addr} {items : Array Value} {Q : Value → Shared → Prop} (hT : s.heap.IsTuple t items)
    (h : ∀ h', IsEnum h' (s.heap.objs.size + 1) s.heap.objs.size 0 .none → h'.IsTupleIter s.heap.objs.size t 0 → (∀ b o, s.heap.get? b = some o → h'.get? b = some o) → Q (.ref (s.heap.objs.size + 1)) { s with heap := h' }) :
    wpAny (model prog w) A (call (.type "enumerate") [.ref t]) Q E s := by
  obtain ⟨o, ho, hc, n, hd⟩ := hT
  refine callType_new F.called_enumerate (by decide) (F.typeCall_enumerate_1 _) (F.newCall_enumerate_1 _)
    (fun obj => F.args_object_init_2 obj _) F.entry_enumerate_new (meets_enumT t items o hc n hd) ⟨ho, ?_⟩
  have sz : (s.heap.push (tupIt t)).objs.size = s.heap.objs.size + 1 := Heap.size_push ..
  have he : IsEnum ((s.heap.push (tupIt t)).push (enumOb s.heap.objs.size)) (s.heap.objs.size + 1) s.heap.objs.size 0 .none := by
    have q := Heap.get?_push_size (s.heap.push (tupIt t)) (o := enumOb s.heap.objs.size) rfl
    rw [sz] at q
    exact q
  show _ ∧ _
  rw [sz]
  refine ⟨⟨_, he, rfl⟩, h _ he ⟨_, Heap.get?_push_of_some _ (Heap.get?_push_size _ rfl), rfl, rfl⟩ fun b o x => ?_⟩
  exact Heap.get?_push_of_some _ (Heap.get?_push_of_some _ x)
def IteT (K : PySem.W.Frag) (a : Addr) : It :=
  ⟨fun i H => ∃ (xs : List V) (x : V), SqT K H a xs ∧ xs[i]? = some x,
   fun i H v H' => ∃ T x, v = .ref T ∧ H T = none ∧ H' = upd H T (.tup [.int (i : Nat), x]) ∧ ∀ xs, SqT K H a xs → xs[i]? = some x,
   fun i H => ∃ xs : List V, SqT K H a xs ∧ i = xs.length⟩
theorem turn_enumT {P : Program} {w : World} {K : PySem.W.Frag} {elts : List Expr} {kk : Nat} {tpos : Pos} (a e it : Addr) :
    Turn P w K (.Tuple elts kk tpos) (IteT K a) [e, it] e (fun i h => (∃ old, IsEnum h e it ((i : Nat) : Int) old) ∧ h.IsTupleIter it a i ∧ e ≠ it) where
  mem := List.mem_cons_self
  obj := fun i h st b hb => by
    obtain ⟨⟨old, he⟩, ⟨o, ho, hc, hd⟩, _⟩ := st
    rcases List.mem_cons.mp hb with z | z
    · subst z; exact ⟨_, he, fun v q => nomatch q⟩
    · have z := List.mem_singleton.mp z
      subst z
      exact ⟨o, ho, fun v q => by rw [hd] at q; cases q⟩
  keep := fun i h h' st k => by
    obtain ⟨⟨old, he⟩, ⟨o, ho, hc, hd⟩, hne⟩ := st
    exact ⟨⟨old, k e (by simp) _ he⟩, ⟨o, k it (by simp) _ ho, hc, hd⟩, hne⟩
  item := by
    intro X hP hw hK hc i pins s σ H E I hf st hg
    subst hP hw hK
    obtain ⟨⟨old, he⟩, hit, hne⟩ := st
    obtain ⟨xs, x, hq, hx⟩ := hg
    obtain ⟨its, rv, p, hz⟩ := I.tuple hq
    obtain ⟨u, hu, ru⟩ := rv.get hx
    have pT : s.heap.IsTuple a its.toArray := p
    have el : e < s.heap.objs.size := Heap.lt_size he
    have il : it < s.heap.objs.size := by
      obtain ⟨_, q, _⟩ := hit
      exact Heap.lt_size q
    have ai : a ≠ it := fun z => by
      obtain ⟨o1, e1, c1, _⟩ := pT
      obtain ⟨o2, e2, c2, _⟩ := hit
      rw [z, e2] at e1
      cases e1
      rw [c2] at c1
      exact absurd (Value.type.inj c1) (by decide)
    have ae : e ∉ [it, a] := fun z => by
      rcases List.mem_cons.mp z with z | z
      · exact hne z
      · have z := List.mem_singleton.mp z
        obtain ⟨o1, e1, c1, _⟩ := pT
        rw [← z] at e1
        have q : s.heap.get? e = _ := he
        rw [q] at e1
        cases e1
        exact absurd (Value.type.inj c1) (by decide)
    have hd : X.A.in1.handled = none := I.ok.hd hc
    have len : i < its.toArray.size := by
      have h2 := (List.getElem?_eq_some_iff.mp hx).1
      rw [List.size_toArray, ← rv.length]
      exact h2
    refine wpAny_pyNext_enum_itemD (Draws.tuple (prog := X.prog) (w := X.w) hd it a ai its.toArray) he ⟨hit, pT⟩ len hne ae ?_
    intro y h' tk hy ho hst hT hsz hk
    have ey : y = u := by
      have h1 : its.toArray[i]? = some y := hy
      have h2 : its.toArray[i]? = some u := by simpa using hu
      rw [h2] at h1
      exact (Option.some.inj h1).symm
    subst ey
    refine ⟨_, rfl, wpAny_letOwnedTupleGo_enum (s := { s with heap := h', toks := tk + 1 }) ho fun h'' he' sb => ?_⟩
    have neq : s.heap.objs.size ≠ e := Nat.ne_of_gt el
    have hT2 := (sb.2 _ neq).trans hT
    have new : ObjOk X.prog X.w (upd H s.heap.objs.size (.tup [.int (i : Nat), x])) h'' s.heap.objs.size (.tup [.int (i : Nat), x]) := by
      refine ⟨by show 2 ≤ sizeLine; decide, [.int i tk, y], ?_, ⟨_, hT2, rfl, _, rfl⟩⟩
      exact .cons ⟨_, rfl⟩ (.cons ru .nil)
    have all : ∀ b ob, b ∉ [e, it] → s.heap.get? b = some ob → h''.get? b = some ob := fun b ob hb q => by
      have b1 : b ≠ e := fun z => hb (by simp [z])
      have b2 : b ≠ it := fun z => hb (by simp [z])
      exact (sb.2 b b1).trans (hk b ob b1 b2 q)
    have J : Inv X pins σ (upd H s.heap.objs.size (.tup [.int (i : Nat), x])) { s with heap := h'', toks := tk + 1 } :=
      I.turnedNew (ch := [e, it]) all hf (Nat.le_refl _) new
    have fr : H s.heap.objs.size = none := I.hok.fresh (Nat.le_refl _)
    refine ⟨.ref s.heap.objs.size, _, J, rfl, ⟨_, x, rfl, fr, rfl, fun ys hy2 => ?_⟩, ⟨⟨y, ?_⟩, ?_, hne⟩, fun b hb => ?_⟩
    · rw [I.tuple_inj hy2 hq]
      exact hx
    · have e1 : ((i + 1 : Nat) : Int) = (i : Int) + 1 := Int.natCast_add i 1
      rw [e1]
      exact he'
    · obtain ⟨o, q, c, d⟩ := hst.1
      exact ⟨o, (sb.2 it hne.symm).trans q, c, d⟩
    · have lt : b < s.heap.objs.size := by
        rcases List.mem_cons.mp hb with z | z
        · rw [z]; exact el
        · rw [List.mem_singleton.mp z]; exact il
      rw [upd_ne (Nat.ne_of_lt lt)]
      exact (hf b hb).1
  done := by
    intro X hP hw hK hc i pins s σ H E I hf st hg
    subst hP hw hK
    obtain ⟨⟨old, he⟩, hit, hne⟩ := st
    obtain ⟨xs, hq, hx⟩ := hg
    obtain ⟨its, rv, p, hz⟩ := I.tuple hq
    have pT : s.heap.IsTuple a its.toArray := p
    obtain ⟨f0, f1, f2, f3, f4, f5⟩ := hf it (by simp)
    have hd : X.A.in1.handled = none := I.ok.hd hc
    have ai : a ≠ it := fun z => by
      obtain ⟨o1, e1, c1, _⟩ := pT
      obtain ⟨o2, e2, c2, _⟩ := hit
      rw [z, e2] at e1
      cases e1
      rw [c2] at c1
      exact absurd (Value.type.inj c1) (by decide)
    have D := Draws.tuple (prog := X.prog) (w := X.w) hd it a ai its.toArray
    have hi : i = its.toArray.size := by
      rw [List.size_toArray, ← rv.length]
      exact hx
    subst hi
    refine wpAny_pyNext_enum_endD D he ⟨hit, pT⟩ fun h' eb => ⟨rfl, ?_⟩
    exact I.turned (t' := s.toks) (fun b o hb q => eb b o hb q) f0 f1 f3 f4 f5
  self := fun A i s Q E st h => by
    obtain ⟨⟨_, he⟩, _⟩ := st
    exact wpAny_pyIter_enum he h
theorem pi_enumT {X : Cx} {e : Expr} {ta : TA} {p pos tpos : Pos} {elts : List Expr} {kk : Nat} (hg : Gl X "enumerate") (hm : X.mg "enumerate" = none) (ha : PA X [e] ta) (hs : starEach [e] X.env = [(false, eval e X.env)] := by rfl) :
    PI X (.Tuple elts kk tpos) (.Call (.Name "enumerate" p) [e] [] pos) (fun σ H R => ta σ H fun vs H1 => ∃ a xs, vs = [.ref a] ∧ SqT X.K H1 a xs ∧ R (IteT X.K a) H1) := by
  refine ⟨fun pins s σ H R I h => ?_⟩
  refine Call_ (ld_blt I hg hm boot_enumerate (callWith_type1 (thn (ha.run pos pins s σ H _ I h) ?_) hs rfl))
  rintro us s1 ⟨vs, H1, I1, r1, a, xs, rfl, hq, q⟩
  cases r1 with
  | cons r rr =>
    cases rr
    cases r
    obtain ⟨its, rv, p', hz⟩ := I1.tuple hq
    refine call_enumT (show s1.heap.IsTuple a its.toArray from p') fun h' he hit hk => wpAny_pyIter_enum he ?_
    have I2 : Inv X pins σ H1 { s1 with heap := h' } := I1.kept (t' := s1.toks) hk
    refine ⟨s1.heap.objs.size + 1, [s1.heap.objs.size + 1, s1.heap.objs.size], _, _, H1, rfl, I2, turn_enumT a (s1.heap.objs.size + 1) s1.heap.objs.size, ⟨⟨.none, he⟩, hit, Nat.succ_ne_self _⟩, fun b hb => ?_, q⟩
    have hle : s1.heap.objs.size ≤ b := by
      rcases List.mem_cons.mp hb with z | z
      · rw [z]; exact Nat.le_add_right _ _
      · rw [List.mem_singleton.mp z]; exact Nat.le_refl _
    exact I1.fpOk hle (I1.hok.fresh hle)
def dEnumT (t : AD) : ID := fun ρ R => t ρ fun ds => match ds with
  | [.tup ds] => R (enumD 0 ds)
  | _ => False
section
variable {X : Cx} {e : Expr} {at_ : AD} {pos p : Pos}
theorem qi_enumT {elts : List Expr} {kk : Nat} {tpos : Pos} (hg : Gl X "enumerate") (hm : X.mg "enumerate" = none) (ha : QA X [e] at_) (hs : starEach [e] X.env = [(false, eval e X.env)] := by rfl) : QI X WRep (.Tuple elts kk tpos) (.Call (.Name "enumerate" p) [e] [] pos) (dEnumT at_) := ⟨fun G H ρ σ R Q S h po =>
  WI.of (pi_enumT hg hm pa_w hs) (ha.run G H ρ σ _ _ S h fun vs G1 ds s1 k1 r1 q1 => by
    match ds, q1 with
    | [.tup ds], q1 =>
      obtain ⟨x, rfl, a, xs, rfl, hp, rp⟩ := one_of r1
      refine ⟨a, xs, rfl, (hp.mono (S.step s1 k1).hid.same).sq, po _ G1 _ s1 k1 ⟨fun i G2 H2 s h hl => ?_, fun i d G2 H2 s h hd => ?_⟩ q1⟩
      · rw [enumD_len] at hl
        exact ⟨xs, ((hp.mono s).mono h.same).sq, by rw [rp.length]; exact hl⟩
      · rw [enumD_get] at hd
        cases q : ds[i]? with
        | none => rw [q] at hd; cases hd
        | some c =>
          rw [q] at hd
          cases hd
          obtain ⟨v, hv, rv⟩ := rp.get q
          have sq : SqT X.K H2 a xs := ((hp.mono s).mono h.same).sq
          refine ⟨⟨xs, v, sq, hv⟩, fun x H' y => ?_⟩
          obtain ⟨T, w, rfl, n, rfl, y⟩ := y
          have e := y xs sq
          rw [hv] at e
          cases e
          exact pair_ok (a := .int ((0 + i : Nat) : Int)) (x := .int (i : Nat)) h n (by rw [Nat.zero_add]; rfl) (Rep.mono s c v rv))⟩
def dEnumA (t : AD) : ID := fun ρ R => dEnum t ρ R ∨ dEnumT t ρ R
theorem qi_enumA {elts : List Expr} {kk : Nat} {tpos : Pos} (hg : Gl X "enumerate") (hm : X.mg "enumerate" = none) (ha : QA X [e] at_) (hs : starEach [e] X.env = [(false, eval e X.env)] := by rfl) : QI X WRep (.Tuple elts kk tpos) (.Call (.Name "enumerate" p) [e] [] pos) (dEnumA at_) := (qi_enum hg hm ha hs).or (qi_enumT hg hm ha hs)
end
end DL

namespace DL
open PySem PySem.Spec PyProof.Rows
open L2 hiding St

/-! ### a, b = e1, e2 where some of them are new lists -/
def KpH (G H G' H' : Hp) : Prop := ∀ b u, G b = none → H b = some u → G' b = none ∧ H' b = some u
/-- the owned ones among some values -/
def owned : List SL → List V → List Addr
  | .own _ :: xs, .ref p :: vs => p :: owned xs vs
  | _ :: xs, _ :: vs => owned xs vs
  | _, _ => []
def RepS (K : PySem.W.Frag) (H0 G H : Hp) : List SL → List V → Prop
  | [], vs => vs = []
  | .nul :: _, _ => False
  | .val d :: r, vs => ∃ v vr, vs = v :: vr ∧ Rep K G d v ∧ RepS K H0 G H r vr
  | .own ds :: r, vs => ∃ p xs vr, vs = .ref p :: vr ∧ H0 p = none ∧ H p = some (.lst xs) ∧ G p = none ∧ RepAll K G ds xs ∧ p ∉ owned r vr ∧ RepS K H0 G H r vr
theorem owned_new {K : PySem.W.Frag} {H0 G H : Hp} : ∀ {sls : List SL} {vs : List V}, RepS K H0 G H sls vs → ∀ p ∈ owned sls vs, H0 p = none
  | [], vs, h, p, m => by cases h; cases m
  | .nul :: _, vs, h, p, m => h.elim
  | .val d :: r, vs, h, p, m => by
    obtain ⟨v, vr, rfl, _, h⟩ := h
    exact owned_new h p m
  | .own ds :: r, vs, h, p, m => by
    obtain ⟨q, xs, vr, rfl, n, _, _, _, _, h⟩ := h
    rcases List.mem_cons.mp m with z | z
    · rw [z]; exact n
    · exact owned_new h p z
theorem RepS.back {K : PySem.W.Frag} {H0 H1 G H : Hp} (hb : ∀ p, H1 p = none → H0 p = none) : ∀ {sls : List SL} {vs : List V}, RepS K H1 G H sls vs → RepS K H0 G H sls vs
  | [], vs, h => h
  | .nul :: _, vs, h => h
  | .val d :: r, vs, h => by
    obtain ⟨v, vr, e, r1, h⟩ := h
    exact ⟨v, vr, e, r1, h.back hb⟩
  | .own ds :: r, vs, h => by
    obtain ⟨q, xs, vr, e, n, a, b, c, d, h⟩ := h
    exact ⟨q, xs, vr, e, hb q n, a, b, c, d, h.back hb⟩
abbrev PD := Rho → (List SL → Prop) → Prop
structure QP (X : Cx) (es : List Expr) (t : PD) : Prop where
  run : ∀ (G H : Hp) (ρ : Rho) (σ : St) (R : List SL → Prop) (Q : List V → Hp → Prop), Sim X.K G H ρ σ → t ρ R →
    (∀ vs G' H' sls, Same G G' → KpH G H G' H' → Sim X.K G' H' ρ σ → RepS X.K H G' H' sls vs → R sls → Q vs H') → WA X es σ H Q
def pNil : PD := fun _ R => R []
def pVal (t : ED) (u : PD) : PD := fun ρ R => t ρ fun d => u ρ fun r => R (.val d :: r)
def pOwn (t : ID) (u : PD) : PD := fun ρ R => t ρ fun ds => u ρ fun r => R (.own ds :: r)
theorem kph_lay {G H G1 : Hp} (k : Kp G H G1) : KpH G H G1 (lay G H G1) := fun b u a c => ⟨k b u a c, lay_hid a c⟩
theorem KpH.trans {G H G1 H1 G2 H2 : Hp} (a : KpH G H G1 H1) (b : KpH G1 H1 G2 H2) : KpH G H G2 H2 := fun x u g h => b x u (a x u g h).1 (a x u g h).2
theorem lay_new {G H G1 : Hp} (s : Same G G1) {p : Addr} (n : lay G H G1 p = none) : H p = none := by
  obtain ⟨g1, h⟩ := lay_free n
  exact h (s.free g1)
section
variable {X : Cx} {e : Expr} {es : List Expr} {te : ED} {tl : ID} {t : PD} {pos : Pos}
theorem qp_nil : QP X [] pNil := ⟨fun G H ρ σ R Q S h po => WA.of pa_nil (po [] G H [] (Same.refl G) (fun _ _ a c => ⟨a, c⟩) S rfl h)⟩
theorem qp_val (ha : QE X e te) (hr : QP X es t) (hs : starEach (e :: es) X.env = (false, eval e X.env) :: starEach es X.env := by rfl) : QP X (e :: es) (pVal te t) := ⟨fun G H ρ σ R Q S h po =>
  WA.of (pa_cons pe_w pa_w hs) (ha.run G H ρ σ _ _ S h fun v G1 d s1 k1 r1 q1 =>
    hr.run G1 _ ρ σ _ _ (S.step s1 k1) q1 fun vs G2 H2 sls s2 k2 S2 r2 q2 =>
      po (v :: vs) G2 H2 (.val d :: sls) (s1.trans s2) ((kph_lay k1).trans k2) S2 ⟨v, vs, rfl, Rep.mono s2 d v r1, r2.back fun p n => lay_new s1 n⟩ q2)⟩
theorem qp_own (ha : QL X e tl) (hr : QP X es t) (hs : starEach (e :: es) X.env = (false, eval e X.env) :: starEach es X.env := by rfl) : QP X (e :: es) (pOwn tl t) := ⟨fun G H ρ σ R Q S h po =>
  WA.of (pa_cons pe_w pa_w hs) (ha.run G H ρ σ _ _ S h fun p xs ds G1 s1 k1 n r q1 => by
    have S1 := (S.step s1 k1).add (xs := xs) n
    have g1 := (lay_free n).1
    refine hr.run G1 _ ρ σ _ _ S1 q1 fun vs G2 H2 sls s2 k2 S2 r2 q2 => ?_
    obtain ⟨g2, h2⟩ := k2 p _ g1 upd_same
    have hb : ∀ b, upd (lay G H G1) p (.lst xs) b = none → b ≠ p ∧ H b = none := fun b z => by
      have ne : b ≠ p := fun e => by rw [e, upd_same] at z; cases z
      rw [upd_ne ne] at z
      exact ⟨ne, lay_new s1 z⟩
    refine po (.ref p :: vs) G2 H2 (.own ds :: sls) (s1.trans s2) ?_ S2 ⟨p, xs, vs, rfl, lay_new s1 n, h2, g2, RepAll.mono s2 ds xs r, fun m => ?_, r2.back fun b z => (hb b z).2⟩ q2
    · refine (KpH.trans (fun b u a c => ?_) k2 : KpH G H G2 H2)
      have ne : b ≠ p := fun z => by rw [z, lay_new s1 n] at c; cases c
      exact ⟨k1 b u a c, by rw [upd_ne ne]; exact lay_hid a c⟩
    · exact (hb p (owned_new r2 p m)).1 rfl)⟩
end
/-- what goes to a slot -/
def RepO (K : PySem.W.Frag) (G H : Hp) (ρ : Rho) (σ : St) (i : Nat) : SL → V → Prop
  | .nul, _ => False
  | .val d, v => Rep K G d v
  | .own ds, v => ∃ p xs, v = .ref p ∧ H p = some (.lst xs) ∧ G p = none ∧ RepAll K G ds xs ∧ ∀ (k : Nat) (es : List D), k ≠ i → ρ[k]? = some (SL.own es) → σ[k]? ≠ some (some (V.ref p))
theorem Sim.putS {K : PySem.W.Frag} {G H : Hp} {ρ : Rho} {σ : St} {i : Nat} {x : SL} {v : V} (S : Sim K G H ρ σ) (hi : i < ρ.length) (r : RepO K G H ρ σ i x v) : Sim K G H (ρ.set i x) (σ.set i (some v)) := by
  cases x with
  | nul => exact r.elim
  | val d => exact S.put hi r
  | own ds =>
    obtain ⟨p, xs, rfl, hp, gp, rr, ap⟩ := r
    have hσ : i < σ.length := by rw [← S.len]; exact hi
    refine ⟨S.hid, by rw [List.length_set, List.length_set]; exact S.len, fun j e q => ?_, fun j es q => ?_, fun j k es fs p' q1 q2 h1 h2 => ?_⟩
    · rw [get_set hi] at q
      by_cases hj : i = j
      · rw [if_pos hj] at q; cases q
      · rw [if_neg hj] at q
        rw [List.getElem?_set_ne hj]
        exact S.val j e q
    · rw [get_set hi] at q
      by_cases hj : i = j
      · rw [if_pos hj] at q; cases q
        rw [← hj, List.getElem?_set_self hσ]
        exact ⟨p, xs, rfl, hp, gp, rr⟩
      · rw [if_neg hj] at q
        rw [List.getElem?_set_ne hj]
        exact S.own j es q
    · rw [get_set hi] at q1 q2
      by_cases hj : i = j
      · by_cases hk : i = k
        · rw [← hj, ← hk]
        · rw [if_neg hk] at q2
          rw [List.getElem?_set_ne hk] at h2
          rw [← hj, List.getElem?_set_self hσ] at h1
          cases h1
          exact absurd h2 (ap k fs (Ne.symm hk) q2)
      · by_cases hk : i = k
        · rw [if_neg hj] at q1
          rw [List.getElem?_set_ne hj] at h1
          rw [← hk, List.getElem?_set_self hσ] at h2
          cases h2
          exact absurd h1 (ap j es (Ne.symm hj) q1)
        · rw [if_neg hj] at q1; rw [if_neg hk] at q2
          rw [List.getElem?_set_ne hj] at h1
          rw [List.getElem?_set_ne hk] at h2
          exact S.inj j k es fs p' q1 q2 h1 h2
def setAll : List Nat → List SL → Rho → Rho
  | i :: is, x :: xs, ρ => setAll is xs (ρ.set i x)
  | _, _, ρ => ρ
def setAllV : List Nat → List V → St → St
  | i :: is, v :: vs, σ => setAllV is vs (σ.set i (some v))
  | _, _, σ => σ
/-- no slot holds any of these -/
def Apart (ρ : Rho) (σ : St) (ps : List Addr) : Prop := ∀ p ∈ ps, ∀ (k : Nat) (es : List D), ρ[k]? = some (SL.own es) → σ[k]? ≠ some (some (V.ref p))
theorem sim_all {K : PySem.W.Frag} {H0 G H : Hp} : ∀ {is : List Nat} {sls : List SL} {vs : List V} {ρ : Rho} {σ : St}, Sim K G H ρ σ → (∀ i ∈ is, i < ρ.length) → RepS K H0 G H sls vs → Apart ρ σ (owned sls vs) → Sim K G H (setAll is sls ρ) (setAllV is vs σ)
  | [], sls, vs, ρ, σ, S, _, _, _ => S
  | i :: is, [], vs, ρ, σ, S, _, h, _ => by cases h; exact S
  | i :: is, .nul :: _, vs, ρ, σ, S, _, h, _ => h.elim
  | i :: is, .val d :: sls, vs, ρ, σ, S, hl, h, ap => by
    obtain ⟨v, vr, rfl, rv, h⟩ := h
    have hi := hl i List.mem_cons_self
    have hσ : i < σ.length := by rw [← S.len]; exact hi
    show Sim K G H (setAll is sls (ρ.set i (.val d))) (setAllV is vr (σ.set i (some v)))
    refine sim_all (S.put hi rv) (fun j m => by rw [List.length_set]; exact hl j (List.mem_cons_of_mem _ m)) h fun p m k es q => ?_
    rw [get_set hi] at q
    by_cases hk : i = k
    · rw [if_pos hk] at q; cases q
    · rw [if_neg hk] at q
      rw [List.getElem?_set_ne hk]
      exact ap p m k es q
  | i :: is, .own ds :: sls, vs, ρ, σ, S, hl, h, ap => by
    obtain ⟨p0, xs, vr, rfl, n, hp, gp, rr, nm, h⟩ := h
    have hi := hl i List.mem_cons_self
    have hσ : i < σ.length := by rw [← S.len]; exact hi
    have ro : RepO K G H ρ σ i (.own ds) (.ref p0) := ⟨p0, xs, rfl, hp, gp, rr, fun k es _ q => ap p0 List.mem_cons_self k es q⟩
    show Sim K G H (setAll is sls (ρ.set i (.own ds))) (setAllV is vr (σ.set i (some (.ref p0))))
    refine sim_all (S.putS hi ro) (fun j m => by rw [List.length_set]; exact hl j (List.mem_cons_of_mem _ m)) h fun p m k es q => ?_
    rw [get_set hi] at q
    by_cases hk : i = k
    · rw [← hk, List.getElem?_set_self hσ]
      intro z
      cases z
      exact nm m
    · rw [if_neg hk] at q
      rw [List.getElem?_set_ne hk]
      exact ap p (List.mem_cons_of_mem _ m) k es q
def dPar (is : List Nat) (t : PD) : SD := fun E ρ => t ρ fun sls => sls.length = is.length ∧ E.nx (setAll is sls ρ)
theorem reps_len {K : PySem.W.Frag} {H0 G H : Hp} : ∀ {sls : List SL} {vs : List V}, RepS K H0 G H sls vs → vs.length = sls.length
  | [], vs, h => by cases h; rfl
  | .nul :: _, vs, h => h.elim
  | .val d :: r, vs, h => by
    obtain ⟨v, vr, rfl, _, h⟩ := h
    rw [List.length_cons, List.length_cons, reps_len h]
  | .own ds :: r, vs, h => by
    obtain ⟨q, xs, vr, rfl, _, _, _, _, _, h⟩ := h
    rw [List.length_cons, List.length_cons, reps_len h]
theorem apart_new {K : PySem.W.Frag} {G H G' H' : Hp} {ρ : Rho} {σ : St} {sls : List SL} {vs : List V} (S : Sim K G H ρ σ) (r : RepS K H G' H' sls vs) : Apart ρ σ (owned sls vs) := fun p m k es q z => by
  obtain ⟨p', xs, a1, a2, _, _⟩ := S.own k es q
  rw [a1] at z
  cases z
  rw [owned_new r p m] at a2
  cases a2
section
variable {X : Cx} {a b c : Expr} {t : PD} {px py pz pt pos : Pos} {kt k2 : Nat} {pt2 : Pos}
theorem qs_par {i j : Nat} {x y : Str} (hc : X.calm = true) (hN : X.N.Nodup) (ha : QP X [a, b] t) (hi : X.N[i]? = some x := by rfl) (hj : X.N[j]? = some y := by rfl) (hij : i ≠ j := by decide) (hx : X.env.scope.names.lookup x = some .local := by rfl) (hy : X.env.scope.names.lookup y = some .local := by rfl)
    (hw : swappedStores [.Tuple [.Name x px, .Name y py] kt pt] (.Tuple [a, b] k2 pt2) X.env = pure (some [x, y]) := by rfl) (hs : swapsWithSole [.Tuple [.Name x px, .Name y py] kt pt] (.Tuple [a, b] k2 pt2) pos.line X.env = pure false := by rfl) :
    QS X (.Assign [.Tuple [.Name x px, .Name y py] kt pt] (.Tuple [a, b] k2 pt2) pos) (dPar [i, j] t) := ⟨fun G H ρ σ E D S h po pins s I =>
  (WS.of (ps_par hc hN hi hj hij hx hy pa_w hw hs) (ha.run G H ρ σ _ _ S h fun vs G1 H1 sls s1 k1 S1 r1 q1 => by
    have l := (reps_len r1).trans q1.1
    match vs, l with
    | [v, w'], _ =>
      refine ⟨v, w', rfl, po.nx G1 H1 _ _ s1 (sim_all (is := [i, j]) S1 (fun k m => ?_) r1 (apart_new S r1)) q1.2⟩
      rcases List.mem_cons.mp m with z | z
      · rw [z]; exact slot_lt S I hi
      · rw [List.mem_singleton.mp z]; exact slot_lt S I hj)) pins s I⟩
theorem qs_par3 {i j l : Nat} {x y z : Str} (hc : X.calm = true) (hN : X.N.Nodup) (ha : QP X [a, b, c] t) (hi : X.N[i]? = some x := by rfl) (hj : X.N[j]? = some y := by rfl) (hl : X.N[l]? = some z := by rfl) (hij : i ≠ j := by decide) (hil : i ≠ l := by decide) (hjl : j ≠ l := by decide)
    (hx : X.env.scope.names.lookup x = some .local := by rfl) (hy : X.env.scope.names.lookup y = some .local := by rfl) (hz : X.env.scope.names.lookup z = some .local := by rfl)
    (hw : swappedStores [.Tuple [.Name x px, .Name y py, .Name z pz] kt pt] (.Tuple [a, b, c] k2 pt2) X.env = pure (some [x, y, z]) := by rfl) (hs : swapsWithSole [.Tuple [.Name x px, .Name y py, .Name z pz] kt pt] (.Tuple [a, b, c] k2 pt2) pos.line X.env = pure false := by rfl) :
    QS X (.Assign [.Tuple [.Name x px, .Name y py, .Name z pz] kt pt] (.Tuple [a, b, c] k2 pt2) pos) (dPar [i, j, l] t) := ⟨fun G H ρ σ E D S h po pins s I =>
  (WS.of (ps_par3 hc hN hi hj hl hij hil hjl hx hy hz pa_w hw hs) (ha.run G H ρ σ _ _ S h fun vs G1 H1 sls s1 k1 S1 r1 q1 => by
    have len := (reps_len r1).trans q1.1
    match vs, len with
    | [v, w', u], _ =>
      refine ⟨v, w', u, rfl, po.nx G1 H1 _ _ s1 (sim_all (is := [i, j, l]) S1 (fun k m => ?_) r1 (apart_new S r1)) q1.2⟩
      rcases List.mem_cons.mp m with z | z
      · rw [z]; exact slot_lt S I hi
      · rcases List.mem_cons.mp z with z | z
        · rw [z]; exact slot_lt S I hj
        · rw [List.mem_singleton.mp z]; exact slot_lt S I hl)) pins s I⟩
end

/-! ### calls with keywords -/
def pick {α : Type} (is : List Nat) (xs : List α) : List α := is.filterMap fun i => xs[i]?
theorem pick_rep {K : PySem.W.Frag} {G : Hp} {ds : List D} {vs : List V} (r : RepAll K G ds vs) : ∀ is : List Nat, RepAll K G (pick is ds) (pick is vs)
  | [] => rfl
  | i :: is => by
    have ih := pick_rep r is
    unfold pick at ih ⊢
    cases h : ds[i]? with
    | none =>
      have h2 : vs[i]? = none := by
        rw [List.getElem?_eq_none_iff] at h ⊢
        rw [r.length]
        exact h
      rw [List.filterMap_cons, List.filterMap_cons, h, h2]
      exact ih
    | some d =>
      obtain ⟨v, hv, rv⟩ := r.get h
      rw [List.filterMap_cons, List.filterMap_cons, h, hv]
      exact ⟨v, _, rfl, rv, ih⟩
theorem pick_vals {vs : List V} {us : List Value} (r : Vals vs us) : ∀ is : List Nat, Vals (pick is vs) (pick is us)
  | [] => .nil
  | i :: is => by
    have ih := pick_vals r is
    unfold pick at ih ⊢
    cases h : vs[i]? with
    | none =>
      have h2 : us[i]? = none := by
        rw [List.getElem?_eq_none_iff] at h ⊢
        rw [← r.length]
        exact h
      rw [List.filterMap_cons, List.filterMap_cons, h, h2]
      exact ih
    | some d =>
      obtain ⟨v, hv, rv⟩ := r.get h
      rw [List.filterMap_cons, List.filterMap_cons, h, hv]
      exact .cons rv ih
/-- how a call by keywords alone binds -/
def KB0 (K : PySem.W.Frag) (fd : FuncData) (ps ks : List Str) (is : List Nat) : Prop := ∀ (s : Shared) (ws : List Value), K.In s.heap → ws.length = ks.length → BindsTo s fd ⟨[], ks.zip ws⟩ (ps.zip (pick is ws))
structure QK (X : Cx) (kws : List Keyword) (t : AD) : Prop where
  run : ∀ (G H : Hp) (ρ : Rho) (σ : St) (R : List D → Prop) (Q : List V → Hp → Prop), Sim X.K G H ρ σ → t ρ R → PoA X.K G H R Q →
    ∀ (pos : Pos) (pins : List (Addr × Obj)) (s : Shared), Inv X pins σ H s → wpAny (model X.prog X.w) X.A (evalAll ((backToKw pos (keywordEach kws X.env)).map (·.2))) (AP X pins σ Q) X.xe s
section
variable {X : Cx} {e : Expr} {te : ED} {t : AD} {kws : List Keyword} {nm : Option Str} {kpos pos p : Pos}
theorem qk_nil : QK X [] dNil := ⟨fun G H ρ σ R Q S h po pos pins s I => pk_nil.run pos pins s σ H Q I (po.here (vs := []) (ds := []) S.hid rfl h)⟩
theorem qk_cons (ha : QE X e te) (hr : QK X kws t) : QK X (⟨nm, e, kpos⟩ :: kws) (dCons te t) := ⟨fun G H ρ σ R Q S h po pos pins s I => by
  have pr : PK X kws (fun σ H Q => ∀ (pos : Pos) (pins : List (Addr × Obj)) (s : Shared), Inv X pins σ H s → wpAny (model X.prog X.w) X.A (evalAll ((backToKw pos (keywordEach kws X.env)).map (·.2))) (AP X pins σ Q) X.xe s) := ⟨fun pos pins s σ H Q I h => h pos pins s I⟩
  refine (pk_cons pe_w pr).run pos pins s σ H Q I ?_
  refine ha.run G H ρ σ _ _ S h fun v G1 d s1 k1 r1 q1 => ?_
  refine hr.run G1 _ ρ σ _ _ (S.step s1 k1) q1 fun vs G2 ds s2 k2 r2 q2 => ?_
  exact ((po.seq s1 k1).seq s2 k2).here (vs := v :: vs) (ds := d :: ds) ((S.step s1 k1).hid.lay k2) ⟨v, vs, rfl, Rep.mono s2 d v r1, r2⟩ q2⟩
def dCallK (is : List Nat) (n : Nat) (Φ : List D → (D → Prop) → Prop) (t : AD) : ED := fun ρ R => t ρ fun ds => ds.length = n ∧ Φ (pick is ds) R
theorem qe_callK0 {x : Str} {Φ : List D → (D → Prop) → Prop} {k : Nat} {f : Addr} {fd : FuncData} {ps ks : List Str} {is : List Nat} (F : FnOk X.prog X.w X.K X.mg X.base CX0 k f fd ps (spD X.K Φ)) (hr : Room k X.A) (hg : Gl X x) (hm : X.mg x = some (.ref f)) (hk : PySem.W.keepIn X.K (.ref f) = true)
    (hb : KB0 X.K fd ps ks is) (hx : Passes CX0 X E0) (ha : QK X kws t) (hdb : (x == ("__debug__" : Str)) = false := by decide) (hall : (backToKw pos (keywordEach kws X.env)).all (·.1.isSome) = true := by rfl) (hks : (backToKw pos (keywordEach kws X.env)).filterMap (·.1) = ks := by rfl)
    (hpl : ((backTo pos (starEach [] X.env)).any (·.1) || (backToKw pos (keywordEach kws X.env)).any (·.1.isNone)) = false := by rfl) : QE X (.Call (.Name x p) [] kws pos) (dCallK is ks.length Φ t) := ⟨fun G H ρ σ R Q S h po pins s I => by
  refine wpAny_Call_Name_kw (ld_glob I hg hm ?_ hdb)
  refine PySem.W.callWith_KW0 (h₀ := X.base) I.ok.mod.kin hk hall (thn (ha.run G H ρ σ _ (fun zs H1 => zs.length = ks.length ∧ spHid (spD X.K Φ) (pick is zs) H1 Q E0) S h (fun vs G1 ds s1 k1 r1 q1 => ?_) pos pins s I) ?_) hpl
  · refine ⟨by rw [r1.length]; exact q1.1, G1, (S.step s1 k1).hid, pick is ds, R, pick_rep r1 is, q1.2, fun v G2 d s2 r2 q2 k2 => ?_⟩
    exact (po.seq s1 k1) v G2 d s2 k2 r2 q2
  · rintro ws s2 ⟨zs, H2, I2, rz, lz, q2⟩
    refine ⟨I2.kIn, ?_⟩
    rw [hks]
    have F' := DL.FnOk.frame F
    have r2 := pick_vals rz is
    have lw : ws.length = ks.length := by rw [← rz.length]; exact lz
    refine wpAny_call (codeAny_mono (F'.run X.A X.stack s2 H2 ⟨[], ks.zip ws⟩ (pick is ws) (pick is zs) Q E0 hr I2.env0 (hb s2 ws I2.kIn lw) r2 q2) fun r s' hq => ?_)
    cases r with
    | error e => exact hx pins σ H2 s2 e s' I2 hq
    | ok fl =>
      cases fl with
      | ret u => exact I2.after hq
      | next => exact hq.elim
      | brk => exact hq.elim
      | cont => exact hq.elim⟩
end
end DL

namespace DL
open PySem PySem.Spec PyProof.Rows
open L2 hiding St

/-! ### zip of two tuples; further small rules -/
def dZipT (t : AD) : ID := fun ρ R => t ρ fun ds => match ds with
  | [.tup as, .tup bs] => R (zipD as bs)
  | _ => False
section
variable {X : Cx} {e e2 : Expr} {at_ : AD} {pos p : Pos} {te : ED}
theorem qi_zipT {elts : List Expr} {kk : Nat} {tpos : Pos} (hg : Gl X "zip") (hm : X.mg "zip" = none) (ha : QA X [e, e2] at_) (hs : starEach [e, e2] X.env = (false, eval e X.env) :: starEach [e2] X.env := by rfl) (hpl : (backTo pos (starEach [e2] X.env)).any (·.1) = false := by rfl) :
    QI X WRep (.Tuple elts kk tpos) (.Call (.Name "zip" p) [e, e2] [] pos) (dZipT at_) := ⟨fun G H ρ σ R Q S h po =>
  WI.of (RZ.pi_zipA hg hm pa_w hs hpl) (ha.run G H ρ σ _ _ S h fun vs G1 ds s1 k1 r1 q1 => by
    match ds, q1 with
    | [.tup as, .tup bs], q1 =>
      obtain ⟨x, y, rfl, ⟨a, xs, rfl, hp, rp⟩, ⟨b, ys, rfl, hq, rq⟩⟩ := two_of r1
      have sm := (S.step s1 k1).hid.same
      refine ⟨a, b, xs, ys, rfl, .inr ⟨(hp.mono sm).sq, (hq.mono sm).sq, po _ G1 _ s1 k1 ⟨fun i G2 H2 s h hl => ?_, fun i d G2 H2 s h hd => ?_⟩ q1⟩⟩
      · rw [zipD_len] at hl
        refine ⟨xs, ys, ((hp.mono s).mono h.same).sq, ((hq.mono s).mono h.same).sq, ?_⟩
        rw [rp.length, rq.length]
        omega
      · obtain ⟨c, d', e1, e2, rfl⟩ := zipD_get as bs i d hd
        obtain ⟨v, hv, rv⟩ := rp.get e1
        obtain ⟨w, hw, rw'⟩ := rq.get e2
        have sq1 : SqT X.K H2 a xs := ((hp.mono s).mono h.same).sq
        have sq2 : SqT X.K H2 b ys := ((hq.mono s).mono h.same).sq
        refine ⟨⟨xs, ys, v, w, sq1, sq2, hv, hw⟩, fun x H' y => ?_⟩
        obtain ⟨T, x1, x2, rfl, n, rfl, y1, y2⟩ := y
        have e3 := y1 xs sq1
        have e4 := y2 ys sq2
        rw [hv] at e3
        rw [hw] at e4
        cases e3; cases e4
        exact pair_ok h n (Rep.mono s c v rv) (Rep.mono s d' w rw'))⟩
def dZipA (t : AD) : ID := fun ρ R => dZip t ρ R ∨ dZipT t ρ R
theorem qi_zipA {elts : List Expr} {kk : Nat} {tpos : Pos} (hg : Gl X "zip") (hm : X.mg "zip" = none) (ha : QA X [e, e2] at_) (hs : starEach [e, e2] X.env = (false, eval e X.env) :: starEach [e2] X.env := by rfl) (hpl : (backTo pos (starEach [e2] X.env)).any (·.1) = false := by rfl) :
    QI X WRep (.Tuple elts kk tpos) (.Call (.Name "zip" p) [e, e2] [] pos) (dZipA at_) := (qi_zip hg hm ha hs hpl).or (qi_zipT hg hm ha hs hpl)
def dNeg (t : ED) : ED := fun ρ R => t ρ fun d => match d with
  | .int i => R (.int (-i))
  | _ => False
theorem qe_neg (ha : QE X e te) : QE X (.UnaryOp .USub e pos) (dNeg te) := ⟨fun G H ρ σ R Q S h po =>
  W.of (pe_un un_neg pe_w) (ha.run G H ρ σ _ _ S h fun v G1 d s1 k1 r1 q1 => by
    cases d <;> first | exact q1.elim | skip
    case int i => cases r1; exact ⟨i, rfl, (po.seq s1 k1).here (d := .int (-i)) (S.step s1 k1).hid rfl q1⟩)⟩
theorem qs_retN : QS X (.Return none pos) (fun E _ => E.rt .non) := ⟨fun G H ρ σ E D S h po => WS.of ps_retN (po.rt .non G H .non (Same.refl G) S.hid rfl h)⟩
theorem qe_gint {x : Str} {i : Int} (hg : Gl X x) (hm : ∃ t, X.mg x = some (.int i t)) (hd : (x == ("__debug__" : Str)) = false := by decide) : QE X (.Name x pos) (dC (.int i)) := ⟨fun G H ρ σ R Q S h po => by
  obtain ⟨t, hm⟩ := hm
  exact W.of (pe_glob (v := .int i) hg hm ⟨t, rfl⟩ hd) (po.here (d := .int i) S.hid rfl h)⟩
theorem qe_gstr {x : Str} {z : Str} (hg : Gl X x) (hm : ∃ t, X.mg x = some (.str z t)) (hd : (x == ("__debug__" : Str)) = false := by decide) : QE X (.Name x pos) (dC (.str z)) := ⟨fun G H ρ σ R Q S h po => by
  obtain ⟨t, hm⟩ := hm
  exact W.of (pe_glob (v := .str z) hg hm ⟨t, rfl⟩ hd) (po.here (d := .str z) S.hid rfl h)⟩
end
/-! ### a def of the text -/
structure DefAt (K : PySem.W.Frag) (mg : Str → Option Value) (x : Str) (st : Stmt) (ps : List Str) (f : Addr) (fd : FuncData) : Prop where
  fn : Fun K x x st f fd
  mgf : mg x = some (.ref f)
  bd : Binds K fd ps []
theorem hu65 {k : Nat} {A : Around} (r : Room k A) : A.units + 65 < cLine := by
  have := r.un
  omega
end DL

namespace DL
open PySem PySem.Spec PyProof.Rows
open L2 hiding St

/-! ### return [list, 0, 0, seed]: a new bag -/
section
variable {X : Cx} {e : Expr} {t : ID} {pos : Pos}
theorem ints_of {K : PySem.W.Frag} {G : Hp} : ∀ {ns : List Int} {xs : List V}, RepAll K G (ns.map D.int) xs → xs = ns.map V.int
  | [], xs, r => by cases r; rfl
  | n :: ns, xs, r => by
    obtain ⟨x, t, rfl, rx, rt⟩ := r
    cases rx
    rw [ints_of rt]
    rfl
theorem qss_retBag (he : QL X e t) : QSs X [.Return (some e) pos] (fun E ρ => t ρ fun ds => ∃ (ns : List Int) (i x sd : Int), ds = [.lst (ns.map D.int), .int i, .int x, .int sd] ∧ BagOk i x sd ∧ E.rt .bag) := ⟨fun G H ρ σ E D S h po => by
  refine WSs.of (pss_bagNew (pss_one (ps_ret pe_w))) ?_
  refine he.run G H ρ σ _ _ S h fun p xs ds G1 s1 k1 n r q => ?_
  obtain ⟨ns, i, x, sd, rfl, ok, q⟩ := q
  obtain ⟨v0, r0, rfl, ⟨l, ys, rfl, hl, rl⟩, v1, r1, rfl, e1, v2, r2, rfl, e2, v3, r3, rfl, e3, e4⟩ := r
  cases e1; cases e2; cases e3; cases e4
  have ez := ints_of rl
  subst ez
  have g1 := (lay_free n).1
  have np : l ≠ p := fun z => by rw [z, g1] at hl; cases hl
  have kk : Kp G H (upd G1 p (BagO p l)) := k1.upd n
  refine ⟨p, l, i, x, sd, rfl, upd_same, ok, ?_⟩
  rw [upd_upd, lay_upd n]
  refine po.rt (.ref p) (upd G1 p (BagO p l)) _ .bag (s1.trans (same_upd g1)) (S.hid.lay kk) ⟨p, rfl, l, ns, upd_same, ?_⟩ q
  rw [upd_ne np]
  exact hl⟩
end
/-! ### draws: the arithmetic -/
theorem draw_sd {a : Int} : 0 ≤ a % 2147483647 ∧ a % 2147483647 < 2147483647 := ⟨Int.emod_nonneg a (by decide), Int.emod_lt_of_pos a (by decide)⟩
/-- what a draw promises: any number below n -/
def Φdraw : List D → (D → Prop) → Prop := fun ds R => ∃ n : Int, ds = [.bag, .int n] ∧ 0 < n ∧ n < 1073741824 ∧ ∀ r, 0 ≤ r → r < n → R (.int r)
theorem bag_at {H : Hp} {b l : Addr} {i x sd : Int} {K : PySem.W.Frag} : SqL K (upd H b (.lst (bagIts l i x sd))) b (bagIts l i x sd) := SqL.of upd_same
theorem cells_at {K : PySem.W.Frag} {H : Hp} {b l : Addr} {i x sd : Int} {ns : List Int} (hl : H l = some (.lst (ns.map V.int))) (ne : l ≠ b) : SqL K (upd H b (.lst (bagIts l i x sd))) l (ns.map V.int) := SqL.of (by rw [upd_ne ne]; exact hl)
section
variable {P : Program} {w : World} {K : PySem.W.Frag} {mg : Str → Option Value} {base : Heap}
theorem ok_draw {st : Stmt} {f : Addr} {fd : FuncData} {pb pm cell found old : Str} (D0 : DefAt K mg "_law_draw" st [pb, pm] f fd) (sc : FnScope [pb, pm, cell, found, old] [pb, pm] (defScope st)) (bl : mg "len" = none) (bi : mg "int" = none)
    (hb : ∀ (cdv : Value) (A : Around) (outer : List Env) (s : Shared) (H : Hp) (E : XK),
      ∃ t1 t2 t3 : TS, ∃ st1 st2 st3 st4 st5, defBody st = [st1, st2, st3, st4, st5] ∧ PS (cxOf CX0 P w K mg base [pb, pm, cell, found, old] "_law_draw" (defScope st) f cdv A outer s H E).nox st1 t1 ∧ PS (cxOf CX0 P w K mg base [pb, pm, cell, found, old] "_law_draw" (defScope st) f cdv A outer s H E).nox st2 t2 ∧ PSs (cxOf CX0 P w K mg base [pb, pm, cell, found, old] "_law_draw" (defScope st) f cdv A outer s H E).nox [st3, st4, st5] t3 ∧
      (∀ (D : Ends) (H : Hp) (b l : Addr) (n i x sd : Int) (ns : List Int), BagOk i x sd → H l = some (.lst (ns.map V.int)) → l ≠ b → (∀ i x sd c, BagOk i x sd → D.nx [some (.ref b), some (.int n), c, none, none] (upd H b (.lst (bagIts l i x sd)))) → t1 D [some (.ref b), some (.int n), none, none, none] (upd H b (.lst (bagIts l i x sd)))) ∧
      (∀ (D : Ends) (H : Hp) (b l : Addr) (n i x sd : Int) (c : Option V), BagOk i x sd → 0 < n → n < 1073741824 → (D.nx [some (.ref b), some (.int n), c, none, none] (upd H b (.lst (bagIts l i x sd)))) → (∀ i x sd r, BagOk i x sd → 0 ≤ r → r < n → D.rt (.int r) (upd H b (.lst (bagIts l i x sd)))) → t2 D [some (.ref b), some (.int n), c, none, none] (upd H b (.lst (bagIts l i x sd)))) ∧
      (∀ (D : Ends) (H : Hp) (b l : Addr) (n i x sd : Int) (c : Option V), BagOk i x sd → 0 < n → n < 1073741824 → (∀ i x sd r, BagOk i x sd → 0 ≤ r → r < n → D.rt (.int r) (upd H b (.lst (bagIts l i x sd)))) → t3 D [some (.ref b), some (.int n), c, none, none] (upd H b (.lst (bagIts l i x sd))))) :
    FnOk P w K mg base CX0 1 f fd [pb, pm] (spD K Φdraw) := by
  refine D0.fn.ok sc (fun vs H Q E h => ?_) (fun cdv A outer s H vs Q E hr h => ?_)
  · obtain ⟨ds, R, r, ⟨n, rfl, _⟩, _⟩ := h
    rw [r.length]
    rfl
  · obtain ⟨ds, R, r, ⟨n, rfl, n0, n1, q⟩, po⟩ := h
    obtain ⟨v0, v1, rfl, ⟨b, rfl, l, ns, hB, hl⟩, e1⟩ := two_of r
    cases e1
    obtain ⟨t1, t2, t3, st1, st2, st3, st4, st5, eb, p1, p2, p3, q1, q2, q3⟩ := hb cdv A outer s H E
    have ne : l ≠ b := fun z => by
      rw [z, hB] at hl
      exact absurd (Option.some.inj hl) (fun y => nomatch y)
    have pw := pss_bag (pss_cons p1 (pss_cons p2 p3))
    rw [← eb] at pw
    refine ⟨_, pw, b, l, hB, fun i x sd ok => ?_⟩
    have fin : ∀ i x sd r, BagOk i x sd → 0 ≤ r → r < n → ∃ i' x' sd', upd H b (.lst (bagIts l i x sd)) b = some (.lst (bagIts l i' x' sd')) ∧ BagOk i' x' sd' ∧ Q (.int r) (upd (upd H b (.lst (bagIts l i x sd))) b (BagO b l)) := fun i x sd r ok r0 r1 => by
      refine ⟨i, x, sd, upd_same, ok, ?_⟩
      have e : upd (upd H b (.lst (bagIts l i x sd))) b (BagO b l) = H := by
        rw [upd_upd]
        funext c
        by_cases hc : c = b
        · rw [hc, upd_same, hB]
        · rw [upd_ne hc]
      rw [e]
      exact po (.int r) H (.int r) (Same.refl H) rfl (q r r0 r1)
    refine q1 _ H b l n i x sd ns ok hl ne fun i x sd c ok => ?_
    refine q2 _ H b l n i x sd c ok n0 n1 ?_ fin
    exact q3 _ H b l n i x sd c ok n0 n1 fin
end
end DL

namespace DL
open PySem PySem.Spec PyProof.Rows
open L2 hiding St

/-! ### loops by induction -/
theorem dfor_ind {g : GD} {tb : SD} {E : EndsD} (I : List D → Rho → Prop) (fin : ∀ ρ, I [] ρ → E.nx ρ)
    (step : ∀ d ds ρ, I (d :: ds) ρ → (∀ ρ', I ds ρ' → dForGo g tb E ds ρ') → g d ρ fun ρ1 => tb { nx := dForGo g tb E ds, ct := dForGo g tb E ds, bk := E.nx, rt := E.rt } ρ1) : ∀ (ds : List D) (ρ : Rho), I ds ρ → dForGo g tb E ds ρ
  | [], ρ, h => fin ρ h
  | d :: ds, ρ, h => step d ds ρ h fun ρ' h' => dfor_ind I fin step ds ρ' h'
theorem dlc_ind {ρ : Rho} {g : GD} {tt : TD} {te : ED} {R : List D → Prop} (I : List D → List D → Prop) (fin : ∀ acc, I [] acc → R acc)
    (step : ∀ d ds acc, I (d :: ds) acc → (∀ acc', I ds acc' → dLcGo ρ g tt te R ds acc') → g d ρ fun ρ1 => tt ρ1 fun b => if b = true then te ρ1 fun y => dLcGo ρ g tt te R ds (acc ++ [y]) else dLcGo ρ g tt te R ds acc) : ∀ (ds acc : List D), I ds acc → dLcGo ρ g tt te R ds acc
  | [], acc, h => fin acc h
  | d :: ds, acc, h => step d ds acc h fun acc' h' => dlc_ind I fin step ds acc' h'
/-- a comprehension without ifs whose turn gives f of the item -/
theorem dlc_map {ρ : Rho} {g : GD} {te : ED} {R : List D → Prop} (f : D → D) (ds : List D) (step : ∀ d, d ∈ ds → ∀ k : D → Prop, k (f d) → g d ρ fun ρ1 => te ρ1 k) (h : R (ds.map f)) : dLcGo ρ g dYes te R ds [] := by
  have gen : ∀ (l acc : List D), (∀ d, d ∈ l → ∀ k : D → Prop, k (f d) → g d ρ fun ρ1 => te ρ1 k) → R (acc ++ l.map f) → dLcGo ρ g dYes te R l acc := by
    intro l
    induction l with
    | nil => intro acc _ h; rw [List.map_nil, List.append_nil] at h; exact h
    | cons d l ih =>
      intro acc st h
      refine st d List.mem_cons_self _ ?_
      refine ih (acc ++ [f d]) (fun e m => st e (List.mem_cons_of_mem _ m)) ?_
      rw [List.append_assoc]
      exact h
  exact gen ds [] step h
/-- the same, the items being the data of some things -/
theorem dlc_maps {α : Type} {ρ : Rho} {g : GD} {te : ED} {R : List D → Prop} (enc f : α → D) (l : List α) (step : ∀ a, a ∈ l → ∀ k : D → Prop, k (f a) → g (enc a) ρ fun ρ1 => te ρ1 k) (h : R (l.map f)) : dLcGo ρ g dYes te R (l.map enc) [] := by
  have gen : ∀ (l : List α) (acc : List D), (∀ a, a ∈ l → ∀ k : D → Prop, k (f a) → g (enc a) ρ fun ρ1 => te ρ1 k) → R (acc ++ l.map f) → dLcGo ρ g dYes te R (l.map enc) acc := by
    intro l
    induction l with
    | nil => intro acc _ h; rw [List.map_nil, List.append_nil] at h; exact h
    | cons d l ih =>
      intro acc st h
      refine st d List.mem_cons_self _ ?_
      refine ih (acc ++ [f d]) (fun e m => st e (List.mem_cons_of_mem _ m)) ?_
      rw [List.append_assoc]
      exact h
  exact gen l [] step h
theorem bools_map {α : Type} (f : α → Bool) : ∀ l : List α, bools (l.map fun a => D.bl (f a)) = some (l.map f)
  | [] => rfl
  | a :: l => by rw [List.map_cons, bools, bools_map f l]; rfl
theorem all_map {α : Type} (f : α → Bool) (l : List α) : (l.map f).all id = l.all f := by
  rw [List.all_map]; rfl
theorem ixN_nat {n j : Nat} (h : j < n) : ixN n (j : Int) = some j := by
  unfold ixN
  rw [if_pos (Int.natCast_nonneg j), if_pos (Int.ofNat_lt.mpr h), Int.toNat_natCast]
theorem small {n : Nat} (h : n ≤ 1000000) : n ≤ sizeLine := Nat.le_trans h (by rw [sizeLine_eq]; decide)
theorem small' {n : Nat} (h : n < 1000000) : n < sizeLine := Nat.lt_of_lt_of_le h (by rw [sizeLine_eq]; decide)
end DL

namespace DL
open PySem PySem.Spec PyProof.Rows
open L2 hiding St
/-- a datum of texts, numbers, lists and tuples, at most so deep -/
def okD : Nat → D → Prop
  | _, .non => True
  | _, .bl _ => True
  | _, .int _ => True
  | _, .str x => (PyData.str x).canLay0 = true
  | n + 1, .lst ds => ∀ d ∈ ds, okD n d
  | n + 1, .tup ds => ∀ d ∈ ds, okD n d
  | _, _ => False
theorem okD_fit : ∀ (n : Nat) (d : D), okD n d → pure? d = true ∧ (py d).canLay0 = true ∧ (py d).depth ≤ n := by
  intro n
  have rows : ∀ m, (∀ d, okD m d → pure? d = true ∧ (py d).canLay0 = true ∧ (py d).depth ≤ m) → ∀ ds : List D, (∀ d ∈ ds, okD m d) → pureAll ds = true ∧ PyData.canLayAll0 (pyAll ds) = true ∧ PyData.depthAll (pyAll ds) ≤ m := by
    intro m ih ds
    induction ds with
    | nil => intro _; exact ⟨rfl, rfl, Nat.zero_le _⟩
    | cons d ds ihd =>
      intro h
      obtain ⟨a, b, c⟩ := ih d (h d List.mem_cons_self)
      obtain ⟨a', b', c'⟩ := ihd fun e m => h e (List.mem_cons_of_mem _ m)
      refine ⟨by rw [pureAll, a, a']; rfl, by rw [pyAll, PyData.canLayAll0, b, b']; rfl, ?_⟩
      rw [pyAll, PyData.depthAll]
      exact Nat.max_le.mpr ⟨c, c'⟩
  induction n with
  | zero =>
    intro d h
    cases d with
    | non => exact ⟨rfl, rfl, Nat.zero_le _⟩
    | bl b => exact ⟨rfl, rfl, Nat.zero_le _⟩
    | int b => exact ⟨rfl, rfl, Nat.zero_le _⟩
    | str b => exact ⟨rfl, h, Nat.zero_le _⟩
    | _ => exact h.elim
  | succ n ih =>
    intro d h
    cases d with
    | non => exact ⟨rfl, rfl, Nat.zero_le _⟩
    | bl b => exact ⟨rfl, rfl, Nat.zero_le _⟩
    | int b => exact ⟨rfl, rfl, Nat.zero_le _⟩
    | str b => exact ⟨rfl, h, Nat.zero_le _⟩
    | lst ds =>
      obtain ⟨a, b, c⟩ := rows n ih ds h
      exact ⟨by rw [pure?]; exact a, by rw [py, PyData.canLay0]; exact b, by rw [py, PyData.depth]; omega⟩
    | tup ds =>
      obtain ⟨a, b, c⟩ := rows n ih ds h
      exact ⟨by rw [pure?]; exact a, by rw [py, PyData.canLay0]; exact b, by rw [py, PyData.depth]; omega⟩
    | _ => exact h.elim
theorem okD.fit {n : Nat} {d : D} (h : okD n d) (hn : n ≤ 64) : fit d = true := by
  obtain ⟨a, b, c⟩ := okD_fit n d h
  unfold DL.fit SeqAt.shaped
  rw [a, b, decide_eq_true (by omega : (py d).depth ≤ 64)]
  rfl
theorem okD.refl {n : Nat} {d : D} (h : okD n d) : eqD d d = true := SeqAt.eqv_refl _ (okD_fit n d h).2.1
end DL

namespace DL
open PySem PySem.Spec PyProof.Rows
open L2 hiding St
section
variable {X : Cx} {pos : Pos}
/-- a datum that the top has written -/
def GD0 (K : PySem.W.Frag) (mg : Str → Option Value) (x : Str) (d : D) : Prop := ∃ (u : Value) (v : V), mg x = some u ∧ RelV v u ∧ Rep K (fun _ => none) d v
theorem qe_gdata {x : Str} {d : D} (hg : Gl X x) (hm : GD0 X.K X.mg x d) (hd : (x == ("__debug__" : Str)) = false := by decide) : QE X (.Name x pos) (dC d) := ⟨fun G H ρ σ R Q S h po => by
  obtain ⟨u, v, hm, hr, r⟩ := hm
  exact W.of (pe_glob (v := v) hg hm hr hd) (po.here (d := d) S.hid (Rep.mono (fun _ _ e => by cases e) d v r) h)⟩
/-- a written tuple of flat things -/
theorem gd_tup {K : PySem.W.Frag} {h : Heap} {mg : Str → Option Value} {x : Str} {a : Addr} {its : Array Value} {n : Nat} {sl : Array (Option Value)} {ds : List D} {xs : List V} (X : K.In h) (G : h.Ns mainGlobals mg) (hx : PySem.W.nsIn K mainGlobals x = some (some (.ref a)))
    (l : K.lookup a = some ⟨.type "tuple", none, .seq its n, sl⟩) (hz : its.size ≤ 1000) (hv : Vals xs its.toList) (hd : RepAll K (fun _ => none) ds xs) : GD0 K mg x (.tup ds) :=
  ⟨.ref a, .ref a, PySem.W.mg_of X G hx, rfl, a, xs, rfl, .inr ⟨_, its, n, l, rfl, rfl, rfl, small (by omega), hv⟩, hd⟩
end
end DL

namespace DL
open PySem PySem.Spec PyProof.Rows
open L2 hiding St
/-! ### errors of own classes, held as values -/
/-- what the written part says of such a class; bmB: the order of its built-in base -/
structure ErC (K : PySem.W.Frag) (C : Addr) (B nw ini : String) (bmB : List Value) : Prop where
  fb : ExcBaseFacts B nw ini bmB
  sf : StoreFacts B bmB "object.__setattr__" "object"
  made : PySem.W.excInitIn K C bmB nw = true
  ov : PySem.W.excOver K C bmB = true
  sa : PySem.W.findIn K (.ref C) "__setattr__" = some (some (.builtin "object.__setattr__"))
  hd : PySem.W.hasDictIn K C = true
  ga : PySem.W.findIn K (.ref C) "__getattribute__" = some (some (.builtin "BaseException.__getattribute__"))
  gt : PySem.W.findIn K (.ref C) "__getattr__" = some none
  sb : PySem.W.subIn K (.ref C) (.type "BaseException") = some true
  kp : PySem.W.keepIn K (.ref C) = true
  cl : (PySem.W.clsIn K C).isSome = true
  ca : PySem.W.findIn K (.ref C) "__class__" = some (some (.builtin "object.__class__"))
  mo : PySem.W.mroIn K C (.type "object") = some true
  gs : PySem.W.specialIn K (.builtin "object.__class__") "__get__" = some (some (.builtin "getset_descriptor.__get__"))
  tk : PySem.W.takesIn K (.builtin "object.__class__") = some true
section
variable {X : Cx} {pins : List (Addr × Obj)} {σ : St} {H : Hp} {s : Shared} {a C dx : Addr} {B nw ini : String} {bmB : List Value} {f : Str} {y : V} {u : Value} {fs : List (Str × V)} {A : Around} {E : Value → Shared → Prop}
/-- a field is read -/
theorem err_get {b : Bool} {v : V} {Q : Value → Shared → Prop} (T : ErC X.K C B nw ini bmB) (I : Inv X pins σ H s) (e : H a = some (exo a C (some dx))) (ed : H dx = some (exd dx fs)) (hno : PySem.W.findIn X.K (.ref C) f = some none) (l : fs.lookup f = some v)
    (h : ∀ w s', Inv X pins σ H s' → RelV v w → Q w s') : wpAny (model X.prog X.w) A (getAttr (.ref a) f b) Q E s := by
  obtain ⟨t1, ho⟩ := exo_at I.hok e
  obtain ⟨mA, hns, rel⟩ := exd_at I.hok ed
  obtain ⟨w, hw, hr⟩ := RelO.some_of (v := v) (o := mA f) (by rw [← l]; exact rel f)
  obtain ⟨od, hod, look⟩ := lookIn_ns hns
  have at_ : PySem.W.InstAt s.heap a _ C (some od) := ⟨ho, rfl, rfl, hod⟩
  exact HandSPX.exc_get I.kIn at_ T.ga T.gt T.sb (PySem.W.findObj_own T.hd hno rfl (by rw [look, hw])) (handed_of hr) (h w _ (I.tok _) hr)
/-- the first field is stored: the error gets its dict -/
theorem err_set0 {Q : Unit → Shared → Prop} (T : ErC X.K C B nw ini bmB) (I : Inv X pins σ H s) (e : H a = some (exo a C none)) (hno : PySem.W.findIn X.K (.ref C) f = some none) (ry : RelV y u)
    (h : ∀ d s', H d = none → d ≠ a → Inv X pins σ (upd (upd H d (exd d [(f, y)])) a (exo a C (some d))) s' → Q () s') : wpAny (model X.prog X.w) A (setAttr (.ref a) f u) Q E s := by
  obtain ⟨t1, ho⟩ := exo_at I.hok e
  obtain ⟨hp, g, dr, t, os⟩ := s
  have at_ : PySem.W.InstAt hp a _ C none := ⟨ho, rfl, rfl, trivial⟩
  have tak : PySem.W.takerIn X.K C f = some none := NoAttr.taker hno
  refine PySem.W.set_plain I.kIn at_ T.sa ?_
  refine PySem.W.osa_openX T.sf I.kIn at_ T.ov tak fun b => ?_
  show wpAny _ _ (Builtin.ObjectAttr.storeInOwnDict (.ref a) (.ref C) (.str f t) f u b) _ _ _
  obtain ⟨cd, hc, hdc⟩ := PySem.W.any_some T.hd
  refine wpAny_bind (wpAny_pure (wpAny_bind (PySem.W.instanceDict_exc (c2 := .none) ho (PySem.W.looks_clsIn I.kIn hc) hdc ?_)))
  have free : H hp.objs.size = none := I.hok.fresh (Nat.le_refl _)
  have away : ∀ {b : Addr} {o : Obj}, hp.get? b = some o → b ≠ hp.objs.size := fun z => Nat.ne_of_lt (Heap.lt_size z)
  have pushed : (hp.push (PySem.W.dictOf [] 0)).get? a = _ := Heap.get?_push_of_some _ ho
  show wpAny _ _ (Builtin.ObjectAttr.storeInDict hp.objs.size (.str f t) f u) _ _ _
  refine HandSPX.store_in_new ?_ fun h2 tk2 names same => ?_
  · refine ⟨_, #[], _, Eq.trans (Heap.get?_update_ne _ _ _ _ ?_) (Heap.get?_push_at rfl rfl), rfl, ?_, fun _ => rfl⟩
    · exact (away ho).symm
    · intro z hz
      exact absurd hz (by simp)
  · have selfA : h2.get? a = some _ := (same.2 a (away ho)).trans (Heap.get?_update_self _ pushed rfl)
    have others : ∀ (b : Addr) (o : Obj), b ≠ a → hp.get? b = some o → h2.get? b = some o := fun b o hb z => by
      rw [same.2 b (away z), Heap.get?_update_ne _ _ _ _ hb]
      exact Heap.get?_push_of_some _ z
    have notA : ∀ {b : Addr}, H b = none → b ≠ a := fun n z => by rw [z, e] at n; cases n
    have unlike : ∀ {b : Addr} {o : HO}, H b = some o → exo a C none ≠ o → upd (upd H hp.objs.size (exd hp.objs.size [(f, y)])) a (exo a C (some hp.objs.size)) b = some o := fun z ne => by
      rw [upd_ne (at_ne e z ne), upd_ne (ne_of_none z free)]
      exact z
    refine h hp.objs.size _ free (notA free) (I.un (t' := tk2) ⟨?_, ?_, ?_, ?_, ?_, ?_, ?_⟩ ?_)
    · exact fun b o z n _ _ => others b o (notA n) z
    · exact fun b o z n _ _ => ⟨o.slots, others b o (notA n) z⟩
    · intro b o z n _
      rw [upd_ne (notA n), upd_ne (away z)]
      exact n
    · intro b o z _
      by_cases hb : b = a
      · exact ⟨_, by rw [hb]; exact selfA⟩
      · exact ⟨o, others b o hb z⟩
    · exact fun b xs z => unlike z exo_tup
    · exact fun b o v z => unlike z exo_frz
    · exact fun b ps z => ⟨#[], by rw [unlike z exo_tbl, Array.append_empty]⟩
    · intro b o z
      by_cases hb : b = a
      · subst hb
        rw [upd_same] at z
        cases z
        exact exo_ok selfA
      · rw [upd_ne hb] at z
        by_cases hd : b = hp.objs.size
        · subst hd
          rw [upd_same] at z
          cases z
          exact exd_ok names (relO_put (fs := []) ry fun _ => True.intro)
        · rw [upd_ne hd] at z
          refine (I.hok b o z).stay (fun c v hc q => others c v ?_ q) (fun c hc => unlike hc exo_own) (fun c xs hc => unlike hc exo_tup)
          rcases hc with hc | hc
          · rw [hc]; exact hb
          · exact at_ne e hc exo_own
/-- a further field -/
theorem err_set1 {Q : Unit → Shared → Prop} (T : ErC X.K C B nw ini bmB) (I : Inv X pins σ H s) (e : H a = some (exo a C (some dx))) (ed : H dx = some (exd dx fs)) (hl : fs.length ≤ 900) (hno : PySem.W.findIn X.K (.ref C) f = some none) (ry : RelV y u)
    (h : ∀ s', Inv X pins σ (upd H dx (exd dx ((f, y) :: fs))) s' → Q () s') : wpAny (model X.prog X.w) A (setAttr (.ref a) f u) Q E s := by
  obtain ⟨t1, ho⟩ := exo_at I.hok e
  obtain ⟨mA, hns, rel⟩ := exd_at I.hok ed
  have wi := within_of rel
  obtain ⟨hp, g, dr, t, os⟩ := s
  obtain ⟨od, _, _, hod, _, _⟩ := hns.count wi
  have at_ : PySem.W.InstAt hp a _ C (some od) := ⟨ho, rfl, rfl, hod⟩
  refine PySem.W.set_plain I.kIn at_ T.sa ?_
  refine PySem.W.osa_openX T.sf I.kIn at_ T.ov (NoAttr.taker hno) fun b => ?_
  show wpAny _ _ (Builtin.ObjectAttr.storeInOwnDict (.ref a) (.ref C) (.str f t) f u b) _ _ _
  obtain ⟨cd, hc, hdc⟩ := PySem.W.any_some T.hd
  obtain ⟨c1, c2, c3, c4, c5, c6, c7, c8, c9, c10, c11⟩ := cd
  dsimp only at hdc
  subst hdc
  have lc := PySem.W.looks_clsIn (M := model X.prog X.w) I.kIn hc
  unfold Builtin.ObjectAttr.storeInOwnDict Builtin.ObjectAttr.ownDictForStores
  repeat (first | with_reducible refine OEX.store_in_old hns wi (by rw [List.length_map]; omega) ?_ | with_reducible refine wpAny_loadPart_at ho ?_ | with_reducible refine lc.at ?_ | wp_step)
  intro h2 tk2 names same
  refine h _ (I.write (t' := tk2) (x := dx) (e := dx) (o := exd dx ((f, y) :: fs)) (by rw [ed]; exact True.intro) (.inl rfl) (fun b o hb z => (same.2 b hb).trans z) ?_ (exd_ok names (relO_put ry rel)))
  obtain ⟨o, _, _, z, _⟩ := names
  exact ⟨o, z⟩
/-- C(..): a new error, its __init__ keeping sp -/
def tErr (C : Addr) (sp : Sp) (t : TA) : TE := fun σ H Q => t σ H fun vs H1 => vs.length ≤ 1000 ∧ ∀ p, H1 p = none → sp (.ref p :: vs) (upd H1 p (exo p C none)) (fun v H2 => v = .non ∧ Q (.ref p) H2) E0
theorem run_err {CX : CXT} {k : Nat} {fi : Addr} {fd : FuncData} {ps : List Str} {sp : Sp} {Q : VK} {us : List Value} {vs : List V} (T : ErC X.K C B nw ini bmB) (ci : PySem.W.findIn X.K (.ref C) "__init__" = some (some (.ref fi))) (ti : PySem.W.typeIn X.K (.ref fi) = some (.type "function"))
    (F : FnOk X.prog X.w X.K X.mg X.base CX k fi fd ps sp) (hr : Room (k + 1) X.A) (hb : Binds X.K fd ps []) (hx : Passes CX X E0) (I : Inv X pins σ H s) (r : Vals vs us) (hz : vs.length ≤ 1000)
    (h : ∀ p, H p = none → sp (.ref p :: vs) (upd H p (exo p C none)) (fun v H2 => v = .non ∧ Q (.ref p) H2) E0) : wpAny (model X.prog X.w) X.A (call (.ref C) us) (EP X pins σ Q) X.xe s := by
  obtain ⟨hp, g, dr, t, os⟩ := s
  obtain ⟨nm, N, qn, bs, bm, hdct, sn, sub, ab, col, dd, k0, k1, k2, k3, k5, hC, hT⟩ := PySem.W.excInit_of I.kIn T.made
  have new : H (hp.objs.size + 1) = none := I.hok.fresh (Nat.le_succ _)
  have ask := h (hp.objs.size + 1) new
  have got : ((hp.push (PySem.W.kdv_tup us)).push (HandSPX.excO C hp.objs.size)).get? (hp.objs.size + 1) = some (HandSPX.excO C hp.objs.size) := by heap_get
  have J := I.laid (t' := t) (a := hp.objs.size + 1) (o := exo (hp.objs.size + 1) C none) (h' := (hp.push (PySem.W.kdv_tup us)).push (HandSPX.excO C hp.objs.size)) (fun b o z => Heap.get?_push_of_some _ (Heap.get?_push_of_some _ z)) (Nat.le_succ _) (exo_ok got)
  have rr : Vals (V.ref (hp.objs.size + 1) :: vs) (Value.ref (hp.objs.size + 1) :: us) := .cons rfl r
  have len : (Value.ref (hp.objs.size + 1) :: us ++ []).length = ps.length := by
    rw [List.append_nil, ← rr.length]
    exact F.len _ _ _ _ ask
  have bnd := hb _ (Value.ref (hp.objs.size + 1) :: us) J.kIn len
  rw [List.append_nil] at bnd
  have hus : us.length ≤ sizeLine := by rw [← r.length]; exact small (by omega)
  refine wpAny_call (HandSPX.call_own T.fb hT hC (PySem.W.looks_findIn I.kIn ci) (fun self => PySem.W.bind_fn I.kIn self ti) hus
    (codeAny_mono (F.run _ X.stack _ _ ⟨Value.ref (hp.objs.size + 1) :: us, []⟩ _ _ _ E0 (hr.make C us []) (J.env0.make C us []) bnd rr ask) fun res s2 z => ?_))
  cases res with
  | error er => exact hx pins σ _ _ er s2 J z
  | ok fl =>
    cases fl with
    | ret u2 =>
      obtain ⟨v, H2, I2, rv, ev, q2⟩ := J.after z
      subst ev
      exact ⟨rv, ⟨V.ref (hp.objs.size + 1), H2, I2, rfl, q2⟩⟩
    | next => exact False.elim z
    | brk => exact False.elim z
    | cont => exact False.elim z
end
section
variable {X : Cx} {C fi : Addr} {B nw ini : String} {bmB : List Value} {CX : CXT} {k : Nat} {fd : FuncData} {ps : List Str} {sp : Sp} {x : Str} {p pos : Pos} {e : Expr} {es : List Expr} {t : TA}
theorem pe_err (T : ErC X.K C B nw ini bmB) (ci : PySem.W.findIn X.K (.ref C) "__init__" = some (some (.ref fi))) (ti : PySem.W.typeIn X.K (.ref fi) = some (.type "function")) (F : FnOk X.prog X.w X.K X.mg X.base CX k fi fd ps sp) (hr : Room (k + 1) X.A) (hb : Binds X.K fd ps [])
    (hx : Passes CX X E0) (hg : Gl X x) (hm : X.mg x = some (.ref C)) (ha : PA X (e :: es) t) (hdb : (x == ("__debug__" : Str)) = false := by decide) (he : starEach (e :: es) X.env = (false, eval e X.env) :: starEach es X.env := by rfl)
    (hpl : (backTo pos (starEach es X.env)).any (·.1) = false := by rfl) : PE X (.Call (.Name x p) (e :: es) [] pos) (tErr C sp t) := ⟨fun pins s σ H Q I h =>
  wpAny_Call_Name_kw (ld_glob I hg hm (PySem.W.callWith_K (h₀ := X.base) I.ok.mod.kin T.kp (thn (ha.run pos pins s σ H _ I h) fun us s1 ⟨vs, H1, I1, r, hz, q⟩ => ⟨I1.kIn, run_err T ci ti F hr hb hx I1 r hz q⟩) he hpl) hdb)⟩
theorem pe_err0 (T : ErC X.K C B nw ini bmB) (ci : PySem.W.findIn X.K (.ref C) "__init__" = some (some (.ref fi))) (ti : PySem.W.typeIn X.K (.ref fi) = some (.type "function")) (F : FnOk X.prog X.w X.K X.mg X.base CX k fi fd ps sp) (hr : Room (k + 1) X.A) (hb : Binds X.K fd ps [])
    (hx : Passes CX X E0) (hg : Gl X x) (hm : X.mg x = some (.ref C)) (hdb : (x == ("__debug__" : Str)) = false := by decide) : PE X (.Call (.Name x p) [] [] pos) (tErr C sp tNil) := ⟨fun pins s σ H Q I h =>
  wpAny_Call_Name_kw (ld_glob I hg hm (PySem.W.callWith_K0 I.kIn T.kp (run_err (us := []) T ci ti F hr hb hx I .nil h.1 h.2)) hdb)⟩
/-- isinstance(e, c) of such an error -/
theorem call_isiE : CallR X (.builtin "isinstance") (fun xs H Q => ∃ (a C dx : Addr) (B nw ini : String) (bmB : List Value) (c : V) (u : Value) (b : Bool), xs = [.ref a, c] ∧ ErC X.K C B nw ini bmB ∧ ClsV c u ∧ H a = some (exo a C (some dx)) ∧ (∃ fs, H dx = some (exd dx fs)) ∧ PySem.W.kitOne X.K (.ref C) u = some b ∧ Q (.bl b) H) := by
  intro pins s σ H xs us Q I r h
  obtain ⟨a, C, dx, B, nw, ini, bmB, c, u, b, rfl, T, k, ea, ⟨fs, ed⟩, e, q⟩ := h
  obtain ⟨u1, u2, rfl, r1, r2⟩ := vals2 r
  cases k.eq r2
  cases (show u1 = Value.ref a from r1)
  obtain ⟨t1, ho⟩ := exo_at I.hok ea
  obtain ⟨mA, hns, rel⟩ := exd_at I.hok ed
  obtain ⟨od, hod, _⟩ := lookIn_ns hns
  have at_ : PySem.W.InstAt s.heap a _ C (some od) := ⟨ho, rfl, rfl, hod⟩
  exact PySem.W.kia_one (PySem.W.kitx_exc T.cl T.ga T.gt T.sb T.ca T.gs T.tk T.mo) I.kIn at_ e (fun z => nomatch z) fun tk => ⟨.bl b, H, I.tok tk, rfl, q⟩
end
end DL

namespace DL
open PySem PySem.Spec PyProof.Rows
open L2 hiding St
/-! ### __init__ of an own error -/
def sErr (K : PySem.W.Frag) (f : Str) (to te : TE) : TS := fun D σ H => te σ H fun y H1 => to σ H1 fun x H2 => ∃ (a C : Addr) (B nw ini : String) (bmB : List Value), x = .ref a ∧ ErC K C B nw ini bmB ∧ PySem.W.findIn K (.ref C) f = some none ∧
  ((H2 a = some (exo a C none) ∧ ∀ d, H2 d = none → d ≠ a → D.nx σ (upd (upd H2 d (exd d [(f, y)])) a (exo a C (some d)))) ∨
   ∃ (dx : Addr) (fs : List (Str × V)), H2 a = some (exo a C (some dx)) ∧ H2 dx = some (exd dx fs) ∧ fs.length ≤ 900 ∧ D.nx σ (upd H2 dx (exd dx ((f, y) :: fs))))
section
variable {X : Cx} {o e : Expr} {to te : TE} {f : Str} {p' pos : Pos}
theorem ps_err (ho : PE X o to) (he : PE X e te) (hs : swapsWith e (some (.Attribute o f p')) pos.line X.env = pure false := by rfl) : PS X (.Assign [.Attribute o f p'] e pos) (sErr X.K f to te) := ⟨fun pins s σ H D I h =>
  plainObj_wpAny_Assign_Attribute (thn (he.run pins s σ H _ I h) fun v s1 ⟨y, H1, I1, r1, q1⟩ => thn (ho.run pins s1 σ H1 _ I1 q1) fun u s2 ⟨x, H2, I2, r2, a, C, B, nw, ini, bmB, ex, T, hno, q⟩ => by
    subst ex
    cases (show u = Value.ref a from r2)
    rcases q with ⟨ea, q⟩ | ⟨dx, fs, ea, ed, hl, q⟩
    · exact err_set0 T I2 ea hno r1 fun d s' n ne J => ⟨σ, _, J, q d n ne⟩
    · exact err_set1 T I2 ea ed hl hno r1 fun s' J => ⟨σ, _, J, q⟩) hs⟩
end
/-- self.f = y; self.code = code -/
def spI1 (C : Addr) (f code : Str) : Sp := fun vs H Q _ => ∃ p y, vs = [.ref p, y] ∧ H p = some (exo p C none) ∧ ∀ dx, H dx = none → dx ≠ p → Q .non (upd (upd H dx (exd dx [("code", .str code), (f, y)])) p (exo p C (some dx)))
/-- self.code = code -/
def spI0 (C : Addr) (code : Str) : Sp := fun vs H Q _ => ∃ p, vs = [.ref p] ∧ H p = some (exo p C none) ∧ ∀ dx, H dx = none → dx ≠ p → Q .non (upd (upd H dx (exd dx [("code", .str code)])) p (exo p C (some dx)))
theorem upd_swap {H : Hp} {a b : Addr} {o u : HO} (h : a ≠ b) : upd (upd H a o) b u = upd (upd H b u) a o := by
  funext c
  unfold upd
  by_cases h1 : c = b
  · rw [if_pos h1]
    by_cases h2 : c = a
    · exact absurd (h2.symm.trans h1) h
    · rw [if_neg h2]; rw [if_pos h1]
  · rw [if_neg h1]
    by_cases h2 : c = a
    · rw [if_pos h2, if_pos h2]
    · rw [if_neg h2, if_neg h2, if_neg h1]
section
variable {P : Program} {w : World} {K : PySem.W.Frag} {mg : Str → Option Value} {base : Heap} {C fi : Addr} {B nw ini : String} {bmB : List Value} {qual f code pn : Str} {st : Stmt} {fd : FuncData}
theorem ok_init1 (F : Fun K "__init__" qual st fi fd) (sc : FnScope ["self", pn] ["self", pn] (defScope st)) (T : ErC K C B nw ini bmB) (n1 : PySem.W.findIn K (.ref C) f = some none) (n2 : PySem.W.findIn K (.ref C) "code" = some none)
    (hb : ∀ (cdv : Value) (A : Around) (outer : List Env) (s : Shared) (H : Hp) (E : XK), PSs (cxOf CX0 P w K mg base ["self", pn] qual (defScope st) fi cdv A outer s H E).nox (defBody st) (tSeq (sErr K f (tVar 0) (tVar 1)) (sErr K "code" (tVar 0) (tC (.str code))))) : FnOk P w K mg base CX0 1 fi fd ["self", pn] (spI1 C f code) := by
  refine F.ok (k := 0) sc (fun vs H Q E h => ?_) (fun cdv A outer s H vs Q E hr h => ⟨_, hb cdv A outer s H E, ?_⟩)
  · obtain ⟨p, y, rfl, _⟩ := h; rfl
  · obtain ⟨p, y, rfl, hp, q⟩ := h
    refine ⟨_, rfl, _, rfl, p, C, B, nw, ini, bmB, rfl, T, n1, .inl ⟨hp, fun d hd ne => ?_⟩⟩
    refine ⟨_, rfl, p, C, B, nw, ini, bmB, rfl, T, n2, .inr ⟨d, [(f, y)], upd_same, by rw [upd_ne ne, upd_same], by show 1 ≤ 900; decide, ?_⟩⟩
    have z := q d hd ne
    rw [upd_swap ne] at z
    rw [upd_swap ne, upd_upd]
    exact z
theorem ok_init0 (F : Fun K "__init__" qual st fi fd) (sc : FnScope ["self"] ["self"] (defScope st)) (T : ErC K C B nw ini bmB) (n2 : PySem.W.findIn K (.ref C) "code" = some none)
    (hb : ∀ (cdv : Value) (A : Around) (outer : List Env) (s : Shared) (H : Hp) (E : XK), PSs (cxOf CX0 P w K mg base ["self"] qual (defScope st) fi cdv A outer s H E).nox (defBody st) (sErr K "code" (tVar 0) (tC (.str code)))) : FnOk P w K mg base CX0 1 fi fd ["self"] (spI0 C code) := by
  refine F.ok (k := 0) sc (fun vs H Q E h => ?_) (fun cdv A outer s H vs Q E hr h => ⟨_, hb cdv A outer s H E, ?_⟩)
  · obtain ⟨p, rfl, _⟩ := h; rfl
  · obtain ⟨p, rfl, hp, q⟩ := h
    exact ⟨_, rfl, p, C, B, nw, ini, bmB, rfl, T, n2, .inl ⟨hp, fun d hd ne => q d hd ne⟩⟩
end
/-- two new objects -/
theorem Po.new2 {K : PySem.W.Frag} {G H : Hp} {R : D → Prop} {Q : VK} (p : Po K G H R Q) (h : Hid G H) {a b : Addr} {o u : HO} {d : D} {v : V} (n : H a = none) (m : H b = none) (ne : b ≠ a) (r : Rep K (upd (upd G a o) b u) d v) (q : R d) : Q v (upd (upd H a o) b u) := by
  have e := lay_self h.same
  have n' : lay G H G a = none := by rw [e]; exact n
  have e1 := lay_upd (o := o) n'
  rw [e] at e1
  have m' : lay G H (upd G a o) b = none := by rw [← e1, upd_ne ne]; exact m
  have gb : upd G a o b = none := by rw [upd_ne ne]; exact h.same.free m
  have z := p v (upd (upd G a o) b u) d ((same_upd (h.same.free n)).trans (same_upd gb)) ((Kp.self.upd n').upd m') r q
  rw [← lay_upd m', ← e1] at z
  exact z
section
variable {X : Cx} {C fi : Addr} {B nw ini : String} {bmB : List Value} {fd : FuncData} {x f code pn : Str} {p pos : Pos} {e : Expr} {te : ED}
theorem qe_err1 (T : ErC X.K C B nw ini bmB) (ci : PySem.W.findIn X.K (.ref C) "__init__" = some (some (.ref fi))) (ti : PySem.W.typeIn X.K (.ref fi) = some (.type "function")) (F : FnOk X.prog X.w X.K X.mg X.base CX0 1 fi fd ["self", pn] (spI1 C f code)) (hr : Room 2 X.A) (hb : Binds X.K fd ["self", pn] [])
    (hx : Passes CX0 X E0) (hg : Gl X x) (hm : X.mg x = some (.ref C)) (he : QE X e te) (hdb : (x == ("__debug__" : Str)) = false := by decide) (hs : starEach [e] X.env = (false, eval e X.env) :: starEach [] X.env := by rfl)
    (hpl : (backTo pos (starEach [] X.env)).any (·.1) = false := by rfl) : QE X (.Call (.Name x p) [e] [] pos) (fun ρ R => te ρ fun d => R (.err C ["code", f] [.str code, d])) := ⟨fun G H ρ σ R Q S h po =>
  W.of (pe_err T ci ti F hr hb hx hg hm (pa_cons pe_w pa_nil hs) hdb hs hpl) (he.run G H ρ σ _ _ S h fun v G1 d s1 k1 r1 q1 => by
    refine ⟨by show 1 ≤ 1000; decide, fun a ha => ⟨a, v, rfl, upd_same, fun dx hd ne => ⟨rfl, ?_⟩⟩⟩
    have S1 := S.step s1 k1
    have hd' : lay G H G1 dx = none := by rw [upd_ne ne] at hd; exact hd
    have z := (po.seq s1 k1).new2 (a := dx) (b := a) (o := exd dx [("code", .str code), (f, v)]) (u := exo a C (some dx)) (d := .err C ["code", f] [.str code, d]) (v := .ref a) S1.hid hd' ha ne.symm ?_ q1
    · rw [upd_swap ne.symm, upd_upd]
      exact z
    · have g1 : G1 dx = none := S1.hid.same.free hd'
      have g2 : upd G1 dx (exd dx [("code", .str code), (f, v)]) a = none := by rw [upd_ne ne.symm]; exact S1.hid.same.free ha
      exact ⟨a, dx, [.str code, v], rfl, upd_same, by rw [upd_ne ne, upd_same]; rfl, rfl, _, _, rfl, rfl, _, _, rfl, Rep.mono ((same_upd g1).trans (same_upd g2)) d v r1, rfl⟩)⟩
theorem qe_err0 (T : ErC X.K C B nw ini bmB) (ci : PySem.W.findIn X.K (.ref C) "__init__" = some (some (.ref fi))) (ti : PySem.W.typeIn X.K (.ref fi) = some (.type "function")) (F : FnOk X.prog X.w X.K X.mg X.base CX0 1 fi fd ["self"] (spI0 C code)) (hr : Room 2 X.A) (hb : Binds X.K fd ["self"] [])
    (hx : Passes CX0 X E0) (hg : Gl X x) (hm : X.mg x = some (.ref C)) (hdb : (x == ("__debug__" : Str)) = false := by decide) : QE X (.Call (.Name x p) [] [] pos) (fun _ R => R (.err C ["code"] [.str code])) := ⟨fun G H ρ σ R Q S h po =>
  W.of (pe_err0 T ci ti F hr hb hx hg hm hdb) (by
    refine ⟨by show 0 ≤ 1000; decide, fun a ha => ⟨a, rfl, upd_same, fun dx hd ne => ⟨rfl, ?_⟩⟩⟩
    have hd' : H dx = none := by rw [upd_ne ne] at hd; exact hd
    have z := po.new2 (a := dx) (b := a) (o := exd dx [("code", .str code)]) (u := exo a C (some dx)) (d := .err C ["code"] [.str code]) (v := .ref a) S.hid hd' ha ne.symm ?_ h
    · rw [upd_swap ne.symm, upd_upd]
      exact z
    · exact ⟨a, dx, [.str code], rfl, upd_same, by rw [upd_ne ne, upd_same]; rfl, rfl, _, _, rfl, rfl, rfl⟩)⟩
/-- a field of an error -/
def ErF (K : PySem.W.Frag) (C : Addr) (f : Str) : Prop := ∃ B nw ini bmB, ErC K C B nw ini bmB ∧ PySem.W.findIn K (.ref C) f = some none
def dErrF (K : PySem.W.Frag) (f : Str) (te : ED) : ED := fun ρ R => te ρ fun d => match d with
  | .err C ns ds => ErF K C f ∧ ∃ c, (ns.zip ds).lookup f = some c ∧ R c
  | _ => False
theorem zip_rep {K : PySem.W.Frag} {G : Hp} {f : Str} {c : D} : ∀ {ns : List Str} {ds : List D} {xs : List V}, RepAll K G ds xs → (ns.zip ds).lookup f = some c → ∃ v, (ns.zip xs).lookup f = some v ∧ Rep K G c v
  | [], ds, xs, _, h => by simp at h
  | n :: ns, [], xs, _, h => by simp at h
  | n :: ns, d :: ds, _, ⟨x, r, rfl, hx, t⟩, h => by
    rw [List.zip_cons_cons, List.lookup_cons] at h ⊢
    cases e : f == n with
    | true => rw [e] at h; cases h; exact ⟨x, rfl, hx⟩
    | false => rw [e] at h; exact zip_rep t h
theorem qe_errf (he : QE X e te) (hb : attributeBase e f X.env (eval e X.env) = eval e X.env := by rfl) : QE X (.Attribute e f pos) (dErrF X.K f te) := ⟨fun G H ρ σ R Q S h po => by
  intro pins s I
  refine attr_of hb (thn (he.run G H ρ σ _ (fun v H1 => ∃ G1 d, Same G G1 ∧ Kp G H G1 ∧ H1 = lay G H G1 ∧ Rep X.K G1 d v ∧ (match d with | .err C ns ds => ErF X.K C f ∧ ∃ c, (ns.zip ds).lookup f = some c ∧ R c | _ => False)) S h (fun v G1 d s1 k1 r1 q1 => ⟨G1, d, s1, k1, rfl, r1, q1⟩) pins s I) ?_)
  rintro u s2 ⟨v, H1, I1, rv, G1, d, s1, k1, rfl, r1, q1⟩
  cases d with
  | err C ns ds =>
    obtain ⟨⟨B, nw, ini, bmB, T, hno⟩, c, hc, q⟩ := q1
    obtain ⟨a, dx, xs, rfl, ea, ed, _, ra⟩ := r1
    obtain ⟨y, hy, ry⟩ := zip_rep ra hc
    cases (show u = Value.ref a from rv)
    have S1 := S.step s1 k1
    exact err_get T I1 (S1.hid.same _ _ ea) (S1.hid.same _ _ ed) hno hy fun w s3 I3 rw' => ⟨y, _, I3, rw', (po.seq s1 k1).here S1.hid ry q⟩
  | _ => exact q1.elim⟩
/-- isinstance(e, c) of an error, c a class by name -/
def dErrI (K : PySem.W.Frag) (u : Value) (te : ED) : ED := fun ρ R => te ρ fun d => match d with
  | .err C _ _ => (∃ B nw ini bmB, ErC K C B nw ini bmB) ∧ ∃ b, PySem.W.kitOne K (.ref C) u = some b ∧ R (.bl b)
  | _ => False
theorem qe_isiE {c : Expr} {cv : V} {u : Value} (pc : PE X c (tC cv)) (kv : ClsV cv u) (hg : Gl X "isinstance") (hm : X.mg "isinstance" = none) (he : QE X e te) (h1 : starEach [e, c] X.env = (false, eval e X.env) :: starEach [c] X.env := by rfl) (h2 : starEach [c] X.env = (false, eval c X.env) :: starEach [] X.env := by rfl)
    (hpl : (backTo pos (starEach [c] X.env)).any (·.1) = false := by rfl) : QE X (.Call (.Name "isinstance" p) [e, c] [] pos) (dErrI X.K u te) := ⟨fun G H ρ σ R Q S h po => by
  refine W.of (pe_callB call_isiE hg hm (by decide +kernel) (pa_cons pe_w (pa_cons pc pa_nil h2) h1) (by decide) (by decide) h1 hpl) ?_
  refine he.run G H ρ σ _ _ S h fun v G1 d s1 k1 r1 q1 => ?_
  have S1 := S.step s1 k1
  cases d with
  | err C ns ds =>
    obtain ⟨⟨B, nw, ini, bmB, T⟩, b, hb, q⟩ := q1
    obtain ⟨a, dx, xs, rfl, ea, ed, _, ra⟩ := r1
    exact ⟨a, C, dx, B, nw, ini, bmB, cv, u, b, rfl, T, kv, S1.hid.same _ _ ea, ⟨_, S1.hid.same _ _ ed⟩, hb, (po.seq s1 k1).here (d := .bl b) S1.hid rfl q⟩
  | _ => exact q1.elim⟩
end
end DL

namespace DL
open PySem PySem.Spec
open PySem.HandSPX
section
variable {prog : Program} {w : World} {A : Around} {E : Value → Shared → Prop} {R : Result → Shared → Prop} {M : Model} {h : Heap} {g : Array GenState} {d : Drawn} {t : Nat} {os : OsState}
variable {nm q : Str} {C N : Addr} {bs bm bmB : List Value} {hdct : Bool} {sn : List Str} {sub : List Value} {ab : Bool} {col : Option Bool} {dd : Option Addr} {k0 k1 k2 k3 k5 : Option Value} {B newId initId : String} {kw : List (Str × Value)}
/-- the checks ahead of __new__ do not mind keywords -/
theorem new_check (F : ExcBaseFacts B newId initId bmB) (hT : ∀ T : String, bm.contains (.type T) = bmB.contains (.type T)) {Q : Unit → Shared → Prop}
    (hC : h.get? C = some (excClassObj nm q C N bs bm hdct sn sub ab col dd k0 k1 k2 k3 k5 newId)) (hq : Q () ⟨h, g, d, t, os⟩) : wpAny M A (checkBuiltinCall newId ⟨[.ref C], kw⟩) Q E ⟨h, g, d, t, os⟩ := by
  have isB : (Value.ref C :: bm).contains (.type B) = true := by rw [List.contains_cons, hT, F.hasB, Bool.or_true]
  have star := F.noStar
  simp only [checkBuiltinCall, F.newKind, F.newSplit, F.newRow]
  repeat (first | refine wpAny_loadPart_at hC ?_ | (refine wpAny_isSubtype_exc hC ?_; rw [isB]) | refine wpAny_staticBase_exc hC ?_ | refine wpAny_madeBy_exc hC ?_ | simp only [bne_self_eq_false, Bool.false_eq_true, if_false] | wp_step)
  exact hq
/-- __new__ lays the error with no args -/
theorem new_lays (F : ExcBaseFacts B newId initId bmB) (hT : ∀ T : String, bm.contains (.type T) = bmB.contains (.type T)) (hC : h.get? C = some (excClassObj nm q C N bs bm hdct sn sub ab col dd k0 k1 k2 k3 k5 newId))
    (hq : R (.ok (.ret (.ref (h.objs.size + 1)))) ⟨(h.push (W.kdv_tup [])).push (excO C h.objs.size), g, d, t, os⟩) : codeAny (model prog w) A (.builtin newId ⟨[.ref C], kw⟩) R ⟨h, g, d, t, os⟩ := by
  have last := F.ends
  have isB : (Value.ref C :: bm).contains (.type B) = true := by rw [List.contains_cons, hT, F.hasB, Bool.or_true]
  have noA : (Value.ref C :: bm).contains (.type "AttributeError") = false := by rw [List.contains_cons, hT, F.noAttr]; rfl
  have noN : (Value.ref C :: bm).contains (.type "NameError") = false := by rw [List.contains_cons, hT, F.noName]; rfl
  have few : ([] : List Value).length ≤ sizeLine := Nat.zero_le _
  refine codeAny_builtinAt F.entry ?_
  unfold Builtin.«BaseException.__new__»
  refine PySem.wpAt_bind ?_
  show wpAt _ _ _ (stack >>= _) _ _ _
  refine PySem.wpAt_bind (wpAt_stack fun p below => wpAt_of_wpAny ?_)
  wp_walk
  refine wpAt_of_wpAny ?_
  rw [F.owner]
  repeat (first | with_reducible refine wpAny_madeHere_exc F.canon hC ?_ | with_reducible refine wpAny_loadPart_at hC ?_ | (with_reducible refine wpAny_isSubtype_exc hC ?_; first | rw [isB] | rw [noA] | rw [noN]) | wp_step)
  show R _ _
  rw [Heap.size_push]
  exact hq
theorem type_kw (F : ExcBaseFacts B newId initId bmB) (hT : ∀ T : String, bm.contains (.type T) = bmB.contains (.type T)) {fI : Addr} {Q : PySem.Fin → Shared → Prop} (hC : h.get? C = some (excClassObj nm q C N bs bm hdct sn sub ab col dd k0 k1 k2 k3 k5 newId))
    (hi : W.Looks (model prog w) h (typeLookup (.ref C) "__init__") (some (.ref fI))) (hb : ∀ self, W.Looks (model prog w) h (bindSpecial (.ref fI) self) (.ref fI, [self]))
    (hq : codeAny (model prog w) A (.call (.ref fI) ⟨[.ref (h.objs.size + 1)], kw⟩) (fun r s' => match r with | .ok (.ret v) => v = .none ∧ Q (.done (.ret (.ref (h.objs.size + 1)))) s' | .ok _ => False | .error e => E e s') ⟨(h.push (W.kdv_tup [])).push (excO C h.objs.size), g, d, t, os⟩) :
    wpAny (model prog w) A (Builtin.«type.__call__» ⟨[.ref C], kw⟩) Q E ⟨h, g, d, t, os⟩ := by
  have kept : ∀ b o, h.get? b = some o → ((h.push (W.kdv_tup [])).push (excO C h.objs.size)).get? b = some o := fun b o z => Heap.get?_push_of_some _ (Heap.get?_push_of_some _ z)
  have cls2 := kept _ _ hC
  have err2 : ((h.push (W.kdv_tup [])).push (excO C h.objs.size)).get? (h.objs.size + 1) = some (excO C h.objs.size) := by heap_get
  have own : (Value.ref C :: bm).contains (.ref C) = true := by simp
  have li := hi.keeps kept
  have lb := (hb (.ref (h.objs.size + 1))).keeps kept
  repeat (first | with_reducible refine wpAny_loadPart_at hC ?_ | with_reducible refine wpAny_madeBy_exc hC ?_ | wp_step)
  refine codeAny_call_builtin_code (Code.quiet_builtin _ F.quiet) (new_check F hT hC (new_lays F hT hC ?_))
  show wpAny _ _ _ _ _ _
  unfold isInstance
  repeat (first | with_reducible refine wpAny_loadPart_at err2 ?_ | (with_reducible refine wpAny_isSubtype_exc cls2 ?_; rw [own]) | wp_step)
  show wpAny _ _ (typeLookup (.ref C) _) _ _ _
  refine li.at (wpAny_holding (wpAny_bind (lb.at (wpAny_bind (wpAny_call (codeAny_mono hq fun r s' z => ?_))))))
  rcases r with e | (v | _ | _ | _) <;> first | exact z | exact z.elim | skip
  obtain ⟨rfl, z⟩ := z
  first
    | exact wpAny_pure (wpAny_pure z)
    | (wp_walk; exact z)
theorem call_kw (F : ExcBaseFacts B newId initId bmB) (hT : ∀ T : String, bm.contains (.type T) = bmB.contains (.type T)) {fI : Addr} (hC : h.get? C = some (excClassObj nm q C N bs bm hdct sn sub ab col dd k0 k1 k2 k3 k5 newId))
    (hi : W.Looks (model prog w) h (typeLookup (.ref C) "__init__") (some (.ref fI))) (hb : ∀ self, W.Looks (model prog w) h (bindSpecial (.ref fI) self) (.ref fI, [self]))
    (hq : codeAny (model prog w) (A.under (.builtin "type.__call__" ⟨[.ref C], kw⟩)) (.call (.ref fI) ⟨[.ref (h.objs.size + 1)], kw⟩) (W.InitBack (h.objs.size + 1) R) ⟨(h.push (W.kdv_tup [])).push (excO C h.objs.size), g, d, t, os⟩) :
    codeAny (model prog w) A (.call (.ref C) ⟨[], kw⟩) R ⟨h, g, d, t, os⟩ := by
  have look := tc_lookup
  have bind := tc_bind (.ref C)
  have ty : (⟨h, g, d, t, os⟩ : Shared).TypeIs (.ref C) "type" := ⟨_, hC, rfl⟩
  refine codeAny_of_tree ?_
  show wpAny _ _ (callAny (.ref C) _) _ _ _
  repeat (any_goals (first | assumption | with_reducible refine wpAny_loadPart_at hC ?_ | wp_step))
  refine ⟨rfl, codeAny_call_builtin_at (Code.quiet_builtin _ (by decide +kernel)) entry_typeCall (wpAny_check_type_call_sub hC (type_kw F hT hC hi hb (codeAny_mono hq fun r s' z => ?_)))⟩
  rcases r with e | (v | _ | _ | _) <;> exact z
end
end DL

namespace DL
open PySem PySem.Spec PyProof.Rows
open L2 hiding St
/-- __init__(self, pn) called with self and pn=.. -/
def KBI (K : PySem.W.Frag) (fd : FuncData) (pn : Str) : Prop := ∀ (s : Shared) (p : Addr) (u : Value), K.In s.heap → BindsTo s fd ⟨[.ref p], [(pn, u)]⟩ (([("self" : Str), pn] : List Str).zip [.ref p, u])
section
variable {X : Cx} {pins : List (Addr × Obj)} {σ : St} {H : Hp} {s : Shared} {C : Addr} {B nw ini : String} {bmB : List Value}
theorem run_errK {k : Nat} {fi : Addr} {fd : FuncData} {pn : Str} {sp : Sp} {Q : VK} {u : Value} {v : V} (T : ErC X.K C B nw ini bmB) (ci : PySem.W.findIn X.K (.ref C) "__init__" = some (some (.ref fi))) (ti : PySem.W.typeIn X.K (.ref fi) = some (.type "function"))
    (F : FnOk X.prog X.w X.K X.mg X.base CX0 k fi fd ["self", pn] sp) (hr : Room (k + 1) X.A) (hb : KBI X.K fd pn) (hx : Passes CX0 X E0) (I : Inv X pins σ H s) (r : RelV v u)
    (h : ∀ p, H p = none → sp [.ref p, v] (upd H p (exo p C none)) (fun v H2 => v = .non ∧ Q (.ref p) H2) E0) : codeAny (model X.prog X.w) X.A (.call (.ref C) ⟨[], [(pn, u)]⟩) (fun r s' => match r with | .ok (.ret w) => EP X pins σ Q w s' | .ok _ => False | .error e => X.xe e s') s := by
  obtain ⟨hp, g, dr, t, os⟩ := s
  obtain ⟨nm, N, qn, bs, bm, hdct, sn, sub, ab, col, dd, k0, k1, k2, k3, k5, hC, hT⟩ := PySem.W.excInit_of I.kIn T.made
  have new : H (hp.objs.size + 1) = none := I.hok.fresh (Nat.le_succ _)
  have ask := h (hp.objs.size + 1) new
  have got : ((hp.push (PySem.W.kdv_tup [])).push (HandSPX.excO C hp.objs.size)).get? (hp.objs.size + 1) = some (HandSPX.excO C hp.objs.size) := by heap_get
  have J := I.laid (t' := t) (a := hp.objs.size + 1) (o := exo (hp.objs.size + 1) C none) (h' := (hp.push (PySem.W.kdv_tup [])).push (HandSPX.excO C hp.objs.size)) (fun b o z => Heap.get?_push_of_some _ (Heap.get?_push_of_some _ z)) (Nat.le_succ _) (exo_ok got)
  have rr : Vals [V.ref (hp.objs.size + 1), v] [Value.ref (hp.objs.size + 1), u] := .cons rfl (.cons r .nil)
  have bnd := hb _ (hp.objs.size + 1) u J.kIn
  refine call_kw T.fb hT hC (PySem.W.looks_findIn I.kIn ci) (fun self => PySem.W.bind_fn I.kIn self ti)
    (codeAny_mono (F.run _ X.stack _ _ ⟨[Value.ref (hp.objs.size + 1)], [(pn, u)]⟩ _ _ _ E0 (hr.make C [] [(pn, u)]) (J.env0.make C [] [(pn, u)]) bnd rr ask) fun res s2 z => ?_)
  cases res with
  | error er => exact hx pins σ _ _ er s2 J z
  | ok fl =>
    cases fl with
    | ret u2 =>
      obtain ⟨v, H2, I2, rv, ev, q2⟩ := J.after z
      subst ev
      exact ⟨rv, ⟨V.ref (hp.objs.size + 1), H2, I2, rfl, q2⟩⟩
    | next => exact False.elim z
    | brk => exact False.elim z
    | cont => exact False.elim z
end
section
variable {X : Cx} {C fi : Addr} {B nw ini : String} {bmB : List Value} {fd : FuncData} {x f code pn : Str} {p pos kpos : Pos} {e : Expr} {te : ED}
theorem qe_errK (T : ErC X.K C B nw ini bmB) (ci : PySem.W.findIn X.K (.ref C) "__init__" = some (some (.ref fi))) (ti : PySem.W.typeIn X.K (.ref fi) = some (.type "function")) (F : FnOk X.prog X.w X.K X.mg X.base CX0 1 fi fd ["self", pn] (spI1 C f code)) (hr : Room 2 X.A) (hb : KBI X.K fd pn)
    (hx : Passes CX0 X E0) (hg : Gl X x) (hm : X.mg x = some (.ref C)) (he : QE X e te) (hdb : (x == ("__debug__" : Str)) = false := by decide) (hall : (backToKw pos (keywordEach [⟨some pn, e, kpos⟩] X.env)).all (·.1.isSome) = true := by rfl) (hks : (backToKw pos (keywordEach [⟨some pn, e, kpos⟩] X.env)).filterMap (·.1) = [pn] := by rfl)
    (hpl : ((backTo pos (starEach [] X.env)).any (·.1) || (backToKw pos (keywordEach [⟨some pn, e, kpos⟩] X.env)).any (·.1.isNone)) = false := by rfl) : QE X (.Call (.Name x p) [] [⟨some pn, e, kpos⟩] pos) (fun ρ R => te ρ fun d => R (.err C ["code", f] [.str code, d])) := ⟨fun G H ρ σ R Q S h po pins s I => by
  refine wpAny_Call_Name_kw (ld_glob I hg hm ?_ hdb)
  refine PySem.W.callWith_KW0 (h₀ := X.base) I.ok.mod.kin T.kp hall (thn ((qk_cons he qk_nil).run G H ρ σ (fun ds => match ds with | [d] => R (.err C ["code", f] [.str code, d]) | _ => False) (fun zs H1 => ∃ v, zs = [v] ∧ ∀ p, H1 p = none → spI1 C f code [.ref p, v] (upd H1 p (exo p C none)) (fun v H2 => v = .non ∧ Q (.ref p) H2) E0) S h (fun vs G1 ds s1 k1 r1 q1 => ?_) pos pins s I) ?_) hpl
  · match ds, q1 with
    | [d], q1 =>
      obtain ⟨v, rfl, rv⟩ := one_of r1
      refine ⟨v, rfl, fun a ha => ⟨a, v, rfl, upd_same, fun dx hd ne => ⟨rfl, ?_⟩⟩⟩
      have S1 := S.step s1 k1
      have hd' : lay G H G1 dx = none := by rw [upd_ne ne] at hd; exact hd
      have z := (po.seq s1 k1).new2 (a := dx) (b := a) (o := exd dx [("code", .str code), (f, v)]) (u := exo a C (some dx)) (d := .err C ["code", f] [.str code, d]) (v := .ref a) S1.hid hd' ha ne.symm ?_ q1
      · rw [upd_swap ne.symm, upd_upd]
        exact z
      · have g1 : G1 dx = none := S1.hid.same.free hd'
        have g2 : upd G1 dx (exd dx [("code", .str code), (f, v)]) a = none := by rw [upd_ne ne.symm]; exact S1.hid.same.free ha
        exact ⟨a, dx, [.str code, v], rfl, upd_same, by rw [upd_ne ne, upd_same]; rfl, rfl, _, _, rfl, rfl, _, _, rfl, Rep.mono ((same_upd g1).trans (same_upd g2)) d v rv, rfl⟩
  · rintro ws s2 ⟨zs, H2, I2, rz, v, rfl, q2⟩
    refine ⟨I2.kIn, ?_⟩
    rw [hks]
    cases rz with
    | cons r0 rn =>
      cases rn
      refine wpAny_call (codeAny_mono (run_errK T ci ti F hr hb hx I2 r0 q2) fun r s' hq => ?_)
      rcases r with e | (w | _ | _ | _) <;> exact hq⟩
end
end DL

namespace DL
open PySem PySem.Spec PyProof.Rows
open L2 hiding St
/-! ### an own error's class by its name -/
abbrev veMro : List Value := [.type "ValueError", .type "Exception", .type "BaseException", .type "object"]
abbrev leMro : List Value := [.type "LookupError", .type "Exception", .type "BaseException", .type "object"]
/-- the facts of such a class, asked of the written part at once -/
def erB (K : PySem.W.Frag) (C : Addr) (nw : String) (bmB : List Value) (fs : List Str) : Bool :=
  PySem.W.excInitIn K C bmB nw && PySem.W.excOver K C bmB && decide (PySem.W.findIn K (.ref C) "__setattr__" = some (some (.builtin "object.__setattr__"))) && PySem.W.hasDictIn K C &&
  decide (PySem.W.findIn K (.ref C) "__getattribute__" = some (some (.builtin "BaseException.__getattribute__"))) && decide (PySem.W.findIn K (.ref C) "__getattr__" = some none) && decide (PySem.W.subIn K (.ref C) (.type "BaseException") = some true) && PySem.W.keepIn K (.ref C) && (PySem.W.clsIn K C).isSome &&
  decide (PySem.W.findIn K (.ref C) "__class__" = some (some (.builtin "object.__class__"))) && decide (PySem.W.mroIn K C (.type "object") = some true) && decide (PySem.W.specialIn K (.builtin "object.__class__") "__get__" = some (some (.builtin "getset_descriptor.__get__"))) && decide (PySem.W.takesIn K (.builtin "object.__class__") = some true) &&
  fs.all fun f => decide (PySem.W.findIn K (.ref C) f = some none)
theorem erB_ok {K : PySem.W.Frag} {C : Addr} {B nw ini : String} {bmB : List Value} {fs : List Str} (fb : ExcBaseFacts B nw ini bmB) (sf : StoreFacts B bmB "object.__setattr__" "object") (h : erB K C nw bmB fs = true) :
    ErC K C B nw ini bmB ∧ ∀ f ∈ fs, PySem.W.findIn K (.ref C) f = some none := by
  unfold erB at h
  simp only [Bool.and_eq_true, decide_eq_true_eq, List.all_eq_true] at h
  obtain ⟨⟨⟨⟨⟨⟨⟨⟨⟨⟨⟨⟨⟨h1, h2⟩, h3⟩, h4⟩, h5⟩, h6⟩, h7⟩, h8⟩, h9⟩, h10⟩, h11⟩, h12⟩, h13⟩, h14⟩ := h
  exact ⟨⟨fb, sf, h1, h2, h3, h4, h5, h6, h7, h8, h9, h10, h11, h12, h13⟩, h14⟩
/-- one with a field -/
structure Er1 (P : Program) (w : World) (K : PySem.W.Frag) (mg : Str → Option Value) (base : Heap) (x f code : Str) (C : Addr) : Prop where
  er : ∃ B nw ini bmB, ErC K C B nw ini bmB
  mgx : mg x = some (.ref C)
  nf : PySem.W.findIn K (.ref C) f = some none
  nc : PySem.W.findIn K (.ref C) "code" = some none
  mak : ∃ fi fd, PySem.W.findIn K (.ref C) "__init__" = some (some (.ref fi)) ∧ PySem.W.typeIn K (.ref fi) = some (.type "function") ∧ FnOk P w K mg base CX0 1 fi fd ["self", f] (spI1 C f code) ∧ Binds K fd ["self", f] [] ∧ KBI K fd f
/-- one without -/
structure Er0 (P : Program) (w : World) (K : PySem.W.Frag) (mg : Str → Option Value) (base : Heap) (x code : Str) (C : Addr) : Prop where
  er : ∃ B nw ini bmB, ErC K C B nw ini bmB
  mgx : mg x = some (.ref C)
  nc : PySem.W.findIn K (.ref C) "code" = some none
  mak : ∃ fi fd, PySem.W.findIn K (.ref C) "__init__" = some (some (.ref fi)) ∧ PySem.W.typeIn K (.ref fi) = some (.type "function") ∧ FnOk P w K mg base CX0 1 fi fd ["self"] (spI0 C code) ∧ Binds K fd ["self"] []
/-- what stands for such an error -/
def eErr1 (C : Addr) (f code : Str) (d : D) : D := .err C ["code", f] [.str code, d]
def eErr0 (C : Addr) (code : Str) : D := .err C ["code"] [.str code]
section
variable {X : Cx} {C : Addr} {x f code : Str} {p pos kpos : Pos} {e : Expr} {te : ED}
theorem qe_mk1 (T : Er1 X.prog X.w X.K X.mg X.base x f code C) (hr : Room 2 X.A) (hx : Passes CX0 X E0) (hg : Gl X x) (he : QE X e te) (hdb : (x == ("__debug__" : Str)) = false := by decide) (hs : starEach [e] X.env = (false, eval e X.env) :: starEach [] X.env := by rfl)
    (hpl : (backTo pos (starEach [] X.env)).any (·.1) = false := by rfl) : QE X (.Call (.Name x p) [e] [] pos) (fun ρ R => te ρ fun d => R (eErr1 C f code d)) := by
  obtain ⟨B, nw, ini, bmB, E⟩ := T.er
  obtain ⟨fi, fd, ci, ti, F, hb, _⟩ := T.mak
  exact qe_err1 E ci ti F hr hb hx hg T.mgx he hdb hs hpl
theorem qe_mkK (T : Er1 X.prog X.w X.K X.mg X.base x f code C) (hr : Room 2 X.A) (hx : Passes CX0 X E0) (hg : Gl X x) (he : QE X e te) (hdb : (x == ("__debug__" : Str)) = false := by decide) (hall : (backToKw pos (keywordEach [⟨some f, e, kpos⟩] X.env)).all (·.1.isSome) = true := by rfl) (hks : (backToKw pos (keywordEach [⟨some f, e, kpos⟩] X.env)).filterMap (·.1) = [f] := by rfl)
    (hpl : ((backTo pos (starEach [] X.env)).any (·.1) || (backToKw pos (keywordEach [⟨some f, e, kpos⟩] X.env)).any (·.1.isNone)) = false := by rfl) : QE X (.Call (.Name x p) [] [⟨some f, e, kpos⟩] pos) (fun ρ R => te ρ fun d => R (eErr1 C f code d)) := by
  obtain ⟨B, nw, ini, bmB, E⟩ := T.er
  obtain ⟨fi, fd, ci, ti, F, _, hb⟩ := T.mak
  exact qe_errK E ci ti F hr hb hx hg T.mgx he hdb hall hks hpl
theorem qe_mk0 (T : Er0 X.prog X.w X.K X.mg X.base x code C) (hr : Room 2 X.A) (hx : Passes CX0 X E0) (hg : Gl X x) (hdb : (x == ("__debug__" : Str)) = false := by decide) : QE X (.Call (.Name x p) [] [] pos) (fun _ R => R (eErr0 C code)) := by
  obtain ⟨B, nw, ini, bmB, E⟩ := T.er
  obtain ⟨fi, fd, ci, ti, F, hb⟩ := T.mak
  exact qe_err0 E ci ti F hr hb hx hg T.mgx hdb
theorem Er1.fc {P : Program} {w : World} {K : PySem.W.Frag} {mg : Str → Option Value} {base : Heap} (T : Er1 P w K mg base x f code C) : ErF K C "code" := by
  obtain ⟨B, nw, ini, bmB, E⟩ := T.er
  exact ⟨B, nw, ini, bmB, E, T.nc⟩
theorem Er1.ff {P : Program} {w : World} {K : PySem.W.Frag} {mg : Str → Option Value} {base : Heap} (T : Er1 P w K mg base x f code C) : ErF K C f := by
  obtain ⟨B, nw, ini, bmB, E⟩ := T.er
  exact ⟨B, nw, ini, bmB, E, T.nf⟩
theorem Er0.fc {P : Program} {w : World} {K : PySem.W.Frag} {mg : Str → Option Value} {base : Heap} (T : Er0 P w K mg base x code C) : ErF K C "code" := by
  obtain ⟨B, nw, ini, bmB, E⟩ := T.er
  exact ⟨B, nw, ini, bmB, E, T.nc⟩
end
section
variable {P : Program} {w : World} {K : PySem.W.Frag} {mg : Str → Option Value} {base : Heap} {x qual f code : Str} {st : Stmt} {C fi : Addr} {fd : FuncData}
theorem er1_mk {B nw ini : String} {bmB : List Value} (fb : ExcBaseFacts B nw ini bmB) (sf : StoreFacts B bmB "object.__setattr__" "object") (hB : erB K C nw bmB [f, "code"] = true) (hm : mg x = some (.ref C)) (ci : PySem.W.findIn K (.ref C) "__init__" = some (some (.ref fi))) (ti : PySem.W.typeIn K (.ref fi) = some (.type "function"))
    (F : Fun K "__init__" qual st fi fd) (sc : FnScope ["self", f] ["self", f] (defScope st)) (hb : Binds K fd ["self", f] []) (hk : KBI K fd f)
    (hq : ∀ (cdv : Value) (A : Around) (outer : List Env) (s : Shared) (H : Hp) (E : XK), PSs (cxOf CX0 P w K mg base ["self", f] qual (defScope st) fi cdv A outer s H E).nox (defBody st) (tSeq (sErr K f (tVar 0) (tVar 1)) (sErr K "code" (tVar 0) (tC (.str code))))) : Er1 P w K mg base x f code C := by
  obtain ⟨T, n⟩ := erB_ok fb sf hB
  have n1 := n f (List.mem_cons_self ..)
  have n2 := n "code" (List.mem_cons_of_mem _ (List.mem_cons_self ..))
  exact ⟨⟨_, _, _, _, T⟩, hm, n1, n2, fi, fd, ci, ti, ok_init1 F sc T n1 n2 hq, hb, hk⟩
theorem er0_mk {B nw ini : String} {bmB : List Value} (fb : ExcBaseFacts B nw ini bmB) (sf : StoreFacts B bmB "object.__setattr__" "object") (hB : erB K C nw bmB ["code"] = true) (hm : mg x = some (.ref C)) (ci : PySem.W.findIn K (.ref C) "__init__" = some (some (.ref fi))) (ti : PySem.W.typeIn K (.ref fi) = some (.type "function"))
    (F : Fun K "__init__" qual st fi fd) (sc : FnScope ["self"] ["self"] (defScope st)) (hb : Binds K fd ["self"] [])
    (hq : ∀ (cdv : Value) (A : Around) (outer : List Env) (s : Shared) (H : Hp) (E : XK), PSs (cxOf CX0 P w K mg base ["self"] qual (defScope st) fi cdv A outer s H E).nox (defBody st) (sErr K "code" (tVar 0) (tC (.str code)))) : Er0 P w K mg base x code C := by
  obtain ⟨T, n⟩ := erB_ok fb sf hB
  have n2 := n "code" (List.mem_cons_self ..)
  exact ⟨⟨_, _, _, _, T⟩, hm, n2, fi, fd, ci, ti, ok_init0 F sc T n2 hq, hb⟩
end
end DL

namespace DL
open PySem PySem.Spec PyProof.Rows
open L2 hiding St
/-! ### from the head's facts to the layer's -/
section
variable {P : Program} {w : World} {K : PySem.W.Frag} {h : Heap} {mg : Str → Option Value} {base : Heap}
theorem fun_ofD {x qual : Str} {st : Stmt} {f : Addr} {fd : FuncData} {kws : List (Str × V)} (F : FunD K x qual (defArgs st) (defBody st) (defScope st) [] kws f fd) : Fun K x qual st f fd := by
  obtain ⟨oc, od, dV, kV, doc, pm, an, cdv, ct, osl, e, l, c, hd, _⟩ := F.ex
  rcases hd with ⟨_, e2⟩ | ⟨e2, _⟩
  · subst e2
    exact ⟨⟨oc, od, kV, doc, pm, an, cdv, ct, osl, e, l, c⟩, F.kp⟩
  · exact absurd rfl e2
theorem da_of {x : Str} {st : Stmt} {ps : List Str} {fd : FuncData} (X : K.In h) (G : h.Ns mainGlobals mg) (c : (He.Fa.glo x).ok K = true) (F : FunD K x x (defArgs st) (defBody st) (defScope st) [] [] (He.fAd K (x, none)) fd)
    (hb : ∀ (kV doc pm : Value) (an : Option Addr) (cdv ct : Value) (us : List Value), us.length = ps.length → bindArgs (PySem.W.fnOf x x (defArgs st) (defBody st) (defScope st) .none kV doc pm an cdv ct) ⟨us, []⟩ = pure (ps.zip us)) : DefAt K mg x st ps (He.fAd K (x, none)) fd :=
  ⟨fun_ofD F, He.glo_ok X G c, F.bindsN hb⟩
theorem kb_of {x : Str} {st : Stmt} {ps ks : List Str} {is : List Nat} {f : Addr} {fd : FuncData} (F : Fun K x x st f fd)
    (hb : ∀ (kV doc pm : Value) (an : Option Addr) (cdv ct : Value) (ws : List Value), ws.length = ks.length → bindArgs (PySem.W.fnOf x x (defArgs st) (defBody st) (defScope st) .none kV doc pm an cdv ct) ⟨[], ks.zip ws⟩ = pure (ps.zip (pick is ws))) : KB0 K fd ps ks is := by
  obtain ⟨oc, od, kV, doc, pm, an, cdv, ct, osl, e, l, c⟩ := F.ex
  subst e
  exact fun s ws _ hl => .of_eq (hb kV doc pm an cdv ct ws hl)
/-- a constant tuple of texts -/
def tupDB (K : PySem.W.Frag) (x : Str) (zs : List Str) : Bool := He.eqO (PySem.W.nsIn K mainGlobals x) (some (some (.ref (He.ga K x)))) && match K.lookup (He.ga K x) with
  | some ⟨.type c, none, .seq its _, _⟩ => decide (c = "tuple") && (decide (its.size ≤ 1000) && He.relAll (zs.map V.str) its.toList)
  | _ => false
theorem tupDB_ok {x : Str} {zs : List Str} (X : K.In h) (G : h.Ns mainGlobals mg) (c : tupDB K x zs = true) : GD0 K mg x (.tup (zs.map D.str)) := by
  obtain ⟨c1, c2⟩ := He.ba c
  cases q : K.lookup (He.ga K x) with
  | none => rw [q] at c2; cases c2
  | some o =>
    obtain ⟨oc, od, dt, osl⟩ := o
    rw [q] at c2
    cases oc with
    | type t =>
      cases od with
      | none =>
        cases dt with
        | seq its n =>
          obtain ⟨h1, h2⟩ := He.ba (show (decide (t = "tuple") && (decide (its.size ≤ 1000) && He.relAll (zs.map V.str) its.toList)) = true from c2)
          obtain ⟨h3, h4⟩ := He.ba h2
          have e := of_decide_eq_true h1
          subst e
          exact gd_tup X G (He.eqO_ok c1) q (of_decide_eq_true h3) (He.relAll_ok h4) (strs_rep zs)
        | _ => cases c2
      | some d => cases dt <;> cases c2
    | _ => cases od <;> cases dt <;> cases c2
/-! ### errors -/
def ercB (K : PySem.W.Frag) (x : Str) (nw : String) (bmB : List Value) (fs : List Str) : Bool := He.eqO (PySem.W.nsIn K mainGlobals x) (some (some (.ref (He.ga K x)))) && (He.eqO (PySem.W.findIn K (.ref (He.ga K x)) "__init__") (some (some (.ref (He.fAd K (x, some "__init__"))))) &&
  (decide (PySem.W.typeIn K (.ref (He.fAd K (x, some "__init__"))) = some (.type "function")) && erB K (He.ga K x) nw bmB fs))
theorem kbi_of {qual f : Str} {st : Stmt} {fi : Addr} {fd : FuncData} (F : Fun K "__init__" qual st fi fd)
    (hb : ∀ (kV doc pm : Value) (an : Option Addr) (cdv ct : Value) (p u : Value), bindArgs (PySem.W.fnOf "__init__" qual (defArgs st) (defBody st) (defScope st) .none kV doc pm an cdv ct) ⟨[p], [(f, u)]⟩ = pure (([("self" : Str), f] : List Str).zip [p, u])) : KBI K fd f := by
  obtain ⟨oc, od, kV, doc, pm, an, cdv, ct, osl, e, l, c⟩ := F.ex
  subst e
  exact fun s p u _ => .of_eq (hb kV doc pm an cdv ct (.ref p) u)
theorem er1_of {x qual f code : Str} {st : Stmt} {fd : FuncData} {B nw ini : String} {bmB : List Value} (X : K.In h) (G : h.Ns mainGlobals mg) (fb : ExcBaseFacts B nw ini bmB) (sf : StoreFacts B bmB "object.__setattr__" "object") (c : ercB K x nw bmB [f, "code"] = true)
    (F : FunD K "__init__" qual (defArgs st) (defBody st) (defScope st) [] [] (He.fAd K (x, some "__init__")) fd) (sc : FnScope ["self", f] ["self", f] (defScope st))
    (hb : ∀ (kV doc pm : Value) (an : Option Addr) (cdv ct : Value) (us : List Value), us.length = ([("self" : Str), f] : List Str).length → bindArgs (PySem.W.fnOf "__init__" qual (defArgs st) (defBody st) (defScope st) .none kV doc pm an cdv ct) ⟨us, []⟩ = pure (([("self" : Str), f] : List Str).zip us))
    (hk : ∀ (kV doc pm : Value) (an : Option Addr) (cdv ct : Value) (p u : Value), bindArgs (PySem.W.fnOf "__init__" qual (defArgs st) (defBody st) (defScope st) .none kV doc pm an cdv ct) ⟨[p], [(f, u)]⟩ = pure (([("self" : Str), f] : List Str).zip [p, u]))
    (hq : ∀ (cdv : Value) (A : Around) (outer : List Env) (s : Shared) (H : Hp) (E : XK), PSs (cxOf CX0 P w K mg base ["self", f] qual (defScope st) (He.fAd K (x, some "__init__")) cdv A outer s H E).nox (defBody st) (tSeq (sErr K f (tVar 0) (tVar 1)) (sErr K "code" (tVar 0) (tC (.str code))))) : Er1 P w K mg base x f code (He.ga K x) := by
  obtain ⟨c1, c⟩ := He.ba c
  obtain ⟨c2, c⟩ := He.ba c
  obtain ⟨c3, c4⟩ := He.ba c
  exact er1_mk fb sf c4 (PySem.W.mg_of X G (He.eqO_ok c1)) (He.eqO_ok c2) (of_decide_eq_true c3) (fun_ofD F) sc (F.bindsN hb) (kbi_of (fun_ofD F) hk) hq
theorem er0_of {x qual code : Str} {st : Stmt} {fd : FuncData} {B nw ini : String} {bmB : List Value} (X : K.In h) (G : h.Ns mainGlobals mg) (fb : ExcBaseFacts B nw ini bmB) (sf : StoreFacts B bmB "object.__setattr__" "object") (c : ercB K x nw bmB ["code"] = true)
    (F : FunD K "__init__" qual (defArgs st) (defBody st) (defScope st) [] [] (He.fAd K (x, some "__init__")) fd) (sc : FnScope ["self"] ["self"] (defScope st))
    (hb : ∀ (kV doc pm : Value) (an : Option Addr) (cdv ct : Value) (us : List Value), us.length = ([("self" : Str)] : List Str).length → bindArgs (PySem.W.fnOf "__init__" qual (defArgs st) (defBody st) (defScope st) .none kV doc pm an cdv ct) ⟨us, []⟩ = pure (([("self" : Str)] : List Str).zip us))
    (hq : ∀ (cdv : Value) (A : Around) (outer : List Env) (s : Shared) (H : Hp) (E : XK), PSs (cxOf CX0 P w K mg base ["self"] qual (defScope st) (He.fAd K (x, some "__init__")) cdv A outer s H E).nox (defBody st) (sErr K "code" (tVar 0) (tC (.str code)))) : Er0 P w K mg base x code (He.ga K x) := by
  obtain ⟨c1, c⟩ := He.ba c
  obtain ⟨c2, c⟩ := He.ba c
  obtain ⟨c3, c4⟩ := He.ba c
  exact er0_mk fb sf c4 (PySem.W.mg_of X G (He.eqO_ok c1)) (He.eqO_ok c2) (of_decide_eq_true c3) (fun_ofD F) sc (F.bindsN hb) hq
end
end DL

namespace DL
open PySem PySem.Spec PyProof.Rows
open L2 hiding St
/-! ### a head's Hook: what the module's names reach, asked once, evaluated ahead of the facts -/
def refF (fd : FuncData) : List Addr := He.refV fd.code ++ (He.refV fd.defaults ++ He.refV fd.kwdefaults)
def refs2 (g : Addr → Option Obj) (b : Addr) : List Addr := b :: match g b with
  | some ⟨_, _, .func fd, _⟩ => refF fd
  | _ => []
def refs1 (g : Addr → Option Obj) (b : Addr) : List Addr := b :: match g b with
  | some ⟨_, _, .func fd, _⟩ => refF fd
  | some ⟨_, _, .fields vs, _⟩ => vs.toList.flatMap fun v => (He.refV v).flatMap (refs2 g)
  | _ => []
def refs0 (g : Addr → Option Obj) (a : Addr) : List Addr := match g a with
  | some ⟨_, _, .cls cd, _⟩ => a :: cd.ns :: (match g cd.ns with
    | some ⟨_, _, .dict es _, _⟩ => es.toList.flatMap fun e => (He.refV e.val).flatMap (refs1 g)
    | _ => [])
  | _ => refs1 g a
def asM (g : Addr → Option Obj) : List Addr := mainGlobals :: match g mainGlobals with
  | some ⟨_, _, .dict es _, _⟩ => es.toList.flatMap fun e => (He.refV e.val).flatMap (refs0 g)
  | _ => []
def frcL {α : Type} : List Addr → (List Addr → α) → α
  | [], k => k []
  | a :: r, k => HandSHeadRun.frNat a fun a => frcL r fun r => k (a :: r)
theorem frcL_eq {α : Type} : ∀ (l : List Addr) (k : List Addr → α), frcL l k = k l
  | [], k => rfl
  | a :: r, k => by
    show HandSHeadRun.frNat a (fun a => frcL r fun r => k (a :: r)) = _
    rw [HandSHeadRun.frNat_eq, frcL_eq r]
def frcK {α : Type} : PySem.W.Frag → (PySem.W.Frag → α) → α
  | [], k => k []
  | (a, ⟨c, d, dt, sl⟩) :: r, k => frcK r fun r => k ((a, ⟨c, d, dt, sl⟩) :: r)
theorem frcK_eq {α : Type} : ∀ (l : PySem.W.Frag) (k : PySem.W.Frag → α), frcK l k = k l
  | [], k => rfl
  | (a, ⟨c, d, dt, sl⟩) :: r, k => by
    show frcK r (fun r => k ((a, ⟨c, d, dt, sl⟩) :: r)) = _
    rw [frcK_eq r]
structure SaysM (fa : List He.Fa) (fn : List He.DefD) (ex : PySem.W.Frag → Bool) (K : PySem.W.Frag) : Prop where
  d : He.SaysD fa fn K
  more : ex K = true
abbrev AlM : Type := He.AlD × Bool
def obsK (fa : List He.Fa) (fn : List He.DefD) (ex : PySem.W.Frag → Bool) (K : PySem.W.Frag) : AlM := (He.obsD fa fn K, ex K)
def hookM (fa : List He.Fa) (fn : List He.DefD) (ex : PySem.W.Frag → Bool) : PySem.W.Hook where
  α := AlM
  obs := fun s => obsK fa fn ex (He.frG s.heap.get? (asM s.heap.get?))
  val := fun _ => (He.valD fn, true)
  says := fun _ h => ∃ K : PySem.W.Frag, K.In h ∧ SaysM fa fn ex K
  of := fun _ _ e => ⟨_, He.frG_in, ⟨congrArg (fun z : AlM => z.1) e, congrArg (fun z : AlM => z.2) e⟩⟩
  keeps := fun _ _ _ ⟨K, hK, c⟩ k => ⟨K, PySem.W.Frag.In.keeps hK k, c⟩
def obM (fa : List He.Fa) (fn : List He.DefD) (ex : PySem.W.Frag → Bool) (s : PySem.W.SharedT) : AlM := frcL (asM (HandSHeadRun.getT s)) fun as => frcK (He.frG (HandSHeadRun.getT s) as) fun K => obsK fa fn ex K
theorem obM_eq {fa : List He.Fa} {fn : List He.DefD} {ex : PySem.W.Frag → Bool} (s : PySem.W.SharedT) : obM fa fn ex s = (hookM fa fn ex).obs s.abs := by
  have e : HandSHeadRun.getT s = s.abs.heap.get? := funext (HandSHeadRun.getT_eq s)
  unfold obM
  rw [frcL_eq, frcK_eq, e]
  rfl
end DL

namespace LW
open PySem PySem.Spec PyProof.Rows DL
open L2 hiding St

/-! ### fields, tests, steps, cases as plain data -/
def items? : D → Option (List D)
  | .lst ds => some ds
  | .tup ds => some ds
  | _ => none
abbrev Fld := Str × List Str
abbrev Tst := Str × Str × Str
abbrev Stp := Str × Str
abbrev Case := List Tst × Option (List Stp)
def eSs (l : List Str) : D := .tup (l.map D.str)
def eFld (f : Fld) : D := .tup [.str f.1, eSs f.2]
def eTst (t : Tst) : D := .tup [.str t.1, .str t.2.1, .str t.2.2]
def eStp (t : Stp) : D := .tup [.str t.1, .str t.2]
def eStps : Option (List Stp) → D
  | none => .non
  | some l => .tup (l.map eStp)
def eCase (c : Case) : D := .tup [.tup (c.1.map eTst), eStps c.2]
def eVal : Option (List Str) → D
  | none => .non
  | some v => eSs v
/-- the first field with that name -/
def look : List Fld → Nat → Str → Option (Nat × List Str)
  | [], _, _ => none
  | f :: fs, i, n => if f.1 = n then some (i, f.2) else look fs (i + 1) n
/-- the first place of a text -/
def ix : List Str → Str → Nat
  | [], _ => 0
  | x :: xs, z => if x = z then 0 else ix xs z + 1
theorem ix_get : ∀ {xs : List Str} {z : Str}, z ∈ xs → xs[ix xs z]? = some z
  | [], z, h => by cases h
  | x :: xs, z, h => by
    unfold ix
    by_cases e : x = z
    · rw [if_pos e, e]; rfl
    · rw [if_neg e, List.getElem?_cons_succ]
      exact ix_get ((List.mem_cons.mp h).resolve_left fun q => e q.symm)
theorem ix_first : ∀ {xs : List Str} {z : Str} {m : Nat}, m < ix xs z → xs[m]? ≠ some z
  | [], z, m, h => by cases h
  | x :: xs, z, m, h => by
    unfold ix at h
    by_cases e : x = z
    · rw [if_pos e] at h; cases h
    · rw [if_neg e] at h
      cases m with
      | zero => intro q; exact e (Option.some.inj q)
      | succ m => rw [List.getElem?_cons_succ]; exact ix_first (by omega)
theorem ix_lt {xs : List Str} {z : Str} (h : z ∈ xs) : ix xs z < xs.length := (List.getElem?_eq_some_iff.mp (ix_get h)).1
def holdM (sign : Str) (here there : Nat) : Bool :=
  if sign = "=" then decide (here = there) else if sign = "!" then !decide (here = there) else if sign = "<" then decide (here < there) else decide (there < here)
def testM (F : List Fld) (t : Tst) (v : List Str) : Bool := match look F 0 t.1 with
  | some (i, o) => holdM t.2.1 (ix o (v.getD i "")) (ix o t.2.2)
  | none => false
def nextM (o : List Str) (z : Str) : Str := o.getD (min (ix o z + 1) (o.length - 1)) ""
def stepM (F : List Fld) (v : List Str) (s : Stp) : List Str := match look F 0 s.1 with
  | some (i, o) => v.set i (if s.2 = "+" then nextM o (v.getD i "") else s.2)
  | none => v
def applyM (F : List Fld) : List Case → List Str → Option (List Str)
  | [], _ => none
  | c :: cs, v => if c.1.all (fun t => testM F t v) = true then c.2.map (fun l => l.foldl (stepM F) v) else applyM F cs v
def okTst (F : List Fld) (t : Tst) : Prop := t.2.1 ∈ (["=", "!", "<", ">"] : List Str) ∧ ∃ i o, look F 0 t.1 = some (i, o) ∧ t.2.2 ∈ o
def okStp (F : List Fld) (s : Stp) : Prop := ∃ i o, look F 0 s.1 = some (i, o) ∧ (s.2 = "+" ∨ s.2 ∈ o)
def okCase (F : List Fld) (c : Case) : Prop := c.1.length ≤ 1000 ∧ (∀ t ∈ c.1, okTst F t) ∧ ∀ l, c.2 = some l → ∀ s ∈ l, okStp F s
def okV (F : List Fld) (v : List Str) : Prop := v.length ≤ 1000 ∧ ∀ n i o, look F 0 n = some (i, o) → ∃ z, v[i]? = some z ∧ z ∈ o
theorem getD_of {v : List Str} {i : Nat} {z : Str} (h : v[i]? = some z) (d : Str) : v.getD i d = z := by
  rw [List.getD_eq_getElem?_getD, h]; rfl
theorem next_mem {o : List Str} {z : Str} (h : z ∈ o) : nextM o z ∈ o ∧ o[min (ix o z + 1) (o.length - 1)]? = some (nextM o z) := by
  have hl := ix_lt h
  have hm : min (ix o z + 1) (o.length - 1) < o.length := by omega
  have e : o[min (ix o z + 1) (o.length - 1)]? = some (nextM o z) := by
    unfold nextM
    rw [List.getElem?_eq_getElem hm, getD_of (List.getElem?_eq_getElem hm)]
  exact ⟨List.mem_of_getElem? e, e⟩
theorem look_inj {F : List Fld} {k : Nat} {n m : Str} {i : Nat} {o p : List Str} (h1 : look F k n = some (i, o)) (h2 : look F k m = some (i, p)) : o = p := by
  induction F generalizing k with
  | nil => cases h1
  | cons f fs ih =>
    have low : ∀ {n : Str} {j : Nat} {q : List Str} {k : Nat}, look fs k n = some (j, q) → k ≤ j := by
      intro n j q k h
      clear ih h1 h2
      induction fs generalizing k with
      | nil => cases h
      | cons g gs ih =>
        unfold look at h
        by_cases e : g.1 = n
        · rw [if_pos e] at h; cases h; exact Nat.le_refl _
        · rw [if_neg e] at h; exact Nat.le_trans (Nat.le_succ _) (ih h)
    unfold look at h1 h2
    by_cases e1 : f.1 = n
    · rw [if_pos e1] at h1
      cases h1
      by_cases e2 : f.1 = m
      · rw [if_pos e2] at h2; cases h2; rfl
      · rw [if_neg e2] at h2
        have := low h2
        omega
    · rw [if_neg e1] at h1
      by_cases e2 : f.1 = m
      · rw [if_pos e2] at h2; cases h2
        have := low h1
        omega
      · rw [if_neg e2] at h2
        exact ih h1 h2
theorem step_ok {F : List Fld} {v : List Str} {s : Stp} (hv : okV F v) (hs : okStp F s) : okV F (stepM F v s) := by
  obtain ⟨i, o, e, h⟩ := hs
  obtain ⟨z, hz, mz⟩ := hv.2 _ i o e
  have es : stepM F v s = v.set i (if s.2 = "+" then nextM o (v.getD i "") else s.2) := by unfold stepM; rw [e]
  rw [es]
  refine ⟨by rw [List.length_set]; exact hv.1, fun n j p hn => ?_⟩
  obtain ⟨y, hy, my⟩ := hv.2 n j p hn
  have hi : i < v.length := (List.getElem?_eq_some_iff.mp hz).1
  by_cases hij : i = j
  · subst hij
    have ep := look_inj e hn
    subst ep
    refine ⟨_, List.getElem?_set_self hi, ?_⟩
    by_cases e2 : s.2 = "+"
    · rw [if_pos e2, getD_of hz]; exact (next_mem mz).1
    · rw [if_neg e2]; exact h.resolve_left e2
  · exact ⟨y, by rw [List.getElem?_set_ne hij]; exact hy, my⟩
theorem look_get {F : List Fld} {n : Str} {i : Nat} {o : List Str} {k : Nat} (h : look F k n = some (i, o)) : n ∈ F.map (·.1) ∧ i = k + ix (F.map (·.1)) n ∧ ∃ f, F[i - k]? = some f ∧ f.1 = n ∧ f.2 = o := by
  induction F generalizing k with
  | nil => cases h
  | cons f fs ih =>
    unfold look at h
    by_cases e : f.1 = n
    · rw [if_pos e] at h
      cases h
      refine ⟨by rw [List.map_cons, e]; exact List.mem_cons_self, ?_, f, by rw [Nat.sub_self]; rfl, e, rfl⟩
      rw [List.map_cons, ix, if_pos e, Nat.add_zero]
    · rw [if_neg e] at h
      obtain ⟨h1, h2, g, h3, h4, h5⟩ := ih h
      refine ⟨List.mem_cons_of_mem _ h1, ?_, g, ?_, h4, h5⟩
      · rw [List.map_cons, ix, if_neg e]; omega
      · rw [show i - k = (i - (k + 1)) + 1 by omega, List.getElem?_cons_succ]; exact h3
theorem hold_eq (a b : Nat) : holdM "=" a b = decide (a = b) := by unfold holdM; rw [if_pos rfl]
theorem hold_ne (a b : Nat) : holdM "!" a b = !decide (a = b) := by unfold holdM; rw [if_neg (by decide +kernel), if_pos rfl]
theorem hold_lt (a b : Nat) : holdM "<" a b = decide (a < b) := by unfold holdM; rw [if_neg (by decide +kernel), if_neg (by decide +kernel), if_pos rfl]
theorem hold_gt (a b : Nat) : holdM ">" a b = decide (b < a) := by unfold holdM; rw [if_neg (by decide +kernel), if_neg (by decide +kernel), if_neg (by decide +kernel)]
theorem sg_in1 : (false ^^ inV (V.str "=") [V.str "=", V.str "!"]) = true := by decide +kernel
theorem sg_in2 : (false ^^ inV (V.str "!") [V.str "=", V.str "!"]) = true := by decide +kernel
theorem sg_in3 : (false ^^ inV (V.str "<") [V.str "=", V.str "!"]) = false := by decide +kernel
theorem sg_in4 : (false ^^ inV (V.str ">") [V.str "=", V.str "!"]) = false := by decide +kernel
theorem sg_e1 : decide (("=" : Str) = "=") = true := by decide +kernel
theorem sg_e2 : decide (("!" : Str) = "=") = false := by decide +kernel
theorem sg_e3 : decide (("<" : Str) = "<") = true := by decide +kernel
theorem sg_e4 : decide ((">" : Str) = "<") = false := by decide +kernel
end LW

namespace LW
open PySem PySem.Spec PyProof.Rows DL
open L2 hiding St
def topS (i : Nat) : Stmt := PySem.Challenge.pw_bestheard_k01_errors_by_themselves.main.body.getD i (.Pass ⟨0, 0, 0, 0⟩)
abbrev s_law_bag : Stmt := topS 30
abbrev N_law_bag : List Str := ["_law_script", "_law_seed", "_law_cell_z"]
abbrev P_law_bag : List Str := ["_law_script"]
theorem sc_law_bag : FnScope N_law_bag P_law_bag (defScope s_law_bag) := ⟨rfl, rfl, rfl, by decide +kernel, rfl, by decide +kernel, by decide +kernel⟩
abbrev s_law_draw : Stmt := topS 31
abbrev N_law_draw : List Str := ["_law_bag_here", "_law_many", "_law_cell_z", "_law_found", "_law_old"]
abbrev P_law_draw : List Str := ["_law_bag_here", "_law_many"]
theorem sc_law_draw : FnScope N_law_draw P_law_draw (defScope s_law_draw) := ⟨rfl, rfl, rfl, by decide +kernel, rfl, by decide +kernel, by decide +kernel⟩
abbrev s_law_any : Stmt := topS 32
abbrev N_law_any : List Str := ["_law_bag_here", "_law_row"]
abbrev P_law_any : List Str := ["_law_bag_here", "_law_row"]
theorem sc_law_any : FnScope N_law_any P_law_any (defScope s_law_any) := ⟨rfl, rfl, rfl, by decide +kernel, rfl, by decide +kernel, by decide +kernel⟩
abbrev s_law_mixed : Stmt := topS 33
abbrev N_law_mixed : List Str := ["_law_bag_here", "_law_row", "_law_found", "_law_item"]
abbrev P_law_mixed : List Str := ["_law_bag_here", "_law_row"]
theorem sc_law_mixed : FnScope N_law_mixed P_law_mixed (defScope s_law_mixed) := ⟨rfl, rfl, rfl, by decide +kernel, rfl, by decide +kernel, by decide +kernel⟩
abbrev s_law_like : Stmt := topS 34
abbrev N_law_like : List Str := ["_law_found", "_law_due", "_law_key", "_law_one", "_law_other"]
abbrev P_law_like : List Str := ["_law_found", "_law_due"]
theorem sc_law_like : FnScope N_law_like P_law_like (defScope s_law_like) := ⟨rfl, rfl, rfl, by decide +kernel, rfl, by decide +kernel, by decide +kernel⟩
abbrev s_law_given : Stmt := topS 35
abbrev N_law_given : List Str := ["_law_e"]
abbrev P_law_given : List Str := ["_law_e"]
theorem sc_law_given : FnScope N_law_given P_law_given (defScope s_law_given) := ⟨rfl, rfl, rfl, by decide +kernel, rfl, by decide +kernel, by decide +kernel⟩
abbrev s_law_made_errors : Stmt := topS 36
abbrev N_law_made_errors : List Str := ["_law_given_here", "_law_rows"]
abbrev P_law_made_errors : List Str := ["_law_given_here"]
theorem sc_law_made_errors : FnScope N_law_made_errors P_law_made_errors (defScope s_law_made_errors) := ⟨rfl, rfl, rfl, by decide +kernel, rfl, by decide +kernel, by decide +kernel⟩
abbrev s_law_flags : Stmt := topS 37
abbrev N_law_flags : List Str := ["_law_e", "_law_found"]
abbrev P_law_flags : List Str := ["_law_e"]
theorem sc_law_flags : FnScope N_law_flags P_law_flags (defScope s_law_flags) := ⟨rfl, rfl, rfl, by decide +kernel, rfl, by decide +kernel, by decide +kernel⟩
abbrev s_law : Stmt := topS 38
abbrev N_law : List Str := ["_law_script", "_law_bag_here", "_law_given_here", "_law_rows", "_law_codes", "_law_code", "_law_error", "_law_late", "_law_due", "_law_bare", "_law_told", "_law_one"]
abbrev P_law : List Str := ["_law_script"]
theorem sc_law : FnScope N_law P_law (defScope s_law) := ⟨rfl, rfl, rfl, by decide +kernel, rfl, by decide +kernel, by decide +kernel⟩
/-- the built-in names that the text leaves alone -/
structure Blt (K : PySem.W.Frag) (mg : Str → Option Value) : Prop where
  b_len : mg "len" = none
  b_int : mg "int" = none
  b_list : mg "list" = none
  b_tuple : mg "tuple" = none
  b_range : mg "range" = none
  b_min : mg "min" = none
  b_max : mg "max" = none
  b_all : mg "all" = none
  b_enumerate : mg "enumerate" = none
  b_zip : mg "zip" = none
  b_isinstance : mg "isinstance" = none
  b_dict : mg "dict" = none
  b_bool : mg "bool" = none
  b_str : mg "str" = none
  b_ValueError : mg "ValueError" = none
  b_LookupError : mg "LookupError" = none
section
variable {P : Program} {w : World} {K : PySem.W.Frag} {mg : Str → Option Value} {base : Heap}
theorem ok_law_draw {f : Addr} {fd : FuncData} (B : Blt K mg) (D0 : DefAt K mg "_law_draw" s_law_draw P_law_draw f fd) : FnOk P w K mg base CX0 1 f fd P_law_draw (spD K Φdraw) := by
  refine ok_draw D0 sc_law_draw B.b_len B.b_int fun cdv A outer s H E => ⟨_, _, _, _, _, _, _, _, rfl,
    ps_if (PW.pt (pw_and (pt_cmpR op_eq (pe_ix ix_list (pv 0) pe_int (fun _ _ => rfl)) pe_int (nomark _)) (pw_and1 (pt_cmpR op_lt (pe_ix ix_list (pv 0) pe_int (fun _ _ => rfl)) (pe_callB call_len_seq (by rfl) B.b_len PySem.boot_len (pa_cons (pe_ix ix_list (pv 0) pe_int (fun _ _ => rfl)) pa_nil)) (nomark _)))))
      (pss_cons (ps_set (i := 2) sc_law_draw.nd rfl (.inl rfl) (pe_ix ix_list (pe_ix ix_list (pv 0) pe_int (fun _ _ => rfl)) (pe_ix ix_list (pv 0) pe_int (fun _ _ => rfl)) (fun _ _ => rfl)))
        (pss_cons (ps_asg (pe_op op_add (pe_ix ix_list (pv 0) pe_int (fun _ _ => rfl)) pe_int) (pg_sub (pv 0) pe_int set_list))
          (pss_one (ps_if (pt_cmpR op_ge (pv 2) (pe_op op_pow pe_int pe_int) (nomark _)) (pss_one (ps_asg (pv 2) (pg_sub (pv 0) pe_int set_list)))
            (pss_one (ps_asg (pe_op op_mod (pe_callTy call_int1 (by rfl) B.b_int (by decide +kernel) (pa_cons (pe_op op_add (pe_op op_add (pe_op op_mul (pe_ix ix_list (pv 0) pe_int (fun _ _ => rfl)) pe_int) (pe_op op_mul (pe_op op_mod (pe_callTy call_int1 (by rfl) B.b_int (by decide +kernel) (pa_cons (pv 2) pa_nil)) pe_int) pe_int)) (pe_ix ix_list (pv 0) pe_int (fun _ _ => rfl))) pa_nil)) pe_int) (pg_sub (pv 0) pe_int set_list))))))) pss_nil,
    ps_if (pt_cmpR op_gt (pe_ix ix_list (pv 0) pe_int (fun _ _ => rfl)) pe_int (nomark _))
      (pss_cons (ps_set (i := 3) sc_law_draw.nd rfl (.inl rfl) (pe_op op_mod (pe_callTy call_int1 (by rfl) B.b_int (by decide +kernel) (pa_cons (pe_ix ix_list (pv 0) pe_int (fun _ _ => rfl)) pa_nil)) (pv 1)))
        (pss_cons (ps_asg (pe_op op_fdiv (pe_ix ix_list (pv 0) pe_int (fun _ _ => rfl)) (pv 1)) (pg_sub (pv 0) pe_int set_list))
          (pss_one (ps_ret (pv 3))))) pss_nil,
    pss_cons (ps_set (i := 4) sc_law_draw.nd rfl (.inl rfl) (pe_ix ix_list (pv 0) pe_int (fun _ _ => rfl)))
      (pss_cons (ps_asg (pe_op op_mod (pe_callTy call_int1 (by rfl) B.b_int (by decide +kernel) (pa_cons (pe_op op_add (pe_op op_add (pe_op op_mul (pv 4) (pv 4)) (pe_op op_mul (pv 4) pe_int)) pe_int) pa_nil)) pe_int) (pg_sub (pv 0) pe_int set_list))
        (pss_one (ps_ret (pe_op op_mod (pe_callTy call_int1 (by rfl) B.b_int (by decide +kernel) (pa_cons (pe_op op_add (pe_op op_fdiv (pe_ix ix_list (pv 0) pe_int (fun _ _ => rfl)) pe_int) (pe_op op_mul (pe_op op_mod (pe_callTy call_int1 (by rfl) B.b_int (by decide +kernel) (pa_cons (pe_ix ix_list (pv 0) pe_int (fun _ _ => rfl)) pa_nil)) pe_int) pe_int)) pa_nil)) (pv 1))))), ?_, ?_, ?_⟩
  · intro D H b l n i x sd ns ok hl ne nx
    have at0 : ∀ i x sd, atI (bagIts l i x sd) 0 = some (.ref l) := fun i x sd => atI_nat (j := 0) rfl
    have at1 : ∀ i x sd, atI (bagIts l i x sd) 1 = some (.int i) := fun i x sd => atI_nat (j := 1) rfl
    have at2 : ∀ i x sd, atI (bagIts l i x sd) 2 = some (.int x) := fun i x sd => atI_nat (j := 2) rfl
    have at3 : ∀ i x sd, atI (bagIts l i x sd) 3 = some (.int sd) := fun i x sd => atI_nat (j := 3) rfl
    have stay := nx i x sd none ok
    refine ⟨_, rfl, b, _, 2, _, rfl, rfl, bag_at, at2 i x sd, rfl, _, rfl, ite2 (fun e => ?_) (fun e => iteF stay)⟩
    refine ⟨_, rfl, b, _, 1, _, rfl, rfl, bag_at, at1 i x sd, _, rfl, b, _, 0, _, rfl, rfl, bag_at, at0 i x sd, l, _, rfl, .inl (cells_at hl ne), _, _, rfl, rfl, _, rfl, ite2 (fun e2 => ?_) (fun e2 => stay)⟩
    have hi : i < (ns.length : Int) := by
      have z := of_decide_eq_true e2
      rw [List.length_map] at z
      exact z
    obtain ⟨j, rfl⟩ := Int.eq_ofNat_of_zero_le ok.1
    have hj : j < ns.length := by omega
    have gj : (ns.map V.int)[j]? = some (.int ns[j]) := by rw [List.getElem?_map, List.getElem?_eq_getElem hj]; rfl
    refine ⟨_, rfl, b, _, 0, _, rfl, rfl, bag_at, at0 _ x sd, _, rfl, b, _, 1, _, rfl, rfl, bag_at, at1 _ x sd, l, _, _, _, rfl, rfl, cells_at hl ne, atI_nat gj, ?_⟩
    refine ⟨_, rfl, b, _, 1, _, rfl, rfl, bag_at, at1 _ x sd, _, _, rfl, rfl, _, rfl, b, _, 1, 1, rfl, rfl, upd_same, rfl, ?_⟩
    rw [upd_upd]
    have ok1 : BagOk ((j : Int) + 1) x sd := ⟨by omega, ok.2⟩
    refine ⟨_, rfl, _, _, rfl, rfl, ⟨by decide, by decide, by decide⟩, _, _, rfl, rfl, _, rfl, ite2 (fun e3 => ?_) (fun e3 => ?_)⟩
    · have z : (10 : Int) ^ (18 : Int).toNat ≤ ns[j] := of_decide_eq_true e3
      refine ⟨_, rfl, _, rfl, b, _, 2, 2, rfl, rfl, upd_same, rfl, ?_⟩
      rw [upd_upd]
      refine nx _ _ _ _ ⟨by omega, ?_, ok.2.2⟩
      exact Int.le_trans (by decide) z
    · refine ⟨_, rfl, b, _, 3, _, rfl, rfl, bag_at, at3 _ x sd, _, _, rfl, rfl, .inr ⟨by decide, by decide⟩, _, rfl, .inl ⟨_, rfl, _, _, rfl, rfl, (by show (0 : Int) < 2147483647; decide), _, _, rfl, rfl, .inr ⟨by decide, by decide⟩, _, _, rfl, rfl, _, rfl, b, _, 1, _, rfl, rfl, bag_at, at1 _ x sd, _, _, rfl, rfl, .inl ⟨_, rfl, _, _, rfl, rfl, (by show (0 : Int) < 2147483647; decide), _, rfl, b, _, 3, 3, rfl, rfl, upd_same, rfl, ?_⟩⟩⟩
      rw [upd_upd]
      exact nx _ _ _ _ ⟨ok1.1, ok.2.1, draw_sd⟩
  · intro D H b l n i x sd c ok n0 n1 nx rt
    have at2 : atI (bagIts l i x sd) 2 = some (.int x) := atI_nat (j := 2) rfl
    refine ⟨_, rfl, b, _, 2, _, rfl, rfl, bag_at, at2, _, _, rfl, rfl, _, rfl, ite2 (fun e => ?_) (fun e => nx)⟩
    have hx : 0 < x := of_decide_eq_true e
    refine ⟨_, rfl, b, _, 2, _, rfl, rfl, bag_at, at2, .inl ⟨_, rfl, _, rfl, _, _, rfl, rfl, n0, ?_⟩⟩
    refine ⟨_, rfl, b, _, 2, _, rfl, rfl, bag_at, at2, _, rfl, _, _, rfl, rfl, ⟨n0, n1⟩, _, rfl, b, _, 2, 2, rfl, rfl, upd_same, rfl, ?_⟩
    rw [upd_upd]
    exact ⟨_, rfl, rt _ _ _ _ ⟨ok.1, Int.ediv_nonneg ok.2.1 (by omega), ok.2.2⟩ (Int.emod_nonneg _ (by omega)) (Int.emod_lt_of_pos _ n0)⟩
  · intro D H b l n i x sd c ok n0 n1 rt
    have at3 : ∀ i x sd, atI (bagIts l i x sd) 3 = some (.int sd) := fun i x sd => atI_nat (j := 3) rfl
    refine ⟨_, rfl, b, _, 3, _, rfl, rfl, bag_at, at3 i x sd, ?_⟩
    have bd : -(2 ^ 64) < sd ∧ sd < 2 ^ 64 := by have := ok.2.2; omega
    refine ⟨_, rfl, _, rfl, _, _, rfl, rfl, .inl bd, _, rfl, _, _, rfl, rfl, .inl bd, _, _, rfl, rfl, _, _, rfl, rfl, .inl ⟨_, rfl, _, _, rfl, rfl, (by show (0 : Int) < 2147483647; decide), _, rfl, b, _, 3, 3, rfl, rfl, upd_same, rfl, ?_⟩⟩
    rw [upd_upd]
    have ok3 : BagOk i x ((sd * sd + sd * 39373 + 90001) % 2147483647) := ⟨ok.1, ok.2.1, draw_sd⟩
    refine ⟨_, rfl, b, _, 3, _, rfl, rfl, bag_at, at3 i x _, _, _, rfl, rfl, ⟨by decide, by decide⟩, _, rfl, b, _, 3, _, rfl, rfl, bag_at, at3 i x _, .inl ⟨_, rfl, _, _, rfl, rfl, (by show (0 : Int) < 8117; decide), _, _, rfl, rfl, .inr ⟨by decide, by decide⟩, _, _, rfl, rfl, .inl ⟨_, rfl, _, rfl, _, _, rfl, rfl, n0, ?_⟩⟩⟩
    exact rt _ _ _ _ ok3 (Int.emod_nonneg _ (by omega)) (Int.emod_lt_of_pos _ n0)
end
end LW

namespace LW
open PySem PySem.Spec PyProof.Rows DL
open L2 hiding St
section
variable {P : Program} {w : World} {K : PySem.W.Frag} {mg : Str → Option Value} {base : Heap}
/-! ### any of a row -/
abbrev Φ_law_draw := Φdraw
def Φ_law_any : List D → (D → Prop) → Prop := fun ds R => ∃ d xs, ds = [.bag, d] ∧ items? d = some xs ∧ 0 < xs.length ∧ xs.length < 1000 ∧ ∀ x ∈ xs, R x
theorem ok_law_any {f_law_any : Addr} {fd_law_any : FuncData} (B : Blt K mg) (D_law_any : DefAt K mg "_law_any" s_law_any P_law_any f_law_any fd_law_any)  {f_law_draw : Addr} {fd_law_draw : FuncData} (D_law_draw : DefAt K mg "_law_draw" s_law_draw P_law_draw f_law_draw fd_law_draw) (G_law_draw : FnOk P w K mg base CX0 1 f_law_draw fd_law_draw P_law_draw (spD K Φ_law_draw)) : FnOk P w K mg base CX0 (2) f_law_any fd_law_any P_law_any (spD K Φ_law_any) := by
  refine fn_data (k := 1) D_law_any.fn sc_law_any (fun ds R h => ?_) (fun cdv A outer s H E hr => ⟨_, (qss_one (qs_ret (qe_ix ixd (qe_var (i := 1)) (qe_call (G_law_draw) (hr.mono (by decide)) (by rfl) D_law_draw.mgf D_law_draw.fn.kp D_law_draw.bd pass0 (qa_cons (qe_var (i := 0)) (qa_cons (qe_callB cd_len (by rfl) B.b_len (by decide +kernel) (qa_cons (qe_var (i := 1)) qa_nil)) qa_nil)))))), fun ds R h => ?_⟩)
  · obtain ⟨d, xs, rfl, _⟩ := h; rfl
  · obtain ⟨d, xs, rfl, hd, h0, h1, q⟩ := h
    have key : ∀ r : Int, 0 ≤ r → r < xs.length → ∃ x, atI xs r = some x ∧ R x := fun r r0 r1 => by
      obtain ⟨j, rfl⟩ := Int.eq_ofNat_of_zero_le r0
      have hj : j < xs.length := by omega
      exact ⟨xs[j], atI_nat (List.getElem?_eq_getElem hj), q _ (List.getElem_mem hj)⟩
    cases d with
    | lst ds => cases hd; exact ⟨xs.length, rfl, by omega, by omega, key⟩
    | tup ds => cases hd; exact ⟨xs.length, rfl, by omega, by omega, key⟩
    | _ => cases hd
/-! ### a row in any order -/
def Φ_law_mixed : List D → (D → Prop) → Prop := fun ds R => ∃ xs, ds = [.bag, .lst xs] ∧ xs.length < 1000 ∧ ∀ ys : List D, ys.Perm xs → R (.lst ys)
theorem perm_insert {α : Type} (x : α) (ys : List α) (n : Nat) : (ys.take n ++ [x] ++ ys.drop n).Perm (ys ++ [x]) := by
  have h : (ys.take n ++ [x] ++ ys.drop n).Perm ([x] ++ ys) := by
    rw [List.append_assoc]
    refine (List.perm_append_comm_assoc _ _ _).trans ?_
    rw [List.take_append_drop]
  exact h.trans List.perm_append_comm
theorem ok_law_mixed {f_law_mixed : Addr} {fd_law_mixed : FuncData} (B : Blt K mg) (D_law_mixed : DefAt K mg "_law_mixed" s_law_mixed P_law_mixed f_law_mixed fd_law_mixed)  {f_law_draw : Addr} {fd_law_draw : FuncData} (D_law_draw : DefAt K mg "_law_draw" s_law_draw P_law_draw f_law_draw fd_law_draw) (G_law_draw : FnOk P w K mg base CX0 1 f_law_draw fd_law_draw P_law_draw (spD K Φ_law_draw)) : FnOk P w K mg base CX0 (2) f_law_mixed fd_law_mixed P_law_mixed (spD K Φ_law_mixed) := by
  refine fn_data (k := 1) D_law_mixed.fn sc_law_mixed (fun ds R h => ?_) (fun cdv A outer s H E hr => ⟨_, (qss_cons (qs_own (i := 2) sc_law_mixed.nd (ql_lst qa_nil))
      (qss_cons (qs_for PassesOwn.never rfl (qi_any (qe_var (i := 1))) (qg_name sc_law_mixed.nd (i := 3)) (qss_one (qs_insert (i := 2) (qe_borrow 2 (qe_call (G_law_draw) (hr.mono (by decide)) (by rfl) D_law_draw.mgf D_law_draw.fn.kp D_law_draw.bd pass0 (qa_cons (qe_var (i := 0)) (qa_cons (qe_op od_add (qe_callB cd_len (by rfl) B.b_len (by decide +kernel) (qa_cons (qe_var (i := 2)) qa_nil)) qe_int) qa_nil)))) (qe_var (i := 3)))))
      (qss_one (qs_free 2 (qs_ret (qe_var (i := 2))))))), fun ds R h => ?_⟩)
  · obtain ⟨xs, rfl, _⟩ := h; rfl
  · obtain ⟨xs, rfl, h1, q⟩ := h
    refine ⟨Nat.zero_le _, .inl ?_⟩
    refine dfor_ind (fun rest ρ => ∃ pre ys x, pre ++ rest = xs ∧ ys.Perm pre ∧ ρ = [.val .bag, .val (.lst xs), .own ys, x]) ?_ ?_ _ _ ⟨[], [], .nul, rfl, .nil, rfl⟩
    · rintro ρ ⟨pre, ys, x, e, p, rfl⟩
      rw [List.append_nil] at e
      subst e
      exact q ys p
    · rintro d rest ρ ⟨pre, ys, x, e, p, rfl⟩ k
      have hl : ys.length < 1000 := by rw [p.length_eq]; rw [← e, List.length_append] at h1; omega
      refine ⟨⟨ys, rfl⟩, ?_⟩
      refine ⟨(ys.length : Int) + 1, rfl, by omega, by omega, fun r r0 r1 => ⟨rfl, small' (by omega), r0, by omega, k _ ⟨pre ++ [d], _, .val d, ?_, ?_, rfl⟩⟩⟩
      · rw [List.append_assoc]; exact e
      · exact (perm_insert d ys _).trans (p.append (List.Perm.refl _))
/-! ### the bag is made -/
def Φ_law_bag : List D → (D → Prop) → Prop := fun ds R => ∃ ns, ds = [.scr ns] ∧ R .bag
end
end LW

namespace LW
open PySem PySem.Spec PyProof.Rows DL
open L2 hiding St
section
variable {P : Program} {w : World} {K : PySem.W.Frag} {mg : Str → Option Value} {base : Heap}
/-! ### the bag is made -/
theorem ok_law_bag {f_law_bag : Addr} {fd_law_bag : FuncData} (B : Blt K mg) (D_law_bag : DefAt K mg "_law_bag" s_law_bag P_law_bag f_law_bag fd_law_bag)  : FnOk P w K mg base CX0 (1) f_law_bag fd_law_bag P_law_bag (spD K Φ_law_bag) := by
  refine fn_data (k := 0) D_law_bag.fn sc_law_bag (fun ds R h => ?_) (fun cdv A outer s H E hr => ⟨_, (qss_cons (qs_set (i := 1) sc_law_bag.nd (qe_op od_add qe_int (qe_op od_mul qe_int (qe_callB cd_len (by rfl) B.b_len (by decide +kernel) (qa_cons (qe_slice (qe_var (i := 0)) qo_none (qo_some qe_int)) qa_nil)))))
      (qss_cons (qs_for PassesOwn.never rfl (qi_any (qe_slice (qe_var (i := 0)) qo_none (qo_some qe_int))) (qg_name sc_law_bag.nd (i := 2)) (qss_one (qs_set (i := 1) sc_law_bag.nd (qe_op od_mod (qe_callTy cd_int (by rfl) B.b_int (by decide +kernel) (qa_cons (qe_op od_add (qe_op od_add (qe_op od_mul (qe_var (i := 1)) qe_int) (qe_op od_mod (qe_callTy cd_int (by rfl) B.b_int (by decide +kernel) (qa_cons (qe_var (i := 2)) qa_nil)) qe_int)) qe_int) qa_nil)) qe_int))))
      (qss_retBag (ql_lst (qa_cons (qe_callTy cd_list (by rfl) B.b_list (by decide +kernel) (qa_cons (qe_slice (qe_var (i := 0)) qo_none (qo_some qe_int)) qa_nil)) (qa_cons qe_int (qa_cons qe_int (qa_cons (qe_var (i := 1)) qa_nil)))))))), fun ds R h => ?_⟩)
  · obtain ⟨ns, rfl, _⟩ := h; rfl
  · obtain ⟨ns, rfl, q⟩ := h
    refine ⟨.inl ⟨by omega, by omega⟩, .inl ?_⟩
    have ec : DL.cutD (ns.map D.int) none (some 63) = (ns.take 63).map D.int := by
      unfold DL.cutD
      rw [HT.sIx_none, show (63 : Int) = ((63 : Nat) : Int) from rfl, HT.sIx_nat, List.drop_zero, Nat.sub_zero, ← List.map_take, List.length_map]
      rw [show ns.take (min 63 ns.length) = ns.take 63 by rw [← List.take_eq_take_min]]
    refine dfor_ind (fun rest ρ => ∃ (ms : List Int) (sd : Int) (x : SL), rest = ms.map D.int ∧ 0 ≤ sd ∧ sd < 2147483647 ∧ ρ = [.val (.scr ns), .val (.int sd), x]) ?_ ?_ _ _ ⟨ns.take 63, 5747 + 31 * ((DL.cutD (ns.map D.int) none (some 63)).length : Int), .nul, ec, by omega, ?_, rfl⟩
    · rintro ρ ⟨ms, sd, x, e, s0, s1, rfl⟩
      refine ⟨small (by show 4 ≤ 1000000; decide), ns.take 63, 0, 0, sd, by rw [ec], ⟨by decide, by decide, s0, s1⟩, q⟩
    · rintro c rest ρ ⟨ms, sd, x, e, s0, s1, rfl⟩ k
      cases ms with
      | nil => cases e
      | cons m ms =>
        cases e
        exact ⟨.inr ⟨by omega, by omega⟩, by omega, by omega, k _ ⟨ms, _, _, rfl, by omega, by omega, rfl⟩⟩
    · rw [ec, List.length_map, List.length_take]
      omega
/-! ### what is like itself -/
def lk : Nat → D → Prop
  | _ + 1, .non => True
  | _ + 1, .bl _ => True
  | _ + 1, .int _ => True
  | _ + 1, .str _ => True
  | n + 1, .lst ds => ds.length ≤ 1000 ∧ ∀ d ∈ ds, lk n d
  | n + 1, .tup ds => ds.length ≤ 1000 ∧ ∀ d ∈ ds, lk n d
  | _, _ => False
def Φl (n : Nat) : List D → (D → Prop) → Prop := fun ds R => ∃ d, ds = [d, d] ∧ lk n d ∧ R (.bl true)
theorem zip_same : ∀ ds : List D, zipD ds ds = ds.map fun d => .tup [d, d]
  | [] => rfl
  | d :: ds => by rw [zipD, zip_same ds]; rfl
theorem ok_law_like {f_law_like : Addr} {fd_law_like : FuncData} (B : Blt K mg) (D_law_like : DefAt K mg "_law_like" s_law_like P_law_like f_law_like fd_law_like) {n : Nat} (G_law_like : FnOk P w K mg base CX0 n f_law_like fd_law_like P_law_like (spD K (Φl n))) : FnOk P w K mg base CX0 (n+1) f_law_like fd_law_like P_law_like (spD K (Φl (n+1))) := by
  refine fn_data (k := n) D_law_like.fn sc_law_like (fun ds R h => ?_) (fun cdv A outer s H E hr => ⟨_, (qss_cons (qs_if (qt_cmp od_is (qe_var (i := 1)) qe_non) (qss_one (qs_ret (qe_cmp od_is (qe_var (i := 0)) qe_non))) qss_nil)
      (qss_cons (qs_if (qt_tru (qe_isi .dict (by rfl) B.b_isinstance (by rfl) B.b_dict (qe_var (i := 1)))) qss_never qss_nil)
      (qss_cons (qs_if (qt_tru (qe_isi2 .list .tuple (by rfl) B.b_isinstance (by rfl) B.b_list (by rfl) B.b_tuple (qe_var (i := 1)))) (qss_cons (qs_if (QW.qt (qw_or (qt_cmp (od_ne hr.units) (qe_isi .list (by rfl) B.b_isinstance (by rfl) B.b_list (qe_var (i := 0))) (qe_isi .list (by rfl) B.b_isinstance (by rfl) B.b_list (qe_var (i := 1)))) (qw_or1 (qt_cmp (od_ne hr.units) (qe_isi .tuple (by rfl) B.b_isinstance (by rfl) B.b_tuple (qe_var (i := 0))) (qe_isi .tuple (by rfl) B.b_isinstance (by rfl) B.b_tuple (qe_var (i := 1))))))) (qss_one (qs_ret qe_bl)) qss_nil)
      (qss_one (qs_ret (qe_and (qe_cmp (od_eq hr.units) (qe_callB cd_len (by rfl) B.b_len (by decide +kernel) (qa_cons (qe_var (i := 0)) qa_nil)) (qe_callB cd_len (by rfl) B.b_len (by decide +kernel) (qa_cons (qe_var (i := 1)) qa_nil))) (qe_one (qe_callB (cd_all rfl) (by rfl) B.b_all (by decide +kernel) (qa_cons (QL.qe (ql_lc rfl sc_law_like.nd (blkOk_by (own := [("_law_one", 3), ("_law_other", 4)]) (N := N_law_like) (sc := defScope s_law_like) (by decide +kernel)) (qi_zipA (by rfl) B.b_zip (qa_cons (qe_var (i := 0)) (qa_cons (qe_var (i := 1)) qa_nil))) (fun _ _ _ _ _ => (qg_tup (n := 2) rfl (qgs_cons (qg_name sc_law_like.nd (i := 3)) (qgs_cons (qg_name sc_law_like.nd (i := 4)) qgs_nil)))) (fun _ _ _ _ _ => qts_nil) (fun _ _ _ _ _ => (qe_call (G_law_like) (hr.mono (Nat.le_refl _)) (by rfl) D_law_like.mgf D_law_like.fn.kp D_law_like.bd pass0 (qa_cons (qe_var (i := 3)) (qa_cons (qe_var (i := 4)) qa_nil)))))) qa_nil))))))) qss_nil)
      (qss_cons (qs_if (QW.qt (qw_or (qt_cmp (od_ne hr.units) (qe_isi .bool (by rfl) B.b_isinstance (by rfl) B.b_bool (qe_var (i := 0))) (qe_isi .bool (by rfl) B.b_isinstance (by rfl) B.b_bool (qe_var (i := 1)))) (qw_or1 (qt_cmp (od_ne hr.units) (qe_isi .int (by rfl) B.b_isinstance (by rfl) B.b_int (qe_var (i := 0))) (qe_isi .int (by rfl) B.b_isinstance (by rfl) B.b_int (qe_var (i := 1))))))) (qss_one (qs_ret qe_bl)) qss_nil)
      (qss_one (qs_ret (qe_and (qe_cmp (od_eq hr.units) (qe_isi .str (by rfl) B.b_isinstance (by rfl) B.b_str (qe_var (i := 0))) (qe_isi .str (by rfl) B.b_isinstance (by rfl) B.b_str (qe_var (i := 1)))) (qe_one (qe_cmp (od_eq hr.units) (qe_var (i := 0)) (qe_var (i := 1))))))))))), fun ds R h => ?_⟩)
  · obtain ⟨d, rfl, _⟩ := h; rfl
  · obtain ⟨d, rfl, hd, q⟩ := h
    cases d with
    | non => exact q
    | bl b =>
      show R (.bl (decide (b = b)))
      rw [decide_eq_true rfl]; exact q
    | int b =>
      show R (.bl (decide (b = b)))
      rw [decide_eq_true rfl]; exact q
    | str b =>
      show R (.bl (decide (b = b)))
      rw [decide_eq_true rfl]; exact q
    | lst ds =>
      refine ite2 (fun _ => .inl ⟨small ?_, ?_⟩) (fun e => absurd (decide_eq_true rfl) e)
      · rw [zip_same, List.length_map]; exact Nat.le_trans hd.1 (by decide)
      · rw [zip_same]
        refine dlc_maps (fun d => .tup [d, d]) (fun _ => .bl true) ds (fun d md k hk => ⟨rfl, d, rfl, hd.2 d md, hk⟩) ?_
        refine ⟨ds.map fun _ => true, bools_map _ _, ?_⟩
        rw [all_map, List.all_eq_true.mpr fun _ _ => rfl]
        exact q
    | tup ds =>
      refine ite2 (fun _ => .inr ⟨small ?_, ?_⟩) (fun e => absurd (decide_eq_true rfl) e)
      · rw [zip_same, List.length_map]; exact Nat.le_trans hd.1 (by decide)
      · rw [zip_same]
        refine dlc_maps (fun d => .tup [d, d]) (fun _ => .bl true) ds (fun d md k hk => ⟨rfl, d, rfl, hd.2 d md, hk⟩) ?_
        refine ⟨ds.map fun _ => true, bools_map _ _, ?_⟩
        rw [all_map, List.all_eq_true.mpr fun _ _ => rfl]
        exact q
    | _ => exact hd.elim
theorem like_all {f_law_like : Addr} {fd_law_like : FuncData} (B : Blt K mg) (D_law_like : DefAt K mg "_law_like" s_law_like P_law_like f_law_like fd_law_like) : ∀ n, FnOk P w K mg base CX0 n f_law_like fd_law_like P_law_like (spD K (Φl n))
  | 0 => by
    have no : ∀ vs H Q E, ¬ spD K (Φl 0) vs H Q E := by
      rintro vs H Q E ⟨ds, R, _, ⟨d, _, h, _⟩, _⟩
      cases d <;> exact h
    exact ⟨fun vs H Q E h => absurd h (no _ _ _ _), fun A outer s H args us vs Q E _ _ _ _ h => absurd h (no _ _ _ _)⟩
  | n + 1 => ok_law_like B D_law_like (like_all B D_law_like n)
end
end LW

namespace LW
open PySem PySem.Spec PyProof.Rows DL
open L2 hiding St
/-! ### the table of the errors -/
abbrev Row := Str × Option Str
def tab : List Row := [("InvalidField", some "position"), ("InvalidTie", some "position"), ("InvalidKind", some "position"), ("InvalidHolding", some "given"), ("InvalidRulebook", some "line"), ("InvalidName", some "given"), ("InvalidNetwork", some "line"), ("InvalidState", some "cell"), ("InvalidLook", some "cell"), ("InvalidCount", some "given"), ("InvalidCommand", some "word"), ("InvalidLimit", some "given"), ("InvalidPage", some "line"), ("DuplicateCell", some "name"), ("DuplicateTie", some "tie"), ("KindsDiffer", some "name"), ("BooksDiffer", none), ("Unsettled", none), ("Full", some "limit"), ("EmptyHistory", none), ("UnknownCell", some "name"), ("UnknownKind", some "name"), ("UnknownTie", some "name"), ("UnknownField", some "name"), ("MissingTie", some "tie"), ("UnknownMoment", some "given")]
def errD (C : Addr) (r : Row) (g : D) : D := match r.2 with
  | some f => eErr1 C f r.1 g
  | none => eErr0 C r.1
def rowD (g : D) (p : Row × Addr) : D := .tup [.str p.1.1, errD p.2 p.1 g]
def rowsD (CS : List Addr) (g : D) : List D := (tab.zip CS).map (rowD g)
def flag (i j : Nat) : Bool := decide (i = j) || (decide (i < 20) && (decide (j = 26) || decide (j = 27))) || (decide (20 ≤ i) && (decide (j = 28) || decide (j = 29)))
def flagsD (i : Nat) : List Bool := (List.range 30).map (flag i)
def kitB (K : PySem.W.Frag) (CS : List Addr) (US : List Value) : Bool := (List.range 26).all fun i => (List.range 30).all fun j => decide (PySem.W.kitOne K (.ref (CS.getD i 0)) (US.getD j .none) = some (flag i j))
theorem kitB_ok {K : PySem.W.Frag} {CS : List Addr} {US : List Value} (h : kitB K CS US = true) {i : Nat} (hi : i < 26) {C : Addr} (hC : CS[i]? = some C) (j : Nat) (hj : j < 30) : PySem.W.kitOne K (.ref C) (US.getD j .none) = some (flag i j) := by
  have z := of_decide_eq_true (List.all_eq_true.mp (List.all_eq_true.mp h i (List.mem_range.mpr hi)) j (List.mem_range.mpr hj))
  rw [List.getD_eq_getElem?_getD, hC] at z
  exact z
structure IsE (K : PySem.W.Frag) (CS : List Addr) (i : Nat) (r : Row) (C : Addr) : Prop where
  t : tab[i]? = some r
  c : CS[i]? = some C
  e : ∃ B nw ini bmB, ErC K C B nw ini bmB
  fc : ErF K C "code"
  ff : ∀ f, r.2 = some f → ErF K C f
theorem tab_len {i : Nat} {r : Row} (h : tab[i]? = some r) : i < 26 := (List.getElem?_eq_some_iff.mp h).1
theorem yes {b : Bool} {A B : Prop} (h : b = true) (a : A) : bool? (.bl b) (fun b => if b = true then A else B) := by subst h; show (if true = true then A else B); exact iteT a
theorem no {b : Bool} {A B : Prop} (h : b = false) (a : B) : bool? (.bl b) (fun b => if b = true then A else B) := by subst h; show (if false = true then A else B); exact iteF a
theorem yesE {x y : Str} {A B : Prop} (h : decide (x = y) = true) (a : A) : dEq (.str x) (.str y) (fun d => bool? d fun b => if b = true then A else B) := by
  show (if decide (x = y) = true then A else B)
  rw [if_pos h]; exact a
theorem noE {x y : Str} {A B : Prop} (h : decide (x = y) = false) (a : B) : dEq (.str x) (.str y) (fun d => bool? d fun b => if b = true then A else B) := by
  show (if decide (x = y) = true then A else B)
  rw [h]; exact iteF a
theorem yesF {x y : Str} {ρ : Rho} {F : Bool → Prop} (h : decide (x = y) = true) (a : F true) : dC (.str y) ρ (fun z => dEq (.str x) z (fun d => bool? d F)) := by
  show F (decide (x = y))
  rw [h]; exact a
theorem noF {x y : Str} {ρ : Rho} {F : Bool → Prop} (h : decide (x = y) = false) (a : F false) : dC (.str y) ρ (fun z => dEq (.str x) z (fun d => bool? d F)) := by
  show F (decide (x = y))
  rw [h]; exact a
theorem errD_is (C : Addr) (r : Row) (g : D) : ∃ ns xs, errD C r g = .err C ns xs := by
  unfold errD
  cases r.2 with
  | some f => exact ⟨_, _, rfl⟩
  | none => exact ⟨_, _, rfl⟩
theorem lk_code (f : Str) (c g : D) : ((["code", f] : List Str).zip [c, g]).lookup ("code" : Str) = some c := by
  rw [List.zip_cons_cons, List.lookup_cons, beq_self_eq_true]
theorem lk_code0 (c : D) : ((["code"] : List Str).zip [c]).lookup ("code" : Str) = some c := by
  rw [List.zip_cons_cons, List.lookup_cons, beq_self_eq_true]
theorem lk_fld {f : Str} (h : (f == "code") = false) (c g : D) : ((["code", f] : List Str).zip [c, g]).lookup f = some g := by
  rw [List.zip_cons_cons, List.lookup_cons, h]
  show (([f] : List Str).zip [g]).lookup f = some g
  rw [List.zip_cons_cons, List.lookup_cons, beq_self_eq_true]
section
variable {P : Program} {w : World} {K : PySem.W.Frag} {mg : Str → Option Value} {base : Heap}
/-! ### what an error was given -/
def Φ_law_given (CS : List Addr) (K : PySem.W.Frag) : List D → (D → Prop) → Prop := fun ds R => ∃ i r C g, ds = [errD C r g] ∧ IsE K CS i r C ∧ R (match r.2 with | some _ => g | none => .non)
theorem ok_law_given {f_law_given : Addr} {fd_law_given : FuncData} (B : Blt K mg) (D_law_given : DefAt K mg "_law_given" s_law_given P_law_given f_law_given fd_law_given) {CS : List Addr} : FnOk P w K mg base CX0 (1) f_law_given fd_law_given P_law_given (spD K (Φ_law_given CS K)) := by
  refine fn_data (k := 0) D_law_given.fn sc_law_given (fun ds R h => ?_) (fun cdv A outer s H E hr => ⟨_, (qss_cons (qs_if (qt_cmp (od_in (hu65 hr)) (qe_errf (qe_var (i := 0))) (qe_tup (qa_cons qe_str (qa_cons qe_str (qa_cons qe_str qa_nil))))) (qss_one (qs_ret (qe_errf (qe_var (i := 0))))) qss_nil)
      (qss_cons (qs_if (qt_cmp (od_in (hu65 hr)) (qe_errf (qe_var (i := 0))) (qe_tup (qa_cons qe_str (qa_cons qe_str (qa_cons qe_str qa_nil))))) (qss_one (qs_ret (qe_errf (qe_var (i := 0))))) qss_nil)
      (qss_cons (qs_if (qt_cmp (od_in (hu65 hr)) (qe_errf (qe_var (i := 0))) (qe_tup (qa_cons qe_str (qa_cons qe_str (qa_cons qe_str (qa_cons qe_str (qa_cons qe_str qa_nil))))))) (qss_one (qs_ret (qe_errf (qe_var (i := 0))))) qss_nil)
      (qss_cons (qs_if (qt_cmp (od_in (hu65 hr)) (qe_errf (qe_var (i := 0))) (qe_tup (qa_cons qe_str (qa_cons qe_str qa_nil)))) (qss_one (qs_ret (qe_errf (qe_var (i := 0))))) qss_nil)
      (qss_cons (qs_if (qt_cmp (od_in (hu65 hr)) (qe_errf (qe_var (i := 0))) (qe_tup (qa_cons qe_str (qa_cons qe_str qa_nil)))) (qss_one (qs_ret (qe_errf (qe_var (i := 0))))) qss_nil)
      (qss_cons (qs_if (qt_cmp (od_eq hr.units) (qe_errf (qe_var (i := 0))) qe_str) (qss_one (qs_ret (qe_errf (qe_var (i := 0))))) qss_nil)
      (qss_cons (qs_if (qt_cmp (od_eq hr.units) (qe_errf (qe_var (i := 0))) qe_str) (qss_one (qs_ret (qe_errf (qe_var (i := 0))))) qss_nil)
      (qss_one (qs_ret (qe_ifExp (qt_cmp (od_in (hu65 hr)) (qe_errf (qe_var (i := 0))) (qe_tup (qa_cons qe_str (qa_cons qe_str (qa_cons qe_str qa_nil))))) qe_non (qe_errf (qe_var (i := 0))))))))))))), fun ds R h => ?_⟩)
  · obtain ⟨i, r, C, g, rfl, _⟩ := h; rfl
  · obtain ⟨i, r, C, g, rfl, hE, q⟩ := h
    have hi := tab_len hE.t
    have fc := hE.fc
    have ff := hE.ff
    have ht := hE.t
    clear hE
    match i, ht with
    | 0, ht =>
      cases ht
      refine ⟨fc, .str "InvalidField", lk_code _ _ _, small (by show 3 ≤ 1000000; decide), _, _, rfl, rfl, ?_⟩
      refine yes (by decide +kernel) ?_
      exact ⟨ff _ rfl, _, lk_fld (by decide +kernel) _ _, q⟩
    | 1, ht =>
      cases ht
      refine ⟨fc, .str "InvalidTie", lk_code _ _ _, small (by show 3 ≤ 1000000; decide), _, _, rfl, rfl, ?_⟩
      refine yes (by decide +kernel) ?_
      exact ⟨ff _ rfl, _, lk_fld (by decide +kernel) _ _, q⟩
    | 2, ht =>
      cases ht
      refine ⟨fc, .str "InvalidKind", lk_code _ _ _, small (by show 3 ≤ 1000000; decide), _, _, rfl, rfl, ?_⟩
      refine yes (by decide +kernel) ?_
      exact ⟨ff _ rfl, _, lk_fld (by decide +kernel) _ _, q⟩
    | 3, ht =>
      cases ht
      refine ⟨fc, .str "InvalidHolding", lk_code _ _ _, small (by show 3 ≤ 1000000; decide), _, _, rfl, rfl, ?_⟩
      refine no (by decide +kernel) ?_
      refine ⟨fc, .str "InvalidHolding", lk_code _ _ _, small (by show 3 ≤ 1000000; decide), _, _, rfl, rfl, ?_⟩
      refine no (by decide +kernel) ?_
      refine ⟨fc, .str "InvalidHolding", lk_code _ _ _, small (by show 5 ≤ 1000000; decide), _, _, rfl, rfl, ?_⟩
      refine yes (by decide +kernel) ?_
      exact ⟨ff _ rfl, _, lk_fld (by decide +kernel) _ _, q⟩
    | 4, ht =>
      cases ht
      refine ⟨fc, .str "InvalidRulebook", lk_code _ _ _, small (by show 3 ≤ 1000000; decide), _, _, rfl, rfl, ?_⟩
      refine no (by decide +kernel) ?_
      refine ⟨fc, .str "InvalidRulebook", lk_code _ _ _, small (by show 3 ≤ 1000000; decide), _, _, rfl, rfl, ?_⟩
      refine yes (by decide +kernel) ?_
      exact ⟨ff _ rfl, _, lk_fld (by decide +kernel) _ _, q⟩
    | 5, ht =>
      cases ht
      refine ⟨fc, .str "InvalidName", lk_code _ _ _, small (by show 3 ≤ 1000000; decide), _, _, rfl, rfl, ?_⟩
      refine no (by decide +kernel) ?_
      refine ⟨fc, .str "InvalidName", lk_code _ _ _, small (by show 3 ≤ 1000000; decide), _, _, rfl, rfl, ?_⟩
      refine no (by decide +kernel) ?_
      refine ⟨fc, .str "InvalidName", lk_code _ _ _, small (by show 5 ≤ 1000000; decide), _, _, rfl, rfl, ?_⟩
      refine yes (by decide +kernel) ?_
      exact ⟨ff _ rfl, _, lk_fld (by decide +kernel) _ _, q⟩
    | 6, ht =>
      cases ht
      refine ⟨fc, .str "InvalidNetwork", lk_code _ _ _, small (by show 3 ≤ 1000000; decide), _, _, rfl, rfl, ?_⟩
      refine no (by decide +kernel) ?_
      refine ⟨fc, .str "InvalidNetwork", lk_code _ _ _, small (by show 3 ≤ 1000000; decide), _, _, rfl, rfl, ?_⟩
      refine yes (by decide +kernel) ?_
      exact ⟨ff _ rfl, _, lk_fld (by decide +kernel) _ _, q⟩
    | 7, ht =>
      cases ht
      refine ⟨fc, .str "InvalidState", lk_code _ _ _, small (by show 3 ≤ 1000000; decide), _, _, rfl, rfl, ?_⟩
      refine no (by decide +kernel) ?_
      refine ⟨fc, .str "InvalidState", lk_code _ _ _, small (by show 3 ≤ 1000000; decide), _, _, rfl, rfl, ?_⟩
      refine no (by decide +kernel) ?_
      refine ⟨fc, .str "InvalidState", lk_code _ _ _, small (by show 5 ≤ 1000000; decide), _, _, rfl, rfl, ?_⟩
      refine no (by decide +kernel) ?_
      refine ⟨fc, .str "InvalidState", lk_code _ _ _, small (by show 2 ≤ 1000000; decide), _, _, rfl, rfl, ?_⟩
      refine yes (by decide +kernel) ?_
      exact ⟨ff _ rfl, _, lk_fld (by decide +kernel) _ _, q⟩
    | 8, ht =>
      cases ht
      refine ⟨fc, .str "InvalidLook", lk_code _ _ _, small (by show 3 ≤ 1000000; decide), _, _, rfl, rfl, ?_⟩
      refine no (by decide +kernel) ?_
      refine ⟨fc, .str "InvalidLook", lk_code _ _ _, small (by show 3 ≤ 1000000; decide), _, _, rfl, rfl, ?_⟩
      refine no (by decide +kernel) ?_
      refine ⟨fc, .str "InvalidLook", lk_code _ _ _, small (by show 5 ≤ 1000000; decide), _, _, rfl, rfl, ?_⟩
      refine no (by decide +kernel) ?_
      refine ⟨fc, .str "InvalidLook", lk_code _ _ _, small (by show 2 ≤ 1000000; decide), _, _, rfl, rfl, ?_⟩
      refine yes (by decide +kernel) ?_
      exact ⟨ff _ rfl, _, lk_fld (by decide +kernel) _ _, q⟩
    | 9, ht =>
      cases ht
      refine ⟨fc, .str "InvalidCount", lk_code _ _ _, small (by show 3 ≤ 1000000; decide), _, _, rfl, rfl, ?_⟩
      refine no (by decide +kernel) ?_
      refine ⟨fc, .str "InvalidCount", lk_code _ _ _, small (by show 3 ≤ 1000000; decide), _, _, rfl, rfl, ?_⟩
      refine no (by decide +kernel) ?_
      refine ⟨fc, .str "InvalidCount", lk_code _ _ _, small (by show 5 ≤ 1000000; decide), _, _, rfl, rfl, ?_⟩
      refine yes (by decide +kernel) ?_
      exact ⟨ff _ rfl, _, lk_fld (by decide +kernel) _ _, q⟩
    | 10, ht =>
      cases ht
      refine ⟨fc, .str "InvalidCommand", lk_code _ _ _, small (by show 3 ≤ 1000000; decide), _, _, rfl, rfl, ?_⟩
      refine no (by decide +kernel) ?_
      refine ⟨fc, .str "InvalidCommand", lk_code _ _ _, small (by show 3 ≤ 1000000; decide), _, _, rfl, rfl, ?_⟩
      refine no (by decide +kernel) ?_
      refine ⟨fc, .str "InvalidCommand", lk_code _ _ _, small (by show 5 ≤ 1000000; decide), _, _, rfl, rfl, ?_⟩
      refine no (by decide +kernel) ?_
      refine ⟨fc, .str "InvalidCommand", lk_code _ _ _, small (by show 2 ≤ 1000000; decide), _, _, rfl, rfl, ?_⟩
      refine no (by decide +kernel) ?_
      refine ⟨fc, .str "InvalidCommand", lk_code _ _ _, small (by show 2 ≤ 1000000; decide), _, _, rfl, rfl, ?_⟩
      refine no (by decide +kernel) ?_
      refine ⟨fc, .str "InvalidCommand", lk_code _ _ _, ?_⟩
      refine yesF (x := "InvalidCommand") (y := "InvalidCommand") (by decide +kernel) ?_
      refine iteT ?_
      exact ⟨ff _ rfl, _, lk_fld (by decide +kernel) _ _, q⟩
    | 11, ht =>
      cases ht
      refine ⟨fc, .str "InvalidLimit", lk_code _ _ _, small (by show 3 ≤ 1000000; decide), _, _, rfl, rfl, ?_⟩
      refine no (by decide +kernel) ?_
      refine ⟨fc, .str "InvalidLimit", lk_code _ _ _, small (by show 3 ≤ 1000000; decide), _, _, rfl, rfl, ?_⟩
      refine no (by decide +kernel) ?_
      refine ⟨fc, .str "InvalidLimit", lk_code _ _ _, small (by show 5 ≤ 1000000; decide), _, _, rfl, rfl, ?_⟩
      refine yes (by decide +kernel) ?_
      exact ⟨ff _ rfl, _, lk_fld (by decide +kernel) _ _, q⟩
    | 12, ht =>
      cases ht
      refine ⟨fc, .str "InvalidPage", lk_code _ _ _, small (by show 3 ≤ 1000000; decide), _, _, rfl, rfl, ?_⟩
      refine no (by decide +kernel) ?_
      refine ⟨fc, .str "InvalidPage", lk_code _ _ _, small (by show 3 ≤ 1000000; decide), _, _, rfl, rfl, ?_⟩
      refine yes (by decide +kernel) ?_
      exact ⟨ff _ rfl, _, lk_fld (by decide +kernel) _ _, q⟩
    | 13, ht =>
      cases ht
      refine ⟨fc, .str "DuplicateCell", lk_code _ _ _, small (by show 3 ≤ 1000000; decide), _, _, rfl, rfl, ?_⟩
      refine no (by decide +kernel) ?_
      refine ⟨fc, .str "DuplicateCell", lk_code _ _ _, small (by show 3 ≤ 1000000; decide), _, _, rfl, rfl, ?_⟩
      refine no (by decide +kernel) ?_
      refine ⟨fc, .str "DuplicateCell", lk_code _ _ _, small (by show 5 ≤ 1000000; decide), _, _, rfl, rfl, ?_⟩
      refine no (by decide +kernel) ?_
      refine ⟨fc, .str "DuplicateCell", lk_code _ _ _, small (by show 2 ≤ 1000000; decide), _, _, rfl, rfl, ?_⟩
      refine no (by decide +kernel) ?_
      refine ⟨fc, .str "DuplicateCell", lk_code _ _ _, small (by show 2 ≤ 1000000; decide), _, _, rfl, rfl, ?_⟩
      refine no (by decide +kernel) ?_
      refine ⟨fc, .str "DuplicateCell", lk_code _ _ _, ?_⟩
      refine noF (x := "DuplicateCell") (y := "InvalidCommand") (by decide +kernel) ?_
      refine iteF ?_
      refine ⟨fc, .str "DuplicateCell", lk_code _ _ _, ?_⟩
      refine noF (x := "DuplicateCell") (y := "Full") (by decide +kernel) ?_
      refine iteF ?_
      refine ⟨fc, .str "DuplicateCell", lk_code _ _ _, small (by show 3 ≤ 1000000; decide), _, _, rfl, rfl, ?_⟩
      refine no (by decide +kernel) ?_
      exact ⟨ff _ rfl, _, lk_fld (by decide +kernel) _ _, q⟩
    | 14, ht =>
      cases ht
      refine ⟨fc, .str "DuplicateTie", lk_code _ _ _, small (by show 3 ≤ 1000000; decide), _, _, rfl, rfl, ?_⟩
      refine no (by decide +kernel) ?_
      refine ⟨fc, .str "DuplicateTie", lk_code _ _ _, small (by show 3 ≤ 1000000; decide), _, _, rfl, rfl, ?_⟩
      refine no (by decide +kernel) ?_
      refine ⟨fc, .str "DuplicateTie", lk_code _ _ _, small (by show 5 ≤ 1000000; decide), _, _, rfl, rfl, ?_⟩
      refine no (by decide +kernel) ?_
      refine ⟨fc, .str "DuplicateTie", lk_code _ _ _, small (by show 2 ≤ 1000000; decide), _, _, rfl, rfl, ?_⟩
      refine no (by decide +kernel) ?_
      refine ⟨fc, .str "DuplicateTie", lk_code _ _ _, small (by show 2 ≤ 1000000; decide), _, _, rfl, rfl, ?_⟩
      refine yes (by decide +kernel) ?_
      exact ⟨ff _ rfl, _, lk_fld (by decide +kernel) _ _, q⟩
    | 15, ht =>
      cases ht
      refine ⟨fc, .str "KindsDiffer", lk_code _ _ _, small (by show 3 ≤ 1000000; decide), _, _, rfl, rfl, ?_⟩
      refine no (by decide +kernel) ?_
      refine ⟨fc, .str "KindsDiffer", lk_code _ _ _, small (by show 3 ≤ 1000000; decide), _, _, rfl, rfl, ?_⟩
      refine no (by decide +kernel) ?_
      refine ⟨fc, .str "KindsDiffer", lk_code _ _ _, small (by show 5 ≤ 1000000; decide), _, _, rfl, rfl, ?_⟩
      refine no (by decide +kernel) ?_
      refine ⟨fc, .str "KindsDiffer", lk_code _ _ _, small (by show 2 ≤ 1000000; decide), _, _, rfl, rfl, ?_⟩
      refine no (by decide +kernel) ?_
      refine ⟨fc, .str "KindsDiffer", lk_code _ _ _, small (by show 2 ≤ 1000000; decide), _, _, rfl, rfl, ?_⟩
      refine no (by decide +kernel) ?_
      refine ⟨fc, .str "KindsDiffer", lk_code _ _ _, ?_⟩
      refine noF (x := "KindsDiffer") (y := "InvalidCommand") (by decide +kernel) ?_
      refine iteF ?_
      refine ⟨fc, .str "KindsDiffer", lk_code _ _ _, ?_⟩
      refine noF (x := "KindsDiffer") (y := "Full") (by decide +kernel) ?_
      refine iteF ?_
      refine ⟨fc, .str "KindsDiffer", lk_code _ _ _, small (by show 3 ≤ 1000000; decide), _, _, rfl, rfl, ?_⟩
      refine no (by decide +kernel) ?_
      exact ⟨ff _ rfl, _, lk_fld (by decide +kernel) _ _, q⟩
    | 16, ht =>
      cases ht
      refine ⟨fc, .str "BooksDiffer", lk_code0 _, small (by show 3 ≤ 1000000; decide), _, _, rfl, rfl, ?_⟩
      refine no (by decide +kernel) ?_
      refine ⟨fc, .str "BooksDiffer", lk_code0 _, small (by show 3 ≤ 1000000; decide), _, _, rfl, rfl, ?_⟩
      refine no (by decide +kernel) ?_
      refine ⟨fc, .str "BooksDiffer", lk_code0 _, small (by show 5 ≤ 1000000; decide), _, _, rfl, rfl, ?_⟩
      refine no (by decide +kernel) ?_
      refine ⟨fc, .str "BooksDiffer", lk_code0 _, small (by show 2 ≤ 1000000; decide), _, _, rfl, rfl, ?_⟩
      refine no (by decide +kernel) ?_
      refine ⟨fc, .str "BooksDiffer", lk_code0 _, small (by show 2 ≤ 1000000; decide), _, _, rfl, rfl, ?_⟩
      refine no (by decide +kernel) ?_
      refine ⟨fc, .str "BooksDiffer", lk_code0 _, ?_⟩
      refine noF (x := "BooksDiffer") (y := "InvalidCommand") (by decide +kernel) ?_
      refine iteF ?_
      refine ⟨fc, .str "BooksDiffer", lk_code0 _, ?_⟩
      refine noF (x := "BooksDiffer") (y := "Full") (by decide +kernel) ?_
      refine iteF ?_
      refine ⟨fc, .str "BooksDiffer", lk_code0 _, small (by show 3 ≤ 1000000; decide), _, _, rfl, rfl, ?_⟩
      exact yes (by decide +kernel) q
    | 17, ht =>
      cases ht
      refine ⟨fc, .str "Unsettled", lk_code0 _, small (by show 3 ≤ 1000000; decide), _, _, rfl, rfl, ?_⟩
      refine no (by decide +kernel) ?_
      refine ⟨fc, .str "Unsettled", lk_code0 _, small (by show 3 ≤ 1000000; decide), _, _, rfl, rfl, ?_⟩
      refine no (by decide +kernel) ?_
      refine ⟨fc, .str "Unsettled", lk_code0 _, small (by show 5 ≤ 1000000; decide), _, _, rfl, rfl, ?_⟩
      refine no (by decide +kernel) ?_
      refine ⟨fc, .str "Unsettled", lk_code0 _, small (by show 2 ≤ 1000000; decide), _, _, rfl, rfl, ?_⟩
      refine no (by decide +kernel) ?_
      refine ⟨fc, .str "Unsettled", lk_code0 _, small (by show 2 ≤ 1000000; decide), _, _, rfl, rfl, ?_⟩
      refine no (by decide +kernel) ?_
      refine ⟨fc, .str "Unsettled", lk_code0 _, ?_⟩
      refine noF (x := "Unsettled") (y := "InvalidCommand") (by decide +kernel) ?_
      refine iteF ?_
      refine ⟨fc, .str "Unsettled", lk_code0 _, ?_⟩
      refine noF (x := "Unsettled") (y := "Full") (by decide +kernel) ?_
      refine iteF ?_
      refine ⟨fc, .str "Unsettled", lk_code0 _, small (by show 3 ≤ 1000000; decide), _, _, rfl, rfl, ?_⟩
      exact yes (by decide +kernel) q
    | 18, ht =>
      cases ht
      refine ⟨fc, .str "Full", lk_code _ _ _, small (by show 3 ≤ 1000000; decide), _, _, rfl, rfl, ?_⟩
      refine no (by decide +kernel) ?_
      refine ⟨fc, .str "Full", lk_code _ _ _, small (by show 3 ≤ 1000000; decide), _, _, rfl, rfl, ?_⟩
      refine no (by decide +kernel) ?_
      refine ⟨fc, .str "Full", lk_code _ _ _, small (by show 5 ≤ 1000000; decide), _, _, rfl, rfl, ?_⟩
      refine no (by decide +kernel) ?_
      refine ⟨fc, .str "Full", lk_code _ _ _, small (by show 2 ≤ 1000000; decide), _, _, rfl, rfl, ?_⟩
      refine no (by decide +kernel) ?_
      refine ⟨fc, .str "Full", lk_code _ _ _, small (by show 2 ≤ 1000000; decide), _, _, rfl, rfl, ?_⟩
      refine no (by decide +kernel) ?_
      refine ⟨fc, .str "Full", lk_code _ _ _, ?_⟩
      refine noF (x := "Full") (y := "InvalidCommand") (by decide +kernel) ?_
      refine iteF ?_
      refine ⟨fc, .str "Full", lk_code _ _ _, ?_⟩
      refine yesF (x := "Full") (y := "Full") (by decide +kernel) ?_
      refine iteT ?_
      exact ⟨ff _ rfl, _, lk_fld (by decide +kernel) _ _, q⟩
    | 19, ht =>
      cases ht
      refine ⟨fc, .str "EmptyHistory", lk_code0 _, small (by show 3 ≤ 1000000; decide), _, _, rfl, rfl, ?_⟩
      refine no (by decide +kernel) ?_
      refine ⟨fc, .str "EmptyHistory", lk_code0 _, small (by show 3 ≤ 1000000; decide), _, _, rfl, rfl, ?_⟩
      refine no (by decide +kernel) ?_
      refine ⟨fc, .str "EmptyHistory", lk_code0 _, small (by show 5 ≤ 1000000; decide), _, _, rfl, rfl, ?_⟩
      refine no (by decide +kernel) ?_
      refine ⟨fc, .str "EmptyHistory", lk_code0 _, small (by show 2 ≤ 1000000; decide), _, _, rfl, rfl, ?_⟩
      refine no (by decide +kernel) ?_
      refine ⟨fc, .str "EmptyHistory", lk_code0 _, small (by show 2 ≤ 1000000; decide), _, _, rfl, rfl, ?_⟩
      refine no (by decide +kernel) ?_
      refine ⟨fc, .str "EmptyHistory", lk_code0 _, ?_⟩
      refine noF (x := "EmptyHistory") (y := "InvalidCommand") (by decide +kernel) ?_
      refine iteF ?_
      refine ⟨fc, .str "EmptyHistory", lk_code0 _, ?_⟩
      refine noF (x := "EmptyHistory") (y := "Full") (by decide +kernel) ?_
      refine iteF ?_
      refine ⟨fc, .str "EmptyHistory", lk_code0 _, small (by show 3 ≤ 1000000; decide), _, _, rfl, rfl, ?_⟩
      exact yes (by decide +kernel) q
    | 20, ht =>
      cases ht
      refine ⟨fc, .str "UnknownCell", lk_code _ _ _, small (by show 3 ≤ 1000000; decide), _, _, rfl, rfl, ?_⟩
      refine no (by decide +kernel) ?_
      refine ⟨fc, .str "UnknownCell", lk_code _ _ _, small (by show 3 ≤ 1000000; decide), _, _, rfl, rfl, ?_⟩
      refine no (by decide +kernel) ?_
      refine ⟨fc, .str "UnknownCell", lk_code _ _ _, small (by show 5 ≤ 1000000; decide), _, _, rfl, rfl, ?_⟩
      refine no (by decide +kernel) ?_
      refine ⟨fc, .str "UnknownCell", lk_code _ _ _, small (by show 2 ≤ 1000000; decide), _, _, rfl, rfl, ?_⟩
      refine no (by decide +kernel) ?_
      refine ⟨fc, .str "UnknownCell", lk_code _ _ _, small (by show 2 ≤ 1000000; decide), _, _, rfl, rfl, ?_⟩
      refine no (by decide +kernel) ?_
      refine ⟨fc, .str "UnknownCell", lk_code _ _ _, ?_⟩
      refine noF (x := "UnknownCell") (y := "InvalidCommand") (by decide +kernel) ?_
      refine iteF ?_
      refine ⟨fc, .str "UnknownCell", lk_code _ _ _, ?_⟩
      refine noF (x := "UnknownCell") (y := "Full") (by decide +kernel) ?_
      refine iteF ?_
      refine ⟨fc, .str "UnknownCell", lk_code _ _ _, small (by show 3 ≤ 1000000; decide), _, _, rfl, rfl, ?_⟩
      refine no (by decide +kernel) ?_
      exact ⟨ff _ rfl, _, lk_fld (by decide +kernel) _ _, q⟩
    | 21, ht =>
      cases ht
      refine ⟨fc, .str "UnknownKind", lk_code _ _ _, small (by show 3 ≤ 1000000; decide), _, _, rfl, rfl, ?_⟩
      refine no (by decide +kernel) ?_
      refine ⟨fc, .str "UnknownKind", lk_code _ _ _, small (by show 3 ≤ 1000000; decide), _, _, rfl, rfl, ?_⟩
      refine no (by decide +kernel) ?_
      refine ⟨fc, .str "UnknownKind", lk_code _ _ _, small (by show 5 ≤ 1000000; decide), _, _, rfl, rfl, ?_⟩
      refine no (by decide +kernel) ?_
      refine ⟨fc, .str "UnknownKind", lk_code _ _ _, small (by show 2 ≤ 1000000; decide), _, _, rfl, rfl, ?_⟩
      refine no (by decide +kernel) ?_
      refine ⟨fc, .str "UnknownKind", lk_code _ _ _, small (by show 2 ≤ 1000000; decide), _, _, rfl, rfl, ?_⟩
      refine no (by decide +kernel) ?_
      refine ⟨fc, .str "UnknownKind", lk_code _ _ _, ?_⟩
      refine noF (x := "UnknownKind") (y := "InvalidCommand") (by decide +kernel) ?_
      refine iteF ?_
      refine ⟨fc, .str "UnknownKind", lk_code _ _ _, ?_⟩
      refine noF (x := "UnknownKind") (y := "Full") (by decide +kernel) ?_
      refine iteF ?_
      refine ⟨fc, .str "UnknownKind", lk_code _ _ _, small (by show 3 ≤ 1000000; decide), _, _, rfl, rfl, ?_⟩
      refine no (by decide +kernel) ?_
      exact ⟨ff _ rfl, _, lk_fld (by decide +kernel) _ _, q⟩
    | 22, ht =>
      cases ht
      refine ⟨fc, .str "UnknownTie", lk_code _ _ _, small (by show 3 ≤ 1000000; decide), _, _, rfl, rfl, ?_⟩
      refine no (by decide +kernel) ?_
      refine ⟨fc, .str "UnknownTie", lk_code _ _ _, small (by show 3 ≤ 1000000; decide), _, _, rfl, rfl, ?_⟩
      refine no (by decide +kernel) ?_
      refine ⟨fc, .str "UnknownTie", lk_code _ _ _, small (by show 5 ≤ 1000000; decide), _, _, rfl, rfl, ?_⟩
      refine no (by decide +kernel) ?_
      refine ⟨fc, .str "UnknownTie", lk_code _ _ _, small (by show 2 ≤ 1000000; decide), _, _, rfl, rfl, ?_⟩
      refine no (by decide +kernel) ?_
      refine ⟨fc, .str "UnknownTie", lk_code _ _ _, small (by show 2 ≤ 1000000; decide), _, _, rfl, rfl, ?_⟩
      refine no (by decide +kernel) ?_
      refine ⟨fc, .str "UnknownTie", lk_code _ _ _, ?_⟩
      refine noF (x := "UnknownTie") (y := "InvalidCommand") (by decide +kernel) ?_
      refine iteF ?_
      refine ⟨fc, .str "UnknownTie", lk_code _ _ _, ?_⟩
      refine noF (x := "UnknownTie") (y := "Full") (by decide +kernel) ?_
      refine iteF ?_
      refine ⟨fc, .str "UnknownTie", lk_code _ _ _, small (by show 3 ≤ 1000000; decide), _, _, rfl, rfl, ?_⟩
      refine no (by decide +kernel) ?_
      exact ⟨ff _ rfl, _, lk_fld (by decide +kernel) _ _, q⟩
    | 23, ht =>
      cases ht
      refine ⟨fc, .str "UnknownField", lk_code _ _ _, small (by show 3 ≤ 1000000; decide), _, _, rfl, rfl, ?_⟩
      refine no (by decide +kernel) ?_
      refine ⟨fc, .str "UnknownField", lk_code _ _ _, small (by show 3 ≤ 1000000; decide), _, _, rfl, rfl, ?_⟩
      refine no (by decide +kernel) ?_
      refine ⟨fc, .str "UnknownField", lk_code _ _ _, small (by show 5 ≤ 1000000; decide), _, _, rfl, rfl, ?_⟩
      refine no (by decide +kernel) ?_
      refine ⟨fc, .str "UnknownField", lk_code _ _ _, small (by show 2 ≤ 1000000; decide), _, _, rfl, rfl, ?_⟩
      refine no (by decide +kernel) ?_
      refine ⟨fc, .str "UnknownField", lk_code _ _ _, small (by show 2 ≤ 1000000; decide), _, _, rfl, rfl, ?_⟩
      refine no (by decide +kernel) ?_
      refine ⟨fc, .str "UnknownField", lk_code _ _ _, ?_⟩
      refine noF (x := "UnknownField") (y := "InvalidCommand") (by decide +kernel) ?_
      refine iteF ?_
      refine ⟨fc, .str "UnknownField", lk_code _ _ _, ?_⟩
      refine noF (x := "UnknownField") (y := "Full") (by decide +kernel) ?_
      refine iteF ?_
      refine ⟨fc, .str "UnknownField", lk_code _ _ _, small (by show 3 ≤ 1000000; decide), _, _, rfl, rfl, ?_⟩
      refine no (by decide +kernel) ?_
      exact ⟨ff _ rfl, _, lk_fld (by decide +kernel) _ _, q⟩
    | 24, ht =>
      cases ht
      refine ⟨fc, .str "MissingTie", lk_code _ _ _, small (by show 3 ≤ 1000000; decide), _, _, rfl, rfl, ?_⟩
      refine no (by decide +kernel) ?_
      refine ⟨fc, .str "MissingTie", lk_code _ _ _, small (by show 3 ≤ 1000000; decide), _, _, rfl, rfl, ?_⟩
      refine no (by decide +kernel) ?_
      refine ⟨fc, .str "MissingTie", lk_code _ _ _, small (by show 5 ≤ 1000000; decide), _, _, rfl, rfl, ?_⟩
      refine no (by decide +kernel) ?_
      refine ⟨fc, .str "MissingTie", lk_code _ _ _, small (by show 2 ≤ 1000000; decide), _, _, rfl, rfl, ?_⟩
      refine no (by decide +kernel) ?_
      refine ⟨fc, .str "MissingTie", lk_code _ _ _, small (by show 2 ≤ 1000000; decide), _, _, rfl, rfl, ?_⟩
      refine yes (by decide +kernel) ?_
      exact ⟨ff _ rfl, _, lk_fld (by decide +kernel) _ _, q⟩
    | 25, ht =>
      cases ht
      refine ⟨fc, .str "UnknownMoment", lk_code _ _ _, small (by show 3 ≤ 1000000; decide), _, _, rfl, rfl, ?_⟩
      refine no (by decide +kernel) ?_
      refine ⟨fc, .str "UnknownMoment", lk_code _ _ _, small (by show 3 ≤ 1000000; decide), _, _, rfl, rfl, ?_⟩
      refine no (by decide +kernel) ?_
      refine ⟨fc, .str "UnknownMoment", lk_code _ _ _, small (by show 5 ≤ 1000000; decide), _, _, rfl, rfl, ?_⟩
      refine yes (by decide +kernel) ?_
      exact ⟨ff _ rfl, _, lk_fld (by decide +kernel) _ _, q⟩
    | n + 26, ht => exact absurd hi (by omega)
/-! ### the errors made -/
def Φ_law_made_errors (CS : List Addr) : List D → (D → Prop) → Prop := fun ds R => ∃ g, ds = [g] ∧ R (.lst (rowsD CS g))
theorem ok_law_made_errors {f_law_made_errors : Addr} {fd_law_made_errors : FuncData} (B : Blt K mg) (D_law_made_errors : DefAt K mg "_law_made_errors" s_law_made_errors P_law_made_errors f_law_made_errors fd_law_made_errors)  {C_UnknownMoment : Addr} (E_UnknownMoment : Er1 P w K mg base "UnknownMoment" "given" "UnknownMoment" C_UnknownMoment) {C_MissingTie : Addr} (E_MissingTie : Er1 P w K mg base "MissingTie" "tie" "MissingTie" C_MissingTie) {C_UnknownField : Addr} (E_UnknownField : Er1 P w K mg base "UnknownField" "name" "UnknownField" C_UnknownField) {C_UnknownTie : Addr} (E_UnknownTie : Er1 P w K mg base "UnknownTie" "name" "UnknownTie" C_UnknownTie) {C_UnknownKind : Addr} (E_UnknownKind : Er1 P w K mg base "UnknownKind" "name" "UnknownKind" C_UnknownKind) {C_UnknownCell : Addr} (E_UnknownCell : Er1 P w K mg base "UnknownCell" "name" "UnknownCell" C_UnknownCell) {C_EmptyHistory : Addr} (E_EmptyHistory : Er0 P w K mg base "EmptyHistory" "EmptyHistory" C_EmptyHistory) {C_Full : Addr} (E_Full : Er1 P w K mg base "Full" "limit" "Full" C_Full) {C_Unsettled : Addr} (E_Unsettled : Er0 P w K mg base "Unsettled" "Unsettled" C_Unsettled) {C_BooksDiffer : Addr} (E_BooksDiffer : Er0 P w K mg base "BooksDiffer" "BooksDiffer" C_BooksDiffer) {C_KindsDiffer : Addr} (E_KindsDiffer : Er1 P w K mg base "KindsDiffer" "name" "KindsDiffer" C_KindsDiffer) {C_DuplicateTie : Addr} (E_DuplicateTie : Er1 P w K mg base "DuplicateTie" "tie" "DuplicateTie" C_DuplicateTie) {C_DuplicateCell : Addr} (E_DuplicateCell : Er1 P w K mg base "DuplicateCell" "name" "DuplicateCell" C_DuplicateCell) {C_InvalidPage : Addr} (E_InvalidPage : Er1 P w K mg base "InvalidPage" "line" "InvalidPage" C_InvalidPage) {C_InvalidLimit : Addr} (E_InvalidLimit : Er1 P w K mg base "InvalidLimit" "given" "InvalidLimit" C_InvalidLimit) {C_InvalidCommand : Addr} (E_InvalidCommand : Er1 P w K mg base "InvalidCommand" "word" "InvalidCommand" C_InvalidCommand) {C_InvalidCount : Addr} (E_InvalidCount : Er1 P w K mg base "InvalidCount" "given" "InvalidCount" C_InvalidCount) {C_InvalidLook : Addr} (E_InvalidLook : Er1 P w K mg base "InvalidLook" "cell" "InvalidLook" C_InvalidLook) {C_InvalidState : Addr} (E_InvalidState : Er1 P w K mg base "InvalidState" "cell" "InvalidState" C_InvalidState) {C_InvalidNetwork : Addr} (E_InvalidNetwork : Er1 P w K mg base "InvalidNetwork" "line" "InvalidNetwork" C_InvalidNetwork) {C_InvalidName : Addr} (E_InvalidName : Er1 P w K mg base "InvalidName" "given" "InvalidName" C_InvalidName) {C_InvalidRulebook : Addr} (E_InvalidRulebook : Er1 P w K mg base "InvalidRulebook" "line" "InvalidRulebook" C_InvalidRulebook) {C_InvalidHolding : Addr} (E_InvalidHolding : Er1 P w K mg base "InvalidHolding" "given" "InvalidHolding" C_InvalidHolding) {C_InvalidKind : Addr} (E_InvalidKind : Er1 P w K mg base "InvalidKind" "position" "InvalidKind" C_InvalidKind) {C_InvalidTie : Addr} (E_InvalidTie : Er1 P w K mg base "InvalidTie" "position" "InvalidTie" C_InvalidTie) {C_InvalidField : Addr} (E_InvalidField : Er1 P w K mg base "InvalidField" "position" "InvalidField" C_InvalidField) : FnOk P w K mg base CX0 (3) f_law_made_errors fd_law_made_errors P_law_made_errors (spD K (Φ_law_made_errors [C_InvalidField, C_InvalidTie, C_InvalidKind, C_InvalidHolding, C_InvalidRulebook, C_InvalidName, C_InvalidNetwork, C_InvalidState, C_InvalidLook, C_InvalidCount, C_InvalidCommand, C_InvalidLimit, C_InvalidPage, C_DuplicateCell, C_DuplicateTie, C_KindsDiffer, C_BooksDiffer, C_Unsettled, C_Full, C_EmptyHistory, C_UnknownCell, C_UnknownKind, C_UnknownTie, C_UnknownField, C_MissingTie, C_UnknownMoment])) := by
  refine fn_data (k := 2) D_law_made_errors.fn sc_law_made_errors (fun ds R h => ?_) (fun cdv A outer s H E hr => ⟨_, (qss_cons (qs_set (i := 1) sc_law_made_errors.nd (qe_lst (qa_cons (qe_tup (qa_cons qe_str (qa_cons (qe_mk1 E_InvalidField (hr.mono (by decide)) pass0 (by rfl) (qe_var (i := 0))) qa_nil))) (qa_cons (qe_tup (qa_cons qe_str (qa_cons (qe_mk1 E_InvalidTie (hr.mono (by decide)) pass0 (by rfl) (qe_var (i := 0))) qa_nil))) (qa_cons (qe_tup (qa_cons qe_str (qa_cons (qe_mk1 E_InvalidKind (hr.mono (by decide)) pass0 (by rfl) (qe_var (i := 0))) qa_nil))) qa_nil)))))
      (qss_cons (qs_set (i := 1) sc_law_made_errors.nd (qe_op od_add (qe_var (i := 1)) (qe_lst (qa_cons (qe_tup (qa_cons qe_str (qa_cons (qe_mk1 E_InvalidHolding (hr.mono (by decide)) pass0 (by rfl) (qe_var (i := 0))) qa_nil))) (qa_cons (qe_tup (qa_cons qe_str (qa_cons (qe_mk1 E_InvalidRulebook (hr.mono (by decide)) pass0 (by rfl) (qe_var (i := 0))) qa_nil))) qa_nil)))))
      (qss_cons (qs_set (i := 1) sc_law_made_errors.nd (qe_op od_add (qe_var (i := 1)) (qe_lst (qa_cons (qe_tup (qa_cons qe_str (qa_cons (qe_mk1 E_InvalidName (hr.mono (by decide)) pass0 (by rfl) (qe_var (i := 0))) qa_nil))) (qa_cons (qe_tup (qa_cons qe_str (qa_cons (qe_mk1 E_InvalidNetwork (hr.mono (by decide)) pass0 (by rfl) (qe_var (i := 0))) qa_nil))) qa_nil)))))
      (qss_cons (qs_set (i := 1) sc_law_made_errors.nd (qe_op od_add (qe_var (i := 1)) (qe_lst (qa_cons (qe_tup (qa_cons qe_str (qa_cons (qe_mk1 E_InvalidState (hr.mono (by decide)) pass0 (by rfl) (qe_var (i := 0))) qa_nil))) (qa_cons (qe_tup (qa_cons qe_str (qa_cons (qe_mk1 E_InvalidLook (hr.mono (by decide)) pass0 (by rfl) (qe_var (i := 0))) qa_nil))) qa_nil)))))
      (qss_cons (qs_set (i := 1) sc_law_made_errors.nd (qe_op od_add (qe_var (i := 1)) (qe_lst (qa_cons (qe_tup (qa_cons qe_str (qa_cons (qe_mk1 E_InvalidCount (hr.mono (by decide)) pass0 (by rfl) (qe_var (i := 0))) qa_nil))) (qa_cons (qe_tup (qa_cons qe_str (qa_cons (qe_mk1 E_InvalidCommand (hr.mono (by decide)) pass0 (by rfl) (qe_var (i := 0))) qa_nil))) qa_nil)))))
      (qss_cons (qs_set (i := 1) sc_law_made_errors.nd (qe_op od_add (qe_var (i := 1)) (qe_lst (qa_cons (qe_tup (qa_cons qe_str (qa_cons (qe_mk1 E_InvalidLimit (hr.mono (by decide)) pass0 (by rfl) (qe_var (i := 0))) qa_nil))) (qa_cons (qe_tup (qa_cons qe_str (qa_cons (qe_mk1 E_InvalidPage (hr.mono (by decide)) pass0 (by rfl) (qe_var (i := 0))) qa_nil))) qa_nil)))))
      (qss_cons (qs_set (i := 1) sc_law_made_errors.nd (qe_op od_add (qe_var (i := 1)) (qe_lst (qa_cons (qe_tup (qa_cons qe_str (qa_cons (qe_mk1 E_DuplicateCell (hr.mono (by decide)) pass0 (by rfl) (qe_var (i := 0))) qa_nil))) (qa_cons (qe_tup (qa_cons qe_str (qa_cons (qe_mk1 E_DuplicateTie (hr.mono (by decide)) pass0 (by rfl) (qe_var (i := 0))) qa_nil))) qa_nil)))))
      (qss_cons (qs_set (i := 1) sc_law_made_errors.nd (qe_op od_add (qe_var (i := 1)) (qe_lst (qa_cons (qe_tup (qa_cons qe_str (qa_cons (qe_mk1 E_KindsDiffer (hr.mono (by decide)) pass0 (by rfl) (qe_var (i := 0))) qa_nil))) (qa_cons (qe_tup (qa_cons qe_str (qa_cons (qe_mk0 E_BooksDiffer (hr.mono (by decide)) pass0 (by rfl)) qa_nil))) (qa_cons (qe_tup (qa_cons qe_str (qa_cons (qe_mk0 E_Unsettled (hr.mono (by decide)) pass0 (by rfl)) qa_nil))) qa_nil))))))
      (qss_cons (qs_set (i := 1) sc_law_made_errors.nd (qe_op od_add (qe_var (i := 1)) (qe_lst (qa_cons (qe_tup (qa_cons qe_str (qa_cons (qe_mk1 E_Full (hr.mono (by decide)) pass0 (by rfl) (qe_var (i := 0))) qa_nil))) (qa_cons (qe_tup (qa_cons qe_str (qa_cons (qe_mk0 E_EmptyHistory (hr.mono (by decide)) pass0 (by rfl)) qa_nil))) (qa_cons (qe_tup (qa_cons qe_str (qa_cons (qe_mk1 E_UnknownCell (hr.mono (by decide)) pass0 (by rfl) (qe_var (i := 0))) qa_nil))) qa_nil))))))
      (qss_cons (qs_set (i := 1) sc_law_made_errors.nd (qe_op od_add (qe_var (i := 1)) (qe_lst (qa_cons (qe_tup (qa_cons qe_str (qa_cons (qe_mk1 E_UnknownKind (hr.mono (by decide)) pass0 (by rfl) (qe_var (i := 0))) qa_nil))) (qa_cons (qe_tup (qa_cons qe_str (qa_cons (qe_mk1 E_UnknownTie (hr.mono (by decide)) pass0 (by rfl) (qe_var (i := 0))) qa_nil))) qa_nil)))))
      (qss_cons (qs_set (i := 1) sc_law_made_errors.nd (qe_op od_add (qe_var (i := 1)) (qe_lst (qa_cons (qe_tup (qa_cons qe_str (qa_cons (qe_mk1 E_UnknownField (hr.mono (by decide)) pass0 (by rfl) (qe_var (i := 0))) qa_nil))) (qa_cons (qe_tup (qa_cons qe_str (qa_cons (qe_mk1 E_MissingTie (hr.mono (by decide)) pass0 (by rfl) (qe_var (i := 0))) qa_nil))) qa_nil)))))
      (qss_one (qs_ret (qe_op od_add (qe_var (i := 1)) (qe_lst (qa_cons (qe_tup (qa_cons qe_str (qa_cons (qe_mk1 E_UnknownMoment (hr.mono (by decide)) pass0 (by rfl) (qe_var (i := 0))) qa_nil))) qa_nil)))))))))))))))), fun ds R h => ?_⟩)
  · obtain ⟨g, rfl, _⟩ := h; rfl
  · obtain ⟨g, rfl, q⟩ := h
    refine ⟨small (by show 2 ≤ 1000000; decide), small (by show 2 ≤ 1000000; decide), small (by show 2 ≤ 1000000; decide), small (by show 3 ≤ 1000000; decide), ?_⟩
    refine ⟨small (by show 2 ≤ 1000000; decide), small (by show 2 ≤ 1000000; decide), small (by show 2 ≤ 1000000; decide), small (by show 3 + 2 ≤ 1000000; decide), ?_⟩
    refine ⟨small (by show 2 ≤ 1000000; decide), small (by show 2 ≤ 1000000; decide), small (by show 2 ≤ 1000000; decide), small (by show 5 + 2 ≤ 1000000; decide), ?_⟩
    refine ⟨small (by show 2 ≤ 1000000; decide), small (by show 2 ≤ 1000000; decide), small (by show 2 ≤ 1000000; decide), small (by show 7 + 2 ≤ 1000000; decide), ?_⟩
    refine ⟨small (by show 2 ≤ 1000000; decide), small (by show 2 ≤ 1000000; decide), small (by show 2 ≤ 1000000; decide), small (by show 9 + 2 ≤ 1000000; decide), ?_⟩
    refine ⟨small (by show 2 ≤ 1000000; decide), small (by show 2 ≤ 1000000; decide), small (by show 2 ≤ 1000000; decide), small (by show 11 + 2 ≤ 1000000; decide), ?_⟩
    refine ⟨small (by show 2 ≤ 1000000; decide), small (by show 2 ≤ 1000000; decide), small (by show 2 ≤ 1000000; decide), small (by show 13 + 2 ≤ 1000000; decide), ?_⟩
    refine ⟨small (by show 2 ≤ 1000000; decide), small (by show 2 ≤ 1000000; decide), small (by show 2 ≤ 1000000; decide), small (by show 3 ≤ 1000000; decide), small (by show 15 + 3 ≤ 1000000; decide), ?_⟩
    refine ⟨small (by show 2 ≤ 1000000; decide), small (by show 2 ≤ 1000000; decide), small (by show 2 ≤ 1000000; decide), small (by show 3 ≤ 1000000; decide), small (by show 18 + 3 ≤ 1000000; decide), ?_⟩
    refine ⟨small (by show 2 ≤ 1000000; decide), small (by show 2 ≤ 1000000; decide), small (by show 2 ≤ 1000000; decide), small (by show 21 + 2 ≤ 1000000; decide), ?_⟩
    refine ⟨small (by show 2 ≤ 1000000; decide), small (by show 2 ≤ 1000000; decide), small (by show 2 ≤ 1000000; decide), small (by show 23 + 2 ≤ 1000000; decide), ?_⟩
    exact ⟨small (by show 2 ≤ 1000000; decide), small (by show 1 ≤ 1000000; decide), small (by show 25 + 1 ≤ 1000000; decide), q⟩
/-! ### of which classes an error is -/
def Φ_law_flags (CS : List Addr) (K : PySem.W.Frag) : List D → (D → Prop) → Prop := fun ds R => ∃ i r C g, ds = [errD C r g] ∧ IsE K CS i r C ∧ R (.lst ((flagsD i).map D.bl))
theorem ok_law_flags {f_law_flags : Addr} {fd_law_flags : FuncData} (B : Blt K mg) (D_law_flags : DefAt K mg "_law_flags" s_law_flags P_law_flags f_law_flags fd_law_flags)  {C_UnknownMoment : Addr} (E_UnknownMoment : Er1 P w K mg base "UnknownMoment" "given" "UnknownMoment" C_UnknownMoment) {C_MissingTie : Addr} (E_MissingTie : Er1 P w K mg base "MissingTie" "tie" "MissingTie" C_MissingTie) {C_UnknownField : Addr} (E_UnknownField : Er1 P w K mg base "UnknownField" "name" "UnknownField" C_UnknownField) {C_UnknownTie : Addr} (E_UnknownTie : Er1 P w K mg base "UnknownTie" "name" "UnknownTie" C_UnknownTie) {C_UnknownKind : Addr} (E_UnknownKind : Er1 P w K mg base "UnknownKind" "name" "UnknownKind" C_UnknownKind) {C_UnknownCell : Addr} (E_UnknownCell : Er1 P w K mg base "UnknownCell" "name" "UnknownCell" C_UnknownCell) {C_EmptyHistory : Addr} (E_EmptyHistory : Er0 P w K mg base "EmptyHistory" "EmptyHistory" C_EmptyHistory) {C_Full : Addr} (E_Full : Er1 P w K mg base "Full" "limit" "Full" C_Full) {C_Unsettled : Addr} (E_Unsettled : Er0 P w K mg base "Unsettled" "Unsettled" C_Unsettled) {C_BooksDiffer : Addr} (E_BooksDiffer : Er0 P w K mg base "BooksDiffer" "BooksDiffer" C_BooksDiffer) {C_KindsDiffer : Addr} (E_KindsDiffer : Er1 P w K mg base "KindsDiffer" "name" "KindsDiffer" C_KindsDiffer) {C_DuplicateTie : Addr} (E_DuplicateTie : Er1 P w K mg base "DuplicateTie" "tie" "DuplicateTie" C_DuplicateTie) {C_DuplicateCell : Addr} (E_DuplicateCell : Er1 P w K mg base "DuplicateCell" "name" "DuplicateCell" C_DuplicateCell) {C_InvalidPage : Addr} (E_InvalidPage : Er1 P w K mg base "InvalidPage" "line" "InvalidPage" C_InvalidPage) {C_InvalidLimit : Addr} (E_InvalidLimit : Er1 P w K mg base "InvalidLimit" "given" "InvalidLimit" C_InvalidLimit) {C_InvalidCommand : Addr} (E_InvalidCommand : Er1 P w K mg base "InvalidCommand" "word" "InvalidCommand" C_InvalidCommand) {C_InvalidCount : Addr} (E_InvalidCount : Er1 P w K mg base "InvalidCount" "given" "InvalidCount" C_InvalidCount) {C_InvalidLook : Addr} (E_InvalidLook : Er1 P w K mg base "InvalidLook" "cell" "InvalidLook" C_InvalidLook) {C_InvalidState : Addr} (E_InvalidState : Er1 P w K mg base "InvalidState" "cell" "InvalidState" C_InvalidState) {C_InvalidNetwork : Addr} (E_InvalidNetwork : Er1 P w K mg base "InvalidNetwork" "line" "InvalidNetwork" C_InvalidNetwork) {C_InvalidName : Addr} (E_InvalidName : Er1 P w K mg base "InvalidName" "given" "InvalidName" C_InvalidName) {C_InvalidRulebook : Addr} (E_InvalidRulebook : Er1 P w K mg base "InvalidRulebook" "line" "InvalidRulebook" C_InvalidRulebook) {C_InvalidHolding : Addr} (E_InvalidHolding : Er1 P w K mg base "InvalidHolding" "given" "InvalidHolding" C_InvalidHolding) {C_InvalidKind : Addr} (E_InvalidKind : Er1 P w K mg base "InvalidKind" "position" "InvalidKind" C_InvalidKind) {C_InvalidTie : Addr} (E_InvalidTie : Er1 P w K mg base "InvalidTie" "position" "InvalidTie" C_InvalidTie) {C_InvalidField : Addr} (E_InvalidField : Er1 P w K mg base "InvalidField" "position" "InvalidField" C_InvalidField) {C_Missing : Addr} (M_Missing : mg "Missing" = some (.ref C_Missing)) {C_BestError : Addr} (M_BestError : mg "BestError" = some (.ref C_BestError))(KIT : kitB K [C_InvalidField, C_InvalidTie, C_InvalidKind, C_InvalidHolding, C_InvalidRulebook, C_InvalidName, C_InvalidNetwork, C_InvalidState, C_InvalidLook, C_InvalidCount, C_InvalidCommand, C_InvalidLimit, C_InvalidPage, C_DuplicateCell, C_DuplicateTie, C_KindsDiffer, C_BooksDiffer, C_Unsettled, C_Full, C_EmptyHistory, C_UnknownCell, C_UnknownKind, C_UnknownTie, C_UnknownField, C_MissingTie, C_UnknownMoment] [.ref C_InvalidField, .ref C_InvalidTie, .ref C_InvalidKind, .ref C_InvalidHolding, .ref C_InvalidRulebook, .ref C_InvalidName, .ref C_InvalidNetwork, .ref C_InvalidState, .ref C_InvalidLook, .ref C_InvalidCount, .ref C_InvalidCommand, .ref C_InvalidLimit, .ref C_InvalidPage, .ref C_DuplicateCell, .ref C_DuplicateTie, .ref C_KindsDiffer, .ref C_BooksDiffer, .ref C_Unsettled, .ref C_Full, .ref C_EmptyHistory, .ref C_UnknownCell, .ref C_UnknownKind, .ref C_UnknownTie, .ref C_UnknownField, .ref C_MissingTie, .ref C_UnknownMoment, .ref C_BestError, .type "ValueError", .ref C_Missing, .type "LookupError"] = true) : FnOk P w K mg base CX0 (1) f_law_flags fd_law_flags P_law_flags (spD K (Φ_law_flags [C_InvalidField, C_InvalidTie, C_InvalidKind, C_InvalidHolding, C_InvalidRulebook, C_InvalidName, C_InvalidNetwork, C_InvalidState, C_InvalidLook, C_InvalidCount, C_InvalidCommand, C_InvalidLimit, C_InvalidPage, C_DuplicateCell, C_DuplicateTie, C_KindsDiffer, C_BooksDiffer, C_Unsettled, C_Full, C_EmptyHistory, C_UnknownCell, C_UnknownKind, C_UnknownTie, C_UnknownField, C_MissingTie, C_UnknownMoment] K)) := by
  refine fn_data (k := 0) D_law_flags.fn sc_law_flags (fun ds R h => ?_) (fun cdv A outer s H E hr => ⟨_, (qss_cons (qs_set (i := 1) sc_law_flags.nd (qe_lst (qa_cons (qe_isiE (pe_glob (v := .ref _) (by rfl) E_InvalidField.mgx rfl) (.own _) (by rfl) B.b_isinstance (qe_var (i := 0))) (qa_cons (qe_isiE (pe_glob (v := .ref _) (by rfl) E_InvalidTie.mgx rfl) (.own _) (by rfl) B.b_isinstance (qe_var (i := 0))) (qa_cons (qe_isiE (pe_glob (v := .ref _) (by rfl) E_InvalidKind.mgx rfl) (.own _) (by rfl) B.b_isinstance (qe_var (i := 0))) qa_nil)))))
      (qss_cons (qs_set (i := 1) sc_law_flags.nd (qe_op od_add (qe_var (i := 1)) (qe_lst (qa_cons (qe_isiE (pe_glob (v := .ref _) (by rfl) E_InvalidHolding.mgx rfl) (.own _) (by rfl) B.b_isinstance (qe_var (i := 0))) (qa_cons (qe_isiE (pe_glob (v := .ref _) (by rfl) E_InvalidRulebook.mgx rfl) (.own _) (by rfl) B.b_isinstance (qe_var (i := 0))) (qa_cons (qe_isiE (pe_glob (v := .ref _) (by rfl) E_InvalidName.mgx rfl) (.own _) (by rfl) B.b_isinstance (qe_var (i := 0))) qa_nil))))))
      (qss_cons (qs_set (i := 1) sc_law_flags.nd (qe_op od_add (qe_var (i := 1)) (qe_lst (qa_cons (qe_isiE (pe_glob (v := .ref _) (by rfl) E_InvalidNetwork.mgx rfl) (.own _) (by rfl) B.b_isinstance (qe_var (i := 0))) (qa_cons (qe_isiE (pe_glob (v := .ref _) (by rfl) E_InvalidState.mgx rfl) (.own _) (by rfl) B.b_isinstance (qe_var (i := 0))) (qa_cons (qe_isiE (pe_glob (v := .ref _) (by rfl) E_InvalidLook.mgx rfl) (.own _) (by rfl) B.b_isinstance (qe_var (i := 0))) qa_nil))))))
      (qss_cons (qs_set (i := 1) sc_law_flags.nd (qe_op od_add (qe_var (i := 1)) (qe_lst (qa_cons (qe_isiE (pe_glob (v := .ref _) (by rfl) E_InvalidCount.mgx rfl) (.own _) (by rfl) B.b_isinstance (qe_var (i := 0))) (qa_cons (qe_isiE (pe_glob (v := .ref _) (by rfl) E_InvalidCommand.mgx rfl) (.own _) (by rfl) B.b_isinstance (qe_var (i := 0))) (qa_cons (qe_isiE (pe_glob (v := .ref _) (by rfl) E_InvalidLimit.mgx rfl) (.own _) (by rfl) B.b_isinstance (qe_var (i := 0))) qa_nil))))))
      (qss_cons (qs_set (i := 1) sc_law_flags.nd (qe_op od_add (qe_var (i := 1)) (qe_lst (qa_cons (qe_isiE (pe_glob (v := .ref _) (by rfl) E_InvalidPage.mgx rfl) (.own _) (by rfl) B.b_isinstance (qe_var (i := 0))) (qa_cons (qe_isiE (pe_glob (v := .ref _) (by rfl) E_DuplicateCell.mgx rfl) (.own _) (by rfl) B.b_isinstance (qe_var (i := 0))) (qa_cons (qe_isiE (pe_glob (v := .ref _) (by rfl) E_DuplicateTie.mgx rfl) (.own _) (by rfl) B.b_isinstance (qe_var (i := 0))) qa_nil))))))
      (qss_cons (qs_set (i := 1) sc_law_flags.nd (qe_op od_add (qe_var (i := 1)) (qe_lst (qa_cons (qe_isiE (pe_glob (v := .ref _) (by rfl) E_KindsDiffer.mgx rfl) (.own _) (by rfl) B.b_isinstance (qe_var (i := 0))) (qa_cons (qe_isiE (pe_glob (v := .ref _) (by rfl) E_BooksDiffer.mgx rfl) (.own _) (by rfl) B.b_isinstance (qe_var (i := 0))) (qa_cons (qe_isiE (pe_glob (v := .ref _) (by rfl) E_Unsettled.mgx rfl) (.own _) (by rfl) B.b_isinstance (qe_var (i := 0))) qa_nil))))))
      (qss_cons (qs_set (i := 1) sc_law_flags.nd (qe_op od_add (qe_var (i := 1)) (qe_lst (qa_cons (qe_isiE (pe_glob (v := .ref _) (by rfl) E_Full.mgx rfl) (.own _) (by rfl) B.b_isinstance (qe_var (i := 0))) (qa_cons (qe_isiE (pe_glob (v := .ref _) (by rfl) E_EmptyHistory.mgx rfl) (.own _) (by rfl) B.b_isinstance (qe_var (i := 0))) (qa_cons (qe_isiE (pe_glob (v := .ref _) (by rfl) E_UnknownCell.mgx rfl) (.own _) (by rfl) B.b_isinstance (qe_var (i := 0))) qa_nil))))))
      (qss_cons (qs_set (i := 1) sc_law_flags.nd (qe_op od_add (qe_var (i := 1)) (qe_lst (qa_cons (qe_isiE (pe_glob (v := .ref _) (by rfl) E_UnknownKind.mgx rfl) (.own _) (by rfl) B.b_isinstance (qe_var (i := 0))) (qa_cons (qe_isiE (pe_glob (v := .ref _) (by rfl) E_UnknownTie.mgx rfl) (.own _) (by rfl) B.b_isinstance (qe_var (i := 0))) (qa_cons (qe_isiE (pe_glob (v := .ref _) (by rfl) E_UnknownField.mgx rfl) (.own _) (by rfl) B.b_isinstance (qe_var (i := 0))) qa_nil))))))
      (qss_cons (qs_set (i := 1) sc_law_flags.nd (qe_op od_add (qe_var (i := 1)) (qe_lst (qa_cons (qe_isiE (pe_glob (v := .ref _) (by rfl) E_MissingTie.mgx rfl) (.own _) (by rfl) B.b_isinstance (qe_var (i := 0))) (qa_cons (qe_isiE (pe_glob (v := .ref _) (by rfl) E_UnknownMoment.mgx rfl) (.own _) (by rfl) B.b_isinstance (qe_var (i := 0))) qa_nil)))))
      (qss_one (qs_ret (qe_op od_add (qe_var (i := 1)) (qe_lst (qa_cons (qe_isiE (pe_glob (v := .ref _) (by rfl) M_BestError rfl) (.own _) (by rfl) B.b_isinstance (qe_var (i := 0))) (qa_cons (qe_isiE (pe_bltn (v := .ty "ValueError") (by rfl) B.b_ValueError (by decide +kernel) rfl) (.ty _) (by rfl) B.b_isinstance (qe_var (i := 0))) (qa_cons (qe_isiE (pe_glob (v := .ref _) (by rfl) M_Missing rfl) (.own _) (by rfl) B.b_isinstance (qe_var (i := 0))) (qa_cons (qe_isiE (pe_bltn (v := .ty "LookupError") (by rfl) B.b_LookupError (by decide +kernel) rfl) (.ty _) (by rfl) B.b_isinstance (qe_var (i := 0))) qa_nil))))))))))))))))), fun ds R h => ?_⟩)
  · obtain ⟨i, r, C, g, rfl, _⟩ := h; rfl
  · obtain ⟨i, r, C, g, rfl, hE, q⟩ := h
    have k := kitB_ok KIT (tab_len hE.t) hE.c
    have e := hE.e
    obtain ⟨ns, xs, ed⟩ := errD_is C r g
    rw [ed]
    refine ⟨e, _, k 0 (by decide), e, _, k 1 (by decide), e, _, k 2 (by decide), small (by show 3 ≤ 1000000; decide), ?_⟩
    refine ⟨e, _, k 3 (by decide), e, _, k 4 (by decide), e, _, k 5 (by decide), small (by show 3 ≤ 1000000; decide), small (by show 3 + 3 ≤ 1000000; decide), ?_⟩
    refine ⟨e, _, k 6 (by decide), e, _, k 7 (by decide), e, _, k 8 (by decide), small (by show 3 ≤ 1000000; decide), small (by show 6 + 3 ≤ 1000000; decide), ?_⟩
    refine ⟨e, _, k 9 (by decide), e, _, k 10 (by decide), e, _, k 11 (by decide), small (by show 3 ≤ 1000000; decide), small (by show 9 + 3 ≤ 1000000; decide), ?_⟩
    refine ⟨e, _, k 12 (by decide), e, _, k 13 (by decide), e, _, k 14 (by decide), small (by show 3 ≤ 1000000; decide), small (by show 12 + 3 ≤ 1000000; decide), ?_⟩
    refine ⟨e, _, k 15 (by decide), e, _, k 16 (by decide), e, _, k 17 (by decide), small (by show 3 ≤ 1000000; decide), small (by show 15 + 3 ≤ 1000000; decide), ?_⟩
    refine ⟨e, _, k 18 (by decide), e, _, k 19 (by decide), e, _, k 20 (by decide), small (by show 3 ≤ 1000000; decide), small (by show 18 + 3 ≤ 1000000; decide), ?_⟩
    refine ⟨e, _, k 21 (by decide), e, _, k 22 (by decide), e, _, k 23 (by decide), small (by show 3 ≤ 1000000; decide), small (by show 21 + 3 ≤ 1000000; decide), ?_⟩
    refine ⟨e, _, k 24 (by decide), e, _, k 25 (by decide), small (by show 2 ≤ 1000000; decide), small (by show 24 + 2 ≤ 1000000; decide), ?_⟩
    exact ⟨e, _, k 26 (by decide), e, _, k 27 (by decide), e, _, k 28 (by decide), e, _, k 29 (by decide), small (by show 4 ≤ 1000000; decide), small (by show 26 + 4 ≤ 1000000; decide), q⟩
end
end LW
namespace LW
open PySem PySem.Spec PyProof.Rows DL
open L2 hiding St
/-! ### the table, looked at -/
def firstB : Bool := (List.range 26).all fun i => (List.range i).all fun m => match tab[i]?, tab[m]? with
  | some r, some s => !decide (s.1 = r.1)
  | _, _ => false
theorem firstB_ok : firstB = true := by decide +kernel
theorem tab_first {i : Nat} {r : Row} (h : tab[i]? = some r) (m : Nat) (hm : m < i) : (tab.map (·.1))[m]? ≠ some r.1 := by
  have z := List.all_eq_true.mp (List.all_eq_true.mp firstB_ok i (List.mem_range.mpr (tab_len h))) m (List.mem_range.mpr hm)
  rw [h] at z
  rw [List.getElem?_map]
  cases e : tab[m]? with
  | none => intro q; cases q
  | some s =>
    rw [e] at z
    intro q
    have q1 : s.1 = r.1 := Option.some.inj q
    have z1 : (!decide (s.1 = r.1)) = true := z
    rw [q1, decide_eq_true rfl] at z1
    cases z1
def dueL (i : Nat) (c : Str) : List Bool := (tab.map fun r => decide (r.1 = c)) ++ [!decide ((19 : Int) < (i : Int)), !decide ((19 : Int) < (i : Int)), decide ((19 : Int) < (i : Int)), decide ((19 : Int) < (i : Int))]
def dueB : Bool := (List.range 26).all fun i => match tab[i]? with
  | some r => decide (dueL i r.1 = flagsD i)
  | none => false
theorem dueB_ok : dueB = true := by decide +kernel
theorem due_eq {i : Nat} {r : Row} (h : tab[i]? = some r) : dueL i r.1 = flagsD i := by
  have z := List.all_eq_true.mp dueB_ok i (List.mem_range.mpr (tab_len h))
  rw [h] at z
  exact of_decide_eq_true z
abbrev bareV : List V := [.str "BooksDiffer", .str "Unsettled", .str "EmptyHistory"]
def bareB : Bool := tab.all fun r => decide (inV (.str r.1) bareV = r.2.isNone)
theorem bareB_ok : bareB = true := by decide +kernel
theorem bare_eq {i : Nat} {r : Row} (h : tab[i]? = some r) : inV (.str r.1) bareV = r.2.isNone := of_decide_eq_true (List.all_eq_true.mp bareB_ok r (List.mem_of_getElem? h))
theorem zip_at {α β : Type} : ∀ {l : List α} {m : List β} {p : α × β}, p ∈ l.zip m → ∃ i : Nat, l[i]? = some p.1 ∧ m[i]? = some p.2
  | [], m, p, h => by simp at h
  | a :: l, [], p, h => by simp at h
  | a :: l, b :: m, p, h => by
    rw [List.zip_cons_cons] at h
    rcases List.mem_cons.mp h with rfl | h
    · exact ⟨0, rfl, rfl⟩
    · obtain ⟨i, h1, h2⟩ := zip_at h
      exact ⟨i + 1, h1, h2⟩
theorem zip_fst {α β γ : Type} (f : α → γ) : ∀ {l : List α} {m : List β}, l.length = m.length → (l.zip m).map (fun p => f p.1) = l.map f
  | [], m, h => by cases m <;> simp
  | a :: l, [], h => by cases h
  | a :: l, b :: m, h => by
    rw [List.zip_cons_cons, List.map_cons, List.map_cons, zip_fst f (l := l) (m := m) (by simpa using h)]
theorem bl_ok (bs : List Bool) : okD 3 (.lst (bs.map D.bl)) := fun d m => by
  obtain ⟨b, _, rfl⟩ := List.mem_map.mp m
  trivial
def goodG (g : D) : Prop := lk 4 g ∧ lk 5 g
section
variable {P : Program} {w : World} {K : PySem.W.Frag} {mg : Str → Option Value} {base : Heap}
def Φ_law : List D → (D → Prop) → Prop := fun ds R => ∃ ns, ds = [.scr ns] ∧ R (.bl true)
theorem ok_law {f_law : Addr} {fd_law : FuncData} (B : Blt K mg) (D_law : DefAt K mg "law" s_law P_law f_law fd_law) {CS : List Addr} {f_law_like : Addr} {fd_law_like : FuncData} (D_law_like : DefAt K mg "_law_like" s_law_like P_law_like f_law_like fd_law_like) (G_law_like : FnOk P w K mg base CX0 5 f_law_like fd_law_like P_law_like (spD K (Φl 5))) {f_law_mixed : Addr} {fd_law_mixed : FuncData} (D_law_mixed : DefAt K mg "_law_mixed" s_law_mixed P_law_mixed f_law_mixed fd_law_mixed) (G_law_mixed : FnOk P w K mg base CX0 2 f_law_mixed fd_law_mixed P_law_mixed (spD K Φ_law_mixed)) {f_law_given : Addr} {fd_law_given : FuncData} (D_law_given : DefAt K mg "_law_given" s_law_given P_law_given f_law_given fd_law_given) (G_law_given : FnOk P w K mg base CX0 1 f_law_given fd_law_given P_law_given (spD K (Φ_law_given CS K))) {f_law_flags : Addr} {fd_law_flags : FuncData} (D_law_flags : DefAt K mg "_law_flags" s_law_flags P_law_flags f_law_flags fd_law_flags) (G_law_flags : FnOk P w K mg base CX0 1 f_law_flags fd_law_flags P_law_flags (spD K (Φ_law_flags CS K))) {f_law_made_errors : Addr} {fd_law_made_errors : FuncData} (D_law_made_errors : DefAt K mg "_law_made_errors" s_law_made_errors P_law_made_errors f_law_made_errors fd_law_made_errors) (G_law_made_errors : FnOk P w K mg base CX0 3 f_law_made_errors fd_law_made_errors P_law_made_errors (spD K (Φ_law_made_errors CS))) {f_law_any : Addr} {fd_law_any : FuncData} (D_law_any : DefAt K mg "_law_any" s_law_any P_law_any f_law_any fd_law_any) (G_law_any : FnOk P w K mg base CX0 2 f_law_any fd_law_any P_law_any (spD K Φ_law_any)) {f_law_draw : Addr} {fd_law_draw : FuncData} (D_law_draw : DefAt K mg "_law_draw" s_law_draw P_law_draw f_law_draw fd_law_draw) (G_law_draw : FnOk P w K mg base CX0 1 f_law_draw fd_law_draw P_law_draw (spD K Φ_law_draw)) {f_law_bag : Addr} {fd_law_bag : FuncData} (D_law_bag : DefAt K mg "_law_bag" s_law_bag P_law_bag f_law_bag fd_law_bag) (G_law_bag : FnOk P w K mg base CX0 1 f_law_bag fd_law_bag P_law_bag (spD K Φ_law_bag)) {C_InvalidPage : Addr} (E_InvalidPage : Er1 P w K mg base "InvalidPage" "line" "InvalidPage" C_InvalidPage) {C_MissingTie : Addr} (E_MissingTie : Er1 P w K mg base "MissingTie" "tie" "MissingTie" C_MissingTie) {C_Full : Addr} (E_Full : Er1 P w K mg base "Full" "limit" "Full" C_Full) {C_InvalidLook : Addr} (E_InvalidLook : Er1 P w K mg base "InvalidLook" "cell" "InvalidLook" C_InvalidLook)(hlen : CS.length = 26) (hCS : ∀ i r, tab[i]? = some r → ∃ C, IsE K CS i r C) : FnOk P w K mg base CX0 (6) f_law fd_law P_law (spD K Φ_law) := by
  refine fn_data (k := 5) D_law.fn sc_law (fun ds R h => ?_) (fun cdv A outer s H E hr => ⟨_, (qss_cons (qs_set (i := 1) sc_law.nd (qe_call (G_law_bag) (hr.mono (by decide)) (by rfl) D_law_bag.mgf D_law_bag.fn.kp D_law_bag.bd pass0 (qa_cons (qe_var (i := 0)) qa_nil)))
      (qss_cons (qs_set (i := 2) sc_law.nd (qe_call (G_law_any) (hr.mono (by decide)) (by rfl) D_law_any.mgf D_law_any.fn.kp D_law_any.bd pass0 (qa_cons (qe_var (i := 1)) (qa_cons (qe_lst (qa_cons qe_str (qa_cons qe_str (qa_cons qe_non (qa_cons qe_bl (qa_cons (qe_op od_add (qe_op od_pow qe_int qe_int) (qe_call (G_law_draw) (hr.mono (by decide)) (by rfl) D_law_draw.mgf D_law_draw.fn.kp D_law_draw.bd pass0 (qa_cons (qe_var (i := 1)) (qa_cons qe_int qa_nil)))) (qa_cons (qe_tup (qa_cons qe_str (qa_cons qe_int qa_nil))) (qa_cons (qe_lst (qa_cons qe_str qa_nil)) (qa_cons (qe_op od_sub qe_int (qe_call (G_law_draw) (hr.mono (by decide)) (by rfl) D_law_draw.mgf D_law_draw.fn.kp D_law_draw.bd pass0 (qa_cons (qe_var (i := 1)) (qa_cons qe_int qa_nil)))) qa_nil))))))))) qa_nil))))
      (qss_cons (qs_set (i := 3) sc_law.nd (qe_call (G_law_made_errors) (hr.mono (by decide)) (by rfl) D_law_made_errors.mgf D_law_made_errors.fn.kp D_law_made_errors.bd pass0 (qa_cons (qe_var (i := 2)) qa_nil)))
      (qss_cons (qs_setLc (i := 4) rfl sc_law.nd (blkOk_by (own := [("_law_code", 5), ("_law_error", 6)]) (N := N_law) (sc := defScope s_law) (by decide +kernel)) (qi_any (qe_var (i := 3))) (fun _ _ _ _ _ => (QG.str (qg_tup (n := 2) rfl (qgs_cons (qg_name sc_law.nd (i := 5)) (qgs_cons (qg_name sc_law.nd (i := 6)) qgs_nil))))) (fun _ _ _ _ _ => qts_nil) (fun _ _ _ _ _ => (qe_var (i := 5))) (sw_true rfl rfl rfl (by decide +kernel)))
      (qss_cons (qs_for PassesOwn.never rfl (qi_any (qe_call (G_law_mixed) (hr.mono (by decide)) (by rfl) D_law_mixed.mgf D_law_mixed.fn.kp D_law_mixed.bd pass0 (qa_cons (qe_var (i := 1)) (qa_cons (qe_var (i := 3)) qa_nil)))) (QG.str (qg_tup (n := 2) rfl (qgs_cons (qg_name sc_law.nd (i := 5)) (qgs_cons (qg_name sc_law.nd (i := 6)) qgs_nil)))) (qss_cons (qs_set (i := 7) sc_law.nd (qe_cmp od_gt (qe_meth ty_index (qe_var (i := 4)) (qa_cons (qe_var (i := 5)) qa_nil)) qe_int))
      (qss_cons (qs_set (i := 8) sc_law.nd (qe_op od_add (QL.qe (ql_lc rfl sc_law.nd (blkOk_by (own := [("_law_one", 11)]) (N := N_law) (sc := defScope s_law) (by decide +kernel)) (qi_any (qe_var (i := 4))) (fun _ _ _ _ _ => (qg_name sc_law.nd (i := 11))) (fun _ _ _ _ _ => qts_nil) (fun _ _ _ _ _ => (qe_cmp (od_eq hr.units) (qe_var (i := 11)) (qe_var (i := 5)))))) (qe_lst (qa_cons (qe_not (qe_var (i := 7))) (qa_cons (qe_not (qe_var (i := 7))) (qa_cons (qe_var (i := 7)) (qa_cons (qe_var (i := 7)) qa_nil)))))))
      (qss_cons (qs_set (i := 9) sc_law.nd (qe_cmp (od_in (hu65 hr)) (qe_var (i := 5)) (qe_tup (qa_cons qe_str (qa_cons qe_str (qa_cons qe_str qa_nil))))))
      (qss_cons (qs_if (QW.qt (qw_or (qt_cmp (od_ne hr.units) (qe_errf (qe_var (i := 6))) (qe_var (i := 5))) (qw_or1 (qt_cmp (od_ne hr.units) (qe_call (G_law_flags) (hr.mono (by decide)) (by rfl) D_law_flags.mgf D_law_flags.fn.kp D_law_flags.bd pass0 (qa_cons (qe_var (i := 6)) qa_nil)) (qe_var (i := 8)))))) (qss_one (qs_ret qe_bl)) qss_nil)
      (qss_one (qs_if (qt_not (qt_tru (qe_call (G_law_like) (hr.mono (by decide)) (by rfl) D_law_like.mgf D_law_like.fn.kp D_law_like.bd pass0 (qa_cons (qe_call (G_law_given) (hr.mono (by decide)) (by rfl) D_law_given.mgf D_law_given.fn.kp D_law_given.bd pass0 (qa_cons (qe_var (i := 6)) qa_nil)) (qa_cons (qe_ifExp (qt_tru (qe_var (i := 9))) qe_non (qe_var (i := 2))) qa_nil))))) (qss_one (qs_ret qe_bl)) qss_nil)))))))
      (qss_cons (qs_set (i := 10) sc_law.nd (qe_lst (qa_cons (qe_errf (qe_mkK E_InvalidLook (hr.mono (by decide)) pass0 (by rfl) (qe_var (i := 2)))) (qa_cons (qe_errf (qe_mkK E_Full (hr.mono (by decide)) pass0 (by rfl) (qe_var (i := 2)))) (qa_cons (qe_errf (qe_mkK E_MissingTie (hr.mono (by decide)) pass0 (by rfl) (qe_var (i := 2)))) (qa_cons (qe_errf (qe_mkK E_InvalidPage (hr.mono (by decide)) pass0 (by rfl) (qe_var (i := 2)))) qa_nil))))))
      (qss_one (qs_ret (qe_call (G_law_like) (hr.mono (by decide)) (by rfl) D_law_like.mgf D_law_like.fn.kp D_law_like.bd pass0 (qa_cons (qe_var (i := 10)) (qa_cons (qe_op od_mul (qe_lst (qa_cons (qe_var (i := 2)) qa_nil)) qe_int) qa_nil))))))))))), fun ds R h => ?_⟩)
  · obtain ⟨ns, rfl, _⟩ := h; rfl
  · obtain ⟨ns, rfl, q⟩ := h
    refine ⟨ns, rfl, ?_⟩
    refine ⟨⟨by decide, by decide, by decide⟩, 9, rfl, by omega, by omega, fun r r0 r1 => ⟨small (by show 2 ≤ 1000000; decide), small (by show 1 ≤ 1000000; decide), 9, rfl, by omega, by omega, fun u u0 u1 => ⟨small (by show 8 ≤ 1000000; decide), _, _, rfl, rfl, by show 0 < 8; decide, by show 8 < 1000; decide, fun x mx => ?_⟩⟩⟩
    have hx : goodG x := by
      simp only [List.mem_cons, List.not_mem_nil, or_false] at mx
      rcases mx with rfl | rfl | rfl | rfl | rfl | rfl | rfl | rfl
      · exact ⟨trivial, trivial⟩
      · exact ⟨trivial, trivial⟩
      · exact ⟨trivial, trivial⟩
      · exact ⟨trivial, trivial⟩
      · exact ⟨trivial, trivial⟩
      · have g : ∀ n, ∀ d ∈ [D.str "q", .int 3], lk (n + 1) d := fun n d m => by
          simp only [List.mem_cons, List.not_mem_nil, or_false] at m
          rcases m with rfl | rfl <;> trivial
        exact ⟨⟨by show 2 ≤ 1000; decide, g 2⟩, by show 2 ≤ 1000; decide, g 3⟩
      · have g : ∀ n, ∀ d ∈ [D.str "ab"], lk (n + 1) d := fun n d m => by
          rw [List.mem_singleton] at m
          subst m
          trivial
        exact ⟨⟨by show 1 ≤ 1000; decide, g 2⟩, by show 1 ≤ 1000; decide, g 3⟩
      · exact ⟨trivial, trivial⟩
    clear mx
    refine ⟨x, rfl, ?_⟩
    have hl : tab.length = CS.length := by rw [hlen]; decide
    refine .inl ⟨small (by show (List.map _ _).length ≤ _; rw [List.length_map, List.length_zip, ← hl, Nat.min_self]; decide), ?_⟩
    refine dlc_maps (rowD x) (fun p => .str p.1.1) (tab.zip CS) (fun p mp k hk => ⟨rfl, hk⟩) ?_
    rw [zip_fst (fun r : Row => D.str r.1) hl]
    refine .inl ⟨_, rfl, ?_, fun ys py => ?_⟩
    · show (List.map _ _).length < _; rw [List.length_map, List.length_zip, ← hl, Nat.min_self]; decide
    refine dfor_ind (fun rest ρ => (∀ d ∈ rest, ∃ i r C, IsE K CS i r C ∧ d = rowD x (r, C)) ∧ ∃ y5 y6 y7 y8 y9, ρ = [.val (.scr ns), .val .bag, .val x, .val (.lst (rowsD CS x)), .val (.lst (tab.map fun r => D.str r.1)), y5, y6, y7, y8, y9, .nul, .nul]) ?_ ?_ _ _ ⟨fun d md => ?_, _, _, _, _, _, rfl⟩
    · rintro ρ ⟨_, y5, y6, y7, y8, y9, rfl⟩
      refine ⟨E_InvalidLook.ff, _, lk_fld (by decide +kernel) _ _, E_Full.ff, _, lk_fld (by decide +kernel) _ _, E_MissingTie.ff, _, lk_fld (by decide +kernel) _ _, E_InvalidPage.ff, _, lk_fld (by decide +kernel) _ _, small (by show 4 ≤ 1000000; decide), ?_⟩
      refine ⟨small (by show 1 ≤ 1000000; decide), by decide, by decide, small (by show 1 * 4 ≤ 1000000; decide), .lst [x, x, x, x], rfl, ?_, q⟩
      refine ⟨by show 4 ≤ 1000; decide, fun d m => ?_⟩
      have e : d = x := by simpa using m
      subst e
      exact hx.1
    · rintro d rest ρ ⟨hd, y5, y6, y7, y8, y9, rfl⟩ k
      obtain ⟨i, r, C, hE, rfl⟩ := hd d List.mem_cons_self
      refine ⟨rfl, ?_⟩
      have hget : (tab.map (·.1))[i]? = some r.1 := by rw [List.getElem?_map, hE.t]; rfl
      have hmap : (tab.map fun r => D.str r.1) = (tab.map (·.1)).map D.str := by rw [List.map_map]; rfl
      refine ⟨by show "list" ≠ ""; decide, ⟨[.str r.1], fun _ => True, tab.map (·.1), i, hmap, hget, fun m hm => tab_first hE.t m hm, trivial⟩, tab.map (·.1), i, hmap, hget, fun m hm => tab_first hE.t m hm, ?_⟩
      refine .inl ⟨small (by rw [List.length_map]; decide), ?_⟩
      refine dlc_maps (fun r' : Row => D.str r'.1) (fun r' => .bl (decide (r'.1 = r.1))) tab (fun r' _ k hk => hk) ?_
      refine ⟨small (by show 4 ≤ 1000000; decide), small (by rw [List.length_map]; show 26 + 4 ≤ 1000000; decide), ?_⟩
      have hdue : (tab.map fun r' => D.bl (decide (r'.1 = r.1))) ++ [.bl (!decide ((19 : Int) < (i : Int))), .bl (!decide ((19 : Int) < (i : Int))), .bl (decide ((19 : Int) < (i : Int))), .bl (decide ((19 : Int) < (i : Int)))] = (flagsD i).map D.bl := by
        rw [← due_eq hE.t]
        unfold dueL
        rw [List.map_append, List.map_map]
        rfl
      rw [hdue]
      refine ⟨small (by show 3 ≤ 1000000; decide), .str r.1, bareV, rfl, rfl, ?_⟩
      rw [Bool.false_xor, bare_eq hE.t]
      have hcode : ∃ c, errD C r x = c ∧ True := ⟨_, rfl, trivial⟩
      have lkc : ∀ R : D → Prop, R (.str r.1) → (match errD C r x with | .err C ns ds => ErF K C "code" ∧ ∃ c, (ns.zip ds).lookup ("code" : Str) = some c ∧ R c | _ => False) := fun R hR => by
        unfold errD
        cases r.2 with
        | some f => exact ⟨hE.fc, _, lk_code _ _ _, hR⟩
        | none => exact ⟨hE.fc, _, lk_code0 _, hR⟩
      refine lkc _ ?_
      refine ite2 (fun e => ?_) (fun _ => ?_)
      · have e : (!decide (r.1 = r.1)) = true := e
        rw [decide_eq_true rfl] at e
        cases e
      refine ⟨i, r, C, x, rfl, hE, (bl_ok _).fit (by decide), (bl_ok _).fit (by decide), ?_⟩
      refine ite2 (fun e => ?_) (fun _ => ?_)
      · have e : (!eqD (.lst ((flagsD i).map D.bl)) (.lst ((flagsD i).map D.bl))) = true := e
        rw [(bl_ok (flagsD i)).refl] at e
        cases e
      refine ⟨i, r, C, x, rfl, hE, ?_⟩
      cases hr2 : r.2 with
      | none =>
        refine ⟨.non, rfl, trivial, ?_⟩
        exact k _ ⟨fun d m => hd d (List.mem_cons_of_mem _ m), _, _, _, _, _, rfl⟩
      | some f =>
        refine ⟨x, rfl, hx.2, ?_⟩
        exact k _ ⟨fun d m => hd d (List.mem_cons_of_mem _ m), _, _, _, _, _, rfl⟩
    · have md : d ∈ rowsD CS x := py.mem_iff.mp md
      obtain ⟨⟨r, C⟩, mp, rfl⟩ := List.mem_map.mp md
      obtain ⟨i, h1, h2⟩ := zip_at mp
      obtain ⟨C', hE⟩ := hCS i r h1
      have e : C' = C := Option.some.inj (hE.c.symm.trans h2)
      subst e
      exact ⟨i, r, C', hE, rfl⟩
end
end LW

namespace LW
open PySem PySem.Spec PyProof.Rows DL
open L2 hiding St
abbrev s_UnknownMoment : Stmt := inClass (topS 28) 0
theorem sc_UnknownMoment : FnScope ["self", "given"] ["self", "given"] (defScope s_UnknownMoment) := ⟨rfl, rfl, rfl, by decide +kernel, rfl, by decide +kernel, by decide +kernel⟩
abbrev s_MissingTie : Stmt := inClass (topS 27) 0
theorem sc_MissingTie : FnScope ["self", "tie"] ["self", "tie"] (defScope s_MissingTie) := ⟨rfl, rfl, rfl, by decide +kernel, rfl, by decide +kernel, by decide +kernel⟩
abbrev s_UnknownField : Stmt := inClass (topS 26) 0
theorem sc_UnknownField : FnScope ["self", "name"] ["self", "name"] (defScope s_UnknownField) := ⟨rfl, rfl, rfl, by decide +kernel, rfl, by decide +kernel, by decide +kernel⟩
abbrev s_UnknownTie : Stmt := inClass (topS 25) 0
theorem sc_UnknownTie : FnScope ["self", "name"] ["self", "name"] (defScope s_UnknownTie) := ⟨rfl, rfl, rfl, by decide +kernel, rfl, by decide +kernel, by decide +kernel⟩
abbrev s_UnknownKind : Stmt := inClass (topS 24) 0
theorem sc_UnknownKind : FnScope ["self", "name"] ["self", "name"] (defScope s_UnknownKind) := ⟨rfl, rfl, rfl, by decide +kernel, rfl, by decide +kernel, by decide +kernel⟩
abbrev s_UnknownCell : Stmt := inClass (topS 23) 0
theorem sc_UnknownCell : FnScope ["self", "name"] ["self", "name"] (defScope s_UnknownCell) := ⟨rfl, rfl, rfl, by decide +kernel, rfl, by decide +kernel, by decide +kernel⟩
abbrev s_EmptyHistory : Stmt := inClass (topS 22) 0
theorem sc_EmptyHistory : FnScope ["self"] ["self"] (defScope s_EmptyHistory) := ⟨rfl, rfl, rfl, by decide +kernel, rfl, by decide +kernel, by decide +kernel⟩
abbrev s_Full : Stmt := inClass (topS 21) 0
theorem sc_Full : FnScope ["self", "limit"] ["self", "limit"] (defScope s_Full) := ⟨rfl, rfl, rfl, by decide +kernel, rfl, by decide +kernel, by decide +kernel⟩
abbrev s_Unsettled : Stmt := inClass (topS 20) 0
theorem sc_Unsettled : FnScope ["self"] ["self"] (defScope s_Unsettled) := ⟨rfl, rfl, rfl, by decide +kernel, rfl, by decide +kernel, by decide +kernel⟩
abbrev s_BooksDiffer : Stmt := inClass (topS 19) 0
theorem sc_BooksDiffer : FnScope ["self"] ["self"] (defScope s_BooksDiffer) := ⟨rfl, rfl, rfl, by decide +kernel, rfl, by decide +kernel, by decide +kernel⟩
abbrev s_KindsDiffer : Stmt := inClass (topS 18) 0
theorem sc_KindsDiffer : FnScope ["self", "name"] ["self", "name"] (defScope s_KindsDiffer) := ⟨rfl, rfl, rfl, by decide +kernel, rfl, by decide +kernel, by decide +kernel⟩
abbrev s_DuplicateTie : Stmt := inClass (topS 17) 0
theorem sc_DuplicateTie : FnScope ["self", "tie"] ["self", "tie"] (defScope s_DuplicateTie) := ⟨rfl, rfl, rfl, by decide +kernel, rfl, by decide +kernel, by decide +kernel⟩
abbrev s_DuplicateCell : Stmt := inClass (topS 16) 0
theorem sc_DuplicateCell : FnScope ["self", "name"] ["self", "name"] (defScope s_DuplicateCell) := ⟨rfl, rfl, rfl, by decide +kernel, rfl, by decide +kernel, by decide +kernel⟩
abbrev s_InvalidPage : Stmt := inClass (topS 15) 0
theorem sc_InvalidPage : FnScope ["self", "line"] ["self", "line"] (defScope s_InvalidPage) := ⟨rfl, rfl, rfl, by decide +kernel, rfl, by decide +kernel, by decide +kernel⟩
abbrev s_InvalidLimit : Stmt := inClass (topS 14) 0
theorem sc_InvalidLimit : FnScope ["self", "given"] ["self", "given"] (defScope s_InvalidLimit) := ⟨rfl, rfl, rfl, by decide +kernel, rfl, by decide +kernel, by decide +kernel⟩
abbrev s_InvalidCommand : Stmt := inClass (topS 13) 0
theorem sc_InvalidCommand : FnScope ["self", "word"] ["self", "word"] (defScope s_InvalidCommand) := ⟨rfl, rfl, rfl, by decide +kernel, rfl, by decide +kernel, by decide +kernel⟩
abbrev s_InvalidCount : Stmt := inClass (topS 12) 0
theorem sc_InvalidCount : FnScope ["self", "given"] ["self", "given"] (defScope s_InvalidCount) := ⟨rfl, rfl, rfl, by decide +kernel, rfl, by decide +kernel, by decide +kernel⟩
abbrev s_InvalidLook : Stmt := inClass (topS 11) 0
theorem sc_InvalidLook : FnScope ["self", "cell"] ["self", "cell"] (defScope s_InvalidLook) := ⟨rfl, rfl, rfl, by decide +kernel, rfl, by decide +kernel, by decide +kernel⟩
abbrev s_InvalidState : Stmt := inClass (topS 10) 0
theorem sc_InvalidState : FnScope ["self", "cell"] ["self", "cell"] (defScope s_InvalidState) := ⟨rfl, rfl, rfl, by decide +kernel, rfl, by decide +kernel, by decide +kernel⟩
abbrev s_InvalidNetwork : Stmt := inClass (topS 9) 0
theorem sc_InvalidNetwork : FnScope ["self", "line"] ["self", "line"] (defScope s_InvalidNetwork) := ⟨rfl, rfl, rfl, by decide +kernel, rfl, by decide +kernel, by decide +kernel⟩
abbrev s_InvalidName : Stmt := inClass (topS 8) 0
theorem sc_InvalidName : FnScope ["self", "given"] ["self", "given"] (defScope s_InvalidName) := ⟨rfl, rfl, rfl, by decide +kernel, rfl, by decide +kernel, by decide +kernel⟩
abbrev s_InvalidRulebook : Stmt := inClass (topS 7) 0
theorem sc_InvalidRulebook : FnScope ["self", "line"] ["self", "line"] (defScope s_InvalidRulebook) := ⟨rfl, rfl, rfl, by decide +kernel, rfl, by decide +kernel, by decide +kernel⟩
abbrev s_InvalidHolding : Stmt := inClass (topS 6) 0
theorem sc_InvalidHolding : FnScope ["self", "given"] ["self", "given"] (defScope s_InvalidHolding) := ⟨rfl, rfl, rfl, by decide +kernel, rfl, by decide +kernel, by decide +kernel⟩
abbrev s_InvalidKind : Stmt := inClass (topS 5) 0
theorem sc_InvalidKind : FnScope ["self", "position"] ["self", "position"] (defScope s_InvalidKind) := ⟨rfl, rfl, rfl, by decide +kernel, rfl, by decide +kernel, by decide +kernel⟩
abbrev s_InvalidTie : Stmt := inClass (topS 4) 0
theorem sc_InvalidTie : FnScope ["self", "position"] ["self", "position"] (defScope s_InvalidTie) := ⟨rfl, rfl, rfl, by decide +kernel, rfl, by decide +kernel, by decide +kernel⟩
abbrev s_InvalidField : Stmt := inClass (topS 3) 0
theorem sc_InvalidField : FnScope ["self", "position"] ["self", "position"] (defScope s_InvalidField) := ⟨rfl, rfl, rfl, by decide +kernel, rfl, by decide +kernel, by decide +kernel⟩
def d_law_draw : He.DefD := ⟨("_law_draw", none), "_law_draw", "_law_draw", defArgs s_law_draw, defBody s_law_draw, defScope s_law_draw, [], []⟩
def d_law_bag : He.DefD := ⟨("_law_bag", none), "_law_bag", "_law_bag", defArgs s_law_bag, defBody s_law_bag, defScope s_law_bag, [], []⟩
def d_law_any : He.DefD := ⟨("_law_any", none), "_law_any", "_law_any", defArgs s_law_any, defBody s_law_any, defScope s_law_any, [], []⟩
def d_law_mixed : He.DefD := ⟨("_law_mixed", none), "_law_mixed", "_law_mixed", defArgs s_law_mixed, defBody s_law_mixed, defScope s_law_mixed, [], []⟩
def d_law_like : He.DefD := ⟨("_law_like", none), "_law_like", "_law_like", defArgs s_law_like, defBody s_law_like, defScope s_law_like, [], []⟩
def d_law_given : He.DefD := ⟨("_law_given", none), "_law_given", "_law_given", defArgs s_law_given, defBody s_law_given, defScope s_law_given, [], []⟩
def d_law_made_errors : He.DefD := ⟨("_law_made_errors", none), "_law_made_errors", "_law_made_errors", defArgs s_law_made_errors, defBody s_law_made_errors, defScope s_law_made_errors, [], []⟩
def d_law_flags : He.DefD := ⟨("_law_flags", none), "_law_flags", "_law_flags", defArgs s_law_flags, defBody s_law_flags, defScope s_law_flags, [], []⟩
def d_law : He.DefD := ⟨("law", none), "law", "law", defArgs s_law, defBody s_law, defScope s_law, [], []⟩
def d_UnknownMoment : He.DefD := ⟨("UnknownMoment", some "__init__"), "__init__", "UnknownMoment.__init__", defArgs s_UnknownMoment, defBody s_UnknownMoment, defScope s_UnknownMoment, [], []⟩
def d_MissingTie : He.DefD := ⟨("MissingTie", some "__init__"), "__init__", "MissingTie.__init__", defArgs s_MissingTie, defBody s_MissingTie, defScope s_MissingTie, [], []⟩
def d_UnknownField : He.DefD := ⟨("UnknownField", some "__init__"), "__init__", "UnknownField.__init__", defArgs s_UnknownField, defBody s_UnknownField, defScope s_UnknownField, [], []⟩
def d_UnknownTie : He.DefD := ⟨("UnknownTie", some "__init__"), "__init__", "UnknownTie.__init__", defArgs s_UnknownTie, defBody s_UnknownTie, defScope s_UnknownTie, [], []⟩
def d_UnknownKind : He.DefD := ⟨("UnknownKind", some "__init__"), "__init__", "UnknownKind.__init__", defArgs s_UnknownKind, defBody s_UnknownKind, defScope s_UnknownKind, [], []⟩
def d_UnknownCell : He.DefD := ⟨("UnknownCell", some "__init__"), "__init__", "UnknownCell.__init__", defArgs s_UnknownCell, defBody s_UnknownCell, defScope s_UnknownCell, [], []⟩
def d_EmptyHistory : He.DefD := ⟨("EmptyHistory", some "__init__"), "__init__", "EmptyHistory.__init__", defArgs s_EmptyHistory, defBody s_EmptyHistory, defScope s_EmptyHistory, [], []⟩
def d_Full : He.DefD := ⟨("Full", some "__init__"), "__init__", "Full.__init__", defArgs s_Full, defBody s_Full, defScope s_Full, [], []⟩
def d_Unsettled : He.DefD := ⟨("Unsettled", some "__init__"), "__init__", "Unsettled.__init__", defArgs s_Unsettled, defBody s_Unsettled, defScope s_Unsettled, [], []⟩
def d_BooksDiffer : He.DefD := ⟨("BooksDiffer", some "__init__"), "__init__", "BooksDiffer.__init__", defArgs s_BooksDiffer, defBody s_BooksDiffer, defScope s_BooksDiffer, [], []⟩
def d_KindsDiffer : He.DefD := ⟨("KindsDiffer", some "__init__"), "__init__", "KindsDiffer.__init__", defArgs s_KindsDiffer, defBody s_KindsDiffer, defScope s_KindsDiffer, [], []⟩
def d_DuplicateTie : He.DefD := ⟨("DuplicateTie", some "__init__"), "__init__", "DuplicateTie.__init__", defArgs s_DuplicateTie, defBody s_DuplicateTie, defScope s_DuplicateTie, [], []⟩
def d_DuplicateCell : He.DefD := ⟨("DuplicateCell", some "__init__"), "__init__", "DuplicateCell.__init__", defArgs s_DuplicateCell, defBody s_DuplicateCell, defScope s_DuplicateCell, [], []⟩
def d_InvalidPage : He.DefD := ⟨("InvalidPage", some "__init__"), "__init__", "InvalidPage.__init__", defArgs s_InvalidPage, defBody s_InvalidPage, defScope s_InvalidPage, [], []⟩
def d_InvalidLimit : He.DefD := ⟨("InvalidLimit", some "__init__"), "__init__", "InvalidLimit.__init__", defArgs s_InvalidLimit, defBody s_InvalidLimit, defScope s_InvalidLimit, [], []⟩
def d_InvalidCommand : He.DefD := ⟨("InvalidCommand", some "__init__"), "__init__", "InvalidCommand.__init__", defArgs s_InvalidCommand, defBody s_InvalidCommand, defScope s_InvalidCommand, [], []⟩
def d_InvalidCount : He.DefD := ⟨("InvalidCount", some "__init__"), "__init__", "InvalidCount.__init__", defArgs s_InvalidCount, defBody s_InvalidCount, defScope s_InvalidCount, [], []⟩
def d_InvalidLook : He.DefD := ⟨("InvalidLook", some "__init__"), "__init__", "InvalidLook.__init__", defArgs s_InvalidLook, defBody s_InvalidLook, defScope s_InvalidLook, [], []⟩
def d_InvalidState : He.DefD := ⟨("InvalidState", some "__init__"), "__init__", "InvalidState.__init__", defArgs s_InvalidState, defBody s_InvalidState, defScope s_InvalidState, [], []⟩
def d_InvalidNetwork : He.DefD := ⟨("InvalidNetwork", some "__init__"), "__init__", "InvalidNetwork.__init__", defArgs s_InvalidNetwork, defBody s_InvalidNetwork, defScope s_InvalidNetwork, [], []⟩
def d_InvalidName : He.DefD := ⟨("InvalidName", some "__init__"), "__init__", "InvalidName.__init__", defArgs s_InvalidName, defBody s_InvalidName, defScope s_InvalidName, [], []⟩
def d_InvalidRulebook : He.DefD := ⟨("InvalidRulebook", some "__init__"), "__init__", "InvalidRulebook.__init__", defArgs s_InvalidRulebook, defBody s_InvalidRulebook, defScope s_InvalidRulebook, [], []⟩
def d_InvalidHolding : He.DefD := ⟨("InvalidHolding", some "__init__"), "__init__", "InvalidHolding.__init__", defArgs s_InvalidHolding, defBody s_InvalidHolding, defScope s_InvalidHolding, [], []⟩
def d_InvalidKind : He.DefD := ⟨("InvalidKind", some "__init__"), "__init__", "InvalidKind.__init__", defArgs s_InvalidKind, defBody s_InvalidKind, defScope s_InvalidKind, [], []⟩
def d_InvalidTie : He.DefD := ⟨("InvalidTie", some "__init__"), "__init__", "InvalidTie.__init__", defArgs s_InvalidTie, defBody s_InvalidTie, defScope s_InvalidTie, [], []⟩
def d_InvalidField : He.DefD := ⟨("InvalidField", some "__init__"), "__init__", "InvalidField.__init__", defArgs s_InvalidField, defBody s_InvalidField, defScope s_InvalidField, [], []⟩
def fn : List He.DefD := [d_law_draw, d_law_bag, d_law_any, d_law_mixed, d_law_like, d_law_given, d_law_made_errors, d_law_flags, d_law, d_UnknownMoment, d_MissingTie, d_UnknownField, d_UnknownTie, d_UnknownKind, d_UnknownCell, d_EmptyHistory, d_Full, d_Unsettled, d_BooksDiffer, d_KindsDiffer, d_DuplicateTie, d_DuplicateCell, d_InvalidPage, d_InvalidLimit, d_InvalidCommand, d_InvalidCount, d_InvalidLook, d_InvalidState, d_InvalidNetwork, d_InvalidName, d_InvalidRulebook, d_InvalidHolding, d_InvalidKind, d_InvalidTie, d_InvalidField]
def fa : List He.Fa := [.glo "_law_draw", .glo "_law_bag", .glo "_law_any", .glo "_law_mixed", .glo "_law_like", .glo "_law_given", .glo "_law_made_errors", .glo "_law_flags", .glo "law", .glo "Missing", .glo "BestError", .free "len", .free "int", .free "list", .free "tuple", .free "range", .free "min", .free "max", .free "all", .free "enumerate", .free "zip", .free "isinstance", .free "dict", .free "bool", .free "str", .free "ValueError", .free "LookupError"]
def exL (K : PySem.W.Frag) : List Bool := [ercB K "UnknownMoment" "LookupError.__new__" leMro ["given", "code"], ercB K "MissingTie" "LookupError.__new__" leMro ["tie", "code"], ercB K "UnknownField" "LookupError.__new__" leMro ["name", "code"], ercB K "UnknownTie" "LookupError.__new__" leMro ["name", "code"], ercB K "UnknownKind" "LookupError.__new__" leMro ["name", "code"], ercB K "UnknownCell" "LookupError.__new__" leMro ["name", "code"], ercB K "EmptyHistory" "ValueError.__new__" veMro ["code"], ercB K "Full" "ValueError.__new__" veMro ["limit", "code"], ercB K "Unsettled" "ValueError.__new__" veMro ["code"], ercB K "BooksDiffer" "ValueError.__new__" veMro ["code"], ercB K "KindsDiffer" "ValueError.__new__" veMro ["name", "code"], ercB K "DuplicateTie" "ValueError.__new__" veMro ["tie", "code"], ercB K "DuplicateCell" "ValueError.__new__" veMro ["name", "code"], ercB K "InvalidPage" "ValueError.__new__" veMro ["line", "code"], ercB K "InvalidLimit" "ValueError.__new__" veMro ["given", "code"], ercB K "InvalidCommand" "ValueError.__new__" veMro ["word", "code"], ercB K "InvalidCount" "ValueError.__new__" veMro ["given", "code"], ercB K "InvalidLook" "ValueError.__new__" veMro ["cell", "code"], ercB K "InvalidState" "ValueError.__new__" veMro ["cell", "code"], ercB K "InvalidNetwork" "ValueError.__new__" veMro ["line", "code"], ercB K "InvalidName" "ValueError.__new__" veMro ["given", "code"], ercB K "InvalidRulebook" "ValueError.__new__" veMro ["line", "code"], ercB K "InvalidHolding" "ValueError.__new__" veMro ["given", "code"], ercB K "InvalidKind" "ValueError.__new__" veMro ["position", "code"], ercB K "InvalidTie" "ValueError.__new__" veMro ["position", "code"], ercB K "InvalidField" "ValueError.__new__" veMro ["position", "code"], kitB K [He.ga K "InvalidField", He.ga K "InvalidTie", He.ga K "InvalidKind", He.ga K "InvalidHolding", He.ga K "InvalidRulebook", He.ga K "InvalidName", He.ga K "InvalidNetwork", He.ga K "InvalidState", He.ga K "InvalidLook", He.ga K "InvalidCount", He.ga K "InvalidCommand", He.ga K "InvalidLimit", He.ga K "InvalidPage", He.ga K "DuplicateCell", He.ga K "DuplicateTie", He.ga K "KindsDiffer", He.ga K "BooksDiffer", He.ga K "Unsettled", He.ga K "Full", He.ga K "EmptyHistory", He.ga K "UnknownCell", He.ga K "UnknownKind", He.ga K "UnknownTie", He.ga K "UnknownField", He.ga K "MissingTie", He.ga K "UnknownMoment"] [.ref (He.ga K "InvalidField"), .ref (He.ga K "InvalidTie"), .ref (He.ga K "InvalidKind"), .ref (He.ga K "InvalidHolding"), .ref (He.ga K "InvalidRulebook"), .ref (He.ga K "InvalidName"), .ref (He.ga K "InvalidNetwork"), .ref (He.ga K "InvalidState"), .ref (He.ga K "InvalidLook"), .ref (He.ga K "InvalidCount"), .ref (He.ga K "InvalidCommand"), .ref (He.ga K "InvalidLimit"), .ref (He.ga K "InvalidPage"), .ref (He.ga K "DuplicateCell"), .ref (He.ga K "DuplicateTie"), .ref (He.ga K "KindsDiffer"), .ref (He.ga K "BooksDiffer"), .ref (He.ga K "Unsettled"), .ref (He.ga K "Full"), .ref (He.ga K "EmptyHistory"), .ref (He.ga K "UnknownCell"), .ref (He.ga K "UnknownKind"), .ref (He.ga K "UnknownTie"), .ref (He.ga K "UnknownField"), .ref (He.ga K "MissingTie"), .ref (He.ga K "UnknownMoment"), .ref (He.ga K "BestError"), .type "ValueError", .ref (He.ga K "Missing"), .type "LookupError"]]
def exB (K : PySem.W.Frag) : Bool := (exL K).all id
theorem exL_ok {K : PySem.W.Frag} (h : exB K = true) (i : Nat) {b : Bool} (e : (exL K)[i]? = some b) : b = true := List.all_eq_true.mp h b (List.mem_of_getElem? e)
def nm0 : List PySem.Str := [("BestError" : PySem.Str), ("Missing" : PySem.Str), ("InvalidField" : PySem.Str), ("InvalidTie" : PySem.Str), ("InvalidKind" : PySem.Str), ("InvalidHolding" : PySem.Str), ("InvalidRulebook" : PySem.Str), ("InvalidName" : PySem.Str), ("InvalidNetwork" : PySem.Str), ("InvalidState" : PySem.Str), ("InvalidLook" : PySem.Str), ("InvalidCount" : PySem.Str), ("InvalidCommand" : PySem.Str), ("InvalidLimit" : PySem.Str), ("InvalidPage" : PySem.Str), ("DuplicateCell" : PySem.Str), ("DuplicateTie" : PySem.Str), ("KindsDiffer" : PySem.Str), ("BooksDiffer" : PySem.Str), ("Unsettled" : PySem.Str), ("Full" : PySem.Str), ("EmptyHistory" : PySem.Str), ("UnknownCell" : PySem.Str), ("UnknownKind" : PySem.Str), ("UnknownTie" : PySem.Str), ("UnknownField" : PySem.Str), ("MissingTie" : PySem.Str), ("UnknownMoment" : PySem.Str), ("_law_bag" : PySem.Str), ("_law_draw" : PySem.Str)]
def nm1 : List PySem.Str := [("_law_any" : PySem.Str), ("_law_mixed" : PySem.Str), ("_law_like" : PySem.Str), ("_law_given" : PySem.Str), ("_law_made_errors" : PySem.Str), ("_law_flags" : PySem.Str)]
def nms : List PySem.Str := nm0 ++ nm1
abbrev RR : PySem.W.OpenRow := PySem.W.OpenLaw.row PySem.Challenge.rw_bestheard_k01_errors_by_themselves
abbrev hk : PySem.W.Hook := hookM fa fn exB
def ob (s : PySem.W.SharedT) : AlM := obM fa fn exB s
theorem ob_eq (s : PySem.W.SharedT) : ob s = hk.obs s.abs := obM_eq s
set_option maxHeartbeats 0 in
theorem run (w : World) : HandSHeadRun.RunEq RR (PySem.W.view RR.prog [38]) hk ob 20000 nms w := by
  intro os
  kernel_rfl
theorem facts {P : Program} {w : World} {K : PySem.W.Frag} {h : Heap} {mg : Str → Option Value} {f : Addr} (X : K.In h) (G : h.Ns mainGlobals mg) (hfa : mg ("law" : Str) = some (.ref f)) (c : SaysM fa fn exB K) :
    ∃ fd : FuncData, (∀ (s : Shared) (v : Value), BindsTo s fd ⟨[v], []⟩ [("_law_script", v)]) ∧ ∀ base : Heap, K.In base → base.Ns mainGlobals mg → FnOk P w K mg base CX0 6 f fd ["_law_script"] (spD K Φ_law) := by
  obtain ⟨fd_law_draw, F_law_draw⟩ := c.d.def_ 0 (d := d_law_draw) rfl
  have D_law_draw : DefAt K mg "_law_draw" s_law_draw P_law_draw _ _ := da_of X G (c.d.fact 0 (f := .glo "_law_draw") rfl) F_law_draw (fun _ _ _ _ _ _ us hl => match us, hl with | [_, _], _ => rfl)
  obtain ⟨fd_law_bag, F_law_bag⟩ := c.d.def_ 1 (d := d_law_bag) rfl
  have D_law_bag : DefAt K mg "_law_bag" s_law_bag P_law_bag _ _ := da_of X G (c.d.fact 1 (f := .glo "_law_bag") rfl) F_law_bag (fun _ _ _ _ _ _ us hl => match us, hl with | [_], _ => rfl)
  obtain ⟨fd_law_any, F_law_any⟩ := c.d.def_ 2 (d := d_law_any) rfl
  have D_law_any : DefAt K mg "_law_any" s_law_any P_law_any _ _ := da_of X G (c.d.fact 2 (f := .glo "_law_any") rfl) F_law_any (fun _ _ _ _ _ _ us hl => match us, hl with | [_, _], _ => rfl)
  obtain ⟨fd_law_mixed, F_law_mixed⟩ := c.d.def_ 3 (d := d_law_mixed) rfl
  have D_law_mixed : DefAt K mg "_law_mixed" s_law_mixed P_law_mixed _ _ := da_of X G (c.d.fact 3 (f := .glo "_law_mixed") rfl) F_law_mixed (fun _ _ _ _ _ _ us hl => match us, hl with | [_, _], _ => rfl)
  obtain ⟨fd_law_like, F_law_like⟩ := c.d.def_ 4 (d := d_law_like) rfl
  have D_law_like : DefAt K mg "_law_like" s_law_like P_law_like _ _ := da_of X G (c.d.fact 4 (f := .glo "_law_like") rfl) F_law_like (fun _ _ _ _ _ _ us hl => match us, hl with | [_, _], _ => rfl)
  obtain ⟨fd_law_given, F_law_given⟩ := c.d.def_ 5 (d := d_law_given) rfl
  have D_law_given : DefAt K mg "_law_given" s_law_given P_law_given _ _ := da_of X G (c.d.fact 5 (f := .glo "_law_given") rfl) F_law_given (fun _ _ _ _ _ _ us hl => match us, hl with | [_], _ => rfl)
  obtain ⟨fd_law_made_errors, F_law_made_errors⟩ := c.d.def_ 6 (d := d_law_made_errors) rfl
  have D_law_made_errors : DefAt K mg "_law_made_errors" s_law_made_errors P_law_made_errors _ _ := da_of X G (c.d.fact 6 (f := .glo "_law_made_errors") rfl) F_law_made_errors (fun _ _ _ _ _ _ us hl => match us, hl with | [_], _ => rfl)
  obtain ⟨fd_law_flags, F_law_flags⟩ := c.d.def_ 7 (d := d_law_flags) rfl
  have D_law_flags : DefAt K mg "_law_flags" s_law_flags P_law_flags _ _ := da_of X G (c.d.fact 7 (f := .glo "_law_flags") rfl) F_law_flags (fun _ _ _ _ _ _ us hl => match us, hl with | [_], _ => rfl)
  obtain ⟨fd_law, F_law⟩ := c.d.def_ 8 (d := d_law) rfl
  have D_law : DefAt K mg "law" s_law P_law _ _ := da_of X G (c.d.fact 8 (f := .glo "law") rfl) F_law (fun _ _ _ _ _ _ us hl => match us, hl with | [_], _ => rfl)
  have e := hfa.symm.trans D_law.mgf
  cases e
  have B : Blt K mg := ⟨He.free_ok X G (c.d.fact 11 (f := .free "len") rfl), He.free_ok X G (c.d.fact 12 (f := .free "int") rfl), He.free_ok X G (c.d.fact 13 (f := .free "list") rfl), He.free_ok X G (c.d.fact 14 (f := .free "tuple") rfl), He.free_ok X G (c.d.fact 15 (f := .free "range") rfl), He.free_ok X G (c.d.fact 16 (f := .free "min") rfl), He.free_ok X G (c.d.fact 17 (f := .free "max") rfl), He.free_ok X G (c.d.fact 18 (f := .free "all") rfl), He.free_ok X G (c.d.fact 19 (f := .free "enumerate") rfl), He.free_ok X G (c.d.fact 20 (f := .free "zip") rfl), He.free_ok X G (c.d.fact 21 (f := .free "isinstance") rfl), He.free_ok X G (c.d.fact 22 (f := .free "dict") rfl), He.free_ok X G (c.d.fact 23 (f := .free "bool") rfl), He.free_ok X G (c.d.fact 24 (f := .free "str") rfl), He.free_ok X G (c.d.fact 25 (f := .free "ValueError") rfl), He.free_ok X G (c.d.fact 26 (f := .free "LookupError") rfl)⟩
  have M_Missing : mg "Missing" = some (.ref (He.ga K "Missing")) := He.glo_ok X G (c.d.fact 9 (f := .glo "Missing") rfl)
  have M_BestError : mg "BestError" = some (.ref (He.ga K "BestError")) := He.glo_ok X G (c.d.fact 10 (f := .glo "BestError") rfl)
  have X_x := exL_ok c.more 26 rfl
  refine ⟨fd_law, fun s v => F_law.bindsA (ps := ["_law_script"]) (fun _ _ _ _ _ _ us hl => match us, hl with | [_], _ => rfl) s [v] rfl, fun base _ _ => ?_⟩
  obtain ⟨fd_UnknownMoment, F_UnknownMoment⟩ := c.d.def_ 9 (d := d_UnknownMoment) rfl
  have E_UnknownMoment : Er1 P w K mg base "UnknownMoment" "given" "UnknownMoment" (He.ga K "UnknownMoment") := er1_of (st := s_UnknownMoment) (qual := "UnknownMoment.__init__") X G PySem.F.excBase_LookupError PySem.F.store_LookupError (exL_ok c.more 0 rfl) F_UnknownMoment sc_UnknownMoment (fun _ _ _ _ _ _ us hl => match us, hl with | [_, _], _ => rfl) (fun _ _ _ _ _ _ _ _ => rfl) (fun _ _ _ _ _ _ => pss_cons (ps_err (pv 0) (pv 1)) (pss_one (ps_err (pv 0) pe_str)))
  obtain ⟨fd_MissingTie, F_MissingTie⟩ := c.d.def_ 10 (d := d_MissingTie) rfl
  have E_MissingTie : Er1 P w K mg base "MissingTie" "tie" "MissingTie" (He.ga K "MissingTie") := er1_of (st := s_MissingTie) (qual := "MissingTie.__init__") X G PySem.F.excBase_LookupError PySem.F.store_LookupError (exL_ok c.more 1 rfl) F_MissingTie sc_MissingTie (fun _ _ _ _ _ _ us hl => match us, hl with | [_, _], _ => rfl) (fun _ _ _ _ _ _ _ _ => rfl) (fun _ _ _ _ _ _ => pss_cons (ps_err (pv 0) (pv 1)) (pss_one (ps_err (pv 0) pe_str)))
  obtain ⟨fd_UnknownField, F_UnknownField⟩ := c.d.def_ 11 (d := d_UnknownField) rfl
  have E_UnknownField : Er1 P w K mg base "UnknownField" "name" "UnknownField" (He.ga K "UnknownField") := er1_of (st := s_UnknownField) (qual := "UnknownField.__init__") X G PySem.F.excBase_LookupError PySem.F.store_LookupError (exL_ok c.more 2 rfl) F_UnknownField sc_UnknownField (fun _ _ _ _ _ _ us hl => match us, hl with | [_, _], _ => rfl) (fun _ _ _ _ _ _ _ _ => rfl) (fun _ _ _ _ _ _ => pss_cons (ps_err (pv 0) (pv 1)) (pss_one (ps_err (pv 0) pe_str)))
  obtain ⟨fd_UnknownTie, F_UnknownTie⟩ := c.d.def_ 12 (d := d_UnknownTie) rfl
  have E_UnknownTie : Er1 P w K mg base "UnknownTie" "name" "UnknownTie" (He.ga K "UnknownTie") := er1_of (st := s_UnknownTie) (qual := "UnknownTie.__init__") X G PySem.F.excBase_LookupError PySem.F.store_LookupError (exL_ok c.more 3 rfl) F_UnknownTie sc_UnknownTie (fun _ _ _ _ _ _ us hl => match us, hl with | [_, _], _ => rfl) (fun _ _ _ _ _ _ _ _ => rfl) (fun _ _ _ _ _ _ => pss_cons (ps_err (pv 0) (pv 1)) (pss_one (ps_err (pv 0) pe_str)))
  obtain ⟨fd_UnknownKind, F_UnknownKind⟩ := c.d.def_ 13 (d := d_UnknownKind) rfl
  have E_UnknownKind : Er1 P w K mg base "UnknownKind" "name" "UnknownKind" (He.ga K "UnknownKind") := er1_of (st := s_UnknownKind) (qual := "UnknownKind.__init__") X G PySem.F.excBase_LookupError PySem.F.store_LookupError (exL_ok c.more 4 rfl) F_UnknownKind sc_UnknownKind (fun _ _ _ _ _ _ us hl => match us, hl with | [_, _], _ => rfl) (fun _ _ _ _ _ _ _ _ => rfl) (fun _ _ _ _ _ _ => pss_cons (ps_err (pv 0) (pv 1)) (pss_one (ps_err (pv 0) pe_str)))
  obtain ⟨fd_UnknownCell, F_UnknownCell⟩ := c.d.def_ 14 (d := d_UnknownCell) rfl
  have E_UnknownCell : Er1 P w K mg base "UnknownCell" "name" "UnknownCell" (He.ga K "UnknownCell") := er1_of (st := s_UnknownCell) (qual := "UnknownCell.__init__") X G PySem.F.excBase_LookupError PySem.F.store_LookupError (exL_ok c.more 5 rfl) F_UnknownCell sc_UnknownCell (fun _ _ _ _ _ _ us hl => match us, hl with | [_, _], _ => rfl) (fun _ _ _ _ _ _ _ _ => rfl) (fun _ _ _ _ _ _ => pss_cons (ps_err (pv 0) (pv 1)) (pss_one (ps_err (pv 0) pe_str)))
  obtain ⟨fd_EmptyHistory, F_EmptyHistory⟩ := c.d.def_ 15 (d := d_EmptyHistory) rfl
  have E_EmptyHistory : Er0 P w K mg base "EmptyHistory" "EmptyHistory" (He.ga K "EmptyHistory") := er0_of (st := s_EmptyHistory) (qual := "EmptyHistory.__init__") X G PySem.F.excBase_ValueError PySem.F.store_ValueError (exL_ok c.more 6 rfl) F_EmptyHistory sc_EmptyHistory (fun _ _ _ _ _ _ us hl => match us, hl with | [_], _ => rfl) (fun _ _ _ _ _ _ => pss_one (ps_err (pv 0) pe_str))
  obtain ⟨fd_Full, F_Full⟩ := c.d.def_ 16 (d := d_Full) rfl
  have E_Full : Er1 P w K mg base "Full" "limit" "Full" (He.ga K "Full") := er1_of (st := s_Full) (qual := "Full.__init__") X G PySem.F.excBase_ValueError PySem.F.store_ValueError (exL_ok c.more 7 rfl) F_Full sc_Full (fun _ _ _ _ _ _ us hl => match us, hl with | [_, _], _ => rfl) (fun _ _ _ _ _ _ _ _ => rfl) (fun _ _ _ _ _ _ => pss_cons (ps_err (pv 0) (pv 1)) (pss_one (ps_err (pv 0) pe_str)))
  obtain ⟨fd_Unsettled, F_Unsettled⟩ := c.d.def_ 17 (d := d_Unsettled) rfl
  have E_Unsettled : Er0 P w K mg base "Unsettled" "Unsettled" (He.ga K "Unsettled") := er0_of (st := s_Unsettled) (qual := "Unsettled.__init__") X G PySem.F.excBase_ValueError PySem.F.store_ValueError (exL_ok c.more 8 rfl) F_Unsettled sc_Unsettled (fun _ _ _ _ _ _ us hl => match us, hl with | [_], _ => rfl) (fun _ _ _ _ _ _ => pss_one (ps_err (pv 0) pe_str))
  obtain ⟨fd_BooksDiffer, F_BooksDiffer⟩ := c.d.def_ 18 (d := d_BooksDiffer) rfl
  have E_BooksDiffer : Er0 P w K mg base "BooksDiffer" "BooksDiffer" (He.ga K "BooksDiffer") := er0_of (st := s_BooksDiffer) (qual := "BooksDiffer.__init__") X G PySem.F.excBase_ValueError PySem.F.store_ValueError (exL_ok c.more 9 rfl) F_BooksDiffer sc_BooksDiffer (fun _ _ _ _ _ _ us hl => match us, hl with | [_], _ => rfl) (fun _ _ _ _ _ _ => pss_one (ps_err (pv 0) pe_str))
  obtain ⟨fd_KindsDiffer, F_KindsDiffer⟩ := c.d.def_ 19 (d := d_KindsDiffer) rfl
  have E_KindsDiffer : Er1 P w K mg base "KindsDiffer" "name" "KindsDiffer" (He.ga K "KindsDiffer") := er1_of (st := s_KindsDiffer) (qual := "KindsDiffer.__init__") X G PySem.F.excBase_ValueError PySem.F.store_ValueError (exL_ok c.more 10 rfl) F_KindsDiffer sc_KindsDiffer (fun _ _ _ _ _ _ us hl => match us, hl with | [_, _], _ => rfl) (fun _ _ _ _ _ _ _ _ => rfl) (fun _ _ _ _ _ _ => pss_cons (ps_err (pv 0) (pv 1)) (pss_one (ps_err (pv 0) pe_str)))
  obtain ⟨fd_DuplicateTie, F_DuplicateTie⟩ := c.d.def_ 20 (d := d_DuplicateTie) rfl
  have E_DuplicateTie : Er1 P w K mg base "DuplicateTie" "tie" "DuplicateTie" (He.ga K "DuplicateTie") := er1_of (st := s_DuplicateTie) (qual := "DuplicateTie.__init__") X G PySem.F.excBase_ValueError PySem.F.store_ValueError (exL_ok c.more 11 rfl) F_DuplicateTie sc_DuplicateTie (fun _ _ _ _ _ _ us hl => match us, hl with | [_, _], _ => rfl) (fun _ _ _ _ _ _ _ _ => rfl) (fun _ _ _ _ _ _ => pss_cons (ps_err (pv 0) (pv 1)) (pss_one (ps_err (pv 0) pe_str)))
  obtain ⟨fd_DuplicateCell, F_DuplicateCell⟩ := c.d.def_ 21 (d := d_DuplicateCell) rfl
  have E_DuplicateCell : Er1 P w K mg base "DuplicateCell" "name" "DuplicateCell" (He.ga K "DuplicateCell") := er1_of (st := s_DuplicateCell) (qual := "DuplicateCell.__init__") X G PySem.F.excBase_ValueError PySem.F.store_ValueError (exL_ok c.more 12 rfl) F_DuplicateCell sc_DuplicateCell (fun _ _ _ _ _ _ us hl => match us, hl with | [_, _], _ => rfl) (fun _ _ _ _ _ _ _ _ => rfl) (fun _ _ _ _ _ _ => pss_cons (ps_err (pv 0) (pv 1)) (pss_one (ps_err (pv 0) pe_str)))
  obtain ⟨fd_InvalidPage, F_InvalidPage⟩ := c.d.def_ 22 (d := d_InvalidPage) rfl
  have E_InvalidPage : Er1 P w K mg base "InvalidPage" "line" "InvalidPage" (He.ga K "InvalidPage") := er1_of (st := s_InvalidPage) (qual := "InvalidPage.__init__") X G PySem.F.excBase_ValueError PySem.F.store_ValueError (exL_ok c.more 13 rfl) F_InvalidPage sc_InvalidPage (fun _ _ _ _ _ _ us hl => match us, hl with | [_, _], _ => rfl) (fun _ _ _ _ _ _ _ _ => rfl) (fun _ _ _ _ _ _ => pss_cons (ps_err (pv 0) (pv 1)) (pss_one (ps_err (pv 0) pe_str)))
  obtain ⟨fd_InvalidLimit, F_InvalidLimit⟩ := c.d.def_ 23 (d := d_InvalidLimit) rfl
  have E_InvalidLimit : Er1 P w K mg base "InvalidLimit" "given" "InvalidLimit" (He.ga K "InvalidLimit") := er1_of (st := s_InvalidLimit) (qual := "InvalidLimit.__init__") X G PySem.F.excBase_ValueError PySem.F.store_ValueError (exL_ok c.more 14 rfl) F_InvalidLimit sc_InvalidLimit (fun _ _ _ _ _ _ us hl => match us, hl with | [_, _], _ => rfl) (fun _ _ _ _ _ _ _ _ => rfl) (fun _ _ _ _ _ _ => pss_cons (ps_err (pv 0) (pv 1)) (pss_one (ps_err (pv 0) pe_str)))
  obtain ⟨fd_InvalidCommand, F_InvalidCommand⟩ := c.d.def_ 24 (d := d_InvalidCommand) rfl
  have E_InvalidCommand : Er1 P w K mg base "InvalidCommand" "word" "InvalidCommand" (He.ga K "InvalidCommand") := er1_of (st := s_InvalidCommand) (qual := "InvalidCommand.__init__") X G PySem.F.excBase_ValueError PySem.F.store_ValueError (exL_ok c.more 15 rfl) F_InvalidCommand sc_InvalidCommand (fun _ _ _ _ _ _ us hl => match us, hl with | [_, _], _ => rfl) (fun _ _ _ _ _ _ _ _ => rfl) (fun _ _ _ _ _ _ => pss_cons (ps_err (pv 0) (pv 1)) (pss_one (ps_err (pv 0) pe_str)))
  obtain ⟨fd_InvalidCount, F_InvalidCount⟩ := c.d.def_ 25 (d := d_InvalidCount) rfl
  have E_InvalidCount : Er1 P w K mg base "InvalidCount" "given" "InvalidCount" (He.ga K "InvalidCount") := er1_of (st := s_InvalidCount) (qual := "InvalidCount.__init__") X G PySem.F.excBase_ValueError PySem.F.store_ValueError (exL_ok c.more 16 rfl) F_InvalidCount sc_InvalidCount (fun _ _ _ _ _ _ us hl => match us, hl with | [_, _], _ => rfl) (fun _ _ _ _ _ _ _ _ => rfl) (fun _ _ _ _ _ _ => pss_cons (ps_err (pv 0) (pv 1)) (pss_one (ps_err (pv 0) pe_str)))
  obtain ⟨fd_InvalidLook, F_InvalidLook⟩ := c.d.def_ 26 (d := d_InvalidLook) rfl
  have E_InvalidLook : Er1 P w K mg base "InvalidLook" "cell" "InvalidLook" (He.ga K "InvalidLook") := er1_of (st := s_InvalidLook) (qual := "InvalidLook.__init__") X G PySem.F.excBase_ValueError PySem.F.store_ValueError (exL_ok c.more 17 rfl) F_InvalidLook sc_InvalidLook (fun _ _ _ _ _ _ us hl => match us, hl with | [_, _], _ => rfl) (fun _ _ _ _ _ _ _ _ => rfl) (fun _ _ _ _ _ _ => pss_cons (ps_err (pv 0) (pv 1)) (pss_one (ps_err (pv 0) pe_str)))
  obtain ⟨fd_InvalidState, F_InvalidState⟩ := c.d.def_ 27 (d := d_InvalidState) rfl
  have E_InvalidState : Er1 P w K mg base "InvalidState" "cell" "InvalidState" (He.ga K "InvalidState") := er1_of (st := s_InvalidState) (qual := "InvalidState.__init__") X G PySem.F.excBase_ValueError PySem.F.store_ValueError (exL_ok c.more 18 rfl) F_InvalidState sc_InvalidState (fun _ _ _ _ _ _ us hl => match us, hl with | [_, _], _ => rfl) (fun _ _ _ _ _ _ _ _ => rfl) (fun _ _ _ _ _ _ => pss_cons (ps_err (pv 0) (pv 1)) (pss_one (ps_err (pv 0) pe_str)))
  obtain ⟨fd_InvalidNetwork, F_InvalidNetwork⟩ := c.d.def_ 28 (d := d_InvalidNetwork) rfl
  have E_InvalidNetwork : Er1 P w K mg base "InvalidNetwork" "line" "InvalidNetwork" (He.ga K "InvalidNetwork") := er1_of (st := s_InvalidNetwork) (qual := "InvalidNetwork.__init__") X G PySem.F.excBase_ValueError PySem.F.store_ValueError (exL_ok c.more 19 rfl) F_InvalidNetwork sc_InvalidNetwork (fun _ _ _ _ _ _ us hl => match us, hl with | [_, _], _ => rfl) (fun _ _ _ _ _ _ _ _ => rfl) (fun _ _ _ _ _ _ => pss_cons (ps_err (pv 0) (pv 1)) (pss_one (ps_err (pv 0) pe_str)))
  obtain ⟨fd_InvalidName, F_InvalidName⟩ := c.d.def_ 29 (d := d_InvalidName) rfl
  have E_InvalidName : Er1 P w K mg base "InvalidName" "given" "InvalidName" (He.ga K "InvalidName") := er1_of (st := s_InvalidName) (qual := "InvalidName.__init__") X G PySem.F.excBase_ValueError PySem.F.store_ValueError (exL_ok c.more 20 rfl) F_InvalidName sc_InvalidName (fun _ _ _ _ _ _ us hl => match us, hl with | [_, _], _ => rfl) (fun _ _ _ _ _ _ _ _ => rfl) (fun _ _ _ _ _ _ => pss_cons (ps_err (pv 0) (pv 1)) (pss_one (ps_err (pv 0) pe_str)))
  obtain ⟨fd_InvalidRulebook, F_InvalidRulebook⟩ := c.d.def_ 30 (d := d_InvalidRulebook) rfl
  have E_InvalidRulebook : Er1 P w K mg base "InvalidRulebook" "line" "InvalidRulebook" (He.ga K "InvalidRulebook") := er1_of (st := s_InvalidRulebook) (qual := "InvalidRulebook.__init__") X G PySem.F.excBase_ValueError PySem.F.store_ValueError (exL_ok c.more 21 rfl) F_InvalidRulebook sc_InvalidRulebook (fun _ _ _ _ _ _ us hl => match us, hl with | [_, _], _ => rfl) (fun _ _ _ _ _ _ _ _ => rfl) (fun _ _ _ _ _ _ => pss_cons (ps_err (pv 0) (pv 1)) (pss_one (ps_err (pv 0) pe_str)))
  obtain ⟨fd_InvalidHolding, F_InvalidHolding⟩ := c.d.def_ 31 (d := d_InvalidHolding) rfl
  have E_InvalidHolding : Er1 P w K mg base "InvalidHolding" "given" "InvalidHolding" (He.ga K "InvalidHolding") := er1_of (st := s_InvalidHolding) (qual := "InvalidHolding.__init__") X G PySem.F.excBase_ValueError PySem.F.store_ValueError (exL_ok c.more 22 rfl) F_InvalidHolding sc_InvalidHolding (fun _ _ _ _ _ _ us hl => match us, hl with | [_, _], _ => rfl) (fun _ _ _ _ _ _ _ _ => rfl) (fun _ _ _ _ _ _ => pss_cons (ps_err (pv 0) (pv 1)) (pss_one (ps_err (pv 0) pe_str)))
  obtain ⟨fd_InvalidKind, F_InvalidKind⟩ := c.d.def_ 32 (d := d_InvalidKind) rfl
  have E_InvalidKind : Er1 P w K mg base "InvalidKind" "position" "InvalidKind" (He.ga K "InvalidKind") := er1_of (st := s_InvalidKind) (qual := "InvalidKind.__init__") X G PySem.F.excBase_ValueError PySem.F.store_ValueError (exL_ok c.more 23 rfl) F_InvalidKind sc_InvalidKind (fun _ _ _ _ _ _ us hl => match us, hl with | [_, _], _ => rfl) (fun _ _ _ _ _ _ _ _ => rfl) (fun _ _ _ _ _ _ => pss_cons (ps_err (pv 0) (pv 1)) (pss_one (ps_err (pv 0) pe_str)))
  obtain ⟨fd_InvalidTie, F_InvalidTie⟩ := c.d.def_ 33 (d := d_InvalidTie) rfl
  have E_InvalidTie : Er1 P w K mg base "InvalidTie" "position" "InvalidTie" (He.ga K "InvalidTie") := er1_of (st := s_InvalidTie) (qual := "InvalidTie.__init__") X G PySem.F.excBase_ValueError PySem.F.store_ValueError (exL_ok c.more 24 rfl) F_InvalidTie sc_InvalidTie (fun _ _ _ _ _ _ us hl => match us, hl with | [_, _], _ => rfl) (fun _ _ _ _ _ _ _ _ => rfl) (fun _ _ _ _ _ _ => pss_cons (ps_err (pv 0) (pv 1)) (pss_one (ps_err (pv 0) pe_str)))
  obtain ⟨fd_InvalidField, F_InvalidField⟩ := c.d.def_ 34 (d := d_InvalidField) rfl
  have E_InvalidField : Er1 P w K mg base "InvalidField" "position" "InvalidField" (He.ga K "InvalidField") := er1_of (st := s_InvalidField) (qual := "InvalidField.__init__") X G PySem.F.excBase_ValueError PySem.F.store_ValueError (exL_ok c.more 25 rfl) F_InvalidField sc_InvalidField (fun _ _ _ _ _ _ us hl => match us, hl with | [_, _], _ => rfl) (fun _ _ _ _ _ _ _ _ => rfl) (fun _ _ _ _ _ _ => pss_cons (ps_err (pv 0) (pv 1)) (pss_one (ps_err (pv 0) pe_str)))
  have hCS : ∀ i r, tab[i]? = some r → ∃ C, IsE K [He.ga K "InvalidField", He.ga K "InvalidTie", He.ga K "InvalidKind", He.ga K "InvalidHolding", He.ga K "InvalidRulebook", He.ga K "InvalidName", He.ga K "InvalidNetwork", He.ga K "InvalidState", He.ga K "InvalidLook", He.ga K "InvalidCount", He.ga K "InvalidCommand", He.ga K "InvalidLimit", He.ga K "InvalidPage", He.ga K "DuplicateCell", He.ga K "DuplicateTie", He.ga K "KindsDiffer", He.ga K "BooksDiffer", He.ga K "Unsettled", He.ga K "Full", He.ga K "EmptyHistory", He.ga K "UnknownCell", He.ga K "UnknownKind", He.ga K "UnknownTie", He.ga K "UnknownField", He.ga K "MissingTie", He.ga K "UnknownMoment"] i r C := fun i r h => by
    match i, h with
    | 0, h => cases h; exact ⟨_, rfl, rfl, E_InvalidField.er, E_InvalidField.fc, fun f e => by cases e; exact E_InvalidField.ff⟩
    | 1, h => cases h; exact ⟨_, rfl, rfl, E_InvalidTie.er, E_InvalidTie.fc, fun f e => by cases e; exact E_InvalidTie.ff⟩
    | 2, h => cases h; exact ⟨_, rfl, rfl, E_InvalidKind.er, E_InvalidKind.fc, fun f e => by cases e; exact E_InvalidKind.ff⟩
    | 3, h => cases h; exact ⟨_, rfl, rfl, E_InvalidHolding.er, E_InvalidHolding.fc, fun f e => by cases e; exact E_InvalidHolding.ff⟩
    | 4, h => cases h; exact ⟨_, rfl, rfl, E_InvalidRulebook.er, E_InvalidRulebook.fc, fun f e => by cases e; exact E_InvalidRulebook.ff⟩
    | 5, h => cases h; exact ⟨_, rfl, rfl, E_InvalidName.er, E_InvalidName.fc, fun f e => by cases e; exact E_InvalidName.ff⟩
    | 6, h => cases h; exact ⟨_, rfl, rfl, E_InvalidNetwork.er, E_InvalidNetwork.fc, fun f e => by cases e; exact E_InvalidNetwork.ff⟩
    | 7, h => cases h; exact ⟨_, rfl, rfl, E_InvalidState.er, E_InvalidState.fc, fun f e => by cases e; exact E_InvalidState.ff⟩
    | 8, h => cases h; exact ⟨_, rfl, rfl, E_InvalidLook.er, E_InvalidLook.fc, fun f e => by cases e; exact E_InvalidLook.ff⟩
    | 9, h => cases h; exact ⟨_, rfl, rfl, E_InvalidCount.er, E_InvalidCount.fc, fun f e => by cases e; exact E_InvalidCount.ff⟩
    | 10, h => cases h; exact ⟨_, rfl, rfl, E_InvalidCommand.er, E_InvalidCommand.fc, fun f e => by cases e; exact E_InvalidCommand.ff⟩
    | 11, h => cases h; exact ⟨_, rfl, rfl, E_InvalidLimit.er, E_InvalidLimit.fc, fun f e => by cases e; exact E_InvalidLimit.ff⟩
    | 12, h => cases h; exact ⟨_, rfl, rfl, E_InvalidPage.er, E_InvalidPage.fc, fun f e => by cases e; exact E_InvalidPage.ff⟩
    | 13, h => cases h; exact ⟨_, rfl, rfl, E_DuplicateCell.er, E_DuplicateCell.fc, fun f e => by cases e; exact E_DuplicateCell.ff⟩
    | 14, h => cases h; exact ⟨_, rfl, rfl, E_DuplicateTie.er, E_DuplicateTie.fc, fun f e => by cases e; exact E_DuplicateTie.ff⟩
    | 15, h => cases h; exact ⟨_, rfl, rfl, E_KindsDiffer.er, E_KindsDiffer.fc, fun f e => by cases e; exact E_KindsDiffer.ff⟩
    | 16, h => cases h; exact ⟨_, rfl, rfl, E_BooksDiffer.er, E_BooksDiffer.fc, fun f e => by cases e⟩
    | 17, h => cases h; exact ⟨_, rfl, rfl, E_Unsettled.er, E_Unsettled.fc, fun f e => by cases e⟩
    | 18, h => cases h; exact ⟨_, rfl, rfl, E_Full.er, E_Full.fc, fun f e => by cases e; exact E_Full.ff⟩
    | 19, h => cases h; exact ⟨_, rfl, rfl, E_EmptyHistory.er, E_EmptyHistory.fc, fun f e => by cases e⟩
    | 20, h => cases h; exact ⟨_, rfl, rfl, E_UnknownCell.er, E_UnknownCell.fc, fun f e => by cases e; exact E_UnknownCell.ff⟩
    | 21, h => cases h; exact ⟨_, rfl, rfl, E_UnknownKind.er, E_UnknownKind.fc, fun f e => by cases e; exact E_UnknownKind.ff⟩
    | 22, h => cases h; exact ⟨_, rfl, rfl, E_UnknownTie.er, E_UnknownTie.fc, fun f e => by cases e; exact E_UnknownTie.ff⟩
    | 23, h => cases h; exact ⟨_, rfl, rfl, E_UnknownField.er, E_UnknownField.fc, fun f e => by cases e; exact E_UnknownField.ff⟩
    | 24, h => cases h; exact ⟨_, rfl, rfl, E_MissingTie.er, E_MissingTie.fc, fun f e => by cases e; exact E_MissingTie.ff⟩
    | 25, h => cases h; exact ⟨_, rfl, rfl, E_UnknownMoment.er, E_UnknownMoment.fc, fun f e => by cases e; exact E_UnknownMoment.ff⟩
    | n + 26, h => cases h
  have G_law_like := like_all (P := P) (w := w) (base := base) B D_law_like 5
  have G_law_draw := ok_law_draw (P := P) (w := w) (base := base) B D_law_draw
  have G_law_mixed := ok_law_mixed (P := P) (w := w) (base := base) B D_law_mixed D_law_draw G_law_draw  
  have G_law_given := ok_law_given (P := P) (w := w) (base := base) B D_law_given   (CS := [He.ga K "InvalidField", He.ga K "InvalidTie", He.ga K "InvalidKind", He.ga K "InvalidHolding", He.ga K "InvalidRulebook", He.ga K "InvalidName", He.ga K "InvalidNetwork", He.ga K "InvalidState", He.ga K "InvalidLook", He.ga K "InvalidCount", He.ga K "InvalidCommand", He.ga K "InvalidLimit", He.ga K "InvalidPage", He.ga K "DuplicateCell", He.ga K "DuplicateTie", He.ga K "KindsDiffer", He.ga K "BooksDiffer", He.ga K "Unsettled", He.ga K "Full", He.ga K "EmptyHistory", He.ga K "UnknownCell", He.ga K "UnknownKind", He.ga K "UnknownTie", He.ga K "UnknownField", He.ga K "MissingTie", He.ga K "UnknownMoment"])
  have G_law_flags := ok_law_flags (P := P) (w := w) (base := base) B D_law_flags  E_UnknownMoment E_MissingTie E_UnknownField E_UnknownTie E_UnknownKind E_UnknownCell E_EmptyHistory E_Full E_Unsettled E_BooksDiffer E_KindsDiffer E_DuplicateTie E_DuplicateCell E_InvalidPage E_InvalidLimit E_InvalidCommand E_InvalidCount E_InvalidLook E_InvalidState E_InvalidNetwork E_InvalidName E_InvalidRulebook E_InvalidHolding E_InvalidKind E_InvalidTie E_InvalidField M_Missing M_BestError  X_x
  have G_law_made_errors := ok_law_made_errors (P := P) (w := w) (base := base) B D_law_made_errors  E_UnknownMoment E_MissingTie E_UnknownField E_UnknownTie E_UnknownKind E_UnknownCell E_EmptyHistory E_Full E_Unsettled E_BooksDiffer E_KindsDiffer E_DuplicateTie E_DuplicateCell E_InvalidPage E_InvalidLimit E_InvalidCommand E_InvalidCount E_InvalidLook E_InvalidState E_InvalidNetwork E_InvalidName E_InvalidRulebook E_InvalidHolding E_InvalidKind E_InvalidTie E_InvalidField  
  have G_law_any := ok_law_any (P := P) (w := w) (base := base) B D_law_any D_law_draw G_law_draw  
  have G_law_bag := ok_law_bag (P := P) (w := w) (base := base) B D_law_bag   
  have G_law := ok_law (P := P) (w := w) (base := base) B D_law D_law_like G_law_like D_law_mixed G_law_mixed D_law_given G_law_given D_law_flags G_law_flags D_law_made_errors G_law_made_errors D_law_any G_law_any D_law_draw G_law_draw D_law_bag G_law_bag E_InvalidPage E_MissingTie E_Full E_InvalidLook  rfl hCS
  exact G_law
end LW
open PySem PySem.W PySem.Calls PyProof.Rows
set_option maxHeartbeats 0 in
theorem PySem.Challenge.cw_bestheard_k01_errors_by_themselves_holds : PySem.Challenge.rw_bestheard_k01_errors_by_themselves.Holds := by
  w_on; o_law
  refine HandSHeadRun.head_any (r := OpenLaw.row PySem.Challenge.rw_bestheard_k01_errors_by_themselves) (q := view (OpenLaw.row PySem.Challenge.rw_bestheard_k01_errors_by_themselves).prog [38]) (H := LW.hk) (ob := LW.ob) (M := 20000) (loose := LW.nms) (d := HandSHeadRun.topDef (OpenLaw.row PySem.Challenge.rw_bestheard_k01_errors_by_themselves).prog 38) (kwd := []) LW.ob_eq
    (by kernel_rfl) (fun s => by kernel_rfl) LW.run (by kernel_rfl) (by kernel_rfl) (by kernel_rfl) (by rfl) (by first | assumption | decide +kernel) (by decide +kernel) ⟨rfl, rfl, rfl, rfl, rfl, by decide +kernel⟩ ?hw ?hc
  case hw => w_witness2
  case hc =>
    refine L2.walk_ofE (l := PySem.Challenge.rw_bestheard_k01_errors_by_themselves) (n := 63) (k := 6) (x := "_law_script") (CX := L2.CX0) rfl (by decide) (by kernel_rfl) ⟨rfl, by decide, by decide⟩ ?F (fun _ _ _ _ z => z)
    intro w mg fa h Y G hmg0
    obtain ⟨K, KX, c⟩ := Y
    have hmg : mg ("law" : PySem.Str) = some (.ref fa) := by
      have e : (HandSHeadRun.topDef (OpenLaw.row PySem.Challenge.rw_bestheard_k01_errors_by_themselves).prog 38).name = ("law" : PySem.Str) := by kernel_rfl
      rw [← e]
      exact hmg0
    obtain ⟨fd, hb, hF⟩ := LW.facts (P := (PySem.Challenge.rw_bestheard_k01_errors_by_themselves).prog) (w := w) KX G hmg c
    exact ⟨K, fd, DL.spD K LW.Φ_law, KX, hb, fun H a ns hl _ hS => ⟨[.scr ns], fun d => d = .bl true, ⟨_, _, rfl, ⟨a, rfl, hS⟩, rfl⟩, ⟨ns, rfl, rfl⟩, fun v H2 d s r e => by subst e; exact r⟩, hF⟩
