import PyProof.Rows.All
import Wide.All
import OpenK.AllK
import Wide.FinOn
import HandS.ForMost
import HandS.IsInst
import HandS.Style
import HandS.RevRange
import HandS.SortKw
import KE.KMinKey
import PySem.Challenge.RW_skybars_k08_answers_by_hand
set_option Elab.async false
set_option linter.all false
set_option maxRecDepth 100000
set_option maxHeartbeats 4000000
/-! R: rules of our own over the hand layer: comparisons of more than two links, max(xs, default=d), loops and comprehensions over enumerate and zip, the built-in names. -/
namespace Sky
open PySem PySem.Spec PyProof.Rows L2

/-! ### chains a op b op c op d .. -/
structure PCh (X : Cx) (ops : List CmpOp) (es : List Expr) (t : V → TE) : Prop where
  val : ∀ (pos : Pos) (pins : List (Addr × Obj)) (s : Shared) (σ : L2.St) (H : Hp) (Q : VK) (x : V) (v : Value), Inv X pins σ H s → RelV x v → t x σ H Q →
    wpAny (model X.prog X.w) X.A (compareChain pos v ops (evalEach es X.env)) (EP X pins σ Q) X.xe s
  tst : ∀ (pos : Pos) (pins : List (Addr × Obj)) (s : Shared) (σ : L2.St) (H : Hp) (Q : Bool → Hp → Prop) (x : V) (v : Value), Inv X pins σ H s → RelV x v → t x σ H (fun z H' => ∃ k, z = .bl k ∧ Q k H') →
    wpAny (model X.prog X.w) X.A (testChain pos v ops (evalEach es X.env)) (TP X pins σ Q) X.xe s
section
variable {X : Cx} {op op' : CmpOp} {ops : List CmpOp} {a b c : Expr} {cs : List Expr} {ta tb tc : TE} {r : R2} {t' : V → TE} {pos : Pos}
def cOne (r : R2) (tc : TE) : V → TE := fun x σ H Q => tc σ H fun y H2 => r x y H2 Q
def cCons (r : R2) (tb : TE) (t' : V → TE) : V → TE := fun x σ H Q => tb σ H fun y H2 => r x y H2 fun z H3 => ∃ k, z = .bl k ∧ (if k = true then t' y σ H3 Q else Q (.bl false) H3)
theorem pch_one (ho : OpR X (compareOp op) r) (hc : PE X c tc) : PCh X [op] [c] (cOne r tc) := by
  constructor
  · intro pos pins s σ H Q x v I rx h
    exact chain_last (thn (hc.run pins s σ H _ I h) fun u s2 ⟨y, H2, I2, r2, q2⟩ => ho pins s2 σ H2 x y v u Q I2 rx r2 q2)
  · intro pos pins s σ H Q x v I rx h
    refine test_last (thn (hc.run pins s σ H _ I h) fun u s2 ⟨y, H2, I2, r2, q2⟩ => thn (ho pins s2 σ H2 x y v u _ I2 rx r2 q2) fun d s3 ⟨z, H3, I3, r3, k, e, q3⟩ => ?_)
    subst e
    cases r3
    exact wpAny_truthy_bool ⟨H3, I3, q3⟩
theorem pch_cons (ho : OpR X (compareOp op) r) (hb : PE X b tb) (hc : PCh X (op' :: ops) (c :: cs) t') : PCh X (op :: op' :: ops) (b :: c :: cs) (cCons r tb t') := by
  constructor
  · intro pos pins s σ H Q x v I rx h
    refine chain_link (thn (hb.run pins s σ H _ I h) fun u s2 ⟨y, H2, I2, r2, q2⟩ => thn (ho pins s2 σ H2 x y v u _ I2 rx r2 q2) fun d s3 ⟨z, H3, I3, r3, k, e, q3⟩ => ?_)
    subst e
    cases r3
    refine wpAny_truthy_bool ?_
    cases k with
    | false => exact ite_ff ⟨.bl false, H3, I3, rfl, q3⟩
    | true => exact ite_tt (hc.val _ pins s3 σ H3 Q y u I3 r2 q3)
  · intro pos pins s σ H Q x v I rx h
    refine test_link (thn (hb.run pins s σ H _ I h) fun u s2 ⟨y, H2, I2, r2, q2⟩ => thn (ho pins s2 σ H2 x y v u _ I2 rx r2 q2) fun d s3 ⟨z, H3, I3, r3, k, e, q3⟩ => ?_)
    subst e
    cases r3
    refine wpAny_truthy_bool ?_
    cases k with
    | false =>
      obtain ⟨k', e', q'⟩ := q3
      cases e'
      exact ite_ff ⟨H3, I3, q'⟩
    | true => exact ite_tt (hc.tst _ pins s3 σ H3 Q y u I3 r2 q3)
def tChn (ta : TE) (t : V → TE) : TE := fun σ H Q => ta σ H fun x H1 => t x σ H1 Q
theorem pe_chn {op1 op2 : CmpOp} {r1 r2 : Expr} {rs : List Expr} {t : V → TE} (ha : PE X a ta) (h : PCh X (op1 :: op2 :: ops) (r1 :: r2 :: rs) t)
    (hm : lastMarks (op1 :: op2 :: ops) (r1 :: r2 :: rs) = false := by with_unfolding_all rfl) : PE X (.Compare a (op1 :: op2 :: ops) (r1 :: r2 :: rs) pos) (tChn ta t) := by
  refine ⟨fun pins s σ H Q I hw => ?_⟩
  exact Compare_chain (thn (ha.run pins s σ H _ I hw) fun v s1 ⟨x, H1, I1, q1, k1⟩ => h.val pos pins s1 σ H1 Q x v I1 q1 k1) hm
theorem pt_chn {op1 op2 : CmpOp} {r1 r2 : Expr} {rs : List Expr} {t : V → TE} (ha : PE X a ta) (h : PCh X (op1 :: op2 :: ops) (r1 :: r2 :: rs) t)
    (hm : lastMarks (op1 :: op2 :: ops) (r1 :: r2 :: rs) = false := by with_unfolding_all rfl) : PT X (.Compare a (op1 :: op2 :: ops) (r1 :: r2 :: rs) pos) (tTest (tChn ta t)) := by
  refine ⟨fun pins s σ H Q I hw => ?_⟩
  exact isTrue_chain (thn (ha.run pins s σ H _ I hw) fun v s1 ⟨x, H1, I1, q1, k1⟩ => h.tst pos pins s1 σ H1 Q x v I1 q1 k1) hm
end

/-! ### lists of whole numbers as values -/
def g (bs : List Int) (i : Nat) : Int := bs.getD i 0
abbrev ivs (l : List Int) : List V := l.map V.int
theorem ivs_at {l : List Int} {j : Nat} (h : j < l.length) : (ivs l)[j]? = some (.int (g l j)) := by
  unfold g
  rw [List.getElem?_map, List.getElem?_eq_getElem h, List.getD_eq_getElem?_getD, List.getElem?_eq_getElem h]
  rfl
theorem at_ivs {l : List Int} {j : Nat} {i : Int} (e : i = (j : Int)) (h : j < l.length) : atI (ivs l) i = some (.int (g l j)) := by
  rw [e]
  exact atI_nat (ivs_at h)
theorem of_ivs {l : List Int} {j : Nat} {x : V} (h : (ivs l)[j]? = some x) : j < l.length ∧ x = .int (g l j) := by
  have hj : j < l.length := by
    have := (List.getElem?_eq_some_iff.mp h).1
    rwa [List.length_map] at this
  refine ⟨hj, ?_⟩
  rw [ivs_at hj] at h
  exact (Option.some.inj h).symm
theorem len_ivs (l : List Int) : (ivs l).length = l.length := List.length_map ..
theorem ivs_app (l : List Int) (x : Int) : ivs (l ++ [x]) = ivs l ++ [V.int x] := by simp [ivs]
theorem rev_ivs (l : List Int) : (ivs l).reverse = ivs l.reverse := (List.map_reverse ..).symm
theorem sz_of {n : Nat} (h : n ≤ 100000) : n ≤ sizeLine := Nat.le_trans h (by decide)
theorem sz_lt {n : Nat} (h : n < 100000) : n < sizeLine := Nat.lt_of_lt_of_le h (by decide)

/-- a list read as data: of numbers -/
theorem dp_ivsA {K : PySem.W.Frag} {H : Hp} : ∀ l : List Int, DpAll K H (ivs l) (l.map PyData.int)
  | [] => .nil
  | a :: r => .cons (.int a) (dp_ivsA r)
theorem dp_ivs {K : PySem.W.Frag} {H : Hp} {a : Addr} {l : List Int} (h : SqL K H a (ivs l)) : Dp K H (.ref a) (.list (l.map PyData.int)) := .lst h (dp_ivsA l)
theorem eqv_ivsA : ∀ l m : List Int, PyData.eqvAll (l.map PyData.int) (m.map PyData.int) = decide (l = m)
  | [], [] => by simp [PyData.eqvAll]
  | [], _ :: _ => by simp [PyData.eqvAll]
  | _ :: _, [] => by simp [PyData.eqvAll]
  | a :: r, b :: t => by
    simp only [List.map_cons, PyData.eqvAll, PyData.eqv, eqv_ivsA r t]
    by_cases h : a = b <;> by_cases h' : r = t <;> simp [h, h']
theorem eqv_ivs (l m : List Int) : PyData.eqv (.list (l.map PyData.int)) (.list (m.map PyData.int)) = decide (l = m) := by
  simp only [PyData.eqv]
  exact eqv_ivsA l m
/-- ==, != of two lists of numbers -/
theorem q_eqL {K : PySem.W.Frag} {H : Hp} {a b : Addr} {l m : List Int} {Q : VK} (ha : SqL K H a (ivs l)) (hb : SqL K H b (ivs m)) (q : Q (.bl (decide (l = m))) H) : rEqD K (.ref a) (.ref b) H Q :=
  ⟨_, _, dp_ivs ha, dp_ivs hb, PySem.W.ke_shaped_ints l, PySem.W.ke_shaped_ints m, by rw [eqv_ivs]; exact q⟩
theorem q_neL {K : PySem.W.Frag} {H : Hp} {a b : Addr} {l m : List Int} {Q : VK} (ha : SqL K H a (ivs l)) (hb : SqL K H b (ivs m)) (q : Q (.bl (!decide (l = m))) H) : rNeD K (.ref a) (.ref b) H Q :=
  ⟨_, _, dp_ivs ha, dp_ivs hb, PySem.W.ke_shaped_ints l, PySem.W.ke_shaped_ints m, by rw [eqv_ivs]; exact q⟩

/-! ### loops over enumerate, with two names -/
abbrev g2 (K : PySem.W.Frag) (j k : Nat) : TG := gTup K 2 (gCons (gName j) (gCons (gName k) gNil))
theorem g2_new {K : PySem.W.Frag} {j k : Nat} {T : Addr} {x y : V} {σ : L2.St} {H : Hp} {Q : L2.St → Hp → Prop} (q : Q ((σ.set j (some x)).set k (some y)) (upd H T (.tup [x, y]))) : g2 K j k (.ref T) σ (upd H T (.tup [x, y])) Q :=
  ⟨T, [x, y], rfl, SqT.of upd_same, rfl, x, [y], rfl, y, [], rfl, rfl, q⟩
theorem same_new {H : Hp} {p : Addr} {o : HO} (h : H p = none) : Same H (upd H p o) := fun b u e => by
  rw [upd_ne (ne_of_none e h)]
  exact e
/-- what H did not know may change -/
theorem same_mut {H H' : Hp} {p : Addr} {o : HO} (e : Same H H') (h : H p = none) : Same H (upd H' p o) := fun a u ha => by
  rw [upd_ne (ne_of_none ha h)]
  exact e a u ha
theorem for_enum2 {K : PySem.W.Frag} {a : Addr} {xs : List V} {j k : Nat} {tb : TS} {D : Ends} {σ : L2.St} {H : Hp} (Pv : Nat → L2.St → Hp → Prop) (h0 : Pv 0 σ H) (hq : ∀ i σ H, Pv i σ H → SqL K H a xs)
    (hs : ∀ (i : Nat) (x : V) (σ : L2.St) (H H' : Hp), xs[i]? = some x → Pv i σ H → Same H H' → tb { D with nx := Pv (i + 1), ct := Pv (i + 1), bk := D.nx } ((σ.set j (some (.int (i : Int)))).set k (some x)) H') (hd : ∀ σ H, Pv xs.length σ H → D.nx σ H) :
    ∃ W : Nat → Nat → L2.St → Hp → Prop, (∃ m, W 0 m σ H) ∧ ∀ i m σ H, W i m σ H →
      ((Ite K a).stop i H ∧ D.nx σ H) ∨ ((Ite K a).go i H ∧ ∃ N : L2.St → Hp → Prop, (∀ σ' H', N σ' H' → ∃ m', m' < m ∧ W (i + 1) m' σ' H') ∧ ∀ v H', (Ite K a).yld i H v H' → g2 K j k v σ H' fun σ2 H2 => tb { D with nx := N, ct := N, bk := D.nx } σ2 H2) := by
  refine ⟨fun i m σ H => m = xs.length - i ∧ i ≤ xs.length ∧ Pv i σ H, ⟨xs.length, rfl, Nat.zero_le _, h0⟩, ?_⟩
  rintro i m σ H ⟨rfl, hi, p⟩
  have qx := hq i σ H p
  by_cases hlt : i < xs.length
  · refine .inr ⟨⟨xs, xs[i], qx, List.getElem?_eq_getElem hlt⟩, Pv (i + 1), fun σ' H' p' => ⟨xs.length - (i + 1), by omega, rfl, hlt, p'⟩, fun v H' y => ?_⟩
    obtain ⟨T, x', rfl, hT, rfl, f1⟩ := y
    exact g2_new (hs i x' σ H _ (f1 xs qx) p (same_new hT))
  · have e : i = xs.length := by omega
    subst e
    exact .inl ⟨⟨xs, qx, Nat.le_refl _⟩, hd σ H p⟩
/-! ### comprehensions over enumerate, zip -/
theorem lc_enum {K : PySem.W.Frag} {a : Addr} {xs : List V} {g : TG} {tt : TT} {te : TE} {vs : List Nat} {σ : L2.St} {H1 : Hp} {D : Addr} {Qd : Hp → Prop} (Pv : Nat → Hp → Prop) (h0 : Pv 0 (upd H1 D (.lst []))) (hl : ∀ i H, Pv i H → SqL K H a xs)
    (hs : ∀ (i : Nat) (x : V) (T : Addr) (H : Hp), xs[i]? = some x → Pv i H → H T = none → g (.ref T) (wipe σ vs) (upd H T (.tup [.int (i : Int), x])) fun σ2 H2 => wipe σ2 vs = wipe σ vs ∧ tt σ2 H2 fun b H3 =>
      if b = true then te σ2 H3 fun y H4 => ∃ acc, H4 D = some (.lst acc) ∧ acc.length < sizeLine ∧ Pv (i + 1) (upd H4 D (.lst (acc ++ [y]))) else Pv (i + 1) H3) (hd : ∀ H, Pv xs.length H → Qd H) :
    ∃ W : Nat → Nat → Hp → Prop, (∃ m, W 0 m (upd H1 D (.lst []))) ∧ ∀ i m H, W i m H →
      ((Ite K a).stop i H ∧ Qd H) ∨ ((Ite K a).go i H ∧ ∃ Nx : Hp → Prop, (∀ H', Nx H' → ∃ m', m' < m ∧ W (i + 1) m' H') ∧ ∀ x H', (Ite K a).yld i H x H' → g x (wipe σ vs) H' fun σ2 H2 => wipe σ2 vs = wipe σ vs ∧ tt σ2 H2 fun b H3 =>
        if b = true then te σ2 H3 fun y H4 => ∃ acc, H4 D = some (.lst acc) ∧ acc.length < sizeLine ∧ Nx (upd H4 D (.lst (acc ++ [y]))) else Nx H3) := by
  refine ⟨fun i m H => m = xs.length - i ∧ i ≤ xs.length ∧ Pv i H, ⟨xs.length, rfl, Nat.zero_le _, h0⟩, ?_⟩
  rintro i m H ⟨rfl, hi, p⟩
  have qx := hl i H p
  by_cases hlt : i < xs.length
  · refine .inr ⟨⟨xs, xs[i], qx, List.getElem?_eq_getElem hlt⟩, Pv (i + 1), fun H' p' => ⟨xs.length - (i + 1), by omega, rfl, hlt, p'⟩, fun v H' y => ?_⟩
    obtain ⟨T, x', rfl, hT, rfl, f1⟩ := y
    exact hs i x' T H (f1 xs qx) p hT
  · have e : i = xs.length := by omega
    subst e
    exact .inl ⟨⟨xs, qx, Nat.le_refl _⟩, hd H p⟩
theorem lc_zip {K : PySem.W.Frag} {a b : Addr} {xs ys : List V} {g : TG} {tt : TT} {te : TE} {vs : List Nat} {σ : L2.St} {H1 : Hp} {D : Addr} {Qd : Hp → Prop} (hlen : xs.length = ys.length) (Pv : Nat → Hp → Prop) (h0 : Pv 0 (upd H1 D (.lst [])))
    (hl : ∀ i H, Pv i H → SqL K H a xs ∧ SqL K H b ys)
    (hs : ∀ (i : Nat) (x y : V) (T : Addr) (H : Hp), xs[i]? = some x → ys[i]? = some y → Pv i H → H T = none → g (.ref T) (wipe σ vs) (upd H T (.tup [x, y])) fun σ2 H2 => wipe σ2 vs = wipe σ vs ∧ tt σ2 H2 fun b H3 =>
      if b = true then te σ2 H3 fun y H4 => ∃ acc, H4 D = some (.lst acc) ∧ acc.length < sizeLine ∧ Pv (i + 1) (upd H4 D (.lst (acc ++ [y]))) else Pv (i + 1) H3) (hd : ∀ H, Pv xs.length H → Qd H) :
    ∃ W : Nat → Nat → Hp → Prop, (∃ m, W 0 m (upd H1 D (.lst []))) ∧ ∀ i m H, W i m H →
      ((Itz K a b).stop i H ∧ Qd H) ∨ ((Itz K a b).go i H ∧ ∃ Nx : Hp → Prop, (∀ H', Nx H' → ∃ m', m' < m ∧ W (i + 1) m' H') ∧ ∀ x H', (Itz K a b).yld i H x H' → g x (wipe σ vs) H' fun σ2 H2 => wipe σ2 vs = wipe σ vs ∧ tt σ2 H2 fun b H3 =>
        if b = true then te σ2 H3 fun y H4 => ∃ acc, H4 D = some (.lst acc) ∧ acc.length < sizeLine ∧ Nx (upd H4 D (.lst (acc ++ [y]))) else Nx H3) := by
  refine ⟨fun i m H => m = xs.length - i ∧ i ≤ xs.length ∧ Pv i H, ⟨xs.length, rfl, Nat.zero_le _, h0⟩, ?_⟩
  rintro i m H ⟨rfl, hi, p⟩
  obtain ⟨qx, qy⟩ := hl i H p
  by_cases hlt : i < xs.length
  · have hx : xs[i]? = some xs[i] := List.getElem?_eq_getElem hlt
    have hlt2 : i < ys.length := by omega
    have hy : ys[i]? = some ys[i] := List.getElem?_eq_getElem hlt2
    refine .inr ⟨⟨xs, ys, _, _, qx, qy, hx, hy⟩, Pv (i + 1), fun H' p' => ⟨xs.length - (i + 1), by omega, rfl, hlt, p'⟩, fun v H' y => ?_⟩
    obtain ⟨T, x', y', rfl, hT, rfl, f1, f2⟩ := y
    exact hs i x' y' T H (f1 xs qx) (f2 ys qy) p hT
  · have e : i = xs.length := by omega
    subst e
    exact .inl ⟨⟨xs, ys, qx, qy, Or.inl (Nat.le_refl _)⟩, hd H p⟩
end Sky
namespace Sky
open PySem PySem.Spec PyProof.Rows L2
/-! ### a def as it stands, a def as it is used; promises by the count of arguments -/
def Sp1 (P : V → Hp → VK → XK → Prop) : Sp := fun vs H Q E => ∃ x, vs = [x] ∧ P x H Q E
def Sp2 (P : V → V → Hp → VK → XK → Prop) : Sp := fun vs H Q E => ∃ x y, vs = [x, y] ∧ P x y H Q E
def Sp3 (P : V → V → V → Hp → VK → XK → Prop) : Sp := fun vs H Q E => ∃ x y z, vs = [x, y, z] ∧ P x y z H Q E
def Sp5 (P : V → V → V → V → V → Hp → VK → XK → Prop) : Sp := fun vs H Q E => ∃ x y z u v, vs = [x, y, z, u, v] ∧ P x y z u v H Q E
def Def (K : PySem.W.Frag) (mg : Str → Option Value) (x : Str) (ps : List Str) (st : Stmt) : Prop := ∃ (f : Addr) (fd : FuncData), mg x = some (.ref f) ∧ Fun K x x st f fd ∧ Binds K fd ps []
def Has (P : Program) (w : World) (K : PySem.W.Frag) (mg : Str → Option Value) (base : Heap) (CX : CXT) (k : Nat) (x : Str) (ps : List Str) (sp : Sp) : Prop :=
  ∃ (f : Addr) (fd : FuncData), mg x = some (.ref f) ∧ FnOk P w K mg base CX k f fd ps sp ∧ PySem.W.keepIn K (.ref f) = true ∧ Binds K fd ps []
theorem Has.mono {P : Program} {w : World} {K : PySem.W.Frag} {mg : Str → Option Value} {base : Heap} {CX : CXT} {j k : Nat} {x : Str} {ps : List Str} {sp : Sp} (h : Has P w K mg base CX j x ps sp) (l : j ≤ k) : Has P w K mg base CX k x ps sp := by
  obtain ⟨f, fd, a, b, c, d⟩ := h
  exact ⟨f, fd, a, b.mono l, c, d⟩
/-! ### the built-in names -/
theorem bt_len : bootBuiltins "len" = some (.builtin "len") := by decide +kernel
theorem bt_isinstance : bootBuiltins "isinstance" = some (.builtin "isinstance") := by decide +kernel
theorem bt_all : bootBuiltins "all" = some (.builtin "all") := by decide +kernel
theorem bt_any : bootBuiltins "any" = some (.builtin "any") := by decide +kernel
theorem bt_sum : bootBuiltins "sum" = some (.builtin "sum") := by decide +kernel
theorem bt_max : bootBuiltins "max" = some (.builtin "max") := by decide +kernel
theorem bt_min : bootBuiltins "min" = some (.builtin "min") := by decide +kernel
theorem bt_sorted : bootBuiltins "sorted" = some (.builtin "sorted") := by decide +kernel
theorem bt_int : bootBuiltins "int" = some (.type "int") := by decide +kernel
theorem bt_bool : bootBuiltins "bool" = some (.type "bool") := by decide +kernel
theorem bt_tuple : bootBuiltins "tuple" = some (.type "tuple") := by decide +kernel
theorem bt_str : bootBuiltins "str" = some (.type "str") := by decide +kernel
theorem bt_ValueError : bootBuiltins "ValueError" = some (.type "ValueError") := by decide +kernel
theorem bt_list : bootBuiltins "list" = some (.type "list") := by decide +kernel
/-- len, list(..), by names of our own -/
def rLenK (K : PySem.W.Frag) : List V → Hp → VK → Prop := fun xs H Q => ∃ p ys, xs = [.ref p] ∧ (SqL K H p ys ∨ SqT K H p ys) ∧ Q (.int (ys.length : Nat)) H
def rListK (K : PySem.W.Frag) : List V → Hp → VK → Prop := fun xs H Q => ∃ p ys, xs = [.ref p] ∧ (SqL K H p ys ∨ SqT K H p ys) ∧ ∀ l, H l = none → Q (.ref l) (upd H l (.lst ys))
theorem call_lenK {X : Cx} : CallR X (.builtin "len") (rLenK X.K) := call_len_seq
theorem call_listK {X : Cx} : CallR X (.type "list") (rListK X.K) := call_list_of
/-! ### the rules with the written part named (for a block of a comprehension) -/
section
variable {X : Cx} {K : PySem.W.Frag}
theorem ix_listK (e : X.K = K := by rfl) : IxR X (rIxL K) := e ▸ ix_list
theorem ix_tupK (e : X.K = K := by rfl) : IxR X (rIxT K) := e ▸ ix_tup
theorem isiK (e : X.K = K := by rfl) : CallR X (.builtin "isinstance") (rIsi K) := e ▸ call_isi
theorem lenK (e : X.K = K := by rfl) : CallR X (.builtin "len") (rLenK K) := e ▸ call_lenK
theorem listK (e : X.K = K := by rfl) : CallR X (.type "list") (rListK K) := e ▸ call_listK
theorem allK (hc : X.calm = true) (e : X.K = K := by rfl) : CallR X (.builtin "all") (rAll K) := e ▸ cr_all hc
theorem anyK (hc : X.calm = true) (e : X.K = K := by rfl) : CallR X (.builtin "any") (rAny K) := e ▸ cr_any hc
theorem sumK (hc : X.calm = true) (e : X.K = K := by rfl) : CallR X (.builtin "sum") (rSum K) := e ▸ cr_sum hc
theorem maxK (hc : X.calm = true) (e : X.K = K := by rfl) : CallR X (.builtin "max") (rMax K) := e ▸ cr_max hc
theorem minK (hc : X.calm = true) (e : X.K = K := by rfl) : CallR X (.builtin "min") (rMin K) := e ▸ cr_min hc
theorem sortedK (e : X.K = K := by rfl) : CallR X (.builtin "sorted") (rSorted K) := e ▸ cr_sorted
theorem sl_listK (e : X.K = K := by rfl) : SlR X (rSlL K) := e ▸ sl_list
theorem eqDK (hu : X.A.units + 64 < cLine) (e : X.K = K := by rfl) : OpR X (compareOp .Eq) (rEqD K) := e ▸ op_eqD hu
theorem neDK (hu : X.A.units + 64 < cLine) (e : X.K = K := by rfl) : OpR X (compareOp .NotEq) (rNeD K) := e ▸ op_neD hu
theorem inK (e : X.K = K := by rfl) : OpR X (compareOp .In) (rIn K false) := e ▸ op_in_seq
theorem notInK (e : X.K = K := by rfl) : OpR X (compareOp .NotIn) (rIn K true) := e ▸ op_notIn_seq
theorem pe_revLK {e : Expr} {te : TE} {k : Nat} {p1 p2 p3 pos : Pos} (he : PE X e te) (h : X.K = K := by rfl) : PE X (.Subscript e (.Slice none none (some (.UnaryOp .USub (.Constant (.int 1) k p1) p2)) p3) pos) (tRevL K te) := h ▸ pe_revL he
end
/-! ### isinstance with a built-in type -/
theorem q_isi {K : PySem.W.Frag} {H : Hp} {x : V} {t T : String} {b : Bool} {Q : VK} (ty : TyX K H x (.type t)) (hk : kitB t T = some b) (q : Q (.bl b) H) : rIsi K [x, .ty T] H Q :=
  ⟨x, .ty T, .type t, .type T, b, rfl, .ty T, ty, kit_ty hk, q⟩
theorem kb_ii : kitB "int" "int" = some true := by decide +kernel
theorem kb_ib : kitB "int" "bool" = some false := by decide +kernel
theorem kb_ll : kitB "list" "list" = some true := by decide +kernel
theorem kb_tt : kitB "tuple" "tuple" = some true := by decide +kernel
theorem kb_bb : kitB "bool" "bool" = some true := by decide +kernel
theorem kb_bi : kitB "bool" "int" = some true := by decide +kernel
theorem tyx_int {K : PySem.W.Frag} {H : Hp} {i : Int} : TyX K H (.int i) (.type "int") := .base (.int i)
theorem tyx_bl {K : PySem.W.Frag} {H : Hp} {b : Bool} : TyX K H (.bl b) (.type "bool") := .base (.bl b)
theorem tyx_list {K : PySem.W.Frag} {H : Hp} {a : Addr} {xs : List V} (h : SqL K H a xs) : TyX K H (.ref a) (.type "list") := by
  rcases h with (h | ⟨o, h⟩) | ⟨o, its, n, hk, hc, _⟩
  · exact .base (.lst h)
  · exact .base (.frz h)
  · exact .kList hk hc
theorem tyx_tup {K : PySem.W.Frag} {H : Hp} {a : Addr} {xs : List V} (h : SqT K H a xs) : TyX K H (.ref a) (.type "tuple") := by
  rcases h with (h | ⟨o, h⟩) | ⟨o, its, n, hk, hc, _⟩
  · exact .base (.tup h)
  · exact .fTuple h
  · exact .kTuple hk hc
/-! ### a test whose answer is known -/
theorem ifT {c : Bool} {A B : Prop} (hc : c = true) (h : A) : if c = true then A else B := by
  rw [if_pos hc]
  exact h
theorem ifF {c : Bool} {A B : Prop} (hc : c = false) (h : B) : if c = true then A else B := by
  rw [hc, if_neg Bool.false_ne_true]
  exact h
theorem same_seqT {K : PySem.W.Frag} {H H' : Hp} {a : Addr} {xs : List V} (e : Same H H') (h : SqT K H a xs) : SqT K H' a xs := by
  rcases h with (h | ⟨o, h⟩) | h
  · exact .inl (.inl (e _ _ h))
  · exact .inl (.inr ⟨o, e _ _ h⟩)
  · exact .inr h
end Sky

/-! Mx: max(xs, default=d) of a list of whole numbers, by our own walk of the built-in's loop with its keyword carried. -/
namespace SkyMx
open PySem PySem.Spec PyProof.Rows
section
variable {prog : Program} {w : World} {A : Around} {R : Result → Shared → Prop} {I : Addr} {fp wr : List Addr} {n : Nat} {P : Nat → Value → Prop} {St : Nat → Heap → Prop} {kw : List (Str × Value)}
theorem nameMx : (toString "max" ++ toString ".loop" : String) = "max.loop" := by decide
/-- what the loop's end is to give -/
abbrev MxEnd (bt : Nat → Nat → Bool) (n : Nat) (P : Nat → Value → Prop) (wr : List Addr) (S : Addr) (R : Result → Shared → Prop) (s : Shared) : Prop :=
  ∀ v h' tk, P (argBest bt (n - 1)) v → (∀ b o, b ∉ wr → b ≠ S → s.heap.get? b = some o → h'.get? b = some o) → R (.ok (.ret v)) { s with heap := h', toks := tk }
theorem mx_loop (W : Walks prog w A.in1 I fp wr n P St) (bt : Nat → Nat → Bool) (hcmp : CmpOf prog w A.in1 .Gt P bt) (S : Addr) (hSf : S ∉ fp) :
    ∀ (k j : Nat) (s : Shared) (vb : Value) (c : Nat), n - (j + 1) = k → j + 1 ≤ n → St (j + 1) s.heap → P (argBest bt j) vb →
      s.heap.get? S = some { cls := .type "list", dict := none, data := .seq #[vb, vb] c, slots := #[] } → MxEnd bt n P wr S R s →
      codeAny (model prog w) A (.builtin "max.loop" ⟨[.ref I, .none, .ref S], kw⟩) R s := by
  have hSw : S ∉ wr := fun q => hSf (W.sub _ q)
  intro k
  induction k with
  | zero =>
    intro j s vb c hk hj hst hb hS hR
    have hin : j + 1 = n := by omega
    refine codeAny_builtin F.entry_max_loop ?_
    rw [Around.under_plainId F.plain_max_loop _]
    show wpAny (model prog w) A.in1 (seqItems? (.ref S) >>= fun _ => _) (fun _ => _) _ s
    refine wpAny_bind (wpAny_seqItems hS rfl ?_)
    show wpAny (model prog w) A.in1 (tryCatch (pyNext (.ref I)) (fun _ => _) >>= fun _ => _) (fun _ => _) _ s
    refine wpAny_bind (wpAny_tryCatch (W.done s _ _ (hin ▸ hst) fun h' tk keep => ?_))
    have hS2 := keep S _ hSw hS
    show wpAny (model prog w) A.in1 (updateSeq S (fun _ => #[]) >>= fun _ => _) (fun _ => _) _ _
    refine wpAny_bind (wpAny_updateSeq hS2 rfl (wpAny_bind (wpAny_letGo (wpAny_pure ?_))))
    exact hR vb _ tk (by rw [← hin]; exact hb) fun b o hbw hbS e => (Heap.get?_update_other _ _ (Ne.symm hbS)).trans (keep b o hbw e)
  | succ k ih =>
    intro j s vb c hk hj hst hb hS hR
    have hlt : j + 1 < n := by omega
    refine codeAny_builtin F.entry_max_loop ?_
    rw [Around.under_plainId F.plain_max_loop _]
    show wpAny (model prog w) A.in1 (seqItems? (.ref S) >>= fun _ => _) (fun _ => _) _ s
    refine wpAny_bind (wpAny_seqItems hS rfl ?_)
    show wpAny (model prog w) A.in1 (tryCatch (pyNext (.ref I)) (fun _ => _) >>= fun _ => _) (fun _ => _) _ s
    refine wpAny_bind (wpAny_tryCatch (W.item (j + 1) s _ _ hlt hst fun v h' tk hP st2 keep => ?_))
    have hS2 := keep S _ hSw hS
    show wpAny (model prog w) A.in1 (tryCatch (holding [v, v] (richCompare .Gt v vb >>= fun _ => _)) (fun _ => _) >>= fun _ => _) (fun _ => _) _ _
    refine wpAny_bind (wpAny_tryCatch (wpAny_holding (wpAny_bind (hcmp (j + 1) (argBest bt j) v vb _ _ _ hP hb (wpAny_bind (wpAny_holding (wpAny_truthy_bool (wpAny_bind (wpAny_letGo (wpAny_pure ?_))))))))))
    cases hbt : bt (j + 1) (argBest bt j) with
    | true =>
      rw [if_pos rfl]
      refine wpAny_bind (wpAny_updateSeq hS2 rfl (wpAny_bind (wpAny_letGo ?_)))
      rw [nameMx]
      refine wpAny_pure ⟨plainId_quiet F.plain_max_loop _, ih (j + 1) _ v _ (by omega) hlt (W.frame _ _ _ st2 fun b hbf o e => ?_) (by simp only [argBest, hbt, if_true]; exact hP) (Heap.get?_update_self _ hS2 rfl) fun v2 h2 tk2 hP2 keep2 => ?_⟩
      · exact (Heap.get?_update_other _ _ (fun q : S = b => hSf (by rw [q]; exact hbf))).trans e
      · exact hR v2 h2 tk2 hP2 fun b o hbw hbS e => keep2 b o hbw hbS ((Heap.get?_update_other _ _ (Ne.symm hbS)).trans (keep b o hbw e))
    | false =>
      rw [if_neg Bool.false_ne_true]
      refine wpAny_bind (wpAny_letGo ?_)
      rw [nameMx]
      refine wpAny_pure ⟨plainId_quiet F.plain_max_loop _, ih (j + 1) _ vb c (by omega) hlt st2 (by simp only [argBest, hbt, Bool.false_eq_true, if_false]; exact hb) hS2 fun v2 h2 tk2 hP2 keep2 => ?_⟩
      exact hR v2 h2 tk2 hP2 fun b o hbw hbS e => keep2 b o hbw hbS (keep b o hbw e)
theorem mx_first (W : Walks prog w A.in1 I fp wr n P St) (bt : Nat → Nat → Bool) (hcmp : CmpOf prog w A.in1 .Gt P bt) (S : Addr) (hSf : S ∉ fp) (hn : 0 < n) {s : Shared} {c : Nat} (hst : St 0 s.heap)
    (hS : s.heap.get? S = some { cls := .type "list", dict := none, data := .seq #[] c, slots := #[] }) (hR : MxEnd bt n P wr S R s) :
    codeAny (model prog w) A (.builtin "max.loop" ⟨[.ref I, .none, .ref S], kw⟩) R s := by
  have hSw : S ∉ wr := fun q => hSf (W.sub _ q)
  refine codeAny_builtin F.entry_max_loop ?_
  rw [Around.under_plainId F.plain_max_loop _]
  show wpAny (model prog w) A.in1 (seqItems? (.ref S) >>= fun _ => _) (fun _ => _) _ s
  refine wpAny_bind (wpAny_seqItems hS rfl ?_)
  show wpAny (model prog w) A.in1 (tryCatch (pyNext (.ref I)) (fun _ => _) >>= fun _ => _) (fun _ => _) _ s
  refine wpAny_bind (wpAny_tryCatch (W.item 0 s _ _ hn hst fun v h' tk hP st2 keep => ?_))
  have hS2 := keep S _ hSw hS
  show wpAny (model prog w) A.in1 (updateSeq S (fun _ => #[v, v]) >>= fun _ => _) (fun _ => _) _ _
  refine wpAny_bind (wpAny_updateSeq hS2 rfl ?_)
  rw [nameMx]
  refine wpAny_pure ⟨plainId_quiet F.plain_max_loop _, mx_loop W bt hcmp S hSf _ 0 _ v _ rfl hn (W.frame _ _ _ st2 fun b hbf o e => ?_) hP (Heap.get?_update_self _ hS2 rfl) fun v2 h2 tk2 hP2 keep2 => ?_⟩
  · exact (Heap.get?_update_other _ _ (fun q : S = b => hSf (by rw [q]; exact hbf))).trans e
  · exact hR v2 h2 tk2 hP2 fun b o hbw hbS e => keep2 b o hbw hbS ((Heap.get?_update_other _ _ (Ne.symm hbS)).trans (keep b o hbw e))
/-- nothing walked: the default -/
theorem mx_none (W : Walks prog w A.in1 I fp wr 0 P St) (S : Addr) {nm : Str} {d : Value} {s : Shared} {c : Nat} (hst : St 0 s.heap)
    (hS : s.heap.get? S = some { cls := .type "list", dict := none, data := .seq #[] c, slots := #[] })
    (hR : ∀ h' tk, (∀ b o, b ∉ wr → s.heap.get? b = some o → h'.get? b = some o) → R (.ok (.ret d)) { s with heap := h', toks := tk }) :
    codeAny (model prog w) A (.builtin "max.loop" ⟨[.ref I, .none, .ref S], [(nm, d)]⟩) R s := by
  refine codeAny_builtin F.entry_max_loop ?_
  rw [Around.under_plainId F.plain_max_loop _]
  show wpAny (model prog w) A.in1 (seqItems? (.ref S) >>= fun _ => _) (fun _ => _) _ s
  refine wpAny_bind (wpAny_seqItems hS rfl ?_)
  show wpAny (model prog w) A.in1 (tryCatch (pyNext (.ref I)) (fun _ => _) >>= fun _ => _) (fun _ => _) _ s
  refine wpAny_bind (wpAny_tryCatch (W.done s _ _ hst fun h' tk keep => ?_))
  show wpAny (model prog w) A.in1 (rule _ >>= fun _ => _) (fun _ => _) _ _
  refine wpAny_bind (wpAny_rule (wpAny_pure ?_))
  exact hR h' tk keep
end
theorem argsMx (a v : Value) : argsOk "max" ⟨[a], [(Str.ofString "default", v)]⟩ := by unfold argsOk; kernel_rfl
section
variable {prog : Program} {w : World} {A : Around} {E : Value → Shared → Prop} {s : Shared} {l : Addr} {its : List Value} {ns : List Int} {Q : Value → Shared → Prop} {d : Value}
theorem mx_raw (hh : A.handled = none) (hl : s.heap.IsList l its.toArray) (hi : IntsAre its ns)
    (h0 : ns = [] → ∀ h' tk, (∀ b o, s.heap.get? b = some o → h'.get? b = some o) → Q d { s with heap := h', toks := tk })
    (h1 : ∀ h' tk M t', (∀ b o, s.heap.get? b = some o → h'.get? b = some o) → M ∈ ns → (∀ a, a ∈ ns → a ≤ M) → Q (.int M t') { s with heap := h', toks := tk }) :
    wpAny (model prog w) A (call (.builtin "max") [.ref l] [(Str.ofString "default", d)]) Q E s := by
  obtain ⟨xs, e⟩ := hi.allInts.items
  have hn : numsOf (intItems xs).toList = ns := by rw [← e]; exact hi.numsOf
  rw [nums_intItems] at hn
  rw [e] at hl
  refine PyProof.Rows.kmk_tree F.kind_max F.plain_max F.entry_max (argsMx _ _) ?_
  show wpAny (model prog w) A.in1 (Builtin.Builtins.bindParams "max" ["key", "default"] 0 ⟨[], [(Str.ofString "default", d)]⟩ >>= fun _ => _) (fun _ => _) _ s
  refine wpAny_bind (wpAny_of_eq (show Builtin.Builtins.bindParams "max" ["key", "default"] 0 ⟨[], [(Str.ofString "default", d)]⟩ = pure [none, some d] from rfl) ?_)
  refine wpAny_bind (wpAny_pure (wpAny_bind (iter_intList hl fun s2 e2 st hfp hlI => ?_)))
  subst e2
  refine wpAny_bind (wpAny_newObj_type ?_)
  rw [nameMx]
  have W := Walks.list (prog := prog) (w := w) (A := A.in1) hh s.heap.objs.size l hlI (intItems xs)
  have hSf : (s.heap.push { cls := .type "list_iterator", data := .fields #[.ref l, .int 0 0] }).objs.size ∉ [s.heap.objs.size, l] := fun q => Nat.lt_irrefl _ (hfp _ q)
  have sz : (s.heap.push { cls := .type "list_iterator", data := .fields #[.ref l, .int 0 0] }).objs.size = s.heap.objs.size + 1 := Heap.size_push ..
  have st' := W.frame _ _ (((s.heap.push { cls := .type "list_iterator", data := .fields #[.ref l, .int 0 0] }).push { cls := .type "list", data := .seq ([] : List Value).toArray })) st fun b _ o q => Heap.get?_push_of_some _ q
  have hSn : ((s.heap.push { cls := .type "list_iterator", data := .fields #[.ref l, .int 0 0] }).push { cls := .type "list", data := .seq ([] : List Value).toArray }).get? (s.heap.push { cls := .type "list_iterator", data := .fields #[.ref l, .int 0 0] }).objs.size = some { cls := .type "list", dict := none, data := .seq #[] 0, slots := #[] } := Heap.get?_push_size _ rfl
  have old : ∀ b o, s.heap.get? b = some o → b ∉ [s.heap.objs.size] ∧ b ≠ (s.heap.push { cls := .type "list_iterator", data := .fields #[.ref l, .int 0 0] }).objs.size ∧ ((s.heap.push { cls := .type "list_iterator", data := .fields #[.ref l, .int 0 0] }).push { cls := .type "list", data := .seq ([] : List Value).toArray }).get? b = some o := fun b o q => by
    have lt := Heap.lt_size q
    refine ⟨fun z => ?_, ?_, Heap.get?_push_of_some _ (Heap.get?_push_of_some _ q)⟩
    · exact absurd (List.mem_singleton.mp z) (Nat.ne_of_lt lt)
    · rw [sz]
      exact Nat.ne_of_lt (Nat.lt_succ_of_lt lt)
  rcases Nat.eq_zero_or_pos (intItems xs).size with hz | hz
  · have hxz : xs.size = 0 := by simpa [intItems] using hz
    have hnil : ns = [] := by
      rw [← hn]
      apply List.eq_nil_of_length_eq_zero
      rw [List.length_map, Array.length_toList, hxz]
    refine wpAny_pure ⟨plainId_quiet F.plain_max_loop _, ?_⟩
    generalize hI : intItems xs = its2 at W st' hz
    rw [hz] at W
    exact mx_none W _ st' hSn fun h' tk keep => h0 hnil h' tk fun b o q => keep b o (old b o q).1 (old b o q).2.2
  · refine wpAny_pure ⟨plainId_quiet F.plain_max_loop _, mx_first W _ (CmpOf.ints_gt (numAt xs) (fun _ _ => intItems_at)) _ hSf hz st' hSn fun v h' tk hP keep => ?_⟩
    have hsz : (intItems xs).size = xs.size := by simp [intItems]
    rw [hsz] at hP hz
    have hP' : (intItems xs)[argBest (fun i j => decide (numAt xs i > numAt xs j)) (xs.size - 1)]? = some v := hP
    obtain ⟨t, rfl⟩ := intItems_at hP'
    obtain ⟨b1, b2⟩ := argBest_gt (numAt xs) (xs.size - 1)
    subst hn
    refine h1 h' tk _ t (fun b o q => keep b o (old b o q).1 (old b o q).2.1 (old b o q).2.2) ?_ fun a ha => ?_
    · rw [numAt_eq]
      exact PySem.getD_mem (by rw [List.length_map, Array.length_toList]; omega)
    · obtain ⟨j, hj, rfl⟩ := mem_getD ha
      rw [List.length_map, Array.length_toList] at hj
      rw [← numAt_eq]
      exact b2 j (by omega)
end
end SkyMx
namespace Sky
open PySem PySem.Spec PyProof.Rows L2
/-- max(xs, default=d): the greatest, or the default where there is none -/
def rMaxD (K : PySem.W.Frag) : List V → List V → Hp → VK → Prop := fun vs zs H Q => ∃ (a : Addr) (ns : List Int) (d : Int), vs = [V.ref a] ∧ zs = [.int d] ∧ SqL K H a (ns.map V.int) ∧ (ns = [] → Q (.int d) H) ∧ ∀ m, m ∈ ns → (∀ y, y ∈ ns → y ≤ m) → Q (.int m) H
theorem cr_maxD {X : Cx} (hc : X.calm = true) : CallRK X (.builtin "max") [Str.ofString "default"] (rMaxD X.K) := by
  intro pins s σ H vs zs us ws Q I r rz h
  obtain ⟨a, ns, d, rfl, rfl, hs, q0, q1⟩ := h
  obtain ⟨its, rv, hl, _⟩ := I.list hs
  rw [Vals.ref1 r]
  obtain ⟨u, rfl, ru⟩ := vals1 rz
  exact SkyMx.mx_raw (I.ok.hd hc) hl.isList rv.ints (fun e h' tk hk => ⟨.int d, H, I.kept hk, ru, q0 e⟩) fun h' tk m t' hk h1 h2 => ⟨.int m, H, I.kept hk, ⟨_, rfl⟩, q1 m h1 h2⟩
theorem maxDK {X : Cx} {K : PySem.W.Frag} (hc : X.calm = true) (e : X.K = K := by rfl) : CallRK X (.builtin "max") [Str.ofString "default"] (rMaxD K) := e ▸ cr_maxD hc
end Sky

/-! Rx: a reading brought to plain words by simp: each word of the layer as one equation; what is left is answered by the q_-lemmas. -/
namespace Sky
open PySem PySem.Spec PyProof.Rows L2
section
variable {σ : L2.St} {H : Hp} {Q : VK} {R : Bool → Hp → Prop} {RA : List V → Hp → Prop} {D : Ends} {t u : TS} {te ta tb tc : TE} {c c' : TT} {x y z : V} {r r' : R2} {i j k : Nat} {tl : TA} {K : PySem.W.Frag} {QS : L2.St → Hp → Prop} {T : String}
theorem e_seq : tSeq t u D σ H = t { D with nx := u D } σ H := rfl
theorem e_asg {gt : TG} : tAsg te gt D σ H = te σ H (fun v H1 => gt v σ H1 D.nx) := rfl
theorem e_name : gName i x σ H QS = QS (σ.set i (some x)) H := rfl
theorem e_drop : tDrop te D σ H = te σ H (fun _ H1 => D.nx σ H1) := rfl
theorem e_ret : tRet te D σ H = te σ H D.rt := rfl
theorem e_retN : tRetN D σ H = D.rt .non H := rfl
theorem e_ifs : tIfS c t u D σ H = c σ H (fun b H1 => if b = true then t D σ H1 else u D σ H1) := rfl
/-- a statement, then the rest, a word between them said once -/
def tMid (t u : TS) : TS := fun D σ H => ∃ Mid : L2.St → Hp → Prop, t { D with nx := Mid } σ H ∧ ∀ σ' H', Mid σ' H' → u D σ' H'
theorem pss_mid {X : Cx} {st : Stmt} {rest : List Stmt} {t u : TS} (h1 : PS X st t) (h2 : PSs X rest u) : PSs X (st :: rest) (tMid t u) := by
  refine ⟨fun pins s σ H D I h => ?_⟩
  obtain ⟨Mid, hm, hu⟩ := h
  refine wpAny_execs_cons (thn (h1.run pins s σ H { D with nx := Mid } I hm) fun f s1 q => ?_)
  cases f with
  | next =>
    obtain ⟨σ', H', I', q'⟩ := q
    exact h2.run pins s1 σ' H' D I' (hu σ' H' q')
  | ret v => exact q
  | brk => exact q
  | cont => exact q
theorem q_mid (Mid : L2.St → Hp → Prop) (h : t { D with nx := Mid } σ H) (k : ∀ σ' H', Mid σ' H' → u D σ' H') : tMid t u D σ H := ⟨Mid, h, k⟩
theorem e_next : tNext D σ H = D.nx σ H := rfl
theorem e_var : tVar i σ H Q = ∃ v, σ[i]? = some (some v) ∧ Q v H := rfl
theorem e_c : tC x σ H Q = Q x H := rfl
theorem e_op : tOp r ta tb σ H Q = ta σ H (fun v H1 => tb σ H1 fun w H2 => r v w H2 Q) := rfl
theorem e_un {r : V → Hp → VK → Prop} : tUn r ta σ H Q = ta σ H (fun v H1 => r v H1 Q) := rfl
theorem e_rI0 {f : Int → Int → V} {a b : Int} : rI0 f (.int a) (.int b) H Q = Q (f a b) H := by simp [rI0]
theorem e_rI {C : Int → Int → Prop} {f : Int → Int → V} {a b : Int} : rI C f (.int a) (.int b) H Q = (C a b ∧ Q (f a b) H) := by simp [rI]
theorem e_rU {f : Int → V} {a : Int} : rU f (.int a) H Q = Q (f a) H := by simp [rU]
theorem e_test : tTest te σ H R = te σ H (fun v H1 => ∃ b, v = .bl b ∧ R b H1) := rfl
theorem e_B : tB te σ H R = te σ H (fun v H1 => ∃ b, v = .bl b ∧ R b H1) := rfl
theorem e_bl {P : Bool → Prop} {b : Bool} : (∃ b', V.bl b = V.bl b' ∧ P b') = P b := by simp
theorem start_is {N : List Str} {vs : List V} {σ : L2.St} {t : TS} {D : Ends} {H : Hp} (e : L2.start N vs = σ) (h : t D σ H) : t D (L2.start N vs) H := by
  rw [e]
  exact h
theorem e_K {CX : CXT} {P : Program} {w : World} {K : PySem.W.Frag} {mg : Str → Option Value} {base : Heap} {N : List Str} {q : Str} {sc : Scope} {f : Addr} {cd : Value} {A : Around} {o : List Env} {s : Shared} {H : Hp} {E : XK} : (cxOf CX P w K mg base N q sc f cd A o s H E).K = K := rfl
theorem e_and : tAnd c c' σ H R = c σ H (fun b H1 => if b = true then c' σ H1 R else R false H1) := rfl
theorem e_or : tOr c c' σ H R = c σ H (fun b H1 => if b = true then R true H1 else c' σ H1 R) := rfl
theorem e_not : tNot c σ H R = c σ H (fun b H1 => R (!b) H1) := rfl
theorem e_andV : tAndV ta tb σ H Q = ta σ H (fun v H1 => ∃ b, v = .bl b ∧ if b = true then tb σ H1 Q else Q (.bl false) H1) := rfl
theorem e_orV : tOrV ta tb σ H Q = ta σ H (fun v H1 => ∃ b, v = .bl b ∧ if b = true then Q (.bl true) H1 else tb σ H1 Q) := rfl
theorem e_notV : tNotV ta σ H Q = ta σ H (fun v H1 => ∃ b, v = .bl b ∧ Q (.bl (!b)) H1) := rfl
theorem e_if : tIf c ta tb σ H Q = c σ H (fun b H1 => if b = true then ta σ H1 Q else tb σ H1 Q) := rfl
theorem e_CB {f : List V → Hp → VK → Prop} : tCB f tl σ H Q = tl σ H (fun vs H1 => f vs H1 Q) := rfl
theorem e_CKw {f : List V → List V → Hp → VK → Prop} {tk : TA} : tCKw f tl tk σ H Q = tl σ H (fun vs H1 => tk σ H1 fun zs H2 => f vs zs H2 Q) := rfl
theorem e_cons : tCons ta tl σ H RA = ta σ H (fun v H1 => tl σ H1 fun vs H2 => RA (v :: vs) H2) := rfl
theorem e_nil : tNil σ H RA = RA [] H := rfl
theorem e_call {sp : Sp} {dvs : List V} {E : XK} : tCall sp dvs E tl σ H Q = tl σ H (fun vs H1 => sp (vs ++ dvs) H1 Q E) := rfl
theorem e_chn {ct : V → TE} : tChn ta ct σ H Q = ta σ H (fun v H1 => ct v σ H1 Q) := rfl
theorem e_cCons {ct : V → TE} : cCons r tb ct x σ H Q = tb σ H (fun y H2 => r x y H2 fun z H3 => ∃ b, z = .bl b ∧ (if b = true then ct y σ H3 Q else Q (.bl false) H3)) := rfl
theorem e_cOne : cOne r tc x σ H Q = tc σ H (fun y H2 => r x y H2 Q) := rfl
theorem e_BM {f : V → List V → Hp → VK → Prop} : tBM K T f ta tl σ H Q = ta σ H (fun v H1 => tyV K T v H1 ∧ tl σ H1 fun vs H2 => f v vs H2 Q) := rfl
theorem e_BM0 {f : V → List V → Hp → VK → Prop} : tBM0 K T f ta σ H Q = ta σ H (fun v H1 => tyV K T v H1 ∧ f v [] H1 Q) := rfl
theorem e_sub {s : TSet} : gSub ta tb s x σ H QS = ta σ H (fun o H1 => tb σ H1 fun w H2 => s o w x H2 fun H3 => QS σ H3) := rfl
theorem e_par : tPar i j tl D σ H = tl σ H (fun vs H1 => ∃ v w, vs = [v, w] ∧ D.nx ((σ.set i (some v)).set j (some w)) H1) := rfl
theorem e_ls {f : TO} {gt : TO} {s : V → Option Int → Option Int → Hp → VK → Prop} : tSl s te f gt σ H Q = te σ H (fun v H1 => f σ H1 fun l H2 => gt σ H2 fun w H3 => s v l w H3 Q) := rfl
theorem e_noP {QO : Option Int → Hp → Prop} : tNoPart σ H QO = QO none H := rfl
theorem e_part {QO : Option Int → Hp → Prop} : tPart te σ H QO = te σ H (fun v H1 => ∃ n, v = .int n ∧ QO (some n) H1) := rfl
theorem e_intx {P : Int → Prop} {a : Int} : (∃ n, V.int a = V.int n ∧ P n) = P a := by simp
theorem e_refx {P : Addr → Prop} {a : Addr} : (∃ n, V.ref a = V.ref n ∧ P n) = P a := by simp
theorem e_yes : tYes σ H R = R true H := rfl
theorem e_get0 {α : Type} {a : α} {l : List α} : (a :: l)[0]? = some a := rfl
theorem e_getS {α : Type} {a : α} {l : List α} {n : Nat} : (a :: l)[n + 1]? = l[n]? := rfl
theorem e_sl {P : V → Prop} {v : V} : (∃ w, (some (some v) : Option (Option V)) = some (some w) ∧ P w) = P v := by simp
end
end Sky

/-! Ma: plain mathematics of bars: nearest lower ones, reaches, the shown. -/
namespace Sky
def Good (bs : List Int) : Prop := ∀ b ∈ bs, 0 ≤ b ∧ b ≤ 10000000
theorem Good.at {bs : List Int} (h : Good bs) {i : Nat} (hi : i < bs.length) : 0 ≤ g bs i ∧ g bs i ≤ 10000000 := by
  have e : g bs i = bs[i] := by simp [g, hi]
  rw [e]
  exact h _ (List.getElem_mem hi)
theorem Good.rev {bs : List Int} (h : Good bs) : Good bs.reverse := fun b hb => h b (List.mem_reverse.mp hb)
theorem g_rev {bs : List Int} {i : Nat} (hi : i < bs.length) : g bs.reverse i = g bs (bs.length - 1 - i) := by
  unfold g
  rw [List.getD_eq_getElem?_getD, List.getD_eq_getElem?_getD, List.getElem?_reverse hi]
/-- from n - 1 downwards the first place that is lower than v, or -1 -/
def down (bs : List Int) (v : Int) : Nat → Int
  | 0 => -1
  | n + 1 => if v ≤ g bs n then down bs v n else (n : Int)
theorem down_ge (bs : List Int) (v : Int) : ∀ n, -1 ≤ down bs v n
  | 0 => Int.le_refl _
  | n + 1 => by
    unfold down
    have := down_ge bs v n
    split <;> omega
theorem down_lt (bs : List Int) (v : Int) : ∀ n : Nat, down bs v n < n
  | 0 => by unfold down; omega
  | n + 1 => by
    unfold down
    have := down_lt bs v n
    split <;> omega
/-- what it is: none between is lower -/
theorem down_between (bs : List Int) (v : Int) : ∀ (n k : Nat), k < n → down bs v n < k → v ≤ g bs k
  | 0, k, h, _ => by omega
  | n + 1, k, h, h2 => by
    unfold down at h2
    by_cases c : v ≤ g bs n
    · rw [if_pos c] at h2
      by_cases e : k = n
      · subst e; exact c
      · exact down_between bs v n k (by omega) h2
    · rw [if_neg c] at h2
      omega
theorem down_low (bs : List Int) (v : Int) : ∀ (n k : Nat), down bs v n = (k : Int) → g bs k < v
  | 0, k, h => by unfold down at h; omega
  | n + 1, k, h => by
    unfold down at h
    by_cases c : v ≤ g bs n
    · rw [if_pos c] at h
      exact down_low bs v n k h
    · rw [if_neg c] at h
      have e : n = k := by omega
      subst e
      omega
theorem down_step {bs : List Int} {v : Int} {n : Nat} (h : v ≤ g bs n) : down bs v (n + 1) = down bs v n := if_pos h
theorem down_stop {bs : List Int} {v : Int} {n : Nat} (h : g bs n < v) : down bs v (n + 1) = (n : Int) := if_neg (by omega)
/-- it is told by its marks -/
theorem down_of {bs : List Int} {v : Int} {n : Nat} {d : Int} (h1 : -1 ≤ d) (h2 : d < n) (h3 : 0 ≤ d → g bs d.toNat < v) (h4 : ∀ k : Nat, d < k → k < n → v ≤ g bs k) : down bs v n = d := by
  induction n with
  | zero => unfold down; omega
  | succ n ih =>
    by_cases c : d = n
    · have := h3 (by omega)
      have e : d.toNat = n := by omega
      rw [e] at this
      rw [down_stop this, c]
    · rw [down_step (h4 n (by omega) (by omega))]
      exact ih (by omega) fun k a b => h4 k a (by omega)
def link (bs : List Int) (i : Nat) : Int := down bs (g bs i) i
def links (bs : List Int) : List Int := (List.range bs.length).map (link bs)
theorem links_len (bs : List Int) : (links bs).length = bs.length := by simp [links]
theorem links_at {bs : List Int} {i : Nat} (h : i < bs.length) : (links bs).getD i 0 = link bs i := by simp [links, h]
theorem take_map_range {α : Type} (f : Nat → α) : ∀ {n i : Nat}, i < n → ((List.range n).map f).take (i + 1) = ((List.range n).map f).take i ++ [f i] := fun {n i} h => by
  rw [List.take_add_one, List.getElem?_map, List.getElem?_range h]
  rfl
theorem take_map_all {α : Type} (f : Nat → α) (n : Nat) : ((List.range n).map f).take n = (List.range n).map f := List.take_of_length_le (by simp)
/-! ### the stack -/
def hd : List Nat → Int
  | [] => -1
  | j :: _ => (j : Int)
def pop (bs : List Int) (v : Int) (st : List Nat) : List Nat := st.dropWhile fun j => decide (v ≤ g bs j)
theorem pop_nil (bs : List Int) (v : Int) : pop bs v [] = [] := rfl
theorem pop_yes {bs : List Int} {v : Int} {j : Nat} {st : List Nat} (h : v ≤ g bs j) : pop bs v (j :: st) = pop bs v st := by simp [pop, List.dropWhile_cons, h]
theorem pop_no {bs : List Int} {v : Int} {j : Nat} {st : List Nat} (h : g bs j < v) : pop bs v (j :: st) = j :: st := by
  have : ¬ v ≤ g bs j := by omega
  simp [pop, List.dropWhile_cons, this]
theorem pop_sub (bs : List Int) (v : Int) : ∀ (st : List Nat) {j : Nat}, j ∈ pop bs v st → j ∈ st
  | [], j, h => by simp [pop] at h
  | k :: st, j, h => by
    by_cases c : v ≤ g bs k
    · rw [pop_yes c] at h
      exact List.mem_cons_of_mem _ (pop_sub bs v st h)
    · rw [pop_no (by omega)] at h
      exact h
theorem pop_pop {bs : List Int} {v u : Int} (h : v ≤ u) : ∀ st : List Nat, pop bs v (pop bs u st) = pop bs v st
  | [] => rfl
  | k :: st => by
    by_cases c : u ≤ g bs k
    · rw [pop_yes c, pop_yes (by omega : v ≤ g bs k)]
      exact pop_pop h st
    · rw [pop_no (show g bs k < u by omega)]
structure SInv (bs : List Int) (i : Nat) (st : List Nat) : Prop where
  dn : ∀ v, down bs v i = hd (pop bs v st)
  lt : ∀ j ∈ st, j < i
theorem sinv0 (bs : List Int) : SInv bs 0 [] := ⟨fun _ => rfl, by simp⟩
theorem SInv.step {bs : List Int} {i : Nat} {st : List Nat} (h : SInv bs i st) : SInv bs (i + 1) (i :: pop bs (g bs i) st) := by
  refine ⟨fun v => ?_, fun j hj => ?_⟩
  · by_cases c : v ≤ g bs i
    · rw [down_step c, pop_yes c, pop_pop c]
      exact h.dn v
    · rw [down_stop (by omega), pop_no (by omega)]
      rfl
  · rcases List.mem_cons.mp hj with e | e
    · omega
    · have := h.lt j (pop_sub _ _ _ e)
      omega
/-- the stack as a list, its top last -/
def stI (st : List Nat) : List Int := st.reverse.map fun (n : Nat) => (n : Int)
theorem stI_cons (j : Nat) (st : List Nat) : stI (j :: st) = stI st ++ [(j : Int)] := by simp [stI]
theorem stI_nil : stI [] = [] := rfl
theorem stI_len (st : List Nat) : (stI st).length = st.length := by simp [stI]
theorem stI_cons_ne (j : Nat) (st : List Nat) : stI (j :: st) ≠ [] := by simp [stI]
/-! ### behind -/
def behind (bs : List Int) (i : Nat) : Int := (bs.length : Int) - 1 - link bs.reverse (bs.length - 1 - i)
def behinds (bs : List Int) : List Int := (List.range bs.length).map (behind bs)
theorem behinds_len (bs : List Int) : (behinds bs).length = bs.length := by simp [behinds]
theorem behinds_at {bs : List Int} {i : Nat} (h : i < bs.length) : (behinds bs).getD i 0 = behind bs i := by simp [behinds, h]
theorem behinds_eq (bs : List Int) : ((links bs.reverse).map fun p => (bs.length : Int) - 1 - p).reverse = behinds bs := by
  apply List.ext_getElem?
  intro i
  by_cases h : i < bs.length
  · rw [List.getElem?_reverse (by simpa [links] using h)]
    simp only [links, behinds, List.length_map, List.length_range, List.length_reverse, List.getElem?_map]
    rw [List.getElem?_range (by omega), List.getElem?_range h]
    rfl
  · rw [List.getElem?_eq_none (by simp [links]; omega), List.getElem?_eq_none (by simp [behinds]; omega)]
def reach (bs : List Int) (i : Nat) : Int × Int := (link bs i + 1, behind bs i - 1)
def reachL (bs : List Int) : List (Int × Int) := (List.range bs.length).map (reach bs)
theorem reachL_len (bs : List Int) : (reachL bs).length = bs.length := by simp [reachL]
/-- reaches of the bars told backwards -/
theorem reach_rev {bs : List Int} {i : Nat} (h : i < bs.length) : reach bs.reverse i = ((bs.length : Int) - 1 - (reach bs (bs.length - 1 - i)).2, (bs.length : Int) - 1 - (reach bs (bs.length - 1 - i)).1) := by
  unfold reach behind
  simp only [List.length_reverse, List.reverse_reverse]
  have e : bs.length - 1 - (bs.length - 1 - i) = i := by omega
  rw [e]
  refine Prod.ext ?_ ?_ <;> simp only <;> omega
theorem reachL_rev (bs : List Int) : reachL bs.reverse = (reachL bs).reverse.map fun p => ((bs.length : Int) - 1 - p.2, (bs.length : Int) - 1 - p.1) := by
  apply List.ext_getElem?
  intro i
  by_cases h : i < bs.length
  · rw [List.getElem?_map, List.getElem?_reverse (by simpa [reachL] using h)]
    simp only [reachL, List.length_map, List.length_range, List.length_reverse, List.getElem?_map]
    rw [List.getElem?_range h, List.getElem?_range (by omega)]
    show some (reach bs.reverse i) = _
    rw [reach_rev h]
    rfl
  · rw [List.getElem?_eq_none (by simp [reachL]; omega), List.getElem?_eq_none (by simp [reachL]; omega)]
/-- bounds of a reach -/
theorem link_lt (bs : List Int) (i : Nat) : link bs i < i := down_lt _ _ _
theorem link_ge (bs : List Int) (i : Nat) : -1 ≤ link bs i := down_ge _ _ _
theorem behind_gt {bs : List Int} {i : Nat} (h : i < bs.length) : (i : Int) < behind bs i := by
  have := link_lt bs.reverse (bs.length - 1 - i)
  unfold behind
  omega
theorem behind_le {bs : List Int} (i : Nat) : behind bs i ≤ bs.length := by
  have := link_ge bs.reverse (bs.length - 1 - i)
  unfold behind
  omega
/-! ### the highest so far (-1 ahead of the first) -/
def pmax (bs : List Int) : Nat → Int
  | 0 => -1
  | n + 1 => if pmax bs n < g bs n then g bs n else pmax bs n
def shownL (bs : List Int) (n : Nat) : List Int := ((List.range n).filter fun i => decide (pmax bs i < g bs i)).map fun (i : Nat) => (i : Int)
theorem shown_yes {bs : List Int} {n : Nat} (h : pmax bs n < g bs n) : shownL bs (n + 1) = shownL bs n ++ [(n : Int)] := by
  unfold shownL
  rw [List.range_succ, List.filter_append, List.map_append]
  simp [h]
theorem shown_no {bs : List Int} {n : Nat} (h : ¬ pmax bs n < g bs n) : shownL bs (n + 1) = shownL bs n := by
  unfold shownL
  rw [List.range_succ, List.filter_append, List.map_append]
  simp [h]
theorem shown_len (bs : List Int) : ∀ n, (shownL bs n).length ≤ n
  | 0 => Nat.le_refl _
  | n + 1 => by
    have := shown_len bs n
    by_cases h : pmax bs n < g bs n
    · rw [shown_yes h, List.length_append]
      simp
      omega
    · rw [shown_no h]
      omega
theorem pmax_ge (bs : List Int) : ∀ n, -1 ≤ pmax bs n
  | 0 => Int.le_refl _
  | n + 1 => by
    have := pmax_ge bs n
    unfold pmax
    split <;> omega
theorem pmax_all (bs : List Int) : ∀ n k, k < n → g bs k ≤ pmax bs n
  | 0, k, h => by omega
  | n + 1, k, h => by
    unfold pmax
    by_cases e : k = n
    · subst e
      split <;> omega
    · have := pmax_all bs n k (by omega)
      split <;> omega
theorem pmax_is (bs : List Int) : ∀ n, pmax bs n = -1 ∨ ∃ k, k < n ∧ pmax bs n = g bs k
  | 0 => .inl rfl
  | n + 1 => by
    unfold pmax
    split
    · exact .inr ⟨n, by omega, rfl⟩
    · rcases pmax_is bs n with h | ⟨k, h1, h2⟩
      · exact .inl h
      · exact .inr ⟨k, by omega, h2⟩
/-- the greatest of the first n, as max(.., default=-1) tells it -/
theorem pmax_of {bs : List Int} (hg : Good bs) {n : Nat} (hn : n ≤ bs.length) {m : Int} (h1 : m ∈ bs.take n) (h2 : ∀ y ∈ bs.take n, y ≤ m) : m = pmax bs n := by
  obtain ⟨k, hk, e⟩ := List.getElem_of_mem h1
  rw [List.length_take] at hk
  rw [List.getElem_take] at e
  have e1 : g bs k = m := by simp [g, show k < bs.length by omega, e]
  have a := pmax_all bs n k (by omega)
  have hm := hg.at (show k < bs.length by omega)
  rcases pmax_is bs n with h | ⟨j, hj, h⟩
  · omega
  · have hj2 : j < bs.length := by omega
    have mem : g bs j ∈ bs.take n := by
      have : bs[j] ∈ bs.take n := by
        rw [List.mem_take_iff_getElem]
        exact ⟨j, by omega, rfl⟩
      simpa [g, hj2] using this
    have := h2 _ mem
    omega
theorem g_map {f : Nat → Int} {n i : Nat} (h : i < n) : g ((List.range n).map f) i = f i := by simp [g, h]
end Sky

/-! Rq: the answers: one lemma for what is left at each operation; loops; comprehensions. -/
namespace Sky
open PySem PySem.Spec PyProof.Rows L2
def rNewL : List V → Hp → VK → Prop := fun vs H Q => vs.length ≤ sizeLine ∧ ∀ p, H p = none → Q (.ref p) (upd H p (.lst vs))
def rNewT : List V → Hp → VK → Prop := fun vs H Q => vs.length ≤ sizeLine ∧ ∀ p, H p = none → Q (.ref p) (upd H p (.tup vs))
section
variable {σ : L2.St} {H : Hp} {Q : VK} {tl : TA} {K : PySem.W.Frag} {te : TE}
theorem e_lst : tLst tl σ H Q = tl σ H (fun vs H1 => rNewL vs H1 Q) := rfl
theorem e_tup : tTup tl σ H Q = tl σ H (fun vs H1 => rNewT vs H1 Q) := rfl
theorem e_rev : tRevL K te σ H Q = te σ H (fun x H1 => ∃ a, x = .ref a ∧ ∃ xs, SqL K H1 a xs ∧ ∀ p, H1 p = none → Q (.ref p) (upd H1 p (.lst xs.reverse))) := by
  unfold tRevL
  congr 1
  funext x H1
  apply propext
  constructor
  · rintro ⟨a, xs, h1, h2, h3⟩; exact ⟨a, h1, xs, h2, h3⟩
  · rintro ⟨a, h1, xs, h2, h3⟩; exact ⟨a, xs, h1, h2, h3⟩
end
/-- tuples stand for ever -/
def Tk (H H' : Hp) : Prop := ∀ b xs, H b = some (.tup xs) → H' b = some (.tup xs)
theorem same_tk {H H' : Hp} (s : Same H H') : Tk H H' := fun b xs e => s b _ e
theorem Tk.trans {H H1 H2 : Hp} (a : Tk H H1) (b : Tk H1 H2) : Tk H H2 := fun c xs e => b c xs (a c xs e)
theorem tk_upd {H : Hp} {p : Addr} {xs ys : List V} (h : H p = some (.lst xs)) : Tk H (upd H p (.lst ys)) := fun b zs e => by
  rw [upd_ne (ne_of e h (by intro z; cases z))]
  exact e
section
variable {σ : L2.St} {H : Hp} {Q : VK} {K : PySem.W.Frag} {a b p : Addr} {l m : List Int} {xs : List V} {i : Int} {j : Nat} {x y : V}
theorem q_newL (q : ∀ p, H p = none → Q (.ref p) (upd H p (.lst xs))) (h : xs.length ≤ 100000 := by simp) : rNewL xs H Q := ⟨sz_of h, q⟩
theorem q_newT (q : ∀ p, H p = none → Q (.ref p) (upd H p (.tup xs))) (h : xs.length ≤ 100000 := by simp) : rNewT xs H Q := ⟨sz_of h, q⟩
/-- compared with a new [] -/
theorem q_neN (h : SqL K H a (ivs l)) (q : ∀ H', Same H H' → Q (.bl (!decide (l = []))) H') : rNewL [] H fun x H1 => rNeD K (.ref a) x H1 Q :=
  ⟨sz_of (by decide), fun p np => q_neL (m := []) ((same_new np).seq h) (SqL.of upd_same) (q _ (same_new np))⟩
theorem q_eqN (h : SqL K H a (ivs l)) (q : ∀ H', Same H H' → Q (.bl (decide (l = []))) H') : rNewL [] H fun x H1 => rEqD K (.ref a) x H1 Q :=
  ⟨sz_of (by decide), fun p np => q_eqL (m := []) ((same_new np).seq h) (SqL.of upd_same) (q _ (same_new np))⟩
theorem q_ixL (h : SqL K H a (ivs l)) (e : i = (j : Int)) (hj : j < l.length) (q : Q (.int (g l j)) H) : rIxL K (.ref a) (.int i) H Q := ⟨a, _, i, _, rfl, rfl, h, at_ivs e hj, q⟩
theorem q_ix1 (h : SqL K H a (ivs (l ++ [i]))) (q : Q (.int i) H) : rIxL K (.ref a) (.int (-1)) H Q :=
  ⟨a, _, -1, _, rfl, rfl, h, by rw [show ivs (l ++ [i]) = ivs l ++ [V.int i] by simp [ivs]]; exact atI_last _ _, q⟩
theorem q_ixV (h : SqL K H a xs) (e : i = (j : Int)) (hx : xs[j]? = some x) (q : Q x H) : rIxL K (.ref a) (.int i) H Q := ⟨a, _, i, _, rfl, rfl, h, at_of e hx, q⟩
theorem q_ixT (h : SqT K H a xs) (e : i = (j : Int)) (hx : xs[j]? = some x) (q : Q x H) : rIxT K (.ref a) (.int i) H Q := ⟨a, _, i, _, rfl, rfl, h, at_of e hx, q⟩
theorem q_len (h : SqL K H a xs) (q : Q (.int (xs.length : Nat)) H) : rLenK K [.ref a] H Q := ⟨a, _, rfl, .inl h, q⟩
theorem q_lenI (h : SqL K H a (ivs l)) (q : Q (.int (l.length : Nat)) H) : rLenK K [.ref a] H Q := ⟨a, _, rfl, .inl h, by rw [len_ivs]; exact q⟩
theorem q_list (h : SqL K H a xs) (q : ∀ p, H p = none → Q (.ref p) (upd H p (.lst xs))) : rListK K [.ref a] H Q := ⟨a, _, rfl, .inl h, q⟩
theorem q_listT (h : SqT K H a xs) (q : ∀ p, H p = none → Q (.ref p) (upd H p (.lst xs))) : rListK K [.ref a] H Q := ⟨a, _, rfl, .inr h, q⟩
theorem q_app (h : H a = some (.lst xs)) (hz : xs.length < 100000) (q : Q .non (upd H a (.lst (xs ++ [y])))) : tyV K "list" (.ref a) H ∧ rAppend (.ref a) [y] H Q := ⟨.inl ⟨rfl, _, SqL.of h⟩, a, xs, y, rfl, rfl, h, sz_lt hz, q⟩
theorem q_pop (h : H a = some (.lst (xs ++ [y]))) (q : Q y (upd H a (.lst xs))) : tyV K "list" (.ref a) H ∧ rPop (.ref a) [] H Q :=
  ⟨.inl ⟨rfl, _, SqL.of h⟩, a, xs ++ [y], y, rfl, rfl, h, by simp, by rw [List.dropLast_concat]; exact q⟩
theorem q_sum (h : SqL K H a (ivs l)) (q : Q (.int l.sum) H) : rSum K [.ref a] H Q := ⟨a, l, rfl, h, q⟩
theorem q_max (h : SqL K H a (ivs l)) (hl : 0 < l.length) (q : ∀ m, m ∈ l → (∀ y, y ∈ l → y ≤ m) → Q (.int m) H) : rMax K [.ref a] H Q := ⟨a, l, rfl, h, hl, q⟩
theorem q_min (h : SqL K H a (ivs l)) (hl : 0 < l.length) (q : ∀ m, m ∈ l → (∀ y, y ∈ l → m ≤ y) → Q (.int m) H) : rMin K [.ref a] H Q := ⟨a, l, rfl, h, hl, q⟩
theorem q_maxD {d : Int} (h : SqL K H a (ivs l)) (q0 : l = [] → Q (.int d) H) (q : ∀ m, m ∈ l → (∀ y, y ∈ l → y ≤ m) → Q (.int m) H) : rMaxD K [.ref a] [.int d] H Q := ⟨a, l, d, rfl, rfl, h, q0, q⟩
theorem q_all {bs : List Bool} (h : SqL K H a (bs.map V.bl)) (q : Q (.bl (bs.all id)) H) : rAll K [.ref a] H Q := ⟨a, bs, rfl, h, q⟩
theorem q_any {bs : List Bool} (h : SqL K H a (bs.map V.bl)) (q : Q (.bl (bs.any id)) H) : rAny K [.ref a] H Q := ⟨a, bs, rfl, h, q⟩
theorem q_setL {QS : Hp → Prop} (h : H a = some (.lst xs)) (e : i = (j : Int)) (hj : j < xs.length) (q : QS (upd H a (.lst (xs.set j x)))) : rSetL (.ref a) (.int i) x H QS :=
  ⟨a, xs, i, j, rfl, rfl, h, by rw [e]; unfold ixN; rw [if_pos (by omega), if_pos (by omega)]; simp, q⟩
end
/-! ### loops -/
section
variable {σ : L2.St} {H : Hp} {K : PySem.W.Frag} {a : Addr} {xs : List V} {tl : TA} {te : TE} {tb : TS} {D : Ends} {j k : Nat} {c : TT}
theorem q_forE (ha : ∀ R, R [V.ref a] H → tl σ H R) (Pv : Nat → L2.St → Hp → Prop) (h0 : Pv 0 σ H) (hq : ∀ i σ H, Pv i σ H → SqL K H a xs)
    (hs : ∀ (i : Nat) (x : V) (σ : L2.St) (H H' : Hp), xs[i]? = some x → Pv i σ H → Same H H' → tb { D with nx := Pv (i + 1), ct := Pv (i + 1), bk := D.nx } ((σ.set j (some (.int (i : Int)))).set k (some x)) H') (hd : ∀ σ H, Pv xs.length σ H → D.nx σ H) :
    tFor (iEnum K tl) (g2 K j k) tb D σ H := ha _ ⟨a, xs, rfl, hq 0 σ H h0, for_enum2 Pv h0 hq hs hd⟩
theorem q_forL (ha : ∀ R : VK, R (V.ref a) H → te σ H R) (Pv : Nat → L2.St → Hp → Prop) (h0 : Pv 0 σ H) (hq : ∀ i σ H, Pv i σ H → SqL K H a xs)
    (hs : ∀ (i : Nat) (x : V) (σ : L2.St) (H : Hp), xs[i]? = some x → Pv i σ H → tb { D with nx := Pv (i + 1), ct := Pv (i + 1), bk := D.nx } (σ.set j (some x)) H) (hd : ∀ σ H, Pv xs.length σ H → D.nx σ H) :
    tFor (iList K te) (gName j) tb D σ H := ha _ ⟨a, rfl, ⟨xs, hq 0 σ H h0⟩, for_list Pv h0 (fun i σ H _ p => hq i σ H p) hs hd⟩
theorem q_forR {n : Nat} (ha : ∀ R, R [V.int (n : Int)] H → tl σ H R) (hn : n ≤ 100000) (Pv : Nat → L2.St → Hp → Prop) (h0 : Pv 0 σ H)
    (hs : ∀ (i : Nat) (σ : L2.St) (H : Hp), i < n → Pv i σ H → tb { D with nx := Pv (i + 1), ct := Pv (i + 1), bk := D.nx } (σ.set j (some (.int (i : Int)))) H) (hd : ∀ σ H, Pv n σ H → D.nx σ H) :
    tFor (iRng1 tl) (gName j) tb D σ H := ha _ ⟨n, rfl, by omega, by omega, by
      rw [Int.toNat_natCast]
      exact for_range (lo := 0) (n := n) Pv h0 (fun i σ' H' hi p => by
        show tb { D with nx := Pv (i + 1), ct := Pv (i + 1), bk := D.nx } (σ'.set j (some (.int ((0 : Int) + (i : Int))))) H'
        rw [Int.zero_add]
        exact hs i σ' H' hi p) hd⟩
theorem q_forR2 {lo n : Nat} (ha : ∀ R, R [V.int (lo : Int), V.int (n : Int)] H → tl σ H R) (hn : lo ≤ n ∧ n ≤ 100000) (Pv : Nat → L2.St → Hp → Prop) (h0 : Pv lo σ H)
    (hs : ∀ (i : Nat) (σ : L2.St) (H : Hp), lo ≤ i → i < n → Pv i σ H → tb { D with nx := Pv (i + 1), ct := Pv (i + 1), bk := D.nx } (σ.set j (some (.int (i : Int)))) H) (hd : ∀ σ H, Pv n σ H → D.nx σ H) :
    tFor (iRng2 tl) (gName j) tb D σ H := ha _ ⟨lo, n, rfl, ⟨by omega, by omega, by omega, by omega⟩, by
      have e : ((n : Int) - (lo : Int)).toNat = n - lo := by omega
      rw [e]
      exact for_range (lo := (lo : Int)) (n := n - lo) (fun i => Pv (lo + i)) h0 (fun i σ' H' hi p => by
        show tb { D with nx := Pv (lo + i + 1), ct := Pv (lo + i + 1), bk := D.nx } (σ'.set j (some (.int ((lo : Int) + (i : Int))))) H'
        rw [show (lo : Int) + (i : Int) = ((lo + i : Nat) : Int) by omega]
        exact hs (lo + i) σ' H' (by omega) (by omega) p) (fun σ' H' p => by
          have p : Pv (lo + (n - lo)) σ' H' := p
          rw [show lo + (n - lo) = n by omega] at p
          exact hd σ' H' p)⟩
theorem q_while (W : Nat → L2.St → Hp → Prop) (h0 : ∃ m, W m σ H) (hs : ∀ m σ H, W m σ H → c σ H fun b H1 => if b = true then ∃ N : L2.St → Hp → Prop, (∀ σ' H', N σ' H' → ∃ m', m' < m ∧ W m' σ' H') ∧ tb { D with nx := N, ct := N, bk := D.nx } σ H1 else D.nx σ H1) : tWhile c tb D σ H := ⟨W, h0, hs⟩
end
/-! ### comprehensions: P tells of the i-th value -/
section
variable {σ : L2.St} {H : Hp} {K : PySem.W.Frag} {a b : Addr} {xs ys : List V} {tl : TA} {tx te : TE} {Q : VK} {j k : Nat} {vs : List Nat} {gt : TG}
/-- what stands of the list at D behind i turns -/
def Lc (P : Nat → V → Hp → Prop) (H : Hp) (D : Addr) (i : Nat) (H' : Hp) : Prop := H D = none ∧ Same H H' ∧ ∃ acc, H' D = some (.lst acc) ∧ acc.length = i ∧ ∀ m v, acc[m]? = some v → P m v H'
theorem lc_zero (P : Nat → V → Hp → Prop) {D : Addr} (h : H D = none) : Lc P H D 0 (upd H D (.lst [])) := ⟨h, same_new h, [], upd_same, rfl, fun m v e => by simp at e⟩
theorem lc_more {P : Nat → V → Hp → Prop} (mono : ∀ i v H1 H2, P i v H1 → Tk H1 H2 → P i v H2) {D : Addr} {i : Nat} {H1 H2 : Hp} {y : V} (h : Lc P H D i H1) (hi : i < 100000) (s : Same H1 H2) (p : P i y H2) :
    ∃ acc, H2 D = some (.lst acc) ∧ acc.length < sizeLine ∧ Lc P H D (i + 1) (upd H2 D (.lst (acc ++ [y]))) := by
  obtain ⟨h1, h2, acc, h3, h4, h5⟩ := h
  have e := s _ _ h3
  have tk := tk_upd (ys := acc ++ [y]) e
  refine ⟨acc, e, by rw [h4]; exact sz_lt hi, h1, same_mut (h2.trans s) h1, acc ++ [y], upd_same, by rw [List.length_append, h4]; rfl, fun m v hm => ?_⟩
  by_cases c : m < i
  · rw [List.getElem?_append_left (by omega)] at hm
    exact mono _ _ _ _ (h5 m v hm) (Tk.trans (same_tk s) tk)
  · have e2 : m = i := by
      have := (List.getElem?_eq_some_iff.mp hm).1
      rw [List.length_append, h4] at this
      simp at this
      omega
    subst e2
    rw [List.getElem?_append_right (by omega), h4] at hm
    simp at hm
    subst hm
    exact mono _ _ _ _ p tk
abbrev LcEnd (P : Nat → V → Hp → Prop) (H : Hp) (n : Nat) (Q : VK) : Prop := ∀ D H' acc, H D = none → Same H H' → H' D = some (.lst acc) → acc.length = n → (∀ i v, acc[i]? = some v → P i v H') → Q (.ref D) H'
theorem q_lcR {n : Nat} (P : Nat → V → Hp → Prop) (ha : ∀ R, R [V.int (n : Int)] H → tl σ H R) (hn : n ≤ 50000) (hw : ∀ x, wipe ((wipe σ vs).set j (some x)) vs = wipe σ vs) (mono : ∀ i v H1 H2, P i v H1 → Tk H1 H2 → P i v H2)
    (he : ∀ (i : Nat) (H' : Hp) (Q' : VK), i < n → Same H H' → (∀ v H'', Same H' H'' → P i v H'' → Q' v H'') → te ((wipe σ vs).set j (some (.int (i : Int)))) H' Q') (q : LcEnd P H n Q) :
    tLc (iRng1 tl) (gName j) tYes te vs σ H Q := ha _ ⟨n, rfl, by omega, by omega, fun D hD => by
      rw [Int.toNat_natCast]
      refine lc_range (lo := 0) (n := n) (Lc P H D) (lc_zero P hD) (fun i H' hi p => ?_) (fun H' p => ?_)
      · show wipe ((wipe σ vs).set j (some (.int ((0 : Int) + (i : Int))))) vs = wipe σ vs ∧ tYes ((wipe σ vs).set j (some (.int ((0 : Int) + (i : Int))))) H' fun b H3 => if b = true then te ((wipe σ vs).set j (some (.int ((0 : Int) + (i : Int))))) H3 fun y H4 => ∃ acc, H4 D = some (.lst acc) ∧ acc.length < sizeLine ∧ Lc P H D (i + 1) (upd H4 D (.lst (acc ++ [y]))) else Lc P H D (i + 1) H3
        rw [Int.zero_add]
        refine ⟨hw _, ?_⟩
        simp only [e_yes, if_true]
        exact he i H' _ hi p.2.1 fun v H'' s pv => lc_more mono p (by omega) s pv
      · obtain ⟨h1, h2, acc, h3, h4, h5⟩ := p
        exact q D H' acc h1 h2 h3 h4 h5⟩
theorem q_lcL (P : Nat → V → Hp → Prop) (ha : ∀ R : VK, R (V.ref a) H → tx σ H R) (hx : SqL K H a xs) (hn : xs.length ≤ 50000) (hw : ∀ x, wipe ((wipe σ vs).set j (some x)) vs = wipe σ vs) (mono : ∀ i v H1 H2, P i v H1 → Tk H1 H2 → P i v H2)
    (he : ∀ (i : Nat) (x : V) (H' : Hp) (Q' : VK), xs[i]? = some x → Same H H' → (∀ v H'', Same H' H'' → P i v H'' → Q' v H'') → te ((wipe σ vs).set j (some x)) H' Q') (q : LcEnd P H xs.length Q) :
    tLc (iList K tx) (gName j) tYes te vs σ H Q := ha _ ⟨a, rfl, ⟨xs, hx⟩, fun D hD => by
      refine lc_list (xs := xs) (Lc P H D) (lc_zero P hD) (fun i H' _ p => p.2.1.seq hx) (fun i x H' hi p => ?_) (fun H' p => ?_)
      · have lt := (List.getElem?_eq_some_iff.mp hi).1
        refine ⟨hw _, ?_⟩
        simp only [e_yes, if_true, e_name]
        exact he i x H' _ hi p.2.1 fun v H'' s pv => lc_more mono p (by omega) s pv
      · obtain ⟨h1, h2, acc, h3, h4, h5⟩ := p
        exact q D H' acc h1 h2 h3 h4 h5⟩
/-- over a list that is made for it -/
theorem q_lcN {xs : List V} (P : Nat → V → Hp → Prop) (ha : ∀ R : VK, (∀ b H1, H b = none → Same H H1 → H1 b = some (.lst xs) → R (V.ref b) H1) → tx σ H R) (hn : xs.length ≤ 50000) (hw : ∀ x, wipe ((wipe σ vs).set j (some x)) vs = wipe σ vs) (mono : ∀ i v H1 H2, P i v H1 → Tk H1 H2 → P i v H2)
    (he : ∀ (i : Nat) (x : V) (H' : Hp) (Q' : VK), xs[i]? = some x → Same H H' → (∀ v H'', Same H' H'' → P i v H'' → Q' v H'') → te ((wipe σ vs).set j (some x)) H' Q') (q : LcEnd P H xs.length Q) :
    tLc (iList K tx) (gName j) tYes te vs σ H Q := ha _ fun b H1 nb s1 hb => ⟨b, rfl, ⟨xs, SqL.of hb⟩, fun D hD => by
      refine lc_list (xs := xs) (Lc P H1 D) (lc_zero P hD) (fun i H' _ p => p.2.1.seq (SqL.of hb)) (fun i x H' hi p => ?_) (fun H' p => ?_)
      · have lt := (List.getElem?_eq_some_iff.mp hi).1
        refine ⟨hw _, ?_⟩
        simp only [e_yes, if_true, e_name]
        exact he i x H' _ hi (s1.trans p.2.1) fun v H'' s pv => lc_more mono p (by omega) s pv
      · obtain ⟨h1, h2, acc, h3, h4, h5⟩ := p
        exact q D H' acc (s1.free h1) (s1.trans h2) h3 h4 h5⟩
end
/-- the values told one by one -/
theorem acc_ivs {acc : List V} {n : Nat} {f : Nat → Int} (hl : acc.length = n) (h : ∀ i v, acc[i]? = some v → v = V.int (f i)) : acc = ivs ((List.range n).map f) := by
  apply List.ext_getElem?
  intro i
  by_cases c : i < n
  · rw [List.getElem?_eq_getElem (by omega)]
    have := h i acc[i] (List.getElem?_eq_getElem (by omega))
    rw [this]
    simp [ivs, c]
  · rw [List.getElem?_eq_none (by omega), List.getElem?_eq_none (by simp [ivs]; omega)]
theorem acc_bls {acc : List V} {n : Nat} {f : Nat → Bool} (hl : acc.length = n) (h : ∀ i v, acc[i]? = some v → v = V.bl (f i)) : acc = ((List.range n).map f).map V.bl := by
  apply List.ext_getElem?
  intro i
  by_cases c : i < n
  · rw [List.getElem?_eq_getElem (by omega)]
    have := h i acc[i] (List.getElem?_eq_getElem (by omega))
    rw [this]
    simp [c]
  · rw [List.getElem?_eq_none (by omega), List.getElem?_eq_none (by simp; omega)]
end Sky
/-! ### lists of pairs of whole numbers -/
namespace Sky
open PySem PySem.Spec PyProof.Rows L2
def PrAt (ab : Int × Int) (v : V) (H : Hp) : Prop := ∃ t, v = .ref t ∧ H t = some (.tup [.int ab.1, .int ab.2])
theorem PrAt.mono {ab : Int × Int} {v : V} {H H' : Hp} (h : PrAt ab v H) (k : Tk H H') : PrAt ab v H' := by
  obtain ⟨t, e, h⟩ := h
  exact ⟨t, e, k _ _ h⟩
inductive Prs (H : Hp) : List (Int × Int) → List V → Prop
  | nil : Prs H [] []
  | cons {ab : Int × Int} {v : V} {l : List (Int × Int)} {vs : List V} : PrAt ab v H → Prs H l vs → Prs H (ab :: l) (v :: vs)
theorem Prs.mono {H H' : Hp} (k : Tk H H') : ∀ {l : List (Int × Int)} {vs : List V}, Prs H l vs → Prs H' l vs
  | _, _, .nil => .nil
  | _, _, .cons a r => .cons (a.mono k) (Prs.mono k r)
theorem Prs.len {H : Hp} : ∀ {l : List (Int × Int)} {vs : List V}, Prs H l vs → vs.length = l.length
  | _, _, .nil => rfl
  | _, _, .cons _ r => congrArg Nat.succ (Prs.len r)
theorem Prs.at {H : Hp} {l : List (Int × Int)} {vs : List V} (p : Prs H l vs) : ∀ {i : Nat} {v : V}, vs[i]? = some v → ∃ ab, l[i]? = some ab ∧ PrAt ab v H := by
  induction p with
  | nil => intro i v h; simp at h
  | cons a r ih =>
    intro i v h
    cases i with
    | zero =>
      simp at h
      subst h
      exact ⟨_, rfl, a⟩
    | succ i =>
      obtain ⟨ab, h1, h2⟩ := ih (i := i) (v := v) (by simpa using h)
      exact ⟨ab, by simpa using h1, h2⟩
theorem Prs.app {H : Hp} {ab : Int × Int} {v : V} (a : PrAt ab v H) : ∀ {l : List (Int × Int)} {vs : List V}, Prs H l vs → Prs H (l ++ [ab]) (vs ++ [v])
  | _, _, .nil => .cons a .nil
  | _, _, .cons b r => .cons b (Prs.app a r)
theorem Prs.rev {H : Hp} : ∀ {l : List (Int × Int)} {vs : List V}, Prs H l vs → Prs H l.reverse vs.reverse
  | _, _, .nil => .nil
  | _, _, .cons a r => by
    rw [List.reverse_cons, List.reverse_cons]
    exact Prs.app a (Prs.rev r)
theorem Prs.of {H : Hp} {f : Nat → Int × Int} : ∀ {n : Nat} {vs : List V}, vs.length = n → (∀ i v, vs[i]? = some v → PrAt (f i) v H) → Prs H ((List.range n).map f) vs := by
  intro n
  induction n with
  | zero =>
    intro vs hl _
    have e : vs = [] := List.eq_nil_of_length_eq_zero hl
    subst e
    exact .nil
  | succ n ih =>
    intro vs hl h
    have hne : vs ≠ [] := by
      intro e
      subst e
      simp at hl
    obtain ⟨ini, la, rfl⟩ : ∃ ini la, vs = ini ++ [la] := ⟨_, _, (List.dropLast_concat_getLast hne).symm⟩
    have l2 : ini.length = n := by simpa using hl
    rw [List.range_succ, List.map_append]
    refine Prs.app ?_ (ih l2 fun i v hv => ?_)
    · refine h n la ?_
      rw [List.getElem?_append_right (by omega)]
      simp [l2]
    · have lt := (List.getElem?_eq_some_iff.mp hv).1
      refine h i v ?_
      rw [List.getElem?_append_left lt]
      exact hv
def prd (p : Int × Int) : PyData := .tuple [.int p.1, .int p.2]
theorem prd_lay : ∀ l : List (Int × Int), PyData.canLayAll0 (l.map prd) = true
  | [] => rfl
  | p :: r => by simp [PyData.canLayAll0, PyData.canLay0, prd, prd_lay r]
theorem prd_depth : ∀ l : List (Int × Int), PyData.depthAll (l.map prd) ≤ 1
  | [] => by simp [PyData.depthAll]
  | p :: r => by
    have := prd_depth r
    simp only [List.map_cons, PyData.depthAll, prd, PyData.depth]
    omega
theorem prd_shaped (l : List (Int × Int)) : SeqAt.shaped (.list (l.map prd)) = true := by
  have d := prd_depth l
  have d2 : PyData.depth (.list (l.map prd)) ≤ 64 := by
    simp only [PyData.depth]
    omega
  have d3 : PyData.canLay0 (.list (l.map prd)) = true := by
    simp only [PyData.canLay0]
    exact prd_lay l
  unfold SeqAt.shaped
  rw [d3, decide_eq_true d2]
  rfl
theorem eqv_prdA : ∀ l m : List (Int × Int), PyData.eqvAll (l.map prd) (m.map prd) = decide (l = m)
  | [], [] => by simp [PyData.eqvAll]
  | [], _ :: _ => by simp [PyData.eqvAll]
  | _ :: _, [] => by simp [PyData.eqvAll]
  | (a, b) :: r, (c, d) :: t => by
    simp only [List.map_cons, PyData.eqvAll, PyData.eqv, prd, eqv_prdA r t]
    by_cases h : a = c <;> by_cases h2 : b = d <;> by_cases h' : r = t <;> simp [h, h2, h']
theorem eqv_prd (l m : List (Int × Int)) : PyData.eqv (.list (l.map prd)) (.list (m.map prd)) = decide (l = m) := by
  simp only [PyData.eqv]
  exact eqv_prdA l m
theorem dp_prsA {K : PySem.W.Frag} {H : Hp} : ∀ {l : List (Int × Int)} {vs : List V}, Prs H l vs → DpAll K H vs (l.map prd)
  | _, _, .nil => .nil
  | _, _, .cons a r => by
    obtain ⟨t, rfl, h⟩ := a
    exact .cons (.tup (SqT.of h) (.cons (.int _) (.cons (.int _) .nil))) (dp_prsA r)
theorem dp_prs {K : PySem.W.Frag} {H : Hp} {a : Addr} {l : List (Int × Int)} {vs : List V} (h : SqL K H a vs) (p : Prs H l vs) : Dp K H (.ref a) (.list (l.map prd)) := .lst h (dp_prsA p)
theorem q_eqP {K : PySem.W.Frag} {H : Hp} {a b : Addr} {l m : List (Int × Int)} {vs ws : List V} {Q : VK} (ha : SqL K H a vs) (hv : Prs H l vs) (hb : SqL K H b ws) (hw : Prs H m ws) (q : Q (.bl (decide (l = m))) H) : rEqD K (.ref a) (.ref b) H Q :=
  ⟨_, _, dp_prs ha hv, dp_prs hb hw, prd_shaped l, prd_shaped m, by rw [eqv_prd]; exact q⟩
theorem q_neP {K : PySem.W.Frag} {H : Hp} {a b : Addr} {l m : List (Int × Int)} {vs ws : List V} {Q : VK} (ha : SqL K H a vs) (hv : Prs H l vs) (hb : SqL K H b ws) (hw : Prs H m ws) (q : Q (.bl (!decide (l = m))) H) : rNeD K (.ref a) (.ref b) H Q :=
  ⟨_, _, dp_prs ha hv, dp_prs hb hw, prd_shaped l, prd_shaped m, by rw [eqv_prd]; exact q⟩
/-- a pair is unpacked to two names -/
theorem q_g2 {K : PySem.W.Frag} {j k : Nat} {t : Addr} {x y : V} {σ : L2.St} {H : Hp} {Q : L2.St → Hp → Prop} (h : SqT K H t [x, y]) (q : Q ((σ.set j (some x)).set k (some y)) H) : gTup K 2 (gCons (gName j) (gCons (gName k) gNil)) (.ref t) σ H Q :=
  ⟨t, [x, y], rfl, h, rfl, x, [y], rfl, y, [], rfl, rfl, q⟩
end Sky
/-! ### comprehensions over any target; with a test -/
namespace Sky
open PySem PySem.Spec PyProof.Rows L2
section
variable {σ : L2.St} {H : Hp} {K : PySem.W.Frag} {a b : Addr} {xs ys : List V} {tl : TA} {tx te : TE} {Q : VK} {j k : Nat} {vs : List Nat} {gt : TG} {tt : TT}
theorem q_lcNG {xs : List V} (P : Nat → V → Hp → Prop) (ha : ∀ R : VK, (∀ b H1, H b = none → Same H H1 → H1 b = some (.lst xs) → R (V.ref b) H1) → tx σ H R) (hn : xs.length ≤ 50000) (mono : ∀ i v H1 H2, P i v H1 → Tk H1 H2 → P i v H2)
    (he : ∀ (i : Nat) (x : V) (H' : Hp) (Q' : VK), xs[i]? = some x → Same H H' → (∀ v H'', Same H' H'' → P i v H'' → Q' v H'') → gt x (wipe σ vs) H' fun σ2 H2 => wipe σ2 vs = wipe σ vs ∧ te σ2 H2 Q') (q : LcEnd P H xs.length Q) :
    tLc (iList K tx) gt tYes te vs σ H Q := ha _ fun b H1 nb s1 hb => ⟨b, rfl, ⟨xs, SqL.of hb⟩, fun D hD => by
      refine lc_list (xs := xs) (Lc P H1 D) (lc_zero P hD) (fun i H' _ p => p.2.1.seq (SqL.of hb)) (fun i x H' hi p => ?_) (fun H' p => ?_)
      · have lt := (List.getElem?_eq_some_iff.mp hi).1
        simp only [e_yes, if_true]
        exact he i x H' _ hi (s1.trans p.2.1) fun v H'' s pv => lc_more mono p (by omega) s pv
      · obtain ⟨h1, h2, acc, h3, h4, h5⟩ := p
        exact q D H' acc (s1.free h1) (s1.trans h2) h3 h4 h5⟩
theorem q_lcLG (P : Nat → V → Hp → Prop) (ha : ∀ R : VK, R (V.ref a) H → tx σ H R) (hx : SqL K H a xs) (hn : xs.length ≤ 50000) (mono : ∀ i v H1 H2, P i v H1 → Tk H1 H2 → P i v H2)
    (he : ∀ (i : Nat) (x : V) (H' : Hp) (Q' : VK), xs[i]? = some x → Same H H' → (∀ v H'', Same H' H'' → P i v H'' → Q' v H'') → gt x (wipe σ vs) H' fun σ2 H2 => wipe σ2 vs = wipe σ vs ∧ te σ2 H2 Q') (q : LcEnd P H xs.length Q) :
    tLc (iList K tx) gt tYes te vs σ H Q := ha _ ⟨a, rfl, ⟨xs, hx⟩, fun D hD => by
      refine lc_list (xs := xs) (Lc P H D) (lc_zero P hD) (fun i H' _ p => p.2.1.seq hx) (fun i x H' hi p => ?_) (fun H' p => ?_)
      · have lt := (List.getElem?_eq_some_iff.mp hi).1
        simp only [e_yes, if_true]
        exact he i x H' _ hi p.2.1 fun v H'' s pv => lc_more mono p (by omega) s pv
      · obtain ⟨h1, h2, acc, h3, h4, h5⟩ := p
        exact q D H' acc h1 h2 h3 h4 h5⟩
theorem q_lcEG (P : Nat → V → Hp → Prop) (ha : ∀ R, R [V.ref a] H → tl σ H R) (hx : SqL K H a xs) (hn : xs.length ≤ 50000) (mono : ∀ i v H1 H2, P i v H1 → Tk H1 H2 → P i v H2)
    (he : ∀ (i : Nat) (x : V) (T : Addr) (H' : Hp) (Q' : VK), xs[i]? = some x → Same H H' → H' T = some (.tup [.int (i : Int), x]) → (∀ v H'', Same H' H'' → P i v H'' → Q' v H'') → gt (.ref T) (wipe σ vs) H' fun σ2 H2 => wipe σ2 vs = wipe σ vs ∧ te σ2 H2 Q') (q : LcEnd P H xs.length Q) :
    tLc (iEnum K tl) gt tYes te vs σ H Q := ha _ ⟨a, xs, rfl, hx, fun D hD => by
      refine lc_enum (xs := xs) (Lc P H D) (lc_zero P hD) (fun i H' p => p.2.1.seq hx) (fun i x T H' hi p nT => ?_) (fun H' p => ?_)
      · have lt := (List.getElem?_eq_some_iff.mp hi).1
        simp only [e_yes, if_true]
        have s2 := same_new (o := .tup [.int (i : Int), x]) nT
        exact he i x T _ _ hi (p.2.1.trans s2) upd_same fun v H'' s pv => lc_more mono p (by omega) (s2.trans s) pv
      · obtain ⟨h1, h2, acc, h3, h4, h5⟩ := p
        exact q D H' acc h1 h2 h3 h4 h5⟩
theorem q_lcZG (P : Nat → V → Hp → Prop) (ha : ∀ R, R [V.ref a, V.ref b] H → tl σ H R) (hx : SqL K H a xs) (hy : SqL K H b ys) (hlen : xs.length = ys.length) (hn : xs.length ≤ 50000) (mono : ∀ i v H1 H2, P i v H1 → Tk H1 H2 → P i v H2)
    (he : ∀ (i : Nat) (x y : V) (T : Addr) (H' : Hp) (Q' : VK), xs[i]? = some x → ys[i]? = some y → Same H H' → H' T = some (.tup [x, y]) → (∀ v H'', Same H' H'' → P i v H'' → Q' v H'') → gt (.ref T) (wipe σ vs) H' fun σ2 H2 => wipe σ2 vs = wipe σ vs ∧ te σ2 H2 Q') (q : LcEnd P H xs.length Q) :
    tLc (iZip K tl) gt tYes te vs σ H Q := ha _ ⟨a, b, xs, ys, rfl, hx, hy, fun D hD => by
      refine lc_zip (xs := xs) hlen (Lc P H D) (lc_zero P hD) (fun i H' p => ⟨p.2.1.seq hx, p.2.1.seq hy⟩) (fun i x y T H' hi hi2 p nT => ?_) (fun H' p => ?_)
      · have lt := (List.getElem?_eq_some_iff.mp hi).1
        simp only [e_yes, if_true]
        have s2 := same_new (o := .tup [x, y]) nT
        exact he i x y T _ _ hi hi2 (p.2.1.trans s2) upd_same fun v H'' s pv => lc_more mono p (by omega) (s2.trans s) pv
      · obtain ⟨h1, h2, acc, h3, h4, h5⟩ := p
        exact q D H' acc h1 h2 h3 h4 h5⟩
/-- which of the first n turns give, and what -/
def kept (n : Nat) (f : Nat → Bool) (v : Nat → V) : List V := ((List.range n).filter f).map v
theorem kept_yes {n : Nat} {f : Nat → Bool} {v : Nat → V} (h : f n = true) : kept (n + 1) f v = kept n f v ++ [v n] := by
  unfold kept
  rw [List.range_succ, List.filter_append, List.map_append]
  simp [h]
theorem kept_no {n : Nat} {f : Nat → Bool} {v : Nat → V} (h : f n = false) : kept (n + 1) f v = kept n f v := by
  unfold kept
  rw [List.range_succ, List.filter_append, List.map_append]
  simp [h]
theorem kept_len (n : Nat) (f : Nat → Bool) (v : Nat → V) : (kept n f v).length ≤ n := by
  unfold kept
  rw [List.length_map]
  have h := List.length_filter_le f (List.range n)
  rwa [List.length_range] at h
theorem q_lcRF {n : Nat} (f : Nat → Bool) (v : Nat → V) (ha : ∀ R, R [V.int (n : Int)] H → tl σ H R) (hn : n ≤ 50000) (hw : ∀ x, wipe ((wipe σ vs).set j (some x)) vs = wipe σ vs)
    (ht : ∀ (i : Nat) (H' : Hp) (R : Bool → Hp → Prop), i < n → Same H H' → (∀ H'', Same H' H'' → R (f i) H'') → tt ((wipe σ vs).set j (some (.int (i : Int)))) H' R)
    (he : ∀ (i : Nat) (H' : Hp) (Q' : VK), i < n → f i = true → Same H H' → (∀ H'', Same H' H'' → Q' (v i) H'') → te ((wipe σ vs).set j (some (.int (i : Int)))) H' Q')
    (q : ∀ D H', H D = none → Same H H' → H' D = some (.lst (kept n f v)) → Q (.ref D) H') :
    tLc (iRng1 tl) (gName j) tt te vs σ H Q := ha _ ⟨n, rfl, by omega, by omega, fun D hD => by
      rw [Int.toNat_natCast]
      refine lc_range (lo := 0) (n := n) (fun i H' => Same H H' ∧ H' D = some (.lst (kept i f v))) ⟨same_new hD, upd_same⟩ (fun i H' hi p => ?_) (fun H' p => ?_)
      · simp only [Int.zero_add]
        refine ⟨hw _, ht i H' _ hi p.1 fun H2 s2 => ?_⟩
        have hd := s2 _ _ p.2
        cases hf : f i with
        | true =>
          refine iteT (he i H2 _ hi hf (p.1.trans s2) fun H3 s3 => ?_)
          exact ⟨_, s3 _ _ hd, sz_lt (by have := kept_len i f v; omega), same_mut ((p.1.trans s2).trans s3) hD, by rw [upd_same, kept_yes hf]⟩
        | false =>
          refine iteF ⟨p.1.trans s2, ?_⟩
          rw [kept_no hf]
          exact hd
      · exact q D H' hD p.1 p.2⟩
end
theorem e_eqi {a b : Int} {H : Hp} {Q : VK} : rEq (.int a) (.int b) H Q = Q (.bl (decide (a = b))) H := by
  have e : decide (V.int a = V.int b) = decide (a = b) := by simp
  unfold rEq
  rw [e]
  simp [scal]
theorem e_nei {a b : Int} {H : Hp} {Q : VK} : rNe (.int a) (.int b) H Q = Q (.bl (!decide (a = b))) H := by
  have e : decide (V.int a = V.int b) = decide (a = b) := by simp
  unfold rNe
  rw [e]
  simp [scal]
theorem q_sorted {K : PySem.W.Frag} {H : Hp} {Q : VK} {a : Addr} {l : List Int} (h : SqL K H a (ivs l)) (hl : l.length < 64) (q : ∀ l' p, l'.Perm l → l'.Pairwise (· ≤ ·) → H p = none → Q (.ref p) (upd H p (.lst (ivs l')))) : rSorted K [.ref a] H Q := ⟨a, l, rfl, h, hl, q⟩
end Sky
/-! ### slices of lists of numbers -/
namespace Sky
open PySem PySem.Spec PyProof.Rows L2
theorem q_sl {K : PySem.W.Frag} {H : Hp} {Q : VK} {a : Addr} {xs : List V} {lo hi : Option Int} (h : SqL K H a xs) (q : ∀ p, H p = none → Q (.ref p) (upd H p (.lst (cutV xs lo hi)))) : rSlL K (.ref a) lo hi H Q := ⟨a, xs, rfl, h, q⟩
theorem take_ivs (l : List Int) (i : Nat) : (ivs l).take i = ivs (l.take i) := (List.map_take ..).symm
theorem drop_ivs (l : List Int) (i : Nat) : (ivs l).drop i = ivs (l.drop i) := (List.map_drop ..).symm
theorem cut_to (l : List Int) (i : Nat) : cutV (ivs l) none (some (i : Int)) = ivs (l.take i) := by
  unfold cutV
  rw [HT.sIx_none, HT.sIx_nat, List.drop_zero, Nat.sub_zero, len_ivs, take_ivs]
  by_cases c : i ≤ l.length
  · rw [Nat.min_eq_left c]
  · rw [Nat.min_eq_right (by omega), List.take_of_length_le (by omega), List.take_of_length_le (by omega)]
theorem cut_from (l : List Int) (i : Nat) : cutV (ivs l) (some (i : Int)) none = ivs (l.drop i) := by
  unfold cutV
  rw [HT.sIx_none, HT.sIx_nat, len_ivs, drop_ivs, take_ivs]
  by_cases c : i ≤ l.length
  · rw [Nat.min_eq_left c, List.take_of_length_le (by simp)]
  · rw [Nat.min_eq_right (by omega), Nat.sub_self, List.take_zero, List.drop_eq_nil_of_le (by omega)]
theorem cut_mid (l : List Int) (i j : Nat) : cutV (ivs l) (some (i : Int)) (some (j : Int)) = ivs ((l.take j).drop i) := by
  unfold cutV
  rw [HT.sIx_nat, HT.sIx_nat, len_ivs, drop_ivs, take_ivs, List.drop_take]
  congr 1
  apply List.ext_getElem?
  intro m
  rw [List.getElem?_take, List.getElem?_take, List.getElem?_drop, List.getElem?_drop]
  by_cases c : i + m < l.length
  · have e : min i l.length = i := Nat.min_eq_left (by omega)
    rw [e]
    by_cases c2 : m < j - i
    · rw [if_pos c2, if_pos (by omega)]
    · rw [if_neg c2, if_neg (by omega)]
  · have e2 : l[i + m]? = none := List.getElem?_eq_none (by omega)
    rw [e2]
    by_cases c3 : m < min j l.length - min i l.length
    · have e1 : l[min i l.length + m]? = none := List.getElem?_eq_none (by omega)
      rw [e1]
      split <;> split <;> rfl
    · rw [if_neg c3]
      split <;> rfl
end Sky

/-! Ro: objects of own classes: defs that are methods, fields, isinstance. -/
namespace Sky
open PySem PySem.Spec PyProof.Rows L2
def DefM (K : PySem.W.Frag) (C : Addr) (m q : Str) (ps : List Str) (st : Stmt) : Prop := ∃ (f : Addr) (fd : FuncData), Fun K m q st f fd ∧ Binds K fd ps [] ∧ Meth K C m f
def DefI (K : PySem.W.Frag) (C : Addr) (q : Str) (ps : List Str) (st : Stmt) : Prop := ∃ (f : Addr) (fd : FuncData), Fun K "__init__" q st f fd ∧ Binds K fd ps [] ∧ Mk K C f
def HasM (P : Program) (w : World) (K : PySem.W.Frag) (mg : Str → Option Value) (base : Heap) (CX : CXT) (k : Nat) (C : Addr) (m : Str) (ps : List Str) (sp : Sp) : Prop :=
  ∃ (f : Addr) (fd : FuncData), FnOk P w K mg base CX k f fd ps sp ∧ Binds K fd ps [] ∧ Meth K C m f
def HasI (P : Program) (w : World) (K : PySem.W.Frag) (mg : Str → Option Value) (base : Heap) (CX : CXT) (k : Nat) (C : Addr) (ps : List Str) (sp : Sp) : Prop :=
  ∃ (f : Addr) (fd : FuncData), FnOk P w K mg base CX k f fd ps sp ∧ Binds K fd ps [] ∧ Mk K C f
section
variable {X : Cx} {K : PySem.W.Frag} {e : Expr} {f : Str} {pos : Pos} {ta tb : TE}
theorem pe_fldK (he : PE X e ta) (hb : attributeBase e f X.env (eval e X.env) = eval e X.env) (h : X.K = K := by rfl) : PE X (.Attribute e f pos) (tFld K ta f) := h ▸ pe_fld he hb
/-- one of two readings -/
def tAny (ta tb : TE) : TE := fun σ H Q => ta σ H Q ∨ tb σ H Q
theorem pe_any (ha : PE X e ta) (hb : PE X e tb) : PE X e (tAny ta tb) := by
  refine ⟨fun pins s σ H Q I h => ?_⟩
  rcases h with h | h
  · exact ha.run pins s σ H Q I h
  · exact hb.run pins s σ H Q I h
end
/-- x.f -/
def rFld (K : PySem.W.Frag) (f : Str) : V → Hp → VK → Prop := fun x H1 Q => ∃ a C dx fs v, x = .ref a ∧ H1 a = some (.ins C dx fs) ∧ Cls K C ∧ NoAttr K C f ∧ fs.lookup f = some v ∧ Q v H1
section
variable {σ : L2.St} {H : Hp} {Q : VK} {D : Ends} {te ta tb tv : TE} {tl : TA} {K : PySem.W.Frag} {f m : Str} {C : Addr} {sp : Sp} {dvs : List V} {E : XK}
theorem e_any : tAny ta tb σ H Q = (ta σ H Q ∨ tb σ H Q) := rfl
theorem e_fld : tFld K ta f σ H Q = ta σ H fun x H1 => rFld K f x H1 Q := rfl
theorem e_sfld : sFld K ta tv f D σ H = tv σ H fun y H1 => ta σ H1 fun x H2 => ∃ a C dx fs, x = .ref a ∧ H2 a = some (.ins C dx fs) ∧ Cls K C ∧ NoAttr K C f ∧ fs.length < 1000 ∧ D.nx σ (upd H2 a (.ins C dx (putF f y fs))) := rfl
theorem e_meth : tMeth C m sp dvs E ta tl σ H Q = ta σ H fun x H1 => ∃ a dx fs, x = .ref a ∧ H1 a = some (.ins C dx fs) ∧ fs.lookup m = none ∧ tl σ H1 fun vs H2 => sp (x :: (vs ++ dvs)) H2 Q E := rfl
theorem e_make : tMake C sp dvs E tl σ H Q = tl σ H fun vs H1 => ∀ x dx, H1 x = none → H1 dx = none → dx ≠ x → sp (.ref x :: (vs ++ dvs)) (upd (upd H1 dx (.own x)) x (.ins C dx [])) (fun v H2 => v = .non ∧ Q (.ref x) H2) E := rfl
end
theorem e_par3 {i j l : Nat} {ta : TA} {D : Ends} {σ : L2.St} {H : Hp} : tPar3 i j l ta D σ H = ta σ H fun vs H1 => ∃ u v w, vs = [u, v, w] ∧ D.nx (((σ.set i (some u)).set j (some v)).set l (some w)) H1 := rfl
theorem q_fld {K : PySem.W.Frag} {H : Hp} {Q : VK} {a C dx : Addr} {fs : List (Str × V)} {f : Str} {v : V} (h : H a = some (.ins C dx fs)) (c : Cls K C) (n : NoAttr K C f) (e : fs.lookup f = some v) (q : Q v H) : rFld K f (.ref a) H Q := ⟨a, C, dx, fs, v, rfl, h, c, n, e, q⟩
/-- what isinstance asks of an own class -/
structure InsO (K : PySem.W.Frag) (C : Addr) : Prop where
  cl : Cls K C
  ha : PySem.W.findIn K (.ref C) "__class__" = some (some (.builtin "object.__class__"))
  hn : PySem.W.specialIn K (.builtin "object.__class__") "__get__" = some (some (.builtin "getset_descriptor.__get__"))
  htk : PySem.W.takesIn K (.builtin "object.__class__") = some true
  hm : PySem.W.mroIn K C (.type "object") = some true
  me : PySem.W.kitOne K (.ref C) (.ref C) = some true
theorem tyx_ins {K : PySem.W.Frag} {H : Hp} {a C dx : Addr} {fs : List (Str × V)} (h : H a = some (.ins C dx fs)) (c : InsO K C) : TyX K H (.ref a) (.ref C) := .base (.ins h c.cl c.ha c.hn c.htk c.hm)
/-- isinstance with an own class -/
theorem q_isiO {K : PySem.W.Frag} {H : Hp} {x : V} {t : Value} {D : Addr} {b : Bool} {Q : VK} (ty : TyX K H x t) (hk : PySem.W.kitOne K t (.ref D) = some b) (q : Q (.bl b) H) : rIsi K [x, .ref D] H Q :=
  ⟨x, .ref D, t, .ref D, b, rfl, .own D, ty, hk, q⟩
theorem q_is {a b : Bool} {H : Hp} {Q : VK} (q : Q (.bl (decide (a = b))) H) : rIsB (.bl a) (.bl b) H Q := ⟨a, b, rfl, rfl, q⟩
theorem q_not {a b : Bool} {H : Hp} {Q : VK} (q : Q (.bl (!decide (a = b))) H) : rNotB (.bl a) (.bl b) H Q := ⟨a, b, rfl, rfl, q⟩
/-- the truth of a word, as a bool -/
noncomputable def tf (P : Prop) : Bool := @decide P (Classical.propDecidable P)
theorem tf_iff {P : Prop} : tf P = true ↔ P := by
  unfold tf
  exact @decide_eq_true_iff P (Classical.propDecidable P)
theorem tf_of {P : Prop} {c : Bool} (h : c = true ↔ P) : c = tf P := by
  rw [Bool.eq_iff_iff, h, tf_iff]
theorem tf_all {n : Nat} {P : Nat → Prop} : (((List.range n).map fun i => tf (P i)).all id = true) ↔ ∀ i, i < n → P i := by
  rw [List.all_map, List.all_eq_true]
  constructor
  · intro h i hi
    exact tf_iff.mp (h i (List.mem_range.mpr hi))
  · intro h i hi
    exact tf_iff.mpr (h i (List.mem_range.mp hi))
section
variable {σ : L2.St} {H : Hp} {K : PySem.W.Frag} {a b : Addr} {xs ys : List V} {tl : TA} {tb : TS} {D : Ends} {gt : TG}
/-- a loop over zip of lists that are made for it: the lists first, then forZ -/
def forZ (K : PySem.W.Frag) (gt : TG) (tb : TS) (D : Ends) (σ : L2.St) (vs : List V) (H1 : Hp) : Prop := ∃ a b xs ys, vs = [V.ref a, .ref b] ∧ SqL K H1 a xs ∧ SqL K H1 b ys ∧ ∃ W : Nat → Nat → L2.St → Hp → Prop, (∃ m, W 0 m σ H1) ∧ ∀ i m σ H, W i m σ H →
  ((Itz K a b).stop i H ∧ D.nx σ H) ∨ ((Itz K a b).go i H ∧ ∃ N : L2.St → Hp → Prop, (∀ σ' H', N σ' H' → ∃ m', m' < m ∧ W (i + 1) m' σ' H') ∧ ∀ x H', (Itz K a b).yld i H x H' → gt x σ H' fun σ2 H2 => tb { D with nx := N, ct := N, bk := D.nx } σ2 H2)
theorem e_forZ : tFor (iZip K tl) gt tb D σ H = tl σ H fun vs H1 => forZ K gt tb D σ vs H1 := rfl
theorem q_forZ (hlen : xs.length = ys.length) (Pv : Nat → L2.St → Hp → Prop) (h0 : Pv 0 σ H) (hq : ∀ i σ H, Pv i σ H → SqL K H a xs ∧ SqL K H b ys)
    (hs : ∀ (i : Nat) (x y : V) (T : Addr) (σ : L2.St) (H : Hp), xs[i]? = some x → ys[i]? = some y → Pv i σ H → H T = none → gt (.ref T) σ (upd H T (.tup [x, y])) fun σ2 H2 => tb { D with nx := Pv (i + 1), ct := Pv (i + 1), bk := D.nx } σ2 H2) (hd : ∀ σ H, Pv xs.length σ H → D.nx σ H) :
    forZ K gt tb D σ [.ref a, .ref b] H := ⟨a, b, xs, ys, rfl, (hq 0 σ H h0).1, (hq 0 σ H h0).2, by
  refine ⟨fun i m σ H => m = xs.length - i ∧ i ≤ xs.length ∧ Pv i σ H, ⟨xs.length, rfl, Nat.zero_le _, h0⟩, ?_⟩
  rintro i m σ H ⟨rfl, hi, p⟩
  obtain ⟨qx, qy⟩ := hq i σ H p
  by_cases hlt : i < xs.length
  · have hx : xs[i]? = some xs[i] := List.getElem?_eq_getElem hlt
    have hlt2 : i < ys.length := by omega
    have hy : ys[i]? = some ys[i] := List.getElem?_eq_getElem hlt2
    refine .inr ⟨⟨xs, ys, _, _, qx, qy, hx, hy⟩, Pv (i + 1), fun σ' H' p' => ⟨xs.length - (i + 1), by omega, rfl, hlt, p'⟩, fun v H' y => ?_⟩
    obtain ⟨T, x', y', rfl, hT, rfl, f1, f2⟩ := y
    exact hs i x' y' T σ H (f1 xs qx) (f2 ys qy) p hT
  · have e : i = xs.length := by omega
    subst e
    exact .inl ⟨⟨xs, ys, qx, qy, Or.inl (Nat.le_refl _)⟩, hd σ H p⟩⟩
end
/-- tuples of whole numbers -/
theorem shaped_tup (l : List Int) : SeqAt.shaped (.tuple (l.map PyData.int)) = true := by
  have h := PySem.W.ke_shaped_ints l
  unfold SeqAt.shaped at *
  simpa [PyData.canLay0, PyData.depth] using h
theorem eqv_tup (l m : List Int) : PyData.eqv (.tuple (l.map PyData.int)) (.tuple (m.map PyData.int)) = decide (l = m) := by
  simp only [PyData.eqv]
  exact eqv_ivsA l m
theorem q_eqT {K : PySem.W.Frag} {H : Hp} {a b : Addr} {l m : List Int} {Q : VK} (ha : SqT K H a (ivs l)) (hb : SqT K H b (ivs m)) (q : Q (.bl (decide (l = m))) H) : rEqD K (.ref a) (.ref b) H Q :=
  ⟨_, _, .tup ha (dp_ivsA l), .tup hb (dp_ivsA m), shaped_tup l, shaped_tup m, by rw [eqv_tup]; exact q⟩
theorem q_neT {K : PySem.W.Frag} {H : Hp} {a b : Addr} {l m : List Int} {Q : VK} (ha : SqT K H a (ivs l)) (hb : SqT K H b (ivs m)) (q : Q (.bl (!decide (l = m))) H) : rNeD K (.ref a) (.ref b) H Q :=
  ⟨_, _, .tup ha (dp_ivsA l), .tup hb (dp_ivsA m), shaped_tup l, shaped_tup m, by rw [eqv_tup]; exact q⟩
end Sky

/-! Rw: further answers: list.index, reversed(range(n)), comprehensions over range(a, b) with a test. -/
namespace Sky
open PySem PySem.Spec PyProof.Rows L2
theorem mt_indexK {X : Cx} {K : PySem.W.Frag} (e : X.K = K := by rfl) : MtR X "list.index" (rIndex K) := e ▸ mt_index
theorem flat_ivs (l : List Int) : (ivs l).all flatV = true := by
  rw [List.all_eq_true]
  intro x hx
  obtain ⟨i, _, rfl⟩ := List.mem_map.mp hx
  rfl
theorem eqV_int (a b : Int) : eqV (.int a) (.int b) = decide (a = b) := by
  show (a == b) = decide (a = b)
  rw [Bool.eq_iff_iff]
  simp
theorem q_index {K : PySem.W.Frag} {H : Hp} {Q : VK} {a : Addr} {l : List Int} {m : Int} {j : Nat} (h : SqL K H a (ivs l)) (hj : j < l.length) (e : g l j = m) (no : ∀ k, k < j → g l k ≠ m) (q : Q (.int (j : Nat)) H) :
    tyV K "list" (.ref a) H ∧ rIndex K (.ref a) [.int m] H Q := by
  refine ⟨.inl ⟨rfl, _, h⟩, a, ivs l, .int m, j, .int (g l j), rfl, rfl, h, rfl, flat_ivs l, ivs_at hj, ?_, fun k z hk hz => ?_, q⟩
  · rw [eqV_int, e]
    exact decide_eq_true rfl
  · obtain ⟨hk2, rfl⟩ := of_ivs hz
    rw [eqV_int]
    exact decide_eq_false (no k hk)
section
variable {σ : L2.St} {H : Hp} {K : PySem.W.Frag} {a b : Addr} {tl : TA} {te : TE} {tb : TS} {D : Ends} {Q : VK} {j : Nat} {vs : List Nat} {tt : TT}
/-- for place in reversed(range(n)) -/
theorem q_forV {n : Nat} (ha : ∀ R : VK, R (V.int (n : Int)) H → te σ H R) (hn : n ≤ 100000) (Pv : Nat → L2.St → Hp → Prop) (h0 : Pv 0 σ H)
    (hs : ∀ (i : Nat) (σ : L2.St) (H : Hp), i < n → Pv i σ H → tb { D with nx := Pv (i + 1), ct := Pv (i + 1), bk := D.nx } (σ.set j (some (.int ((n - 1 - i : Nat) : Int)))) H) (hd : ∀ σ H, Pv n σ H → D.nx σ H) :
    tFor (iRevR (tRg1 te)) (gName j) tb D σ H := ha _ ⟨n, rfl, by omega, by omega, by omega, by omega, by
      have e : ((n : Int) - 0).toNat = n := by omega
      rw [e]
      refine for_rangeC (n := n) Pv h0 (fun i σ' H' hi p => ?_) hd
      have e2 : (0 : Int) + (n : Int) - 1 + (i : Int) * (-1) = ((n - 1 - i : Nat) : Int) := by omega
      rw [e2]
      exact hs i σ' H' hi p⟩
/-- [v(i) for i in range(lo, n) if f(i)] -/
theorem q_lcRF2 {lo n : Nat} (f : Nat → Bool) (v : Nat → V) (ha : ∀ R, R [V.int (lo : Int), V.int (n : Int)] H → tl σ H R) (hn : lo ≤ n ∧ n ≤ 50000) (hw : ∀ x, wipe ((wipe σ vs).set j (some x)) vs = wipe σ vs)
    (ht : ∀ (i : Nat) (H' : Hp) (R : Bool → Hp → Prop), lo ≤ i → i < n → Same H H' → (∀ H'', Same H' H'' → R (f i) H'') → tt ((wipe σ vs).set j (some (.int (i : Int)))) H' R)
    (he : ∀ (i : Nat) (H' : Hp) (Q' : VK), lo ≤ i → i < n → f i = true → Same H H' → (∀ H'', Same H' H'' → Q' (v i) H'') → te ((wipe σ vs).set j (some (.int (i : Int)))) H' Q')
    (q : ∀ D H', H D = none → Same H H' → H' D = some (.lst (kept (n - lo) (fun i => f (lo + i)) (fun i => v (lo + i)))) → Q (.ref D) H') :
    tLc (iRng2 tl) (gName j) tt te vs σ H Q := ha _ ⟨lo, n, rfl, ⟨by omega, by omega, by omega, by omega⟩, fun D hD => by
      have e : ((n : Int) - (lo : Int)).toNat = n - lo := by omega
      rw [e]
      refine lc_range (lo := (lo : Int)) (n := n - lo) (fun i H' => Same H H' ∧ H' D = some (.lst (kept i (fun i => f (lo + i)) (fun i => v (lo + i))))) ⟨same_new hD, upd_same⟩ (fun i H' hi p => ?_) (fun H' p => ?_)
      · have e2 : (lo : Int) + (i : Int) = ((lo + i : Nat) : Int) := by omega
        simp only [e2]
        refine ⟨hw _, ht (lo + i) H' _ (by omega) (by omega) p.1 fun H2 s2 => ?_⟩
        have hd := s2 _ _ p.2
        cases hf : f (lo + i) with
        | true =>
          refine iteT (he (lo + i) H2 _ (by omega) (by omega) hf (p.1.trans s2) fun H3 s3 => ?_)
          exact ⟨_, s3 _ _ hd, sz_lt (by have := kept_len i (fun i => f (lo + i)) (fun i => v (lo + i)); omega), same_mut ((p.1.trans s2).trans s3) hD, by rw [upd_same, kept_yes (n := i) (f := fun i => f (lo + i)) hf]⟩
        | false =>
          refine iteF ⟨p.1.trans s2, ?_⟩
          rw [kept_no (n := i) (f := fun i => f (lo + i)) hf]
          exact hd
      · exact q D H' hD p.1 p.2⟩
end
end Sky

/-! Rl: comprehensions that make lists of new lists; loops over a list with any target; in. -/
namespace Sky
open PySem PySem.Spec PyProof.Rows L2
section
variable {σ : L2.St} {H : Hp} {K : PySem.W.Frag} {a b : Addr} {xs ys : List V} {tl : TA} {tx te : TE} {Q : VK} {j k : Nat} {vs : List Nat} {gt : TG}
/-- lists at the places ts: each of its own, as L tells it -/
structure Lls (H0 H : Hp) (L : Nat → List Int) (D : Addr) (ts : List Addr) : Prop where
  nd : ts.Nodup
  nD : D ∉ ts
  fr : ∀ t ∈ ts, H0 t = none
  at_ : ∀ (m : Nat) (t : Addr), ts[m]? = some t → H t = some (.lst (ivs (L m)))
theorem Lls.more {H0 H H' : Hp} {L : Nat → List Int} {D : Addr} {ts : List Addr} (h : Lls H0 H L D ts) (s : Same H H') : Lls H0 H' L D ts := ⟨h.nd, h.nD, h.fr, fun m t e => s _ _ (h.at_ m t e)⟩
def LcL (L : Nat → List Int) (H : Hp) (D : Addr) (i : Nat) (H' : Hp) : Prop := H D = none ∧ Same H H' ∧ ∃ ts : List Addr, H' D = some (.lst (ts.map V.ref)) ∧ ts.length = i ∧ Lls H H' L D ts
theorem lcL_zero (L : Nat → List Int) {D : Addr} (h : H D = none) : LcL L H D 0 (upd H D (.lst [])) :=
  ⟨h, same_new h, [], upd_same, rfl, List.nodup_nil, by simp, by simp, fun m t e => by simp at e⟩
theorem lcL_more {L : Nat → List Int} {D : Addr} {i : Nat} {H1 H2 : Hp} {t : Addr} (h : LcL L H D i H1) (hi : i < 100000) (s : Same H1 H2) (nt : H1 t = none) (p : H2 t = some (.lst (ivs (L i)))) :
    ∃ acc, H2 D = some (.lst acc) ∧ acc.length < sizeLine ∧ LcL L H D (i + 1) (upd H2 D (.lst (acc ++ [V.ref t]))) := by
  obtain ⟨h1, h2, ts, h3, h4, h5⟩ := h
  have e := s _ _ h3
  have tD : t ≠ D := (ne_of_none h3 nt).symm
  have tts : t ∉ ts := fun m => by
    obtain ⟨k, hk, ek⟩ := List.getElem_of_mem m
    have := h5.at_ k t (by rw [List.getElem?_eq_getElem hk, ek])
    rw [nt] at this
    cases this
  refine ⟨_, e, by rw [List.length_map, h4]; exact sz_lt hi, h1, same_mut (h2.trans s) h1, ts ++ [t], ?_, by rw [List.length_append, h4]; rfl, ?_, ?_, ?_, fun m u hm => ?_⟩
  · rw [upd_same, List.map_append]
    rfl
  · rw [List.nodup_append]
    refine ⟨h5.nd, by simp, fun x hx y hy => ?_⟩
    have : y = t := by simpa using hy
    subst this
    intro e
    subst e
    exact tts hx
  · intro m
    rcases List.mem_append.mp m with m | m
    · exact h5.nD m
    · exact tD ((by simpa using m : D = t).symm)
  · intro u hu
    rcases List.mem_append.mp hu with m | m
    · exact h5.fr u m
    · have : u = t := by simpa using m
      subst this
      exact h2.free nt
  · by_cases c : m < i
    · rw [List.getElem?_append_left (by omega)] at hm
      have uD : u ≠ D := fun e => h5.nD (e ▸ List.mem_of_getElem? hm)
      rw [upd_ne uD]
      exact s _ _ (h5.at_ m u hm)
    · have e2 : m = i := by
        have := (List.getElem?_eq_some_iff.mp hm).1
        rw [List.length_append, h4] at this
        simp at this
        omega
      subst e2
      rw [List.getElem?_append_right (by omega), h4] at hm
      simp at hm
      subst hm
      rw [upd_ne tD]
      exact p
abbrev LlEnd (L : Nat → List Int) (H : Hp) (n : Nat) (Q : VK) : Prop := ∀ D H' ts, H D = none → Same H H' → H' D = some (.lst (ts.map V.ref)) → ts.length = n → Lls H H' L D ts → Q (.ref D) H'
/-- [a new list for i in range(n)] -/
theorem q_lcRL {n : Nat} (L : Nat → List Int) (ha : ∀ R, R [V.int (n : Int)] H → tl σ H R) (hn : n ≤ 50000) (hw : ∀ x, wipe ((wipe σ vs).set j (some x)) vs = wipe σ vs)
    (he : ∀ (i : Nat) (H' : Hp) (Q' : VK), i < n → Same H H' → (∀ t H'', H' t = none → Same H' H'' → H'' t = some (.lst (ivs (L i))) → Q' (.ref t) H'') → te ((wipe σ vs).set j (some (.int (i : Int)))) H' Q') (q : LlEnd L H n Q) :
    tLc (iRng1 tl) (gName j) tYes te vs σ H Q := ha _ ⟨n, rfl, by omega, by omega, fun D hD => by
      rw [Int.toNat_natCast]
      refine lc_range (lo := 0) (n := n) (LcL L H D) (lcL_zero L hD) (fun i H' hi p => ?_) (fun H' p => ?_)
      · show wipe ((wipe σ vs).set j (some (.int ((0 : Int) + (i : Int))))) vs = wipe σ vs ∧ tYes ((wipe σ vs).set j (some (.int ((0 : Int) + (i : Int))))) H' fun b H3 => if b = true then te ((wipe σ vs).set j (some (.int ((0 : Int) + (i : Int))))) H3 fun y H4 => ∃ acc, H4 D = some (.lst acc) ∧ acc.length < sizeLine ∧ LcL L H D (i + 1) (upd H4 D (.lst (acc ++ [y]))) else LcL L H D (i + 1) H3
        rw [Int.zero_add]
        refine ⟨hw _, ?_⟩
        simp only [e_yes, if_true]
        exact he i H' _ hi p.2.1 fun t H'' nt s pt => lcL_more p (by omega) s nt pt
      · obtain ⟨h1, h2, ts, h3, h4, h5⟩ := p
        exact q D H' ts h1 h2 h3 h4 h5⟩
/-- [a new list for x in a list] -/
theorem q_lcLL (L : Nat → List Int) (ha : ∀ R : VK, R (V.ref a) H → tx σ H R) (hx : SqL K H a xs) (hn : xs.length ≤ 50000) (hw : ∀ x, wipe ((wipe σ vs).set j (some x)) vs = wipe σ vs)
    (he : ∀ (i : Nat) (x : V) (H' : Hp) (Q' : VK), xs[i]? = some x → Same H H' → (∀ t H'', H' t = none → Same H' H'' → H'' t = some (.lst (ivs (L i))) → Q' (.ref t) H'') → te ((wipe σ vs).set j (some x)) H' Q') (q : LlEnd L H xs.length Q) :
    tLc (iList K tx) (gName j) tYes te vs σ H Q := ha _ ⟨a, rfl, ⟨xs, hx⟩, fun D hD => by
      refine lc_list (xs := xs) (LcL L H D) (lcL_zero L hD) (fun i H' _ p => p.2.1.seq hx) (fun i x H' hi p => ?_) (fun H' p => ?_)
      · have lt := (List.getElem?_eq_some_iff.mp hi).1
        refine ⟨hw _, ?_⟩
        simp only [e_yes, if_true, e_name]
        exact he i x H' _ hi p.2.1 fun t H'' nt s pt => lcL_more p (by omega) s nt pt
      · obtain ⟨h1, h2, ts, h3, h4, h5⟩ := p
        exact q D H' ts h1 h2 h3 h4 h5⟩
end
section
variable {σ : L2.St} {H : Hp} {K : PySem.W.Frag} {a : Addr} {xs : List V} {te : TE} {tb : TS} {D : Ends} {gt : TG} {Q : VK}
theorem q_forG (ha : ∀ R : VK, R (V.ref a) H → te σ H R) (Pv : Nat → L2.St → Hp → Prop) (h0 : Pv 0 σ H) (hq : ∀ i σ H, Pv i σ H → SqL K H a xs)
    (hs : ∀ (i : Nat) (x : V) (σ : L2.St) (H : Hp), xs[i]? = some x → Pv i σ H → gt x σ H fun σ2 H2 => tb { D with nx := Pv (i + 1), ct := Pv (i + 1), bk := D.nx } σ2 H2) (hd : ∀ σ H, Pv xs.length σ H → D.nx σ H) :
    tFor (iList K te) gt tb D σ H := ha _ ⟨a, rfl, ⟨xs, hq 0 σ H h0⟩, for_list Pv h0 (fun i σ H _ p => hq i σ H p) hs hd⟩
/-- a loop over a list that is made for it: the list first, then forA -/
def forA (K : PySem.W.Frag) (g : TG) (tb : TS) (D : Ends) (σ : L2.St) (x : V) (H1 : Hp) : Prop := ∃ a, x = .ref a ∧ (∃ xs, SqL K H1 a xs) ∧ ∃ W : Nat → Nat → L2.St → Hp → Prop, (∃ m, W 0 m σ H1) ∧ ∀ i m σ H, W i m σ H →
  ((Itl K a).stop i H ∧ D.nx σ H) ∨ ((Itl K a).go i H ∧ ∃ N : L2.St → Hp → Prop, (∀ σ' H', N σ' H' → ∃ m', m' < m ∧ W (i + 1) m' σ' H') ∧ ∀ x H', (Itl K a).yld i H x H' → g x σ H' fun σ2 H2 => tb { D with nx := N, ct := N, bk := D.nx } σ2 H2)
theorem e_forA : tFor (iList K te) gt tb D σ H = te σ H fun x H1 => forA K gt tb D σ x H1 := rfl
theorem q_forA (Pv : Nat → L2.St → Hp → Prop) (h0 : Pv 0 σ H) (hq : ∀ i σ H, Pv i σ H → SqL K H a xs)
    (hs : ∀ (i : Nat) (x : V) (σ : L2.St) (H : Hp), xs[i]? = some x → Pv i σ H → gt x σ H fun σ2 H2 => tb { D with nx := Pv (i + 1), ct := Pv (i + 1), bk := D.nx } σ2 H2) (hd : ∀ σ H, Pv xs.length σ H → D.nx σ H) :
    forA K gt tb D σ (.ref a) H := ⟨a, rfl, ⟨xs, hq 0 σ H h0⟩, for_list Pv h0 (fun i σ H _ p => hq i σ H p) hs hd⟩
theorem inV_ivs (m : Int) : ∀ l : List Int, inV (.int m) (ivs l) = decide (m ∈ l)
  | [] => by simp [inV]
  | x :: r => by
    have ih := inV_ivs m r
    unfold inV at ih ⊢
    rw [show ivs (x :: r) = V.int x :: ivs r from rfl, List.any_cons, ih, eqV_int, Bool.eq_iff_iff]
    simp only [Bool.or_eq_true, decide_eq_true_eq, List.mem_cons]
    constructor
    · rintro (e | e)
      · exact .inl e.symm
      · exact .inr e
    · rintro (e | e)
      · exact .inl e.symm
      · exact .inr e
theorem q_in {l : List Int} {m : Int} (h : SqL K H a (ivs l)) (q : Q (.bl (decide (m ∈ l))) H) : rIn K false (.int m) (.ref a) H Q :=
  ⟨a, _, rfl, .inl h, rfl, flat_ivs l, by rw [inV_ivs]; exact q⟩
end
end Sky

/-! P0: the text by places, what its top holds. -/
namespace Sky
open PySem PySem.Spec PyProof.Rows L2
def top (i : Nat) : Stmt := PySem.Challenge.pw_skybars_k08_answers_by_hand.main.body.getD i (.Pass ⟨0, 0, 0, 0⟩)
structure Cl where
  Answer : Addr
  Board : Addr
  Row : Addr
  Crossed : Addr
structure Txt (K : PySem.W.Frag) (mg : Str → Option Value) (CL : Cl) : Prop where
  m_len : mg "len" = none
  m_isinstance : mg "isinstance" = none
  m_all : mg "all" = none
  m_sum : mg "sum" = none
  m_max : mg "max" = none
  m_min : mg "min" = none
  m_sorted : mg "sorted" = none
  m_list : mg "list" = none
  m_int : mg "int" = none
  m_bool : mg "bool" = none
  m_range : mg "range" = none
  m_enumerate : mg "enumerate" = none
  m_zip : mg "zip" = none
  m_ValueError : mg "ValueError" = none
  c_HIGHEST : ∃ t, mg "HIGHEST" = some (.int 10000000 t)
  c_Answer : mg "Answer" = some (.ref CL.Answer)
  cl_Answer : Cls K CL.Answer
  ic_Answer : InsO K CL.Answer
  ki_Answer_Board : PySem.W.kitOne K (.ref CL.Answer) (.ref CL.Board) = some false
  ki_Answer_Row : PySem.W.kitOne K (.ref CL.Answer) (.ref CL.Row) = some false
  ki_Answer_Crossed : PySem.W.kitOne K (.ref CL.Answer) (.ref CL.Crossed) = some false
  c_Board : mg "Board" = some (.ref CL.Board)
  cl_Board : Cls K CL.Board
  ic_Board : InsO K CL.Board
  na_Board_first : NoAttr K CL.Board "first"
  na_Board_many : NoAttr K CL.Board "many"
  na_Board_high : NoAttr K CL.Board "high"
  na_Board_around : NoAttr K CL.Board "around"
  ki_Board_Answer : PySem.W.kitOne K (.ref CL.Board) (.ref CL.Answer) = some true
  ki_Board_Row : PySem.W.kitOne K (.ref CL.Board) (.ref CL.Row) = some false
  ki_Board_Crossed : PySem.W.kitOne K (.ref CL.Board) (.ref CL.Crossed) = some false
  c_Row : mg "Row" = some (.ref CL.Row)
  cl_Row : Cls K CL.Row
  ic_Row : InsO K CL.Row
  na_Row_bars : NoAttr K CL.Row "bars"
  ki_Row_Answer : PySem.W.kitOne K (.ref CL.Row) (.ref CL.Answer) = some true
  ki_Row_Board : PySem.W.kitOne K (.ref CL.Row) (.ref CL.Board) = some false
  ki_Row_Crossed : PySem.W.kitOne K (.ref CL.Row) (.ref CL.Crossed) = some false
  c_Crossed : mg "Crossed" = some (.ref CL.Crossed)
  cl_Crossed : Cls K CL.Crossed
  ic_Crossed : InsO K CL.Crossed
  na_Crossed_first : NoAttr K CL.Crossed "first"
  na_Crossed_second : NoAttr K CL.Crossed "second"
  ki_Crossed_Answer : PySem.W.kitOne K (.ref CL.Crossed) (.ref CL.Answer) = some true
  ki_Crossed_Board : PySem.W.kitOne K (.ref CL.Crossed) (.ref CL.Board) = some false
  ki_Crossed_Row : PySem.W.kitOne K (.ref CL.Crossed) (.ref CL.Row) = some false

end Sky

/-! P1: is_number, asked_bars: for numbers, for good bars. -/
namespace Sky
open PySem PySem.Spec PyProof.Rows L2
local macro_rules | `(tactic| walk_at "sx") => `(tactic| try simp only [e_K, e_seq, e_asg, e_name, e_drop, e_ret, e_retN, e_ifs, e_next, e_var, e_c, e_op, e_un, e_rI0, e_rI, e_rU, e_test, e_B, e_bl, e_and, e_or, e_not, e_andV, e_orV, e_notV, e_if, e_CB, e_CKw, e_cons, e_nil, e_call,
  e_chn, e_cCons, e_cOne, e_BM, e_BM0, e_sub, e_par, e_ls, e_noP, e_part, e_intx, e_refx, e_yes, e_get0, e_getS, e_sl, List.set_cons_zero, List.set_cons_succ, List.cons_append, List.nil_append, List.append_nil, Bool.not_true, Bool.not_false, e_lst, e_tup, e_rev, e_eqi, e_nei, decide_true, decide_false, if_true, Bool.false_eq_true, if_false, e_any, e_fld, e_sfld, e_meth, e_make, e_par3])
abbrev s_is_number : Stmt := top 6
abbrev N_is_number : List Str := ["thing", "least", "most"]
theorem sc_is_number : FnScope ["thing", "least", "most"] ["thing", "least", "most"] (defScope s_is_number) := ⟨rfl, rfl, rfl, by decide +kernel, rfl, by decide +kernel, by decide +kernel⟩
def sp_is_number (K : PySem.W.Frag) : Sp := Sp3 fun x y z H Q _ => ∃ i lo hi : Int, x = .int i ∧ y = .int lo ∧ z = .int hi ∧ Q (.bl (decide (lo ≤ i ∧ i ≤ hi))) H
theorem ok_is_number {P : Program} {w : World} {K : PySem.W.Frag} {mg : Str → Option Value} {base : Heap} {CL : Cl} (D : Def K mg "is_number" ["thing", "least", "most"] s_is_number) (T : Txt K mg CL)  : Has P w K mg base CX0 1 "is_number" ["thing", "least", "most"] (sp_is_number K) := by
  obtain ⟨f, fd, gm, F, bb⟩ := D
  refine ⟨f, fd, gm, F.ok sc_is_number (fun vs H Q E h => ?_) (fun cdv A outer s H vs Q E hr h => ?_), F.kp, bb⟩
  · obtain ⟨x1, x2, x3, rfl, _⟩ := h
    rfl
  obtain ⟨x1, x2, x3, rfl, h⟩ := h
  refine ⟨_, (pss_one (ps_ret (pe_and (pe_callB (isiK (K := K)) (by rfl) T.m_isinstance bt_isinstance (pa_cons (pv 0) (pa_cons (pe_bltn (v := V.ty "int") (by rfl) T.m_int bt_int rfl) pa_nil))) (pe_and (pe_not (pe_callB (isiK (K := K)) (by rfl) T.m_isinstance bt_isinstance (pa_cons (pv 0) (pa_cons (pe_bltn (v := V.ty "bool") (by rfl) T.m_bool bt_bool rfl) pa_nil)))) (pe_one (pe_chn (pv 1) (pch_cons op_le (pv 0) (pch_one op_le (pv 2))))))))), start_is (σ := [some x1, some x2, some x3]) rfl ?_⟩
  obtain ⟨i, lo, hi, rfl, rfl, rfl, q⟩ := h
  walk_at "sx"
  refine q_isi tyx_int kb_ii ?_
  walk_at "sx"
  refine q_isi tyx_int kb_ib ?_
  walk_at "sx"
  by_cases c : lo ≤ i
  · simpa [c] using q
  · simpa [c] using q
abbrev s_asked_bars : Stmt := top 7
abbrev N_asked_bars : List Str := ["bars", "bar"]
theorem sc_asked_bars : FnScope ["bars", "bar"] ["bars"] (defScope s_asked_bars) := ⟨rfl, rfl, rfl, by decide +kernel, rfl, by decide +kernel, by decide +kernel⟩
def sp_asked_bars (K : PySem.W.Frag) : Sp := Sp1 fun x H Q _ => ∃ (a : Addr) (bs : List Int), x = .ref a ∧ SqL K H a (ivs bs) ∧ Good bs ∧ bs.length ≤ 1000 ∧ ∀ H', Same H H' → Q .non H'
theorem ok_asked_bars {P : Program} {w : World} {K : PySem.W.Frag} {mg : Str → Option Value} {base : Heap} {CL : Cl} (D : Def K mg "asked_bars" ["bars"] s_asked_bars) (T : Txt K mg CL) (h_is_number : Has P w K mg base CX0 1 "is_number" ["thing", "least", "most"] (sp_is_number K)) : Has P w K mg base CX0 2 "asked_bars" ["bars"] (sp_asked_bars K) := by
  obtain ⟨f, fd, gm, F, bb⟩ := D
  obtain ⟨f_is_number, fd_is_number, g_is_number, G_is_number, k_is_number, b_is_number⟩ := h_is_number
  obtain ⟨t_HIGHEST, c_HIGHEST⟩ := T.c_HIGHEST
  refine ⟨f, fd, gm, F.ok sc_asked_bars (fun vs H Q E h => ?_) (fun cdv A outer s H vs Q E hr h => ?_), F.kp, bb⟩
  · obtain ⟨x1, rfl, _⟩ := h
    rfl
  have hr_is_number : Room 1 (A.deeper (envOfC "asked_bars" (defScope s_asked_bars) s.heap.objs.size f cdv)) := hr.mono (by decide)
  obtain ⟨x1, rfl, h⟩ := h
  refine ⟨_, (pss_one (ps_if (PW.pt (pw_or (pt_not (pt_val (pe_callB (isiK (K := K)) (by rfl) T.m_isinstance bt_isinstance (pa_cons (pv 0) (pa_cons (pe_bltn (v := V.ty "list") (by rfl) T.m_list bt_list rfl) pa_nil))))) (pw_or1 (pt_not (pt_val (pe_callB (allK (K := K) rfl) (by rfl) T.m_all bt_all (pa_cons (pe_lc (own := [("bar", 1)]) (g := (gName 1)) (tt := tYes) (by rfl) sc_asked_bars.nd (pi_list (pv 0)) (blkOk_by (own := [("bar", 1)]) (N := N_asked_bars) (sc := defScope s_asked_bars) (by decide +kernel)) (fun _ _ _ _ _ => (pg_name (i := 1) sc_asked_bars.nd rfl (Or.inl rfl))) (fun _ _ _ _ _ => pts_nil) (fun _ _ _ _ _ => (pe_call G_is_number hr_is_number (by rfl) g_is_number k_is_number b_is_number .nil pass0 (pa_cons (pv 1) (pa_cons pe_int (pa_cons (pe_glob (v := V.int 10000000) (by rfl) c_HIGHEST ⟨_, rfl⟩) pa_nil)))))) pa_nil))))))) (pss_one ps_never) pss_nil)), start_is (σ := [some x1, none]) rfl ?_⟩
  obtain ⟨a, bs, rfl, hS, good, hlen, q⟩ := h
  walk_at "sx"
  refine q_isi (tyx_list hS) kb_ll ?_
  walk_at "sx"
  refine q_lcL (fun i v _ => v = .bl true) (fun R r => ⟨_, rfl, r⟩) hS (by rw [len_ivs]; omega) (fun _ => rfl) (fun _ _ _ _ e _ => e) (fun i x H' Q' hx s1 k => ?_) ?_
  · obtain ⟨hi, rfl⟩ := of_ivs hx
    have gd := good.at hi
    refine ⟨_, rfl, _, _, _, rfl, _, _, _, rfl, rfl, rfl, k _ _ (Same.refl _) ?_⟩
    exact congrArg V.bl (decide_eq_true gd)
  · intro D H' acc _ s1 hd hl hv
    have e := acc_bls (f := fun _ => true) hl hv
    rw [len_ivs] at e
    subst e
    refine q_all (SqL.of hd) ?_
    walk_at "sx"
    rw [if_neg (by simp)]
    exact q _ s1

end Sky

/-! P1b: ahead_of. -/
namespace Sky
open PySem PySem.Spec PyProof.Rows L2
local macro_rules | `(tactic| walk_at "sx") => `(tactic| try simp only [e_K, e_seq, e_asg, e_name, e_drop, e_ret, e_retN, e_ifs, e_next, e_var, e_c, e_op, e_un, e_rI0, e_rI, e_rU, e_test, e_B, e_bl, e_and, e_or, e_not, e_andV, e_orV, e_notV, e_if, e_CB, e_CKw, e_cons, e_nil, e_call,
  e_chn, e_cCons, e_cOne, e_BM, e_BM0, e_sub, e_par, e_ls, e_noP, e_part, e_intx, e_refx, e_yes, e_get0, e_getS, e_sl, List.set_cons_zero, List.set_cons_succ, List.cons_append, List.nil_append, List.append_nil, Bool.not_true, Bool.not_false, e_lst, e_tup, e_rev, e_eqi, e_nei, decide_true, decide_false, if_true, Bool.false_eq_true, if_false, e_any, e_fld, e_sfld, e_meth, e_make, e_par3])
abbrev s_ahead_of : Stmt := top 8
abbrev N_ahead_of : List Str := ["bars", "found", "waiting", "place", "bar"]
theorem sc_ahead_of : FnScope ["bars", "found", "waiting", "place", "bar"] ["bars"] (defScope s_ahead_of) := ⟨rfl, rfl, rfl, by decide +kernel, rfl, by decide +kernel, by decide +kernel⟩
def sp_ahead_of (K : PySem.W.Frag) : Sp := Sp1 fun x H Q _ => ∃ (a : Addr) (bs : List Int), x = .ref a ∧ SqL K H a (ivs bs) ∧ bs.length ≤ 1000 ∧ ∀ p H', H p = none → Same H H' → H' p = some (.lst (ivs (links bs))) → Q (.ref p) H'
/-- what stands between two turns of ahead_of -/
structure AhSt (K : PySem.W.Frag) (H : Hp) (bs : List Int) (p q : Addr) (i : Nat) (st : List Nat) (H' : Hp) : Prop where
  sm : Same H H'
  fp : H' p = some (.lst (ivs ((links bs).take i)))
  fq : H' q = some (.lst (ivs (stI st)))
theorem AhSt.more {K : PySem.W.Frag} {H H1 H2 : Hp} {bs : List Int} {p q : Addr} {i : Nat} {st : List Nat} (h : AhSt K H bs p q i st H1) (s : Same H1 H2) : AhSt K H bs p q i st H2 := ⟨h.sm.trans s, s _ _ h.fp, s _ _ h.fq⟩
theorem stI_le {st : List Nat} {i : Nat} (h : st.length ≤ i) : (ivs (stI st)).length ≤ i := by rw [len_ivs, stI_len]; exact h
theorem pop_len (bs : List Int) (v : Int) (st : List Nat) : (pop bs v st).length ≤ st.length := (List.dropWhile_sublist _).length_le
theorem ok_ahead_of {P : Program} {w : World} {K : PySem.W.Frag} {mg : Str → Option Value} {base : Heap} {CL : Cl} (D : Def K mg "ahead_of" ["bars"] s_ahead_of) (T : Txt K mg CL)  : Has P w K mg base CX0 1 "ahead_of" ["bars"] (sp_ahead_of K) := by
  obtain ⟨f, fd, gm, F, bb⟩ := D
  refine ⟨f, fd, gm, F.ok sc_ahead_of (fun vs H Q E h => ?_) (fun cdv A outer s H vs Q E hr h => ?_), F.kp, bb⟩
  · obtain ⟨x1, rfl, _⟩ := h
    rfl
  obtain ⟨x1, rfl, h⟩ := h
  refine ⟨_, (pss_cons (ps_set (i := 1) sc_ahead_of.nd rfl (Or.inl rfl) (pe_lst pa_nil))
      (pss_cons (ps_set (i := 2) sc_ahead_of.nd rfl (Or.inl rfl) (pe_lst pa_nil))
      (pss_cons (ps_for PassesOwn.never rfl (pi_enum (by rfl) T.m_enumerate (pa_cons (pv 0) pa_nil)) (pg_tup (n := 2) rfl (pgs_cons (pg_name (i := 3) sc_ahead_of.nd rfl (Or.inl rfl)) (pgs_cons (pg_name (i := 4) sc_ahead_of.nd rfl (Or.inl rfl)) pgs_nil))) (pss_mid (ps_while PassesOwn.never (PW.pt (pw_and (pt_cmpR (neDK (K := K) hr.units) (pv 2) (pe_lst pa_nil) (nomark _)) (pw_and1 (pt_cmpR op_ge (pe_ix (ix_listK (K := K)) (pv 0) (pe_ix (ix_listK (K := K)) (pv 2) (pe_un un_neg pe_int) (fun _ _ => rfl)) (fun _ _ => rfl)) (pv 4) (nomark _))))) (pss_one (ps_expr (pe_bm0 PySem.F.plainAttrs_list PySem.F.slot_list_pop PySem.F.type_list_pop mt_pop (pv 2)))))
      (pss_cons (ps_if (pt_cmpR (eqDK (K := K) hr.units) (pv 2) (pe_lst pa_nil) (nomark _)) (pss_one (ps_expr (pe_bm PySem.F.plainAttrs_list PySem.F.slot_list_append PySem.F.type_list_append mt_append (pv 1) (pa_cons (pe_un un_neg pe_int) pa_nil)))) (pss_one (ps_expr (pe_bm PySem.F.plainAttrs_list PySem.F.slot_list_append PySem.F.type_list_append mt_append (pv 1) (pa_cons (pe_ix (ix_listK (K := K)) (pv 2) (pe_un un_neg pe_int) (fun _ _ => rfl)) pa_nil)))))
      (pss_one (ps_expr (pe_bm PySem.F.plainAttrs_list PySem.F.slot_list_append PySem.F.type_list_append mt_append (pv 2) (pa_cons (pv 3) pa_nil)))))))
      (pss_one (ps_ret (pv 1)))))), start_is (σ := [some x1, none, none, none, none]) rfl ?_⟩
  obtain ⟨a, bs, rfl, hS, hlen, k⟩ := h
  walk_at "sx"
  refine q_newL fun p np => q_newL fun q nq => ?_
  have hpq : p ≠ q := ne_of_none upd_same nq
  have nq0 : H q = none := by rw [upd_ne hpq.symm] at nq; exact nq
  have s0 : Same H (upd (upd H p (.lst [])) q (.lst [])) := (same_new np).trans (same_new nq)
  refine q_forE (a := a) (xs := ivs bs) (fun R r => ⟨_, rfl, r⟩) (fun i σ H' => ∃ (v3 v4 : Option V) (st : List Nat), σ = [some (.ref a), some (.ref p), some (.ref q), v3, v4] ∧ i ≤ bs.length ∧ st.length ≤ i ∧ AhSt K H bs p q i st H' ∧ SInv bs i st)
    ⟨none, none, [], rfl, Nat.zero_le _, Nat.le_refl _, ⟨s0, by rw [upd_ne hpq, upd_same]; rfl, upd_same⟩, sinv0 bs⟩ (fun i σ H' ⟨_, _, _, _, _, _, s1, _⟩ => s1.sm.seq hS) ?_ ?_
  · rintro i x σ H1 H2 hx ⟨v3, v4, st, rfl, _, hsl, a1, inv⟩ s2
    obtain ⟨hi, rfl⟩ := of_ivs hx
    walk_at "sx"
    refine q_mid (fun σ H5 => ∃ st', σ = [some (.ref a), some (.ref p), some (.ref q), some (.int (i : Int)), some (.int (g bs i))] ∧ AhSt K H bs p q i st' H5 ∧ st'.length ≤ i ∧ st' = pop bs (g bs i) st) ?_ ?_
    · refine q_while (fun m σ H3 => ∃ st', m = st'.length ∧ σ = [some (.ref a), some (.ref p), some (.ref q), some (.int (i : Int)), some (.int (g bs i))] ∧ AhSt K H bs p q i st' H3 ∧ pop bs (g bs i) st' = pop bs (g bs i) st ∧ st'.length ≤ i ∧ ∀ j ∈ st', j < i)
        ⟨_, st, rfl, rfl, a1.more s2, rfl, hsl, inv.lt⟩ ?_
      rintro m σ H3 ⟨st', rfl, rfl, a3, hp, hsl3, hl⟩
      walk_at "sx"
      refine q_neN (SqL.of a3.fq) fun H4 s4 => ?_
      walk_at "sx"
      have a4 := a3.more s4
      cases st' with
      | nil =>
        rw [if_neg (by simp [stI])]
        exact ⟨[], trivial, a4, hsl3, hp⟩
      | cons j r =>
        have hj := hl j List.mem_cons_self
        rw [if_pos (by simp [stI])]
        have f4 := a4.fq
        rw [stI_cons] at f4
        refine q_ix1 (SqL.of f4) (q_ixL (a4.sm.seq hS) rfl (by omega) ?_)
        walk_at "sx"
        by_cases c : g bs i ≤ g bs j
        · rw [if_pos (decide_eq_true c)]
          refine ⟨_, fun _ _ n => n, q_pop (xs := ivs (stI r)) (y := .int (j : Int)) (by rw [f4, ivs_app]) ?_⟩
          rw [pop_yes c] at hp
          exact ⟨r.length, by simp, r, rfl, rfl, ⟨same_mut a4.sm nq0, by rw [upd_ne hpq]; exact a4.fp, upd_same⟩, hp, by simp at hsl3; omega, fun m hm => hl m (List.mem_cons_of_mem _ hm)⟩
        · rw [if_neg (by simpa using c)]
          rw [pop_no (by omega)] at hp
          exact ⟨j :: r, trivial, a4, hsl3, hp⟩
    · rintro σ H5 ⟨st', rfl, a5, hsl5, hst⟩
      walk_at "sx"
      refine q_eqN (SqL.of a5.fq) fun H6 s6 => ?_
      walk_at "sx"
      have a6 := a5.more s6
      have f6 := a6.fq
      have hli : (links bs).take (i + 1) = (links bs).take i ++ [hd st'] := by
        rw [hst]
        unfold links
        rw [take_map_range _ hi, ← inv.dn]
        rfl
      have htk : (ivs ((links bs).take i)).length < 100000 := by
        rw [len_ivs, List.length_take, links_len]
        omega
      have last : ∀ y : Int, y = hd st' → ∃ (v3 v4 : Option V) (st : List Nat), [some (V.ref a), some (.ref p), some (.ref q), some (.int (i : Int)), some (.int (g bs i))] = [some (.ref a), some (.ref p), some (.ref q), v3, v4] ∧ i + 1 ≤ bs.length ∧ st.length ≤ i + 1 ∧
          AhSt K H bs p q (i + 1) st (upd (upd H6 p (.lst (ivs ((links bs).take i) ++ [.int y]))) q (.lst (ivs (stI st') ++ [.int (i : Int)]))) ∧ SInv bs (i + 1) st := by
        intro y hy
        refine ⟨_, _, i :: st', rfl, hi, by simpa using hsl5, ⟨same_mut (same_mut a6.sm np) nq0, ?_, ?_⟩, ?_⟩
        · rw [upd_ne hpq, upd_same, hli, hy]
          simp [ivs]
        · rw [upd_same, stI_cons]
          simp [ivs]
        · rw [hst]
          exact inv.step
      cases st' with
      | nil =>
        rw [if_pos (by simp [stI])]
        refine q_app a6.fp htk (q_app (by rw [upd_ne hpq.symm]; exact f6) (by simp [stI, ivs]) ?_)
        exact last _ rfl
      | cons j r =>
        rw [if_neg (by simp [stI])]
        have f6' := f6
        rw [stI_cons] at f6'
        refine ⟨.inl ⟨rfl, _, SqL.of a6.fp⟩, q_ix1 (SqL.of f6') ⟨p, _, _, rfl, rfl, a6.fp, sz_lt htk, ?_⟩⟩
        refine q_app (by rw [upd_ne hpq.symm]; exact f6) (Nat.lt_of_le_of_lt (stI_le hsl5) (by omega)) ?_
        exact last _ rfl
  · rintro σ H1 ⟨v3, v4, st, rfl, _, _, a1, _⟩
    walk_at "sx"
    refine k p H1 np a1.sm ?_
    have e := a1.fp
    rw [len_ivs, List.take_of_length_le (by rw [links_len]; exact Nat.le_refl _)] at e
    exact e
end Sky

/-! P2: behind_of, reaches: for good bars. -/
namespace Sky
open PySem PySem.Spec PyProof.Rows L2
local macro_rules | `(tactic| walk_at "sx") => `(tactic| try simp only [e_K, e_seq, e_asg, e_name, e_drop, e_ret, e_retN, e_ifs, e_next, e_var, e_c, e_op, e_un, e_rI0, e_rI, e_rU, e_test, e_B, e_bl, e_and, e_or, e_not, e_andV, e_orV, e_notV, e_if, e_CB, e_CKw, e_cons, e_nil, e_call,
  e_chn, e_cCons, e_cOne, e_BM, e_BM0, e_sub, e_par, e_ls, e_noP, e_part, e_intx, e_refx, e_yes, e_get0, e_getS, e_sl, List.set_cons_zero, List.set_cons_succ, List.cons_append, List.nil_append, List.append_nil, Bool.not_true, Bool.not_false, e_lst, e_tup, e_rev, e_eqi, e_nei, decide_true, decide_false, if_true, Bool.false_eq_true, if_false, e_any, e_fld, e_sfld, e_meth, e_make, e_par3])
abbrev s_behind_of : Stmt := top 9
abbrev N_behind_of : List Str := ["bars", "many", "place"]
theorem sc_behind_of : FnScope ["bars", "many", "place"] ["bars"] (defScope s_behind_of) := ⟨rfl, rfl, rfl, by decide +kernel, rfl, by decide +kernel, by decide +kernel⟩
def sp_behind_of (K : PySem.W.Frag) : Sp := Sp1 fun x H Q _ => ∃ (a : Addr) (bs : List Int), x = .ref a ∧ SqL K H a (ivs bs) ∧ bs.length ≤ 1000 ∧ ∀ p H', H p = none → Same H H' → H' p = some (.lst (ivs (behinds bs))) → Q (.ref p) H'
theorem ok_behind_of {P : Program} {w : World} {K : PySem.W.Frag} {mg : Str → Option Value} {base : Heap} {CL : Cl} (D : Def K mg "behind_of" ["bars"] s_behind_of) (T : Txt K mg CL) (h_ahead_of : Has P w K mg base CX0 1 "ahead_of" ["bars"] (sp_ahead_of K)) : Has P w K mg base CX0 2 "behind_of" ["bars"] (sp_behind_of K) := by
  obtain ⟨f, fd, gm, F, bb⟩ := D
  obtain ⟨f_ahead_of, fd_ahead_of, g_ahead_of, G_ahead_of, k_ahead_of, b_ahead_of⟩ := h_ahead_of
  refine ⟨f, fd, gm, F.ok sc_behind_of (fun vs H Q E h => ?_) (fun cdv A outer s H vs Q E hr h => ?_), F.kp, bb⟩
  · obtain ⟨x1, rfl, _⟩ := h
    rfl
  have hr_ahead_of : Room 1 (A.deeper (envOfC "behind_of" (defScope s_behind_of) s.heap.objs.size f cdv)) := hr.mono (by decide)
  obtain ⟨x1, rfl, h⟩ := h
  refine ⟨_, (pss_cons (ps_set (i := 1) sc_behind_of.nd rfl (Or.inr rfl) (pe_callB (lenK (K := K)) (by rfl) T.m_len bt_len (pa_cons (pv 0) pa_nil)))
      (pss_one (ps_ret (pe_revLK (K := K) (pe_lc (own := [("place", 2)]) (g := (gName 2)) (tt := tYes) (by rfl) sc_behind_of.nd (pi_list (pe_call G_ahead_of hr_ahead_of (by rfl) g_ahead_of k_ahead_of b_ahead_of .nil pass0 (pa_cons (pe_revLK (K := K) (pv 0)) pa_nil))) (blkOk_by (own := [("place", 2)]) (N := N_behind_of) (sc := defScope s_behind_of) (by decide +kernel)) (fun _ _ _ _ _ => (pg_name (i := 2) sc_behind_of.nd rfl (Or.inl rfl))) (fun _ _ _ _ _ => pts_nil) (fun _ _ _ _ _ => (pe_op op_sub (pe_op op_sub (pv 1) pe_int) (pv 2)))))))), start_is (σ := [some x1, none, none]) rfl ?_⟩
  obtain ⟨a, bs, rfl, hS, hlen, k⟩ := h
  walk_at "sx"
  refine q_lenI hS ?_
  refine q_lcN (xs := ivs (links bs.reverse)) (fun i v _ => v = .int ((bs.length : Int) - 1 - (links bs.reverse).getD i 0)) (fun R r => ?_) (by rw [len_ivs, links_len, List.length_reverse]; omega) (fun _ => rfl) (fun _ _ _ _ e _ => e) (fun i x H' Q' hx s1 k => ?_) ?_
  · walk_at "sx"
    refine ⟨_, hS, fun p np => ⟨_, rfl, p, bs.reverse, rfl, SqL.of (by rw [upd_same, rev_ivs]), by simpa using hlen, fun b H1 nb s1 hb => r b H1 ((same_new np).free nb) ((same_new np).trans s1) hb⟩⟩
  · obtain ⟨hi, rfl⟩ := of_ivs hx
    refine ⟨_, rfl, _, _, rfl, rfl, _, rfl, _, _, rfl, rfl, k _ _ (Same.refl _) rfl⟩
  · intro D H' acc nd s1 hd hl hv
    have e := acc_ivs hl hv
    subst e
    refine ⟨D, rfl, _, SqL.of hd, fun p np => k p _ (s1.free np) (s1.trans (same_new np)) ?_⟩
    have e2 : (List.range (ivs (links bs.reverse)).length).map (fun i => (bs.length : Int) - 1 - (links bs.reverse).getD i 0) = (links bs.reverse).map fun p => (bs.length : Int) - 1 - p := by
      rw [len_ivs]
      apply List.ext_getElem?
      intro i
      by_cases c : i < (links bs.reverse).length
      · simp [c]
      · simp [List.getElem?_eq_none (Nat.le_of_not_lt c), c]
    rw [upd_same, e2, rev_ivs, behinds_eq]
abbrev s_reaches : Stmt := top 10
abbrev N_reaches : List Str := ["bars", "ahead", "behind", "place"]
theorem sc_reaches : FnScope ["bars", "ahead", "behind", "place"] ["bars"] (defScope s_reaches) := ⟨rfl, rfl, rfl, by decide +kernel, rfl, by decide +kernel, by decide +kernel⟩
def sp_reaches (K : PySem.W.Frag) : Sp := Sp1 fun x H Q _ => ∃ (a : Addr) (bs : List Int), x = .ref a ∧ SqL K H a (ivs bs) ∧ Good bs ∧ bs.length ≤ 1000 ∧ ∀ p H' vs, H p = none → Same H H' → H' p = some (.lst vs) → Prs H' (reachL bs) vs → Q (.ref p) H'
theorem ok_reaches {P : Program} {w : World} {K : PySem.W.Frag} {mg : Str → Option Value} {base : Heap} {CL : Cl} (D : Def K mg "reaches" ["bars"] s_reaches) (T : Txt K mg CL) (h_asked_bars : Has P w K mg base CX0 2 "asked_bars" ["bars"] (sp_asked_bars K)) (h_ahead_of : Has P w K mg base CX0 1 "ahead_of" ["bars"] (sp_ahead_of K)) (h_behind_of : Has P w K mg base CX0 2 "behind_of" ["bars"] (sp_behind_of K)) : Has P w K mg base CX0 3 "reaches" ["bars"] (sp_reaches K) := by
  obtain ⟨f, fd, gm, F, bb⟩ := D
  obtain ⟨f_asked_bars, fd_asked_bars, g_asked_bars, G_asked_bars, k_asked_bars, b_asked_bars⟩ := h_asked_bars
  obtain ⟨f_ahead_of, fd_ahead_of, g_ahead_of, G_ahead_of, k_ahead_of, b_ahead_of⟩ := h_ahead_of
  obtain ⟨f_behind_of, fd_behind_of, g_behind_of, G_behind_of, k_behind_of, b_behind_of⟩ := h_behind_of
  refine ⟨f, fd, gm, F.ok sc_reaches (fun vs H Q E h => ?_) (fun cdv A outer s H vs Q E hr h => ?_), F.kp, bb⟩
  · obtain ⟨x1, rfl, _⟩ := h
    rfl
  have hr_asked_bars : Room 2 (A.deeper (envOfC "reaches" (defScope s_reaches) s.heap.objs.size f cdv)) := hr.mono (by decide)
  have hr_ahead_of : Room 1 (A.deeper (envOfC "reaches" (defScope s_reaches) s.heap.objs.size f cdv)) := hr.mono (by decide)
  have hr_behind_of : Room 2 (A.deeper (envOfC "reaches" (defScope s_reaches) s.heap.objs.size f cdv)) := hr.mono (by decide)
  obtain ⟨x1, rfl, h⟩ := h
  refine ⟨_, (pss_cons (ps_expr (pe_call G_asked_bars hr_asked_bars (by rfl) g_asked_bars k_asked_bars b_asked_bars .nil pass0 (pa_cons (pv 0) pa_nil)))
      (pss_cons (ps_set (i := 1) sc_reaches.nd rfl (Or.inr rfl) (pe_call G_ahead_of hr_ahead_of (by rfl) g_ahead_of k_ahead_of b_ahead_of .nil pass0 (pa_cons (pv 0) pa_nil)))
      (pss_cons (ps_set (i := 2) sc_reaches.nd rfl (Or.inr rfl) (pe_call G_behind_of hr_behind_of (by rfl) g_behind_of k_behind_of b_behind_of .nil pass0 (pa_cons (pv 0) pa_nil)))
      (pss_one (ps_ret (pe_lc (own := [("place", 3)]) (g := (gName 3)) (tt := tYes) (by rfl) sc_reaches.nd (pi_range1 (by rfl) T.m_range (pa_cons (pe_callB (lenK (K := K)) (by rfl) T.m_len bt_len (pa_cons (pv 0) pa_nil)) pa_nil)) (blkOk_by (own := [("place", 3)]) (N := N_reaches) (sc := defScope s_reaches) (by decide +kernel)) (fun _ _ _ _ _ => (pg_name (i := 3) sc_reaches.nd rfl (Or.inl rfl))) (fun _ _ _ _ _ => pts_nil) (fun _ _ _ _ _ => (pe_tup (pa_cons (pe_op op_add (pe_ix (ix_listK (K := K)) (pv 1) (pv 3) (fun _ _ => rfl)) pe_int) (pa_cons (pe_op op_sub (pe_ix (ix_listK (K := K)) (pv 2) (pv 3) (fun _ _ => rfl)) pe_int) pa_nil)))))))))), start_is (σ := [some x1, none, none, none]) rfl ?_⟩
  obtain ⟨a, bs, rfl, hS, good, hlen, k⟩ := h
  walk_at "sx"
  refine ⟨_, rfl, a, bs, rfl, hS, good, hlen, fun H1 s1 => ?_⟩
  refine ⟨_, rfl, a, bs, rfl, s1.seq hS, hlen, fun p H2 np s2 hp => ?_⟩
  walk_at "sx"
  refine ⟨_, rfl, a, bs, rfl, (s1.trans s2).seq hS, hlen, fun q H3 nq s3 hq => ?_⟩
  walk_at "sx"
  have s4 := (s1.trans s2).trans s3
  refine q_lcR (n := bs.length) (fun i v H => PrAt (reach bs i) v H) (fun R r => ⟨_, rfl, a, _, rfl, .inl (s4.seq hS), by rw [len_ivs]; exact r⟩) (by omega) (fun _ => rfl) (fun _ _ _ _ h t => h.mono t) (fun i H' Q' hi s5 k => ?_) ?_
  · simp only [wipe, List.map_cons, List.map_nil]
    walk_at "sx"
    refine q_ixL (l := links bs) (SqL.of (s5 _ _ (s3 _ _ hp))) rfl (by rw [links_len]; exact hi) ?_
    walk_at "sx"
    refine q_ixL (l := behinds bs) (SqL.of (s5 _ _ hq)) rfl (by rw [behinds_len]; exact hi) ?_
    walk_at "sx"
    refine q_newT fun t nt => k _ _ (same_new nt) ⟨t, rfl, ?_⟩
    rw [upd_same]
    have e1 : g (links bs) i = link bs i := links_at hi
    have e2 : g (behinds bs) i = behind bs i := behinds_at hi
    rw [e1, e2]
    rfl
  · intro D H' acc nd s5 hd hl hv
    exact k D H' acc (s4.free nd) (s4.trans s5) hd (Prs.of hl hv)
end Sky

/-! Mb: plain mathematics of boards. -/
namespace Sky
/-- a pair bounds the reach of a bar, and no board in it as high as the bar is greater than tot -/
def Bnd (bs : List Int) (tot : Int) (i : Nat) (p : Int × Int) : Prop :=
  0 ≤ p.1 ∧ p.1 ≤ (i : Int) ∧ (i : Int) ≤ p.2 ∧ p.2 < (bs.length : Int) ∧ (0 < p.1 → g bs (p.1 - 1).toNat < g bs i) ∧ (p.2 < (bs.length : Int) - 1 → g bs (p.2 + 1).toNat < g bs i) ∧ g bs i * (p.2 - p.1 + 1) ≤ tot
def Lies (bs : List Int) (f m h : Int) : Prop := 0 ≤ f ∧ 1 ≤ m ∧ 0 ≤ h ∧ f + m ≤ (bs.length : Int) ∧ ∀ k : Nat, f ≤ (k : Int) → (k : Int) < f + m → h ≤ g bs k
def Under (bs : List Int) (f m h : Int) (rs : List (Int × Int)) : Prop := Lies bs f m h ∧ rs.length = bs.length ∧ ∀ i, i < bs.length → Bnd bs (m * h) i (rs.getD i (0, 0))
def rf (bs : List Int) (i : Nat) : Int := (reach bs i).1
def rl (bs : List Int) (i : Nat) : Int := (reach bs i).2
def size (bs : List Int) (i : Nat) : Int := g bs i * (rl bs i - rf bs i + 1)
theorem rf_ge (bs : List Int) (i : Nat) : 0 ≤ rf bs i := by
  have := link_ge bs i
  unfold rf reach
  simp only
  omega
theorem rf_le (bs : List Int) (i : Nat) : rf bs i ≤ (i : Int) := by
  have := link_lt bs i
  unfold rf reach
  simp only
  omega
theorem rl_ge {bs : List Int} {i : Nat} (h : i < bs.length) : (i : Int) ≤ rl bs i := by
  have := behind_gt h
  unfold rl reach
  simp only
  omega
theorem rl_lt {bs : List Int} {i : Nat} : rl bs i < (bs.length : Int) := by
  have := behind_le (bs := bs) i
  unfold rl reach
  simp only
  omega
theorem rf_low {bs : List Int} {i : Nat} (h : 0 < rf bs i) : g bs (rf bs i - 1).toNat < g bs i := by
  have e : rf bs i - 1 = link bs i := by
    unfold rf reach
    simp only
    omega
  rw [e]
  have h2 : 0 ≤ link bs i := by omega
  exact down_low bs (g bs i) i _ (by rw [Int.toNat_of_nonneg h2]; rfl)
theorem rf_all {bs : List Int} {i k : Nat} (h1 : rf bs i ≤ (k : Int)) (h2 : k ≤ i) : g bs i ≤ g bs k := by
  by_cases e : k = i
  · rw [e]
    exact Int.le_refl _
  · refine down_between bs (g bs i) i k (by omega) ?_
    have : rf bs i = link bs i + 1 := rfl
    unfold link at this
    omega
theorem rl_rev {bs : List Int} {i : Nat} (h : i < bs.length) : rl bs i = (bs.length : Int) - 1 - rf bs.reverse (bs.length - 1 - i) := by
  unfold rl rf reach behind
  simp only
  omega
theorem rl_low {bs : List Int} {i : Nat} (h : i < bs.length) (h2 : rl bs i < (bs.length : Int) - 1) : g bs (rl bs i + 1).toNat < g bs i := by
  have e := rl_rev h
  have a := rf_low (bs := bs.reverse) (i := bs.length - 1 - i) (by omega)
  have l1 := rf_le bs.reverse (bs.length - 1 - i)
  rw [g_rev (by omega), g_rev (by omega)] at a
  have e1 : bs.length - 1 - (rf bs.reverse (bs.length - 1 - i) - 1).toNat = (rl bs i + 1).toNat := by omega
  have e2 : bs.length - 1 - (bs.length - 1 - i) = i := by omega
  rwa [e1, e2] at a
theorem rl_all {bs : List Int} {i k : Nat} (h : i < bs.length) (h1 : (k : Int) ≤ rl bs i) (h2 : i ≤ k) : g bs i ≤ g bs k := by
  have e := rl_rev h
  have lt := rl_lt (bs := bs) (i := i)
  have a := rf_all (bs := bs.reverse) (i := bs.length - 1 - i) (k := bs.length - 1 - k) (by omega) (by omega)
  rw [g_rev (by omega), g_rev (by omega)] at a
  have e1 : bs.length - 1 - (bs.length - 1 - i) = i := by omega
  have e2 : bs.length - 1 - (bs.length - 1 - k) = k := by omega
  rwa [e1, e2] at a
/-- a stretch no bar of which is lower lies in the reach -/
theorem in_reach {bs : List Int} {i lo j : Nat} (h1 : i ≤ lo) (h2 : lo ≤ j) (h3 : j < bs.length) (h : ∀ k, i ≤ k → k ≤ j → g bs lo ≤ g bs k) : rf bs lo ≤ (i : Int) ∧ (j : Int) ≤ rl bs lo := by
  have hl : lo < bs.length := by omega
  constructor
  · have l1 := rf_le bs lo
    by_cases c : rf bs lo ≤ (i : Int)
    · exact c
    · have a := rf_low (bs := bs) (i := lo) (by omega)
      have b := h (rf bs lo - 1).toNat (by omega) (by omega)
      omega
  · have l1 := rl_ge hl
    by_cases c : (j : Int) ≤ rl bs lo
    · exact c
    · have a := rl_low hl (by omega)
      have b := h (rl bs lo + 1).toNat (by omega) (by omega)
      omega
theorem reachL_at {bs : List Int} {i : Nat} (h : i < bs.length) : (reachL bs).getD i (0, 0) = (rf bs i, rl bs i) := by
  unfold reachL
  rw [List.getD_eq_getElem?_getD, List.getElem?_map, List.getElem?_range h]
  rfl
theorem bnd_reach {bs : List Int} {i : Nat} {tot : Int} (h : i < bs.length) (ht : size bs i ≤ tot) : Bnd bs tot i (rf bs i, rl bs i) :=
  ⟨rf_ge bs i, rf_le bs i, rl_ge h, rl_lt, fun c => rf_low c, fun c => rl_low h c, ht⟩
theorem lies_reach {bs : List Int} (hg : Good bs) {i : Nat} (h : i < bs.length) : Lies bs (rf bs i) (rl bs i - rf bs i + 1) (g bs i) := by
  have a := rf_ge bs i
  have b := rf_le bs i
  have c := rl_ge h
  have d := rl_lt (bs := bs) (i := i)
  refine ⟨a, by omega, (hg.at h).1, by omega, fun k k1 k2 => ?_⟩
  by_cases e : k ≤ i
  · exact rf_all k1 e
  · exact rl_all h (by omega) (by omega)
theorem under_board {bs : List Int} (hg : Good bs) {i : Nat} (h : i < bs.length) (hm : ∀ j, j < bs.length → size bs j ≤ size bs i) : Under bs (rf bs i) (rl bs i - rf bs i + 1) (g bs i) (reachL bs) := by
  refine ⟨lies_reach hg h, reachL_len bs, fun j hj => ?_⟩
  rw [reachL_at hj]
  refine bnd_reach hj ?_
  rw [Int.mul_comm]
  exact hm j hj
/-- the first place of a value of a list -/
theorem first_at {m : Int} : ∀ {l : List Int}, m ∈ l → ∃ j, j < l.length ∧ g l j = m ∧ ∀ k, k < j → g l k ≠ m
  | [], h => by simp at h
  | x :: r, h => by
    by_cases e : x = m
    · exact ⟨0, by simp, by simp [g, e], fun k hk => by omega⟩
    · have h2 : m ∈ r := by
        rcases List.mem_cons.mp h with h | h
        · exact absurd h.symm e
        · exact h
      obtain ⟨j, h3, h4, h5⟩ := first_at h2
      refine ⟨j + 1, by simp; omega, by simpa [g] using h4, fun k hk => ?_⟩
      cases k with
      | zero => simpa [g] using e
      | succ k =>
        have := h5 k (by omega)
        simpa [g] using this
theorem Good.mul {bs : List Int} (hg : Good bs) {i : Nat} (h : i < bs.length) : -(2 ^ 64) < g bs i ∧ g bs i < 2 ^ 64 := by
  have := hg.at h
  omega
end Sky

/-! Pb: boards: the class, by its fields. -/
namespace Sky
open PySem PySem.Spec PyProof.Rows L2
local macro_rules | `(tactic| walk_at "sx") => `(tactic| try simp only [e_K, e_seq, e_asg, e_name, e_drop, e_ret, e_retN, e_ifs, e_next, e_var, e_c, e_op, e_un, e_rI0, e_rI, e_rU, e_test, e_B, e_bl, e_and, e_or, e_not, e_andV, e_orV, e_notV, e_if, e_CB, e_CKw, e_cons, e_nil, e_call,
  e_chn, e_cCons, e_cOne, e_BM, e_BM0, e_sub, e_par, e_ls, e_noP, e_part, e_intx, e_refx, e_yes, e_get0, e_getS, e_sl, List.set_cons_zero, List.set_cons_succ, List.cons_append, List.nil_append, List.append_nil, Bool.not_true, Bool.not_false, e_lst, e_tup, e_rev, e_eqi, e_nei, decide_true, decide_false, if_true, Bool.false_eq_true, if_false, e_any, e_fld, e_sfld, e_meth, e_make, e_par3])
def bdF (f m h : Int) (l : Addr) : List (Str × V) := [("first", .int f), ("many", .int m), ("high", .int h), ("around", .ref l)]
theorem bdF_first (f m h : Int) (l : Addr) : List.lookup ("first" : Str) (bdF f m h l) = some (V.int f) := by kernel_rfl
theorem bdF_many (f m h : Int) (l : Addr) : List.lookup ("many" : Str) (bdF f m h l) = some (V.int m) := by kernel_rfl
theorem bdF_high (f m h : Int) (l : Addr) : List.lookup ("high" : Str) (bdF f m h l) = some (V.int h) := by kernel_rfl
theorem bdF_around (f m h : Int) (l : Addr) : List.lookup ("around" : Str) (bdF f m h l) = some (V.ref l) := by kernel_rfl
theorem bdF_shows (f m h : Int) (l : Addr) : List.lookup ("shows" : Str) (bdF f m h l) = none := by kernel_rfl
theorem bdF_bounded (f m h : Int) (l : Addr) : List.lookup ("bounded" : Str) (bdF f m h l) = none := by kernel_rfl
theorem bd2 (f m : Int) : putF "many" (.int m) (putF "first" (.int f) []) = ([("first", .int f), ("many", .int m)] : List (Str × V)) := by kernel_rfl
theorem bd3 (f m h : Int) : putF "high" (.int h) (putF "many" (.int m) (putF "first" (.int f) [])) = ([("first", .int f), ("many", .int m), ("high", .int h)] : List (Str × V)) := by kernel_rfl
theorem bd4 (f m h : Int) (l : Addr) : putF "around" (.ref l) (putF "high" (.int h) (putF "many" (.int m) (putF "first" (.int f) []))) = bdF f m h l := by kernel_rfl
/-- a board stands at p, its list at l -/
def BdAt (C : Addr) (H : Hp) (p : Addr) (f m h : Int) (l : Addr) : Prop := ∃ dx, H p = some (.ins C dx (bdF f m h l))
theorem BdAt.more {C : Addr} {H H' : Hp} {p : Addr} {f m h : Int} {l : Addr} (b : BdAt C H p f m h l) (s : Same H H') : BdAt C H' p f m h l := by
  obtain ⟨dx, e⟩ := b
  exact ⟨dx, s _ _ e⟩
section
variable {K : PySem.W.Frag} {mg : Str → Option Value} {CL : Cl} (T : Txt K mg CL) {H : Hp} {p : Addr} {f m h : Int} {l : Addr} {Q : VK} (b : BdAt CL.Board H p f m h l)
include T b
theorem q_first (q : Q (.int f) H) : rFld K "first" (.ref p) H Q := by
  obtain ⟨dx, e⟩ := b
  exact q_fld e T.cl_Board T.na_Board_first (bdF_first _ _ _ _) q
theorem q_many (q : Q (.int m) H) : rFld K "many" (.ref p) H Q := by
  obtain ⟨dx, e⟩ := b
  exact q_fld e T.cl_Board T.na_Board_many (bdF_many _ _ _ _) q
theorem q_high (q : Q (.int h) H) : rFld K "high" (.ref p) H Q := by
  obtain ⟨dx, e⟩ := b
  exact q_fld e T.cl_Board T.na_Board_high (bdF_high _ _ _ _) q
theorem q_around (q : Q (.ref l) H) : rFld K "around" (.ref p) H Q := by
  obtain ⟨dx, e⟩ := b
  exact q_fld e T.cl_Board T.na_Board_around (bdF_around _ _ _ _) q
end
abbrev s_Board___init__ : Stmt := inClass (top 13) 0
abbrev N_Board___init__ : List Str := ["self", "first", "many", "high", "around"]
theorem sc_Board___init__ : FnScope ["self", "first", "many", "high", "around"] ["self", "first", "many", "high", "around"] (defScope s_Board___init__) := ⟨rfl, rfl, rfl, by decide +kernel, rfl, by decide +kernel, by decide +kernel⟩
def sp_Board___init__ (K : PySem.W.Frag) (CL : Cl) : Sp := Sp5 fun x y z u v H Q _ => ∃ (p dx a : Addr) (f m h : Int) (vs : List V), x = .ref p ∧ y = .int f ∧ z = .int m ∧ u = .int h ∧ v = .ref a ∧ H p = some (.ins CL.Board dx []) ∧ SqL K H a vs ∧
  ∀ l H', H l = none → BdAt CL.Board H' p f m h l → H' l = some (.lst vs) → (∀ b o, H b = some o → b ≠ p → H' b = some o) → Q .non H'
theorem seq_upd {K : PySem.W.Frag} {H : Hp} {a p : Addr} {vs : List V} {o o' : HO} (h : SqL K H a vs) (hp : H p = some o) (ho : ∀ xs, o ≠ .lst xs) (ho2 : ∀ ob xs, o ≠ .frz ob (.lst xs)) : SqL K (upd H p o') a vs := by
  rcases h with (h | ⟨ob, h⟩) | h
  · exact .inl (.inl (by rw [upd_ne (ne_of h hp fun z => ho _ z.symm)]; exact h))
  · exact .inl (.inr ⟨ob, by rw [upd_ne (ne_of h hp fun z => ho2 _ _ z.symm)]; exact h⟩)
  · exact .inr h
theorem ok_Board___init__ {P : Program} {w : World} {K : PySem.W.Frag} {mg : Str → Option Value} {base : Heap} {CL : Cl} (D : DefI K CL.Board "Board.__init__" ["self", "first", "many", "high", "around"] s_Board___init__) (T : Txt K mg CL)  : HasI P w K mg base CX0 1 CL.Board ["self", "first", "many", "high", "around"] (sp_Board___init__ K CL) := by
  obtain ⟨f, fd, F, bb, mm⟩ := D
  refine ⟨f, fd, F.ok sc_Board___init__ (fun vs H Q E h => ?_) (fun cdv A outer s H vs Q E hr h => ?_), bb, mm⟩
  · obtain ⟨x1, x2, x3, x4, x5, rfl, _⟩ := h
    rfl
  obtain ⟨x1, x2, x3, x4, x5, rfl, h⟩ := h
  refine ⟨_, (pss_cons (ps_fld (pv 0) (pv 1) (by rfl))
      (pss_cons (ps_fld (pv 0) (pv 2) (by rfl))
      (pss_cons (ps_fld (pv 0) (pv 3) (by rfl))
      (pss_one (ps_fld (pv 0) (pe_callTy (listK (K := K)) (by rfl) T.m_list bt_list (pa_cons (pv 4) pa_nil)) (by rfl)))))), start_is (σ := [some x1, some x2, some x3, some x4, some x5]) rfl ?_⟩
  obtain ⟨p, dx, a, i, m, h, vs, rfl, rfl, rfl, rfl, rfl, hp, hS, k⟩ := h
  walk_at "sx"
  refine ⟨_, _, _, _, rfl, hp, T.cl_Board, T.na_Board_first, by show 0 < 1000; decide, ?_⟩
  walk_at "sx"
  refine ⟨_, _, _, _, rfl, upd_same, T.cl_Board, T.na_Board_many, by show 1 < 1000; decide, ?_⟩
  walk_at "sx"
  refine ⟨_, _, _, _, rfl, upd_same, T.cl_Board, T.na_Board_high, by rw [bd2]; show 2 < 1000; decide, ?_⟩
  walk_at "sx"
  have np : ∀ b o, H b = some o → b ≠ p → upd (upd (upd H p (.ins CL.Board dx (putF "first" (.int i) []))) p (.ins CL.Board dx (putF "many" (.int m) (putF "first" (.int i) [])))) p (.ins CL.Board dx (putF "high" (.int h) (putF "many" (.int m) (putF "first" (.int i) [])))) b = some o := fun b o e hb => by
    rw [upd_ne hb, upd_ne hb, upd_ne hb]
    exact e
  have hp3 : upd (upd (upd H p (.ins CL.Board dx (putF "first" (.int i) []))) p (.ins CL.Board dx (putF "many" (.int m) (putF "first" (.int i) [])))) p (.ins CL.Board dx (putF "high" (.int h) (putF "many" (.int m) (putF "first" (.int i) [])))) p = some (.ins CL.Board dx (putF "high" (.int h) (putF "many" (.int m) (putF "first" (.int i) [])))) := upd_same
  have hS3 : SqL K (upd (upd (upd H p (.ins CL.Board dx (putF "first" (.int i) []))) p (.ins CL.Board dx (putF "many" (.int m) (putF "first" (.int i) [])))) p (.ins CL.Board dx (putF "high" (.int h) (putF "many" (.int m) (putF "first" (.int i) []))))) a vs := by
    refine seq_upd (seq_upd (seq_upd hS hp ?_ ?_) upd_same ?_ ?_) upd_same ?_ ?_ <;> (intros; intro z; cases z)
  have fr : ∀ l, upd (upd (upd H p (.ins CL.Board dx (putF "first" (.int i) []))) p (.ins CL.Board dx (putF "many" (.int m) (putF "first" (.int i) [])))) p (.ins CL.Board dx (putF "high" (.int h) (putF "many" (.int m) (putF "first" (.int i) [])))) l = none → l ≠ p ∧ H l = none := fun l e => by
    have n : l ≠ p := (ne_of_none upd_same e).symm
    rw [upd_ne n, upd_ne n, upd_ne n] at e
    exact ⟨n, e⟩
  generalize upd (upd (upd H p (.ins CL.Board dx (putF "first" (.int i) []))) p (.ins CL.Board dx (putF "many" (.int m) (putF "first" (.int i) [])))) p (.ins CL.Board dx (putF "high" (.int h) (putF "many" (.int m) (putF "first" (.int i) [])))) = H3 at np hp3 hS3 fr ⊢
  refine q_list hS3 fun l nl => ?_
  obtain ⟨nlp, nl0⟩ := fr l nl
  refine ⟨_, _, _, _, rfl, by rw [upd_ne nlp.symm]; exact hp3, T.cl_Board, T.na_Board_around, by rw [bd3]; show 3 < 1000; decide, ?_⟩
  walk_at "sx"
  refine k l _ nl0 ⟨dx, by rw [upd_same, bd4]⟩ ?_ fun b o e hb => ?_
  · rw [upd_ne nlp, upd_same]
  · rw [upd_ne hb, upd_ne (ne_of_none (np b o e hb) nl)]
    exact np b o e hb
abbrev s_Board_bounded : Stmt := inClass (top 13) 2
abbrev N_Board_bounded : List Str := ["self", "bars", "place", "first", "last"]
theorem sc_Board_bounded : FnScope ["self", "bars", "place", "first", "last"] ["self", "bars", "place"] (defScope s_Board_bounded) := ⟨rfl, rfl, rfl, by decide +kernel, rfl, by decide +kernel, by decide +kernel⟩
def sp_Board_bounded (K : PySem.W.Frag) (CL : Cl) : Sp := Sp3 fun x y z H Q _ => ∃ (p a l : Addr) (bs : List Int) (i : Nat) (f m h : Int) (rs : List (Int × Int)) (vs : List V), x = .ref p ∧ y = .ref a ∧ z = .int (i : Int) ∧ BdAt CL.Board H p f m h l ∧ H l = some (.lst vs) ∧ Prs H rs vs ∧ SqL K H a (ivs bs) ∧ Good bs ∧ i < bs.length ∧ i < rs.length ∧ 0 ≤ m ∧ m ≤ 1000 ∧
  ∀ (c : Bool) H', Same H H' → (c = true ↔ Bnd bs (m * h) i (rs.getD i (0, 0))) → Q (.bl c) H'
theorem Prs.get {H : Hp} {l : List (Int × Int)} {vs : List V} (p : Prs H l vs) {i : Nat} (hi : i < l.length) : ∃ t, vs[i]? = some (.ref t) ∧ H t = some (.tup [.int (l.getD i (0, 0)).1, .int (l.getD i (0, 0)).2]) := by
  have hv : i < vs.length := by rw [p.len]; exact hi
  obtain ⟨ab, h1, t, h2, h3⟩ := p.at (List.getElem?_eq_getElem hv)
  refine ⟨t, by rw [List.getElem?_eq_getElem hv, h2], ?_⟩
  rw [List.getD_eq_getElem?_getD, h1]
  exact h3
theorem ok_Board_bounded {P : Program} {w : World} {K : PySem.W.Frag} {mg : Str → Option Value} {base : Heap} {CL : Cl} (D : DefM K CL.Board "bounded" "Board.bounded" ["self", "bars", "place"] s_Board_bounded) (T : Txt K mg CL)  : HasM P w K mg base CX0 1 CL.Board "bounded" ["self", "bars", "place"] (sp_Board_bounded K CL) := by
  obtain ⟨f, fd, F, bb, mm⟩ := D
  refine ⟨f, fd, F.ok sc_Board_bounded (fun vs H Q E h => ?_) (fun cdv A outer s H vs Q E hr h => ?_), bb, mm⟩
  · obtain ⟨x1, x2, x3, rfl, _⟩ := h
    rfl
  obtain ⟨x1, x2, x3, rfl, h⟩ := h
  refine ⟨_, (pss_cons (ps_asg (pe_ix (ix_listK (K := K)) (pe_fldK (K := K) (pv 0) (by rfl)) (pv 2) (fun _ _ => rfl)) (pg_tup (n := 2) rfl (pgs_cons (pg_name (i := 3) sc_Board_bounded.nd rfl (Or.inl rfl)) (pgs_cons (pg_name (i := 4) sc_Board_bounded.nd rfl (Or.inl rfl)) pgs_nil))))
      (pss_cons (ps_if (pt_not (pt_chn pe_int (pch_cons op_le (pv 3) (pch_cons op_le (pv 2) (pch_cons op_le (pv 4) (pch_one op_lt (pe_callB (lenK (K := K)) (by rfl) T.m_len bt_len (pa_cons (pv 1) pa_nil)))))))) (pss_one (ps_ret pe_bl)) pss_nil)
      (pss_cons (ps_if (PW.pt (pw_or (PW.pt (pw_and (pt_cmpR op_gt (pv 3) pe_int (nomark _)) (pw_and1 (pt_cmpR op_ge (pe_ix (ix_listK (K := K)) (pv 1) (pe_op op_sub (pv 3) pe_int) (fun _ _ => rfl)) (pe_ix (ix_listK (K := K)) (pv 1) (pv 2) (fun _ _ => rfl)) (nomark _))))) (pw_or1 (PW.pt (pw_and (pt_cmpR op_lt (pv 4) (pe_op op_sub (pe_callB (lenK (K := K)) (by rfl) T.m_len bt_len (pa_cons (pv 1) pa_nil)) pe_int) (nomark _)) (pw_and1 (pt_cmpR op_ge (pe_ix (ix_listK (K := K)) (pv 1) (pe_op op_add (pv 4) pe_int) (fun _ _ => rfl)) (pe_ix (ix_listK (K := K)) (pv 1) (pv 2) (fun _ _ => rfl)) (nomark _)))))))) (pss_one (ps_ret pe_bl)) pss_nil)
      (pss_one (ps_ret (pe_cmpR op_le (pe_op op_mul (pe_ix (ix_listK (K := K)) (pv 1) (pv 2) (fun _ _ => rfl)) (pe_op op_add (pe_op op_sub (pv 4) (pv 3)) pe_int)) (pe_op op_mul (pe_fldK (K := K) (pv 0) (by rfl)) (pe_fldK (K := K) (pv 0) (by rfl))) (nomark _))))))), start_is (σ := [some x1, some x2, some x3, none, none]) rfl ?_⟩
  obtain ⟨p, a, l, bs, i, fi, m, h, rs, vs, rfl, rfl, rfl, hb, hl, hv, hS, good, hi, hir, m0, m1, k⟩ := h
  obtain ⟨t, ht, hT⟩ := hv.get hir
  walk_at "sx"
  refine q_around T hb ?_
  refine q_ixV (SqL.of hl) rfl ht ?_
  generalize rs.getD i (0, 0) = ab at hT k ⊢
  obtain ⟨u, v⟩ := ab
  refine q_g2 (SqT.of hT) ?_
  have kF : ¬ Bnd bs (m * h) i (u, v) → Q (.bl false) H := fun n => k false H (Same.refl _) ⟨fun e => (by cases e), fun e => absurd e n⟩
  have kT : Bnd bs (m * h) i (u, v) → Q (.bl true) H := fun n => k true H (Same.refl _) ⟨fun _ => n, fun _ => rfl⟩
  walk_at "sx"
  have gi := good.mul hi
  have last : 0 ≤ u → u ≤ (i : Int) → (i : Int) ≤ v → v < (bs.length : Int) → (0 < u → g bs (u - 1).toNat < g bs i) → (v < (bs.length : Int) - 1 → g bs (v + 1).toNat < g bs i) →
      rIxL K (.ref a) (.int (i : Int)) H fun v8 H1 => rI CMul (fun i j => V.int (i * j)) v8 (.int (v - u + 1)) H1 fun v H1 => rFld K "many" (.ref p) H1 fun v9 H1 => rFld K "high" (.ref p) H1 fun w H2 => rI CMul (fun i j => .int (i * j)) v9 w H2 fun w H2 => rI0 (fun i j => V.bl (decide (i ≤ j))) v w H2 Q := by
    intro c1 c2 c3 c4 c5 c6
    refine q_ixL hS rfl hi ?_
    walk_at "sx"
    refine ⟨.inl gi, ?_⟩
    refine q_many T hb (q_high T hb ?_)
    walk_at "sx"
    refine ⟨.inl ⟨by omega, by omega⟩, ?_⟩
    refine k _ H (Same.refl _) ?_
    rw [decide_eq_true_eq]
    exact ⟨fun e => ⟨c1, c2, c3, c4, c5, c6, e⟩, fun e => e.2.2.2.2.2.2⟩
  have mid : 0 ≤ u → u ≤ (i : Int) → (i : Int) ≤ v → v < (bs.length : Int) → (0 < u → g bs (u - 1).toNat < g bs i) →
      rLenK K [V.ref a] H fun v_4 H1 => rI0 (fun i j => V.int (i - j)) v_4 (V.int 1) H1 fun w H2 => rI0 (fun i j => V.bl (decide (i < j))) (V.int v) w H2 fun v_5 H1 => ∃ b, v_5 = V.bl b ∧ if b = true then
          rIxL K (V.ref a) (V.int (v + 1)) H1 fun v_6 H1 => rIxL K (V.ref a) (V.int (i : Int)) H1 fun w H2 => rI0 (fun i j => V.bl (decide (j ≤ i))) v_6 w H2 fun v_7 H1 => ∃ b, v_7 = V.bl b ∧ if b = true then Q (V.bl false) H1 else
            rIxL K (.ref a) (.int (i : Int)) H1 fun v8 H1 => rI CMul (fun i j => V.int (i * j)) v8 (.int (v - u + 1)) H1 fun v H1 => rFld K "many" (.ref p) H1 fun v9 H1 => rFld K "high" (.ref p) H1 fun w H2 => rI CMul (fun i j => .int (i * j)) v9 w H2 fun w H2 => rI0 (fun i j => V.bl (decide (i ≤ j))) v w H2 Q
        else
            rIxL K (.ref a) (.int (i : Int)) H1 fun v8 H1 => rI CMul (fun i j => V.int (i * j)) v8 (.int (v - u + 1)) H1 fun v H1 => rFld K "many" (.ref p) H1 fun v9 H1 => rFld K "high" (.ref p) H1 fun w H2 => rI CMul (fun i j => .int (i * j)) v9 w H2 fun w H2 => rI0 (fun i j => V.bl (decide (i ≤ j))) v w H2 Q := by
    intro c1 c2 c3 c4 c5
    refine q_lenI hS ?_
    walk_at "sx"
    by_cases d : v < (bs.length : Int) - 1
    · rw [if_pos (decide_eq_true d)]
      refine q_ixL hS (j := (v + 1).toNat) (by omega) (by omega) (q_ixL hS rfl hi ?_)
      walk_at "sx"
      by_cases e : g bs i ≤ g bs (v + 1).toNat
      · rw [if_pos (decide_eq_true e)]
        refine kF fun z => ?_
        have := z.2.2.2.2.2.1 d
        simp only at this
        omega
      · rw [if_neg (by simpa using e)]
        exact last c1 c2 c3 c4 c5 fun _ => by omega
    · rw [if_neg (by simpa using d)]
      exact last c1 c2 c3 c4 c5 fun z => absurd z d
  by_cases c1 : 0 ≤ u
  · rw [if_pos (decide_eq_true c1)]
    by_cases c2 : u ≤ (i : Int)
    · rw [if_pos (decide_eq_true c2)]
      by_cases c3 : (i : Int) ≤ v
      · rw [if_pos (decide_eq_true c3)]
        refine q_lenI hS ?_
        walk_at "sx"
        by_cases c4 : v < (bs.length : Int)
        · rw [if_neg (by simpa using c4)]
          by_cases d : 0 < u
          · rw [if_pos (decide_eq_true d)]
            refine q_ixL hS (j := (u - 1).toNat) (by omega) (by omega) (q_ixL hS rfl hi ?_)
            walk_at "sx"
            by_cases e : g bs i ≤ g bs (u - 1).toNat
            · rw [if_pos (decide_eq_true e)]
              refine kF fun z => ?_
              have := z.2.2.2.2.1 d
              simp only at this
              omega
            · rw [if_neg (by simpa using e)]
              exact mid c1 c2 c3 c4 fun _ => by omega
          · rw [if_neg (by simpa using d)]
            exact mid c1 c2 c3 c4 fun z => absurd z d
        · rw [if_pos (by simpa using c4)]
          exact kF fun z => c4 z.2.2.2.1
      · rw [if_neg (by simpa using c3)]
        exact kF fun z => c3 z.2.2.1
    · rw [if_neg (by simpa using c2)]
      exact kF fun z => c2 z.2.1
  · rw [if_neg (by simpa using c1)]
    exact kF fun z => c1 z.1
end Sky

/-! Pbs: a board's own word; board. -/
namespace Sky
open PySem PySem.Spec PyProof.Rows L2
local macro_rules | `(tactic| walk_at "sx") => `(tactic| try simp only [e_K, e_seq, e_asg, e_name, e_drop, e_ret, e_retN, e_ifs, e_next, e_var, e_c, e_op, e_un, e_rI0, e_rI, e_rU, e_test, e_B, e_bl, e_and, e_or, e_not, e_andV, e_orV, e_notV, e_if, e_CB, e_CKw, e_cons, e_nil, e_call,
  e_chn, e_cCons, e_cOne, e_BM, e_BM0, e_sub, e_par, e_ls, e_noP, e_part, e_intx, e_refx, e_yes, e_get0, e_getS, e_sl, List.set_cons_zero, List.set_cons_succ, List.cons_append, List.nil_append, List.append_nil, Bool.not_true, Bool.not_false, e_lst, e_tup, e_rev, e_eqi, e_nei, decide_true, decide_false, if_true, Bool.false_eq_true, if_false, e_any, e_fld, e_sfld, e_meth, e_make, e_par3])
abbrev s_Board_shows : Stmt := inClass (top 13) 1
abbrev N_Board_shows : List Str := ["self", "bars", "place"]
theorem sc_Board_shows : FnScope ["self", "bars", "place"] ["self", "bars"] (defScope s_Board_shows) := ⟨rfl, rfl, rfl, by decide +kernel, rfl, by decide +kernel, by decide +kernel⟩
def sp_Board_shows (K : PySem.W.Frag) (CL : Cl) : Sp := Sp2 fun x y H Q _ => ∃ (p a l : Addr) (bs : List Int) (f m h : Int) (rs : List (Int × Int)) (vs : List V), x = .ref p ∧ y = .ref a ∧ BdAt CL.Board H p f m h l ∧ H l = some (.lst vs) ∧ Prs H rs vs ∧ SqL K H a (ivs bs) ∧ Good bs ∧ bs.length ≤ 1000 ∧
  ∀ (c : Bool) H', Same H H' → (c = true ↔ Under bs f m h rs) → Q (.bl c) H'
theorem ok_Board_shows {P : Program} {w : World} {K : PySem.W.Frag} {mg : Str → Option Value} {base : Heap} {CL : Cl} (D : DefM K CL.Board "shows" "Board.shows" ["self", "bars"] s_Board_shows) (T : Txt K mg CL) (h_Board_bounded : HasM P w K mg base CX0 1 CL.Board "bounded" ["self", "bars", "place"] (sp_Board_bounded K CL)) : HasM P w K mg base CX0 2 CL.Board "shows" ["self", "bars"] (sp_Board_shows K CL) := by
  obtain ⟨f, fd, F, bb, mm⟩ := D
  obtain ⟨f_Board_bounded, fd_Board_bounded, G_Board_bounded, b_Board_bounded, M_Board_bounded⟩ := h_Board_bounded
  refine ⟨f, fd, F.ok sc_Board_shows (fun vs H Q E h => ?_) (fun cdv A outer s H vs Q E hr h => ?_), bb, mm⟩
  · obtain ⟨x1, x2, rfl, _⟩ := h
    rfl
  have hr_Board_bounded : Room 1 (A.deeper (envOfC "Board.shows" (defScope s_Board_shows) s.heap.objs.size f cdv)) := hr.mono (by decide)
  obtain ⟨x1, x2, rfl, h⟩ := h
  refine ⟨_, (pss_cons (ps_if (PW.pt (pw_or (pt_cmpR op_lt (pe_fldK (K := K) (pv 0) (by rfl)) pe_int (nomark _)) (pw_or (pt_cmpR op_lt (pe_fldK (K := K) (pv 0) (by rfl)) pe_int (nomark _)) (pw_or (pt_cmpR op_lt (pe_fldK (K := K) (pv 0) (by rfl)) pe_int (nomark _)) (pw_or1 (pt_cmpR op_gt (pe_op op_add (pe_fldK (K := K) (pv 0) (by rfl)) (pe_fldK (K := K) (pv 0) (by rfl))) (pe_callB (lenK (K := K)) (by rfl) T.m_len bt_len (pa_cons (pv 1) pa_nil)) (nomark _))))))) (pss_one (ps_ret pe_bl)) pss_nil)
      (pss_cons (ps_if (PW.pt (pw_or (pt_cmpR op_lt (pe_callB (minK (K := K) rfl) (by rfl) T.m_min bt_min (pa_cons (pe_slice (sl_listK (K := K)) (pv 1) (po_some (pe_fldK (K := K) (pv 0) (by rfl))) (po_some (pe_op op_add (pe_fldK (K := K) (pv 0) (by rfl)) (pe_fldK (K := K) (pv 0) (by rfl))))) pa_nil)) (pe_fldK (K := K) (pv 0) (by rfl)) (nomark _)) (pw_or1 (pt_cmpR op_ne (pe_callB (lenK (K := K)) (by rfl) T.m_len bt_len (pa_cons (pe_fldK (K := K) (pv 0) (by rfl)) pa_nil)) (pe_callB (lenK (K := K)) (by rfl) T.m_len bt_len (pa_cons (pv 1) pa_nil)) (nomark _))))) (pss_one (ps_ret pe_bl)) pss_nil)
      (pss_one (ps_ret (pe_callB (allK (K := K) rfl) (by rfl) T.m_all bt_all (pa_cons (pe_lc (own := [("place", 2)]) (g := (gName 2)) (tt := tYes) (by rfl) sc_Board_shows.nd (pi_range1 (by rfl) T.m_range (pa_cons (pe_callB (lenK (K := K)) (by rfl) T.m_len bt_len (pa_cons (pv 1) pa_nil)) pa_nil)) (blkOk_by (own := [("place", 2)]) (N := N_Board_shows) (sc := defScope s_Board_shows) (by decide +kernel)) (fun _ _ _ _ _ => (pg_name (i := 2) sc_Board_shows.nd rfl (Or.inl rfl))) (fun _ _ _ _ _ => pts_nil) (fun _ _ _ _ _ => (pe_meth (pv 0) T.cl_Board M_Board_bounded G_Board_bounded hr_Board_bounded b_Board_bounded .nil pass0 (pa_cons (pv 1) (pa_cons (pv 2) pa_nil))))) pa_nil)))))), start_is (σ := [some x1, some x2, none]) rfl ?_⟩
  obtain ⟨p, a, l, bs, f, m, h, rs, vs, rfl, rfl, hb, hl, hv, hS, good, hlen, k⟩ := h
  have kF : ∀ H', Same H H' → ¬ Under bs f m h rs → Q (.bl false) H' := fun H' s n => k false H' s ⟨fun e => (by cases e), fun e => absurd e n⟩
  walk_at "sx"
  refine q_first T hb ?_
  walk_at "sx"
  by_cases c1 : f < 0
  · rw [if_pos (decide_eq_true c1)]
    exact kF H (Same.refl _) fun z => by have := z.1.1; omega
  rw [if_neg (by simpa using c1)]
  refine q_many T hb ?_
  walk_at "sx"
  by_cases c2 : m < 1
  · rw [if_pos (decide_eq_true c2)]
    exact kF H (Same.refl _) fun z => by have := z.1.2.1; omega
  rw [if_neg (by simpa using c2)]
  refine q_high T hb ?_
  walk_at "sx"
  by_cases c3 : h < 0
  · rw [if_pos (decide_eq_true c3)]
    exact kF H (Same.refl _) fun z => by have := z.1.2.2.1; omega
  rw [if_neg (by simpa using c3)]
  refine q_first T hb (q_many T hb ?_)
  walk_at "sx"
  refine q_lenI hS ?_
  walk_at "sx"
  by_cases c4 : (bs.length : Int) < f + m
  · rw [if_pos (decide_eq_true c4)]
    exact kF H (Same.refl _) fun z => by have := z.1.2.2.2.1; omega
  rw [if_neg (by simpa using c4)]
  -- the least of the stretch
  refine q_first T hb ?_
  walk_at "sx"
  refine q_first T hb (q_many T hb ?_)
  walk_at "sx"
  obtain ⟨fn, rfl⟩ : ∃ fn : Nat, f = (fn : Int) := ⟨f.toNat, by omega⟩
  obtain ⟨fm, efm⟩ : ∃ fm : Nat, (fn : Int) + m = (fm : Int) := ⟨((fn : Int) + m).toNat, by omega⟩
  rw [efm]
  refine q_sl hS fun t nt => ?_
  rw [cut_mid]
  have s1 := same_new (o := .lst (ivs ((bs.take fm).drop fn))) nt
  have len1 : ((bs.take fm).drop fn).length = fm - fn := by rw [List.length_drop, List.length_take]; omega
  refine q_min (SqL.of upd_same) (by rw [len1]; omega) fun mi h1 h2 => ?_
  have at1 : ∀ k, fn ≤ k → k < fm → g bs k ∈ (bs.take fm).drop fn := fun k a b => by
    rw [List.mem_drop_iff_getElem]
    refine ⟨k - fn, by rw [List.length_take]; omega, ?_⟩
    have e : fn + (k - fn) = k := by omega
    simp [g, e, show k < bs.length by omega]
  have at2 : ∀ y ∈ (bs.take fm).drop fn, ∃ k, fn ≤ k ∧ k < fm ∧ g bs k = y := fun y hy => by
    rw [List.mem_drop_iff_getElem] at hy
    obtain ⟨j, hj, rfl⟩ := hy
    rw [List.length_take] at hj
    refine ⟨fn + j, by omega, by omega, ?_⟩
    have h : fn + j < bs.length := by omega
    have e : g bs (fn + j) = bs[fn + j] := by simp [g, h]
    rw [e, List.getElem_take]
  have hb1 := hb.more s1
  refine q_high T hb1 ?_
  walk_at "sx"
  by_cases c5 : mi < h
  · rw [if_pos (decide_eq_true c5)]
    refine kF _ s1 fun z => ?_
    obtain ⟨kk, k1, k2, k3⟩ := at2 mi h1
    have := z.1.2.2.2.2 kk (by omega) (by omega)
    omega
  rw [if_neg (by simpa using c5)]
  have lies : Lies bs fn m h := ⟨by omega, by omega, by omega, by omega, fun kk k1 k2 => by
    have := h2 _ (at1 kk (by omega) (by omega))
    omega⟩
  have hl1 := s1 _ _ hl
  have hS1 := s1.seq hS
  have hv1 := hv.mono (same_tk s1)
  generalize upd H t (.lst (ivs ((bs.take fm).drop fn))) = H1 at s1 hb1 hl1 hS1 hv1 ⊢
  refine q_around T hb1 ?_
  refine q_len (SqL.of hl1) (q_lenI hS1 ?_)
  walk_at "sx"
  by_cases c6 : (vs.length : Int) = (bs.length : Int)
  · rw [if_neg (by simp [c6])]
    have e6 : rs.length = bs.length := by rw [← hv.len]; omega
    refine q_lcR (n := bs.length) (fun i v _ => v = .bl (tf (Bnd bs (m * h) i (rs.getD i (0, 0))))) (fun R r => ⟨_, rfl, a, _, rfl, .inl hS1, by rw [len_ivs]; exact r⟩) (by omega) (fun _ => rfl) (fun _ _ _ _ e _ => e) (fun i H' Q' hi s2 kk => ?_) ?_
    · simp only [wipe, List.map_cons, List.map_nil]
      walk_at "sx"
      obtain ⟨dx, eb⟩ := hb1.more s2
      refine ⟨_, _, _, rfl, eb, bdF_bounded _ _ _ _, ?_⟩
      refine ⟨_, _, _, rfl, p, a, l, bs, i, fn, m, h, rs, vs, rfl, rfl, rfl, ⟨dx, eb⟩, s2 _ _ hl1, hv1.mono (same_tk s2), s2.seq hS1, good, hi, by omega, by omega, by omega, fun c H'' s3 hc => kk _ _ s3 ?_⟩
      rw [tf_of hc]
    · intro D H2 acc nD s2 hD hla hva
      have e := acc_bls hla hva
      subst e
      refine q_all (SqL.of hD) (k _ _ (s1.trans s2) ?_)
      rw [tf_all]
      exact ⟨fun z => ⟨lies, e6, z⟩, fun z => z.2.2⟩
  · rw [if_pos (by simp [c6])]
    exact kF _ s1 fun z => c6 (by rw [hv.len, z.2.1])
abbrev s_board : Stmt := top 14
abbrev N_board : List Str := ["bars", "told", "sizes", "at", "place", "first", "last"]
theorem sc_board : FnScope ["bars", "told", "sizes", "at", "place", "first", "last"] ["bars"] (defScope s_board) := ⟨rfl, rfl, rfl, by decide +kernel, rfl, by decide +kernel, by decide +kernel⟩
def sizeL (bs : List Int) : List Int := (List.range bs.length).map (size bs)
theorem sizeL_len (bs : List Int) : (sizeL bs).length = bs.length := by simp [sizeL]
theorem q_g22 {K : PySem.W.Frag} {j k m : Nat} {t u : Addr} {x y z : V} {σ : L2.St} {H : Hp} {Q : L2.St → Hp → Prop} (h : SqT K H t [x, .ref u]) (h2 : SqT K H u [y, z]) (q : Q (((σ.set j (some x)).set k (some y)).set m (some z)) H) :
    gTup K 2 (gCons (gName j) (gCons (gTup K 2 (gCons (gName k) (gCons (gName m) gNil))) gNil)) (.ref t) σ H Q :=
  ⟨t, [x, .ref u], rfl, h, rfl, x, [.ref u], rfl, .ref u, [], rfl, u, [y, z], rfl, h2, rfl, y, [z], rfl, z, [], rfl, rfl, rfl, q⟩
def sp_board (K : PySem.W.Frag) (CL : Cl) : Sp := Sp1 fun x H Q _ => ∃ (a : Addr) (bs : List Int), x = .ref a ∧ SqL K H a (ivs bs) ∧ Good bs ∧ bs.length ≤ 1000 ∧ 0 < bs.length ∧
  ∀ (p l : Addr) (i : Nat) (H' : Hp) (vs : List V), i < bs.length → (∀ j, j < bs.length → size bs j ≤ size bs i) → H p = none → H l = none → l ≠ p → Same H H' → BdAt CL.Board H' p (rf bs i) (rl bs i - rf bs i + 1) (g bs i) l → H' l = some (.lst vs) → Prs H' (reachL bs) vs → Q (.ref p) H'
theorem ok_board {P : Program} {w : World} {K : PySem.W.Frag} {mg : Str → Option Value} {base : Heap} {CL : Cl} (D : Def K mg "board" ["bars"] s_board) (T : Txt K mg CL) (h_asked_bars : Has P w K mg base CX0 2 "asked_bars" ["bars"] (sp_asked_bars K)) (h_reaches : Has P w K mg base CX0 3 "reaches" ["bars"] (sp_reaches K)) (h_Board___init__ : HasI P w K mg base CX0 1 CL.Board ["self", "first", "many", "high", "around"] (sp_Board___init__ K CL)) : Has P w K mg base CX0 4 "board" ["bars"] (sp_board K CL) := by
  obtain ⟨f, fd, gm, F, bb⟩ := D
  obtain ⟨f_asked_bars, fd_asked_bars, g_asked_bars, G_asked_bars, k_asked_bars, b_asked_bars⟩ := h_asked_bars
  obtain ⟨f_reaches, fd_reaches, g_reaches, G_reaches, k_reaches, b_reaches⟩ := h_reaches
  obtain ⟨f_Board___init__, fd_Board___init__, G_Board___init__, b_Board___init__, M_Board___init__⟩ := h_Board___init__
  refine ⟨f, fd, gm, F.ok sc_board (fun vs H Q E h => ?_) (fun cdv A outer s H vs Q E hr h => ?_), F.kp, bb⟩
  · obtain ⟨x1, rfl, _⟩ := h
    rfl
  have hr_asked_bars : Room 2 (A.deeper (envOfC "board" (defScope s_board) s.heap.objs.size f cdv)) := hr.mono (by decide)
  have hr_reaches : Room 3 (A.deeper (envOfC "board" (defScope s_board) s.heap.objs.size f cdv)) := hr.mono (by decide)
  have hr_Board___init__ : Room 2 (A.deeper (envOfC "board" (defScope s_board) s.heap.objs.size f cdv)) := hr.mono (by decide)
  obtain ⟨x1, rfl, h⟩ := h
  refine ⟨_, (pss_cons (ps_expr (pe_call G_asked_bars hr_asked_bars (by rfl) g_asked_bars k_asked_bars b_asked_bars .nil pass0 (pa_cons (pv 0) pa_nil)))
      (pss_cons (ps_if (pt_cmpR (eqDK (K := K) hr.units) (pv 0) (pe_lst pa_nil) (nomark _)) (pss_one ps_never) pss_nil)
      (pss_cons (ps_set (i := 1) sc_board.nd rfl (Or.inl rfl) (pe_call G_reaches hr_reaches (by rfl) g_reaches k_reaches b_reaches .nil pass0 (pa_cons (pv 0) pa_nil)))
      (pss_cons (ps_setLc (i := 2) (own := [("place", 4), ("first", 5), ("last", 6)]) (g := (gTup K 2 (gCons (gName 4) (gCons (gTup K 2 (gCons (gName 5) (gCons (gName 6) gNil))) gNil)))) (tt := tYes) (by rfl) sc_board.nd rfl rfl (sw_true rfl rfl rfl (by decide +kernel)) (pi_enum (by rfl) T.m_enumerate (pa_cons (pv 1) pa_nil)) (blkOk_by (own := [("place", 4), ("first", 5), ("last", 6)]) (N := N_board) (sc := defScope s_board) (by decide +kernel)) (fun _ _ _ _ _ => (pg_tup (n := 2) rfl (pgs_cons (pg_name (i := 4) sc_board.nd rfl (Or.inl rfl)) (pgs_cons (pg_tup (n := 2) rfl (pgs_cons (pg_name (i := 5) sc_board.nd rfl (Or.inl rfl)) (pgs_cons (pg_name (i := 6) sc_board.nd rfl (Or.inl rfl)) pgs_nil))) pgs_nil)))) (fun _ _ _ _ _ => pts_nil) (fun _ _ _ _ _ => (pe_op op_mul (pe_ix (ix_listK (K := K)) (pv 0) (pv 4) (fun _ _ => rfl)) (pe_op op_add (pe_op op_sub (pv 6) (pv 5)) pe_int))))
      (pss_cons (ps_set (i := 3) sc_board.nd rfl (Or.inl rfl) (pe_bm PySem.F.plainAttrs_list PySem.F.slot_list_index PySem.F.type_list_index mt_index (pv 2) (pa_cons (pe_callB (maxK (K := K) rfl) (by rfl) T.m_max bt_max (pa_cons (pv 2) pa_nil)) pa_nil)))
      (pss_one (ps_ret (pe_make M_Board___init__ G_Board___init__ hr_Board___init__ (by rfl) T.c_Board b_Board___init__ .nil pass0 (pa_cons (pe_ix (ix_tupK (K := K)) (pe_ix (ix_listK (K := K)) (pv 1) (pv 3) (fun _ _ => rfl)) pe_int (fun _ _ => rfl)) (pa_cons (pe_op op_add (pe_op op_sub (pe_ix (ix_tupK (K := K)) (pe_ix (ix_listK (K := K)) (pv 1) (pv 3) (fun _ _ => rfl)) pe_int (fun _ _ => rfl)) (pe_ix (ix_tupK (K := K)) (pe_ix (ix_listK (K := K)) (pv 1) (pv 3) (fun _ _ => rfl)) pe_int (fun _ _ => rfl))) pe_int) (pa_cons (pe_ix (ix_listK (K := K)) (pv 0) (pv 3) (fun _ _ => rfl)) (pa_cons (pv 1) pa_nil)))))))))))), start_is (σ := [some x1, none, none, none, none, none, none]) rfl ?_⟩
  obtain ⟨a, bs, rfl, hS, good, hlen, hpos, k⟩ := h
  walk_at "sx"
  refine ⟨_, rfl, a, bs, rfl, hS, good, hlen, fun H1 s1 => ?_⟩
  refine q_eqN (s1.seq hS) fun H2 s2 => ?_
  walk_at "sx"
  rw [if_neg (by simp; intro e; subst e; simp at hpos)]
  have s12 := s1.trans s2
  refine ⟨_, rfl, a, bs, rfl, s12.seq hS, good, hlen, fun r H3 vs nr s3 hr hv => ?_⟩
  have s13 := s12.trans s3
  have hvl : vs.length = bs.length := by rw [hv.len, reachL_len]
  refine q_lcEG (xs := vs) (fun i v _ => v = .int (size bs i)) (fun R r => ⟨_, rfl, r⟩) (SqL.of hr) (by omega) (fun _ _ _ _ e _ => e) (fun i x t H' Q' hx s4 hT kk => ?_) ?_
  · have hi : i < bs.length := by
      have := (List.getElem?_eq_some_iff.mp hx).1
      omega
    obtain ⟨u, hu, hU⟩ := hv.get (i := i) (by rw [reachL_len]; exact hi)
    rw [hx] at hu
    cases hu
    rw [reachL_at hi] at hU
    refine q_g22 (SqT.of hT) (SqT.of (s4 _ _ hU)) ⟨rfl, ?_⟩
    simp only [wipe, List.map_cons, List.map_nil]
    walk_at "sx"
    refine q_ixL ((s13.trans s4).seq hS) rfl hi ?_
    walk_at "sx"
    exact ⟨.inl (good.mul hi), kk _ _ (Same.refl _) rfl⟩
  intro D H4 acc nD s4 hD hla hva
  have e := acc_ivs hla hva
  rw [hvl] at e
  subst e
  have hD : H4 D = some (.lst (ivs (sizeL bs))) := hD
  have s14 := s13.trans s4
  refine ⟨.inl ⟨rfl, _, SqL.of hD⟩, ?_⟩
  refine q_max (SqL.of hD) (by rw [sizeL_len]; exact hpos) fun mx h1 h2 => ?_
  obtain ⟨i, hi, ei, hf⟩ := first_at h1
  rw [sizeL_len] at hi
  refine (q_index (SqL.of hD) (by rw [sizeL_len]; exact hi) ei hf ?_).2
  have esz : ∀ j, j < bs.length → size bs j ≤ size bs i := fun j hj => by
    have e1 : g (sizeL bs) i = size bs i := g_map hi
    have : size bs j ≤ mx := h2 _ (List.mem_map.mpr ⟨j, List.mem_range.mpr hj, rfl⟩)
    omega
  obtain ⟨u, hu, hU⟩ := hv.get (i := i) (by rw [reachL_len]; exact hi)
  rw [reachL_at hi] at hU
  have hr4 := s4 _ _ hr
  have hU4 := s4 _ _ hU
  have hv4 := hv.mono (same_tk s4)
  walk_at "sx"
  refine q_ixV (SqL.of hr4) rfl hu (q_ixT (SqT.of hU4) (j := 0) rfl rfl ?_)
  refine q_ixV (SqL.of hr4) rfl hu (q_ixT (SqT.of hU4) (j := 1) rfl rfl ?_)
  refine q_ixV (SqL.of hr4) rfl hu (q_ixT (SqT.of hU4) (j := 0) rfl rfl ?_)
  walk_at "sx"
  refine q_ixL (s14.seq hS) rfl hi ?_
  intro x dx nx ndx hne
  have nx2 : upd H4 dx (.own x) x = none := by rw [upd_ne hne.symm]; exact nx
  have sm : Same H4 (upd (upd H4 dx (.own x)) x (.ins CL.Board dx [])) := (same_new ndx).trans (same_new nx2)
  refine ⟨_, _, _, _, _, rfl, x, dx, r, _, _, _, vs, rfl, rfl, rfl, rfl, rfl, upd_same, (sm.seq (SqL.of hr4)), fun l H5 nl hB hl5 keep => ⟨rfl, ?_⟩⟩
  have s5 : Same H4 H5 := Same.made nx ndx keep
  have nlx : l ≠ x := (ne_of_none upd_same nl).symm
  exact k x l i H5 vs hi esz (s14.free nx) ((s14.trans sm).free nl) nlx (s14.trans s5) hB hl5 (hv4.mono (same_tk s5))
end Sky

/-! Mk: plain mathematics of rows told by links. -/
namespace Sky
def Lk (ts : List Int) : Prop := ∀ i, i < ts.length → -1 ≤ g ts i ∧ g ts i < (i : Int)
def rowV (ts : List Int) (B : List Int) (n : Nat) : Int := if g ts n < 0 then 0 else g B (g ts n).toNat + 1
def rowB (ts : List Int) : Nat → List Int
  | 0 => []
  | n + 1 => rowB ts n ++ [rowV ts (rowB ts n) n]
theorem rowB_len (ts : List Int) : ∀ n, (rowB ts n).length = n
  | 0 => rfl
  | n + 1 => by
    show (rowB ts n ++ [rowV ts (rowB ts n) n]).length = n + 1
    rw [List.length_append, rowB_len ts n]
    rfl
theorem g_app {B : List Int} {v : Int} {i : Nat} (h : i < B.length) : g (B ++ [v]) i = g B i := by
  unfold g
  rw [List.getD_eq_getElem?_getD, List.getD_eq_getElem?_getD, List.getElem?_append_left h]
theorem g_last (B : List Int) (v : Int) : g (B ++ [v]) B.length = v := by
  unfold g
  rw [List.getD_eq_getElem?_getD, List.getElem?_append_right (Nat.le_refl _)]
  simp
theorem rowB_at {ts : List Int} {i n : Nat} (h : i < n) : g (rowB ts n) i = rowV ts (rowB ts i) i := by
  induction n with
  | zero => omega
  | succ n ih =>
    show g (rowB ts n ++ [rowV ts (rowB ts n) n]) i = _
    by_cases e : i = n
    · subst e
      have := g_last (rowB ts i) (rowV ts (rowB ts i) i)
      rwa [rowB_len] at this
    · rw [g_app (by rw [rowB_len]; omega), ih (by omega)]
theorem rowB_st {ts : List Int} {i m n : Nat} (h : i < m) (h2 : i < n) : g (rowB ts m) i = g (rowB ts n) i := by rw [rowB_at h, rowB_at h2]
theorem rowB_pos {ts : List Int} (hk : Lk ts) : ∀ n, n ≤ ts.length → ∀ i, i < n → 0 ≤ g (rowB ts n) i ∧ g (rowB ts n) i ≤ (i : Int)
  | 0, _, i, h => by omega
  | n + 1, hn, i, h => by
    have ih := rowB_pos hk n (by omega)
    have hi := hk i (by omega)
    rw [rowB_at h]
    unfold rowV
    by_cases c : g ts i < 0
    · rw [if_pos c]
      omega
    · rw [if_neg c]
      have h2 : (g ts i).toNat < i := by omega
      rw [rowB_st (m := i) (n := n) h2 (by omega)]
      have := ih (g ts i).toNat (by omega)
      omega
/-- the value of a place by its link -/
theorem rowB_lt {ts : List Int} (hk : Lk ts) {i n : Nat} (h : i < n) (hn : n ≤ ts.length) (c : 0 ≤ g ts i) : g (rowB ts n) i = g (rowB ts n) (g ts i).toNat + 1 := by
  have hi := hk i (by omega)
  rw [rowB_at h]
  unfold rowV
  rw [if_neg (by omega), rowB_st (m := i) (n := n) (by omega) (by omega)]
theorem rowB_0 {ts : List Int} {i n : Nat} (h : i < n) (c : g ts i < 0) : g (rowB ts n) i = 0 := by
  rw [rowB_at h]
  exact if_pos c
/-- the links so far are the told ones -/
def Row1 (ts : List Int) (n i : Nat) : Prop := ∀ k : Nat, g ts i < (k : Int) → k < i → g (rowB ts n) i ≤ g (rowB ts n) k
def RowOk (ts : List Int) (n : Nat) : Prop := ∀ i, i < n → Row1 ts n i
theorem RowOk.step {ts : List Int} {n : Nat} (h : RowOk ts n) (h1 : ∀ k : Nat, g ts n < (k : Int) → k < n → rowV ts (rowB ts n) n ≤ g (rowB ts n) k) : RowOk ts (n + 1) := by
  intro i hi k k1 k2
  by_cases e : i = n
  · subst e
    rw [rowB_at (Nat.lt_succ_self i), rowB_st (m := i + 1) (n := i) (by omega) k2]
    exact h1 k k1 k2
  · rw [rowB_st (m := n + 1) (n := n) hi (by omega), rowB_st (m := n + 1) (n := n) (i := k) (by omega) (by omega)]
    exact h i (by omega) k k1 k2
/-- one step down the chain -/
theorem chain_step {ts : List Int} (hk : Lk ts) {n at_ : Nat} (hn : n ≤ ts.length) (ok : RowOk ts n) (ha : at_ < n) (h : ∀ k, at_ < k → k < n → g (rowB ts n) at_ < g (rowB ts n) k) {b : Nat} (e : g ts at_ = (b : Int)) :
    ∀ k, b < k → k < n → g (rowB ts n) b < g (rowB ts n) k := by
  intro k k1 k2
  have hb : g (rowB ts n) at_ = g (rowB ts n) b + 1 := by
    have := rowB_lt hk ha hn (by omega)
    rw [e] at this
    exact this
  by_cases c : k < at_
  · have := ok at_ ha k (by omega) c
    omega
  · by_cases c2 : k = at_
    · subst c2
      omega
    · have := h k (by omega) k2
      omega
theorem links_row {ts : List Int} (hk : Lk ts) (ok : RowOk ts ts.length) : links (rowB ts ts.length) = ts := by
  have hl := rowB_len ts ts.length
  apply List.ext_getElem?
  intro i
  by_cases h : i < ts.length
  · have e1 : (links (rowB ts ts.length))[i]? = some (link (rowB ts ts.length) i) := by simp [links, hl, h]
    have e2 : ts[i]? = some (g ts i) := by simp [g, h]
    rw [e1, e2]
    congr 1
    have hi := hk i h
    refine down_of hi.1 hi.2 (fun c => ?_) fun k k1 k2 => ok i h k k1 k2
    have := rowB_lt hk h (Nat.le_refl _) c
    omega
  · rw [List.getElem?_eq_none (by simp [links, hl]; omega), List.getElem?_eq_none (by omega)]
theorem row_good {ts : List Int} (hk : Lk ts) (hl : ts.length ≤ 1000) : Good (rowB ts ts.length) := by
  intro b hb
  obtain ⟨i, hi, rfl⟩ := List.getElem_of_mem hb
  rw [rowB_len] at hi
  have := rowB_pos hk ts.length (Nat.le_refl _) i hi
  have e : g (rowB ts ts.length) i = (rowB ts ts.length)[i] := by
    have hi2 : i < (rowB ts ts.length).length := by rw [rowB_len]; exact hi
    simp [g, hi2]
  rw [← e]
  omega
/-- links of bars are links -/
theorem links_lk (bs : List Int) : Lk (links bs) := by
  intro i hi
  rw [links_len] at hi
  have e : g (links bs) i = link bs i := links_at hi
  rw [e]
  exact ⟨link_ge bs i, link_lt bs i⟩
theorem lk_set {ts : List Int} (hk : Lk ts) {i : Nat} {v : Int} (h1 : -1 ≤ v) (h2 : v < (i : Int)) : Lk (ts.set i v) := by
  intro j hj
  rw [List.length_set] at hj
  have hjj := hk j hj
  unfold g at hjj ⊢
  rw [List.getD_eq_getElem?_getD, List.getElem?_set]
  rw [List.getD_eq_getElem?_getD] at hjj
  by_cases e : i = j
  · subst e
    simp [hj]
    omega
  · rw [if_neg e]
    exact hjj
/-- two places whose links cross -/
def Cross (ts : List Int) (f s : Int) : Prop := 0 ≤ f ∧ f < s ∧ s < (ts.length : Int) ∧ g ts f.toNat < g ts s.toNat ∧ g ts s.toNat < f
end Sky

/-! Pk: rows and crossed places: the classes, by their fields. -/
namespace Sky
open PySem PySem.Spec PyProof.Rows L2
local macro_rules | `(tactic| walk_at "sx") => `(tactic| try simp only [e_K, e_seq, e_asg, e_name, e_drop, e_ret, e_retN, e_ifs, e_next, e_var, e_c, e_op, e_un, e_rI0, e_rI, e_rU, e_test, e_B, e_bl, e_and, e_or, e_not, e_andV, e_orV, e_notV, e_if, e_CB, e_CKw, e_cons, e_nil, e_call,
  e_chn, e_cCons, e_cOne, e_BM, e_BM0, e_sub, e_par, e_ls, e_noP, e_part, e_intx, e_refx, e_yes, e_get0, e_getS, e_sl, List.set_cons_zero, List.set_cons_succ, List.cons_append, List.nil_append, List.append_nil, Bool.not_true, Bool.not_false, e_lst, e_tup, e_rev, e_eqi, e_nei, decide_true, decide_false, if_true, Bool.false_eq_true, if_false, e_any, e_fld, e_sfld, e_meth, e_make, e_par3])
theorem SqL.keep {K : PySem.W.Frag} {H : Hp} {a p : Addr} {vs : List V} {o o' : HO} (h : SqL K H a vs) (hp : H p = some o) (ho : ∀ xs, o ≠ .lst xs) (ho2 : ∀ ob xs, o ≠ .frz ob (.lst xs)) : SqL K (upd H p o') a vs := by
  rcases h with (h | ⟨ob, h⟩) | h
  · exact .inl (.inl (by rw [upd_ne (ne_of h hp fun z => ho _ z.symm)]; exact h))
  · exact .inl (.inr ⟨ob, by rw [upd_ne (ne_of h hp fun z => ho2 _ _ z.symm)]; exact h⟩)
  · exact .inr h
def rwF (l : Addr) : List (Str × V) := [("bars", .ref l)]
theorem rwF_bars (l : Addr) : List.lookup ("bars" : Str) (rwF l) = some (V.ref l) := by kernel_rfl
theorem rwF_shows (l : Addr) : List.lookup ("shows" : Str) (rwF l) = none := by kernel_rfl
theorem rw1 (l : Addr) : putF "bars" (.ref l) [] = rwF l := by kernel_rfl
def RwAt (C : Addr) (H : Hp) (p l : Addr) : Prop := ∃ dx, H p = some (.ins C dx (rwF l))
theorem RwAt.more {C : Addr} {H H' : Hp} {p l : Addr} (b : RwAt C H p l) (s : Same H H') : RwAt C H' p l := by
  obtain ⟨dx, e⟩ := b
  exact ⟨dx, s _ _ e⟩
def crF (f s : Int) : List (Str × V) := [("first", .int f), ("second", .int s)]
theorem crF_first (f s : Int) : List.lookup ("first" : Str) (crF f s) = some (V.int f) := by kernel_rfl
theorem crF_second (f s : Int) : List.lookup ("second" : Str) (crF f s) = some (V.int s) := by kernel_rfl
theorem crF_shows (f s : Int) : List.lookup ("shows" : Str) (crF f s) = none := by kernel_rfl
theorem cr1 (f : Int) : putF "first" (.int f) [] = ([("first", .int f)] : List (Str × V)) := by kernel_rfl
theorem cr2 (f s : Int) : putF "second" (.int s) (putF "first" (.int f) []) = crF f s := by kernel_rfl
def CrAt (C : Addr) (H : Hp) (p : Addr) (f s : Int) : Prop := ∃ dx, H p = some (.ins C dx (crF f s))
theorem CrAt.more {C : Addr} {H H' : Hp} {p : Addr} {f s : Int} (b : CrAt C H p f s) (h : Same H H') : CrAt C H' p f s := by
  obtain ⟨dx, e⟩ := b
  exact ⟨dx, h _ _ e⟩
section
variable {K : PySem.W.Frag} {mg : Str → Option Value} {CL : Cl} (T : Txt K mg CL) {H : Hp} {p : Addr} {l : Addr} {Q : VK} {f s : Int}
include T
theorem q_bars (b : RwAt CL.Row H p l) (q : Q (.ref l) H) : rFld K "bars" (.ref p) H Q := by
  obtain ⟨dx, e⟩ := b
  exact q_fld e T.cl_Row T.na_Row_bars (rwF_bars _) q
theorem q_cfirst (b : CrAt CL.Crossed H p f s) (q : Q (.int f) H) : rFld K "first" (.ref p) H Q := by
  obtain ⟨dx, e⟩ := b
  exact q_fld e T.cl_Crossed T.na_Crossed_first (crF_first _ _) q
theorem q_csecond (b : CrAt CL.Crossed H p f s) (q : Q (.int s) H) : rFld K "second" (.ref p) H Q := by
  obtain ⟨dx, e⟩ := b
  exact q_fld e T.cl_Crossed T.na_Crossed_second (crF_second _ _) q
end
abbrev s_Row___init__ : Stmt := inClass (top 16) 0
abbrev N_Row___init__ : List Str := ["self", "bars"]
theorem sc_Row___init__ : FnScope ["self", "bars"] ["self", "bars"] (defScope s_Row___init__) := ⟨rfl, rfl, rfl, by decide +kernel, rfl, by decide +kernel, by decide +kernel⟩
def sp_Row___init__ (K : PySem.W.Frag) (CL : Cl) : Sp := Sp2 fun x y H Q _ => ∃ (p dx a : Addr) (vs : List V), x = .ref p ∧ y = .ref a ∧ H p = some (.ins CL.Row dx []) ∧ SqL K H a vs ∧
  ∀ l H', H l = none → l ≠ p → RwAt CL.Row H' p l → H' l = some (.lst vs) → (∀ b o, H b = some o → b ≠ p → H' b = some o) → Q .non H'
theorem ok_Row___init__ {P : Program} {w : World} {K : PySem.W.Frag} {mg : Str → Option Value} {base : Heap} {CL : Cl} (D : DefI K CL.Row "Row.__init__" ["self", "bars"] s_Row___init__) (T : Txt K mg CL)  : HasI P w K mg base CX0 1 CL.Row ["self", "bars"] (sp_Row___init__ K CL) := by
  obtain ⟨f, fd, F, bb, mm⟩ := D
  refine ⟨f, fd, F.ok sc_Row___init__ (fun vs H Q E h => ?_) (fun cdv A outer s H vs Q E hr h => ?_), bb, mm⟩
  · obtain ⟨x1, x2, rfl, _⟩ := h
    rfl
  obtain ⟨x1, x2, rfl, h⟩ := h
  refine ⟨_, (pss_one (ps_fld (pv 0) (pe_callTy (listK (K := K)) (by rfl) T.m_list bt_list (pa_cons (pv 1) pa_nil)) (by rfl))), start_is (σ := [some x1, some x2]) rfl ?_⟩
  obtain ⟨p, dx, a, vs, rfl, rfl, hp, hS, k⟩ := h
  walk_at "sx"
  refine q_list hS fun l nl => ?_
  have nlp : l ≠ p := (ne_of_none hp nl).symm
  refine ⟨_, _, _, _, rfl, by rw [upd_ne nlp.symm]; exact hp, T.cl_Row, T.na_Row_bars, by show 0 < 1000; decide, ?_⟩
  walk_at "sx"
  refine k l _ nl nlp ⟨dx, by rw [upd_same, rw1]⟩ ?_ fun b o e hb => ?_
  · rw [upd_ne nlp, upd_same]
  · rw [upd_ne hb, upd_ne (ne_of_none e nl)]
    exact e
abbrev s_Row_shows : Stmt := inClass (top 16) 1
abbrev N_Row_shows : List Str := ["self", "links"]
theorem sc_Row_shows : FnScope ["self", "links"] ["self", "links"] (defScope s_Row_shows) := ⟨rfl, rfl, rfl, by decide +kernel, rfl, by decide +kernel, by decide +kernel⟩
def sp_Row_shows (K : PySem.W.Frag) (CL : Cl) : Sp := Sp2 fun x y H Q _ => ∃ (p a l : Addr) (bs ts : List Int), x = .ref p ∧ y = .ref a ∧ RwAt CL.Row H p l ∧ H l = some (.lst (ivs bs)) ∧ bs.length ≤ 1000 ∧ SqL K H a (ivs ts) ∧ ∀ H', Same H H' → Q (.bl (decide (links bs = ts))) H'
theorem ok_Row_shows {P : Program} {w : World} {K : PySem.W.Frag} {mg : Str → Option Value} {base : Heap} {CL : Cl} (D : DefM K CL.Row "shows" "Row.shows" ["self", "links"] s_Row_shows) (T : Txt K mg CL) (h_ahead_of : Has P w K mg base CX0 1 "ahead_of" ["bars"] (sp_ahead_of K)) : HasM P w K mg base CX0 2 CL.Row "shows" ["self", "links"] (sp_Row_shows K CL) := by
  obtain ⟨f, fd, F, bb, mm⟩ := D
  obtain ⟨f_ahead_of, fd_ahead_of, g_ahead_of, G_ahead_of, k_ahead_of, b_ahead_of⟩ := h_ahead_of
  refine ⟨f, fd, F.ok sc_Row_shows (fun vs H Q E h => ?_) (fun cdv A outer s H vs Q E hr h => ?_), bb, mm⟩
  · obtain ⟨x1, x2, rfl, _⟩ := h
    rfl
  have hr_ahead_of : Room 1 (A.deeper (envOfC "Row.shows" (defScope s_Row_shows) s.heap.objs.size f cdv)) := hr.mono (by decide)
  obtain ⟨x1, x2, rfl, h⟩ := h
  refine ⟨_, (pss_one (ps_ret (pe_cmpR (eqDK (K := K) hr.units) (pe_call G_ahead_of hr_ahead_of (by rfl) g_ahead_of k_ahead_of b_ahead_of .nil pass0 (pa_cons (pe_fldK (K := K) (pv 0) (by rfl)) pa_nil)) (pv 1) (nomark _)))), start_is (σ := [some x1, some x2]) rfl ?_⟩
  obtain ⟨p, a, l, bs, ts, rfl, rfl, hR, hl, hlen, hS, k⟩ := h
  walk_at "sx"
  refine q_bars T hR ?_
  refine ⟨_, rfl, l, bs, rfl, SqL.of hl, hlen, fun q H1 nq s1 hq => ?_⟩
  exact q_eqL (SqL.of hq) (s1.seq hS) (k H1 s1)
abbrev s_Crossed___init__ : Stmt := inClass (top 17) 0
abbrev N_Crossed___init__ : List Str := ["self", "first", "second"]
theorem sc_Crossed___init__ : FnScope ["self", "first", "second"] ["self", "first", "second"] (defScope s_Crossed___init__) := ⟨rfl, rfl, rfl, by decide +kernel, rfl, by decide +kernel, by decide +kernel⟩
def sp_Crossed___init__ (K : PySem.W.Frag) (CL : Cl) : Sp := Sp3 fun x y z H Q _ => ∃ (p dx : Addr) (f s : Int), x = .ref p ∧ y = .int f ∧ z = .int s ∧ H p = some (.ins CL.Crossed dx []) ∧ ∀ H', CrAt CL.Crossed H' p f s → (∀ b o, H b = some o → b ≠ p → H' b = some o) → Q .non H'
theorem ok_Crossed___init__ {P : Program} {w : World} {K : PySem.W.Frag} {mg : Str → Option Value} {base : Heap} {CL : Cl} (D : DefI K CL.Crossed "Crossed.__init__" ["self", "first", "second"] s_Crossed___init__) (T : Txt K mg CL)  : HasI P w K mg base CX0 1 CL.Crossed ["self", "first", "second"] (sp_Crossed___init__ K CL) := by
  obtain ⟨f, fd, F, bb, mm⟩ := D
  refine ⟨f, fd, F.ok sc_Crossed___init__ (fun vs H Q E h => ?_) (fun cdv A outer s H vs Q E hr h => ?_), bb, mm⟩
  · obtain ⟨x1, x2, x3, rfl, _⟩ := h
    rfl
  obtain ⟨x1, x2, x3, rfl, h⟩ := h
  refine ⟨_, (pss_cons (ps_fld (pv 0) (pv 1) (by rfl))
      (pss_one (ps_fld (pv 0) (pv 2) (by rfl)))), start_is (σ := [some x1, some x2, some x3]) rfl ?_⟩
  obtain ⟨p, dx, f, s, rfl, rfl, rfl, hp, k⟩ := h
  walk_at "sx"
  refine ⟨_, _, _, _, rfl, hp, T.cl_Crossed, T.na_Crossed_first, by show 0 < 1000; decide, ?_⟩
  walk_at "sx"
  refine ⟨_, _, _, _, rfl, upd_same, T.cl_Crossed, T.na_Crossed_second, by rw [cr1]; show 1 < 1000; decide, ?_⟩
  walk_at "sx"
  refine k _ ⟨dx, by rw [upd_same, cr2]⟩ fun b o e hb => ?_
  rw [upd_ne hb, upd_ne hb]
  exact e
abbrev s_Crossed_shows : Stmt := inClass (top 17) 1
abbrev N_Crossed_shows : List Str := ["self", "links"]
theorem sc_Crossed_shows : FnScope ["self", "links"] ["self", "links"] (defScope s_Crossed_shows) := ⟨rfl, rfl, rfl, by decide +kernel, rfl, by decide +kernel, by decide +kernel⟩
def sp_Crossed_shows (K : PySem.W.Frag) (CL : Cl) : Sp := Sp2 fun x y H Q _ => ∃ (p a : Addr) (f s : Int) (ts : List Int), x = .ref p ∧ y = .ref a ∧ CrAt CL.Crossed H p f s ∧ SqL K H a (ivs ts) ∧ ∀ c : Bool, (c = true ↔ Cross ts f s) → Q (.bl c) H
theorem ok_Crossed_shows {P : Program} {w : World} {K : PySem.W.Frag} {mg : Str → Option Value} {base : Heap} {CL : Cl} (D : DefM K CL.Crossed "shows" "Crossed.shows" ["self", "links"] s_Crossed_shows) (T : Txt K mg CL)  : HasM P w K mg base CX0 1 CL.Crossed "shows" ["self", "links"] (sp_Crossed_shows K CL) := by
  obtain ⟨f, fd, F, bb, mm⟩ := D
  refine ⟨f, fd, F.ok sc_Crossed_shows (fun vs H Q E h => ?_) (fun cdv A outer s H vs Q E hr h => ?_), bb, mm⟩
  · obtain ⟨x1, x2, rfl, _⟩ := h
    rfl
  obtain ⟨x1, x2, rfl, h⟩ := h
  refine ⟨_, (pss_cons (ps_if (pt_not (pt_chn pe_int (pch_cons op_le (pe_fldK (K := K) (pv 0) (by rfl)) (pch_cons op_lt (pe_fldK (K := K) (pv 0) (by rfl)) (pch_one op_lt (pe_callB (lenK (K := K)) (by rfl) T.m_len bt_len (pa_cons (pv 1) pa_nil))))))) (pss_one (ps_ret pe_bl)) pss_nil)
      (pss_one (ps_ret (pe_chn (pe_ix (ix_listK (K := K)) (pv 1) (pe_fldK (K := K) (pv 0) (by rfl)) (fun _ _ => rfl)) (pch_cons op_lt (pe_ix (ix_listK (K := K)) (pv 1) (pe_fldK (K := K) (pv 0) (by rfl)) (fun _ _ => rfl)) (pch_one op_lt (pe_fldK (K := K) (pv 0) (by rfl)))))))), start_is (σ := [some x1, some x2]) rfl ?_⟩
  obtain ⟨p, a, f, s, ts, rfl, rfl, hC, hS, k⟩ := h
  have kF : ¬ Cross ts f s → Q (.bl false) H := fun n => k false ⟨fun e => (by cases e), fun e => absurd e n⟩
  walk_at "sx"
  refine q_cfirst T hC ?_
  walk_at "sx"
  by_cases c1 : 0 ≤ f
  · rw [if_pos (decide_eq_true c1)]
    refine q_csecond T hC ?_
    walk_at "sx"
    by_cases c2 : f < s
    · rw [if_pos (decide_eq_true c2)]
      refine q_lenI hS ?_
      walk_at "sx"
      by_cases c3 : s < (ts.length : Int)
      · rw [if_neg (by simpa using c3)]
        refine q_cfirst T hC (q_ixL hS (j := f.toNat) (by omega) (by omega) ?_)
        refine q_csecond T hC (q_ixL hS (j := s.toNat) (by omega) (by omega) ?_)
        walk_at "sx"
        by_cases c4 : g ts f.toNat < g ts s.toNat
        · rw [if_pos (decide_eq_true c4)]
          refine q_cfirst T hC ?_
          walk_at "sx"
          refine k _ ?_
          rw [decide_eq_true_eq]
          exact ⟨fun e => ⟨c1, c2, c3, c4, e⟩, fun e => e.2.2.2.2⟩
        · rw [if_neg (by simpa using c4)]
          exact kF fun z => c4 z.2.2.2.1
      · rw [if_pos (by simpa using c3)]
        exact kF fun z => c3 z.2.2.1
    · rw [if_neg (by simpa using c2)]
      exact kF fun z => c2 z.2.1
  · rw [if_neg (by simpa using c1)]
    exact kF fun z => c1 z.1
end Sky

/-! L1: the law's own helpers: bars drawn, numbers, links and reaches by walking. -/
namespace Sky
open PySem PySem.Spec PyProof.Rows L2
local macro_rules | `(tactic| walk_at "sx") => `(tactic| try simp only [e_K, e_seq, e_asg, e_name, e_drop, e_ret, e_retN, e_ifs, e_next, e_var, e_c, e_op, e_un, e_rI0, e_rI, e_rU, e_test, e_B, e_bl, e_and, e_or, e_not, e_andV, e_orV, e_notV, e_if, e_CB, e_CKw, e_cons, e_nil, e_call,
  e_chn, e_cCons, e_cOne, e_BM, e_BM0, e_sub, e_par, e_ls, e_noP, e_part, e_intx, e_refx, e_yes, e_get0, e_getS, e_sl, List.set_cons_zero, List.set_cons_succ, List.cons_append, List.nil_append, List.append_nil, Bool.not_true, Bool.not_false, e_lst, e_tup, e_rev, e_eqi, e_nei, decide_true, decide_false, if_true, Bool.false_eq_true, if_false, e_any, e_fld, e_sfld, e_meth, e_make, e_par3])
abbrev s__law_bars : Stmt := top 19
abbrev N__law_bars : List Str := ["_law_script", "_law_mixed", "_law_most", "_law_bars_here", "_law_cell"]
theorem sc__law_bars : FnScope ["_law_script", "_law_mixed", "_law_most", "_law_bars_here", "_law_cell"] ["_law_script"] (defScope s__law_bars) := ⟨rfl, rfl, rfl, by decide +kernel, rfl, by decide +kernel, by decide +kernel⟩
/-- drawn bars: good ones, one for each cell -/
def sp__law_bars (K : PySem.W.Frag) : Sp := Sp1 fun x H Q _ => ∃ (a : Addr) (ns : List Int), x = .ref a ∧ SqL K H a (ivs ns) ∧ ns.length ≤ 63 ∧ ∀ p H' bs, H p = none → Same H H' → H' p = some (.lst (ivs bs)) → Good bs → bs.length = ns.length → Q (.ref p) H'
theorem most_of (S : Int) : ∃ (j : Nat) (m : Int), S % 4 = (j : Int) ∧ ([V.int 3, V.int 3, V.int 10, V.int 10000001] : List V)[j]? = some (.int m) ∧ 0 < m ∧ m ≤ 10000001 := by
  have h1 := Int.emod_nonneg S (show (4 : Int) ≠ 0 by decide)
  have h2 := Int.emod_lt_of_pos S (show (0 : Int) < 4 by decide)
  have h : S % 4 = 0 ∨ S % 4 = 1 ∨ S % 4 = 2 ∨ S % 4 = 3 := by omega
  rcases h with h | h | h | h
  · exact ⟨0, 3, h, rfl, by decide, by decide⟩
  · exact ⟨1, 3, h, rfl, by decide, by decide⟩
  · exact ⟨2, 10, h, rfl, by decide, by decide⟩
  · exact ⟨3, 10000001, h, rfl, by decide, by decide⟩
theorem Good.perm {l m : List Int} (h : Good l) (p : m.Perm l) : Good m := fun b hb => h b (p.mem_iff.mp hb)
theorem ok__law_bars {P : Program} {w : World} {K : PySem.W.Frag} {mg : Str → Option Value} {base : Heap} {CL : Cl} (D : Def K mg "_law_bars" ["_law_script"] s__law_bars) (T : Txt K mg CL)  : Has P w K mg base CX0 1 "_law_bars" ["_law_script"] (sp__law_bars K) := by
  obtain ⟨f, fd, gm, F, bb⟩ := D
  refine ⟨f, fd, gm, F.ok sc__law_bars (fun vs H Q E h => ?_) (fun cdv A outer s H vs Q E hr h => ?_), F.kp, bb⟩
  · obtain ⟨x1, rfl, _⟩ := h
    rfl
  obtain ⟨x1, rfl, h⟩ := h
  refine ⟨_, (pss_cons (ps_set (i := 1) sc__law_bars.nd rfl (Or.inl rfl) (pe_callB (sumK (K := K) rfl) (by rfl) T.m_sum bt_sum (pa_cons (pv 0) pa_nil)))
      (pss_cons (ps_set (i := 2) sc__law_bars.nd rfl (Or.inr rfl) (pe_ix (ix_tupK (K := K)) (pe_tup (pa_cons pe_int (pa_cons pe_int (pa_cons pe_int (pa_cons pe_int pa_nil))))) (pe_op op_mod (pv 1) pe_int) (fun _ _ => rfl)))
      (pss_cons (ps_setLc (i := 3) (own := [("_law_cell", 4)]) (g := (gName 4)) (tt := tYes) (by rfl) sc__law_bars.nd rfl rfl (sw_true rfl rfl rfl (by decide +kernel)) (pi_list (pv 0)) (blkOk_by (own := [("_law_cell", 4)]) (N := N__law_bars) (sc := defScope s__law_bars) (by decide +kernel)) (fun _ _ _ _ _ => (pg_name (i := 4) sc__law_bars.nd rfl (Or.inl rfl))) (fun _ _ _ _ _ => pts_nil) (fun _ _ _ _ _ => (pe_op op_mod (pv 4) (pv 2))))
      (pss_cons (ps_if (pt_cmpR op_eq (pe_op op_mod (pe_op op_fdiv (pv 1) pe_int) pe_int) pe_int (nomark _)) (pss_one (ps_ret (pe_callB (sortedK (K := K)) (by rfl) T.m_sorted bt_sorted (pa_cons (pv 3) pa_nil)))) pss_nil)
      (pss_one (ps_ret (pe_ifExp (pt_cmpR op_eq (pe_op op_mod (pe_op op_fdiv (pv 1) pe_int) pe_int) pe_int (nomark _)) (pe_revLK (K := K) (pe_callB (sortedK (K := K)) (by rfl) T.m_sorted bt_sorted (pa_cons (pv 3) pa_nil))) (pv 3)))))))), start_is (σ := [some x1, none, none, none, none]) rfl ?_⟩
  obtain ⟨a, ns, rfl, hS, hlen, k⟩ := h
  walk_at "sx"
  refine q_sum hS ?_
  walk_at "sx"
  refine q_newT fun t nt => ?_
  walk_at "sx"
  refine ⟨by decide, ?_⟩
  obtain ⟨j, m, e1, e2, m0, m1⟩ := most_of ns.sum
  refine q_ixT (SqT.of upd_same) e1 e2 ?_
  have s1 := same_new (o := .tup [.int 3, .int 3, .int 10, .int 10000001]) nt
  generalize upd H t (.tup [.int 3, .int 3, .int 10, .int 10000001]) = H1 at s1 ⊢
  refine q_lcL (fun i v _ => v = .int (g ns i % m)) (fun R r => ⟨_, rfl, r⟩) (s1.seq hS) (by rw [len_ivs]; omega) (fun _ => rfl) (fun _ _ _ _ e _ => e) (fun i x H' Q' hx s2 k => ?_) ?_
  · obtain ⟨hi, rfl⟩ := of_ivs hx
    exact ⟨_, rfl, _, rfl, _, _, rfl, rfl, m0, k _ _ (Same.refl _) rfl⟩
  · intro D H2 acc nd s2 hd hl hv
    have e := acc_ivs hl hv
    rw [len_ivs] at e
    have gd : Good ((List.range ns.length).map fun i => g ns i % m) := by
      intro b hb
      obtain ⟨i, _, rfl⟩ := List.mem_map.mp hb
      have h1 := Int.emod_nonneg (g ns i) (show m ≠ 0 by omega)
      have h2 := Int.emod_lt_of_pos (g ns i) m0
      constructor <;> omega
    have ln : ((List.range ns.length).map fun i => g ns i % m).length = ns.length := by simp
    generalize (List.range ns.length).map (fun i => g ns i % m) = bs at e gd ln
    subst e
    have nd0 := s1.free nd
    have s3 := s1.trans s2
    walk_at "sx"
    refine ⟨⟨by decide, by decide⟩, by decide, ?_⟩
    by_cases c : ns.sum / 4 % 7 = 5
    · rw [if_pos (decide_eq_true c)]
      refine q_sorted (SqL.of hd) (by omega) fun l' p pm _ np => ?_
      exact k p _ l' (s3.free np) (s3.trans (same_new np)) upd_same (gd.perm pm) (by rw [pm.length_eq]; exact ln)
    · rw [if_neg (by simpa using c)]
      refine ⟨⟨by decide, by decide⟩, by decide, ?_⟩
      by_cases c2 : ns.sum / 4 % 7 = 6
      · rw [if_pos (decide_eq_true c2)]
        refine q_sorted (SqL.of hd) (by omega) fun l' p pm _ np => ?_
        refine ⟨p, rfl, _, SqL.of upd_same, fun q nq => ?_⟩
        rw [rev_ivs]
        have s4 := s3.trans (same_new (o := .lst (ivs l')) np)
        exact k q _ l'.reverse (s4.free nq) (s4.trans (same_new nq)) upd_same (Good.rev (gd.perm pm)) (by rw [List.length_reverse, pm.length_eq]; exact ln)
      · rw [if_neg (by simpa using c2)]
        exact k D H2 bs nd0 s3 hd gd ln

end Sky

/-! LL: the law's own links, by walking. -/
namespace Sky
open PySem PySem.Spec PyProof.Rows L2
local macro_rules | `(tactic| walk_at "sx") => `(tactic| try simp only [e_K, e_seq, e_asg, e_name, e_drop, e_ret, e_retN, e_ifs, e_next, e_var, e_c, e_op, e_un, e_rI0, e_rI, e_rU, e_test, e_B, e_bl, e_and, e_or, e_not, e_andV, e_orV, e_notV, e_if, e_CB, e_CKw, e_cons, e_nil, e_call,
  e_chn, e_cCons, e_cOne, e_BM, e_BM0, e_sub, e_par, e_ls, e_noP, e_part, e_intx, e_refx, e_yes, e_get0, e_getS, e_sl, List.set_cons_zero, List.set_cons_succ, List.cons_append, List.nil_append, List.append_nil, Bool.not_true, Bool.not_false, e_lst, e_tup, e_rev, e_eqi, e_nei, decide_true, decide_false, if_true, Bool.false_eq_true, if_false, e_any, e_fld, e_sfld, e_meth, e_make, e_par3])
abbrev s__law_links : Stmt := top 20
abbrev N__law_links : List Str := ["_law_bars_here", "_law_found", "_law_place", "_law_at"]
theorem sc__law_links : FnScope ["_law_bars_here", "_law_found", "_law_place", "_law_at"] ["_law_bars_here"] (defScope s__law_links) := ⟨rfl, rfl, rfl, by decide +kernel, rfl, by decide +kernel, by decide +kernel⟩
def sp__law_links (K : PySem.W.Frag) : Sp := Sp1 fun x H Q _ => ∃ (a : Addr) (bs : List Int), x = .ref a ∧ SqL K H a (ivs bs) ∧ bs.length ≤ 1000 ∧ ∀ p H', H p = none → Same H H' → H' p = some (.lst (ivs (links bs))) → Q (.ref p) H'
theorem ok__law_links {P : Program} {w : World} {K : PySem.W.Frag} {mg : Str → Option Value} {base : Heap} {CL : Cl} (D : Def K mg "_law_links" ["_law_bars_here"] s__law_links) (T : Txt K mg CL)  : Has P w K mg base CX0 1 "_law_links" ["_law_bars_here"] (sp__law_links K) := by
  obtain ⟨f, fd, gm, F, bb⟩ := D
  refine ⟨f, fd, gm, F.ok sc__law_links (fun vs H Q E h => ?_) (fun cdv A outer s H vs Q E hr h => ?_), F.kp, bb⟩
  · obtain ⟨x1, rfl, _⟩ := h
    rfl
  obtain ⟨x1, rfl, h⟩ := h
  refine ⟨_, (pss_cons (ps_set (i := 1) sc__law_links.nd rfl (Or.inl rfl) (pe_lst pa_nil))
      (pss_cons (ps_for PassesOwn.never rfl (pi_range1 (by rfl) T.m_range (pa_cons (pe_callB (lenK (K := K)) (by rfl) T.m_len bt_len (pa_cons (pv 0) pa_nil)) pa_nil)) (pg_name (i := 2) sc__law_links.nd rfl (Or.inl rfl)) (pss_cons (ps_set (i := 3) sc__law_links.nd rfl (Or.inl rfl) (pe_op op_sub (pv 2) pe_int))
      (pss_mid (ps_while PassesOwn.never (PW.pt (pw_and (pt_cmpR op_ge (pv 3) pe_int (nomark _)) (pw_and1 (pt_cmpR op_ge (pe_ix (ix_listK (K := K)) (pv 0) (pv 3) (fun _ _ => rfl)) (pe_ix (ix_listK (K := K)) (pv 0) (pv 2) (fun _ _ => rfl)) (nomark _))))) (pss_one (ps_set (i := 3) sc__law_links.nd rfl (Or.inl rfl) (pe_op op_sub (pv 3) pe_int))))
      (pss_one (ps_expr (pe_bm PySem.F.plainAttrs_list PySem.F.slot_list_append PySem.F.type_list_append mt_append (pv 1) (pa_cons (pv 3) pa_nil)))))))
      (pss_one (ps_ret (pv 1))))), start_is (σ := [some x1, none, none, none]) rfl ?_⟩
  obtain ⟨a, bs, rfl, hS, hlen, k⟩ := h
  walk_at "sx"
  refine q_newL fun p np => ?_
  have s0 := same_new (o := .lst []) np
  refine q_forR (n := bs.length) (fun R r => ⟨_, rfl, a, _, rfl, .inl (s0.seq hS), by rw [len_ivs]; exact r⟩) (by omega) (fun i σ H' => ∃ v2 v3, σ = [some (.ref a), some (.ref p), v2, v3] ∧ Same H H' ∧ H' p = some (.lst (ivs ((links bs).take i))))
    ⟨none, none, rfl, s0, upd_same⟩ ?_ ?_
  · rintro i σ H1 hi ⟨v2, v3, rfl, s1, hp⟩
    walk_at "sx"
    refine q_mid (fun σ H2 => σ = [some (.ref a), some (.ref p), some (.int (i : Int)), some (.int (link bs i))] ∧ H2 = H1) ?_ ?_
    · refine q_while (fun m σ H2 => m ≤ i ∧ σ = [some (.ref a), some (.ref p), some (.int (i : Int)), some (.int ((m : Int) - 1))] ∧ H2 = H1 ∧ down bs (g bs i) m = link bs i) ⟨i, Nat.le_refl _, rfl, rfl, rfl⟩ ?_
      rintro m σ H2 ⟨hm, rfl, rfl, hd⟩
      walk_at "sx"
      cases m with
      | zero =>
        rw [if_neg (by simp)]
        rw [← hd]
        exact ⟨rfl, trivial⟩
      | succ m =>
        rw [if_pos (by simp)]
        refine q_ixL (s1.seq hS) (j := m) (by omega) (by omega) (q_ixL (s1.seq hS) (j := i) rfl (by omega) ?_)
        walk_at "sx"
        by_cases c : g bs i ≤ g bs m
        · rw [if_pos (decide_eq_true c)]
          rw [down_step c] at hd
          refine ⟨fun σ' H' => m ≤ i ∧ σ' = [some (.ref a), some (.ref p), some (.int (i : Int)), some (.int ((m : Int) - 1))] ∧ H' = H2 ∧ down bs (g bs i) m = link bs i, fun _ _ n => ⟨m, by omega, n⟩, by omega, ?_, rfl, hd⟩
          have e : ((m + 1 : Nat) : Int) - 1 - 1 = (m : Int) - 1 := by omega
          rw [e]
        · rw [if_neg (by simpa using c)]
          rw [down_stop (by omega)] at hd
          have e : ((m + 1 : Nat) : Int) - 1 = (m : Int) := by omega
          rw [e, ← hd]
          exact ⟨rfl, trivial⟩
    · rintro σ H2 ⟨rfl, rfl⟩
      walk_at "sx"
      refine q_app hp (by rw [len_ivs, List.length_take]; omega) ⟨_, _, rfl, same_mut s1 np, ?_⟩
      have e : (links bs).take (i + 1) = (links bs).take i ++ [link bs i] := take_map_range _ hi
      rw [upd_same, e, ivs_app]
  · rintro σ H1 ⟨v2, v3, rfl, s1, hp⟩
    walk_at "sx"
    rw [List.take_of_length_le (by rw [links_len]; exact Nat.le_refl _)] at hp
    exact k p H1 np s1 hp
end Sky

/-! K08a: the law's looks at rows and crossed places. -/
namespace Sky
open PySem PySem.Spec PyProof.Rows L2
local macro_rules | `(tactic| walk_at "sx") => `(tactic| try simp only [e_K, e_seq, e_asg, e_name, e_drop, e_ret, e_retN, e_ifs, e_next, e_var, e_c, e_op, e_un, e_rI0, e_rI, e_rU, e_test, e_B, e_bl, e_and, e_or, e_not, e_andV, e_orV, e_notV, e_if, e_CB, e_CKw, e_cons, e_nil, e_call,
  e_chn, e_cCons, e_cOne, e_BM, e_BM0, e_sub, e_par, e_ls, e_noP, e_part, e_intx, e_refx, e_yes, e_get0, e_getS, e_sl, List.set_cons_zero, List.set_cons_succ, List.cons_append, List.nil_append, List.append_nil, Bool.not_true, Bool.not_false, e_lst, e_tup, e_rev, e_eqi, e_nei, decide_true, decide_false, if_true, Bool.false_eq_true, if_false, e_any, e_fld, e_sfld, e_meth, e_make, e_par3])
theorem e_eqb {a b : Bool} {H : Hp} {Q : VK} : rEq (.bl a) (.bl b) H Q = Q (.bl (decide (a = b))) H := by
  have e : decide (V.bl a = V.bl b) = decide (a = b) := by simp
  unfold rEq
  rw [e]
  simp [scal]
theorem ivs_set (l : List Int) (j : Nat) (v : Int) : (ivs l).set j (.int v) = ivs (l.set j v) := (List.map_set ..).symm
theorem made_same {H : Hp} {x dx C : Addr} (nx : H x = none) (ndx : H dx = none) (hne : dx ≠ x) : Same H (upd (upd H dx (.own x)) x (.ins C dx [])) :=
  (same_new ndx).trans (same_new (by rw [upd_ne hne.symm]; exact nx))
abbrev s__law_says : Stmt := top 21
abbrev N__law_says : List Str := ["_law_said", "_law_due"]
theorem sc__law_says : FnScope ["_law_said", "_law_due"] ["_law_said", "_law_due"] (defScope s__law_says) := ⟨rfl, rfl, rfl, by decide +kernel, rfl, by decide +kernel, by decide +kernel⟩
def sp__law_says (K : PySem.W.Frag) : Sp := Sp2 fun x y H Q _ => ∃ b c : Bool, x = .bl b ∧ y = .bl c ∧ Q (.bl (decide (b = c))) H
theorem ok__law_says {P : Program} {w : World} {K : PySem.W.Frag} {mg : Str → Option Value} {base : Heap} {CL : Cl} (D : Def K mg "_law_says" ["_law_said", "_law_due"] s__law_says) (T : Txt K mg CL)  : Has P w K mg base CX0 1 "_law_says" ["_law_said", "_law_due"] (sp__law_says K) := by
  obtain ⟨f, fd, gm, F, bb⟩ := D
  refine ⟨f, fd, gm, F.ok sc__law_says (fun vs H Q E h => ?_) (fun cdv A outer s H vs Q E hr h => ?_), F.kp, bb⟩
  · obtain ⟨x1, x2, rfl, _⟩ := h
    rfl
  obtain ⟨x1, x2, rfl, h⟩ := h
  refine ⟨_, (pss_one (ps_ret (pe_and (pe_callB (isiK (K := K)) (by rfl) T.m_isinstance bt_isinstance (pa_cons (pv 0) (pa_cons (pe_bltn (v := V.ty "bool") (by rfl) T.m_bool bt_bool rfl) pa_nil))) (pe_one (pe_cmpR op_eq (pv 0) (pv 1) (nomark _)))))), start_is (σ := [some x1, some x2]) rfl ?_⟩
  obtain ⟨b, c, rfl, rfl, k⟩ := h
  walk_at "sx"
  refine q_isi tyx_bl kb_bb ?_
  walk_at "sx"
  rw [e_eqb]
  exact k
abbrev s__law_rows_right : Stmt := top 25
abbrev N__law_rows_right : List Str := ["_law_bars_here", "_law_other", "_law_told", "_law_row", "_law_mine", "_law_handed", "_law_answer", "_law_some"]
theorem sc__law_rows_right : FnScope ["_law_bars_here", "_law_other", "_law_told", "_law_row", "_law_mine", "_law_handed", "_law_answer", "_law_some"] ["_law_bars_here", "_law_other"] (defScope s__law_rows_right) := ⟨rfl, rfl, rfl, by decide +kernel, rfl, by decide +kernel, by decide +kernel⟩
def sp__law_rows_right (K : PySem.W.Frag) (CL : Cl) : Sp := Sp2 fun x y H Q _ => ∃ (a o : Addr) (bs os : List Int), x = .ref a ∧ y = .ref o ∧ SqL K H a (ivs bs) ∧ SqL K H o (ivs os) ∧ bs.length ≤ 63 ∧ os.length ≤ 63 ∧ ∀ H', Same H H' → Q (.bl true) H'
theorem ok__law_rows_right {P : Program} {w : World} {K : PySem.W.Frag} {mg : Str → Option Value} {base : Heap} {CL : Cl} (D : Def K mg "_law_rows_right" ["_law_bars_here", "_law_other"] s__law_rows_right) (T : Txt K mg CL) (h__law_links : Has P w K mg base CX0 1 "_law_links" ["_law_bars_here"] (sp__law_links K)) (h_Row___init__ : HasI P w K mg base CX0 1 CL.Row ["self", "bars"] (sp_Row___init__ K CL)) (h__law_says : Has P w K mg base CX0 1 "_law_says" ["_law_said", "_law_due"] (sp__law_says K)) (h_Board_shows : HasM P w K mg base CX0 2 CL.Board "shows" ["self", "bars"] (sp_Board_shows K CL)) (h_Row_shows : HasM P w K mg base CX0 2 CL.Row "shows" ["self", "links"] (sp_Row_shows K CL)) (h_Crossed_shows : HasM P w K mg base CX0 1 CL.Crossed "shows" ["self", "links"] (sp_Crossed_shows K CL)) : Has P w K mg base CX0 3 "_law_rows_right" ["_law_bars_here", "_law_other"] (sp__law_rows_right K CL) := by
  obtain ⟨f, fd, gm, F, bb⟩ := D
  obtain ⟨f__law_links, fd__law_links, g__law_links, G__law_links, k__law_links, b__law_links⟩ := h__law_links
  obtain ⟨f_Row___init__, fd_Row___init__, G_Row___init__, b_Row___init__, M_Row___init__⟩ := h_Row___init__
  obtain ⟨f__law_says, fd__law_says, g__law_says, G__law_says, k__law_says, b__law_says⟩ := h__law_says
  obtain ⟨f_Board_shows, fd_Board_shows, G_Board_shows, b_Board_shows, M_Board_shows⟩ := h_Board_shows
  obtain ⟨f_Row_shows, fd_Row_shows, G_Row_shows, b_Row_shows, M_Row_shows⟩ := h_Row_shows
  obtain ⟨f_Crossed_shows, fd_Crossed_shows, G_Crossed_shows, b_Crossed_shows, M_Crossed_shows⟩ := h_Crossed_shows
  refine ⟨f, fd, gm, F.ok sc__law_rows_right (fun vs H Q E h => ?_) (fun cdv A outer s H vs Q E hr h => ?_), F.kp, bb⟩
  · obtain ⟨x1, x2, rfl, _⟩ := h
    rfl
  have hr__law_links : Room 1 (A.deeper (envOfC "_law_rows_right" (defScope s__law_rows_right) s.heap.objs.size f cdv)) := hr.mono (by decide)
  have hr_Row___init__ : Room 2 (A.deeper (envOfC "_law_rows_right" (defScope s__law_rows_right) s.heap.objs.size f cdv)) := hr.mono (by decide)
  have hr__law_says : Room 1 (A.deeper (envOfC "_law_rows_right" (defScope s__law_rows_right) s.heap.objs.size f cdv)) := hr.mono (by decide)
  have hr_Board_shows : Room 2 (A.deeper (envOfC "_law_rows_right" (defScope s__law_rows_right) s.heap.objs.size f cdv)) := hr.mono (by decide)
  have hr_Row_shows : Room 2 (A.deeper (envOfC "_law_rows_right" (defScope s__law_rows_right) s.heap.objs.size f cdv)) := hr.mono (by decide)
  have hr_Crossed_shows : Room 1 (A.deeper (envOfC "_law_rows_right" (defScope s__law_rows_right) s.heap.objs.size f cdv)) := hr.mono (by decide)
  obtain ⟨x1, x2, rfl, h⟩ := h
  refine ⟨_, (pss_cons (ps_set (i := 2) sc__law_rows_right.nd rfl (Or.inl rfl) (pe_lst (pa_cons (pe_call G__law_links hr__law_links (by rfl) g__law_links k__law_links b__law_links .nil pass0 (pa_cons (pv 0) pa_nil)) (pa_cons (pe_call G__law_links hr__law_links (by rfl) g__law_links k__law_links b__law_links .nil pass0 (pa_cons (pv 1) pa_nil)) (pa_cons (pe_call G__law_links hr__law_links (by rfl) g__law_links k__law_links b__law_links .nil pass0 (pa_cons (pe_slice (sl_listK (K := K)) (pv 0) (po_some pe_int) po_none) pa_nil)) pa_nil)))))
      (pss_cons (ps_for PassesOwn.never rfl (pi_zip (by rfl) T.m_zip (pa_cons (pe_lst (pa_cons (pv 0) (pa_cons (pv 1) (pa_cons (pe_slice (sl_listK (K := K)) (pv 0) (po_some pe_int) po_none) pa_nil)))) (pa_cons (pv 2) pa_nil))) (pg_tup (n := 2) rfl (pgs_cons (pg_name (i := 3) sc__law_rows_right.nd rfl (Or.inl rfl)) (pgs_cons (pg_name (i := 4) sc__law_rows_right.nd rfl (Or.inr rfl)) pgs_nil))) (pss_cons (ps_set (i := 5) sc__law_rows_right.nd rfl (Or.inl rfl) (pe_callTy (listK (K := K)) (by rfl) T.m_list bt_list (pa_cons (pv 3) pa_nil)))
      (pss_cons (ps_set (i := 6) sc__law_rows_right.nd rfl (Or.inr rfl) (pe_make M_Row___init__ G_Row___init__ hr_Row___init__ (by rfl) T.c_Row b_Row___init__ .nil pass0 (pa_cons (pv 5) pa_nil)))
      (pss_cons (ps_expr (pe_bm PySem.F.plainAttrs_list PySem.F.slot_list_append PySem.F.type_list_append mt_append (pv 5) (pa_cons pe_int pa_nil)))
      (pss_cons (ps_if (pt_cmpR (neDK (K := K) hr.units) (pe_fldK (K := K) (pv 6) (by rfl)) (pv 3) (nomark _)) (pss_one (ps_ret pe_bl)) pss_nil)
      (pss_one (ps_if (pt_not (pt_val (pe_callB (allK (K := K) rfl) (by rfl) T.m_all bt_all (pa_cons (pe_lc (own := [("_law_some", 7)]) (g := (gName 7)) (tt := tYes) (by rfl) sc__law_rows_right.nd (pi_list (pv 2)) (blkOk_by (own := [("_law_some", 7)]) (N := N__law_rows_right) (sc := defScope s__law_rows_right) (by decide +kernel)) (fun _ _ _ _ _ => (pg_name (i := 7) sc__law_rows_right.nd rfl (Or.inl rfl))) (fun _ _ _ _ _ => pts_nil) (fun _ _ _ _ _ => (pe_call G__law_says hr__law_says (by rfl) g__law_says k__law_says b__law_says .nil pass0 (pa_cons (pe_meth (pv 6) T.cl_Row M_Row_shows G_Row_shows hr_Row_shows b_Row_shows .nil pass0 (pa_cons (pv 7) pa_nil)) (pa_cons (pe_cmpR (eqDK (K := K) hr.units) (pv 4) (pv 7) (nomark _)) pa_nil))))) pa_nil)))) (pss_one (ps_ret pe_bl)) pss_nil)))))))
      (pss_one (ps_ret pe_bl)))), start_is (σ := [some x1, some x2, none, none, none, none, none, none]) rfl ?_⟩
  obtain ⟨a, o, bs, os, rfl, rfl, hS, hO, hlb, hlo, k⟩ := h
  walk_at "sx"
  refine ⟨_, rfl, a, bs, rfl, hS, by omega, fun p1 H1 n1 s1 h1 => ?_⟩
  refine ⟨_, rfl, o, os, rfl, s1.seq hO, by omega, fun p2 H2 n2 s2 h2 => ?_⟩
  have s12 := s1.trans s2
  refine q_sl (s12.seq hS) fun t nt => ?_
  rw [show (1 : Int) = ((1 : Nat) : Int) from rfl, cut_from]
  have s3 := s12.trans (same_new (o := .lst (ivs (bs.drop 1))) nt)
  refine ⟨_, rfl, t, bs.drop 1, rfl, SqL.of upd_same, by rw [List.length_drop]; omega, fun p3 H4 n3 s4 h4 => ?_⟩
  walk_at "sx"
  have s04 := s3.trans s4
  have h1' := s4 _ _ (same_new (o := .lst (ivs (bs.drop 1))) nt _ _ (s2 _ _ h1))
  have h2' := s4 _ _ (same_new (o := .lst (ivs (bs.drop 1))) nt _ _ h2)
  refine q_newL fun d nd => ?_
  have s5 := same_new (o := .lst [V.ref p1, .ref p2, .ref p3]) nd
  have s05 := s04.trans s5
  have hd : upd H4 d (.lst [V.ref p1, .ref p2, .ref p3]) d = some (.lst [V.ref p1, .ref p2, .ref p3]) := upd_same
  have g1 := s5 _ _ h1'
  have g2 := s5 _ _ h2'
  have g3 := s5 _ _ h4
  generalize upd H4 d (.lst [V.ref p1, .ref p2, .ref p3]) = H5 at s05 hd g1 g2 g3 ⊢
  rw [e_forZ]
  walk_at "sx"
  refine q_sl (s05.seq hS) fun t2 nt2 => ?_
  rw [cut_from]
  have s6 := same_new (o := .lst (ivs (bs.drop 1))) nt2
  refine q_newL fun e ne => ?_
  have s7 := s6.trans (same_new (o := .lst [V.ref a, .ref o, .ref t2]) ne)
  have he : upd (upd H5 t2 (.lst (ivs (bs.drop 1)))) e (.lst [V.ref a, .ref o, .ref t2]) e = some (.lst [V.ref a, .ref o, .ref t2]) := upd_same
  have ht2 := same_new (o := .lst [V.ref a, .ref o, .ref t2]) ne _ _ (upd_same (H := H5) (a := t2) (o := .lst (ivs (bs.drop 1))))
  generalize upd (upd H5 t2 (.lst (ivs (bs.drop 1)))) e (.lst [V.ref a, .ref o, .ref t2]) = H7 at s7 he ht2 ⊢
  have s07 := s05.trans s7
  have g1 := s7 _ _ g1
  have g2 := s7 _ _ g2
  have g3 := s7 _ _ g3
  have hd := s7 _ _ hd
  -- the list at a place of told: links of one of the three
  have told : ∀ (i : Nat) (x : V), ([V.ref p1, .ref p2, .ref p3] : List V)[i]? = some x → ∃ (t : Addr) (ts : List Int), x = .ref t ∧ H7 t = some (.lst (ivs ts)) ∧ ts.length ≤ 63 := by
    intro i x hx
    match i, hx with
    | 0, hx => cases hx; exact ⟨p1, _, rfl, g1, by rw [links_len]; exact hlb⟩
    | 1, hx => cases hx; exact ⟨p2, _, rfl, g2, by rw [links_len]; exact hlo⟩
    | 2, hx => cases hx; exact ⟨p3, _, rfl, g3, by rw [links_len, List.length_drop]; omega⟩
    | i + 3, hx => simp at hx
  refine q_forZ (xs := [V.ref a, .ref o, .ref t2]) (ys := [V.ref p1, .ref p2, .ref p3]) rfl (fun i σ H' => ∃ v3 v4 v5 v6 v7, σ = [some (.ref a), some (.ref o), some (.ref d), v3, v4, v5, v6, v7] ∧ Same H7 H')
    ⟨none, none, none, none, none, rfl, Same.refl _⟩ (fun i σ H' ⟨_, _, _, _, _, _, s⟩ => ⟨SqL.of (s _ _ he), SqL.of (s _ _ hd)⟩) ?_ ?_
  · rintro i x y tp σ H8 hx hy ⟨v3, v4, v5, v6, v7, rfl, s8⟩ nT
    obtain ⟨r, m, rs, rfl, rfl, hr, hm, hrl⟩ : ∃ (r m : Addr) (rs : List Int), x = .ref r ∧ y = .ref m ∧ SqL K H7 r (ivs rs) ∧ H7 m = some (.lst (ivs (links rs))) ∧ rs.length ≤ 63 := by
      match i, hx, hy with
      | 0, hx, hy => cases hx; cases hy; exact ⟨a, p1, bs, rfl, rfl, s07.seq hS, g1, hlb⟩
      | 1, hx, hy => cases hx; cases hy; exact ⟨o, p2, os, rfl, rfl, s07.seq hO, g2, hlo⟩
      | 2, hx, hy => cases hx; cases hy; exact ⟨t2, p3, _, rfl, rfl, SqL.of ht2, g3, by rw [List.length_drop]; omega⟩
      | i + 3, hx, hy => simp at hx
    have s9 := s8.trans (same_new (o := .tup [V.ref r, V.ref m]) nT)
    refine q_g2 (SqT.of upd_same) ?_
    generalize upd H8 tp (.tup [V.ref r, V.ref m]) = H9 at s9 ⊢
    walk_at "sx"
    refine q_list (s9.seq hr) fun h nh => ?_
    have s10 := s9.trans (same_new (o := .lst (ivs rs)) nh)
    have hh : upd H9 h (.lst (ivs rs)) h = some (.lst (ivs rs)) := upd_same
    have nh7 := s9.free nh
    generalize upd H9 h (.lst (ivs rs)) = H10 at s10 hh ⊢
    intro z dz nz ndz hne
    have sm := made_same (C := CL.Row) nz ndz hne
    refine ⟨_, _, rfl, z, dz, h, _, rfl, rfl, upd_same, sm.seq (SqL.of hh), fun l H11 nl nlz hR hl keep => ⟨rfl, ?_⟩⟩
    have s11 : Same H10 H11 := Same.made nz ndz keep
    have nlh : l ≠ h := (ne_of_none (sm _ _ hh) nl).symm
    have nzh : z ≠ h := (ne_of_none hh nz).symm
    refine q_app (s11 _ _ hh) (by rw [len_ivs]; omega) ?_
    have s12 := same_mut (o := .lst (ivs rs ++ [V.int 0])) (s10.trans s11) nh7
    have hR : RwAt CL.Row (upd H11 h (.lst (ivs rs ++ [V.int 0]))) z l := by
      obtain ⟨dx, e⟩ := hR
      exact ⟨dx, by rw [upd_ne nzh]; exact e⟩
    have hl : upd H11 h (.lst (ivs rs ++ [V.int 0])) l = some (.lst (ivs rs)) := by
      rw [upd_ne nlh]
      exact hl
    generalize upd H11 h (.lst (ivs rs ++ [V.int 0])) = H12 at s12 hR hl ⊢
    refine q_bars T hR ?_
    refine q_neL (SqL.of hl) (s12.seq hr) ?_
    walk_at "sx"
    try rw [if_neg (by simp)]
    refine q_lcL (fun i v _ => v = .bl true) (fun R r => ⟨_, rfl, r⟩) (SqL.of (s12 _ _ hd)) (by simp) (fun _ => rfl) (fun _ _ _ _ e _ => e) (fun j x H' Q' hx s13 kk => ?_) ?_
    · obtain ⟨t, ts, rfl, ht, htl⟩ := told j x hx
      have s14 := s12.trans s13
      simp only [wipe, List.map_cons, List.map_nil]
      walk_at "sx"
      obtain ⟨dx, eR⟩ := hR.more s13
      refine ⟨_, _, _, rfl, eR, rwF_shows _, ?_⟩
      refine ⟨_, _, rfl, z, t, l, rs, ts, rfl, rfl, ⟨dx, eR⟩, s13 _ _ hl, by omega, SqL.of (s14 _ _ ht), fun H15 s15 => ?_⟩
      have s16 := s14.trans s15
      refine q_eqL (SqL.of (s16 _ _ hm)) (SqL.of (s16 _ _ ht)) ?_
      refine ⟨_, _, rfl, _, _, rfl, rfl, kk _ _ s15 ?_⟩
      simp
    · intro D H13 acc nD s13 hD hla hva
      have e := acc_bls (f := fun _ => true) hla hva
      subst e
      refine q_all (SqL.of hD) ?_
      have e2 : (List.map (fun _ => true) (List.range ([V.ref p1, .ref p2, .ref p3] : List V).length)).all id = true := by simp
      rw [e2]
      walk_at "sx"
      try rw [if_neg (by simp)]
      exact ⟨_, _, _, _, _, rfl, s12.trans s13⟩
  · rintro σ H8 ⟨v3, v4, v5, v6, v7, rfl, s8⟩
    exact k H8 (s07.trans s8)
abbrev s__law_crossed_right : Stmt := top 26
abbrev N__law_crossed_right : List Str := ["_law_bars_here", "_law_cell", "_law_some", "_law_first", "_law_second", "_law_due", "_law_answer", "_law_place", "_law_one"]
theorem sc__law_crossed_right : FnScope ["_law_bars_here", "_law_cell", "_law_some", "_law_first", "_law_second", "_law_due", "_law_answer", "_law_place", "_law_one"] ["_law_bars_here", "_law_cell"] (defScope s__law_crossed_right) := ⟨rfl, rfl, rfl, by decide +kernel, rfl, by decide +kernel, by decide +kernel⟩
def sp__law_crossed_right (K : PySem.W.Frag) (CL : Cl) : Sp := Sp2 fun x y H Q _ => ∃ (a : Addr) (bs : List Int) (c : Int), x = .ref a ∧ y = .int c ∧ SqL K H a (ivs bs) ∧ bs.length ≤ 63 ∧ ∀ H', Same H H' → Q (.bl true) H'
theorem ok__law_crossed_right {P : Program} {w : World} {K : PySem.W.Frag} {mg : Str → Option Value} {base : Heap} {CL : Cl} (D : Def K mg "_law_crossed_right" ["_law_bars_here", "_law_cell"] s__law_crossed_right) (T : Txt K mg CL) (h_Crossed___init__ : HasI P w K mg base CX0 1 CL.Crossed ["self", "first", "second"] (sp_Crossed___init__ K CL)) (h__law_says : Has P w K mg base CX0 1 "_law_says" ["_law_said", "_law_due"] (sp__law_says K)) (h_Board_shows : HasM P w K mg base CX0 2 CL.Board "shows" ["self", "bars"] (sp_Board_shows K CL)) (h_Row_shows : HasM P w K mg base CX0 2 CL.Row "shows" ["self", "links"] (sp_Row_shows K CL)) (h_Crossed_shows : HasM P w K mg base CX0 1 CL.Crossed "shows" ["self", "links"] (sp_Crossed_shows K CL)) : Has P w K mg base CX0 3 "_law_crossed_right" ["_law_bars_here", "_law_cell"] (sp__law_crossed_right K CL) := by
  obtain ⟨f, fd, gm, F, bb⟩ := D
  obtain ⟨f_Crossed___init__, fd_Crossed___init__, G_Crossed___init__, b_Crossed___init__, M_Crossed___init__⟩ := h_Crossed___init__
  obtain ⟨f__law_says, fd__law_says, g__law_says, G__law_says, k__law_says, b__law_says⟩ := h__law_says
  obtain ⟨f_Board_shows, fd_Board_shows, G_Board_shows, b_Board_shows, M_Board_shows⟩ := h_Board_shows
  obtain ⟨f_Row_shows, fd_Row_shows, G_Row_shows, b_Row_shows, M_Row_shows⟩ := h_Row_shows
  obtain ⟨f_Crossed_shows, fd_Crossed_shows, G_Crossed_shows, b_Crossed_shows, M_Crossed_shows⟩ := h_Crossed_shows
  refine ⟨f, fd, gm, F.ok sc__law_crossed_right (fun vs H Q E h => ?_) (fun cdv A outer s H vs Q E hr h => ?_), F.kp, bb⟩
  · obtain ⟨x1, x2, rfl, _⟩ := h
    rfl
  have hr_Crossed___init__ : Room 2 (A.deeper (envOfC "_law_crossed_right" (defScope s__law_crossed_right) s.heap.objs.size f cdv)) := hr.mono (by decide)
  have hr__law_says : Room 1 (A.deeper (envOfC "_law_crossed_right" (defScope s__law_crossed_right) s.heap.objs.size f cdv)) := hr.mono (by decide)
  have hr_Board_shows : Room 2 (A.deeper (envOfC "_law_crossed_right" (defScope s__law_crossed_right) s.heap.objs.size f cdv)) := hr.mono (by decide)
  have hr_Row_shows : Room 2 (A.deeper (envOfC "_law_crossed_right" (defScope s__law_crossed_right) s.heap.objs.size f cdv)) := hr.mono (by decide)
  have hr_Crossed_shows : Room 1 (A.deeper (envOfC "_law_crossed_right" (defScope s__law_crossed_right) s.heap.objs.size f cdv)) := hr.mono (by decide)
  obtain ⟨x1, x2, rfl, h⟩ := h
  refine ⟨_, (pss_cons (ps_setLc (i := 2) (own := [("_law_place", 7), ("_law_one", 8)]) (g := (gTup K 2 (gCons (gName 7) (gCons (gName 8) gNil)))) (tt := tYes) (by rfl) sc__law_crossed_right.nd rfl rfl (sw_true rfl rfl rfl (by decide +kernel)) (pi_enum (by rfl) T.m_enumerate (pa_cons (pv 0) pa_nil)) (blkOk_by (own := [("_law_place", 7), ("_law_one", 8)]) (N := N__law_crossed_right) (sc := defScope s__law_crossed_right) (by decide +kernel)) (fun _ _ _ _ _ => (pg_tup (n := 2) rfl (pgs_cons (pg_name (i := 7) sc__law_crossed_right.nd rfl (Or.inl rfl)) (pgs_cons (pg_name (i := 8) sc__law_crossed_right.nd rfl (Or.inl rfl)) pgs_nil)))) (fun _ _ _ _ _ => pts_nil) (fun _ _ _ _ _ => (pe_op op_sub (pe_op op_mod (pe_op op_fdiv (pv 8) pe_int) (pe_op op_add (pv 7) pe_int)) pe_int)))
      (pss_cons (ps_set (i := 3) sc__law_crossed_right.nd rfl (Or.inl rfl) (pe_op op_sub (pe_op op_mod (pv 1) (pe_op op_add (pe_callB (lenK (K := K)) (by rfl) T.m_len bt_len (pa_cons (pv 2) pa_nil)) pe_int)) pe_int))
      (pss_cons (ps_set (i := 4) sc__law_crossed_right.nd rfl (Or.inl rfl) (pe_op op_sub (pe_op op_mod (pe_op op_fdiv (pv 1) pe_int) (pe_op op_add (pe_callB (lenK (K := K)) (by rfl) T.m_len bt_len (pa_cons (pv 2) pa_nil)) pe_int)) pe_int))
      (pss_mid (ps_set (i := 5) sc__law_crossed_right.nd rfl (Or.inl rfl) (pe_chn pe_int (pch_cons op_le (pv 3) (pch_cons op_lt (pv 4) (pch_one op_lt (pe_callB (lenK (K := K)) (by rfl) T.m_len bt_len (pa_cons (pv 2) pa_nil)))))))
      (pss_mid (ps_set (i := 5) sc__law_crossed_right.nd rfl (Or.inl rfl) (pe_and (pv 5) (pe_one (pe_chn (pe_ix (ix_listK (K := K)) (pv 2) (pv 3) (fun _ _ => rfl)) (pch_cons op_lt (pe_ix (ix_listK (K := K)) (pv 2) (pv 4) (fun _ _ => rfl)) (pch_one op_lt (pv 3)))))))
      (pss_cons (ps_set (i := 6) sc__law_crossed_right.nd rfl (Or.inl rfl) (pe_make M_Crossed___init__ G_Crossed___init__ hr_Crossed___init__ (by rfl) T.c_Crossed b_Crossed___init__ .nil pass0 (pa_cons (pv 3) (pa_cons (pv 4) pa_nil))))
      (pss_one (ps_ret (pe_and (pe_cmpR (eqDK (K := K) hr.units) (pe_tup (pa_cons (pe_fldK (K := K) (pv 6) (by rfl)) (pa_cons (pe_fldK (K := K) (pv 6) (by rfl)) pa_nil))) (pe_tup (pa_cons (pv 3) (pa_cons (pv 4) pa_nil))) (nomark _)) (pe_one (pe_call G__law_says hr__law_says (by rfl) g__law_says k__law_says b__law_says .nil pass0 (pa_cons (pe_meth (pv 6) T.cl_Crossed M_Crossed_shows G_Crossed_shows hr_Crossed_shows b_Crossed_shows .nil pass0 (pa_cons (pv 2) pa_nil)) (pa_cons (pv 5) pa_nil))))))))))))), start_is (σ := [some x1, some x2, none, none, none, none, none, none, none]) rfl ?_⟩
  obtain ⟨a, bs, c, rfl, rfl, hS, hlen, k⟩ := h
  walk_at "sx"
  refine q_lcEG (xs := ivs bs) (fun i v _ => v = .int (g bs i / 3 % ((i : Int) + 1) - 1)) (fun R r => ⟨_, rfl, r⟩) hS (by rw [len_ivs]; omega) (fun _ _ _ _ e _ => e) (fun i x t H' Q' hx s1 hT kk => ?_) ?_
  · obtain ⟨hi, rfl⟩ := of_ivs hx
    refine q_g2 (SqT.of hT) ⟨rfl, ?_⟩
    simp only [wipe, List.map_cons, List.map_nil]
    walk_at "sx"
    exact ⟨⟨by decide, by decide⟩, by omega, kk _ _ (Same.refl _) rfl⟩
  intro D H1 acc nD hs1 hD hla hva
  have e := acc_ivs hla hva
  rw [len_ivs] at e
  subst e
  have lts : ((List.range bs.length).map fun i => g bs i / 3 % ((i : Int) + 1) - 1).length = bs.length := by simp
  generalize (List.range bs.length).map (fun i => g bs i / 3 % ((i : Int) + 1) - 1) = ts at hD lts
  refine q_lenI (SqL.of hD) ?_
  walk_at "sx"
  refine ⟨by omega, ⟨by decide, by decide⟩, q_lenI (SqL.of hD) ?_⟩
  walk_at "sx"
  refine ⟨by omega, ?_⟩
  generalize c % ((ts.length : Int) + 2) - 1 = f
  generalize c / 5 % ((ts.length : Int) + 2) - 1 = s
  refine q_mid (fun σ H2 => σ = [some (.ref a), some (.int c), some (.ref D), some (.int f), some (.int s), some (.bl (decide (0 ≤ f ∧ f < s ∧ s < (ts.length : Int)))), none, none, none] ∧ H2 = H1) ?_ ?_
  · walk_at "sx"
    by_cases c1 : 0 ≤ f
    · rw [if_pos (decide_eq_true c1)]
      by_cases c2 : f < s
      · rw [if_pos (decide_eq_true c2)]
        refine q_lenI (SqL.of hD) ?_
        walk_at "sx"
        refine ⟨?_, trivial⟩
        simp [c1, c2]
      · rw [if_neg (by simpa using c2)]
        refine ⟨?_, trivial⟩
        simp [c2]
    · rw [if_neg (by simpa using c1)]
      refine ⟨?_, trivial⟩
      simp [c1]
  rintro σ H2 ⟨rfl, rfl⟩
  walk_at "sx"
  refine q_mid (fun σ H3 => σ = [some (.ref a), some (.int c), some (.ref D), some (.int f), some (.int s), some (.bl (tf (Cross ts f s))), none, none, none] ∧ H3 = H2) ?_ ?_
  · walk_at "sx"
    by_cases c1 : 0 ≤ f ∧ f < s ∧ s < (ts.length : Int)
    · rw [if_pos (decide_eq_true c1)]
      refine q_ixL (SqL.of hD) (j := f.toNat) (by omega) (by omega) (q_ixL (SqL.of hD) (j := s.toNat) (by omega) (by omega) ?_)
      walk_at "sx"
      by_cases c2 : g ts f.toNat < g ts s.toNat
      · rw [if_pos (decide_eq_true c2)]
        have e : decide (g ts s.toNat < f) = tf (Cross ts f s) := tf_of (by
          rw [decide_eq_true_eq]
          exact ⟨fun z => ⟨c1.1, c1.2.1, c1.2.2, c2, z⟩, fun z => z.2.2.2.2⟩)
        rw [e]
        exact ⟨rfl, trivial⟩
      · rw [if_neg (by simpa using c2)]
        have e : false = tf (Cross ts f s) := tf_of ⟨fun z => (by cases z), fun z => absurd z.2.2.2.1 c2⟩
        rw [← e]
        exact ⟨rfl, trivial⟩
    · rw [if_neg (by simpa using c1)]
      have e : false = tf (Cross ts f s) := tf_of ⟨fun z => (by cases z), fun z => absurd ⟨z.1, z.2.1, z.2.2.1⟩ c1⟩
      rw [← e]
      exact ⟨rfl, trivial⟩
  rintro σ H3 ⟨rfl, rfl⟩
  walk_at "sx"
  intro x dx nx ndx hne
  refine ⟨_, _, _, rfl, x, dx, f, s, rfl, rfl, rfl, upd_same, fun H4 hC keep => ⟨rfl, ?_⟩⟩
  have s4 : Same H3 H4 := Same.made nx ndx keep
  refine q_cfirst T hC (q_csecond T hC ?_)
  refine q_newT fun t1 nt1 => ?_
  refine q_newT fun t2 nt2 => ?_
  have s5 := same_new (o := .tup [V.int f, V.int s]) nt1
  have s6 := same_new (o := .tup [V.int f, V.int s]) nt2
  refine q_eqT (l := [f, s]) (m := [f, s]) (SqT.of (s6 _ _ upd_same)) (SqT.of upd_same) ?_
  walk_at "sx"
  try rw [if_pos (by simp)]
  obtain ⟨dx', eC⟩ := (hC.more s5).more s6
  have s46 := (s4.trans s5).trans s6
  generalize upd (upd H4 t1 (.tup [V.int f, V.int s])) t2 (.tup [V.int f, V.int s]) = H6 at eC s46 ⊢
  refine ⟨_, _, _, rfl, eC, crF_shows _ _, ?_⟩
  refine ⟨_, _, rfl, x, D, f, s, ts, rfl, rfl, ⟨dx', eC⟩, SqL.of (s46 _ _ hD), fun cc hc => ?_⟩
  refine ⟨_, _, rfl, _, _, rfl, rfl, ?_⟩
  rw [decide_eq_true (tf_of hc)]
  exact k H6 ((hs1).trans s46)
end Sky

/-! K08b: the law's looks at boards. -/
namespace Sky
open PySem PySem.Spec PyProof.Rows L2
local macro_rules | `(tactic| walk_at "sx") => `(tactic| try simp only [e_K, e_seq, e_asg, e_name, e_drop, e_ret, e_retN, e_ifs, e_next, e_var, e_c, e_op, e_un, e_rI0, e_rI, e_rU, e_test, e_B, e_bl, e_and, e_or, e_not, e_andV, e_orV, e_notV, e_if, e_CB, e_CKw, e_cons, e_nil, e_call,
  e_chn, e_cCons, e_cOne, e_BM, e_BM0, e_sub, e_par, e_ls, e_noP, e_part, e_intx, e_refx, e_yes, e_get0, e_getS, e_sl, List.set_cons_zero, List.set_cons_succ, List.cons_append, List.nil_append, List.append_nil, Bool.not_true, Bool.not_false, e_lst, e_tup, e_rev, e_eqi, e_nei, decide_true, decide_false, if_true, Bool.false_eq_true, if_false, e_any, e_fld, e_sfld, e_meth, e_make, e_par3])
theorem mem_cut {bs : List Int} {i j : Nat} (hj : j ≤ bs.length) {m : Int} : m ∈ (bs.take j).drop i ↔ ∃ k, i ≤ k ∧ k < j ∧ g bs k = m := by
  rw [List.mem_drop_iff_getElem]
  constructor
  · rintro ⟨n, hn, rfl⟩
    rw [List.length_take] at hn
    have h : i + n < bs.length := by omega
    have e : g bs (i + n) = bs[i + n] := by simp [g, h]
    exact ⟨i + n, by omega, by omega, by rw [e, List.getElem_take]⟩
  · rintro ⟨k, h1, h2, rfl⟩
    refine ⟨k - i, by rw [List.length_take]; omega, ?_⟩
    have e : i + (k - i) = k := by omega
    simp [g, e, show k < bs.length by omega]
theorem mem_cut2 {bs : List Int} {i j : Nat} {m : Int} : m ∈ (bs.take j).drop i ↔ ∃ k, i ≤ k ∧ k < j ∧ k < bs.length ∧ g bs k = m := by
  rw [List.mem_drop_iff_getElem]
  constructor
  · rintro ⟨n, hn, rfl⟩
    rw [List.length_take] at hn
    have h : i + n < bs.length := by omega
    have e : g bs (i + n) = bs[i + n] := by simp [g, h]
    exact ⟨i + n, by omega, by omega, h, by rw [e, List.getElem_take]⟩
  · rintro ⟨k, h1, h2, h3, rfl⟩
    refine ⟨k - i, by rw [List.length_take]; omega, ?_⟩
    have e : i + (k - i) = k := by omega
    simp [g, e, h3]
theorem q_cat {l b : Addr} {xs zs : List V} {H : Hp} {Q : VK} (h1 : H l = some (.lst xs)) (h2 : H b = some (.lst zs)) (hz : xs.length + zs.length ≤ 100000) (q : ∀ p, H p = none → Q (.ref p) (upd H p (.lst (xs ++ zs)))) : rCat (.ref l) (.ref b) H Q := ⟨l, b, xs, zs, rfl, rfl, h1, h2, sz_of hz, q⟩
/-- the ones beside a stretch -/
def beside (bs : List Int) (u v : Nat) : List Int := (bs.take u).drop (u - 1) ++ (bs.take (v + 2)).drop (v + 1)
theorem beside_max {bs : List Int} (hg : Good bs) {i u v : Nat} (hi : i < bs.length) (hu : u ≤ i) {M : Int} (h : (beside bs u v = [] ∧ M = -1) ∨ (M ∈ beside bs u v ∧ ∀ y ∈ beside bs u v, y ≤ M)) :
    M < g bs i ↔ ((0 < u → g bs (u - 1) < g bs i) ∧ (v + 1 < bs.length → g bs (v + 1) < g bs i)) := by
  have gi := (hg.at hi).1
  have mu : 0 < u → g bs (u - 1) ∈ beside bs u v := fun z => List.mem_append_left _ (mem_cut2.mpr ⟨u - 1, by omega, by omega, by omega, rfl⟩)
  have mv : v + 1 < bs.length → g bs (v + 1) ∈ beside bs u v := fun z => List.mem_append_right _ (mem_cut2.mpr ⟨v + 1, by omega, by omega, z, rfl⟩)
  rcases h with ⟨e, rfl⟩ | ⟨h1, h2⟩
  · constructor
    · intro _
      refine ⟨fun z => ?_, fun z => ?_⟩
      · have := mu z
        rw [e] at this
        simp at this
      · have := mv z
        rw [e] at this
        simp at this
    · intro _
      omega
  · constructor
    · intro c
      refine ⟨fun z => ?_, fun z => ?_⟩
      · have := h2 _ (mu z)
        omega
      · have := h2 _ (mv z)
        omega
    · rintro ⟨c1, c2⟩
      rcases List.mem_append.mp h1 with m | m
      · obtain ⟨k, k1, k2, k3, rfl⟩ := mem_cut2.mp m
        have : k = u - 1 := by omega
        subst this
        exact c1 (by omega)
      · obtain ⟨k, k1, k2, k3, rfl⟩ := mem_cut2.mp m
        have : k = v + 1 := by omega
        subst this
        exact c2 k3
abbrev s__law_under : Stmt := top 22
abbrev N__law_under : List Str := ["_law_bars_here", "_law_first", "_law_many", "_law_high", "_law_around", "_law_place", "_law_pair", "_law_one", "_law_two"]
theorem sc__law_under : FnScope ["_law_bars_here", "_law_first", "_law_many", "_law_high", "_law_around", "_law_place", "_law_pair", "_law_one", "_law_two"] ["_law_bars_here", "_law_first", "_law_many", "_law_high", "_law_around"] (defScope s__law_under) := ⟨rfl, rfl, rfl, by decide +kernel, rfl, by decide +kernel, by decide +kernel⟩
def sp__law_under (K : PySem.W.Frag) : Sp := Sp5 fun x y z u v H Q _ => ∃ (a r : Addr) (bs : List Int) (f m h : Int) (rs : List (Int × Int)) (vs : List V), x = .ref a ∧ y = .int f ∧ z = .int m ∧ u = .int h ∧ v = .ref r ∧ SqL K H a (ivs bs) ∧ Good bs ∧ bs.length ≤ 1000 ∧ H r = some (.lst vs) ∧ Prs H rs vs ∧
  ∀ (c : Bool) H', Same H H' → (c = true ↔ Under bs f m h rs) → Q (.bl c) H'
theorem ok__law_under {P : Program} {w : World} {K : PySem.W.Frag} {mg : Str → Option Value} {base : Heap} {CL : Cl} (D : Def K mg "_law_under" ["_law_bars_here", "_law_first", "_law_many", "_law_high", "_law_around"] s__law_under) (T : Txt K mg CL)  : Has P w K mg base CX0 1 "_law_under" ["_law_bars_here", "_law_first", "_law_many", "_law_high", "_law_around"] (sp__law_under K) := by
  obtain ⟨f, fd, gm, F, bb⟩ := D
  refine ⟨f, fd, gm, F.ok sc__law_under (fun vs H Q E h => ?_) (fun cdv A outer s H vs Q E hr h => ?_), F.kp, bb⟩
  · obtain ⟨x1, x2, x3, x4, x5, rfl, _⟩ := h
    rfl
  obtain ⟨x1, x2, x3, x4, x5, rfl, h⟩ := h
  refine ⟨_, (pss_cons (ps_if (PW.pt (pw_or (pt_cmpR op_lt (pv 1) pe_int (nomark _)) (pw_or (pt_cmpR op_lt (pv 2) pe_int (nomark _)) (pw_or (pt_cmpR op_lt (pv 3) pe_int (nomark _)) (pw_or (pt_cmpR op_gt (pe_op op_add (pv 1) (pv 2)) (pe_callB (lenK (K := K)) (by rfl) T.m_len bt_len (pa_cons (pv 0) pa_nil)) (nomark _)) (pw_or1 (pt_cmpR op_ne (pe_callB (lenK (K := K)) (by rfl) T.m_len bt_len (pa_cons (pv 4) pa_nil)) (pe_callB (lenK (K := K)) (by rfl) T.m_len bt_len (pa_cons (pv 0) pa_nil)) (nomark _)))))))) (pss_one (ps_ret pe_bl)) pss_nil)
      (pss_cons (ps_if (pt_cmpR op_lt (pe_callB (minK (K := K) rfl) (by rfl) T.m_min bt_min (pa_cons (pe_slice (sl_listK (K := K)) (pv 0) (po_some (pv 1)) (po_some (pe_op op_add (pv 1) (pv 2)))) pa_nil)) (pv 3) (nomark _)) (pss_one (ps_ret pe_bl)) pss_nil)
      (pss_cons (ps_for PassesOwn.never rfl (pi_enum (by rfl) T.m_enumerate (pa_cons (pv 4) pa_nil)) (pg_tup (n := 2) rfl (pgs_cons (pg_name (i := 5) sc__law_under.nd rfl (Or.inl rfl)) (pgs_cons (pg_name (i := 6) sc__law_under.nd rfl (Or.inl rfl)) pgs_nil))) (pss_cons (ps_asg (pv 6) (pg_tup (n := 2) rfl (pgs_cons (pg_name (i := 7) sc__law_under.nd rfl (Or.inl rfl)) (pgs_cons (pg_name (i := 8) sc__law_under.nd rfl (Or.inl rfl)) pgs_nil))))
      (pss_cons (ps_if (pt_not (pt_chn pe_int (pch_cons op_le (pv 7) (pch_cons op_le (pv 5) (pch_cons op_le (pv 8) (pch_one op_lt (pe_callB (lenK (K := K)) (by rfl) T.m_len bt_len (pa_cons (pv 0) pa_nil)))))))) (pss_one (ps_ret pe_bl)) pss_nil)
      (pss_cons (ps_if (pt_cmpR op_ge (pe_callBK (maxDK (K := K) rfl) (by rfl) T.m_max bt_max (pa_cons (pe_op op_cat (pe_slice (sl_listK (K := K)) (pv 0) (po_some (pe_callB (call_max2 rfl) (by rfl) T.m_max bt_max (pa_cons (pe_op op_sub (pv 7) pe_int) (pa_cons pe_int pa_nil)))) (po_some (pv 7))) (pe_slice (sl_listK (K := K)) (pv 0) (po_some (pe_op op_add (pv 8) pe_int)) (po_some (pe_op op_add (pv 8) pe_int)))) pa_nil) (pk_cons (pe_un un_neg pe_int) pk_nil)) (pe_ix (ix_listK (K := K)) (pv 0) (pv 5) (fun _ _ => rfl)) (nomark _)) (pss_one (ps_ret pe_bl)) pss_nil)
      (pss_one (ps_if (pt_cmpR op_gt (pe_op op_mul (pe_ix (ix_listK (K := K)) (pv 0) (pv 5) (fun _ _ => rfl)) (pe_op op_add (pe_op op_sub (pv 8) (pv 7)) pe_int)) (pe_op op_mul (pv 2) (pv 3)) (nomark _)) (pss_one (ps_ret pe_bl)) pss_nil))))))
      (pss_one (ps_ret pe_bl))))), start_is (σ := [some x1, some x2, some x3, some x4, some x5, none, none, none, none]) rfl ?_⟩
  obtain ⟨a, r, bs, f, m, h, rs, vs, rfl, rfl, rfl, rfl, rfl, hS, good, hlen, hr, hv, k⟩ := h
  have kF : ∀ H', Same H H' → ¬ Under bs f m h rs → Q (.bl false) H' := fun H' s n => k false H' s ⟨fun e => (by cases e), fun e => absurd e n⟩
  walk_at "sx"
  by_cases c1 : f < 0
  · rw [if_pos (decide_eq_true c1)]
    exact kF H (Same.refl _) fun z => by have := z.1.1; omega
  rw [if_neg (by simpa using c1)]
  by_cases c2 : m < 1
  · rw [if_pos (decide_eq_true c2)]
    exact kF H (Same.refl _) fun z => by have := z.1.2.1; omega
  rw [if_neg (by simpa using c2)]
  by_cases c3 : h < 0
  · rw [if_pos (decide_eq_true c3)]
    exact kF H (Same.refl _) fun z => by have := z.1.2.2.1; omega
  rw [if_neg (by simpa using c3)]
  refine q_lenI hS ?_
  walk_at "sx"
  by_cases c4 : (bs.length : Int) < f + m
  · rw [if_pos (decide_eq_true c4)]
    exact kF H (Same.refl _) fun z => by have := z.1.2.2.2.1; omega
  rw [if_neg (by simpa using c4)]
  refine q_len (SqL.of hr) (q_lenI hS ?_)
  walk_at "sx"
  by_cases c6 : (vs.length : Int) = (bs.length : Int)
  rotate_left
  · rw [if_pos (by simp [c6])]
    exact kF H (Same.refl _) fun z => c6 (by rw [hv.len, z.2.1])
  rw [if_neg (by simp [c6])]
  have e6 : rs.length = bs.length := by rw [← hv.len]; omega
  obtain ⟨fn, rfl⟩ : ∃ fn : Nat, f = (fn : Int) := ⟨f.toNat, by omega⟩
  obtain ⟨fm, efm⟩ : ∃ fm : Nat, (fn : Int) + m = (fm : Int) := ⟨((fn : Int) + m).toNat, by omega⟩
  rw [efm]
  refine q_sl hS fun t nt => ?_
  rw [cut_mid]
  have s1 := same_new (o := .lst (ivs ((bs.take fm).drop fn))) nt
  refine q_min (SqL.of upd_same) (by rw [List.length_drop, List.length_take]; omega) fun mi h1 h2 => ?_
  walk_at "sx"
  by_cases c5 : mi < h
  · rw [if_pos (decide_eq_true c5)]
    refine kF _ s1 fun z => ?_
    obtain ⟨kk, k1, k2, k3⟩ := (mem_cut (by omega)).mp h1
    have := z.1.2.2.2.2 kk (by omega) (by omega)
    omega
  rw [if_neg (by simpa using c5)]
  have lies : Lies bs fn m h := ⟨by omega, by omega, by omega, by omega, fun kk k1 k2 => by
    have := h2 _ ((mem_cut (by omega)).mpr ⟨kk, by omega, by omega, rfl⟩)
    omega⟩
  have hr1 := s1 _ _ hr
  have hS1 := s1.seq hS
  have hv1 := hv.mono (same_tk s1)
  generalize upd H t (.lst (ivs ((bs.take fm).drop fn))) = H1 at s1 hr1 hS1 hv1 ⊢
  refine q_forE (a := r) (xs := vs) (fun R r => ⟨_, rfl, r⟩) (fun i σ H' => ∃ v5 v6 v7 v8, σ = [some (.ref a), some (.int (fn : Int)), some (.int m), some (.int h), some (.ref r), v5, v6, v7, v8] ∧ Same H1 H' ∧ ∀ j, j < i → Bnd bs (m * h) j (rs.getD j (0, 0)))
    ⟨none, none, none, none, rfl, Same.refl _, fun j hj => by omega⟩ (fun i σ H' ⟨_, _, _, _, _, s, _⟩ => SqL.of (s _ _ hr1)) ?_ ?_
  · rintro i x σ H2 H3 hx ⟨v5, v6, v7, v8, rfl, s2, bn⟩ s3
    have hi : i < bs.length := by
      have := (List.getElem?_eq_some_iff.mp hx).1
      omega
    have s13 := s2.trans s3
    obtain ⟨w, hw, hW⟩ := hv1.get (i := i) (by omega)
    rw [hx] at hw
    cases hw
    have kF3 : ∀ H', Same H1 H' → ¬ Bnd bs (m * h) i (rs.getD i (0, 0)) → Q (.bl false) H' := fun H' s n => kF H' (s1.trans s) fun z => n (z.2.2 i hi)
    have nxt : Bnd bs (m * h) i (rs.getD i (0, 0)) → ∀ j, j < i + 1 → Bnd bs (m * h) j (rs.getD j (0, 0)) := fun b j hj => by
      by_cases e : j = i
      · rw [e]; exact b
      · exact bn j (by omega)
    have hW3 := s13 _ _ hW
    generalize rs.getD i (0, 0) = ab at hW3 kF3 nxt
    obtain ⟨u, v⟩ := ab
    have hS3 := s13.seq hS1
    simp only at hW3
    walk_at "sx"
    refine q_g2 (SqT.of hW3) ?_
    walk_at "sx"
    by_cases d1 : 0 ≤ u
    rotate_left
    · rw [if_neg (by simpa using d1)]
      exact kF3 _ s13 fun z => d1 z.1
    rw [if_pos (decide_eq_true d1)]
    by_cases d2 : u ≤ (i : Int)
    rotate_left
    · rw [if_neg (by simpa using d2)]
      exact kF3 _ s13 fun z => d2 z.2.1
    rw [if_pos (decide_eq_true d2)]
    by_cases d3 : (i : Int) ≤ v
    rotate_left
    · rw [if_neg (by simpa using d3)]
      exact kF3 _ s13 fun z => d3 z.2.2.1
    rw [if_pos (decide_eq_true d3)]
    refine q_lenI hS3 ?_
    walk_at "sx"
    by_cases d4 : v < (bs.length : Int)
    rotate_left
    · rw [if_pos (by simpa using d4)]
      exact kF3 _ s13 fun z => d4 z.2.2.2.1
    rw [if_neg (by simpa using d4)]
    obtain ⟨un, rfl⟩ : ∃ un : Nat, u = (un : Int) := ⟨u.toNat, by omega⟩
    obtain ⟨vn, rfl⟩ : ∃ vn : Nat, v = (vn : Int) := ⟨v.toNat, by omega⟩
    refine ⟨_, _, rfl, ?_⟩
    have e1 : (if (0 : Int) > (un : Int) - 1 then (0 : Int) else (un : Int) - 1) = ((un - 1 : Nat) : Int) := by split <;> omega
    have e2 : (vn : Int) + 1 = ((vn + 1 : Nat) : Int) := by omega
    have e3 : (vn : Int) + 2 = ((vn + 2 : Nat) : Int) := by omega
    rw [e1, e2, e3]
    refine q_sl hS3 fun t1 nt1 => ?_
    rw [cut_mid]
    have s4 := same_new (o := .lst (ivs ((bs.take un).drop (un - 1)))) nt1
    refine q_sl (s4.seq hS3) fun t2 nt2 => ?_
    rw [cut_mid]
    have s5 := same_new (o := .lst (ivs ((bs.take (vn + 2)).drop (vn + 1)))) nt2
    refine q_cat (s5 _ _ upd_same) upd_same (by rw [len_ivs, len_ivs, List.length_drop, List.length_drop, List.length_take, List.length_take]; omega) fun t3 nt3 => ?_
    have ec : ivs ((bs.take un).drop (un - 1)) ++ ivs ((bs.take (vn + 2)).drop (vn + 1)) = ivs (beside bs un vn) := by simp [beside, ivs]
    rw [ec]
    have s6 := (s4.trans s5).trans (same_new (o := .lst (ivs (beside bs un vn))) nt3)
    have ht3 : upd (upd (upd H3 t1 (.lst (ivs ((bs.take un).drop (un - 1))))) t2 (.lst (ivs ((bs.take (vn + 2)).drop (vn + 1))))) t3 (.lst (ivs (beside bs un vn))) t3 = some (.lst (ivs (beside bs un vn))) := upd_same
    generalize upd (upd (upd H3 t1 (.lst (ivs ((bs.take un).drop (un - 1))))) t2 (.lst (ivs ((bs.take (vn + 2)).drop (vn + 1))))) t3 (.lst (ivs (beside bs un vn))) = H4 at s6 ht3 ⊢
    have s16 := s13.trans s6
    have fin : ∀ M : Int, ((beside bs un vn = [] ∧ M = -1) ∨ (M ∈ beside bs un vn ∧ ∀ y ∈ beside bs un vn, y ≤ M)) →
        rIxL K (V.ref a) (V.int (i : Int)) H4 fun w_2 H2 => rI0 (fun i j => V.bl (decide (j ≤ i))) (V.int M) w_2 H2 fun v_4 H1_4 => ∃ b, v_4 = V.bl b ∧ if b = true then Q (V.bl false) H1_4 else
          rIxL K (V.ref a) (V.int (i : Int)) H1_4 fun v_5 H1_5 => rI CMul (fun i j => V.int (i * j)) v_5 (V.int ((vn : Int) - (un : Int) + 1)) H1_5 fun v_6 H1_6 => CMul m h ∧ rI0 (fun i j => V.bl (decide (j < i))) v_6 (V.int (m * h)) H1_6 fun v_7 H1_7 => ∃ b, v_7 = V.bl b ∧ if b = true then Q (V.bl false) H1_7 else
            ∃ v5 v6 v7 v8, [some (V.ref a), some (V.int (fn : Int)), some (V.int m), some (V.int h), some (V.ref r), some (V.int (i : Int)), some (V.ref w), some (V.int (un : Int)), some (V.int (vn : Int))] = [some (V.ref a), some (V.int (fn : Int)), some (V.int m), some (V.int h), some (V.ref r), v5, v6, v7, v8] ∧
              Same H1 H1_7 ∧ ∀ (j : Nat), j < i + 1 → Bnd bs (m * h) j (rs.getD j (0, 0)) := by
      intro M hM
      have bm := beside_max good hi (by omega) hM
      refine q_ixL (s16.seq hS1) rfl hi ?_
      walk_at "sx"
      by_cases c : g bs i ≤ M
      · rw [if_pos (decide_eq_true c)]
        refine kF3 _ s16 fun z => ?_
        have : M < g bs i := bm.mpr ⟨fun z1 => ?_, fun z1 => ?_⟩
        · omega
        · have := z.2.2.2.2.1 (show (0 : Int) < (un : Int) by omega)
          rwa [show ((un : Int) - 1).toNat = un - 1 by omega] at this
        · have := z.2.2.2.2.2.1 (show (vn : Int) < (bs.length : Int) - 1 by omega)
          rwa [show ((vn : Int) + 1).toNat = vn + 1 by omega] at this
      · rw [if_neg (by simpa using c)]
        obtain ⟨b5, b6⟩ := bm.mp (by omega)
        refine q_ixL (s16.seq hS1) rfl hi ?_
        walk_at "sx"
        refine ⟨.inl (good.mul hi), .inl ⟨by omega, by omega⟩, ?_⟩
        by_cases c7 : m * h < g bs i * ((vn : Int) - (un : Int) + 1)
        · rw [if_pos (decide_eq_true c7)]
          refine kF3 _ s16 fun z => ?_
          have := z.2.2.2.2.2.2
          simp only at this
          exact absurd c7 (Int.not_lt.mpr this)
        · rw [if_neg (by simpa using c7)]
          refine ⟨_, _, _, _, rfl, s16, nxt ⟨d1, d2, d3, d4, fun z => ?_, fun z => ?_, Int.not_lt.mp c7⟩⟩
          · show g bs ((un : Int) - 1).toNat < g bs i
            rw [show ((un : Int) - 1).toNat = un - 1 by omega]
            exact b5 (by omega)
          · show g bs ((vn : Int) + 1).toNat < g bs i
            rw [show ((vn : Int) + 1).toNat = vn + 1 by omega]
            exact b6 (by omega)
    refine q_maxD (SqL.of ht3) (fun e => fin _ (.inl ⟨e, rfl⟩)) (fun M m1 m2 => fin M (.inr ⟨m1, m2⟩))
  · rintro σ H2 ⟨v5, v6, v7, v8, rfl, s2, bn⟩
    walk_at "sx"
    refine k true H2 (s1.trans s2) ⟨fun _ => ⟨lies, e6, fun i hi => bn i (by omega)⟩, fun _ => rfl⟩
end Sky

/-! K08c: boards made by hand. -/
namespace Sky
open PySem PySem.Spec PyProof.Rows L2
local macro_rules | `(tactic| walk_at "sx") => `(tactic| try simp only [e_K, e_seq, e_asg, e_name, e_drop, e_ret, e_retN, e_ifs, e_next, e_var, e_c, e_op, e_un, e_rI0, e_rI, e_rU, e_test, e_B, e_bl, e_and, e_or, e_not, e_andV, e_orV, e_notV, e_if, e_CB, e_CKw, e_cons, e_nil, e_call,
  e_chn, e_cCons, e_cOne, e_BM, e_BM0, e_sub, e_par, e_ls, e_noP, e_part, e_intx, e_refx, e_yes, e_get0, e_getS, e_sl, List.set_cons_zero, List.set_cons_succ, List.cons_append, List.nil_append, List.append_nil, Bool.not_true, Bool.not_false, e_lst, e_tup, e_rev, e_eqi, e_nei, decide_true, decide_false, if_true, Bool.false_eq_true, if_false, e_any, e_fld, e_sfld, e_meth, e_make, e_par3])
theorem Prs.set {H : Hp} {ab : Int × Int} {v : V} (a : PrAt ab v H) : ∀ {l : List (Int × Int)} {vs : List V}, Prs H l vs → ∀ j, Prs H (l.set j ab) (vs.set j v)
  | _, _, .nil, _ => .nil
  | _, _, .cons b r, 0 => .cons a r
  | _, _, .cons b r, j + 1 => .cons b (Prs.set a r j)
theorem Prs.take {H : Hp} : ∀ {l : List (Int × Int)} {vs : List V}, Prs H l vs → ∀ j, Prs H (l.take j) (vs.take j)
  | _, _, .nil, j => by simpa using Prs.nil
  | _, _, .cons b r, 0 => .nil
  | _, _, .cons b r, j + 1 => .cons b (Prs.take r j)
theorem Prs.drop {H : Hp} : ∀ {l : List (Int × Int)} {vs : List V}, Prs H l vs → ∀ j, Prs H (l.drop j) (vs.drop j)
  | _, _, .nil, j => by simpa using Prs.nil
  | _, _, .cons b r, 0 => .cons b r
  | _, _, .cons b r, j + 1 => Prs.drop r j
theorem Prs.cat {H : Hp} {m : List (Int × Int)} {ws : List V} (q : Prs H m ws) : ∀ {l : List (Int × Int)} {vs : List V}, Prs H l vs → Prs H (l ++ m) (vs ++ ws)
  | _, _, .nil => q
  | _, _, .cons b r => .cons b (Prs.cat q r)
theorem cutV_to (xs : List V) (i : Nat) : cutV xs none (some (i : Int)) = xs.take i := by
  unfold cutV
  rw [HT.sIx_none, HT.sIx_nat, List.drop_zero, Nat.sub_zero]
  by_cases c : i ≤ xs.length
  · rw [Nat.min_eq_left c]
  · rw [Nat.min_eq_right (by omega), List.take_of_length_le (by omega), List.take_of_length_le (by omega)]
theorem cutV_from (xs : List V) (i : Nat) : cutV xs (some (i : Int)) none = xs.drop i := by
  unfold cutV
  rw [HT.sIx_none, HT.sIx_nat]
  by_cases c : i ≤ xs.length
  · rw [Nat.min_eq_left c, List.take_of_length_le (by simp)]
  · rw [Nat.min_eq_right (by omega), Nat.sub_self, List.take_zero, List.drop_eq_nil_of_le (by omega)]
abbrev s__law_board_right : Stmt := top 23
abbrev N__law_board_right : List Str := ["_law_bars_here", "_law_first", "_law_many", "_law_high", "_law_around", "_law_handed", "_law_answer"]
theorem sc__law_board_right : FnScope ["_law_bars_here", "_law_first", "_law_many", "_law_high", "_law_around", "_law_handed", "_law_answer"] ["_law_bars_here", "_law_first", "_law_many", "_law_high", "_law_around"] (defScope s__law_board_right) := ⟨rfl, rfl, rfl, by decide +kernel, rfl, by decide +kernel, by decide +kernel⟩
def sp__law_board_right (K : PySem.W.Frag) (CL : Cl) : Sp := Sp5 fun x y z u v H Q _ => ∃ (a r : Addr) (bs : List Int) (f m h : Int) (rs : List (Int × Int)) (vs : List V), x = .ref a ∧ y = .int f ∧ z = .int m ∧ u = .int h ∧ v = .ref r ∧ SqL K H a (ivs bs) ∧ Good bs ∧ bs.length ≤ 1000 ∧ H r = some (.lst vs) ∧ Prs H rs vs ∧ rs.length ≤ 1000 ∧
  ∀ H', Same H H' → Q (.bl true) H'
theorem ok__law_board_right {P : Program} {w : World} {K : PySem.W.Frag} {mg : Str → Option Value} {base : Heap} {CL : Cl} (D : Def K mg "_law_board_right" ["_law_bars_here", "_law_first", "_law_many", "_law_high", "_law_around"] s__law_board_right) (T : Txt K mg CL) (h_Board___init__ : HasI P w K mg base CX0 1 CL.Board ["self", "first", "many", "high", "around"] (sp_Board___init__ K CL)) (h__law_says : Has P w K mg base CX0 1 "_law_says" ["_law_said", "_law_due"] (sp__law_says K)) (h_Board_shows : HasM P w K mg base CX0 2 CL.Board "shows" ["self", "bars"] (sp_Board_shows K CL)) (h_Row_shows : HasM P w K mg base CX0 2 CL.Row "shows" ["self", "links"] (sp_Row_shows K CL)) (h_Crossed_shows : HasM P w K mg base CX0 1 CL.Crossed "shows" ["self", "links"] (sp_Crossed_shows K CL)) (h__law_under : Has P w K mg base CX0 1 "_law_under" ["_law_bars_here", "_law_first", "_law_many", "_law_high", "_law_around"] (sp__law_under K)) : Has P w K mg base CX0 3 "_law_board_right" ["_law_bars_here", "_law_first", "_law_many", "_law_high", "_law_around"] (sp__law_board_right K CL) := by
  obtain ⟨f, fd, gm, F, bb⟩ := D
  obtain ⟨f_Board___init__, fd_Board___init__, G_Board___init__, b_Board___init__, M_Board___init__⟩ := h_Board___init__
  obtain ⟨f__law_says, fd__law_says, g__law_says, G__law_says, k__law_says, b__law_says⟩ := h__law_says
  obtain ⟨f_Board_shows, fd_Board_shows, G_Board_shows, b_Board_shows, M_Board_shows⟩ := h_Board_shows
  obtain ⟨f_Row_shows, fd_Row_shows, G_Row_shows, b_Row_shows, M_Row_shows⟩ := h_Row_shows
  obtain ⟨f_Crossed_shows, fd_Crossed_shows, G_Crossed_shows, b_Crossed_shows, M_Crossed_shows⟩ := h_Crossed_shows
  obtain ⟨f__law_under, fd__law_under, g__law_under, G__law_under, k__law_under, b__law_under⟩ := h__law_under
  refine ⟨f, fd, gm, F.ok sc__law_board_right (fun vs H Q E h => ?_) (fun cdv A outer s H vs Q E hr h => ?_), F.kp, bb⟩
  · obtain ⟨x1, x2, x3, x4, x5, rfl, _⟩ := h
    rfl
  have hr_Board___init__ : Room 2 (A.deeper (envOfC "_law_board_right" (defScope s__law_board_right) s.heap.objs.size f cdv)) := hr.mono (by decide)
  have hr__law_says : Room 1 (A.deeper (envOfC "_law_board_right" (defScope s__law_board_right) s.heap.objs.size f cdv)) := hr.mono (by decide)
  have hr_Board_shows : Room 2 (A.deeper (envOfC "_law_board_right" (defScope s__law_board_right) s.heap.objs.size f cdv)) := hr.mono (by decide)
  have hr_Row_shows : Room 2 (A.deeper (envOfC "_law_board_right" (defScope s__law_board_right) s.heap.objs.size f cdv)) := hr.mono (by decide)
  have hr_Crossed_shows : Room 1 (A.deeper (envOfC "_law_board_right" (defScope s__law_board_right) s.heap.objs.size f cdv)) := hr.mono (by decide)
  have hr__law_under : Room 1 (A.deeper (envOfC "_law_board_right" (defScope s__law_board_right) s.heap.objs.size f cdv)) := hr.mono (by decide)
  obtain ⟨x1, x2, x3, x4, x5, rfl, h⟩ := h
  refine ⟨_, (pss_cons (ps_set (i := 5) sc__law_board_right.nd rfl (Or.inl rfl) (pe_callTy (listK (K := K)) (by rfl) T.m_list bt_list (pa_cons (pv 4) pa_nil)))
      (pss_cons (ps_set (i := 6) sc__law_board_right.nd rfl (Or.inl rfl) (pe_make M_Board___init__ G_Board___init__ hr_Board___init__ (by rfl) T.c_Board b_Board___init__ .nil pass0 (pa_cons (pv 1) (pa_cons (pv 2) (pa_cons (pv 3) (pa_cons (pv 5) pa_nil))))))
      (pss_cons (ps_expr (pe_bm PySem.F.plainAttrs_list PySem.F.slot_list_append PySem.F.type_list_append mt_append (pv 5) (pa_cons (pe_tup (pa_cons pe_int (pa_cons pe_int pa_nil))) pa_nil)))
      (pss_cons (ps_if (PW.pt (pw_or (pt_cmpR (neDK (K := K) hr.units) (pe_tup (pa_cons (pe_fldK (K := K) (pv 6) (by rfl)) (pa_cons (pe_fldK (K := K) (pv 6) (by rfl)) (pa_cons (pe_fldK (K := K) (pv 6) (by rfl)) pa_nil)))) (pe_tup (pa_cons (pv 1) (pa_cons (pv 2) (pa_cons (pv 3) pa_nil)))) (nomark _)) (pw_or1 (pt_cmpR (neDK (K := K) hr.units) (pe_fldK (K := K) (pv 6) (by rfl)) (pv 4) (nomark _))))) (pss_one (ps_ret pe_bl)) pss_nil)
      (pss_one (ps_ret (pe_call G__law_says hr__law_says (by rfl) g__law_says k__law_says b__law_says .nil pass0 (pa_cons (pe_meth (pv 6) T.cl_Board M_Board_shows G_Board_shows hr_Board_shows b_Board_shows .nil pass0 (pa_cons (pv 0) pa_nil)) (pa_cons (pe_call G__law_under hr__law_under (by rfl) g__law_under k__law_under b__law_under .nil pass0 (pa_cons (pv 0) (pa_cons (pv 1) (pa_cons (pv 2) (pa_cons (pv 3) (pa_cons (pv 4) pa_nil)))))) pa_nil))))))))), start_is (σ := [some x1, some x2, some x3, some x4, some x5, none, none]) rfl ?_⟩
  obtain ⟨a, r, bs, f, m, h, rs, vs, rfl, rfl, rfl, rfl, rfl, hS, good, hlen, hr, hv, hrl, k⟩ := h
  have hvl : vs.length ≤ 1000 := by rw [hv.len]; exact hrl
  walk_at "sx"
  refine q_list (SqL.of hr) fun d nd => ?_
  have s1 := same_new (o := .lst vs) nd
  have hd : upd H d (.lst vs) d = some (.lst vs) := upd_same
  generalize upd H d (.lst vs) = H1 at s1 hd ⊢
  intro x dx nx ndx hne
  have sm := made_same (C := CL.Board) nx ndx hne
  refine ⟨_, _, _, _, _, rfl, x, dx, d, f, m, h, vs, rfl, rfl, rfl, rfl, rfl, upd_same, sm.seq (SqL.of hd), fun l H2 nl hB hl keep => ⟨rfl, ?_⟩⟩
  have s2 : Same H1 H2 := Same.made nx ndx keep
  have nlx : l ≠ x := (ne_of_none upd_same nl).symm
  have nld : l ≠ d := (ne_of_none (sm _ _ hd) nl).symm
  have nxd : x ≠ d := (ne_of_none hd nx).symm
  refine ⟨.inl ⟨rfl, _, SqL.of (s2 _ _ hd)⟩, q_newT fun t nt => ?_⟩
  have s3 := same_new (o := .tup [V.int 0, V.int 0]) nt
  have hd3 := s3 _ _ (s2 _ _ hd)
  refine (q_app (K := K) hd3 (by omega) ?_).2
  have s03 := (s1.trans s2).trans s3
  have s04 := same_mut (o := .lst (vs ++ [V.ref t])) s03 nd
  have hB4 : BdAt CL.Board (upd (upd H2 t (.tup [V.int 0, V.int 0])) d (.lst (vs ++ [V.ref t]))) x f m h l := by
    obtain ⟨dx', e⟩ := hB.more s3
    exact ⟨dx', by rw [upd_ne nxd]; exact e⟩
  have hl4 : upd (upd H2 t (.tup [V.int 0, V.int 0])) d (.lst (vs ++ [V.ref t])) l = some (.lst vs) := by
    rw [upd_ne nld]
    exact s3 _ _ hl
  generalize upd (upd H2 t (.tup [V.int 0, V.int 0])) d (.lst (vs ++ [V.ref t])) = H4 at s04 hB4 hl4 ⊢
  walk_at "sx"
  refine q_first T hB4 (q_many T hB4 (q_high T hB4 ?_))
  refine q_newT fun t1 nt1 => ?_
  refine q_newT fun t2 nt2 => ?_
  have s5 := same_new (o := .tup [V.int f, V.int m, V.int h]) nt1
  have s6 := same_new (o := .tup [V.int f, V.int m, V.int h]) nt2
  refine q_neT (l := [f, m, h]) (m := [f, m, h]) (SqT.of (s6 _ _ upd_same)) (SqT.of upd_same) ?_
  walk_at "sx"
  try rw [if_neg (by simp)]
  have s06 := (s04.trans s5).trans s6
  have hB6 := (hB4.more s5).more s6
  have hl6 := s6 _ _ (s5 _ _ hl4)
  generalize upd (upd H4 t1 (.tup [V.int f, V.int m, V.int h])) t2 (.tup [V.int f, V.int m, V.int h]) = H6 at s06 hB6 hl6 ⊢
  have hv6 := hv.mono (same_tk s06)
  refine q_around T hB6 (q_neP (SqL.of hl6) hv6 (SqL.of (s06 _ _ hr)) hv6 ?_)
  walk_at "sx"
  try rw [if_neg (by simp)]
  obtain ⟨dx', eB⟩ := id hB6
  refine ⟨_, _, _, rfl, eB, bdF_shows _ _ _ _, ?_⟩
  refine ⟨_, _, rfl, x, a, l, bs, f, m, h, rs, vs, rfl, rfl, hB6, hl6, hv6, s06.seq hS, good, hlen, fun c H7 s7 hc => ?_⟩
  have s07 := s06.trans s7
  refine ⟨_, _, _, _, _, rfl, a, r, bs, f, m, h, rs, vs, rfl, rfl, rfl, rfl, rfl, s07.seq hS, good, hlen, s07 _ _ hr, hv6.mono (same_tk s7), fun c' H8 s8 hc' => ?_⟩
  refine ⟨_, _, rfl, _, _, rfl, rfl, ?_⟩
  rw [decide_eq_true ((tf_of hc).trans (tf_of hc').symm)]
  exact k H8 (s07.trans s8)
abbrev s__law_boards_right : Stmt := top 24
abbrev N__law_boards_right : List Str := ["_law_bars_here", "_law_cell", "_law_told", "_law_first", "_law_many", "_law_high", "_law_around", "_law_at", "_law_one", "_law_two", "_law_kind"]
theorem sc__law_boards_right : FnScope ["_law_bars_here", "_law_cell", "_law_told", "_law_first", "_law_many", "_law_high", "_law_around", "_law_at", "_law_one", "_law_two", "_law_kind"] ["_law_bars_here", "_law_cell"] (defScope s__law_boards_right) := ⟨rfl, rfl, rfl, by decide +kernel, rfl, by decide +kernel, by decide +kernel⟩
def sp__law_boards_right (K : PySem.W.Frag) (CL : Cl) : Sp := Sp2 fun x y H Q _ => ∃ (a : Addr) (bs : List Int) (c : Int), x = .ref a ∧ y = .int c ∧ SqL K H a (ivs bs) ∧ Good bs ∧ bs.length ≤ 63 ∧ 0 < bs.length ∧ ∀ H', Same H H' → Q (.bl true) H'
theorem ok__law_boards_right {P : Program} {w : World} {K : PySem.W.Frag} {mg : Str → Option Value} {base : Heap} {CL : Cl} (D : Def K mg "_law_boards_right" ["_law_bars_here", "_law_cell"] s__law_boards_right) (T : Txt K mg CL) (h_board : Has P w K mg base CX0 4 "board" ["bars"] (sp_board K CL)) (h__law_board_right : Has P w K mg base CX0 3 "_law_board_right" ["_law_bars_here", "_law_first", "_law_many", "_law_high", "_law_around"] (sp__law_board_right K CL)) : Has P w K mg base CX0 5 "_law_boards_right" ["_law_bars_here", "_law_cell"] (sp__law_boards_right K CL) := by
  obtain ⟨f, fd, gm, F, bb⟩ := D
  obtain ⟨f_board, fd_board, g_board, G_board, k_board, b_board⟩ := h_board
  obtain ⟨f__law_board_right, fd__law_board_right, g__law_board_right, G__law_board_right, k__law_board_right, b__law_board_right⟩ := h__law_board_right
  refine ⟨f, fd, gm, F.ok sc__law_boards_right (fun vs H Q E h => ?_) (fun cdv A outer s H vs Q E hr h => ?_), F.kp, bb⟩
  · obtain ⟨x1, x2, rfl, _⟩ := h
    rfl
  have hr_board : Room 4 (A.deeper (envOfC "_law_boards_right" (defScope s__law_boards_right) s.heap.objs.size f cdv)) := hr.mono (by decide)
  have hr__law_board_right : Room 3 (A.deeper (envOfC "_law_boards_right" (defScope s__law_boards_right) s.heap.objs.size f cdv)) := hr.mono (by decide)
  obtain ⟨x1, x2, rfl, h⟩ := h
  refine ⟨_, (pss_cons (ps_set (i := 2) sc__law_boards_right.nd rfl (Or.inl rfl) (pe_call G_board hr_board (by rfl) g_board k_board b_board .nil pass0 (pa_cons (pv 0) pa_nil)))
      (pss_cons (ps_par3 (i := 3) (j := 4) (l := 5) (by rfl) sc__law_boards_right.nd rfl rfl rfl (by decide) (by decide) (by decide) rfl rfl rfl (pa_cons (pe_fldK (K := K) (pv 2) (by rfl)) (pa_cons (pe_fldK (K := K) (pv 2) (by rfl)) (pa_cons (pe_fldK (K := K) (pv 2) (by rfl)) pa_nil))) (by rfl))
      (pss_cons (ps_set (i := 6) sc__law_boards_right.nd rfl (Or.inl rfl) (pe_callTy (listK (K := K)) (by rfl) T.m_list bt_list (pa_cons (pe_fldK (K := K) (pv 2) (by rfl)) pa_nil)))
      (pss_cons (ps_set (i := 7) sc__law_boards_right.nd rfl (Or.inl rfl) (pe_op op_mod (pe_op op_fdiv (pv 1) pe_int) (pe_callB (lenK (K := K)) (by rfl) T.m_len bt_len (pa_cons (pv 6) pa_nil))))
      (pss_cons (ps_asg (pe_ix (ix_listK (K := K)) (pv 6) (pv 7) (fun _ _ => rfl)) (pg_tup (n := 2) rfl (pgs_cons (pg_name (i := 8) sc__law_boards_right.nd rfl (Or.inl rfl)) (pgs_cons (pg_name (i := 9) sc__law_boards_right.nd rfl (Or.inl rfl)) pgs_nil))))
      (pss_cons (ps_set (i := 10) sc__law_boards_right.nd rfl (Or.inl rfl) (pe_op op_mod (pv 1) pe_int))
      (pss_mid (ps_if (pt_cmpR op_eq (pv 10) pe_int (nomark _)) (pss_one (ps_set (i := 3) sc__law_boards_right.nd rfl (Or.inl rfl) (pe_op op_sub (pe_op op_add (pv 3) (pe_op op_mod (pe_op op_fdiv (pv 1) pe_int) pe_int)) pe_int))) pss_nil)
      (pss_mid (ps_if (pt_cmpR op_eq (pv 10) pe_int (nomark _)) (pss_one (ps_set (i := 4) sc__law_boards_right.nd rfl (Or.inl rfl) (pe_op op_sub (pe_op op_add (pv 4) (pe_op op_mod (pe_op op_fdiv (pv 1) pe_int) pe_int)) pe_int))) pss_nil)
      (pss_mid (ps_if (pt_cmpR op_eq (pv 10) pe_int (nomark _)) (pss_one (ps_set (i := 5) sc__law_boards_right.nd rfl (Or.inl rfl) (pe_op op_sub (pe_op op_add (pv 5) (pe_op op_mod (pe_op op_fdiv (pv 1) pe_int) pe_int)) pe_int))) pss_nil)
      (pss_mid (ps_if (pt_cmpR op_eq (pv 10) pe_int (nomark _)) (pss_one (ps_asg (pe_tup (pa_cons (pe_op op_sub (pe_op op_add (pv 8) (pe_op op_mod (pe_op op_fdiv (pv 1) pe_int) pe_int)) pe_int) (pa_cons (pv 9) pa_nil))) (pg_sub (pv 6) (pv 7) set_list))) pss_nil)
      (pss_mid (ps_if (pt_cmpR op_eq (pv 10) pe_int (nomark _)) (pss_one (ps_asg (pe_tup (pa_cons (pv 8) (pa_cons (pe_op op_sub (pe_op op_add (pv 9) (pe_op op_mod (pe_op op_fdiv (pv 1) pe_int) pe_int)) pe_int) pa_nil))) (pg_sub (pv 6) (pv 7) set_list))) pss_nil)
      (pss_mid (ps_if (pt_cmpR op_eq (pv 10) pe_int (nomark _)) (pss_one (ps_set (i := 6) sc__law_boards_right.nd rfl (Or.inl rfl) (pe_op op_cat (pe_slice (sl_listK (K := K)) (pv 6) po_none (po_some (pv 7))) (pe_slice (sl_listK (K := K)) (pv 6) (po_some (pe_op op_add (pv 7) pe_int)) po_none)))) pss_nil)
      (pss_mid (ps_if (pt_cmpR op_eq (pv 10) pe_int (nomark _)) (pss_one (ps_asg (pe_tup (pa_cons (pv 9) (pa_cons (pv 8) pa_nil))) (pg_sub (pv 6) (pv 7) set_list))) pss_nil)
      (pss_mid (ps_if (pt_cmpR op_eq (pv 10) pe_int (nomark _)) (pss_one (ps_asg (pe_ix (ix_listK (K := K)) (pv 6) (pe_op op_mod (pe_op op_fdiv (pv 1) pe_int) (pe_callB (lenK (K := K)) (by rfl) T.m_len bt_len (pa_cons (pv 6) pa_nil))) (fun _ _ => rfl)) (pg_sub (pv 6) (pv 7) set_list))) pss_nil)
      (pss_one (ps_ret (pe_call G__law_board_right hr__law_board_right (by rfl) g__law_board_right k__law_board_right b__law_board_right .nil pass0 (pa_cons (pv 0) (pa_cons (pv 3) (pa_cons (pv 4) (pa_cons (pv 5) (pa_cons (pv 6) pa_nil)))))))))))))))))))))), start_is (σ := [some x1, some x2, none, none, none, none, none, none, none, none, none]) rfl ?_⟩
  obtain ⟨a, bs, c, rfl, rfl, hS, good, hlen, hpos, k⟩ := h
  walk_at "sx"
  refine ⟨_, rfl, a, bs, rfl, hS, good, by omega, hpos, fun p l i H1 vs hi hm np nl nlp s1 hB hl hv => ?_⟩
  have hvl : vs.length = bs.length := by rw [hv.len, reachL_len]
  walk_at "sx"
  refine q_first T hB (q_many T hB (q_high T hB ?_))
  refine ⟨_, _, _, rfl, q_around T hB (q_list (SqL.of hl) fun r nr => ?_)⟩
  have s2 := s1.trans (same_new (o := .lst vs) nr)
  have hr := upd_same (H := H1) (a := r) (o := .lst vs)
  have hv2 := hv.mono (same_tk (same_new (o := .lst vs) nr))
  have nr0 := s1.free nr
  generalize upd H1 r (.lst vs) = H2 at s2 hr hv2 ⊢
  refine ⟨⟨by decide, by decide⟩, q_len (SqL.of hr) ?_⟩
  rw [hvl]
  walk_at "sx"
  have y0 := Int.emod_nonneg (c / 8) (show (bs.length : Int) ≠ 0 by omega)
  have y1 := Int.emod_lt_of_pos (c / 8) (show (0 : Int) < (bs.length : Int) by omega)
  obtain ⟨j, hj⟩ : ∃ j : Nat, c / 8 % (bs.length : Int) = (j : Int) := ⟨(c / 8 % (bs.length : Int)).toNat, by omega⟩
  rw [hj]
  have hjn : j < bs.length := by omega
  obtain ⟨t, ht, hT⟩ := hv2.get (i := j) (by rw [reachL_len]; exact hjn)
  refine ⟨by omega, q_ixV (SqL.of hr) rfl ht (q_g2 (SqT.of hT) ?_)⟩
  generalize ((reachL bs).getD j (0, 0)).1 = y
  generalize ((reachL bs).getD j (0, 0)).2 = z
  walk_at "sx"
  refine ⟨by decide, ?_⟩
  generalize c % 8 = kd
  have Step : ∀ (H' : Hp), Same H H' → True := fun _ _ => trivial
  let Bi : L2.St → Hp → Prop := fun σ H' => ∃ (f m h : Int) (r : Addr) (rs : List (Int × Int)) (vs : List V), σ = [some (V.ref a), some (.int c), some (.ref p), some (.int f), some (.int m), some (.int h), some (.ref r), some (.int (j : Int)), some (.int y), some (.int z), some (.int kd)] ∧ Same H H' ∧ H r = none ∧ H' r = some (.lst vs) ∧ Prs H' rs vs ∧ rs.length ≤ 64 ∧ (kd ≠ 5 → rs.length = bs.length)
  -- 0
  refine q_mid Bi ?_ ?_
  · walk_at "sx"
    by_cases d : kd = 0
    · rw [if_pos (decide_eq_true d)]
      exact ⟨⟨by decide, by decide⟩, by decide, _, _, _, r, _, vs, rfl, s2, nr0, hr, hv2, by rw [reachL_len]; omega, fun _ => reachL_len bs⟩
    · rw [if_neg (by simpa using d)]
      exact ⟨_, _, _, r, _, vs, rfl, s2, nr0, hr, hv2, by rw [reachL_len]; omega, fun _ => reachL_len bs⟩
  clear hr hv2 nr0 nr s2 ht hT
  rintro σ H3 ⟨f, m, h, r, rs, vs', rfl, s3, nr, hr, hv3, hl3, he3⟩
  walk_at "sx"
  -- 1
  refine q_mid Bi ?_ ?_
  · walk_at "sx"
    by_cases d : kd = 1
    · rw [if_pos (decide_eq_true d)]
      exact ⟨⟨by decide, by decide⟩, by decide, _, _, _, r, _, _, rfl, s3, nr, hr, hv3, hl3, he3⟩
    · rw [if_neg (by simpa using d)]
      exact ⟨_, _, _, r, _, _, rfl, s3, nr, hr, hv3, hl3, he3⟩
  clear s3 nr hr hv3 hl3 he3
  rintro σ H3 ⟨f, m, h, r, rs, vs', rfl, s3, nr, hr, hv3, hl3, he3⟩
  walk_at "sx"
  -- 2
  refine q_mid Bi ?_ ?_
  · walk_at "sx"
    by_cases d : kd = 2
    · rw [if_pos (decide_eq_true d)]
      exact ⟨⟨by decide, by decide⟩, by decide, _, _, _, r, _, _, rfl, s3, nr, hr, hv3, hl3, he3⟩
    · rw [if_neg (by simpa using d)]
      exact ⟨_, _, _, r, _, _, rfl, s3, nr, hr, hv3, hl3, he3⟩
  clear s3 nr hr hv3 hl3 he3
  rintro σ H3 ⟨f, m, h, r, rs, vs', rfl, s3, nr, hr, hv3, hl3, he3⟩
  walk_at "sx"
  -- a pair is set
  have setP : ∀ (u v : Int) (f m h : Int) (r : Addr) (rs : List (Int × Int)) (vs' : List V) (H3 : Hp), Same H H3 → H r = none → H3 r = some (.lst vs') → Prs H3 rs vs' → rs.length ≤ 64 → (kd ≠ 5 → rs.length = bs.length) → kd ≠ 5 →
      rNewT [.int u, .int v] H3 fun x H1 => rSetL (.ref r) (.int (j : Int)) x H1 fun H2 => Bi [some (V.ref a), some (.int c), some (.ref p), some (.int f), some (.int m), some (.int h), some (.ref r), some (.int (j : Int)), some (.int y), some (.int z), some (.int kd)] H2 := by
    intro u v f m h r rs vs' H3 s3 nr hr hv3 hl3 he3 hk
    refine q_newT fun t nt => ?_
    have s4 := same_new (o := .tup [V.int u, V.int v]) nt
    have hr4 := s4 _ _ hr
    have tk := tk_upd (ys := vs'.set j (V.ref t)) hr4
    refine q_setL hr4 rfl (by rw [hv3.len, he3 hk]; exact hjn) ?_
    exact ⟨f, m, h, r, rs.set j (u, v), _, rfl, same_mut (s3.trans s4) nr, nr, upd_same, Prs.set ⟨t, rfl, tk _ _ upd_same⟩ (hv3.mono (Tk.trans (same_tk s4) tk)) j, by rw [List.length_set]; exact hl3, fun _ => by rw [List.length_set]; exact he3 hk⟩
  -- 3
  refine q_mid Bi ?_ ?_
  · walk_at "sx"
    by_cases d : kd = 3
    · rw [if_pos (decide_eq_true d)]
      exact ⟨⟨by decide, by decide⟩, by decide, setP _ _ f m h r rs vs' H3 s3 nr hr hv3 hl3 he3 (by omega)⟩
    · rw [if_neg (by simpa using d)]
      exact ⟨_, _, _, r, _, _, rfl, s3, nr, hr, hv3, hl3, he3⟩
  clear s3 nr hr hv3 hl3 he3
  rintro σ H3 ⟨f, m, h, r, rs, vs', rfl, s3, nr, hr, hv3, hl3, he3⟩
  walk_at "sx"
  -- 4
  refine q_mid Bi ?_ ?_
  · walk_at "sx"
    by_cases d : kd = 4
    · rw [if_pos (decide_eq_true d)]
      exact ⟨⟨by decide, by decide⟩, by decide, setP _ _ f m h r rs vs' H3 s3 nr hr hv3 hl3 he3 (by omega)⟩
    · rw [if_neg (by simpa using d)]
      exact ⟨_, _, _, r, _, _, rfl, s3, nr, hr, hv3, hl3, he3⟩
  clear s3 nr hr hv3 hl3 he3
  rintro σ H3 ⟨f, m, h, r, rs, vs', rfl, s3, nr, hr, hv3, hl3, he3⟩
  walk_at "sx"
  -- 5
  refine q_mid Bi ?_ ?_
  · walk_at "sx"
    by_cases d : kd = 5
    · rw [if_pos (decide_eq_true d)]
      refine q_sl (SqL.of hr) fun t1 nt1 => ?_
      rw [cutV_to]
      have s4 := same_new (o := .lst (vs'.take j)) nt1
      refine q_sl (SqL.of (s4 _ _ hr)) fun t2 nt2 => ?_
      rw [show (j : Int) + 1 = ((j + 1 : Nat) : Int) by omega, cutV_from]
      have s5 := same_new (o := .lst (vs'.drop (j + 1))) nt2
      have lv := hv3.len
      refine q_cat (s5 _ _ upd_same) upd_same (by rw [List.length_take, List.length_drop]; omega) fun t3 nt3 => ?_
      have s6 := same_new (o := .lst (vs'.take j ++ vs'.drop (j + 1))) nt3
      have s36 := (s4.trans s5).trans s6
      have hv6 := hv3.mono (same_tk s36)
      refine ⟨_, _, _, t3, _, _, rfl, s3.trans s36, (s3.trans (s4.trans s5)).free nt3, upd_same, Prs.cat (hv6.drop (j + 1)) (hv6.take j), ?_, fun n => absurd d n⟩
      rw [List.length_append, List.length_take, List.length_drop]
      omega
    · rw [if_neg (by simpa using d)]
      exact ⟨_, _, _, r, _, _, rfl, s3, nr, hr, hv3, hl3, he3⟩
  clear s3 nr hr hv3 hl3 he3
  rintro σ H3 ⟨f, m, h, r, rs, vs', rfl, s3, nr, hr, hv3, hl3, he3⟩
  walk_at "sx"
  -- 6
  refine q_mid Bi ?_ ?_
  · walk_at "sx"
    by_cases d : kd = 6
    · rw [if_pos (decide_eq_true d)]
      exact setP _ _ f m h r rs vs' H3 s3 nr hr hv3 hl3 he3 (by omega)
    · rw [if_neg (by simpa using d)]
      exact ⟨_, _, _, r, _, _, rfl, s3, nr, hr, hv3, hl3, he3⟩
  clear s3 nr hr hv3 hl3 he3
  rintro σ H3 ⟨f, m, h, r, rs, vs', rfl, s3, nr, hr, hv3, hl3, he3⟩
  walk_at "sx"
  -- 7
  refine q_mid Bi ?_ ?_
  · walk_at "sx"
    by_cases d : kd = 7
    · rw [if_pos (decide_eq_true d)]
      have lr := he3 (by omega)
      have lv := hv3.len
      refine ⟨⟨by decide, by decide⟩, q_len (SqL.of hr) ?_⟩
      rw [lv, lr]
      walk_at "sx"
      have w0 := Int.emod_nonneg (c / 64) (show (bs.length : Int) ≠ 0 by omega)
      have w1 := Int.emod_lt_of_pos (c / 64) (show (0 : Int) < (bs.length : Int) by omega)
      obtain ⟨q, hq⟩ : ∃ q : Nat, c / 64 % (bs.length : Int) = (q : Int) := ⟨(c / 64 % (bs.length : Int)).toNat, by omega⟩
      rw [hq]
      have hqv : q < vs'.length := by omega
      have eq := List.getElem?_eq_getElem hqv
      obtain ⟨ab, _, pa⟩ := hv3.at eq
      refine ⟨by omega, q_ixV (SqL.of hr) rfl eq (q_setL hr rfl (by omega) ?_)⟩
      have tk := tk_upd (ys := vs'.set j vs'[q]) hr
      exact ⟨f, m, h, r, rs.set j ab, _, rfl, same_mut s3 nr, nr, upd_same, Prs.set (pa.mono tk) (hv3.mono tk) j, by rw [List.length_set]; exact hl3, fun n => by rw [List.length_set]; exact he3 n⟩
    · rw [if_neg (by simpa using d)]
      exact ⟨_, _, _, r, _, _, rfl, s3, nr, hr, hv3, hl3, he3⟩
  clear s3 nr hr hv3 hl3 he3
  rintro σ H3 ⟨f, m, h, r, rs, vs', rfl, s3, nr, hr, hv3, hl3, he3⟩
  walk_at "sx"
  exact ⟨_, _, _, _, _, rfl, a, r, bs, f, m, h, rs, vs', rfl, rfl, rfl, rfl, rfl, s3.seq hS, good, by omega, hr, hv3, by omega, fun H4 s4 => k H4 (s3.trans s4)⟩
end Sky

/-! K08: the law. -/
namespace Sky
open PySem PySem.Spec PyProof.Rows L2
local macro_rules | `(tactic| walk_at "sx") => `(tactic| try simp only [e_K, e_seq, e_asg, e_name, e_drop, e_ret, e_retN, e_ifs, e_next, e_var, e_c, e_op, e_un, e_rI0, e_rI, e_rU, e_test, e_B, e_bl, e_and, e_or, e_not, e_andV, e_orV, e_notV, e_if, e_CB, e_CKw, e_cons, e_nil, e_call,
  e_chn, e_cCons, e_cOne, e_BM, e_BM0, e_sub, e_par, e_ls, e_noP, e_part, e_intx, e_refx, e_yes, e_get0, e_getS, e_sl, List.set_cons_zero, List.set_cons_succ, List.cons_append, List.nil_append, List.append_nil, Bool.not_true, Bool.not_false, e_lst, e_tup, e_rev, e_eqi, e_nei, decide_true, decide_false, if_true, Bool.false_eq_true, if_false, e_any, e_fld, e_sfld, e_meth, e_make, e_par3])
abbrev s_law : Stmt := top 27
abbrev N_law : List Str := ["_law_script", "_law_bars_here", "_law_at", "_law_cell", "_law_crossed", "_law_bar"]
theorem sc_law : FnScope ["_law_script", "_law_bars_here", "_law_at", "_law_cell", "_law_crossed", "_law_bar"] ["_law_script"] (defScope s_law) := ⟨rfl, rfl, rfl, by decide +kernel, rfl, by decide +kernel, by decide +kernel⟩
def sp_law (K : PySem.W.Frag) : Sp := Sp1 fun x H Q _ => ∃ (a : Addr) (ns : List Int), x = .ref a ∧ SqL K H a (ivs ns) ∧ ns.length ≤ 63 ∧ ∀ H', Q (.bl true) H'
theorem ok_law {P : Program} {w : World} {K : PySem.W.Frag} {mg : Str → Option Value} {base : Heap} {CL : Cl} {f : Addr} {fd : FuncData} (F : Fun K "law" "law" s_law f fd) (T : Txt K mg CL) (h__law_bars : Has P w K mg base CX0 1 "_law_bars" ["_law_script"] (sp__law_bars K)) (h_Crossed___init__ : HasI P w K mg base CX0 1 CL.Crossed ["self", "first", "second"] (sp_Crossed___init__ K CL)) (h__law_rows_right : Has P w K mg base CX0 3 "_law_rows_right" ["_law_bars_here", "_law_other"] (sp__law_rows_right K CL)) (h__law_says : Has P w K mg base CX0 1 "_law_says" ["_law_said", "_law_due"] (sp__law_says K)) (h_Board_shows : HasM P w K mg base CX0 2 CL.Board "shows" ["self", "bars"] (sp_Board_shows K CL)) (h_Row_shows : HasM P w K mg base CX0 2 CL.Row "shows" ["self", "links"] (sp_Row_shows K CL)) (h_Crossed_shows : HasM P w K mg base CX0 1 CL.Crossed "shows" ["self", "links"] (sp_Crossed_shows K CL)) (h__law_crossed_right : Has P w K mg base CX0 3 "_law_crossed_right" ["_law_bars_here", "_law_cell"] (sp__law_crossed_right K CL)) (h__law_boards_right : Has P w K mg base CX0 5 "_law_boards_right" ["_law_bars_here", "_law_cell"] (sp__law_boards_right K CL)) : FnOk P w K mg base CX0 6 f fd ["_law_script"] (sp_law K) := by
  obtain ⟨f__law_bars, fd__law_bars, g__law_bars, G__law_bars, k__law_bars, b__law_bars⟩ := h__law_bars
  obtain ⟨f_Crossed___init__, fd_Crossed___init__, G_Crossed___init__, b_Crossed___init__, M_Crossed___init__⟩ := h_Crossed___init__
  obtain ⟨f__law_rows_right, fd__law_rows_right, g__law_rows_right, G__law_rows_right, k__law_rows_right, b__law_rows_right⟩ := h__law_rows_right
  obtain ⟨f__law_says, fd__law_says, g__law_says, G__law_says, k__law_says, b__law_says⟩ := h__law_says
  obtain ⟨f_Board_shows, fd_Board_shows, G_Board_shows, b_Board_shows, M_Board_shows⟩ := h_Board_shows
  obtain ⟨f_Row_shows, fd_Row_shows, G_Row_shows, b_Row_shows, M_Row_shows⟩ := h_Row_shows
  obtain ⟨f_Crossed_shows, fd_Crossed_shows, G_Crossed_shows, b_Crossed_shows, M_Crossed_shows⟩ := h_Crossed_shows
  obtain ⟨f__law_crossed_right, fd__law_crossed_right, g__law_crossed_right, G__law_crossed_right, k__law_crossed_right, b__law_crossed_right⟩ := h__law_crossed_right
  obtain ⟨f__law_boards_right, fd__law_boards_right, g__law_boards_right, G__law_boards_right, k__law_boards_right, b__law_boards_right⟩ := h__law_boards_right
  refine F.ok sc_law (fun vs H Q E h => ?_) (fun cdv A outer s H vs Q E hr h => ?_)
  · obtain ⟨x1, rfl, _⟩ := h
    rfl
  have hr__law_bars : Room 1 (A.deeper (envOfC "law" (defScope s_law) s.heap.objs.size f cdv)) := hr.mono (by decide)
  have hr_Crossed___init__ : Room 2 (A.deeper (envOfC "law" (defScope s_law) s.heap.objs.size f cdv)) := hr.mono (by decide)
  have hr__law_rows_right : Room 3 (A.deeper (envOfC "law" (defScope s_law) s.heap.objs.size f cdv)) := hr.mono (by decide)
  have hr__law_says : Room 1 (A.deeper (envOfC "law" (defScope s_law) s.heap.objs.size f cdv)) := hr.mono (by decide)
  have hr_Board_shows : Room 2 (A.deeper (envOfC "law" (defScope s_law) s.heap.objs.size f cdv)) := hr.mono (by decide)
  have hr_Row_shows : Room 2 (A.deeper (envOfC "law" (defScope s_law) s.heap.objs.size f cdv)) := hr.mono (by decide)
  have hr_Crossed_shows : Room 1 (A.deeper (envOfC "law" (defScope s_law) s.heap.objs.size f cdv)) := hr.mono (by decide)
  have hr__law_crossed_right : Room 3 (A.deeper (envOfC "law" (defScope s_law) s.heap.objs.size f cdv)) := hr.mono (by decide)
  have hr__law_boards_right : Room 5 (A.deeper (envOfC "law" (defScope s_law) s.heap.objs.size f cdv)) := hr.mono (by decide)
  obtain ⟨x1, rfl, h⟩ := h
  refine ⟨_, (pss_cons (ps_set (i := 1) sc_law.nd rfl (Or.inl rfl) (pe_call G__law_bars hr__law_bars (by rfl) g__law_bars k__law_bars b__law_bars .nil pass0 (pa_cons (pv 0) pa_nil)))
      (pss_cons (ps_if (pt_not (pt_val (pe_call G__law_rows_right hr__law_rows_right (by rfl) g__law_rows_right k__law_rows_right b__law_rows_right .nil pass0 (pa_cons (pv 1) (pa_cons (pe_lc (own := [("_law_bar", 5)]) (g := (gName 5)) (tt := tYes) (by rfl) sc_law.nd (pi_list (pv 1)) (blkOk_by (own := [("_law_bar", 5)]) (N := N_law) (sc := defScope s_law) (by decide +kernel)) (fun _ _ _ _ _ => (pg_name (i := 5) sc_law.nd rfl (Or.inl rfl))) (fun _ _ _ _ _ => pts_nil) (fun _ _ _ _ _ => (pe_op op_fdiv (pv 5) pe_int))) pa_nil))))) (pss_one (ps_ret pe_bl)) pss_nil)
      (pss_cons (ps_for PassesOwn.never rfl (pi_enum (by rfl) T.m_enumerate (pa_cons (pv 0) pa_nil)) (pg_tup (n := 2) rfl (pgs_cons (pg_name (i := 2) sc_law.nd rfl (Or.inl rfl)) (pgs_cons (pg_name (i := 3) sc_law.nd rfl (Or.inl rfl)) pgs_nil))) (pss_one (ps_if (PW.pt (pw_or (pt_not (pt_val (pe_call G__law_crossed_right hr__law_crossed_right (by rfl) g__law_crossed_right k__law_crossed_right b__law_crossed_right .nil pass0 (pa_cons (pv 1) (pa_cons (pv 3) pa_nil))))) (pw_or1 (PW.pt (pw_and (pt_cmpR op_eq (pe_op op_mod (pv 2) pe_int) pe_int (nomark _)) (pw_and1 (pt_not (pt_val (pe_call G__law_boards_right hr__law_boards_right (by rfl) g__law_boards_right k__law_boards_right b__law_boards_right .nil pass0 (pa_cons (pv 1) (pa_cons (pv 3) pa_nil))))))))))) (pss_one (ps_ret pe_bl)) pss_nil)))
      (pss_cons (ps_set (i := 4) sc_law.nd rfl (Or.inl rfl) (pe_make M_Crossed___init__ G_Crossed___init__ hr_Crossed___init__ (by rfl) T.c_Crossed b_Crossed___init__ .nil pass0 (pa_cons pe_int (pa_cons pe_int pa_nil))))
      (pss_one (ps_ret (pe_and (pe_call G__law_says hr__law_says (by rfl) g__law_says k__law_says b__law_says .nil pass0 (pa_cons (pe_meth (pv 4) T.cl_Crossed M_Crossed_shows G_Crossed_shows hr_Crossed_shows b_Crossed_shows .nil pass0 (pa_cons (pe_lst (pa_cons (pe_un un_neg pe_int) (pa_cons (pe_un un_neg pe_int) (pa_cons pe_int pa_nil)))) pa_nil)) (pa_cons pe_bl pa_nil))) (pe_one (pe_call G__law_says hr__law_says (by rfl) g__law_says k__law_says b__law_says .nil pass0 (pa_cons (pe_meth (pv 4) T.cl_Crossed M_Crossed_shows G_Crossed_shows hr_Crossed_shows b_Crossed_shows .nil pass0 (pa_cons (pe_lst (pa_cons (pe_un un_neg pe_int) (pa_cons pe_int (pa_cons pe_int pa_nil)))) pa_nil)) (pa_cons pe_bl pa_nil))))))))))), start_is (σ := [some x1, none, none, none, none, none]) rfl ?_⟩
  obtain ⟨a, ns, rfl, hS, hlen, k⟩ := h
  walk_at "sx"
  refine ⟨_, rfl, a, ns, rfl, hS, hlen, fun b H1 bs nb s1 hb good hl => ?_⟩
  walk_at "sx"
  have lb : bs.length ≤ 63 := by omega
  refine q_lcL (fun i v _ => v = .int (g bs i / 2)) (fun R r => ⟨_, rfl, r⟩) (SqL.of hb) (by rw [len_ivs]; omega) (fun _ => rfl) (fun _ _ _ _ e _ => e) (fun i x H' Q' hx s2 kk => ?_) ?_
  · obtain ⟨hi, rfl⟩ := of_ivs hx
    simp only [wipe, List.map_cons, List.map_nil]
    walk_at "sx"
    exact ⟨⟨by decide, by decide⟩, kk _ _ (Same.refl _) rfl⟩
  intro d H2 acc nd s2 hd hla hva
  have e := acc_ivs hla hva
  subst e
  have hb2 := s2 _ _ hb
  refine ⟨_, _, rfl, b, d, bs, _, rfl, rfl, SqL.of hb2, SqL.of hd, lb, by simp; omega, fun H3 s3 => ?_⟩
  have S3 := (s1.trans s2).trans s3
  have hb3 := s3 _ _ hb2
  walk_at "sx"
  refine q_forE (a := a) (xs := ivs ns) (fun R r => ⟨_, rfl, r⟩) (fun i σ H' => ∃ v2 v3, σ = [some (.ref a), some (.ref b), v2, v3, none, none] ∧ Same H3 H')
    ⟨none, none, rfl, Same.refl _⟩ (fun i σ H' ⟨_, _, _, s⟩ => (S3.trans s).seq hS) ?_ ?_
  · rintro i x σ H4 H5 hx ⟨v2, v3, rfl, s4⟩ s5
    obtain ⟨hi, rfl⟩ := of_ivs hx
    have s35 := s4.trans s5
    generalize g ns i = c
    walk_at "sx"
    refine ⟨_, _, rfl, b, bs, c, rfl, rfl, SqL.of (s35 _ _ hb3), lb, fun H6 s6 => ?_⟩
    have s36 := s35.trans s6
    walk_at "sx"
    refine ⟨by decide, ?_⟩
    by_cases z : (i : Int) % 7 = 0
    · rw [if_pos (decide_eq_true z)]
      refine ⟨_, _, rfl, b, bs, c, rfl, rfl, SqL.of (s36 _ _ hb3), good, lb, by omega, fun H7 s7 => ?_⟩
      walk_at "sx"
      exact ⟨_, _, rfl, s36.trans s7⟩
    · rw [if_neg (by simpa using z)]
      exact ⟨_, _, rfl, s36⟩
  · rintro σ H4 ⟨v2, v3, rfl, s4⟩
    walk_at "sx"
    intro x dx nx ndx hne
    refine ⟨_, _, _, rfl, x, dx, 1, 2, rfl, rfl, rfl, upd_same, fun H5 hC keep => ⟨rfl, ?_⟩⟩
    obtain ⟨dx1, e1⟩ := id hC
    refine ⟨_, _, _, rfl, e1, crF_shows _ _, ?_⟩
    refine q_newL fun t1 nt1 => ?_
    have s6 := same_new (o := .lst [V.int (-1), .int (-1), .int 0]) nt1
    refine ⟨_, _, rfl, x, t1, 1, 2, [-1, -1, 0], rfl, rfl, hC.more s6, SqL.of upd_same, fun c hc => ?_⟩
    have ec : c = true := hc.mpr (by
      refine ⟨by decide, by decide, by decide, by decide, by decide⟩)
    subst ec
    refine ⟨_, _, rfl, _, _, rfl, rfl, ?_⟩
    walk_at "sx"
    have hC6 := hC.more s6
    generalize upd H5 t1 (.lst [V.int (-1), .int (-1), .int 0]) = H6 at s6 hC6 ⊢
    obtain ⟨dx2, e2⟩ := id hC6
    refine ⟨_, _, _, rfl, e2, crF_shows _ _, ?_⟩
    refine q_newL fun t2 nt2 => ?_
    have s7 := same_new (o := .lst [V.int (-1), .int 0, .int 0]) nt2
    refine ⟨_, _, rfl, x, t2, 1, 2, [-1, 0, 0], rfl, rfl, hC6.more s7, SqL.of upd_same, fun c hc => ?_⟩
    have ec : c = false := by
      cases c with
      | false => rfl
      | true =>
        have := (hc.mp rfl).2.2.2.1
        exact absurd this (by decide)
    subst ec
    refine ⟨_, _, rfl, _, _, rfl, rfl, ?_⟩
    exact k _
end Sky

/-! E: the end. -/
namespace Sky
open PySem PySem.Spec PyProof.Rows L2
theorem def__law_bars {K : PySem.W.Frag} {h : Heap} {mg : Str → Option Value} {f : Addr} {od an : Option Addr} {sl : Array (Option Value)} {oc kV dc pm cd ct : Value} (X : K.In h) (G : h.Ns mainGlobals mg) (a : PySem.W.nsIn K mainGlobals "_law_bars" = some (some (.ref f)))
    (lk : K.lookup f = some ⟨oc, od, .func (PySem.W.fnOf "_law_bars" "_law_bars" (defArgs s__law_bars) (defBody s__law_bars) (defScope s__law_bars) .none kV dc pm an cd ct), sl⟩) (c : PySem.W.codeIn K cd "_law_bars" = true) (kp : PySem.W.keepIn K (.ref f) = true) :
    Def K mg "_law_bars" ["_law_script"] s__law_bars := ⟨f, _, PySem.W.mg_of X G a, fun_mk (st := s__law_bars) lk c kp, (fun_mk (st := s__law_bars) lk c kp).binds (ps := ["_law_script"]) fun _ _ _ _ _ _ us hl => match us, hl with | [_], _ => rfl⟩
theorem def__law_links {K : PySem.W.Frag} {h : Heap} {mg : Str → Option Value} {f : Addr} {od an : Option Addr} {sl : Array (Option Value)} {oc kV dc pm cd ct : Value} (X : K.In h) (G : h.Ns mainGlobals mg) (a : PySem.W.nsIn K mainGlobals "_law_links" = some (some (.ref f)))
    (lk : K.lookup f = some ⟨oc, od, .func (PySem.W.fnOf "_law_links" "_law_links" (defArgs s__law_links) (defBody s__law_links) (defScope s__law_links) .none kV dc pm an cd ct), sl⟩) (c : PySem.W.codeIn K cd "_law_links" = true) (kp : PySem.W.keepIn K (.ref f) = true) :
    Def K mg "_law_links" ["_law_bars_here"] s__law_links := ⟨f, _, PySem.W.mg_of X G a, fun_mk (st := s__law_links) lk c kp, (fun_mk (st := s__law_links) lk c kp).binds (ps := ["_law_bars_here"]) fun _ _ _ _ _ _ us hl => match us, hl with | [_], _ => rfl⟩
theorem def__law_says {K : PySem.W.Frag} {h : Heap} {mg : Str → Option Value} {f : Addr} {od an : Option Addr} {sl : Array (Option Value)} {oc kV dc pm cd ct : Value} (X : K.In h) (G : h.Ns mainGlobals mg) (a : PySem.W.nsIn K mainGlobals "_law_says" = some (some (.ref f)))
    (lk : K.lookup f = some ⟨oc, od, .func (PySem.W.fnOf "_law_says" "_law_says" (defArgs s__law_says) (defBody s__law_says) (defScope s__law_says) .none kV dc pm an cd ct), sl⟩) (c : PySem.W.codeIn K cd "_law_says" = true) (kp : PySem.W.keepIn K (.ref f) = true) :
    Def K mg "_law_says" ["_law_said", "_law_due"] s__law_says := ⟨f, _, PySem.W.mg_of X G a, fun_mk (st := s__law_says) lk c kp, (fun_mk (st := s__law_says) lk c kp).binds (ps := ["_law_said", "_law_due"]) fun _ _ _ _ _ _ us hl => match us, hl with | [_, _], _ => rfl⟩
theorem def_ahead_of {K : PySem.W.Frag} {h : Heap} {mg : Str → Option Value} {f : Addr} {od an : Option Addr} {sl : Array (Option Value)} {oc kV dc pm cd ct : Value} (X : K.In h) (G : h.Ns mainGlobals mg) (a : PySem.W.nsIn K mainGlobals "ahead_of" = some (some (.ref f)))
    (lk : K.lookup f = some ⟨oc, od, .func (PySem.W.fnOf "ahead_of" "ahead_of" (defArgs s_ahead_of) (defBody s_ahead_of) (defScope s_ahead_of) .none kV dc pm an cd ct), sl⟩) (c : PySem.W.codeIn K cd "ahead_of" = true) (kp : PySem.W.keepIn K (.ref f) = true) :
    Def K mg "ahead_of" ["bars"] s_ahead_of := ⟨f, _, PySem.W.mg_of X G a, fun_mk (st := s_ahead_of) lk c kp, (fun_mk (st := s_ahead_of) lk c kp).binds (ps := ["bars"]) fun _ _ _ _ _ _ us hl => match us, hl with | [_], _ => rfl⟩
theorem def__law_rows_right {K : PySem.W.Frag} {h : Heap} {mg : Str → Option Value} {f : Addr} {od an : Option Addr} {sl : Array (Option Value)} {oc kV dc pm cd ct : Value} (X : K.In h) (G : h.Ns mainGlobals mg) (a : PySem.W.nsIn K mainGlobals "_law_rows_right" = some (some (.ref f)))
    (lk : K.lookup f = some ⟨oc, od, .func (PySem.W.fnOf "_law_rows_right" "_law_rows_right" (defArgs s__law_rows_right) (defBody s__law_rows_right) (defScope s__law_rows_right) .none kV dc pm an cd ct), sl⟩) (c : PySem.W.codeIn K cd "_law_rows_right" = true) (kp : PySem.W.keepIn K (.ref f) = true) :
    Def K mg "_law_rows_right" ["_law_bars_here", "_law_other"] s__law_rows_right := ⟨f, _, PySem.W.mg_of X G a, fun_mk (st := s__law_rows_right) lk c kp, (fun_mk (st := s__law_rows_right) lk c kp).binds (ps := ["_law_bars_here", "_law_other"]) fun _ _ _ _ _ _ us hl => match us, hl with | [_, _], _ => rfl⟩
theorem def__law_crossed_right {K : PySem.W.Frag} {h : Heap} {mg : Str → Option Value} {f : Addr} {od an : Option Addr} {sl : Array (Option Value)} {oc kV dc pm cd ct : Value} (X : K.In h) (G : h.Ns mainGlobals mg) (a : PySem.W.nsIn K mainGlobals "_law_crossed_right" = some (some (.ref f)))
    (lk : K.lookup f = some ⟨oc, od, .func (PySem.W.fnOf "_law_crossed_right" "_law_crossed_right" (defArgs s__law_crossed_right) (defBody s__law_crossed_right) (defScope s__law_crossed_right) .none kV dc pm an cd ct), sl⟩) (c : PySem.W.codeIn K cd "_law_crossed_right" = true) (kp : PySem.W.keepIn K (.ref f) = true) :
    Def K mg "_law_crossed_right" ["_law_bars_here", "_law_cell"] s__law_crossed_right := ⟨f, _, PySem.W.mg_of X G a, fun_mk (st := s__law_crossed_right) lk c kp, (fun_mk (st := s__law_crossed_right) lk c kp).binds (ps := ["_law_bars_here", "_law_cell"]) fun _ _ _ _ _ _ us hl => match us, hl with | [_, _], _ => rfl⟩
theorem def_is_number {K : PySem.W.Frag} {h : Heap} {mg : Str → Option Value} {f : Addr} {od an : Option Addr} {sl : Array (Option Value)} {oc kV dc pm cd ct : Value} (X : K.In h) (G : h.Ns mainGlobals mg) (a : PySem.W.nsIn K mainGlobals "is_number" = some (some (.ref f)))
    (lk : K.lookup f = some ⟨oc, od, .func (PySem.W.fnOf "is_number" "is_number" (defArgs s_is_number) (defBody s_is_number) (defScope s_is_number) .none kV dc pm an cd ct), sl⟩) (c : PySem.W.codeIn K cd "is_number" = true) (kp : PySem.W.keepIn K (.ref f) = true) :
    Def K mg "is_number" ["thing", "least", "most"] s_is_number := ⟨f, _, PySem.W.mg_of X G a, fun_mk (st := s_is_number) lk c kp, (fun_mk (st := s_is_number) lk c kp).binds (ps := ["thing", "least", "most"]) fun _ _ _ _ _ _ us hl => match us, hl with | [_, _, _], _ => rfl⟩
theorem def_asked_bars {K : PySem.W.Frag} {h : Heap} {mg : Str → Option Value} {f : Addr} {od an : Option Addr} {sl : Array (Option Value)} {oc kV dc pm cd ct : Value} (X : K.In h) (G : h.Ns mainGlobals mg) (a : PySem.W.nsIn K mainGlobals "asked_bars" = some (some (.ref f)))
    (lk : K.lookup f = some ⟨oc, od, .func (PySem.W.fnOf "asked_bars" "asked_bars" (defArgs s_asked_bars) (defBody s_asked_bars) (defScope s_asked_bars) .none kV dc pm an cd ct), sl⟩) (c : PySem.W.codeIn K cd "asked_bars" = true) (kp : PySem.W.keepIn K (.ref f) = true) :
    Def K mg "asked_bars" ["bars"] s_asked_bars := ⟨f, _, PySem.W.mg_of X G a, fun_mk (st := s_asked_bars) lk c kp, (fun_mk (st := s_asked_bars) lk c kp).binds (ps := ["bars"]) fun _ _ _ _ _ _ us hl => match us, hl with | [_], _ => rfl⟩
theorem def_behind_of {K : PySem.W.Frag} {h : Heap} {mg : Str → Option Value} {f : Addr} {od an : Option Addr} {sl : Array (Option Value)} {oc kV dc pm cd ct : Value} (X : K.In h) (G : h.Ns mainGlobals mg) (a : PySem.W.nsIn K mainGlobals "behind_of" = some (some (.ref f)))
    (lk : K.lookup f = some ⟨oc, od, .func (PySem.W.fnOf "behind_of" "behind_of" (defArgs s_behind_of) (defBody s_behind_of) (defScope s_behind_of) .none kV dc pm an cd ct), sl⟩) (c : PySem.W.codeIn K cd "behind_of" = true) (kp : PySem.W.keepIn K (.ref f) = true) :
    Def K mg "behind_of" ["bars"] s_behind_of := ⟨f, _, PySem.W.mg_of X G a, fun_mk (st := s_behind_of) lk c kp, (fun_mk (st := s_behind_of) lk c kp).binds (ps := ["bars"]) fun _ _ _ _ _ _ us hl => match us, hl with | [_], _ => rfl⟩
theorem def_reaches {K : PySem.W.Frag} {h : Heap} {mg : Str → Option Value} {f : Addr} {od an : Option Addr} {sl : Array (Option Value)} {oc kV dc pm cd ct : Value} (X : K.In h) (G : h.Ns mainGlobals mg) (a : PySem.W.nsIn K mainGlobals "reaches" = some (some (.ref f)))
    (lk : K.lookup f = some ⟨oc, od, .func (PySem.W.fnOf "reaches" "reaches" (defArgs s_reaches) (defBody s_reaches) (defScope s_reaches) .none kV dc pm an cd ct), sl⟩) (c : PySem.W.codeIn K cd "reaches" = true) (kp : PySem.W.keepIn K (.ref f) = true) :
    Def K mg "reaches" ["bars"] s_reaches := ⟨f, _, PySem.W.mg_of X G a, fun_mk (st := s_reaches) lk c kp, (fun_mk (st := s_reaches) lk c kp).binds (ps := ["bars"]) fun _ _ _ _ _ _ us hl => match us, hl with | [_], _ => rfl⟩
theorem def_board {K : PySem.W.Frag} {h : Heap} {mg : Str → Option Value} {f : Addr} {od an : Option Addr} {sl : Array (Option Value)} {oc kV dc pm cd ct : Value} (X : K.In h) (G : h.Ns mainGlobals mg) (a : PySem.W.nsIn K mainGlobals "board" = some (some (.ref f)))
    (lk : K.lookup f = some ⟨oc, od, .func (PySem.W.fnOf "board" "board" (defArgs s_board) (defBody s_board) (defScope s_board) .none kV dc pm an cd ct), sl⟩) (c : PySem.W.codeIn K cd "board" = true) (kp : PySem.W.keepIn K (.ref f) = true) :
    Def K mg "board" ["bars"] s_board := ⟨f, _, PySem.W.mg_of X G a, fun_mk (st := s_board) lk c kp, (fun_mk (st := s_board) lk c kp).binds (ps := ["bars"]) fun _ _ _ _ _ _ us hl => match us, hl with | [_], _ => rfl⟩
theorem def__law_under {K : PySem.W.Frag} {h : Heap} {mg : Str → Option Value} {f : Addr} {od an : Option Addr} {sl : Array (Option Value)} {oc kV dc pm cd ct : Value} (X : K.In h) (G : h.Ns mainGlobals mg) (a : PySem.W.nsIn K mainGlobals "_law_under" = some (some (.ref f)))
    (lk : K.lookup f = some ⟨oc, od, .func (PySem.W.fnOf "_law_under" "_law_under" (defArgs s__law_under) (defBody s__law_under) (defScope s__law_under) .none kV dc pm an cd ct), sl⟩) (c : PySem.W.codeIn K cd "_law_under" = true) (kp : PySem.W.keepIn K (.ref f) = true) :
    Def K mg "_law_under" ["_law_bars_here", "_law_first", "_law_many", "_law_high", "_law_around"] s__law_under := ⟨f, _, PySem.W.mg_of X G a, fun_mk (st := s__law_under) lk c kp, (fun_mk (st := s__law_under) lk c kp).binds (ps := ["_law_bars_here", "_law_first", "_law_many", "_law_high", "_law_around"]) fun _ _ _ _ _ _ us hl => match us, hl with | [_, _, _, _, _], _ => rfl⟩
theorem def__law_board_right {K : PySem.W.Frag} {h : Heap} {mg : Str → Option Value} {f : Addr} {od an : Option Addr} {sl : Array (Option Value)} {oc kV dc pm cd ct : Value} (X : K.In h) (G : h.Ns mainGlobals mg) (a : PySem.W.nsIn K mainGlobals "_law_board_right" = some (some (.ref f)))
    (lk : K.lookup f = some ⟨oc, od, .func (PySem.W.fnOf "_law_board_right" "_law_board_right" (defArgs s__law_board_right) (defBody s__law_board_right) (defScope s__law_board_right) .none kV dc pm an cd ct), sl⟩) (c : PySem.W.codeIn K cd "_law_board_right" = true) (kp : PySem.W.keepIn K (.ref f) = true) :
    Def K mg "_law_board_right" ["_law_bars_here", "_law_first", "_law_many", "_law_high", "_law_around"] s__law_board_right := ⟨f, _, PySem.W.mg_of X G a, fun_mk (st := s__law_board_right) lk c kp, (fun_mk (st := s__law_board_right) lk c kp).binds (ps := ["_law_bars_here", "_law_first", "_law_many", "_law_high", "_law_around"]) fun _ _ _ _ _ _ us hl => match us, hl with | [_, _, _, _, _], _ => rfl⟩
theorem def__law_boards_right {K : PySem.W.Frag} {h : Heap} {mg : Str → Option Value} {f : Addr} {od an : Option Addr} {sl : Array (Option Value)} {oc kV dc pm cd ct : Value} (X : K.In h) (G : h.Ns mainGlobals mg) (a : PySem.W.nsIn K mainGlobals "_law_boards_right" = some (some (.ref f)))
    (lk : K.lookup f = some ⟨oc, od, .func (PySem.W.fnOf "_law_boards_right" "_law_boards_right" (defArgs s__law_boards_right) (defBody s__law_boards_right) (defScope s__law_boards_right) .none kV dc pm an cd ct), sl⟩) (c : PySem.W.codeIn K cd "_law_boards_right" = true) (kp : PySem.W.keepIn K (.ref f) = true) :
    Def K mg "_law_boards_right" ["_law_bars_here", "_law_cell"] s__law_boards_right := ⟨f, _, PySem.W.mg_of X G a, fun_mk (st := s__law_boards_right) lk c kp, (fun_mk (st := s__law_boards_right) lk c kp).binds (ps := ["_law_bars_here", "_law_cell"]) fun _ _ _ _ _ _ us hl => match us, hl with | [_, _], _ => rfl⟩
theorem def_law {K : PySem.W.Frag} {h : Heap} {mg : Str → Option Value} {f : Addr} {od an : Option Addr} {sl : Array (Option Value)} {oc kV dc pm cd ct : Value} (X : K.In h) (G : h.Ns mainGlobals mg) (a : PySem.W.nsIn K mainGlobals "law" = some (some (.ref f)))
    (lk : K.lookup f = some ⟨oc, od, .func (PySem.W.fnOf "law" "law" (defArgs s_law) (defBody s_law) (defScope s_law) .none kV dc pm an cd ct), sl⟩) (c : PySem.W.codeIn K cd "law" = true) (kp : PySem.W.keepIn K (.ref f) = true) :
    mg "law" = some (.ref f) ∧ Fun K "law" "law" s_law f (PySem.W.fnOf "law" "law" (defArgs s_law) (defBody s_law) (defScope s_law) .none kV dc pm an cd ct) := ⟨PySem.W.mg_of X G a, fun_mk (st := s_law) lk c kp⟩
theorem cst_HIGHEST {K : PySem.W.Frag} {h : Heap} {mg : Str → Option Value} {t : Tok} (X : K.In h) (G : h.Ns mainGlobals mg) (a : PySem.W.nsIn K mainGlobals "HIGHEST" = some (some (.int 10000000 t))) : ∃ t, mg "HIGHEST" = some (.int 10000000 t) := ⟨t, PySem.W.mg_of X G a⟩
theorem def_Crossed___init__ {K : PySem.W.Frag} {C f : Addr} {od an : Option Addr} {sl : Array (Option Value)} {oc kV dc pm cd ct : Value} (a : PySem.W.findIn K (.ref C) "__init__" = some (some (.ref f))) (i : PySem.W.isFn K (.ref f) = true) (lk : K.lookup f = some ⟨oc, od, .func (PySem.W.fnOf "__init__" "Crossed.__init__" (defArgs s_Crossed___init__) (defBody s_Crossed___init__) (defScope s_Crossed___init__) .none kV dc pm an cd ct), sl⟩) (c : PySem.W.codeIn K cd "Crossed.__init__" = true) (kp : PySem.W.keepIn K (.ref f) = true) (mk : PySem.W.makesIn K C = true) (kc : PySem.W.keepIn K (.ref C) = true) : DefI K C "Crossed.__init__" ["self", "first", "second"] s_Crossed___init__ := ⟨f, _, fun_mk (st := s_Crossed___init__) lk c kp, (fun_mk (st := s_Crossed___init__) lk c kp).binds (ps := ["self", "first", "second"]) fun _ _ _ _ _ _ us hl => match us, hl with | [_, _, _], _ => rfl, ⟨mk, a, i, kc⟩⟩
theorem def_Row___init__ {K : PySem.W.Frag} {C f : Addr} {od an : Option Addr} {sl : Array (Option Value)} {oc kV dc pm cd ct : Value} (a : PySem.W.findIn K (.ref C) "__init__" = some (some (.ref f))) (i : PySem.W.isFn K (.ref f) = true) (lk : K.lookup f = some ⟨oc, od, .func (PySem.W.fnOf "__init__" "Row.__init__" (defArgs s_Row___init__) (defBody s_Row___init__) (defScope s_Row___init__) .none kV dc pm an cd ct), sl⟩) (c : PySem.W.codeIn K cd "Row.__init__" = true) (kp : PySem.W.keepIn K (.ref f) = true) (mk : PySem.W.makesIn K C = true) (kc : PySem.W.keepIn K (.ref C) = true) : DefI K C "Row.__init__" ["self", "bars"] s_Row___init__ := ⟨f, _, fun_mk (st := s_Row___init__) lk c kp, (fun_mk (st := s_Row___init__) lk c kp).binds (ps := ["self", "bars"]) fun _ _ _ _ _ _ us hl => match us, hl with | [_, _], _ => rfl, ⟨mk, a, i, kc⟩⟩
theorem def_Board_bounded {K : PySem.W.Frag} {C f : Addr} {od an : Option Addr} {sl : Array (Option Value)} {oc kV dc pm cd ct : Value} (a : PySem.W.findIn K (.ref C) "bounded" = some (some (.ref f))) (i : PySem.W.isFn K (.ref f) = true) (lk : K.lookup f = some ⟨oc, od, .func (PySem.W.fnOf "bounded" "Board.bounded" (defArgs s_Board_bounded) (defBody s_Board_bounded) (defScope s_Board_bounded) .none kV dc pm an cd ct), sl⟩) (c : PySem.W.codeIn K cd "Board.bounded" = true) (kp : PySem.W.keepIn K (.ref f) = true) : DefM K C "bounded" "Board.bounded" ["self", "bars", "place"] s_Board_bounded := ⟨f, _, fun_mk (st := s_Board_bounded) lk c kp, (fun_mk (st := s_Board_bounded) lk c kp).binds (ps := ["self", "bars", "place"]) fun _ _ _ _ _ _ us hl => match us, hl with | [_, _, _], _ => rfl, ⟨a, i, kp⟩⟩
theorem def_Board_shows {K : PySem.W.Frag} {C f : Addr} {od an : Option Addr} {sl : Array (Option Value)} {oc kV dc pm cd ct : Value} (a : PySem.W.findIn K (.ref C) "shows" = some (some (.ref f))) (i : PySem.W.isFn K (.ref f) = true) (lk : K.lookup f = some ⟨oc, od, .func (PySem.W.fnOf "shows" "Board.shows" (defArgs s_Board_shows) (defBody s_Board_shows) (defScope s_Board_shows) .none kV dc pm an cd ct), sl⟩) (c : PySem.W.codeIn K cd "Board.shows" = true) (kp : PySem.W.keepIn K (.ref f) = true) : DefM K C "shows" "Board.shows" ["self", "bars"] s_Board_shows := ⟨f, _, fun_mk (st := s_Board_shows) lk c kp, (fun_mk (st := s_Board_shows) lk c kp).binds (ps := ["self", "bars"]) fun _ _ _ _ _ _ us hl => match us, hl with | [_, _], _ => rfl, ⟨a, i, kp⟩⟩
theorem def_Row_shows {K : PySem.W.Frag} {C f : Addr} {od an : Option Addr} {sl : Array (Option Value)} {oc kV dc pm cd ct : Value} (a : PySem.W.findIn K (.ref C) "shows" = some (some (.ref f))) (i : PySem.W.isFn K (.ref f) = true) (lk : K.lookup f = some ⟨oc, od, .func (PySem.W.fnOf "shows" "Row.shows" (defArgs s_Row_shows) (defBody s_Row_shows) (defScope s_Row_shows) .none kV dc pm an cd ct), sl⟩) (c : PySem.W.codeIn K cd "Row.shows" = true) (kp : PySem.W.keepIn K (.ref f) = true) : DefM K C "shows" "Row.shows" ["self", "links"] s_Row_shows := ⟨f, _, fun_mk (st := s_Row_shows) lk c kp, (fun_mk (st := s_Row_shows) lk c kp).binds (ps := ["self", "links"]) fun _ _ _ _ _ _ us hl => match us, hl with | [_, _], _ => rfl, ⟨a, i, kp⟩⟩
theorem def_Crossed_shows {K : PySem.W.Frag} {C f : Addr} {od an : Option Addr} {sl : Array (Option Value)} {oc kV dc pm cd ct : Value} (a : PySem.W.findIn K (.ref C) "shows" = some (some (.ref f))) (i : PySem.W.isFn K (.ref f) = true) (lk : K.lookup f = some ⟨oc, od, .func (PySem.W.fnOf "shows" "Crossed.shows" (defArgs s_Crossed_shows) (defBody s_Crossed_shows) (defScope s_Crossed_shows) .none kV dc pm an cd ct), sl⟩) (c : PySem.W.codeIn K cd "Crossed.shows" = true) (kp : PySem.W.keepIn K (.ref f) = true) : DefM K C "shows" "Crossed.shows" ["self", "links"] s_Crossed_shows := ⟨f, _, fun_mk (st := s_Crossed_shows) lk c kp, (fun_mk (st := s_Crossed_shows) lk c kp).binds (ps := ["self", "links"]) fun _ _ _ _ _ _ us hl => match us, hl with | [_, _], _ => rfl, ⟨a, i, kp⟩⟩
theorem def_Board___init__ {K : PySem.W.Frag} {C f : Addr} {od an : Option Addr} {sl : Array (Option Value)} {oc kV dc pm cd ct : Value} (a : PySem.W.findIn K (.ref C) "__init__" = some (some (.ref f))) (i : PySem.W.isFn K (.ref f) = true) (lk : K.lookup f = some ⟨oc, od, .func (PySem.W.fnOf "__init__" "Board.__init__" (defArgs s_Board___init__) (defBody s_Board___init__) (defScope s_Board___init__) .none kV dc pm an cd ct), sl⟩) (c : PySem.W.codeIn K cd "Board.__init__" = true) (kp : PySem.W.keepIn K (.ref f) = true) (mk : PySem.W.makesIn K C = true) (kc : PySem.W.keepIn K (.ref C) = true) : DefI K C "Board.__init__" ["self", "first", "many", "high", "around"] s_Board___init__ := ⟨f, _, fun_mk (st := s_Board___init__) lk c kp, (fun_mk (st := s_Board___init__) lk c kp).binds (ps := ["self", "first", "many", "high", "around"]) fun _ _ _ _ _ _ us hl => match us, hl with | [_, _, _, _, _], _ => rfl, ⟨mk, a, i, kc⟩⟩
theorem cls_mk {K : PySem.W.Frag} {C : Addr} (pg : PySem.W.plainGet K C Str.empty = true) (hd : PySem.W.hasDictIn K C = true) (po : PySem.W.plainOver K C = true) (sa : PySem.W.findIn K (.ref C) "__setattr__" = some (some (.builtin "object.__setattr__"))) : Cls K C := ⟨pg, hd, po, sa⟩
theorem insc_mk {K : PySem.W.Frag} {C : Addr} (c : Cls K C) (ha : PySem.W.findIn K (.ref C) "__class__" = some (some (.builtin "object.__class__"))) (hn : PySem.W.specialIn K (.builtin "object.__class__") "__get__" = some (some (.builtin "getset_descriptor.__get__"))) (htk : PySem.W.takesIn K (.builtin "object.__class__") = some true) (hm : PySem.W.mroIn K C (.type "object") = some true) (me : PySem.W.kitOne K (.ref C) (.ref C) = some true) : InsO K C := ⟨c, ha, hn, htk, hm, me⟩
theorem kit_me {K : PySem.W.Frag} {C : Addr} : PySem.W.kitOne K (.ref C) (.ref C) = some true := if_pos (by simp)
theorem kit_mk {K : PySem.W.Frag} {C D : Addr} {cd : ClassData} {b : Bool} (h1 : PySem.W.clsIn K D = some cd) (h2 : PySem.W.typeIn K (.ref D) = some (.type "type")) (h3 : PySem.W.subIn K (.ref C) (.ref D) = some b) (ne : C ≠ D) : PySem.W.kitOne K (.ref C) (.ref D) = some b := by
  unfold PySem.W.kitOne PySem.W.kitCls
  rw [if_neg (by simpa using ne)]
  simp only [h1, h2]
  exact h3
theorem na_mk {K : PySem.W.Frag} {C : Addr} {x : Str} (h : PySem.W.findIn K (.ref C) x = some none) : NoAttr K C x := h
theorem all_mk {l : PySem.W.OpenLaw} {w : World} {K : PySem.W.Frag} {mg : Str → Option Value} {fa f : Addr} {an : Option Addr} {C_Answer C_Board C_Row C_Crossed : Addr} {kV dc pm cd ct : Value} (hfa : mg "law" = some (.ref fa)) (T : Txt K mg ⟨C_Answer, C_Board, C_Row, C_Crossed⟩) (D__law_bars : Def K mg "_law_bars" ["_law_script"] s__law_bars) (D__law_links : Def K mg "_law_links" ["_law_bars_here"] s__law_links) (D__law_says : Def K mg "_law_says" ["_law_said", "_law_due"] s__law_says) (D_ahead_of : Def K mg "ahead_of" ["bars"] s_ahead_of) (D__law_rows_right : Def K mg "_law_rows_right" ["_law_bars_here", "_law_other"] s__law_rows_right) (D__law_crossed_right : Def K mg "_law_crossed_right" ["_law_bars_here", "_law_cell"] s__law_crossed_right) (D_is_number : Def K mg "is_number" ["thing", "least", "most"] s_is_number) (D_asked_bars : Def K mg "asked_bars" ["bars"] s_asked_bars) (D_behind_of : Def K mg "behind_of" ["bars"] s_behind_of) (D_reaches : Def K mg "reaches" ["bars"] s_reaches) (D_board : Def K mg "board" ["bars"] s_board) (D__law_under : Def K mg "_law_under" ["_law_bars_here", "_law_first", "_law_many", "_law_high", "_law_around"] s__law_under) (D__law_board_right : Def K mg "_law_board_right" ["_law_bars_here", "_law_first", "_law_many", "_law_high", "_law_around"] s__law_board_right) (D__law_boards_right : Def K mg "_law_boards_right" ["_law_bars_here", "_law_cell"] s__law_boards_right) (D_Crossed___init__ : DefI K C_Crossed "Crossed.__init__" ["self", "first", "second"] s_Crossed___init__) (D_Row___init__ : DefI K C_Row "Row.__init__" ["self", "bars"] s_Row___init__) (D_Board_bounded : DefM K C_Board "bounded" "Board.bounded" ["self", "bars", "place"] s_Board_bounded) (D_Board_shows : DefM K C_Board "shows" "Board.shows" ["self", "bars"] s_Board_shows) (D_Row_shows : DefM K C_Row "shows" "Row.shows" ["self", "links"] s_Row_shows) (D_Crossed_shows : DefM K C_Crossed "shows" "Crossed.shows" ["self", "links"] s_Crossed_shows) (D_Board___init__ : DefI K C_Board "Board.__init__" ["self", "first", "many", "high", "around"] s_Board___init__)
    (L : mg "law" = some (.ref f) ∧ Fun K "law" "law" s_law f (PySem.W.fnOf "law" "law" (defArgs s_law) (defBody s_law) (defScope s_law) .none kV dc pm an cd ct)) :
    ∃ fd : FuncData, (∀ (s : Shared) (v : Value), BindsTo s fd ⟨[v], []⟩ [("_law_script", v)]) ∧ ∀ base : Heap, K.In base → base.Ns mainGlobals mg → FnOk l.prog w K mg base CX0 6 fa fd ["_law_script"] (sp_law K) := by
  obtain ⟨hf, F⟩ := L
  have e := hfa.symm.trans hf
  cases e
  refine ⟨PySem.W.fnOf "law" "law" (defArgs s_law) (defBody s_law) (defScope s_law) .none kV dc pm an cd ct, fun s v => .of_eq rfl, fun base _ _ => ?_⟩
  have h__law_bars := ok__law_bars (P := l.prog) (w := w) (base := base) (CL := ⟨C_Answer, C_Board, C_Row, C_Crossed⟩) D__law_bars T 
  have h_Crossed___init__ := ok_Crossed___init__ (P := l.prog) (w := w) (base := base) (CL := ⟨C_Answer, C_Board, C_Row, C_Crossed⟩) D_Crossed___init__ T 
  have h__law_links := ok__law_links (P := l.prog) (w := w) (base := base) (CL := ⟨C_Answer, C_Board, C_Row, C_Crossed⟩) D__law_links T 
  have h_Row___init__ := ok_Row___init__ (P := l.prog) (w := w) (base := base) (CL := ⟨C_Answer, C_Board, C_Row, C_Crossed⟩) D_Row___init__ T 
  have h__law_says := ok__law_says (P := l.prog) (w := w) (base := base) (CL := ⟨C_Answer, C_Board, C_Row, C_Crossed⟩) D__law_says T 
  have h_Board_bounded := ok_Board_bounded (P := l.prog) (w := w) (base := base) (CL := ⟨C_Answer, C_Board, C_Row, C_Crossed⟩) D_Board_bounded T 
  have h_Board_shows := ok_Board_shows (P := l.prog) (w := w) (base := base) (CL := ⟨C_Answer, C_Board, C_Row, C_Crossed⟩) D_Board_shows T h_Board_bounded
  have h_ahead_of := ok_ahead_of (P := l.prog) (w := w) (base := base) (CL := ⟨C_Answer, C_Board, C_Row, C_Crossed⟩) D_ahead_of T 
  have h_Row_shows := ok_Row_shows (P := l.prog) (w := w) (base := base) (CL := ⟨C_Answer, C_Board, C_Row, C_Crossed⟩) D_Row_shows T h_ahead_of
  have h_Crossed_shows := ok_Crossed_shows (P := l.prog) (w := w) (base := base) (CL := ⟨C_Answer, C_Board, C_Row, C_Crossed⟩) D_Crossed_shows T 
  have h__law_rows_right := ok__law_rows_right (P := l.prog) (w := w) (base := base) (CL := ⟨C_Answer, C_Board, C_Row, C_Crossed⟩) D__law_rows_right T h__law_links h_Row___init__ h__law_says h_Board_shows h_Row_shows h_Crossed_shows
  have h__law_crossed_right := ok__law_crossed_right (P := l.prog) (w := w) (base := base) (CL := ⟨C_Answer, C_Board, C_Row, C_Crossed⟩) D__law_crossed_right T h_Crossed___init__ h__law_says h_Board_shows h_Row_shows h_Crossed_shows
  have h_is_number := ok_is_number (P := l.prog) (w := w) (base := base) (CL := ⟨C_Answer, C_Board, C_Row, C_Crossed⟩) D_is_number T 
  have h_asked_bars := ok_asked_bars (P := l.prog) (w := w) (base := base) (CL := ⟨C_Answer, C_Board, C_Row, C_Crossed⟩) D_asked_bars T h_is_number
  have h_behind_of := ok_behind_of (P := l.prog) (w := w) (base := base) (CL := ⟨C_Answer, C_Board, C_Row, C_Crossed⟩) D_behind_of T h_ahead_of
  have h_reaches := ok_reaches (P := l.prog) (w := w) (base := base) (CL := ⟨C_Answer, C_Board, C_Row, C_Crossed⟩) D_reaches T h_asked_bars h_ahead_of h_behind_of
  have h_Board___init__ := ok_Board___init__ (P := l.prog) (w := w) (base := base) (CL := ⟨C_Answer, C_Board, C_Row, C_Crossed⟩) D_Board___init__ T 
  have h_board := ok_board (P := l.prog) (w := w) (base := base) (CL := ⟨C_Answer, C_Board, C_Row, C_Crossed⟩) D_board T h_asked_bars h_reaches h_Board___init__
  have h__law_under := ok__law_under (P := l.prog) (w := w) (base := base) (CL := ⟨C_Answer, C_Board, C_Row, C_Crossed⟩) D__law_under T 
  have h__law_board_right := ok__law_board_right (P := l.prog) (w := w) (base := base) (CL := ⟨C_Answer, C_Board, C_Row, C_Crossed⟩) D__law_board_right T h_Board___init__ h__law_says h_Board_shows h_Row_shows h_Crossed_shows h__law_under
  have h__law_boards_right := ok__law_boards_right (P := l.prog) (w := w) (base := base) (CL := ⟨C_Answer, C_Board, C_Row, C_Crossed⟩) D__law_boards_right T h_board h__law_board_right
  exact ok_law (CL := ⟨C_Answer, C_Board, C_Row, C_Crossed⟩) F T h__law_bars h_Crossed___init__ h__law_rows_right h__law_says h_Board_shows h_Row_shows h_Crossed_shows h__law_crossed_right h__law_boards_right
theorem txt_mk {K : PySem.W.Frag} {mg : Str → Option Value} {C_Answer C_Board C_Row C_Crossed : Addr} (m_len : mg "len" = none) (m_isinstance : mg "isinstance" = none) (m_all : mg "all" = none) (m_sum : mg "sum" = none) (m_max : mg "max" = none) (m_min : mg "min" = none) (m_sorted : mg "sorted" = none) (m_list : mg "list" = none) (m_int : mg "int" = none) (m_bool : mg "bool" = none) (m_range : mg "range" = none) (m_enumerate : mg "enumerate" = none) (m_zip : mg "zip" = none) (m_ValueError : mg "ValueError" = none) (c_HIGHEST : ∃ t, mg "HIGHEST" = some (.int 10000000 t)) (c_Answer : mg "Answer" = some (.ref C_Answer)) (cl_Answer : Cls K C_Answer) (ic_Answer : InsO K C_Answer) (ki_Answer_Board : PySem.W.kitOne K (.ref C_Answer) (.ref C_Board) = some false) (ki_Answer_Row : PySem.W.kitOne K (.ref C_Answer) (.ref C_Row) = some false) (ki_Answer_Crossed : PySem.W.kitOne K (.ref C_Answer) (.ref C_Crossed) = some false) (c_Board : mg "Board" = some (.ref C_Board)) (cl_Board : Cls K C_Board) (ic_Board : InsO K C_Board) (na_Board_first : NoAttr K C_Board "first") (na_Board_many : NoAttr K C_Board "many") (na_Board_high : NoAttr K C_Board "high") (na_Board_around : NoAttr K C_Board "around") (ki_Board_Answer : PySem.W.kitOne K (.ref C_Board) (.ref C_Answer) = some true) (ki_Board_Row : PySem.W.kitOne K (.ref C_Board) (.ref C_Row) = some false) (ki_Board_Crossed : PySem.W.kitOne K (.ref C_Board) (.ref C_Crossed) = some false) (c_Row : mg "Row" = some (.ref C_Row)) (cl_Row : Cls K C_Row) (ic_Row : InsO K C_Row) (na_Row_bars : NoAttr K C_Row "bars") (ki_Row_Answer : PySem.W.kitOne K (.ref C_Row) (.ref C_Answer) = some true) (ki_Row_Board : PySem.W.kitOne K (.ref C_Row) (.ref C_Board) = some false) (ki_Row_Crossed : PySem.W.kitOne K (.ref C_Row) (.ref C_Crossed) = some false) (c_Crossed : mg "Crossed" = some (.ref C_Crossed)) (cl_Crossed : Cls K C_Crossed) (ic_Crossed : InsO K C_Crossed) (na_Crossed_first : NoAttr K C_Crossed "first") (na_Crossed_second : NoAttr K C_Crossed "second") (ki_Crossed_Answer : PySem.W.kitOne K (.ref C_Crossed) (.ref C_Answer) = some true) (ki_Crossed_Board : PySem.W.kitOne K (.ref C_Crossed) (.ref C_Board) = some false) (ki_Crossed_Row : PySem.W.kitOne K (.ref C_Crossed) (.ref C_Row) = some false) : Txt K mg ⟨C_Answer, C_Board, C_Row, C_Crossed⟩ := ⟨m_len, m_isinstance, m_all, m_sum, m_max, m_min, m_sorted, m_list, m_int, m_bool, m_range, m_enumerate, m_zip, m_ValueError, c_HIGHEST, c_Answer, cl_Answer, ic_Answer, ki_Answer_Board, ki_Answer_Row, ki_Answer_Crossed, c_Board, cl_Board, ic_Board, na_Board_first, na_Board_many, na_Board_high, na_Board_around, ki_Board_Answer, ki_Board_Row, ki_Board_Crossed, c_Row, cl_Row, ic_Row, na_Row_bars, ki_Row_Answer, ki_Row_Board, ki_Row_Crossed, c_Crossed, cl_Crossed, ic_Crossed, na_Crossed_first, na_Crossed_second, ki_Crossed_Answer, ki_Crossed_Board, ki_Crossed_Row⟩
end Sky
open PySem PySem.W PyProof.Rows
set_option maxRecDepth 100000 in
set_option maxHeartbeats 0 in
theorem PySem.Challenge.cw_skybars_k08_answers_by_hand_holds : PySem.Challenge.rw_skybars_k08_answers_by_hand.Holds := by
  w_on; o_law; k_head; (case hw => w_witness2)
  k_fill
  refine L2.walk_of (l := PySem.Challenge.rw_skybars_k08_answers_by_hand) (n := 63) (k := 6) (x := "_law_script") (CX := fun _ => L2.CX0) (sp := fun w => Sky.sp_law _) rfl (by decide) rfl ⟨rfl, by decide, by decide⟩ (fun w h Y => PySem.W.kIn_of Y) ?F (fun _ _ a ns hl _ hS => ⟨_, rfl, a, ns, rfl, hS, hl, fun _ => rfl⟩) (fun _ _ _ _ _ h => h)
  case F =>
    intro w mg fa h KX G hmg
    refine' Sky.all_mk hmg (Sky.txt_mk (PySem.W.mg_none_of KX G ?z_len) (PySem.W.mg_none_of KX G ?z_isinstance) (PySem.W.mg_none_of KX G ?z_all) (PySem.W.mg_none_of KX G ?z_sum) (PySem.W.mg_none_of KX G ?z_max) (PySem.W.mg_none_of KX G ?z_min) (PySem.W.mg_none_of KX G ?z_sorted) (PySem.W.mg_none_of KX G ?z_list) (PySem.W.mg_none_of KX G ?z_int) (PySem.W.mg_none_of KX G ?z_bool) (PySem.W.mg_none_of KX G ?z_range) (PySem.W.mg_none_of KX G ?z_enumerate) (PySem.W.mg_none_of KX G ?z_zip) (PySem.W.mg_none_of KX G ?z_ValueError) (Sky.cst_HIGHEST KX G ?c_HIGHEST) (PySem.W.mg_of KX G ?c_Answer) (Sky.cls_mk ?pg_cl_Answer ?hd_cl_Answer ?po_cl_Answer ?sa_cl_Answer) (Sky.insc_mk (Sky.cls_mk ?pg_cl_Answer ?hd_cl_Answer ?po_cl_Answer ?sa_cl_Answer) ?ha_ic_Answer ?hn_ic_Answer ?ht_ic_Answer ?hm_ic_Answer Sky.kit_me) (Sky.kit_mk ?k1_ki_Answer_Board ?k2_ki_Answer_Board ?k3_ki_Answer_Board ?k4_ki_Answer_Board) (Sky.kit_mk ?k1_ki_Answer_Row ?k2_ki_Answer_Row ?k3_ki_Answer_Row ?k4_ki_Answer_Row) (Sky.kit_mk ?k1_ki_Answer_Crossed ?k2_ki_Answer_Crossed ?k3_ki_Answer_Crossed ?k4_ki_Answer_Crossed) (PySem.W.mg_of KX G ?c_Board) (Sky.cls_mk ?pg_cl_Board ?hd_cl_Board ?po_cl_Board ?sa_cl_Board) (Sky.insc_mk (Sky.cls_mk ?pg_cl_Board ?hd_cl_Board ?po_cl_Board ?sa_cl_Board) ?ha_ic_Board ?hn_ic_Board ?ht_ic_Board ?hm_ic_Board Sky.kit_me) (Sky.na_mk ?na_Board_first) (Sky.na_mk ?na_Board_many) (Sky.na_mk ?na_Board_high) (Sky.na_mk ?na_Board_around) (Sky.kit_mk ?k1_ki_Board_Answer ?k2_ki_Board_Answer ?k3_ki_Board_Answer ?k4_ki_Board_Answer) (Sky.kit_mk ?k1_ki_Board_Row ?k2_ki_Board_Row ?k3_ki_Board_Row ?k4_ki_Board_Row) (Sky.kit_mk ?k1_ki_Board_Crossed ?k2_ki_Board_Crossed ?k3_ki_Board_Crossed ?k4_ki_Board_Crossed) (PySem.W.mg_of KX G ?c_Row) (Sky.cls_mk ?pg_cl_Row ?hd_cl_Row ?po_cl_Row ?sa_cl_Row) (Sky.insc_mk (Sky.cls_mk ?pg_cl_Row ?hd_cl_Row ?po_cl_Row ?sa_cl_Row) ?ha_ic_Row ?hn_ic_Row ?ht_ic_Row ?hm_ic_Row Sky.kit_me) (Sky.na_mk ?na_Row_bars) (Sky.kit_mk ?k1_ki_Row_Answer ?k2_ki_Row_Answer ?k3_ki_Row_Answer ?k4_ki_Row_Answer) (Sky.kit_mk ?k1_ki_Row_Board ?k2_ki_Row_Board ?k3_ki_Row_Board ?k4_ki_Row_Board) (Sky.kit_mk ?k1_ki_Row_Crossed ?k2_ki_Row_Crossed ?k3_ki_Row_Crossed ?k4_ki_Row_Crossed) (PySem.W.mg_of KX G ?c_Crossed) (Sky.cls_mk ?pg_cl_Crossed ?hd_cl_Crossed ?po_cl_Crossed ?sa_cl_Crossed) (Sky.insc_mk (Sky.cls_mk ?pg_cl_Crossed ?hd_cl_Crossed ?po_cl_Crossed ?sa_cl_Crossed) ?ha_ic_Crossed ?hn_ic_Crossed ?ht_ic_Crossed ?hm_ic_Crossed Sky.kit_me) (Sky.na_mk ?na_Crossed_first) (Sky.na_mk ?na_Crossed_second) (Sky.kit_mk ?k1_ki_Crossed_Answer ?k2_ki_Crossed_Answer ?k3_ki_Crossed_Answer ?k4_ki_Crossed_Answer) (Sky.kit_mk ?k1_ki_Crossed_Board ?k2_ki_Crossed_Board ?k3_ki_Crossed_Board ?k4_ki_Crossed_Board) (Sky.kit_mk ?k1_ki_Crossed_Row ?k2_ki_Crossed_Row ?k3_ki_Crossed_Row ?k4_ki_Crossed_Row)) (Sky.def__law_bars KX G ?a__law_bars ?l__law_bars ?d__law_bars ?k__law_bars) (Sky.def__law_links KX G ?a__law_links ?l__law_links ?d__law_links ?k__law_links) (Sky.def__law_says KX G ?a__law_says ?l__law_says ?d__law_says ?k__law_says) (Sky.def_ahead_of KX G ?a_ahead_of ?l_ahead_of ?d_ahead_of ?k_ahead_of) (Sky.def__law_rows_right KX G ?a__law_rows_right ?l__law_rows_right ?d__law_rows_right ?k__law_rows_right) (Sky.def__law_crossed_right KX G ?a__law_crossed_right ?l__law_crossed_right ?d__law_crossed_right ?k__law_crossed_right) (Sky.def_is_number KX G ?a_is_number ?l_is_number ?d_is_number ?k_is_number) (Sky.def_asked_bars KX G ?a_asked_bars ?l_asked_bars ?d_asked_bars ?k_asked_bars) (Sky.def_behind_of KX G ?a_behind_of ?l_behind_of ?d_behind_of ?k_behind_of) (Sky.def_reaches KX G ?a_reaches ?l_reaches ?d_reaches ?k_reaches) (Sky.def_board KX G ?a_board ?l_board ?d_board ?k_board) (Sky.def__law_under KX G ?a__law_under ?l__law_under ?d__law_under ?k__law_under) (Sky.def__law_board_right KX G ?a__law_board_right ?l__law_board_right ?d__law_board_right ?k__law_board_right) (Sky.def__law_boards_right KX G ?a__law_boards_right ?l__law_boards_right ?d__law_boards_right ?k__law_boards_right) (Sky.def_Crossed___init__ ?a_Crossed___init__ ?i_Crossed___init__ ?l_Crossed___init__ ?d_Crossed___init__ ?k_Crossed___init__ ?mk_Crossed___init__ ?kc_Crossed___init__) (Sky.def_Row___init__ ?a_Row___init__ ?i_Row___init__ ?l_Row___init__ ?d_Row___init__ ?k_Row___init__ ?mk_Row___init__ ?kc_Row___init__) (Sky.def_Board_bounded ?a_Board_bounded ?i_Board_bounded ?l_Board_bounded ?d_Board_bounded ?k_Board_bounded) (Sky.def_Board_shows ?a_Board_shows ?i_Board_shows ?l_Board_shows ?d_Board_shows ?k_Board_shows) (Sky.def_Row_shows ?a_Row_shows ?i_Row_shows ?l_Row_shows ?d_Row_shows ?k_Row_shows) (Sky.def_Crossed_shows ?a_Crossed_shows ?i_Crossed_shows ?l_Crossed_shows ?d_Crossed_shows ?k_Crossed_shows) (Sky.def_Board___init__ ?a_Board___init__ ?i_Board___init__ ?l_Board___init__ ?d_Board___init__ ?k_Board___init__ ?mk_Board___init__ ?kc_Board___init__) (Sky.def_law KX G ?a_law ?l_law ?d_law ?k_law)
    (case z_len => k_is)
    (case z_isinstance => k_is)
    (case z_all => k_is)
    (case z_sum => k_is)
    (case z_max => k_is)
    (case z_min => k_is)
    (case z_sorted => k_is)
    (case z_list => k_is)
    (case z_int => k_is)
    (case z_bool => k_is)
    (case z_range => k_is)
    (case z_enumerate => k_is)
    (case z_zip => k_is)
    (case z_ValueError => k_is)
    (case c_HIGHEST => k_is)
    (case c_Answer => k_is)
    (case c_Board => k_is)
    (case c_Row => k_is)
    (case c_Crossed => k_is)
    (case pg_cl_Answer => k_is)
    (case hd_cl_Answer => k_is)
    (case po_cl_Answer => k_is)
    (case sa_cl_Answer => k_is)
    (case ha_ic_Answer => k_is)
    (case hn_ic_Answer => k_is)
    (case ht_ic_Answer => k_is)
    (case hm_ic_Answer => k_is)
    (case k1_ki_Answer_Board => k_is)
    (case k2_ki_Answer_Board => k_is)
    (case k3_ki_Answer_Board => k_is)
    (case k4_ki_Answer_Board => decide)
    (case k1_ki_Answer_Row => k_is)
    (case k2_ki_Answer_Row => k_is)
    (case k3_ki_Answer_Row => k_is)
    (case k4_ki_Answer_Row => decide)
    (case k1_ki_Answer_Crossed => k_is)
    (case k2_ki_Answer_Crossed => k_is)
    (case k3_ki_Answer_Crossed => k_is)
    (case k4_ki_Answer_Crossed => decide)
    (case pg_cl_Board => k_is)
    (case hd_cl_Board => k_is)
    (case po_cl_Board => k_is)
    (case sa_cl_Board => k_is)
    (case ha_ic_Board => k_is)
    (case hn_ic_Board => k_is)
    (case ht_ic_Board => k_is)
    (case hm_ic_Board => k_is)
    (case na_Board_first => k_is)
    (case na_Board_many => k_is)
    (case na_Board_high => k_is)
    (case na_Board_around => k_is)
    (case k1_ki_Board_Answer => k_is)
    (case k2_ki_Board_Answer => k_is)
    (case k3_ki_Board_Answer => k_is)
    (case k4_ki_Board_Answer => decide)
    (case k1_ki_Board_Row => k_is)
    (case k2_ki_Board_Row => k_is)
    (case k3_ki_Board_Row => k_is)
    (case k4_ki_Board_Row => decide)
    (case k1_ki_Board_Crossed => k_is)
    (case k2_ki_Board_Crossed => k_is)
    (case k3_ki_Board_Crossed => k_is)
    (case k4_ki_Board_Crossed => decide)
    (case pg_cl_Row => k_is)
    (case hd_cl_Row => k_is)
    (case po_cl_Row => k_is)
    (case sa_cl_Row => k_is)
    (case ha_ic_Row => k_is)
    (case hn_ic_Row => k_is)
    (case ht_ic_Row => k_is)
    (case hm_ic_Row => k_is)
    (case na_Row_bars => k_is)
    (case k1_ki_Row_Answer => k_is)
    (case k2_ki_Row_Answer => k_is)
    (case k3_ki_Row_Answer => k_is)
    (case k4_ki_Row_Answer => decide)
    (case k1_ki_Row_Board => k_is)
    (case k2_ki_Row_Board => k_is)
    (case k3_ki_Row_Board => k_is)
    (case k4_ki_Row_Board => decide)
    (case k1_ki_Row_Crossed => k_is)
    (case k2_ki_Row_Crossed => k_is)
    (case k3_ki_Row_Crossed => k_is)
    (case k4_ki_Row_Crossed => decide)
    (case pg_cl_Crossed => k_is)
    (case hd_cl_Crossed => k_is)
    (case po_cl_Crossed => k_is)
    (case sa_cl_Crossed => k_is)
    (case ha_ic_Crossed => k_is)
    (case hn_ic_Crossed => k_is)
    (case ht_ic_Crossed => k_is)
    (case hm_ic_Crossed => k_is)
    (case na_Crossed_first => k_is)
    (case na_Crossed_second => k_is)
    (case k1_ki_Crossed_Answer => k_is)
    (case k2_ki_Crossed_Answer => k_is)
    (case k3_ki_Crossed_Answer => k_is)
    (case k4_ki_Crossed_Answer => decide)
    (case k1_ki_Crossed_Board => k_is)
    (case k2_ki_Crossed_Board => k_is)
    (case k3_ki_Crossed_Board => k_is)
    (case k4_ki_Crossed_Board => decide)
    (case k1_ki_Crossed_Row => k_is)
    (case k2_ki_Crossed_Row => k_is)
    (case k3_ki_Crossed_Row => k_is)
    (case k4_ki_Crossed_Row => decide)
    (case a__law_bars => k_is)
    (case l__law_bars => k_is)
    (case d__law_bars => k_is)
    (case k__law_bars => k_is)
    (case a__law_links => k_is)
    (case l__law_links => k_is)
    (case d__law_links => k_is)
    (case k__law_links => k_is)
    (case a__law_says => k_is)
    (case l__law_says => k_is)
    (case d__law_says => k_is)
    (case k__law_says => k_is)
    (case a_ahead_of => k_is)
    (case l_ahead_of => k_is)
    (case d_ahead_of => k_is)
    (case k_ahead_of => k_is)
    (case a__law_rows_right => k_is)
    (case l__law_rows_right => k_is)
    (case d__law_rows_right => k_is)
    (case k__law_rows_right => k_is)
    (case a__law_crossed_right => k_is)
    (case l__law_crossed_right => k_is)
    (case d__law_crossed_right => k_is)
    (case k__law_crossed_right => k_is)
    (case a_is_number => k_is)
    (case l_is_number => k_is)
    (case d_is_number => k_is)
    (case k_is_number => k_is)
    (case a_asked_bars => k_is)
    (case l_asked_bars => k_is)
    (case d_asked_bars => k_is)
    (case k_asked_bars => k_is)
    (case a_behind_of => k_is)
    (case l_behind_of => k_is)
    (case d_behind_of => k_is)
    (case k_behind_of => k_is)
    (case a_reaches => k_is)
    (case l_reaches => k_is)
    (case d_reaches => k_is)
    (case k_reaches => k_is)
    (case a_board => k_is)
    (case l_board => k_is)
    (case d_board => k_is)
    (case k_board => k_is)
    (case a__law_under => k_is)
    (case l__law_under => k_is)
    (case d__law_under => k_is)
    (case k__law_under => k_is)
    (case a__law_board_right => k_is)
    (case l__law_board_right => k_is)
    (case d__law_board_right => k_is)
    (case k__law_board_right => k_is)
    (case a__law_boards_right => k_is)
    (case l__law_boards_right => k_is)
    (case d__law_boards_right => k_is)
    (case k__law_boards_right => k_is)
    (case a_Crossed___init__ => k_is)
    (case i_Crossed___init__ => k_is)
    (case l_Crossed___init__ => k_is)
    (case d_Crossed___init__ => k_is)
    (case k_Crossed___init__ => k_is)
    (case mk_Crossed___init__ => k_is)
    (case kc_Crossed___init__ => k_is)
    (case a_Row___init__ => k_is)
    (case i_Row___init__ => k_is)
    (case l_Row___init__ => k_is)
    (case d_Row___init__ => k_is)
    (case k_Row___init__ => k_is)
    (case mk_Row___init__ => k_is)
    (case kc_Row___init__ => k_is)
    (case a_Board_bounded => k_is)
    (case i_Board_bounded => k_is)
    (case l_Board_bounded => k_is)
    (case d_Board_bounded => k_is)
    (case k_Board_bounded => k_is)
    (case a_Board_shows => k_is)
    (case i_Board_shows => k_is)
    (case l_Board_shows => k_is)
    (case d_Board_shows => k_is)
    (case k_Board_shows => k_is)
    (case a_Row_shows => k_is)
    (case i_Row_shows => k_is)
    (case l_Row_shows => k_is)
    (case d_Row_shows => k_is)
    (case k_Row_shows => k_is)
    (case a_Crossed_shows => k_is)
    (case i_Crossed_shows => k_is)
    (case l_Crossed_shows => k_is)
    (case d_Crossed_shows => k_is)
    (case k_Crossed_shows => k_is)
    (case a_Board___init__ => k_is)
    (case i_Board___init__ => k_is)
    (case l_Board___init__ => k_is)
    (case d_Board___init__ => k_is)
    (case k_Board___init__ => k_is)
    (case mk_Board___init__ => k_is)
    (case kc_Board___init__ => k_is)
    (case a_law => k_is)
    (case l_law => k_is)
    (case d_law => k_is)
    (case k_law => k_is)
#print axioms PySem.Challenge.cw_skybars_k08_answers_by_hand_holds

