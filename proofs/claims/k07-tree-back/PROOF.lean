import PyProof.Rows.All
import Wide.All
import OpenK.AllK
import Wide.FinOn
import HandS.ForMost
import HandS.IsInst
import HandS.Style
import HandS.RevRange
import HandS.SortKw
import KE.KMinKey
import HandS.ForExc
import HandS.ExcIs
import HandS.ExcCtx
import HandS.Hot
import HandS.HotCalls
import PySem.Challenge.RW_skybars_k07_whole_tree_back
set_option Elab.async false
set_option linter.all false
set_option maxRecDepth 100000
set_option maxHeartbeats 4000000
/-! R: rules of our own over the hand layer: comparisons of more than two links, max(xs, default=d), loops and comprehensions over enumerate and zip, the built-in names. -/
namespace Sky
open PySem PySem.Spec PyProof.Rows L2

/-! ### chains a op b op c op d .. -/
structure PCh (X : Cx) (ops : List CmpOp) (es : List Expr) (t : V → TE) : Prop where
  val : ∀ (pos : Pos) (pins : List (Addr × Obj)) (s : Shared) (σ : L2.St) (H : Hp) (Q : VK) (x : V) (v : Value), Inv X pins σ H s → RelV x v → t x σ H Q →
    wpAny (model X.prog X.w) X.A (compareChain pos v ops (evalEach es X.env)) (EP X pins σ Q) X.xe s
  tst : ∀ (pos : Pos) (pins : List (Addr × Obj)) (s : Shared) (σ : L2.St) (H : Hp) (Q : Bool → Hp → Prop) (x : V) (v : Value), Inv X pins σ H s → RelV x v → t x σ H (fun z H' => ∃ k, z = .bl k ∧ Q k H') →
    wpAny (model X.prog X.w) X.A (testChain pos v ops (evalEach es X.env)) (TP X pins σ Q) X.xe s
section
variable {X : Cx} {op op' : CmpOp} {ops : List CmpOp} {a b c : Expr} {cs : List Expr} {ta tb tc : TE} {r : R2} {t' : V → TE} {pos : Pos}
def cOne (r : R2) (tc : TE) : V → TE := fun x σ H Q => tc σ H fun y H2 => r x y H2 Q
def cCons (r : R2) (tb : TE) (t' : V → TE) : V → TE := fun x σ H Q => tb σ H fun y H2 => r x y H2 fun z H3 => ∃ k, z = .bl k ∧ (if k = true then t' y σ H3 Q else Q (.bl false) H3)
theorem pch_one (ho : OpR X (compareOp op) r) (hc : PE X c tc) : PCh X [op] [c] (cOne r tc) := by
  constructor
  · intro pos pins s σ H Q x v I rx h
    exact chain_last (thn (hc.run pins s σ H _ I h) fun u s2 ⟨y, H2, I2, r2, q2⟩ => ho pins s2 σ H2 x y v u Q I2 rx r2 q2)
  · intro pos pins s σ H Q x v I rx h
    refine test_last (thn (hc.run pins s σ H _ I h) fun u s2 ⟨y, H2, I2, r2, q2⟩ => thn (ho pins s2 σ H2 x y v u _ I2 rx r2 q2) fun d s3 ⟨z, H3, I3, r3, k, e, q3⟩ => ?_)
    subst e
    cases r3
    exact wpAny_truthy_bool ⟨H3, I3, q3⟩
theorem pch_cons (ho : OpR X (compareOp op) r) (hb : PE X b tb) (hc : PCh X (op' :: ops) (c :: cs) t') : PCh X (op :: op' :: ops) (b :: c :: cs) (cCons r tb t') := by
  constructor
  · intro pos pins s σ H Q x v I rx h
    refine chain_link (thn (hb.run pins s σ H _ I h) fun u s2 ⟨y, H2, I2, r2, q2⟩ => thn (ho pins s2 σ H2 x y v u _ I2 rx r2 q2) fun d s3 ⟨z, H3, I3, r3, k, e, q3⟩ => ?_)
    subst e
    cases r3
    refine wpAny_truthy_bool ?_
    cases k with
    | false => exact ite_ff ⟨.bl false, H3, I3, rfl, q3⟩
    | true => exact ite_tt (hc.val _ pins s3 σ H3 Q y u I3 r2 q3)
  · intro pos pins s σ H Q x v I rx h
    refine test_link (thn (hb.run pins s σ H _ I h) fun u s2 ⟨y, H2, I2, r2, q2⟩ => thn (ho pins s2 σ H2 x y v u _ I2 rx r2 q2) fun d s3 ⟨z, H3, I3, r3, k, e, q3⟩ => ?_)
    subst e
    cases r3
    refine wpAny_truthy_bool ?_
    cases k with
    | false =>
      obtain ⟨k', e', q'⟩ := q3
      cases e'
      exact ite_ff ⟨H3, I3, q'⟩
    | true => exact ite_tt (hc.tst _ pins s3 σ H3 Q y u I3 r2 q3)
def tChn (ta : TE) (t : V → TE) : TE := fun σ H Q => ta σ H fun x H1 => t x σ H1 Q
theorem pe_chn {op1 op2 : CmpOp} {r1 r2 : Expr} {rs : List Expr} {t : V → TE} (ha : PE X a ta) (h : PCh X (op1 :: op2 :: ops) (r1 :: r2 :: rs) t)
    (hm : lastMarks (op1 :: op2 :: ops) (r1 :: r2 :: rs) = false := by with_unfolding_all rfl) : PE X (.Compare a (op1 :: op2 :: ops) (r1 :: r2 :: rs) pos) (tChn ta t) := by
  refine ⟨fun pins s σ H Q I hw => ?_⟩
  exact Compare_chain (thn (ha.run pins s σ H _ I hw) fun v s1 ⟨x, H1, I1, q1, k1⟩ => h.val pos pins s1 σ H1 Q x v I1 q1 k1) hm
theorem pt_chn {op1 op2 : CmpOp} {r1 r2 : Expr} {rs : List Expr} {t : V → TE} (ha : PE X a ta) (h : PCh X (op1 :: op2 :: ops) (r1 :: r2 :: rs) t)
    (hm : lastMarks (op1 :: op2 :: ops) (r1 :: r2 :: rs) = false := by with_unfolding_all rfl) : PT X (.Compare a (op1 :: op2 :: ops) (r1 :: r2 :: rs) pos) (tTest (tChn ta t)) := by
  refine ⟨fun pins s σ H Q I hw => ?_⟩
  exact isTrue_chain (thn (ha.run pins s σ H _ I hw) fun v s1 ⟨x, H1, I1, q1, k1⟩ => h.tst pos pins s1 σ H1 Q x v I1 q1 k1) hm
end

/-! ### lists of whole numbers as values -/
def g (bs : List Int) (i : Nat) : Int := bs.getD i 0
abbrev ivs (l : List Int) : List V := l.map V.int
theorem ivs_at {l : List Int} {j : Nat} (h : j < l.length) : (ivs l)[j]? = some (.int (g l j)) := by
  unfold g
  rw [List.getElem?_map, List.getElem?_eq_getElem h, List.getD_eq_getElem?_getD, List.getElem?_eq_getElem h]
  rfl
theorem at_ivs {l : List Int} {j : Nat} {i : Int} (e : i = (j : Int)) (h : j < l.length) : atI (ivs l) i = some (.int (g l j)) := by
  rw [e]
  exact atI_nat (ivs_at h)
theorem of_ivs {l : List Int} {j : Nat} {x : V} (h : (ivs l)[j]? = some x) : j < l.length ∧ x = .int (g l j) := by
  have hj : j < l.length := by
    have := (List.getElem?_eq_some_iff.mp h).1
    rwa [List.length_map] at this
  refine ⟨hj, ?_⟩
  rw [ivs_at hj] at h
  exact (Option.some.inj h).symm
theorem len_ivs (l : List Int) : (ivs l).length = l.length := List.length_map ..
theorem ivs_app (l : List Int) (x : Int) : ivs (l ++ [x]) = ivs l ++ [V.int x] := by simp [ivs]
theorem rev_ivs (l : List Int) : (ivs l).reverse = ivs l.reverse := (List.map_reverse ..).symm
theorem sz_of {n : Nat} (h : n ≤ 100000) : n ≤ sizeLine := Nat.le_trans h (by decide)
theorem sz_lt {n : Nat} (h : n < 100000) : n < sizeLine := Nat.lt_of_lt_of_le h (by decide)

/-- a list read as data: of numbers -/
theorem dp_ivsA {K : PySem.W.Frag} {H : Hp} : ∀ l : List Int, DpAll K H (ivs l) (l.map PyData.int)
  | [] => .nil
  | a :: r => .cons (.int a) (dp_ivsA r)
theorem dp_ivs {K : PySem.W.Frag} {H : Hp} {a : Addr} {l : List Int} (h : SqL K H a (ivs l)) : Dp K H (.ref a) (.list (l.map PyData.int)) := .lst h (dp_ivsA l)
theorem eqv_ivsA : ∀ l m : List Int, PyData.eqvAll (l.map PyData.int) (m.map PyData.int) = decide (l = m)
  | [], [] => by simp [PyData.eqvAll]
  | [], _ :: _ => by simp [PyData.eqvAll]
  | _ :: _, [] => by simp [PyData.eqvAll]
  | a :: r, b :: t => by
    simp only [List.map_cons, PyData.eqvAll, PyData.eqv, eqv_ivsA r t]
    by_cases h : a = b <;> by_cases h' : r = t <;> simp [h, h']
theorem eqv_ivs (l m : List Int) : PyData.eqv (.list (l.map PyData.int)) (.list (m.map PyData.int)) = decide (l = m) := by
  simp only [PyData.eqv]
  exact eqv_ivsA l m
/-- ==, != of two lists of numbers -/
theorem q_eqL {K : PySem.W.Frag} {H : Hp} {a b : Addr} {l m : List Int} {Q : VK} (ha : SqL K H a (ivs l)) (hb : SqL K H b (ivs m)) (q : Q (.bl (decide (l = m))) H) : rEqD K (.ref a) (.ref b) H Q :=
  ⟨_, _, dp_ivs ha, dp_ivs hb, PySem.W.ke_shaped_ints l, PySem.W.ke_shaped_ints m, by rw [eqv_ivs]; exact q⟩
theorem q_neL {K : PySem.W.Frag} {H : Hp} {a b : Addr} {l m : List Int} {Q : VK} (ha : SqL K H a (ivs l)) (hb : SqL K H b (ivs m)) (q : Q (.bl (!decide (l = m))) H) : rNeD K (.ref a) (.ref b) H Q :=
  ⟨_, _, dp_ivs ha, dp_ivs hb, PySem.W.ke_shaped_ints l, PySem.W.ke_shaped_ints m, by rw [eqv_ivs]; exact q⟩

/-! ### loops over enumerate, with two names -/
abbrev g2 (K : PySem.W.Frag) (j k : Nat) : TG := gTup K 2 (gCons (gName j) (gCons (gName k) gNil))
theorem g2_new {K : PySem.W.Frag} {j k : Nat} {T : Addr} {x y : V} {σ : L2.St} {H : Hp} {Q : L2.St → Hp → Prop} (q : Q ((σ.set j (some x)).set k (some y)) (upd H T (.tup [x, y]))) : g2 K j k (.ref T) σ (upd H T (.tup [x, y])) Q :=
  ⟨T, [x, y], rfl, SqT.of upd_same, rfl, x, [y], rfl, y, [], rfl, rfl, q⟩
theorem same_new {H : Hp} {p : Addr} {o : HO} (h : H p = none) : Same H (upd H p o) := fun b u e => by
  rw [upd_ne (ne_of_none e h)]
  exact e
/-- what H did not know may change -/
theorem same_mut {H H' : Hp} {p : Addr} {o : HO} (e : Same H H') (h : H p = none) : Same H (upd H' p o) := fun a u ha => by
  rw [upd_ne (ne_of_none ha h)]
  exact e a u ha
theorem for_enum2 {K : PySem.W.Frag} {a : Addr} {xs : List V} {j k : Nat} {tb : TS} {D : Ends} {σ : L2.St} {H : Hp} (Pv : Nat → L2.St → Hp → Prop) (h0 : Pv 0 σ H) (hq : ∀ i σ H, Pv i σ H → SqL K H a xs)
    (hs : ∀ (i : Nat) (x : V) (σ : L2.St) (H H' : Hp), xs[i]? = some x → Pv i σ H → Same H H' → tb { D with nx := Pv (i + 1), ct := Pv (i + 1), bk := D.nx } ((σ.set j (some (.int (i : Int)))).set k (some x)) H') (hd : ∀ σ H, Pv xs.length σ H → D.nx σ H) :
    ∃ W : Nat → Nat → L2.St → Hp → Prop, (∃ m, W 0 m σ H) ∧ ∀ i m σ H, W i m σ H →
      ((Ite K a).stop i H ∧ D.nx σ H) ∨ ((Ite K a).go i H ∧ ∃ N : L2.St → Hp → Prop, (∀ σ' H', N σ' H' → ∃ m', m' < m ∧ W (i + 1) m' σ' H') ∧ ∀ v H', (Ite K a).yld i H v H' → g2 K j k v σ H' fun σ2 H2 => tb { D with nx := N, ct := N, bk := D.nx } σ2 H2) := by
  refine ⟨fun i m σ H => m = xs.length - i ∧ i ≤ xs.length ∧ Pv i σ H, ⟨xs.length, rfl, Nat.zero_le _, h0⟩, ?_⟩
  rintro i m σ H ⟨rfl, hi, p⟩
  have qx := hq i σ H p
  by_cases hlt : i < xs.length
  · refine .inr ⟨⟨xs, xs[i], qx, List.getElem?_eq_getElem hlt⟩, Pv (i + 1), fun σ' H' p' => ⟨xs.length - (i + 1), by omega, rfl, hlt, p'⟩, fun v H' y => ?_⟩
    obtain ⟨T, x', rfl, hT, rfl, f1⟩ := y
    exact g2_new (hs i x' σ H _ (f1 xs qx) p (same_new hT))
  · have e : i = xs.length := by omega
    subst e
    exact .inl ⟨⟨xs, qx, Nat.le_refl _⟩, hd σ H p⟩
/-! ### comprehensions over enumerate, zip -/
theorem lc_enum {K : PySem.W.Frag} {a : Addr} {xs : List V} {g : TG} {tt : TT} {te : TE} {vs : List Nat} {σ : L2.St} {H1 : Hp} {D : Addr} {Qd : Hp → Prop} (Pv : Nat → Hp → Prop) (h0 : Pv 0 (upd H1 D (.lst []))) (hl : ∀ i H, Pv i H → SqL K H a xs)
    (hs : ∀ (i : Nat) (x : V) (T : Addr) (H : Hp), xs[i]? = some x → Pv i H → H T = none → g (.ref T) (wipe σ vs) (upd H T (.tup [.int (i : Int), x])) fun σ2 H2 => wipe σ2 vs = wipe σ vs ∧ tt σ2 H2 fun b H3 =>
      if b = true then te σ2 H3 fun y H4 => ∃ acc, H4 D = some (.lst acc) ∧ acc.length < sizeLine ∧ Pv (i + 1) (upd H4 D (.lst (acc ++ [y]))) else Pv (i + 1) H3) (hd : ∀ H, Pv xs.length H → Qd H) :
    ∃ W : Nat → Nat → Hp → Prop, (∃ m, W 0 m (upd H1 D (.lst []))) ∧ ∀ i m H, W i m H →
      ((Ite K a).stop i H ∧ Qd H) ∨ ((Ite K a).go i H ∧ ∃ Nx : Hp → Prop, (∀ H', Nx H' → ∃ m', m' < m ∧ W (i + 1) m' H') ∧ ∀ x H', (Ite K a).yld i H x H' → g x (wipe σ vs) H' fun σ2 H2 => wipe σ2 vs = wipe σ vs ∧ tt σ2 H2 fun b H3 =>
        if b = true then te σ2 H3 fun y H4 => ∃ acc, H4 D = some (.lst acc) ∧ acc.length < sizeLine ∧ Nx (upd H4 D (.lst (acc ++ [y]))) else Nx H3) := by
  refine ⟨fun i m H => m = xs.length - i ∧ i ≤ xs.length ∧ Pv i H, ⟨xs.length, rfl, Nat.zero_le _, h0⟩, ?_⟩
  rintro i m H ⟨rfl, hi, p⟩
  have qx := hl i H p
  by_cases hlt : i < xs.length
  · refine .inr ⟨⟨xs, xs[i], qx, List.getElem?_eq_getElem hlt⟩, Pv (i + 1), fun H' p' => ⟨xs.length - (i + 1), by omega, rfl, hlt, p'⟩, fun v H' y => ?_⟩
    obtain ⟨T, x', rfl, hT, rfl, f1⟩ := y
    exact hs i x' T H (f1 xs qx) p hT
  · have e : i = xs.length := by omega
    subst e
    exact .inl ⟨⟨xs, qx, Nat.le_refl _⟩, hd H p⟩
theorem lc_zip {K : PySem.W.Frag} {a b : Addr} {xs ys : List V} {g : TG} {tt : TT} {te : TE} {vs : List Nat} {σ : L2.St} {H1 : Hp} {D : Addr} {Qd : Hp → Prop} (hlen : xs.length = ys.length) (Pv : Nat → Hp → Prop) (h0 : Pv 0 (upd H1 D (.lst [])))
    (hl : ∀ i H, Pv i H → SqL K H a xs ∧ SqL K H b ys)
    (hs : ∀ (i : Nat) (x y : V) (T : Addr) (H : Hp), xs[i]? = some x → ys[i]? = some y → Pv i H → H T = none → g (.ref T) (wipe σ vs) (upd H T (.tup [x, y])) fun σ2 H2 => wipe σ2 vs = wipe σ vs ∧ tt σ2 H2 fun b H3 =>
      if b = true then te σ2 H3 fun y H4 => ∃ acc, H4 D = some (.lst acc) ∧ acc.length < sizeLine ∧ Pv (i + 1) (upd H4 D (.lst (acc ++ [y]))) else Pv (i + 1) H3) (hd : ∀ H, Pv xs.length H → Qd H) :
    ∃ W : Nat → Nat → Hp → Prop, (∃ m, W 0 m (upd H1 D (.lst []))) ∧ ∀ i m H, W i m H →
      ((Itz K a b).stop i H ∧ Qd H) ∨ ((Itz K a b).go i H ∧ ∃ Nx : Hp → Prop, (∀ H', Nx H' → ∃ m', m' < m ∧ W (i + 1) m' H') ∧ ∀ x H', (Itz K a b).yld i H x H' → g x (wipe σ vs) H' fun σ2 H2 => wipe σ2 vs = wipe σ vs ∧ tt σ2 H2 fun b H3 =>
        if b = true then te σ2 H3 fun y H4 => ∃ acc, H4 D = some (.lst acc) ∧ acc.length < sizeLine ∧ Nx (upd H4 D (.lst (acc ++ [y]))) else Nx H3) := by
  refine ⟨fun i m H => m = xs.length - i ∧ i ≤ xs.length ∧ Pv i H, ⟨xs.length, rfl, Nat.zero_le _, h0⟩, ?_⟩
  rintro i m H ⟨rfl, hi, p⟩
  obtain ⟨qx, qy⟩ := hl i H p
  by_cases hlt : i < xs.length
  · have hx : xs[i]? = some xs[i] := List.getElem?_eq_getElem hlt
    have hlt2 : i < ys.length := by omega
    have hy : ys[i]? = some ys[i] := List.getElem?_eq_getElem hlt2
    refine .inr ⟨⟨xs, ys, _, _, qx, qy, hx, hy⟩, Pv (i + 1), fun H' p' => ⟨xs.length - (i + 1), by omega, rfl, hlt, p'⟩, fun v H' y => ?_⟩
    obtain ⟨T, x', y', rfl, hT, rfl, f1, f2⟩ := y
    exact hs i x' y' T H (f1 xs qx) (f2 ys qy) p hT
  · have e : i = xs.length := by omega
    subst e
    exact .inl ⟨⟨xs, ys, qx, qy, Or.inl (Nat.le_refl _)⟩, hd H p⟩
end Sky
namespace Sky
open PySem PySem.Spec PyProof.Rows L2
/-! ### a def as it stands, a def as it is used; promises by the count of arguments -/
def Sp1 (P : V → Hp → VK → XK → Prop) : Sp := fun vs H Q E => ∃ x, vs = [x] ∧ P x H Q E
def Sp2 (P : V → V → Hp → VK → XK → Prop) : Sp := fun vs H Q E => ∃ x y, vs = [x, y] ∧ P x y H Q E
def Sp3 (P : V → V → V → Hp → VK → XK → Prop) : Sp := fun vs H Q E => ∃ x y z, vs = [x, y, z] ∧ P x y z H Q E
def Sp5 (P : V → V → V → V → V → Hp → VK → XK → Prop) : Sp := fun vs H Q E => ∃ x y z u v, vs = [x, y, z, u, v] ∧ P x y z u v H Q E
def Def (K : PySem.W.Frag) (mg : Str → Option Value) (x : Str) (ps : List Str) (st : Stmt) : Prop := ∃ (f : Addr) (fd : FuncData), mg x = some (.ref f) ∧ Fun K x x st f fd ∧ Binds K fd ps []
def Has (P : Program) (w : World) (K : PySem.W.Frag) (mg : Str → Option Value) (base : Heap) (CX : CXT) (k : Nat) (x : Str) (ps : List Str) (sp : Sp) : Prop :=
  ∃ (f : Addr) (fd : FuncData), mg x = some (.ref f) ∧ FnOk P w K mg base CX k f fd ps sp ∧ PySem.W.keepIn K (.ref f) = true ∧ Binds K fd ps []
theorem Has.mono {P : Program} {w : World} {K : PySem.W.Frag} {mg : Str → Option Value} {base : Heap} {CX : CXT} {j k : Nat} {x : Str} {ps : List Str} {sp : Sp} (h : Has P w K mg base CX j x ps sp) (l : j ≤ k) : Has P w K mg base CX k x ps sp := by
  obtain ⟨f, fd, a, b, c, d⟩ := h
  exact ⟨f, fd, a, b.mono l, c, d⟩
/-! ### the built-in names -/
theorem bt_len : bootBuiltins "len" = some (.builtin "len") := by decide +kernel
theorem bt_isinstance : bootBuiltins "isinstance" = some (.builtin "isinstance") := by decide +kernel
theorem bt_all : bootBuiltins "all" = some (.builtin "all") := by decide +kernel
theorem bt_any : bootBuiltins "any" = some (.builtin "any") := by decide +kernel
theorem bt_sum : bootBuiltins "sum" = some (.builtin "sum") := by decide +kernel
theorem bt_max : bootBuiltins "max" = some (.builtin "max") := by decide +kernel
theorem bt_min : bootBuiltins "min" = some (.builtin "min") := by decide +kernel
theorem bt_sorted : bootBuiltins "sorted" = some (.builtin "sorted") := by decide +kernel
theorem bt_int : bootBuiltins "int" = some (.type "int") := by decide +kernel
theorem bt_bool : bootBuiltins "bool" = some (.type "bool") := by decide +kernel
theorem bt_tuple : bootBuiltins "tuple" = some (.type "tuple") := by decide +kernel
theorem bt_str : bootBuiltins "str" = some (.type "str") := by decide +kernel
theorem bt_ValueError : bootBuiltins "ValueError" = some (.type "ValueError") := by decide +kernel
theorem bt_list : bootBuiltins "list" = some (.type "list") := by decide +kernel
/-- len, list(..), by names of our own -/
def rLenK (K : PySem.W.Frag) : List V → Hp → VK → Prop := fun xs H Q => ∃ p ys, xs = [.ref p] ∧ (SqL K H p ys ∨ SqT K H p ys) ∧ Q (.int (ys.length : Nat)) H
def rListK (K : PySem.W.Frag) : List V → Hp → VK → Prop := fun xs H Q => ∃ p ys, xs = [.ref p] ∧ (SqL K H p ys ∨ SqT K H p ys) ∧ ∀ l, H l = none → Q (.ref l) (upd H l (.lst ys))
theorem call_lenK {X : Cx} : CallR X (.builtin "len") (rLenK X.K) := call_len_seq
theorem call_listK {X : Cx} : CallR X (.type "list") (rListK X.K) := call_list_of
/-! ### the rules with the written part named (for a block of a comprehension) -/
section
variable {X : Cx} {K : PySem.W.Frag}
theorem ix_listK (e : X.K = K := by rfl) : IxR X (rIxL K) := e ▸ ix_list
theorem ix_tupK (e : X.K = K := by rfl) : IxR X (rIxT K) := e ▸ ix_tup
theorem isiK (e : X.K = K := by rfl) : CallR X (.builtin "isinstance") (rIsi K) := e ▸ call_isi
theorem lenK (e : X.K = K := by rfl) : CallR X (.builtin "len") (rLenK K) := e ▸ call_lenK
theorem listK (e : X.K = K := by rfl) : CallR X (.type "list") (rListK K) := e ▸ call_listK
theorem allK (hc : X.calm = true) (e : X.K = K := by rfl) : CallR X (.builtin "all") (rAll K) := e ▸ cr_all hc
theorem anyK (hc : X.calm = true) (e : X.K = K := by rfl) : CallR X (.builtin "any") (rAny K) := e ▸ cr_any hc
theorem sumK (hc : X.calm = true) (e : X.K = K := by rfl) : CallR X (.builtin "sum") (rSum K) := e ▸ cr_sum hc
theorem maxK (hc : X.calm = true) (e : X.K = K := by rfl) : CallR X (.builtin "max") (rMax K) := e ▸ cr_max hc
theorem minK (hc : X.calm = true) (e : X.K = K := by rfl) : CallR X (.builtin "min") (rMin K) := e ▸ cr_min hc
theorem sortedK (e : X.K = K := by rfl) : CallR X (.builtin "sorted") (rSorted K) := e ▸ cr_sorted
theorem sl_listK (e : X.K = K := by rfl) : SlR X (rSlL K) := e ▸ sl_list
theorem eqDK (hu : X.A.units + 64 < cLine) (e : X.K = K := by rfl) : OpR X (compareOp .Eq) (rEqD K) := e ▸ op_eqD hu
theorem neDK (hu : X.A.units + 64 < cLine) (e : X.K = K := by rfl) : OpR X (compareOp .NotEq) (rNeD K) := e ▸ op_neD hu
theorem inK (e : X.K = K := by rfl) : OpR X (compareOp .In) (rIn K false) := e ▸ op_in_seq
theorem notInK (e : X.K = K := by rfl) : OpR X (compareOp .NotIn) (rIn K true) := e ▸ op_notIn_seq
theorem pe_revLK {e : Expr} {te : TE} {k : Nat} {p1 p2 p3 pos : Pos} (he : PE X e te) (h : X.K = K := by rfl) : PE X (.Subscript e (.Slice none none (some (.UnaryOp .USub (.Constant (.int 1) k p1) p2)) p3) pos) (tRevL K te) := h ▸ pe_revL he
end
/-! ### isinstance with a built-in type -/
theorem q_isi {K : PySem.W.Frag} {H : Hp} {x : V} {t T : String} {b : Bool} {Q : VK} (ty : TyX K H x (.type t)) (hk : kitB t T = some b) (q : Q (.bl b) H) : rIsi K [x, .ty T] H Q :=
  ⟨x, .ty T, .type t, .type T, b, rfl, .ty T, ty, kit_ty hk, q⟩
theorem kb_ii : kitB "int" "int" = some true := by decide +kernel
theorem kb_ib : kitB "int" "bool" = some false := by decide +kernel
theorem kb_ll : kitB "list" "list" = some true := by decide +kernel
theorem kb_tt : kitB "tuple" "tuple" = some true := by decide +kernel
theorem kb_bb : kitB "bool" "bool" = some true := by decide +kernel
theorem kb_bi : kitB "bool" "int" = some true := by decide +kernel
theorem tyx_int {K : PySem.W.Frag} {H : Hp} {i : Int} : TyX K H (.int i) (.type "int") := .base (.int i)
theorem tyx_bl {K : PySem.W.Frag} {H : Hp} {b : Bool} : TyX K H (.bl b) (.type "bool") := .base (.bl b)
theorem tyx_list {K : PySem.W.Frag} {H : Hp} {a : Addr} {xs : List V} (h : SqL K H a xs) : TyX K H (.ref a) (.type "list") := by
  rcases h with (h | ⟨o, h⟩) | ⟨o, its, n, hk, hc, _⟩
  · exact .base (.lst h)
  · exact .base (.frz h)
  · exact .kList hk hc
theorem tyx_tup {K : PySem.W.Frag} {H : Hp} {a : Addr} {xs : List V} (h : SqT K H a xs) : TyX K H (.ref a) (.type "tuple") := by
  rcases h with (h | ⟨o, h⟩) | ⟨o, its, n, hk, hc, _⟩
  · exact .base (.tup h)
  · exact .fTuple h
  · exact .kTuple hk hc
/-! ### a test whose answer is known -/
theorem ifT {c : Bool} {A B : Prop} (hc : c = true) (h : A) : if c = true then A else B := by
  rw [if_pos hc]
  exact h
theorem ifF {c : Bool} {A B : Prop} (hc : c = false) (h : B) : if c = true then A else B := by
  rw [hc, if_neg Bool.false_ne_true]
  exact h
theorem same_seqT {K : PySem.W.Frag} {H H' : Hp} {a : Addr} {xs : List V} (e : Same H H') (h : SqT K H a xs) : SqT K H' a xs := by
  rcases h with (h | ⟨o, h⟩) | h
  · exact .inl (.inl (e _ _ h))
  · exact .inl (.inr ⟨o, e _ _ h⟩)
  · exact .inr h
end Sky

/-! Mx: max(xs, default=d) of a list of whole numbers, by our own walk of the built-in's loop with its keyword carried. -/
namespace SkyMx
open PySem PySem.Spec PyProof.Rows
section
variable {prog : Program} {w : World} {A : Around} {R : Result → Shared → Prop} {I : Addr} {fp wr : List Addr} {n : Nat} {P : Nat → Value → Prop} {St : Nat → Heap → Prop} {kw : List (Str × Value)}
theorem nameMx : (toString "max" ++ toString ".loop" : String) = "max.loop" := by decide
/-- what the loop's end is to give -/
abbrev MxEnd (bt : Nat → Nat → Bool) (n : Nat) (P : Nat → Value → Prop) (wr : List Addr) (S : Addr) (R : Result → Shared → Prop) (s : Shared) : Prop :=
  ∀ v h' tk, P (argBest bt (n - 1)) v → (∀ b o, b ∉ wr → b ≠ S → s.heap.get? b = some o → h'.get? b = some o) → R (.ok (.ret v)) { s with heap := h', toks := tk }
theorem mx_loop (W : Walks prog w A.in1 I fp wr n P St) (bt : Nat → Nat → Bool) (hcmp : CmpOf prog w A.in1 .Gt P bt) (S : Addr) (hSf : S ∉ fp) :
    ∀ (k j : Nat) (s : Shared) (vb : Value) (c : Nat), n - (j + 1) = k → j + 1 ≤ n → St (j + 1) s.heap → P (argBest bt j) vb →
      s.heap.get? S = some { cls := .type "list", dict := none, data := .seq #[vb, vb] c, slots := #[] } → MxEnd bt n P wr S R s →
      codeAny (model prog w) A (.builtin "max.loop" ⟨[.ref I, .none, .ref S], kw⟩) R s := by
  have hSw : S ∉ wr := fun q => hSf (W.sub _ q)
  intro k
  induction k with
  | zero =>
    intro j s vb c hk hj hst hb hS hR
    have hin : j + 1 = n := by omega
    refine codeAny_builtin F.entry_max_loop ?_
    rw [Around.under_plainId F.plain_max_loop _]
    show wpAny (model prog w) A.in1 (seqItems? (.ref S) >>= fun _ => _) (fun _ => _) _ s
    refine wpAny_bind (wpAny_seqItems hS rfl ?_)
    show wpAny (model prog w) A.in1 (tryCatch (pyNext (.ref I)) (fun _ => _) >>= fun _ => _) (fun _ => _) _ s
    refine wpAny_bind (wpAny_tryCatch (W.done s _ _ (hin ▸ hst) fun h' tk keep => ?_))
    have hS2 := keep S _ hSw hS
    show wpAny (model prog w) A.in1 (updateSeq S (fun _ => #[]) >>= fun _ => _) (fun _ => _) _ _
    refine wpAny_bind (wpAny_updateSeq hS2 rfl (wpAny_bind (wpAny_letGo (wpAny_pure ?_))))
    exact hR vb _ tk (by rw [← hin]; exact hb) fun b o hbw hbS e => (Heap.get?_update_other _ _ (Ne.symm hbS)).trans (keep b o hbw e)
  | succ k ih =>
    intro j s vb c hk hj hst hb hS hR
    have hlt : j + 1 < n := by omega
    refine codeAny_builtin F.entry_max_loop ?_
    rw [Around.under_plainId F.plain_max_loop _]
    show wpAny (model prog w) A.in1 (seqItems? (.ref S) >>= fun _ => _) (fun _ => _) _ s
    refine wpAny_bind (wpAny_seqItems hS rfl ?_)
    show wpAny (model prog w) A.in1 (tryCatch (pyNext (.ref I)) (fun _ => _) >>= fun _ => _) (fun _ => _) _ s
    refine wpAny_bind (wpAny_tryCatch (W.item (j + 1) s _ _ hlt hst fun v h' tk hP st2 keep => ?_))
    have hS2 := keep S _ hSw hS
    show wpAny (model prog w) A.in1 (tryCatch (holding [v, v] (richCompare .Gt v vb >>= fun _ => _)) (fun _ => _) >>= fun _ => _) (fun _ => _) _ _
    refine wpAny_bind (wpAny_tryCatch (wpAny_holding (wpAny_bind (hcmp (j + 1) (argBest bt j) v vb _ _ _ hP hb (wpAny_bind (wpAny_holding (wpAny_truthy_bool (wpAny_bind (wpAny_letGo (wpAny_pure ?_))))))))))
    cases hbt : bt (j + 1) (argBest bt j) with
    | true =>
      rw [if_pos rfl]
      refine wpAny_bind (wpAny_updateSeq hS2 rfl (wpAny_bind (wpAny_letGo ?_)))
      rw [nameMx]
      refine wpAny_pure ⟨plainId_quiet F.plain_max_loop _, ih (j + 1) _ v _ (by omega) hlt (W.frame _ _ _ st2 fun b hbf o e => ?_) (by simp only [argBest, hbt, if_true]; exact hP) (Heap.get?_update_self _ hS2 rfl) fun v2 h2 tk2 hP2 keep2 => ?_⟩
      · exact (Heap.get?_update_other _ _ (fun q : S = b => hSf (by rw [q]; exact hbf))).trans e
      · exact hR v2 h2 tk2 hP2 fun b o hbw hbS e => keep2 b o hbw hbS ((Heap.get?_update_other _ _ (Ne.symm hbS)).trans (keep b o hbw e))
    | false =>
      rw [if_neg Bool.false_ne_true]
      refine wpAny_bind (wpAny_letGo ?_)
      rw [nameMx]
      refine wpAny_pure ⟨plainId_quiet F.plain_max_loop _, ih (j + 1) _ vb c (by omega) hlt st2 (by simp only [argBest, hbt, Bool.false_eq_true, if_false]; exact hb) hS2 fun v2 h2 tk2 hP2 keep2 => ?_⟩
      exact hR v2 h2 tk2 hP2 fun b o hbw hbS e => keep2 b o hbw hbS (keep b o hbw e)
theorem mx_first (W : Walks prog w A.in1 I fp wr n P St) (bt : Nat → Nat → Bool) (hcmp : CmpOf prog w A.in1 .Gt P bt) (S : Addr) (hSf : S ∉ fp) (hn : 0 < n) {s : Shared} {c : Nat} (hst : St 0 s.heap)
    (hS : s.heap.get? S = some { cls := .type "list", dict := none, data := .seq #[] c, slots := #[] }) (hR : MxEnd bt n P wr S R s) :
    codeAny (model prog w) A (.builtin "max.loop" ⟨[.ref I, .none, .ref S], kw⟩) R s := by
  have hSw : S ∉ wr := fun q => hSf (W.sub _ q)
  refine codeAny_builtin F.entry_max_loop ?_
  rw [Around.under_plainId F.plain_max_loop _]
  show wpAny (model prog w) A.in1 (seqItems? (.ref S) >>= fun _ => _) (fun _ => _) _ s
  refine wpAny_bind (wpAny_seqItems hS rfl ?_)
  show wpAny (model prog w) A.in1 (tryCatch (pyNext (.ref I)) (fun _ => _) >>= fun _ => _) (fun _ => _) _ s
  refine wpAny_bind (wpAny_tryCatch (W.item 0 s _ _ hn hst fun v h' tk hP st2 keep => ?_))
  have hS2 := keep S _ hSw hS
  show wpAny (model prog w) A.in1 (updateSeq S (fun _ => #[v, v]) >>= fun _ => _) (fun _ => _) _ _
  refine wpAny_bind (wpAny_updateSeq hS2 rfl ?_)
  rw [nameMx]
  refine wpAny_pure ⟨plainId_quiet F.plain_max_loop _, mx_loop W bt hcmp S hSf _ 0 _ v _ rfl hn (W.frame _ _ _ st2 fun b hbf o e => ?_) hP (Heap.get?_update_self _ hS2 rfl) fun v2 h2 tk2 hP2 keep2 => ?_⟩
  · exact (Heap.get?_update_other _ _ (fun q : S = b => hSf (by rw [q]; exact hbf))).trans e
  · exact hR v2 h2 tk2 hP2 fun b o hbw hbS e => keep2 b o hbw hbS ((Heap.get?_update_other _ _ (Ne.symm hbS)).trans (keep b o hbw e))
/-- nothing walked: the default -/
theorem mx_none (W : Walks prog w A.in1 I fp wr 0 P St) (S : Addr) {nm : Str} {d : Value} {s : Shared} {c : Nat} (hst : St 0 s.heap)
    (hS : s.heap.get? S = some { cls := .type "list", dict := none, data := .seq #[] c, slots := #[] })
    (hR : ∀ h' tk, (∀ b o, b ∉ wr → s.heap.get? b = some o → h'.get? b = some o) → R (.ok (.ret d)) { s with heap := h', toks := tk }) :
    codeAny (model prog w) A (.builtin "max.loop" ⟨[.ref I, .none, .ref S], [(nm, d)]⟩) R s := by
  refine codeAny_builtin F.entry_max_loop ?_
  rw [Around.under_plainId F.plain_max_loop _]
  show wpAny (model prog w) A.in1 (seqItems? (.ref S) >>= fun _ => _) (fun _ => _) _ s
  refine wpAny_bind (wpAny_seqItems hS rfl ?_)
  show wpAny (model prog w) A.in1 (tryCatch (pyNext (.ref I)) (fun _ => _) >>= fun _ => _) (fun _ => _) _ s
  refine wpAny_bind (wpAny_tryCatch (W.done s _ _ hst fun h' tk keep => ?_))
  show wpAny (model prog w) A.in1 (rule _ >>= fun _ => _) (fun _ => _) _ _
  refine wpAny_bind (wpAny_rule (wpAny_pure ?_))
  exact hR h' tk keep
end
theorem argsMx (a v : Value) : argsOk "max" ⟨[a], [(Str.ofString "default", v)]⟩ := by unfold argsOk; kernel_rfl
section
variable {prog : Program} {w : World} {A : Around} {E : Value → Shared → Prop} {s : Shared} {l : Addr} {its : List Value} {ns : List Int} {Q : Value → Shared → Prop} {d : Value}
theorem mx_raw (hh : A.handled = none) (hl : s.heap.IsList l its.toArray) (hi : IntsAre its ns)
    (h0 : ns = [] → ∀ h' tk, (∀ b o, s.heap.get? b = some o → h'.get? b = some o) → Q d { s with heap := h', toks := tk })
    (h1 : ∀ h' tk M t', (∀ b o, s.heap.get? b = some o → h'.get? b = some o) → M ∈ ns → (∀ a, a ∈ ns → a ≤ M) → Q (.int M t') { s with heap := h', toks := tk }) :
    wpAny (model prog w) A (call (.builtin "max") [.ref l] [(Str.ofString "default", d)]) Q E s := by
  obtain ⟨xs, e⟩ := hi.allInts.items
  have hn : numsOf (intItems xs).toList = ns := by rw [← e]; exact hi.numsOf
  rw [nums_intItems] at hn
  rw [e] at hl
  refine PyProof.Rows.kmk_tree F.kind_max F.plain_max F.entry_max (argsMx _ _) ?_
  show wpAny (model prog w) A.in1 (Builtin.Builtins.bindParams "max" ["key", "default"] 0 ⟨[], [(Str.ofString "default", d)]⟩ >>= fun _ => _) (fun _ => _) _ s
  refine wpAny_bind (wpAny_of_eq (show Builtin.Builtins.bindParams "max" ["key", "default"] 0 ⟨[], [(Str.ofString "default", d)]⟩ = pure [none, some d] from rfl) ?_)
  refine wpAny_bind (wpAny_pure (wpAny_bind (iter_intList hl fun s2 e2 st hfp hlI => ?_)))
  subst e2
  refine wpAny_bind (wpAny_newObj_type ?_)
  rw [nameMx]
  have W := Walks.list (prog := prog) (w := w) (A := A.in1) hh s.heap.objs.size l hlI (intItems xs)
  have hSf : (s.heap.push { cls := .type "list_iterator", data := .fields #[.ref l, .int 0 0] }).objs.size ∉ [s.heap.objs.size, l] := fun q => Nat.lt_irrefl _ (hfp _ q)
  have sz : (s.heap.push { cls := .type "list_iterator", data := .fields #[.ref l, .int 0 0] }).objs.size = s.heap.objs.size + 1 := Heap.size_push ..
  have st' := W.frame _ _ (((s.heap.push { cls := .type "list_iterator", data := .fields #[.ref l, .int 0 0] }).push { cls := .type "list", data := .seq ([] : List Value).toArray })) st fun b _ o q => Heap.get?_push_of_some _ q
  have hSn : ((s.heap.push { cls := .type "list_iterator", data := .fields #[.ref l, .int 0 0] }).push { cls := .type "list", data := .seq ([] : List Value).toArray }).get? (s.heap.push { cls := .type "list_iterator", data := .fields #[.ref l, .int 0 0] }).objs.size = some { cls := .type "list", dict := none, data := .seq #[] 0, slots := #[] } := Heap.get?_push_size _ rfl
  have old : ∀ b o, s.heap.get? b = some o → b ∉ [s.heap.objs.size] ∧ b ≠ (s.heap.push { cls := .type "list_iterator", data := .fields #[.ref l, .int 0 0] }).objs.size ∧ ((s.heap.push { cls := .type "list_iterator", data := .fields #[.ref l, .int 0 0] }).push { cls := .type "list", data := .seq ([] : List Value).toArray }).get? b = some o := fun b o q => by
    have lt := Heap.lt_size q
    refine ⟨fun z => ?_, ?_, Heap.get?_push_of_some _ (Heap.get?_push_of_some _ q)⟩
    · exact absurd (List.mem_singleton.mp z) (Nat.ne_of_lt lt)
    · rw [sz]
      exact Nat.ne_of_lt (Nat.lt_succ_of_lt lt)
  rcases Nat.eq_zero_or_pos (intItems xs).size with hz | hz
  · have hxz : xs.size = 0 := by simpa [intItems] using hz
    have hnil : ns = [] := by
      rw [← hn]
      apply List.eq_nil_of_length_eq_zero
      rw [List.length_map, Array.length_toList, hxz]
    refine wpAny_pure ⟨plainId_quiet F.plain_max_loop _, ?_⟩
    generalize hI : intItems xs = its2 at W st' hz
    rw [hz] at W
    exact mx_none W _ st' hSn fun h' tk keep => h0 hnil h' tk fun b o q => keep b o (old b o q).1 (old b o q).2.2
  · refine wpAny_pure ⟨plainId_quiet F.plain_max_loop _, mx_first W _ (CmpOf.ints_gt (numAt xs) (fun _ _ => intItems_at)) _ hSf hz st' hSn fun v h' tk hP keep => ?_⟩
    have hsz : (intItems xs).size = xs.size := by simp [intItems]
    rw [hsz] at hP hz
    have hP' : (intItems xs)[argBest (fun i j => decide (numAt xs i > numAt xs j)) (xs.size - 1)]? = some v := hP
    obtain ⟨t, rfl⟩ := intItems_at hP'
    obtain ⟨b1, b2⟩ := argBest_gt (numAt xs) (xs.size - 1)
    subst hn
    refine h1 h' tk _ t (fun b o q => keep b o (old b o q).1 (old b o q).2.1 (old b o q).2.2) ?_ fun a ha => ?_
    · rw [numAt_eq]
      exact PySem.getD_mem (by rw [List.length_map, Array.length_toList]; omega)
    · obtain ⟨j, hj, rfl⟩ := mem_getD ha
      rw [List.length_map, Array.length_toList] at hj
      rw [← numAt_eq]
      exact b2 j (by omega)
end
end SkyMx
namespace Sky
open PySem PySem.Spec PyProof.Rows L2
/-- max(xs, default=d): the greatest, or the default where there is none -/
def rMaxD (K : PySem.W.Frag) : List V → List V → Hp → VK → Prop := fun vs zs H Q => ∃ (a : Addr) (ns : List Int) (d : Int), vs = [V.ref a] ∧ zs = [.int d] ∧ SqL K H a (ns.map V.int) ∧ (ns = [] → Q (.int d) H) ∧ ∀ m, m ∈ ns → (∀ y, y ∈ ns → y ≤ m) → Q (.int m) H
theorem cr_maxD {X : Cx} (hc : X.calm = true) : CallRK X (.builtin "max") [Str.ofString "default"] (rMaxD X.K) := by
  intro pins s σ H vs zs us ws Q I r rz h
  obtain ⟨a, ns, d, rfl, rfl, hs, q0, q1⟩ := h
  obtain ⟨its, rv, hl, _⟩ := I.list hs
  rw [Vals.ref1 r]
  obtain ⟨u, rfl, ru⟩ := vals1 rz
  exact SkyMx.mx_raw (I.ok.hd hc) hl.isList rv.ints (fun e h' tk hk => ⟨.int d, H, I.kept hk, ru, q0 e⟩) fun h' tk m t' hk h1 h2 => ⟨.int m, H, I.kept hk, ⟨_, rfl⟩, q1 m h1 h2⟩
theorem maxDK {X : Cx} {K : PySem.W.Frag} (hc : X.calm = true) (e : X.K = K := by rfl) : CallRK X (.builtin "max") [Str.ofString "default"] (rMaxD K) := e ▸ cr_maxD hc
end Sky

/-! Rx: a reading brought to plain words by simp: each word of the layer as one equation; what is left is answered by the q_-lemmas. -/
namespace Sky
open PySem PySem.Spec PyProof.Rows L2
section
variable {σ : L2.St} {H : Hp} {Q : VK} {R : Bool → Hp → Prop} {RA : List V → Hp → Prop} {D : Ends} {t u : TS} {te ta tb tc : TE} {c c' : TT} {x y z : V} {r r' : R2} {i j k : Nat} {tl : TA} {K : PySem.W.Frag} {QS : L2.St → Hp → Prop} {T : String}
theorem e_seq : tSeq t u D σ H = t { D with nx := u D } σ H := rfl
theorem e_asg {gt : TG} : tAsg te gt D σ H = te σ H (fun v H1 => gt v σ H1 D.nx) := rfl
theorem e_name : gName i x σ H QS = QS (σ.set i (some x)) H := rfl
theorem e_drop : tDrop te D σ H = te σ H (fun _ H1 => D.nx σ H1) := rfl
theorem e_ret : tRet te D σ H = te σ H D.rt := rfl
theorem e_retN : tRetN D σ H = D.rt .non H := rfl
theorem e_ifs : tIfS c t u D σ H = c σ H (fun b H1 => if b = true then t D σ H1 else u D σ H1) := rfl
/-- a statement, then the rest, a word between them said once -/
def tMid (t u : TS) : TS := fun D σ H => ∃ Mid : L2.St → Hp → Prop, t { D with nx := Mid } σ H ∧ ∀ σ' H', Mid σ' H' → u D σ' H'
theorem pss_mid {X : Cx} {st : Stmt} {rest : List Stmt} {t u : TS} (h1 : PS X st t) (h2 : PSs X rest u) : PSs X (st :: rest) (tMid t u) := by
  refine ⟨fun pins s σ H D I h => ?_⟩
  obtain ⟨Mid, hm, hu⟩ := h
  refine wpAny_execs_cons (thn (h1.run pins s σ H { D with nx := Mid } I hm) fun f s1 q => ?_)
  cases f with
  | next =>
    obtain ⟨σ', H', I', q'⟩ := q
    exact h2.run pins s1 σ' H' D I' (hu σ' H' q')
  | ret v => exact q
  | brk => exact q
  | cont => exact q
theorem q_mid (Mid : L2.St → Hp → Prop) (h : t { D with nx := Mid } σ H) (k : ∀ σ' H', Mid σ' H' → u D σ' H') : tMid t u D σ H := ⟨Mid, h, k⟩
theorem e_next : tNext D σ H = D.nx σ H := rfl
theorem e_var : tVar i σ H Q = ∃ v, σ[i]? = some (some v) ∧ Q v H := rfl
theorem e_c : tC x σ H Q = Q x H := rfl
theorem e_op : tOp r ta tb σ H Q = ta σ H (fun v H1 => tb σ H1 fun w H2 => r v w H2 Q) := rfl
theorem e_un {r : V → Hp → VK → Prop} : tUn r ta σ H Q = ta σ H (fun v H1 => r v H1 Q) := rfl
theorem e_rI0 {f : Int → Int → V} {a b : Int} : rI0 f (.int a) (.int b) H Q = Q (f a b) H := by simp [rI0]
theorem e_rI {C : Int → Int → Prop} {f : Int → Int → V} {a b : Int} : rI C f (.int a) (.int b) H Q = (C a b ∧ Q (f a b) H) := by simp [rI]
theorem e_rU {f : Int → V} {a : Int} : rU f (.int a) H Q = Q (f a) H := by simp [rU]
theorem e_test : tTest te σ H R = te σ H (fun v H1 => ∃ b, v = .bl b ∧ R b H1) := rfl
theorem e_B : tB te σ H R = te σ H (fun v H1 => ∃ b, v = .bl b ∧ R b H1) := rfl
theorem e_bl {P : Bool → Prop} {b : Bool} : (∃ b', V.bl b = V.bl b' ∧ P b') = P b := by simp
theorem start_is {N : List Str} {vs : List V} {σ : L2.St} {t : TS} {D : Ends} {H : Hp} (e : L2.start N vs = σ) (h : t D σ H) : t D (L2.start N vs) H := by
  rw [e]
  exact h
theorem e_K {CX : CXT} {P : Program} {w : World} {K : PySem.W.Frag} {mg : Str → Option Value} {base : Heap} {N : List Str} {q : Str} {sc : Scope} {f : Addr} {cd : Value} {A : Around} {o : List Env} {s : Shared} {H : Hp} {E : XK} : (cxOf CX P w K mg base N q sc f cd A o s H E).K = K := rfl
theorem e_and : tAnd c c' σ H R = c σ H (fun b H1 => if b = true then c' σ H1 R else R false H1) := rfl
theorem e_or : tOr c c' σ H R = c σ H (fun b H1 => if b = true then R true H1 else c' σ H1 R) := rfl
theorem e_not : tNot c σ H R = c σ H (fun b H1 => R (!b) H1) := rfl
theorem e_andV : tAndV ta tb σ H Q = ta σ H (fun v H1 => ∃ b, v = .bl b ∧ if b = true then tb σ H1 Q else Q (.bl false) H1) := rfl
theorem e_orV : tOrV ta tb σ H Q = ta σ H (fun v H1 => ∃ b, v = .bl b ∧ if b = true then Q (.bl true) H1 else tb σ H1 Q) := rfl
theorem e_notV : tNotV ta σ H Q = ta σ H (fun v H1 => ∃ b, v = .bl b ∧ Q (.bl (!b)) H1) := rfl
theorem e_if : tIf c ta tb σ H Q = c σ H (fun b H1 => if b = true then ta σ H1 Q else tb σ H1 Q) := rfl
theorem e_CB {f : List V → Hp → VK → Prop} : tCB f tl σ H Q = tl σ H (fun vs H1 => f vs H1 Q) := rfl
theorem e_CKw {f : List V → List V → Hp → VK → Prop} {tk : TA} : tCKw f tl tk σ H Q = tl σ H (fun vs H1 => tk σ H1 fun zs H2 => f vs zs H2 Q) := rfl
theorem e_cons : tCons ta tl σ H RA = ta σ H (fun v H1 => tl σ H1 fun vs H2 => RA (v :: vs) H2) := rfl
theorem e_nil : tNil σ H RA = RA [] H := rfl
theorem e_call {sp : Sp} {dvs : List V} {E : XK} : tCall sp dvs E tl σ H Q = tl σ H (fun vs H1 => sp (vs ++ dvs) H1 Q E) := rfl
theorem e_chn {ct : V → TE} : tChn ta ct σ H Q = ta σ H (fun v H1 => ct v σ H1 Q) := rfl
theorem e_cCons {ct : V → TE} : cCons r tb ct x σ H Q = tb σ H (fun y H2 => r x y H2 fun z H3 => ∃ b, z = .bl b ∧ (if b = true then ct y σ H3 Q else Q (.bl false) H3)) := rfl
theorem e_cOne : cOne r tc x σ H Q = tc σ H (fun y H2 => r x y H2 Q) := rfl
theorem e_BM {f : V → List V → Hp → VK → Prop} : tBM K T f ta tl σ H Q = ta σ H (fun v H1 => tyV K T v H1 ∧ tl σ H1 fun vs H2 => f v vs H2 Q) := rfl
theorem e_BM0 {f : V → List V → Hp → VK → Prop} : tBM0 K T f ta σ H Q = ta σ H (fun v H1 => tyV K T v H1 ∧ f v [] H1 Q) := rfl
theorem e_sub {s : TSet} : gSub ta tb s x σ H QS = ta σ H (fun o H1 => tb σ H1 fun w H2 => s o w x H2 fun H3 => QS σ H3) := rfl
theorem e_par : tPar i j tl D σ H = tl σ H (fun vs H1 => ∃ v w, vs = [v, w] ∧ D.nx ((σ.set i (some v)).set j (some w)) H1) := rfl
theorem e_ls {f : TO} {gt : TO} {s : V → Option Int → Option Int → Hp → VK → Prop} : tSl s te f gt σ H Q = te σ H (fun v H1 => f σ H1 fun l H2 => gt σ H2 fun w H3 => s v l w H3 Q) := rfl
theorem e_noP {QO : Option Int → Hp → Prop} : tNoPart σ H QO = QO none H := rfl
theorem e_part {QO : Option Int → Hp → Prop} : tPart te σ H QO = te σ H (fun v H1 => ∃ n, v = .int n ∧ QO (some n) H1) := rfl
theorem e_intx {P : Int → Prop} {a : Int} : (∃ n, V.int a = V.int n ∧ P n) = P a := by simp
theorem e_refx {P : Addr → Prop} {a : Addr} : (∃ n, V.ref a = V.ref n ∧ P n) = P a := by simp
theorem e_yes : tYes σ H R = R true H := rfl
theorem e_get0 {α : Type} {a : α} {l : List α} : (a :: l)[0]? = some a := rfl
theorem e_getS {α : Type} {a : α} {l : List α} {n : Nat} : (a :: l)[n + 1]? = l[n]? := rfl
theorem e_sl {P : V → Prop} {v : V} : (∃ w, (some (some v) : Option (Option V)) = some (some w) ∧ P w) = P v := by simp
end
end Sky

/-! Ma: plain mathematics of bars: nearest lower ones, reaches, the shown. -/
namespace Sky
def Good (bs : List Int) : Prop := ∀ b ∈ bs, 0 ≤ b ∧ b ≤ 10000000
theorem Good.at {bs : List Int} (h : Good bs) {i : Nat} (hi : i < bs.length) : 0 ≤ g bs i ∧ g bs i ≤ 10000000 := by
  have e : g bs i = bs[i] := by simp [g, hi]
  rw [e]
  exact h _ (List.getElem_mem hi)
theorem Good.rev {bs : List Int} (h : Good bs) : Good bs.reverse := fun b hb => h b (List.mem_reverse.mp hb)
theorem g_rev {bs : List Int} {i : Nat} (hi : i < bs.length) : g bs.reverse i = g bs (bs.length - 1 - i) := by
  unfold g
  rw [List.getD_eq_getElem?_getD, List.getD_eq_getElem?_getD, List.getElem?_reverse hi]
/-- from n - 1 downwards the first place that is lower than v, or -1 -/
def down (bs : List Int) (v : Int) : Nat → Int
  | 0 => -1
  | n + 1 => if v ≤ g bs n then down bs v n else (n : Int)
theorem down_ge (bs : List Int) (v : Int) : ∀ n, -1 ≤ down bs v n
  | 0 => Int.le_refl _
  | n + 1 => by
    unfold down
    have := down_ge bs v n
    split <;> omega
theorem down_lt (bs : List Int) (v : Int) : ∀ n : Nat, down bs v n < n
  | 0 => by unfold down; omega
  | n + 1 => by
    unfold down
    have := down_lt bs v n
    split <;> omega
/-- what it is: none between is lower -/
theorem down_between (bs : List Int) (v : Int) : ∀ (n k : Nat), k < n → down bs v n < k → v ≤ g bs k
  | 0, k, h, _ => by omega
  | n + 1, k, h, h2 => by
    unfold down at h2
    by_cases c : v ≤ g bs n
    · rw [if_pos c] at h2
      by_cases e : k = n
      · subst e; exact c
      · exact down_between bs v n k (by omega) h2
    · rw [if_neg c] at h2
      omega
theorem down_low (bs : List Int) (v : Int) : ∀ (n k : Nat), down bs v n = (k : Int) → g bs k < v
  | 0, k, h => by unfold down at h; omega
  | n + 1, k, h => by
    unfold down at h
    by_cases c : v ≤ g bs n
    · rw [if_pos c] at h
      exact down_low bs v n k h
    · rw [if_neg c] at h
      have e : n = k := by omega
      subst e
      omega
theorem down_step {bs : List Int} {v : Int} {n : Nat} (h : v ≤ g bs n) : down bs v (n + 1) = down bs v n := if_pos h
theorem down_stop {bs : List Int} {v : Int} {n : Nat} (h : g bs n < v) : down bs v (n + 1) = (n : Int) := if_neg (by omega)
/-- it is told by its marks -/
theorem down_of {bs : List Int} {v : Int} {n : Nat} {d : Int} (h1 : -1 ≤ d) (h2 : d < n) (h3 : 0 ≤ d → g bs d.toNat < v) (h4 : ∀ k : Nat, d < k → k < n → v ≤ g bs k) : down bs v n = d := by
  induction n with
  | zero => unfold down; omega
  | succ n ih =>
    by_cases c : d = n
    · have := h3 (by omega)
      have e : d.toNat = n := by omega
      rw [e] at this
      rw [down_stop this, c]
    · rw [down_step (h4 n (by omega) (by omega))]
      exact ih (by omega) fun k a b => h4 k a (by omega)
def link (bs : List Int) (i : Nat) : Int := down bs (g bs i) i
def links (bs : List Int) : List Int := (List.range bs.length).map (link bs)
theorem links_len (bs : List Int) : (links bs).length = bs.length := by simp [links]
theorem links_at {bs : List Int} {i : Nat} (h : i < bs.length) : (links bs).getD i 0 = link bs i := by simp [links, h]
theorem take_map_range {α : Type} (f : Nat → α) : ∀ {n i : Nat}, i < n → ((List.range n).map f).take (i + 1) = ((List.range n).map f).take i ++ [f i] := fun {n i} h => by
  rw [List.take_add_one, List.getElem?_map, List.getElem?_range h]
  rfl
theorem take_map_all {α : Type} (f : Nat → α) (n : Nat) : ((List.range n).map f).take n = (List.range n).map f := List.take_of_length_le (by simp)
/-! ### the stack -/
def hd : List Nat → Int
  | [] => -1
  | j :: _ => (j : Int)
def pop (bs : List Int) (v : Int) (st : List Nat) : List Nat := st.dropWhile fun j => decide (v ≤ g bs j)
theorem pop_nil (bs : List Int) (v : Int) : pop bs v [] = [] := rfl
theorem pop_yes {bs : List Int} {v : Int} {j : Nat} {st : List Nat} (h : v ≤ g bs j) : pop bs v (j :: st) = pop bs v st := by simp [pop, List.dropWhile_cons, h]
theorem pop_no {bs : List Int} {v : Int} {j : Nat} {st : List Nat} (h : g bs j < v) : pop bs v (j :: st) = j :: st := by
  have : ¬ v ≤ g bs j := by omega
  simp [pop, List.dropWhile_cons, this]
theorem pop_sub (bs : List Int) (v : Int) : ∀ (st : List Nat) {j : Nat}, j ∈ pop bs v st → j ∈ st
  | [], j, h => by simp [pop] at h
  | k :: st, j, h => by
    by_cases c : v ≤ g bs k
    · rw [pop_yes c] at h
      exact List.mem_cons_of_mem _ (pop_sub bs v st h)
    · rw [pop_no (by omega)] at h
      exact h
theorem pop_pop {bs : List Int} {v u : Int} (h : v ≤ u) : ∀ st : List Nat, pop bs v (pop bs u st) = pop bs v st
  | [] => rfl
  | k :: st => by
    by_cases c : u ≤ g bs k
    · rw [pop_yes c, pop_yes (by omega : v ≤ g bs k)]
      exact pop_pop h st
    · rw [pop_no (show g bs k < u by omega)]
structure SInv (bs : List Int) (i : Nat) (st : List Nat) : Prop where
  dn : ∀ v, down bs v i = hd (pop bs v st)
  lt : ∀ j ∈ st, j < i
theorem sinv0 (bs : List Int) : SInv bs 0 [] := ⟨fun _ => rfl, by simp⟩
theorem SInv.step {bs : List Int} {i : Nat} {st : List Nat} (h : SInv bs i st) : SInv bs (i + 1) (i :: pop bs (g bs i) st) := by
  refine ⟨fun v => ?_, fun j hj => ?_⟩
  · by_cases c : v ≤ g bs i
    · rw [down_step c, pop_yes c, pop_pop c]
      exact h.dn v
    · rw [down_stop (by omega), pop_no (by omega)]
      rfl
  · rcases List.mem_cons.mp hj with e | e
    · omega
    · have := h.lt j (pop_sub _ _ _ e)
      omega
/-- the stack as a list, its top last -/
def stI (st : List Nat) : List Int := st.reverse.map fun (n : Nat) => (n : Int)
theorem stI_cons (j : Nat) (st : List Nat) : stI (j :: st) = stI st ++ [(j : Int)] := by simp [stI]
theorem stI_nil : stI [] = [] := rfl
theorem stI_len (st : List Nat) : (stI st).length = st.length := by simp [stI]
theorem stI_cons_ne (j : Nat) (st : List Nat) : stI (j :: st) ≠ [] := by simp [stI]
/-! ### behind -/
def behind (bs : List Int) (i : Nat) : Int := (bs.length : Int) - 1 - link bs.reverse (bs.length - 1 - i)
def behinds (bs : List Int) : List Int := (List.range bs.length).map (behind bs)
theorem behinds_len (bs : List Int) : (behinds bs).length = bs.length := by simp [behinds]
theorem behinds_at {bs : List Int} {i : Nat} (h : i < bs.length) : (behinds bs).getD i 0 = behind bs i := by simp [behinds, h]
theorem behinds_eq (bs : List Int) : ((links bs.reverse).map fun p => (bs.length : Int) - 1 - p).reverse = behinds bs := by
  apply List.ext_getElem?
  intro i
  by_cases h : i < bs.length
  · rw [List.getElem?_reverse (by simpa [links] using h)]
    simp only [links, behinds, List.length_map, List.length_range, List.length_reverse, List.getElem?_map]
    rw [List.getElem?_range (by omega), List.getElem?_range h]
    rfl
  · rw [List.getElem?_eq_none (by simp [links]; omega), List.getElem?_eq_none (by simp [behinds]; omega)]
def reach (bs : List Int) (i : Nat) : Int × Int := (link bs i + 1, behind bs i - 1)
def reachL (bs : List Int) : List (Int × Int) := (List.range bs.length).map (reach bs)
theorem reachL_len (bs : List Int) : (reachL bs).length = bs.length := by simp [reachL]
/-- reaches of the bars told backwards -/
theorem reach_rev {bs : List Int} {i : Nat} (h : i < bs.length) : reach bs.reverse i = ((bs.length : Int) - 1 - (reach bs (bs.length - 1 - i)).2, (bs.length : Int) - 1 - (reach bs (bs.length - 1 - i)).1) := by
  unfold reach behind
  simp only [List.length_reverse, List.reverse_reverse]
  have e : bs.length - 1 - (bs.length - 1 - i) = i := by omega
  rw [e]
  refine Prod.ext ?_ ?_ <;> simp only <;> omega
theorem reachL_rev (bs : List Int) : reachL bs.reverse = (reachL bs).reverse.map fun p => ((bs.length : Int) - 1 - p.2, (bs.length : Int) - 1 - p.1) := by
  apply List.ext_getElem?
  intro i
  by_cases h : i < bs.length
  · rw [List.getElem?_map, List.getElem?_reverse (by simpa [reachL] using h)]
    simp only [reachL, List.length_map, List.length_range, List.length_reverse, List.getElem?_map]
    rw [List.getElem?_range h, List.getElem?_range (by omega)]
    show some (reach bs.reverse i) = _
    rw [reach_rev h]
    rfl
  · rw [List.getElem?_eq_none (by simp [reachL]; omega), List.getElem?_eq_none (by simp [reachL]; omega)]
/-- bounds of a reach -/
theorem link_lt (bs : List Int) (i : Nat) : link bs i < i := down_lt _ _ _
theorem link_ge (bs : List Int) (i : Nat) : -1 ≤ link bs i := down_ge _ _ _
theorem behind_gt {bs : List Int} {i : Nat} (h : i < bs.length) : (i : Int) < behind bs i := by
  have := link_lt bs.reverse (bs.length - 1 - i)
  unfold behind
  omega
theorem behind_le {bs : List Int} (i : Nat) : behind bs i ≤ bs.length := by
  have := link_ge bs.reverse (bs.length - 1 - i)
  unfold behind
  omega
/-! ### the highest so far (-1 ahead of the first) -/
def pmax (bs : List Int) : Nat → Int
  | 0 => -1
  | n + 1 => if pmax bs n < g bs n then g bs n else pmax bs n
def shownL (bs : List Int) (n : Nat) : List Int := ((List.range n).filter fun i => decide (pmax bs i < g bs i)).map fun (i : Nat) => (i : Int)
theorem shown_yes {bs : List Int} {n : Nat} (h : pmax bs n < g bs n) : shownL bs (n + 1) = shownL bs n ++ [(n : Int)] := by
  unfold shownL
  rw [List.range_succ, List.filter_append, List.map_append]
  simp [h]
theorem shown_no {bs : List Int} {n : Nat} (h : ¬ pmax bs n < g bs n) : shownL bs (n + 1) = shownL bs n := by
  unfold shownL
  rw [List.range_succ, List.filter_append, List.map_append]
  simp [h]
theorem shown_len (bs : List Int) : ∀ n, (shownL bs n).length ≤ n
  | 0 => Nat.le_refl _
  | n + 1 => by
    have := shown_len bs n
    by_cases h : pmax bs n < g bs n
    · rw [shown_yes h, List.length_append]
      simp
      omega
    · rw [shown_no h]
      omega
theorem pmax_ge (bs : List Int) : ∀ n, -1 ≤ pmax bs n
  | 0 => Int.le_refl _
  | n + 1 => by
    have := pmax_ge bs n
    unfold pmax
    split <;> omega
theorem pmax_all (bs : List Int) : ∀ n k, k < n → g bs k ≤ pmax bs n
  | 0, k, h => by omega
  | n + 1, k, h => by
    unfold pmax
    by_cases e : k = n
    · subst e
      split <;> omega
    · have := pmax_all bs n k (by omega)
      split <;> omega
theorem pmax_is (bs : List Int) : ∀ n, pmax bs n = -1 ∨ ∃ k, k < n ∧ pmax bs n = g bs k
  | 0 => .inl rfl
  | n + 1 => by
    unfold pmax
    split
    · exact .inr ⟨n, by omega, rfl⟩
    · rcases pmax_is bs n with h | ⟨k, h1, h2⟩
      · exact .inl h
      · exact .inr ⟨k, by omega, h2⟩
/-- the greatest of the first n, as max(.., default=-1) tells it -/
theorem pmax_of {bs : List Int} (hg : Good bs) {n : Nat} (hn : n ≤ bs.length) {m : Int} (h1 : m ∈ bs.take n) (h2 : ∀ y ∈ bs.take n, y ≤ m) : m = pmax bs n := by
  obtain ⟨k, hk, e⟩ := List.getElem_of_mem h1
  rw [List.length_take] at hk
  rw [List.getElem_take] at e
  have e1 : g bs k = m := by simp [g, show k < bs.length by omega, e]
  have a := pmax_all bs n k (by omega)
  have hm := hg.at (show k < bs.length by omega)
  rcases pmax_is bs n with h | ⟨j, hj, h⟩
  · omega
  · have hj2 : j < bs.length := by omega
    have mem : g bs j ∈ bs.take n := by
      have : bs[j] ∈ bs.take n := by
        rw [List.mem_take_iff_getElem]
        exact ⟨j, by omega, rfl⟩
      simpa [g, hj2] using this
    have := h2 _ mem
    omega
theorem g_map {f : Nat → Int} {n i : Nat} (h : i < n) : g ((List.range n).map f) i = f i := by simp [g, h]
end Sky

/-! Rq: the answers: one lemma for what is left at each operation; loops; comprehensions. -/
namespace Sky
open PySem PySem.Spec PyProof.Rows L2
def rNewL : List V → Hp → VK → Prop := fun vs H Q => vs.length ≤ sizeLine ∧ ∀ p, H p = none → Q (.ref p) (upd H p (.lst vs))
def rNewT : List V → Hp → VK → Prop := fun vs H Q => vs.length ≤ sizeLine ∧ ∀ p, H p = none → Q (.ref p) (upd H p (.tup vs))
section
variable {σ : L2.St} {H : Hp} {Q : VK} {tl : TA} {K : PySem.W.Frag} {te : TE}
theorem e_lst : tLst tl σ H Q = tl σ H (fun vs H1 => rNewL vs H1 Q) := rfl
theorem e_tup : tTup tl σ H Q = tl σ H (fun vs H1 => rNewT vs H1 Q) := rfl
theorem e_rev : tRevL K te σ H Q = te σ H (fun x H1 => ∃ a, x = .ref a ∧ ∃ xs, SqL K H1 a xs ∧ ∀ p, H1 p = none → Q (.ref p) (upd H1 p (.lst xs.reverse))) := by
  unfold tRevL
  congr 1
  funext x H1
  apply propext
  constructor
  · rintro ⟨a, xs, h1, h2, h3⟩; exact ⟨a, h1, xs, h2, h3⟩
  · rintro ⟨a, h1, xs, h2, h3⟩; exact ⟨a, xs, h1, h2, h3⟩
end
/-- tuples stand for ever -/
def Tk (H H' : Hp) : Prop := ∀ b xs, H b = some (.tup xs) → H' b = some (.tup xs)
theorem same_tk {H H' : Hp} (s : Same H H') : Tk H H' := fun b xs e => s b _ e
theorem Tk.trans {H H1 H2 : Hp} (a : Tk H H1) (b : Tk H1 H2) : Tk H H2 := fun c xs e => b c xs (a c xs e)
theorem tk_upd {H : Hp} {p : Addr} {xs ys : List V} (h : H p = some (.lst xs)) : Tk H (upd H p (.lst ys)) := fun b zs e => by
  rw [upd_ne (ne_of e h (by intro z; cases z))]
  exact e
section
variable {σ : L2.St} {H : Hp} {Q : VK} {K : PySem.W.Frag} {a b p : Addr} {l m : List Int} {xs : List V} {i : Int} {j : Nat} {x y : V}
theorem q_newL (q : ∀ p, H p = none → Q (.ref p) (upd H p (.lst xs))) (h : xs.length ≤ 100000 := by simp) : rNewL xs H Q := ⟨sz_of h, q⟩
theorem q_newT (q : ∀ p, H p = none → Q (.ref p) (upd H p (.tup xs))) (h : xs.length ≤ 100000 := by simp) : rNewT xs H Q := ⟨sz_of h, q⟩
/-- compared with a new [] -/
theorem q_neN (h : SqL K H a (ivs l)) (q : ∀ H', Same H H' → Q (.bl (!decide (l = []))) H') : rNewL [] H fun x H1 => rNeD K (.ref a) x H1 Q :=
  ⟨sz_of (by decide), fun p np => q_neL (m := []) ((same_new np).seq h) (SqL.of upd_same) (q _ (same_new np))⟩
theorem q_eqN (h : SqL K H a (ivs l)) (q : ∀ H', Same H H' → Q (.bl (decide (l = []))) H') : rNewL [] H fun x H1 => rEqD K (.ref a) x H1 Q :=
  ⟨sz_of (by decide), fun p np => q_eqL (m := []) ((same_new np).seq h) (SqL.of upd_same) (q _ (same_new np))⟩
theorem q_ixL (h : SqL K H a (ivs l)) (e : i = (j : Int)) (hj : j < l.length) (q : Q (.int (g l j)) H) : rIxL K (.ref a) (.int i) H Q := ⟨a, _, i, _, rfl, rfl, h, at_ivs e hj, q⟩
theorem q_ix1 (h : SqL K H a (ivs (l ++ [i]))) (q : Q (.int i) H) : rIxL K (.ref a) (.int (-1)) H Q :=
  ⟨a, _, -1, _, rfl, rfl, h, by rw [show ivs (l ++ [i]) = ivs l ++ [V.int i] by simp [ivs]]; exact atI_last _ _, q⟩
theorem q_ixV (h : SqL K H a xs) (e : i = (j : Int)) (hx : xs[j]? = some x) (q : Q x H) : rIxL K (.ref a) (.int i) H Q := ⟨a, _, i, _, rfl, rfl, h, at_of e hx, q⟩
theorem q_ixT (h : SqT K H a xs) (e : i = (j : Int)) (hx : xs[j]? = some x) (q : Q x H) : rIxT K (.ref a) (.int i) H Q := ⟨a, _, i, _, rfl, rfl, h, at_of e hx, q⟩
theorem q_len (h : SqL K H a xs) (q : Q (.int (xs.length : Nat)) H) : rLenK K [.ref a] H Q := ⟨a, _, rfl, .inl h, q⟩
theorem q_lenI (h : SqL K H a (ivs l)) (q : Q (.int (l.length : Nat)) H) : rLenK K [.ref a] H Q := ⟨a, _, rfl, .inl h, by rw [len_ivs]; exact q⟩
theorem q_list (h : SqL K H a xs) (q : ∀ p, H p = none → Q (.ref p) (upd H p (.lst xs))) : rListK K [.ref a] H Q := ⟨a, _, rfl, .inl h, q⟩
theorem q_listT (h : SqT K H a xs) (q : ∀ p, H p = none → Q (.ref p) (upd H p (.lst xs))) : rListK K [.ref a] H Q := ⟨a, _, rfl, .inr h, q⟩
theorem q_app (h : H a = some (.lst xs)) (hz : xs.length < 100000) (q : Q .non (upd H a (.lst (xs ++ [y])))) : tyV K "list" (.ref a) H ∧ rAppend (.ref a) [y] H Q := ⟨.inl ⟨rfl, _, SqL.of h⟩, a, xs, y, rfl, rfl, h, sz_lt hz, q⟩
theorem q_pop (h : H a = some (.lst (xs ++ [y]))) (q : Q y (upd H a (.lst xs))) : tyV K "list" (.ref a) H ∧ rPop (.ref a) [] H Q :=
  ⟨.inl ⟨rfl, _, SqL.of h⟩, a, xs ++ [y], y, rfl, rfl, h, by simp, by rw [List.dropLast_concat]; exact q⟩
theorem q_sum (h : SqL K H a (ivs l)) (q : Q (.int l.sum) H) : rSum K [.ref a] H Q := ⟨a, l, rfl, h, q⟩
theorem q_max (h : SqL K H a (ivs l)) (hl : 0 < l.length) (q : ∀ m, m ∈ l → (∀ y, y ∈ l → y ≤ m) → Q (.int m) H) : rMax K [.ref a] H Q := ⟨a, l, rfl, h, hl, q⟩
theorem q_min (h : SqL K H a (ivs l)) (hl : 0 < l.length) (q : ∀ m, m ∈ l → (∀ y, y ∈ l → m ≤ y) → Q (.int m) H) : rMin K [.ref a] H Q := ⟨a, l, rfl, h, hl, q⟩
theorem q_maxD {d : Int} (h : SqL K H a (ivs l)) (q0 : l = [] → Q (.int d) H) (q : ∀ m, m ∈ l → (∀ y, y ∈ l → y ≤ m) → Q (.int m) H) : rMaxD K [.ref a] [.int d] H Q := ⟨a, l, d, rfl, rfl, h, q0, q⟩
theorem q_all {bs : List Bool} (h : SqL K H a (bs.map V.bl)) (q : Q (.bl (bs.all id)) H) : rAll K [.ref a] H Q := ⟨a, bs, rfl, h, q⟩
theorem q_any {bs : List Bool} (h : SqL K H a (bs.map V.bl)) (q : Q (.bl (bs.any id)) H) : rAny K [.ref a] H Q := ⟨a, bs, rfl, h, q⟩
theorem q_setL {QS : Hp → Prop} (h : H a = some (.lst xs)) (e : i = (j : Int)) (hj : j < xs.length) (q : QS (upd H a (.lst (xs.set j x)))) : rSetL (.ref a) (.int i) x H QS :=
  ⟨a, xs, i, j, rfl, rfl, h, by rw [e]; unfold ixN; rw [if_pos (by omega), if_pos (by omega)]; simp, q⟩
end
/-! ### loops -/
section
variable {σ : L2.St} {H : Hp} {K : PySem.W.Frag} {a : Addr} {xs : List V} {tl : TA} {te : TE} {tb : TS} {D : Ends} {j k : Nat} {c : TT}
theorem q_forE (ha : ∀ R, R [V.ref a] H → tl σ H R) (Pv : Nat → L2.St → Hp → Prop) (h0 : Pv 0 σ H) (hq : ∀ i σ H, Pv i σ H → SqL K H a xs)
    (hs : ∀ (i : Nat) (x : V) (σ : L2.St) (H H' : Hp), xs[i]? = some x → Pv i σ H → Same H H' → tb { D with nx := Pv (i + 1), ct := Pv (i + 1), bk := D.nx } ((σ.set j (some (.int (i : Int)))).set k (some x)) H') (hd : ∀ σ H, Pv xs.length σ H → D.nx σ H) :
    tFor (iEnum K tl) (g2 K j k) tb D σ H := ha _ ⟨a, xs, rfl, hq 0 σ H h0, for_enum2 Pv h0 hq hs hd⟩
theorem q_forL (ha : ∀ R : VK, R (V.ref a) H → te σ H R) (Pv : Nat → L2.St → Hp → Prop) (h0 : Pv 0 σ H) (hq : ∀ i σ H, Pv i σ H → SqL K H a xs)
    (hs : ∀ (i : Nat) (x : V) (σ : L2.St) (H : Hp), xs[i]? = some x → Pv i σ H → tb { D with nx := Pv (i + 1), ct := Pv (i + 1), bk := D.nx } (σ.set j (some x)) H) (hd : ∀ σ H, Pv xs.length σ H → D.nx σ H) :
    tFor (iList K te) (gName j) tb D σ H := ha _ ⟨a, rfl, ⟨xs, hq 0 σ H h0⟩, for_list Pv h0 (fun i σ H _ p => hq i σ H p) hs hd⟩
theorem q_forR {n : Nat} (ha : ∀ R, R [V.int (n : Int)] H → tl σ H R) (hn : n ≤ 100000) (Pv : Nat → L2.St → Hp → Prop) (h0 : Pv 0 σ H)
    (hs : ∀ (i : Nat) (σ : L2.St) (H : Hp), i < n → Pv i σ H → tb { D with nx := Pv (i + 1), ct := Pv (i + 1), bk := D.nx } (σ.set j (some (.int (i : Int)))) H) (hd : ∀ σ H, Pv n σ H → D.nx σ H) :
    tFor (iRng1 tl) (gName j) tb D σ H := ha _ ⟨n, rfl, by omega, by omega, by
      rw [Int.toNat_natCast]
      exact for_range (lo := 0) (n := n) Pv h0 (fun i σ' H' hi p => by
        show tb { D with nx := Pv (i + 1), ct := Pv (i + 1), bk := D.nx } (σ'.set j (some (.int ((0 : Int) + (i : Int))))) H'
        rw [Int.zero_add]
        exact hs i σ' H' hi p) hd⟩
theorem q_forR2 {lo n : Nat} (ha : ∀ R, R [V.int (lo : Int), V.int (n : Int)] H → tl σ H R) (hn : lo ≤ n ∧ n ≤ 100000) (Pv : Nat → L2.St → Hp → Prop) (h0 : Pv lo σ H)
    (hs : ∀ (i : Nat) (σ : L2.St) (H : Hp), lo ≤ i → i < n → Pv i σ H → tb { D with nx := Pv (i + 1), ct := Pv (i + 1), bk := D.nx } (σ.set j (some (.int (i : Int)))) H) (hd : ∀ σ H, Pv n σ H → D.nx σ H) :
    tFor (iRng2 tl) (gName j) tb D σ H := ha _ ⟨lo, n, rfl, ⟨by omega, by omega, by omega, by omega⟩, by
      have e : ((n : Int) - (lo : Int)).toNat = n - lo := by omega
      rw [e]
      exact for_range (lo := (lo : Int)) (n := n - lo) (fun i => Pv (lo + i)) h0 (fun i σ' H' hi p => by
        show tb { D with nx := Pv (lo + i + 1), ct := Pv (lo + i + 1), bk := D.nx } (σ'.set j (some (.int ((lo : Int) + (i : Int))))) H'
        rw [show (lo : Int) + (i : Int) = ((lo + i : Nat) : Int) by omega]
        exact hs (lo + i) σ' H' (by omega) (by omega) p) (fun σ' H' p => by
          have p : Pv (lo + (n - lo)) σ' H' := p
          rw [show lo + (n - lo) = n by omega] at p
          exact hd σ' H' p)⟩
theorem q_while (W : Nat → L2.St → Hp → Prop) (h0 : ∃ m, W m σ H) (hs : ∀ m σ H, W m σ H → c σ H fun b H1 => if b = true then ∃ N : L2.St → Hp → Prop, (∀ σ' H', N σ' H' → ∃ m', m' < m ∧ W m' σ' H') ∧ tb { D with nx := N, ct := N, bk := D.nx } σ H1 else D.nx σ H1) : tWhile c tb D σ H := ⟨W, h0, hs⟩
end
/-! ### comprehensions: P tells of the i-th value -/
section
variable {σ : L2.St} {H : Hp} {K : PySem.W.Frag} {a b : Addr} {xs ys : List V} {tl : TA} {tx te : TE} {Q : VK} {j k : Nat} {vs : List Nat} {gt : TG}
/-- what stands of the list at D behind i turns -/
def Lc (P : Nat → V → Hp → Prop) (H : Hp) (D : Addr) (i : Nat) (H' : Hp) : Prop := H D = none ∧ Same H H' ∧ ∃ acc, H' D = some (.lst acc) ∧ acc.length = i ∧ ∀ m v, acc[m]? = some v → P m v H'
theorem lc_zero (P : Nat → V → Hp → Prop) {D : Addr} (h : H D = none) : Lc P H D 0 (upd H D (.lst [])) := ⟨h, same_new h, [], upd_same, rfl, fun m v e => by simp at e⟩
theorem lc_more {P : Nat → V → Hp → Prop} (mono : ∀ i v H1 H2, P i v H1 → Tk H1 H2 → P i v H2) {D : Addr} {i : Nat} {H1 H2 : Hp} {y : V} (h : Lc P H D i H1) (hi : i < 100000) (s : Same H1 H2) (p : P i y H2) :
    ∃ acc, H2 D = some (.lst acc) ∧ acc.length < sizeLine ∧ Lc P H D (i + 1) (upd H2 D (.lst (acc ++ [y]))) := by
  obtain ⟨h1, h2, acc, h3, h4, h5⟩ := h
  have e := s _ _ h3
  have tk := tk_upd (ys := acc ++ [y]) e
  refine ⟨acc, e, by rw [h4]; exact sz_lt hi, h1, same_mut (h2.trans s) h1, acc ++ [y], upd_same, by rw [List.length_append, h4]; rfl, fun m v hm => ?_⟩
  by_cases c : m < i
  · rw [List.getElem?_append_left (by omega)] at hm
    exact mono _ _ _ _ (h5 m v hm) (Tk.trans (same_tk s) tk)
  · have e2 : m = i := by
      have := (List.getElem?_eq_some_iff.mp hm).1
      rw [List.length_append, h4] at this
      simp at this
      omega
    subst e2
    rw [List.getElem?_append_right (by omega), h4] at hm
    simp at hm
    subst hm
    exact mono _ _ _ _ p tk
abbrev LcEnd (P : Nat → V → Hp → Prop) (H : Hp) (n : Nat) (Q : VK) : Prop := ∀ D H' acc, H D = none → Same H H' → H' D = some (.lst acc) → acc.length = n → (∀ i v, acc[i]? = some v → P i v H') → Q (.ref D) H'
theorem q_lcR {n : Nat} (P : Nat → V → Hp → Prop) (ha : ∀ R, R [V.int (n : Int)] H → tl σ H R) (hn : n ≤ 50000) (hw : ∀ x, wipe ((wipe σ vs).set j (some x)) vs = wipe σ vs) (mono : ∀ i v H1 H2, P i v H1 → Tk H1 H2 → P i v H2)
    (he : ∀ (i : Nat) (H' : Hp) (Q' : VK), i < n → Same H H' → (∀ v H'', Same H' H'' → P i v H'' → Q' v H'') → te ((wipe σ vs).set j (some (.int (i : Int)))) H' Q') (q : LcEnd P H n Q) :
    tLc (iRng1 tl) (gName j) tYes te vs σ H Q := ha _ ⟨n, rfl, by omega, by omega, fun D hD => by
      rw [Int.toNat_natCast]
      refine lc_range (lo := 0) (n := n) (Lc P H D) (lc_zero P hD) (fun i H' hi p => ?_) (fun H' p => ?_)
      · show wipe ((wipe σ vs).set j (some (.int ((0 : Int) + (i : Int))))) vs = wipe σ vs ∧ tYes ((wipe σ vs).set j (some (.int ((0 : Int) + (i : Int))))) H' fun b H3 => if b = true then te ((wipe σ vs).set j (some (.int ((0 : Int) + (i : Int))))) H3 fun y H4 => ∃ acc, H4 D = some (.lst acc) ∧ acc.length < sizeLine ∧ Lc P H D (i + 1) (upd H4 D (.lst (acc ++ [y]))) else Lc P H D (i + 1) H3
        rw [Int.zero_add]
        refine ⟨hw _, ?_⟩
        simp only [e_yes, if_true]
        exact he i H' _ hi p.2.1 fun v H'' s pv => lc_more mono p (by omega) s pv
      · obtain ⟨h1, h2, acc, h3, h4, h5⟩ := p
        exact q D H' acc h1 h2 h3 h4 h5⟩
theorem q_lcL (P : Nat → V → Hp → Prop) (ha : ∀ R : VK, R (V.ref a) H → tx σ H R) (hx : SqL K H a xs) (hn : xs.length ≤ 50000) (hw : ∀ x, wipe ((wipe σ vs).set j (some x)) vs = wipe σ vs) (mono : ∀ i v H1 H2, P i v H1 → Tk H1 H2 → P i v H2)
    (he : ∀ (i : Nat) (x : V) (H' : Hp) (Q' : VK), xs[i]? = some x → Same H H' → (∀ v H'', Same H' H'' → P i v H'' → Q' v H'') → te ((wipe σ vs).set j (some x)) H' Q') (q : LcEnd P H xs.length Q) :
    tLc (iList K tx) (gName j) tYes te vs σ H Q := ha _ ⟨a, rfl, ⟨xs, hx⟩, fun D hD => by
      refine lc_list (xs := xs) (Lc P H D) (lc_zero P hD) (fun i H' _ p => p.2.1.seq hx) (fun i x H' hi p => ?_) (fun H' p => ?_)
      · have lt := (List.getElem?_eq_some_iff.mp hi).1
        refine ⟨hw _, ?_⟩
        simp only [e_yes, if_true, e_name]
        exact he i x H' _ hi p.2.1 fun v H'' s pv => lc_more mono p (by omega) s pv
      · obtain ⟨h1, h2, acc, h3, h4, h5⟩ := p
        exact q D H' acc h1 h2 h3 h4 h5⟩
/-- over a list that is made for it -/
theorem q_lcN {xs : List V} (P : Nat → V → Hp → Prop) (ha : ∀ R : VK, (∀ b H1, H b = none → Same H H1 → H1 b = some (.lst xs) → R (V.ref b) H1) → tx σ H R) (hn : xs.length ≤ 50000) (hw : ∀ x, wipe ((wipe σ vs).set j (some x)) vs = wipe σ vs) (mono : ∀ i v H1 H2, P i v H1 → Tk H1 H2 → P i v H2)
    (he : ∀ (i : Nat) (x : V) (H' : Hp) (Q' : VK), xs[i]? = some x → Same H H' → (∀ v H'', Same H' H'' → P i v H'' → Q' v H'') → te ((wipe σ vs).set j (some x)) H' Q') (q : LcEnd P H xs.length Q) :
    tLc (iList K tx) (gName j) tYes te vs σ H Q := ha _ fun b H1 nb s1 hb => ⟨b, rfl, ⟨xs, SqL.of hb⟩, fun D hD => by
      refine lc_list (xs := xs) (Lc P H1 D) (lc_zero P hD) (fun i H' _ p => p.2.1.seq (SqL.of hb)) (fun i x H' hi p => ?_) (fun H' p => ?_)
      · have lt := (List.getElem?_eq_some_iff.mp hi).1
        refine ⟨hw _, ?_⟩
        simp only [e_yes, if_true, e_name]
        exact he i x H' _ hi (s1.trans p.2.1) fun v H'' s pv => lc_more mono p (by omega) s pv
      · obtain ⟨h1, h2, acc, h3, h4, h5⟩ := p
        exact q D H' acc (s1.free h1) (s1.trans h2) h3 h4 h5⟩
end
/-- the values told one by one -/
theorem acc_ivs {acc : List V} {n : Nat} {f : Nat → Int} (hl : acc.length = n) (h : ∀ i v, acc[i]? = some v → v = V.int (f i)) : acc = ivs ((List.range n).map f) := by
  apply List.ext_getElem?
  intro i
  by_cases c : i < n
  · rw [List.getElem?_eq_getElem (by omega)]
    have := h i acc[i] (List.getElem?_eq_getElem (by omega))
    rw [this]
    simp [ivs, c]
  · rw [List.getElem?_eq_none (by omega), List.getElem?_eq_none (by simp [ivs]; omega)]
theorem acc_bls {acc : List V} {n : Nat} {f : Nat → Bool} (hl : acc.length = n) (h : ∀ i v, acc[i]? = some v → v = V.bl (f i)) : acc = ((List.range n).map f).map V.bl := by
  apply List.ext_getElem?
  intro i
  by_cases c : i < n
  · rw [List.getElem?_eq_getElem (by omega)]
    have := h i acc[i] (List.getElem?_eq_getElem (by omega))
    rw [this]
    simp [c]
  · rw [List.getElem?_eq_none (by omega), List.getElem?_eq_none (by simp; omega)]
end Sky
/-! ### lists of pairs of whole numbers -/
namespace Sky
open PySem PySem.Spec PyProof.Rows L2
def PrAt (ab : Int × Int) (v : V) (H : Hp) : Prop := ∃ t, v = .ref t ∧ H t = some (.tup [.int ab.1, .int ab.2])
theorem PrAt.mono {ab : Int × Int} {v : V} {H H' : Hp} (h : PrAt ab v H) (k : Tk H H') : PrAt ab v H' := by
  obtain ⟨t, e, h⟩ := h
  exact ⟨t, e, k _ _ h⟩
inductive Prs (H : Hp) : List (Int × Int) → List V → Prop
  | nil : Prs H [] []
  | cons {ab : Int × Int} {v : V} {l : List (Int × Int)} {vs : List V} : PrAt ab v H → Prs H l vs → Prs H (ab :: l) (v :: vs)
theorem Prs.mono {H H' : Hp} (k : Tk H H') : ∀ {l : List (Int × Int)} {vs : List V}, Prs H l vs → Prs H' l vs
  | _, _, .nil => .nil
  | _, _, .cons a r => .cons (a.mono k) (Prs.mono k r)
theorem Prs.len {H : Hp} : ∀ {l : List (Int × Int)} {vs : List V}, Prs H l vs → vs.length = l.length
  | _, _, .nil => rfl
  | _, _, .cons _ r => congrArg Nat.succ (Prs.len r)
theorem Prs.at {H : Hp} {l : List (Int × Int)} {vs : List V} (p : Prs H l vs) : ∀ {i : Nat} {v : V}, vs[i]? = some v → ∃ ab, l[i]? = some ab ∧ PrAt ab v H := by
  induction p with
  | nil => intro i v h; simp at h
  | cons a r ih =>
    intro i v h
    cases i with
    | zero =>
      simp at h
      subst h
      exact ⟨_, rfl, a⟩
    | succ i =>
      obtain ⟨ab, h1, h2⟩ := ih (i := i) (v := v) (by simpa using h)
      exact ⟨ab, by simpa using h1, h2⟩
theorem Prs.app {H : Hp} {ab : Int × Int} {v : V} (a : PrAt ab v H) : ∀ {l : List (Int × Int)} {vs : List V}, Prs H l vs → Prs H (l ++ [ab]) (vs ++ [v])
  | _, _, .nil => .cons a .nil
  | _, _, .cons b r => .cons b (Prs.app a r)
theorem Prs.rev {H : Hp} : ∀ {l : List (Int × Int)} {vs : List V}, Prs H l vs → Prs H l.reverse vs.reverse
  | _, _, .nil => .nil
  | _, _, .cons a r => by
    rw [List.reverse_cons, List.reverse_cons]
    exact Prs.app a (Prs.rev r)
theorem Prs.of {H : Hp} {f : Nat → Int × Int} : ∀ {n : Nat} {vs : List V}, vs.length = n → (∀ i v, vs[i]? = some v → PrAt (f i) v H) → Prs H ((List.range n).map f) vs := by
  intro n
  induction n with
  | zero =>
    intro vs hl _
    have e : vs = [] := List.eq_nil_of_length_eq_zero hl
    subst e
    exact .nil
  | succ n ih =>
    intro vs hl h
    have hne : vs ≠ [] := by
      intro e
      subst e
      simp at hl
    obtain ⟨ini, la, rfl⟩ : ∃ ini la, vs = ini ++ [la] := ⟨_, _, (List.dropLast_concat_getLast hne).symm⟩
    have l2 : ini.length = n := by simpa using hl
    rw [List.range_succ, List.map_append]
    refine Prs.app ?_ (ih l2 fun i v hv => ?_)
    · refine h n la ?_
      rw [List.getElem?_append_right (by omega)]
      simp [l2]
    · have lt := (List.getElem?_eq_some_iff.mp hv).1
      refine h i v ?_
      rw [List.getElem?_append_left lt]
      exact hv
def prd (p : Int × Int) : PyData := .tuple [.int p.1, .int p.2]
theorem prd_lay : ∀ l : List (Int × Int), PyData.canLayAll0 (l.map prd) = true
  | [] => rfl
  | p :: r => by simp [PyData.canLayAll0, PyData.canLay0, prd, prd_lay r]
theorem prd_depth : ∀ l : List (Int × Int), PyData.depthAll (l.map prd) ≤ 1
  | [] => by simp [PyData.depthAll]
  | p :: r => by
    have := prd_depth r
    simp only [List.map_cons, PyData.depthAll, prd, PyData.depth]
    omega
theorem prd_shaped (l : List (Int × Int)) : SeqAt.shaped (.list (l.map prd)) = true := by
  have d := prd_depth l
  have d2 : PyData.depth (.list (l.map prd)) ≤ 64 := by
    simp only [PyData.depth]
    omega
  have d3 : PyData.canLay0 (.list (l.map prd)) = true := by
    simp only [PyData.canLay0]
    exact prd_lay l
  unfold SeqAt.shaped
  rw [d3, decide_eq_true d2]
  rfl
theorem eqv_prdA : ∀ l m : List (Int × Int), PyData.eqvAll (l.map prd) (m.map prd) = decide (l = m)
  | [], [] => by simp [PyData.eqvAll]
  | [], _ :: _ => by simp [PyData.eqvAll]
  | _ :: _, [] => by simp [PyData.eqvAll]
  | (a, b) :: r, (c, d) :: t => by
    simp only [List.map_cons, PyData.eqvAll, PyData.eqv, prd, eqv_prdA r t]
    by_cases h : a = c <;> by_cases h2 : b = d <;> by_cases h' : r = t <;> simp [h, h2, h']
theorem eqv_prd (l m : List (Int × Int)) : PyData.eqv (.list (l.map prd)) (.list (m.map prd)) = decide (l = m) := by
  simp only [PyData.eqv]
  exact eqv_prdA l m
theorem dp_prsA {K : PySem.W.Frag} {H : Hp} : ∀ {l : List (Int × Int)} {vs : List V}, Prs H l vs → DpAll K H vs (l.map prd)
  | _, _, .nil => .nil
  | _, _, .cons a r => by
    obtain ⟨t, rfl, h⟩ := a
    exact .cons (.tup (SqT.of h) (.cons (.int _) (.cons (.int _) .nil))) (dp_prsA r)
theorem dp_prs {K : PySem.W.Frag} {H : Hp} {a : Addr} {l : List (Int × Int)} {vs : List V} (h : SqL K H a vs) (p : Prs H l vs) : Dp K H (.ref a) (.list (l.map prd)) := .lst h (dp_prsA p)
theorem q_eqP {K : PySem.W.Frag} {H : Hp} {a b : Addr} {l m : List (Int × Int)} {vs ws : List V} {Q : VK} (ha : SqL K H a vs) (hv : Prs H l vs) (hb : SqL K H b ws) (hw : Prs H m ws) (q : Q (.bl (decide (l = m))) H) : rEqD K (.ref a) (.ref b) H Q :=
  ⟨_, _, dp_prs ha hv, dp_prs hb hw, prd_shaped l, prd_shaped m, by rw [eqv_prd]; exact q⟩
theorem q_neP {K : PySem.W.Frag} {H : Hp} {a b : Addr} {l m : List (Int × Int)} {vs ws : List V} {Q : VK} (ha : SqL K H a vs) (hv : Prs H l vs) (hb : SqL K H b ws) (hw : Prs H m ws) (q : Q (.bl (!decide (l = m))) H) : rNeD K (.ref a) (.ref b) H Q :=
  ⟨_, _, dp_prs ha hv, dp_prs hb hw, prd_shaped l, prd_shaped m, by rw [eqv_prd]; exact q⟩
/-- a pair is unpacked to two names -/
theorem q_g2 {K : PySem.W.Frag} {j k : Nat} {t : Addr} {x y : V} {σ : L2.St} {H : Hp} {Q : L2.St → Hp → Prop} (h : SqT K H t [x, y]) (q : Q ((σ.set j (some x)).set k (some y)) H) : gTup K 2 (gCons (gName j) (gCons (gName k) gNil)) (.ref t) σ H Q :=
  ⟨t, [x, y], rfl, h, rfl, x, [y], rfl, y, [], rfl, rfl, q⟩
end Sky
/-! ### comprehensions over any target; with a test -/
namespace Sky
open PySem PySem.Spec PyProof.Rows L2
section
variable {σ : L2.St} {H : Hp} {K : PySem.W.Frag} {a b : Addr} {xs ys : List V} {tl : TA} {tx te : TE} {Q : VK} {j k : Nat} {vs : List Nat} {gt : TG} {tt : TT}
theorem q_lcNG {xs : List V} (P : Nat → V → Hp → Prop) (ha : ∀ R : VK, (∀ b H1, H b = none → Same H H1 → H1 b = some (.lst xs) → R (V.ref b) H1) → tx σ H R) (hn : xs.length ≤ 50000) (mono : ∀ i v H1 H2, P i v H1 → Tk H1 H2 → P i v H2)
    (he : ∀ (i : Nat) (x : V) (H' : Hp) (Q' : VK), xs[i]? = some x → Same H H' → (∀ v H'', Same H' H'' → P i v H'' → Q' v H'') → gt x (wipe σ vs) H' fun σ2 H2 => wipe σ2 vs = wipe σ vs ∧ te σ2 H2 Q') (q : LcEnd P H xs.length Q) :
    tLc (iList K tx) gt tYes te vs σ H Q := ha _ fun b H1 nb s1 hb => ⟨b, rfl, ⟨xs, SqL.of hb⟩, fun D hD => by
      refine lc_list (xs := xs) (Lc P H1 D) (lc_zero P hD) (fun i H' _ p => p.2.1.seq (SqL.of hb)) (fun i x H' hi p => ?_) (fun H' p => ?_)
      · have lt := (List.getElem?_eq_some_iff.mp hi).1
        simp only [e_yes, if_true]
        exact he i x H' _ hi (s1.trans p.2.1) fun v H'' s pv => lc_more mono p (by omega) s pv
      · obtain ⟨h1, h2, acc, h3, h4, h5⟩ := p
        exact q D H' acc (s1.free h1) (s1.trans h2) h3 h4 h5⟩
theorem q_lcLG (P : Nat → V → Hp → Prop) (ha : ∀ R : VK, R (V.ref a) H → tx σ H R) (hx : SqL K H a xs) (hn : xs.length ≤ 50000) (mono : ∀ i v H1 H2, P i v H1 → Tk H1 H2 → P i v H2)
    (he : ∀ (i : Nat) (x : V) (H' : Hp) (Q' : VK), xs[i]? = some x → Same H H' → (∀ v H'', Same H' H'' → P i v H'' → Q' v H'') → gt x (wipe σ vs) H' fun σ2 H2 => wipe σ2 vs = wipe σ vs ∧ te σ2 H2 Q') (q : LcEnd P H xs.length Q) :
    tLc (iList K tx) gt tYes te vs σ H Q := ha _ ⟨a, rfl, ⟨xs, hx⟩, fun D hD => by
      refine lc_list (xs := xs) (Lc P H D) (lc_zero P hD) (fun i H' _ p => p.2.1.seq hx) (fun i x H' hi p => ?_) (fun H' p => ?_)
      · have lt := (List.getElem?_eq_some_iff.mp hi).1
        simp only [e_yes, if_true]
        exact he i x H' _ hi p.2.1 fun v H'' s pv => lc_more mono p (by omega) s pv
      · obtain ⟨h1, h2, acc, h3, h4, h5⟩ := p
        exact q D H' acc h1 h2 h3 h4 h5⟩
theorem q_lcEG (P : Nat → V → Hp → Prop) (ha : ∀ R, R [V.ref a] H → tl σ H R) (hx : SqL K H a xs) (hn : xs.length ≤ 50000) (mono : ∀ i v H1 H2, P i v H1 → Tk H1 H2 → P i v H2)
    (he : ∀ (i : Nat) (x : V) (T : Addr) (H' : Hp) (Q' : VK), xs[i]? = some x → Same H H' → H' T = some (.tup [.int (i : Int), x]) → (∀ v H'', Same H' H'' → P i v H'' → Q' v H'') → gt (.ref T) (wipe σ vs) H' fun σ2 H2 => wipe σ2 vs = wipe σ vs ∧ te σ2 H2 Q') (q : LcEnd P H xs.length Q) :
    tLc (iEnum K tl) gt tYes te vs σ H Q := ha _ ⟨a, xs, rfl, hx, fun D hD => by
      refine lc_enum (xs := xs) (Lc P H D) (lc_zero P hD) (fun i H' p => p.2.1.seq hx) (fun i x T H' hi p nT => ?_) (fun H' p => ?_)
      · have lt := (List.getElem?_eq_some_iff.mp hi).1
        simp only [e_yes, if_true]
        have s2 := same_new (o := .tup [.int (i : Int), x]) nT
        exact he i x T _ _ hi (p.2.1.trans s2) upd_same fun v H'' s pv => lc_more mono p (by omega) (s2.trans s) pv
      · obtain ⟨h1, h2, acc, h3, h4, h5⟩ := p
        exact q D H' acc h1 h2 h3 h4 h5⟩
theorem q_lcZG (P : Nat → V → Hp → Prop) (ha : ∀ R, R [V.ref a, V.ref b] H → tl σ H R) (hx : SqL K H a xs) (hy : SqL K H b ys) (hlen : xs.length = ys.length) (hn : xs.length ≤ 50000) (mono : ∀ i v H1 H2, P i v H1 → Tk H1 H2 → P i v H2)
    (he : ∀ (i : Nat) (x y : V) (T : Addr) (H' : Hp) (Q' : VK), xs[i]? = some x → ys[i]? = some y → Same H H' → H' T = some (.tup [x, y]) → (∀ v H'', Same H' H'' → P i v H'' → Q' v H'') → gt (.ref T) (wipe σ vs) H' fun σ2 H2 => wipe σ2 vs = wipe σ vs ∧ te σ2 H2 Q') (q : LcEnd P H xs.length Q) :
    tLc (iZip K tl) gt tYes te vs σ H Q := ha _ ⟨a, b, xs, ys, rfl, hx, hy, fun D hD => by
      refine lc_zip (xs := xs) hlen (Lc P H D) (lc_zero P hD) (fun i H' p => ⟨p.2.1.seq hx, p.2.1.seq hy⟩) (fun i x y T H' hi hi2 p nT => ?_) (fun H' p => ?_)
      · have lt := (List.getElem?_eq_some_iff.mp hi).1
        simp only [e_yes, if_true]
        have s2 := same_new (o := .tup [x, y]) nT
        exact he i x y T _ _ hi hi2 (p.2.1.trans s2) upd_same fun v H'' s pv => lc_more mono p (by omega) (s2.trans s) pv
      · obtain ⟨h1, h2, acc, h3, h4, h5⟩ := p
        exact q D H' acc h1 h2 h3 h4 h5⟩
/-- which of the first n turns give, and what -/
def kept (n : Nat) (f : Nat → Bool) (v : Nat → V) : List V := ((List.range n).filter f).map v
theorem kept_yes {n : Nat} {f : Nat → Bool} {v : Nat → V} (h : f n = true) : kept (n + 1) f v = kept n f v ++ [v n] := by
  unfold kept
  rw [List.range_succ, List.filter_append, List.map_append]
  simp [h]
theorem kept_no {n : Nat} {f : Nat → Bool} {v : Nat → V} (h : f n = false) : kept (n + 1) f v = kept n f v := by
  unfold kept
  rw [List.range_succ, List.filter_append, List.map_append]
  simp [h]
theorem kept_len (n : Nat) (f : Nat → Bool) (v : Nat → V) : (kept n f v).length ≤ n := by
  unfold kept
  rw [List.length_map]
  have h := List.length_filter_le f (List.range n)
  rwa [List.length_range] at h
theorem q_lcRF {n : Nat} (f : Nat → Bool) (v : Nat → V) (ha : ∀ R, R [V.int (n : Int)] H → tl σ H R) (hn : n ≤ 50000) (hw : ∀ x, wipe ((wipe σ vs).set j (some x)) vs = wipe σ vs)
    (ht : ∀ (i : Nat) (H' : Hp) (R : Bool → Hp → Prop), i < n → Same H H' → (∀ H'', Same H' H'' → R (f i) H'') → tt ((wipe σ vs).set j (some (.int (i : Int)))) H' R)
    (he : ∀ (i : Nat) (H' : Hp) (Q' : VK), i < n → f i = true → Same H H' → (∀ H'', Same H' H'' → Q' (v i) H'') → te ((wipe σ vs).set j (some (.int (i : Int)))) H' Q')
    (q : ∀ D H', H D = none → Same H H' → H' D = some (.lst (kept n f v)) → Q (.ref D) H') :
    tLc (iRng1 tl) (gName j) tt te vs σ H Q := ha _ ⟨n, rfl, by omega, by omega, fun D hD => by
      rw [Int.toNat_natCast]
      refine lc_range (lo := 0) (n := n) (fun i H' => Same H H' ∧ H' D = some (.lst (kept i f v))) ⟨same_new hD, upd_same⟩ (fun i H' hi p => ?_) (fun H' p => ?_)
      · simp only [Int.zero_add]
        refine ⟨hw _, ht i H' _ hi p.1 fun H2 s2 => ?_⟩
        have hd := s2 _ _ p.2
        cases hf : f i with
        | true =>
          refine iteT (he i H2 _ hi hf (p.1.trans s2) fun H3 s3 => ?_)
          exact ⟨_, s3 _ _ hd, sz_lt (by have := kept_len i f v; omega), same_mut ((p.1.trans s2).trans s3) hD, by rw [upd_same, kept_yes hf]⟩
        | false =>
          refine iteF ⟨p.1.trans s2, ?_⟩
          rw [kept_no hf]
          exact hd
      · exact q D H' hD p.1 p.2⟩
end
theorem e_eqi {a b : Int} {H : Hp} {Q : VK} : rEq (.int a) (.int b) H Q = Q (.bl (decide (a = b))) H := by
  have e : decide (V.int a = V.int b) = decide (a = b) := by simp
  unfold rEq
  rw [e]
  simp [scal]
theorem e_nei {a b : Int} {H : Hp} {Q : VK} : rNe (.int a) (.int b) H Q = Q (.bl (!decide (a = b))) H := by
  have e : decide (V.int a = V.int b) = decide (a = b) := by simp
  unfold rNe
  rw [e]
  simp [scal]
theorem q_sorted {K : PySem.W.Frag} {H : Hp} {Q : VK} {a : Addr} {l : List Int} (h : SqL K H a (ivs l)) (hl : l.length < 64) (q : ∀ l' p, l'.Perm l → l'.Pairwise (· ≤ ·) → H p = none → Q (.ref p) (upd H p (.lst (ivs l')))) : rSorted K [.ref a] H Q := ⟨a, l, rfl, h, hl, q⟩
end Sky
/-! ### slices of lists of numbers -/
namespace Sky
open PySem PySem.Spec PyProof.Rows L2
theorem q_sl {K : PySem.W.Frag} {H : Hp} {Q : VK} {a : Addr} {xs : List V} {lo hi : Option Int} (h : SqL K H a xs) (q : ∀ p, H p = none → Q (.ref p) (upd H p (.lst (cutV xs lo hi)))) : rSlL K (.ref a) lo hi H Q := ⟨a, xs, rfl, h, q⟩
theorem take_ivs (l : List Int) (i : Nat) : (ivs l).take i = ivs (l.take i) := (List.map_take ..).symm
theorem drop_ivs (l : List Int) (i : Nat) : (ivs l).drop i = ivs (l.drop i) := (List.map_drop ..).symm
theorem cut_to (l : List Int) (i : Nat) : cutV (ivs l) none (some (i : Int)) = ivs (l.take i) := by
  unfold cutV
  rw [HT.sIx_none, HT.sIx_nat, List.drop_zero, Nat.sub_zero, len_ivs, take_ivs]
  by_cases c : i ≤ l.length
  · rw [Nat.min_eq_left c]
  · rw [Nat.min_eq_right (by omega), List.take_of_length_le (by omega), List.take_of_length_le (by omega)]
theorem cut_from (l : List Int) (i : Nat) : cutV (ivs l) (some (i : Int)) none = ivs (l.drop i) := by
  unfold cutV
  rw [HT.sIx_none, HT.sIx_nat, len_ivs, drop_ivs, take_ivs]
  by_cases c : i ≤ l.length
  · rw [Nat.min_eq_left c, List.take_of_length_le (by simp)]
  · rw [Nat.min_eq_right (by omega), Nat.sub_self, List.take_zero, List.drop_eq_nil_of_le (by omega)]
theorem cut_mid (l : List Int) (i j : Nat) : cutV (ivs l) (some (i : Int)) (some (j : Int)) = ivs ((l.take j).drop i) := by
  unfold cutV
  rw [HT.sIx_nat, HT.sIx_nat, len_ivs, drop_ivs, take_ivs, List.drop_take]
  congr 1
  apply List.ext_getElem?
  intro m
  rw [List.getElem?_take, List.getElem?_take, List.getElem?_drop, List.getElem?_drop]
  by_cases c : i + m < l.length
  · have e : min i l.length = i := Nat.min_eq_left (by omega)
    rw [e]
    by_cases c2 : m < j - i
    · rw [if_pos c2, if_pos (by omega)]
    · rw [if_neg c2, if_neg (by omega)]
  · have e2 : l[i + m]? = none := List.getElem?_eq_none (by omega)
    rw [e2]
    by_cases c3 : m < min j l.length - min i l.length
    · have e1 : l[min i l.length + m]? = none := List.getElem?_eq_none (by omega)
      rw [e1]
      split <;> split <;> rfl
    · rw [if_neg c3]
      split <;> rfl
end Sky

/-! Rh: errors: defs that raise, calls that let an error out, isinstance and any in an except suite. -/
namespace SkyH
open PySem PySem.Spec PyProof.Rows HotX
section
variable {prog : Program} {w : World} {A : Around} {E : Value → Shared → Prop} {s : Shared}
/-- next at the end of a list, an error being handled -/
theorem list_end_hot {it l x1 : Addr} {i : Nat} {items : Array Value} {Q : Option Value → Shared → Prop} (hot : HotAt A x1 s.heap) (hit : s.heap.IsListIter it l i) (hl : s.heap.IsList l items) (hx : items[i]? = none) (hne : x1 ≠ it)
    (hQ : ∀ h', (∀ b o, b ≠ it → s.heap.get? b = some o → h'.get? b = some o) → Q none { s with heap := h' }) : wpAny (model prog w) A (pyNext (.ref it)) Q E s := by
  obtain ⟨o, ho, hc, hd⟩ := id hit
  obtain ⟨ol, hol, _, nl, hdl⟩ := hl
  obtain ⟨hh, o1, vs1, h1, d1, c1⟩ := hot
  unfold pyNext
  refine wpAny_bind (wpAny_attempt (wpAny_callSpecial?_slot (name := Str.ofString "__next__") hit.typeIs slot_listiter_next
    (wpAny_call_entry slot_listiter_next hit.typeIs entry_listiter_next ?_ (args_listiter_next _))))
  show wpAny _ _ (field (.ref it) 0 >>= _) _ _ s
  refine wpAny_bind (wpAny_field ho hd (x := .ref l) rfl ?_)
  show wpAny _ _ (if (Value.ref l == Value.none) = true then _ else _) _ _ s
  rw [if_neg (show ¬ ((Value.ref l == Value.none) = true) from Bool.false_ne_true)]
  show wpAny _ _ (field (.ref it) 1 >>= _) _ _ s
  refine wpAny_bind (wpAny_field ho hd (x := .int i 0) rfl ?_)
  show wpAny _ _ (seqItems? (.ref l) >>= _) _ _ s
  refine wpAny_bind (wpAny_seqItems hol hdl ?_)
  simp only [Int.toNat_natCast, hx]
  refine wpAny_bind (wpAny_rule (wpAny_bind (wpAny_setField ho hd (by simp) ?_)))
  show wpAny _ _ (newExc (.type "StopIteration") [] >>= _) _ _ _
  have h1' := (Heap.get?_update_other s.heap (Obj.mapFields (·.setIfInBounds 0 Value.none)) (Ne.symm hne)).trans h1
  refine wpAny_bind ?_
  simp only [newExc, newTuple]
  refine wpAny_bind (wpAny_newObj_type ?_ (by size_fits))
  refine wpAny_bind (m := firstArgMember _ _) (wpAny_of_eq (a := Value.none) (by first | rfl | (simp only [firstArgMember]; rfl)) ?_)
  refine wpAny_newObj_type ?_ (by size_fits)
  refine raiseNew_hot ⟨hh, o1, vs1, Heap.get?_push_of_some _ (Heap.get?_push_of_some _ h1'), d1, c1⟩ (Nat.ne_of_lt (Heap.lt_size (Heap.get?_push_of_some _ h1'))) (Heap.get?_push_size _ rfl) rfl (by first | (simp; done) | (simp; omega) | (simp only [Array.size_append]; simp; omega)) ?_
  refine wpAny_bind (wpAny_isInstance (T := "StopIteration") (b := true) ⟨_, Heap.get?_update_self _ (Heap.get?_push_size _ rfl) rfl, rfl⟩ isSubtype_stop ?_)
  refine wpAny_pure (hQ _ fun b o hb e => ?_)
  have e' := (Heap.get?_update_other s.heap (Obj.mapFields (·.setIfInBounds 0 Value.none)) (Ne.symm hb)).trans e
  rw [Heap.get?_update_other _ _ (Nat.ne_of_gt (Heap.lt_size (Heap.get?_push_of_some _ e')))]
  exact Heap.get?_push_of_some _ (Heap.get?_push_of_some _ e')
theorem walks_hot {x1 : Addr} (hh : A.handled = some (.ref x1)) (I ax : Addr) (hne : ax ≠ I) (hx : x1 ≠ I) (items : Array Value) :
    Walks prog w A I [I, ax, x1] [I] items.size (fun i v => items[i]? = some v) (fun i h => h.IsListIter I ax i ∧ h.IsList ax items ∧ ∃ (o : Obj) (vs : Array Value), h.get? x1 = some o ∧ o.data = .fields vs ∧ vs[2]? = some .none) where
  sub := fun b hb => by simp at hb; simp [hb]
  frame := fun _ _ _ st hk => ⟨st.1.at fun o e => hk I (by simp) o e, st.2.1.at fun o e => hk ax (by simp) o e, by
    obtain ⟨o, vs, h1, h2, h3⟩ := st.2.2
    exact ⟨o, vs, hk x1 (by simp) o h1, h2, h3⟩⟩
  item := fun i s Q E hi st hQ => by
    refine wpAny_pyNext_list_item st.1 st.2.1 (x := items[i]) (by simp [hi]) fun h' hit' hs' => ?_
    refine hQ _ h' s.toks (by simp [hi]) ⟨hit', st.2.1.extBut hs'.extBut hne, ?_⟩ fun b o hb e => hs'.extBut b o (fun h => hb (by simp [h])) e
    obtain ⟨o, vs, h1, h2, h3⟩ := st.2.2
    exact ⟨o, vs, hs'.extBut x1 o hx h1, h2, h3⟩
  done := fun s Q E st hQ => list_end_hot ⟨hh, st.2.2⟩ st.1 st.2.1 (by simp) hx fun h' he' => hQ h' s.toks fun b o hb e => he' b o (fun h => hb (by simp [h])) e
  self := fun _ _ _ _ st hQ => wpAny_pyIter_listiter st.1 hQ
end
end SkyH
namespace Sky
open PySem PySem.Spec PyProof.Rows L2
theorem any_hot {X : Cx} {a : Addr} {oe : Obj} {cls : Value} {d : Option Addr} {pn : List (Addr × Obj)} (hz : L2N.Zn cls d oe) (hf : ∃ vs, oe.data = .fields vs) : CallR (X.suite a ((a, oe) :: pn)) (.builtin "any") (rAny X.K) := by
  intro pins s σ H vs us Q I r h
  obtain ⟨l, bs, rfl, hs, q⟩ := h
  obtain ⟨its, rv, hl, _⟩ := I.list hs
  rw [Vals.ref1 r]
  have hb := rv.bls
  obtain ⟨hget, _⟩ := I.pin (a, oe) (List.mem_append_left _ List.mem_cons_self)
  obtain ⟨vs, hv⟩ := hf
  have hn := hz.2.2 vs hv
  refine call_any_walk (iter_any hl.isList fun s₂ e2 st hne => ?_)
  subst e2
  have hxa : a ≠ s.heap.objs.size := Nat.ne_of_lt (Heap.lt_size hget)
  refine ⟨_, _, _, _, _, _, _, rfl, SkyH.walks_hot (A := (X.suite a ((a, oe) :: pn)).A.in1) rfl _ l hne hxa its.toArray, ⟨st.1, st.2, oe, vs, Heap.get?_push_of_some _ hget, hv, hn⟩, truth_bools hb, fun h' tk hk => ?_⟩
  refine ⟨.bl _, H, I.kept fun b o eo => hk b o (fun hmem => ?_) (Heap.get?_push_of_some _ eo), ?_, q⟩
  · rcases List.mem_cons.mp hmem with e1 | hmem
    · exact absurd (e1 ▸ Heap.lt_size eo) (Nat.lt_irrefl _)
    · cases hmem
  · show Value.bool _ = Value.bool _
    rw [← L2.any_range, hb, List.size_toArray, List.length_map]
/-- isinstance(e, c), e the error that the suite holds, whatever its class is -/
def rIsH (K : PySem.W.Frag) (cls : Value) (d : Option Addr) (a : Addr) : List V → Hp → VK → Prop := fun xs H Q => ∃ (D : Addr) (c : V) (cv : Value) (b : Bool), cls = .ref D ∧ d = none ∧ ExcC K D ∧ xs = [.ref a, c] ∧ ClsV c cv ∧ PySem.W.kitOne K (.ref D) cv = some b ∧ Q (.bl b) H
theorem isi_hot {X : Cx} {a : Addr} {oe : Obj} {cls : Value} {d : Option Addr} {pn : List (Addr × Obj)} (hz : L2N.Zn cls d oe) (hf : ∃ vs, oe.data = .fields vs) : CallR (X.suite a ((a, oe) :: pn)) (.builtin "isinstance") (rIsH X.K cls d a) := by
  intro pins s σ H xs us Q I r h
  obtain ⟨D, c, cv, b, rfl, rfl, C, rfl, hcv, e, q⟩ := h
  exact call_isE C hz.zc hf pins s σ H _ us Q I r ⟨c, cv, b, rfl, fun u ru => hcv.eq ru, e, q⟩
theorem isi_hotK {X Y : Cx} {K : PySem.W.Frag} {a : Addr} {oe : Obj} {cls : Value} {d : Option Addr} {pn : List (Addr × Obj)} (hz : L2N.Zn cls d oe) (hf : ∃ vs, oe.data = .fields vs) (e : Y = X.suite a ((a, oe) :: pn) := by rfl) (ek : Y.K = K := by rfl) : CallR Y (.builtin "isinstance") (rIsH K cls d a) := by
  subst ek
  subst e
  exact isi_hot hz hf
theorem any_hotK {X Y : Cx} {K : PySem.W.Frag} {a : Addr} {oe : Obj} {cls : Value} {d : Option Addr} {pn : List (Addr × Obj)} (hz : L2N.Zn cls d oe) (hf : ∃ vs, oe.data = .fields vs) (e : Y = X.suite a ((a, oe) :: pn) := by rfl) (ek : Y.K = K := by rfl) : CallR Y (.builtin "any") (rAny K) := by
  subst ek
  subst e
  exact any_hot hz hf
/-- a def that may raise -/
theorem okN {P : Program} {w : World} {K : PySem.W.Frag} {mg : Str → Option Value} {base : Heap} {x qual : Str} {st : Stmt} {f : Addr} {fd : FuncData} {N ps : List Str} {k : Nat} {sp : Sp} (F : Fun K x qual st f fd) (S : FnScope N ps (defScope st)) (len : ∀ vs H Q E, sp vs H Q E → vs.length = ps.length)
    (hbody : ∀ (cdv : Value) (A : Around) (outer : List Env) (s : Shared) (H : Hp) (vs : List V) (Q : VK) (E : XK), Room k (A.deeper (envOfC qual (defScope st) s.heap.objs.size f cdv)) → sp vs H Q E →
      ∃ t, PSs (cxOf (L2N.CX P w) P w K mg base N qual (defScope st) f cdv A outer s H E) (defBody st) t ∧ t { nx := fun _ H' => Q .non H', rt := Q } (start N vs) H) : FnOk P w K mg base (L2N.CX P w) (k + 1) f fd ps sp := by
  obtain ⟨oc, od, kV, doc, pm, an, cdv, ct, osl, rfl, lk, hcd⟩ := F.ex
  exact fn_of lk hcd S len fun A outer s H vs Q E hr hsp => hbody cdv A outer s H vs Q E hr hsp
/-- nothing is let out -/
def EF : XK := fun _ _ _ => False
theorem passF {X : Cx} : Passes (L2N.CX X.prog X.w) X EF := fun _ _ _ _ _ _ _ h => by
  obtain ⟨_, _, _, _, _, _, _, _, _, _, _, _, z⟩ := h
  exact z.elim
theorem takesF {X : Cx} : L2N.Takes X (fun _ _ _ _ => False) := fun _ _ x => by
  obtain ⟨_, _, _, _, _, _, _, _, _, _, _, _, _, _, _, _, z⟩ := x
  exact z.elim
section
variable {σ : L2.St} {H : Hp} {Q : VK} {sp : Sp} {E : L2.St → XK} {tl : TA}
theorem e_callS : tCallS sp E tl σ H Q = tl σ H fun vs H1 => sp vs H1 Q (E σ) := rfl
end
/-- what one may ask of the error that is handled -/
def HotY (K : PySem.W.Frag) (Y : Cx) (cls : Value) (d : Option Addr) (a : Addr) : Prop := CallR Y (.builtin "isinstance") (rIsH K cls d a) ∧ CallR Y (.builtin "any") (rAny K)
/-- the suite of an except clause: its reading said later -/
def TryS (K : PySem.W.Frag) (X : Cx) (b₀ : Stmt) (suite : List Stmt) : Addr → Value → Option Addr → TS := fun a cls d D σ H => ∀ (oe : Obj) (pn : List (Addr × Obj)), HotY K (X.suite a ((a, oe) :: pn)) cls d a → ∃ t, PSs (X.suite a ((a, oe) :: pn)) (b₀ :: suite) t ∧ t D σ H
/-- what the clause wishes of an error -/
def WTry (K : PySem.W.Frag) (X : Cx) (c : Value) (i : Nat) (b₀ : Stmt) (suite : List Stmt) (D : Ends) : WX := wAs K c i (TryS K X b₀ suite) (fun _ _ _ _ => False) D
/-- a try with one clause: its body's reading said later -/
def tTry (K : PySem.W.Frag) (X : Cx) (c : Value) (i : Nat) (body : List Stmt) (b₀ : Stmt) (suite : List Stmt) : TS := fun D σ H =>
  ∀ (pn : List (Addr × Obj)) (xe : Value → Shared → Prop), L2N.Takes (X.tr pn xe) (WTry K X c i b₀ suite D) → PassesOwn (model X.prog X.w) X.A X.env xe → ∃ t, PSs (X.tr pn xe) body t ∧ t D σ H
theorem ps_tryX {X : Cx} {K : PySem.W.Frag} {x n : Str} {c : Value} {i : Nat} {body suite : List Stmt} {b₀ : Stmt} {np pos pos' : Pos} (hs : X.stack = X.env :: X.outer) (hf : X.env.frame = some X.env.locals) (hN : X.N.Nodup) (hi : X.N[i]? = some n) (hln : X.env.kindOf n = some .local) (hc : Names X x c) (hK : X.K = K := by rfl) :
    PS X (.Try body [.ExceptHandler (some (.Name x np)) (some n) (b₀ :: suite) pos'] [] [] pos) (tTry K X c i body b₀ suite) := by
  subst hK
  refine L2N.ps_try_as (tb := fun W D' σ H => ∀ (pn : List (Addr × Obj)) (xe : Value → Shared → Prop), L2N.Takes (X.tr pn xe) W → PassesOwn (model X.prog X.w) X.A X.env xe → ∃ t, PSs (X.tr pn xe) body t ∧ t D' σ H) (ts := TryS X.K X b₀ suite) hs hf hN hi hln hc takesF (fun W pn xe tk po => ⟨fun pins s σ H D I h => ?_⟩) (fun a oe cls d pn hz hf => ⟨fun pins s σ H D I h => ?_⟩)
  · obtain ⟨t, h1, h2⟩ := h pn xe tk po
    exact h1.run pins s σ H D I h2
  · obtain ⟨t, h1, h2⟩ := h oe pn ⟨isi_hot hz hf, any_hot hz hf⟩
    exact h1.run pins s σ H D I h2
/-- an error of the clause's class has come -/
theorem q_caught {K : PySem.W.Frag} {X : Cx} {c : Value} {i : Nat} {b₀ : Stmt} {suite : List Stmt} {D : Ends} {σ : L2.St} {H : Hp} {cls : Value} {d : Option Addr} (hm : PySem.W.exmOne K cls c = some true)
    (h : ∀ a, H a = none → TryS K X b₀ suite a cls d { nx := fun σ' H' => D.nx (σ'.set i none) H', rt := D.rt, bk := fun σ' H' => D.bk (σ'.set i none) H', ct := fun σ' H' => D.ct (σ'.set i none) H' } (σ.set i (some (.ref a))) H) : WE (WTry K X c i b₀ suite D) σ cls d H :=
  ⟨true, hm, fun _ a na => h a na, fun z => Bool.noConfusion z⟩
end Sky

/-! Rw: further answers: list.index, reversed(range(n)), comprehensions over range(a, b) with a test. -/
namespace Sky
open PySem PySem.Spec PyProof.Rows L2
theorem mt_indexK {X : Cx} {K : PySem.W.Frag} (e : X.K = K := by rfl) : MtR X "list.index" (rIndex K) := e ▸ mt_index
theorem flat_ivs (l : List Int) : (ivs l).all flatV = true := by
  rw [List.all_eq_true]
  intro x hx
  obtain ⟨i, _, rfl⟩ := List.mem_map.mp hx
  rfl
theorem eqV_int (a b : Int) : eqV (.int a) (.int b) = decide (a = b) := by
  show (a == b) = decide (a = b)
  rw [Bool.eq_iff_iff]
  simp
theorem q_index {K : PySem.W.Frag} {H : Hp} {Q : VK} {a : Addr} {l : List Int} {m : Int} {j : Nat} (h : SqL K H a (ivs l)) (hj : j < l.length) (e : g l j = m) (no : ∀ k, k < j → g l k ≠ m) (q : Q (.int (j : Nat)) H) :
    tyV K "list" (.ref a) H ∧ rIndex K (.ref a) [.int m] H Q := by
  refine ⟨.inl ⟨rfl, _, h⟩, a, ivs l, .int m, j, .int (g l j), rfl, rfl, h, rfl, flat_ivs l, ivs_at hj, ?_, fun k z hk hz => ?_, q⟩
  · rw [eqV_int, e]
    exact decide_eq_true rfl
  · obtain ⟨hk2, rfl⟩ := of_ivs hz
    rw [eqV_int]
    exact decide_eq_false (no k hk)
section
variable {σ : L2.St} {H : Hp} {K : PySem.W.Frag} {a b : Addr} {tl : TA} {te : TE} {tb : TS} {D : Ends} {Q : VK} {j : Nat} {vs : List Nat} {tt : TT}
/-- for place in reversed(range(n)) -/
theorem q_forV {n : Nat} (ha : ∀ R : VK, R (V.int (n : Int)) H → te σ H R) (hn : n ≤ 100000) (Pv : Nat → L2.St → Hp → Prop) (h0 : Pv 0 σ H)
    (hs : ∀ (i : Nat) (σ : L2.St) (H : Hp), i < n → Pv i σ H → tb { D with nx := Pv (i + 1), ct := Pv (i + 1), bk := D.nx } (σ.set j (some (.int ((n - 1 - i : Nat) : Int)))) H) (hd : ∀ σ H, Pv n σ H → D.nx σ H) :
    tFor (iRevR (tRg1 te)) (gName j) tb D σ H := ha _ ⟨n, rfl, by omega, by omega, by omega, by omega, by
      have e : ((n : Int) - 0).toNat = n := by omega
      rw [e]
      refine for_rangeC (n := n) Pv h0 (fun i σ' H' hi p => ?_) hd
      have e2 : (0 : Int) + (n : Int) - 1 + (i : Int) * (-1) = ((n - 1 - i : Nat) : Int) := by omega
      rw [e2]
      exact hs i σ' H' hi p⟩
/-- [v(i) for i in range(lo, n) if f(i)] -/
theorem q_lcRF2 {lo n : Nat} (f : Nat → Bool) (v : Nat → V) (ha : ∀ R, R [V.int (lo : Int), V.int (n : Int)] H → tl σ H R) (hn : lo ≤ n ∧ n ≤ 50000) (hw : ∀ x, wipe ((wipe σ vs).set j (some x)) vs = wipe σ vs)
    (ht : ∀ (i : Nat) (H' : Hp) (R : Bool → Hp → Prop), lo ≤ i → i < n → Same H H' → (∀ H'', Same H' H'' → R (f i) H'') → tt ((wipe σ vs).set j (some (.int (i : Int)))) H' R)
    (he : ∀ (i : Nat) (H' : Hp) (Q' : VK), lo ≤ i → i < n → f i = true → Same H H' → (∀ H'', Same H' H'' → Q' (v i) H'') → te ((wipe σ vs).set j (some (.int (i : Int)))) H' Q')
    (q : ∀ D H', H D = none → Same H H' → H' D = some (.lst (kept (n - lo) (fun i => f (lo + i)) (fun i => v (lo + i)))) → Q (.ref D) H') :
    tLc (iRng2 tl) (gName j) tt te vs σ H Q := ha _ ⟨lo, n, rfl, ⟨by omega, by omega, by omega, by omega⟩, fun D hD => by
      have e : ((n : Int) - (lo : Int)).toNat = n - lo := by omega
      rw [e]
      refine lc_range (lo := (lo : Int)) (n := n - lo) (fun i H' => Same H H' ∧ H' D = some (.lst (kept i (fun i => f (lo + i)) (fun i => v (lo + i))))) ⟨same_new hD, upd_same⟩ (fun i H' hi p => ?_) (fun H' p => ?_)
      · have e2 : (lo : Int) + (i : Int) = ((lo + i : Nat) : Int) := by omega
        simp only [e2]
        refine ⟨hw _, ht (lo + i) H' _ (by omega) (by omega) p.1 fun H2 s2 => ?_⟩
        have hd := s2 _ _ p.2
        cases hf : f (lo + i) with
        | true =>
          refine iteT (he (lo + i) H2 _ (by omega) (by omega) hf (p.1.trans s2) fun H3 s3 => ?_)
          exact ⟨_, s3 _ _ hd, sz_lt (by have := kept_len i (fun i => f (lo + i)) (fun i => v (lo + i)); omega), same_mut ((p.1.trans s2).trans s3) hD, by rw [upd_same, kept_yes (n := i) (f := fun i => f (lo + i)) hf]⟩
        | false =>
          refine iteF ⟨p.1.trans s2, ?_⟩
          rw [kept_no (n := i) (f := fun i => f (lo + i)) hf]
          exact hd
      · exact q D H' hD p.1 p.2⟩
end
end Sky

/-! Rl: comprehensions that make lists of new lists; loops over a list with any target; in. -/
namespace Sky
open PySem PySem.Spec PyProof.Rows L2
section
variable {σ : L2.St} {H : Hp} {K : PySem.W.Frag} {a b : Addr} {xs ys : List V} {tl : TA} {tx te : TE} {Q : VK} {j k : Nat} {vs : List Nat} {gt : TG}
/-- lists at the places ts: each of its own, as L tells it -/
structure Lls (H0 H : Hp) (L : Nat → List Int) (D : Addr) (ts : List Addr) : Prop where
  nd : ts.Nodup
  nD : D ∉ ts
  fr : ∀ t ∈ ts, H0 t = none
  at_ : ∀ (m : Nat) (t : Addr), ts[m]? = some t → H t = some (.lst (ivs (L m)))
theorem Lls.more {H0 H H' : Hp} {L : Nat → List Int} {D : Addr} {ts : List Addr} (h : Lls H0 H L D ts) (s : Same H H') : Lls H0 H' L D ts := ⟨h.nd, h.nD, h.fr, fun m t e => s _ _ (h.at_ m t e)⟩
def LcL (L : Nat → List Int) (H : Hp) (D : Addr) (i : Nat) (H' : Hp) : Prop := H D = none ∧ Same H H' ∧ ∃ ts : List Addr, H' D = some (.lst (ts.map V.ref)) ∧ ts.length = i ∧ Lls H H' L D ts
theorem lcL_zero (L : Nat → List Int) {D : Addr} (h : H D = none) : LcL L H D 0 (upd H D (.lst [])) :=
  ⟨h, same_new h, [], upd_same, rfl, List.nodup_nil, by simp, by simp, fun m t e => by simp at e⟩
theorem lcL_more {L : Nat → List Int} {D : Addr} {i : Nat} {H1 H2 : Hp} {t : Addr} (h : LcL L H D i H1) (hi : i < 100000) (s : Same H1 H2) (nt : H1 t = none) (p : H2 t = some (.lst (ivs (L i)))) :
    ∃ acc, H2 D = some (.lst acc) ∧ acc.length < sizeLine ∧ LcL L H D (i + 1) (upd H2 D (.lst (acc ++ [V.ref t]))) := by
  obtain ⟨h1, h2, ts, h3, h4, h5⟩ := h
  have e := s _ _ h3
  have tD : t ≠ D := (ne_of_none h3 nt).symm
  have tts : t ∉ ts := fun m => by
    obtain ⟨k, hk, ek⟩ := List.getElem_of_mem m
    have := h5.at_ k t (by rw [List.getElem?_eq_getElem hk, ek])
    rw [nt] at this
    cases this
  refine ⟨_, e, by rw [List.length_map, h4]; exact sz_lt hi, h1, same_mut (h2.trans s) h1, ts ++ [t], ?_, by rw [List.length_append, h4]; rfl, ?_, ?_, ?_, fun m u hm => ?_⟩
  · rw [upd_same, List.map_append]
    rfl
  · rw [List.nodup_append]
    refine ⟨h5.nd, by simp, fun x hx y hy => ?_⟩
    have : y = t := by simpa using hy
    subst this
    intro e
    subst e
    exact tts hx
  · intro m
    rcases List.mem_append.mp m with m | m
    · exact h5.nD m
    · exact tD ((by simpa using m : D = t).symm)
  · intro u hu
    rcases List.mem_append.mp hu with m | m
    · exact h5.fr u m
    · have : u = t := by simpa using m
      subst this
      exact h2.free nt
  · by_cases c : m < i
    · rw [List.getElem?_append_left (by omega)] at hm
      have uD : u ≠ D := fun e => h5.nD (e ▸ List.mem_of_getElem? hm)
      rw [upd_ne uD]
      exact s _ _ (h5.at_ m u hm)
    · have e2 : m = i := by
        have := (List.getElem?_eq_some_iff.mp hm).1
        rw [List.length_append, h4] at this
        simp at this
        omega
      subst e2
      rw [List.getElem?_append_right (by omega), h4] at hm
      simp at hm
      subst hm
      rw [upd_ne tD]
      exact p
abbrev LlEnd (L : Nat → List Int) (H : Hp) (n : Nat) (Q : VK) : Prop := ∀ D H' ts, H D = none → Same H H' → H' D = some (.lst (ts.map V.ref)) → ts.length = n → Lls H H' L D ts → Q (.ref D) H'
/-- [a new list for i in range(n)] -/
theorem q_lcRL {n : Nat} (L : Nat → List Int) (ha : ∀ R, R [V.int (n : Int)] H → tl σ H R) (hn : n ≤ 50000) (hw : ∀ x, wipe ((wipe σ vs).set j (some x)) vs = wipe σ vs)
    (he : ∀ (i : Nat) (H' : Hp) (Q' : VK), i < n → Same H H' → (∀ t H'', H' t = none → Same H' H'' → H'' t = some (.lst (ivs (L i))) → Q' (.ref t) H'') → te ((wipe σ vs).set j (some (.int (i : Int)))) H' Q') (q : LlEnd L H n Q) :
    tLc (iRng1 tl) (gName j) tYes te vs σ H Q := ha _ ⟨n, rfl, by omega, by omega, fun D hD => by
      rw [Int.toNat_natCast]
      refine lc_range (lo := 0) (n := n) (LcL L H D) (lcL_zero L hD) (fun i H' hi p => ?_) (fun H' p => ?_)
      · show wipe ((wipe σ vs).set j (some (.int ((0 : Int) + (i : Int))))) vs = wipe σ vs ∧ tYes ((wipe σ vs).set j (some (.int ((0 : Int) + (i : Int))))) H' fun b H3 => if b = true then te ((wipe σ vs).set j (some (.int ((0 : Int) + (i : Int))))) H3 fun y H4 => ∃ acc, H4 D = some (.lst acc) ∧ acc.length < sizeLine ∧ LcL L H D (i + 1) (upd H4 D (.lst (acc ++ [y]))) else LcL L H D (i + 1) H3
        rw [Int.zero_add]
        refine ⟨hw _, ?_⟩
        simp only [e_yes, if_true]
        exact he i H' _ hi p.2.1 fun t H'' nt s pt => lcL_more p (by omega) s nt pt
      · obtain ⟨h1, h2, ts, h3, h4, h5⟩ := p
        exact q D H' ts h1 h2 h3 h4 h5⟩
/-- [a new list for x in a list] -/
theorem q_lcLL (L : Nat → List Int) (ha : ∀ R : VK, R (V.ref a) H → tx σ H R) (hx : SqL K H a xs) (hn : xs.length ≤ 50000) (hw : ∀ x, wipe ((wipe σ vs).set j (some x)) vs = wipe σ vs)
    (he : ∀ (i : Nat) (x : V) (H' : Hp) (Q' : VK), xs[i]? = some x → Same H H' → (∀ t H'', H' t = none → Same H' H'' → H'' t = some (.lst (ivs (L i))) → Q' (.ref t) H'') → te ((wipe σ vs).set j (some x)) H' Q') (q : LlEnd L H xs.length Q) :
    tLc (iList K tx) (gName j) tYes te vs σ H Q := ha _ ⟨a, rfl, ⟨xs, hx⟩, fun D hD => by
      refine lc_list (xs := xs) (LcL L H D) (lcL_zero L hD) (fun i H' _ p => p.2.1.seq hx) (fun i x H' hi p => ?_) (fun H' p => ?_)
      · have lt := (List.getElem?_eq_some_iff.mp hi).1
        refine ⟨hw _, ?_⟩
        simp only [e_yes, if_true, e_name]
        exact he i x H' _ hi p.2.1 fun t H'' nt s pt => lcL_more p (by omega) s nt pt
      · obtain ⟨h1, h2, ts, h3, h4, h5⟩ := p
        exact q D H' ts h1 h2 h3 h4 h5⟩
end
section
variable {σ : L2.St} {H : Hp} {K : PySem.W.Frag} {a : Addr} {xs : List V} {te : TE} {tb : TS} {D : Ends} {gt : TG} {Q : VK}
theorem q_forG (ha : ∀ R : VK, R (V.ref a) H → te σ H R) (Pv : Nat → L2.St → Hp → Prop) (h0 : Pv 0 σ H) (hq : ∀ i σ H, Pv i σ H → SqL K H a xs)
    (hs : ∀ (i : Nat) (x : V) (σ : L2.St) (H : Hp), xs[i]? = some x → Pv i σ H → gt x σ H fun σ2 H2 => tb { D with nx := Pv (i + 1), ct := Pv (i + 1), bk := D.nx } σ2 H2) (hd : ∀ σ H, Pv xs.length σ H → D.nx σ H) :
    tFor (iList K te) gt tb D σ H := ha _ ⟨a, rfl, ⟨xs, hq 0 σ H h0⟩, for_list Pv h0 (fun i σ H _ p => hq i σ H p) hs hd⟩
/-- a loop over a list that is made for it: the list first, then forA -/
def forA (K : PySem.W.Frag) (g : TG) (tb : TS) (D : Ends) (σ : L2.St) (x : V) (H1 : Hp) : Prop := ∃ a, x = .ref a ∧ (∃ xs, SqL K H1 a xs) ∧ ∃ W : Nat → Nat → L2.St → Hp → Prop, (∃ m, W 0 m σ H1) ∧ ∀ i m σ H, W i m σ H →
  ((Itl K a).stop i H ∧ D.nx σ H) ∨ ((Itl K a).go i H ∧ ∃ N : L2.St → Hp → Prop, (∀ σ' H', N σ' H' → ∃ m', m' < m ∧ W (i + 1) m' σ' H') ∧ ∀ x H', (Itl K a).yld i H x H' → g x σ H' fun σ2 H2 => tb { D with nx := N, ct := N, bk := D.nx } σ2 H2)
theorem e_forA : tFor (iList K te) gt tb D σ H = te σ H fun x H1 => forA K gt tb D σ x H1 := rfl
theorem q_forA (Pv : Nat → L2.St → Hp → Prop) (h0 : Pv 0 σ H) (hq : ∀ i σ H, Pv i σ H → SqL K H a xs)
    (hs : ∀ (i : Nat) (x : V) (σ : L2.St) (H : Hp), xs[i]? = some x → Pv i σ H → gt x σ H fun σ2 H2 => tb { D with nx := Pv (i + 1), ct := Pv (i + 1), bk := D.nx } σ2 H2) (hd : ∀ σ H, Pv xs.length σ H → D.nx σ H) :
    forA K gt tb D σ (.ref a) H := ⟨a, rfl, ⟨xs, hq 0 σ H h0⟩, for_list Pv h0 (fun i σ H _ p => hq i σ H p) hs hd⟩
theorem inV_ivs (m : Int) : ∀ l : List Int, inV (.int m) (ivs l) = decide (m ∈ l)
  | [] => by simp [inV]
  | x :: r => by
    have ih := inV_ivs m r
    unfold inV at ih ⊢
    rw [show ivs (x :: r) = V.int x :: ivs r from rfl, List.any_cons, ih, eqV_int, Bool.eq_iff_iff]
    simp only [Bool.or_eq_true, decide_eq_true_eq, List.mem_cons]
    constructor
    · rintro (e | e)
      · exact .inl e.symm
      · exact .inr e
    · rintro (e | e)
      · exact .inl e.symm
      · exact .inr e
theorem q_in {l : List Int} {m : Int} (h : SqL K H a (ivs l)) (q : Q (.bl (decide (m ∈ l))) H) : rIn K false (.int m) (.ref a) H Q :=
  ⟨a, _, rfl, .inl h, rfl, flat_ivs l, by rw [inV_ivs]; exact q⟩
end
end Sky

/-! P0: the text by places, what its top holds. -/
namespace Sky
open PySem PySem.Spec PyProof.Rows L2
def top (i : Nat) : Stmt := PySem.Challenge.pw_skybars_k07_whole_tree_back.main.body.getD i (.Pass ⟨0, 0, 0, 0⟩)
structure Cl where
  BarError : Addr
  BadBars : Addr
  NoBar : Addr
  BadPlace : Addr
  BadTree : Addr
  BadLinks : Addr
structure Txt (K : PySem.W.Frag) (mg : Str → Option Value) (CL : Cl) : Prop where
  m_len : mg "len" = none
  m_isinstance : mg "isinstance" = none
  m_all : mg "all" = none
  m_any : mg "any" = none
  m_sum : mg "sum" = none
  m_max : mg "max" = none
  m_sorted : mg "sorted" = none
  m_list : mg "list" = none
  m_int : mg "int" = none
  m_bool : mg "bool" = none
  m_range : mg "range" = none
  m_enumerate : mg "enumerate" = none
  m_ValueError : mg "ValueError" = none
  c_HIGHEST : ∃ t, mg "HIGHEST" = some (.int 10000000 t)
  c_BarError : mg "BarError" = some (.ref CL.BarError)
  xi_BarError : PySem.W.excIn K CL.BarError [.type "ValueError", .type "Exception", .type "BaseException", .type "object"] "ValueError.__new__" = true
  kx_BarError : PySem.W.keepIn K (.ref CL.BarError) = true
  bx_BarError : PySem.W.subIn K (.ref CL.BarError) (.type "BaseException") = some true
  tx_BarError : PySem.W.typeIn K (.ref CL.BarError) = some (.type "type")
  ec_BarError : ExcC K CL.BarError
  em_BarError : PySem.W.exmOne K (.ref CL.BarError) (.ref CL.BarError) = some true
  kv_BarError : PySem.W.kitOne K (.ref CL.BarError) (.type "ValueError") = some true
  ke_BarError_BarError : PySem.W.kitOne K (.ref CL.BarError) (.ref CL.BarError) = some true
  ke_BarError_BadBars : PySem.W.kitOne K (.ref CL.BarError) (.ref CL.BadBars) = some false
  ke_BarError_NoBar : PySem.W.kitOne K (.ref CL.BarError) (.ref CL.NoBar) = some false
  ke_BarError_BadPlace : PySem.W.kitOne K (.ref CL.BarError) (.ref CL.BadPlace) = some false
  ke_BarError_BadTree : PySem.W.kitOne K (.ref CL.BarError) (.ref CL.BadTree) = some false
  ke_BarError_BadLinks : PySem.W.kitOne K (.ref CL.BarError) (.ref CL.BadLinks) = some false
  c_BadBars : mg "BadBars" = some (.ref CL.BadBars)
  xi_BadBars : PySem.W.excIn K CL.BadBars [.type "ValueError", .type "Exception", .type "BaseException", .type "object"] "ValueError.__new__" = true
  kx_BadBars : PySem.W.keepIn K (.ref CL.BadBars) = true
  bx_BadBars : PySem.W.subIn K (.ref CL.BadBars) (.type "BaseException") = some true
  tx_BadBars : PySem.W.typeIn K (.ref CL.BadBars) = some (.type "type")
  ec_BadBars : ExcC K CL.BadBars
  em_BadBars : PySem.W.exmOne K (.ref CL.BadBars) (.ref CL.BarError) = some true
  kv_BadBars : PySem.W.kitOne K (.ref CL.BadBars) (.type "ValueError") = some true
  ke_BadBars_BarError : PySem.W.kitOne K (.ref CL.BadBars) (.ref CL.BarError) = some true
  ke_BadBars_BadBars : PySem.W.kitOne K (.ref CL.BadBars) (.ref CL.BadBars) = some true
  ke_BadBars_NoBar : PySem.W.kitOne K (.ref CL.BadBars) (.ref CL.NoBar) = some false
  ke_BadBars_BadPlace : PySem.W.kitOne K (.ref CL.BadBars) (.ref CL.BadPlace) = some false
  ke_BadBars_BadTree : PySem.W.kitOne K (.ref CL.BadBars) (.ref CL.BadTree) = some false
  ke_BadBars_BadLinks : PySem.W.kitOne K (.ref CL.BadBars) (.ref CL.BadLinks) = some false
  c_NoBar : mg "NoBar" = some (.ref CL.NoBar)
  xi_NoBar : PySem.W.excIn K CL.NoBar [.type "ValueError", .type "Exception", .type "BaseException", .type "object"] "ValueError.__new__" = true
  kx_NoBar : PySem.W.keepIn K (.ref CL.NoBar) = true
  bx_NoBar : PySem.W.subIn K (.ref CL.NoBar) (.type "BaseException") = some true
  tx_NoBar : PySem.W.typeIn K (.ref CL.NoBar) = some (.type "type")
  ec_NoBar : ExcC K CL.NoBar
  em_NoBar : PySem.W.exmOne K (.ref CL.NoBar) (.ref CL.BarError) = some true
  kv_NoBar : PySem.W.kitOne K (.ref CL.NoBar) (.type "ValueError") = some true
  ke_NoBar_BarError : PySem.W.kitOne K (.ref CL.NoBar) (.ref CL.BarError) = some true
  ke_NoBar_BadBars : PySem.W.kitOne K (.ref CL.NoBar) (.ref CL.BadBars) = some false
  ke_NoBar_NoBar : PySem.W.kitOne K (.ref CL.NoBar) (.ref CL.NoBar) = some true
  ke_NoBar_BadPlace : PySem.W.kitOne K (.ref CL.NoBar) (.ref CL.BadPlace) = some false
  ke_NoBar_BadTree : PySem.W.kitOne K (.ref CL.NoBar) (.ref CL.BadTree) = some false
  ke_NoBar_BadLinks : PySem.W.kitOne K (.ref CL.NoBar) (.ref CL.BadLinks) = some false
  c_BadPlace : mg "BadPlace" = some (.ref CL.BadPlace)
  xi_BadPlace : PySem.W.excIn K CL.BadPlace [.type "ValueError", .type "Exception", .type "BaseException", .type "object"] "ValueError.__new__" = true
  kx_BadPlace : PySem.W.keepIn K (.ref CL.BadPlace) = true
  bx_BadPlace : PySem.W.subIn K (.ref CL.BadPlace) (.type "BaseException") = some true
  tx_BadPlace : PySem.W.typeIn K (.ref CL.BadPlace) = some (.type "type")
  ec_BadPlace : ExcC K CL.BadPlace
  em_BadPlace : PySem.W.exmOne K (.ref CL.BadPlace) (.ref CL.BarError) = some true
  kv_BadPlace : PySem.W.kitOne K (.ref CL.BadPlace) (.type "ValueError") = some true
  ke_BadPlace_BarError : PySem.W.kitOne K (.ref CL.BadPlace) (.ref CL.BarError) = some true
  ke_BadPlace_BadBars : PySem.W.kitOne K (.ref CL.BadPlace) (.ref CL.BadBars) = some false
  ke_BadPlace_NoBar : PySem.W.kitOne K (.ref CL.BadPlace) (.ref CL.NoBar) = some false
  ke_BadPlace_BadPlace : PySem.W.kitOne K (.ref CL.BadPlace) (.ref CL.BadPlace) = some true
  ke_BadPlace_BadTree : PySem.W.kitOne K (.ref CL.BadPlace) (.ref CL.BadTree) = some false
  ke_BadPlace_BadLinks : PySem.W.kitOne K (.ref CL.BadPlace) (.ref CL.BadLinks) = some false
  c_BadTree : mg "BadTree" = some (.ref CL.BadTree)
  xi_BadTree : PySem.W.excIn K CL.BadTree [.type "ValueError", .type "Exception", .type "BaseException", .type "object"] "ValueError.__new__" = true
  kx_BadTree : PySem.W.keepIn K (.ref CL.BadTree) = true
  bx_BadTree : PySem.W.subIn K (.ref CL.BadTree) (.type "BaseException") = some true
  tx_BadTree : PySem.W.typeIn K (.ref CL.BadTree) = some (.type "type")
  ec_BadTree : ExcC K CL.BadTree
  em_BadTree : PySem.W.exmOne K (.ref CL.BadTree) (.ref CL.BarError) = some true
  kv_BadTree : PySem.W.kitOne K (.ref CL.BadTree) (.type "ValueError") = some true
  ke_BadTree_BarError : PySem.W.kitOne K (.ref CL.BadTree) (.ref CL.BarError) = some true
  ke_BadTree_BadBars : PySem.W.kitOne K (.ref CL.BadTree) (.ref CL.BadBars) = some false
  ke_BadTree_NoBar : PySem.W.kitOne K (.ref CL.BadTree) (.ref CL.NoBar) = some false
  ke_BadTree_BadPlace : PySem.W.kitOne K (.ref CL.BadTree) (.ref CL.BadPlace) = some false
  ke_BadTree_BadTree : PySem.W.kitOne K (.ref CL.BadTree) (.ref CL.BadTree) = some true
  ke_BadTree_BadLinks : PySem.W.kitOne K (.ref CL.BadTree) (.ref CL.BadLinks) = some false
  c_BadLinks : mg "BadLinks" = some (.ref CL.BadLinks)
  xi_BadLinks : PySem.W.excIn K CL.BadLinks [.type "ValueError", .type "Exception", .type "BaseException", .type "object"] "ValueError.__new__" = true
  kx_BadLinks : PySem.W.keepIn K (.ref CL.BadLinks) = true
  bx_BadLinks : PySem.W.subIn K (.ref CL.BadLinks) (.type "BaseException") = some true
  tx_BadLinks : PySem.W.typeIn K (.ref CL.BadLinks) = some (.type "type")
  ec_BadLinks : ExcC K CL.BadLinks
  em_BadLinks : PySem.W.exmOne K (.ref CL.BadLinks) (.ref CL.BarError) = some true
  kv_BadLinks : PySem.W.kitOne K (.ref CL.BadLinks) (.type "ValueError") = some true
  ke_BadLinks_BarError : PySem.W.kitOne K (.ref CL.BadLinks) (.ref CL.BarError) = some true
  ke_BadLinks_BadBars : PySem.W.kitOne K (.ref CL.BadLinks) (.ref CL.BadBars) = some false
  ke_BadLinks_NoBar : PySem.W.kitOne K (.ref CL.BadLinks) (.ref CL.NoBar) = some false
  ke_BadLinks_BadPlace : PySem.W.kitOne K (.ref CL.BadLinks) (.ref CL.BadPlace) = some false
  ke_BadLinks_BadTree : PySem.W.kitOne K (.ref CL.BadLinks) (.ref CL.BadTree) = some false
  ke_BadLinks_BadLinks : PySem.W.kitOne K (.ref CL.BadLinks) (.ref CL.BadLinks) = some true

end Sky

/-! P1: is_number, asked_bars: for numbers, for good bars. -/
namespace Sky
open PySem PySem.Spec PyProof.Rows L2
local macro_rules | `(tactic| walk_at "sx") => `(tactic| try simp only [e_K, e_seq, e_asg, e_name, e_drop, e_ret, e_retN, e_ifs, e_next, e_var, e_c, e_op, e_un, e_rI0, e_rI, e_rU, e_test, e_B, e_bl, e_and, e_or, e_not, e_andV, e_orV, e_notV, e_if, e_CB, e_CKw, e_cons, e_nil, e_call,
  e_chn, e_cCons, e_cOne, e_BM, e_BM0, e_sub, e_par, e_ls, e_noP, e_part, e_intx, e_refx, e_yes, e_get0, e_getS, e_sl, List.set_cons_zero, List.set_cons_succ, List.cons_append, List.nil_append, List.append_nil, Bool.not_true, Bool.not_false, e_lst, e_tup, e_rev, e_eqi, e_nei, decide_true, decide_false, if_true, Bool.false_eq_true, if_false, e_callS])
abbrev s_is_number : Stmt := top 9
abbrev N_is_number : List Str := ["thing", "least", "most"]
theorem sc_is_number : FnScope ["thing", "least", "most"] ["thing", "least", "most"] (defScope s_is_number) := ⟨rfl, rfl, rfl, by decide +kernel, rfl, by decide +kernel, by decide +kernel⟩
def sp_is_number (K : PySem.W.Frag) : Sp := Sp3 fun x y z H Q _ => ∃ i lo hi : Int, x = .int i ∧ y = .int lo ∧ z = .int hi ∧ Q (.bl (decide (lo ≤ i ∧ i ≤ hi))) H
theorem ok_is_number {P : Program} {w : World} {K : PySem.W.Frag} {mg : Str → Option Value} {base : Heap} {CL : Cl} (D : Def K mg "is_number" ["thing", "least", "most"] s_is_number) (T : Txt K mg CL)  : Has P w K mg base CX0 1 "is_number" ["thing", "least", "most"] (sp_is_number K) := by
  obtain ⟨f, fd, gm, F, bb⟩ := D
  refine ⟨f, fd, gm, F.ok sc_is_number (fun vs H Q E h => ?_) (fun cdv A outer s H vs Q E hr h => ?_), F.kp, bb⟩
  · obtain ⟨x1, x2, x3, rfl, _⟩ := h
    rfl
  obtain ⟨x1, x2, x3, rfl, h⟩ := h
  refine ⟨_, (pss_one (ps_ret (pe_and (pe_callB (isiK (K := K)) (by rfl) T.m_isinstance bt_isinstance (pa_cons (pv 0) (pa_cons (pe_bltn (v := V.ty "int") (by rfl) T.m_int bt_int rfl) pa_nil))) (pe_and (pe_not (pe_callB (isiK (K := K)) (by rfl) T.m_isinstance bt_isinstance (pa_cons (pv 0) (pa_cons (pe_bltn (v := V.ty "bool") (by rfl) T.m_bool bt_bool rfl) pa_nil)))) (pe_one (pe_chn (pv 1) (pch_cons op_le (pv 0) (pch_one op_le (pv 2))))))))), start_is (σ := [some x1, some x2, some x3]) rfl ?_⟩
  obtain ⟨i, lo, hi, rfl, rfl, rfl, q⟩ := h
  walk_at "sx"
  refine q_isi tyx_int kb_ii ?_
  walk_at "sx"
  refine q_isi tyx_int kb_ib ?_
  walk_at "sx"
  by_cases c : lo ≤ i
  · simpa [c] using q
  · simpa [c] using q
abbrev s_asked_bars : Stmt := top 10
abbrev N_asked_bars : List Str := ["bars", "bar"]
theorem sc_asked_bars : FnScope ["bars", "bar"] ["bars"] (defScope s_asked_bars) := ⟨rfl, rfl, rfl, by decide +kernel, rfl, by decide +kernel, by decide +kernel⟩
def sp_asked_bars (K : PySem.W.Frag) : Sp := Sp1 fun x H Q _ => ∃ (a : Addr) (bs : List Int), x = .ref a ∧ SqL K H a (ivs bs) ∧ Good bs ∧ bs.length ≤ 1000 ∧ ∀ H', Same H H' → Q .non H'
theorem ok_asked_bars {P : Program} {w : World} {K : PySem.W.Frag} {mg : Str → Option Value} {base : Heap} {CL : Cl} (D : Def K mg "asked_bars" ["bars"] s_asked_bars) (T : Txt K mg CL) (h_is_number : Has P w K mg base CX0 1 "is_number" ["thing", "least", "most"] (sp_is_number K)) : Has P w K mg base CX0 2 "asked_bars" ["bars"] (sp_asked_bars K) := by
  obtain ⟨f, fd, gm, F, bb⟩ := D
  obtain ⟨f_is_number, fd_is_number, g_is_number, G_is_number, k_is_number, b_is_number⟩ := h_is_number
  obtain ⟨t_HIGHEST, c_HIGHEST⟩ := T.c_HIGHEST
  refine ⟨f, fd, gm, F.ok sc_asked_bars (fun vs H Q E h => ?_) (fun cdv A outer s H vs Q E hr h => ?_), F.kp, bb⟩
  · obtain ⟨x1, rfl, _⟩ := h
    rfl
  have hr_is_number : Room 1 (A.deeper (envOfC "asked_bars" (defScope s_asked_bars) s.heap.objs.size f cdv)) := hr.mono (by decide)
  obtain ⟨x1, rfl, h⟩ := h
  refine ⟨_, (pss_one (ps_if (PW.pt (pw_or (pt_not (pt_val (pe_callB (isiK (K := K)) (by rfl) T.m_isinstance bt_isinstance (pa_cons (pv 0) (pa_cons (pe_bltn (v := V.ty "list") (by rfl) T.m_list bt_list rfl) pa_nil))))) (pw_or1 (pt_not (pt_val (pe_callB (allK (K := K) rfl) (by rfl) T.m_all bt_all (pa_cons (pe_lc (own := [("bar", 1)]) (g := (gName 1)) (tt := tYes) (by rfl) sc_asked_bars.nd (pi_list (pv 0)) (blkOk_by (own := [("bar", 1)]) (N := N_asked_bars) (sc := defScope s_asked_bars) (by decide +kernel)) (fun _ _ _ _ _ => (pg_name (i := 1) sc_asked_bars.nd rfl (Or.inl rfl))) (fun _ _ _ _ _ => pts_nil) (fun _ _ _ _ _ => (pe_call G_is_number hr_is_number (by rfl) g_is_number k_is_number b_is_number .nil pass0 (pa_cons (pv 1) (pa_cons pe_int (pa_cons (pe_glob (v := V.int 10000000) (by rfl) c_HIGHEST ⟨_, rfl⟩) pa_nil)))))) pa_nil))))))) (pss_one ps_never) pss_nil)), start_is (σ := [some x1, none]) rfl ?_⟩
  obtain ⟨a, bs, rfl, hS, good, hlen, q⟩ := h
  walk_at "sx"
  refine q_isi (tyx_list hS) kb_ll ?_
  walk_at "sx"
  refine q_lcL (fun i v _ => v = .bl true) (fun R r => ⟨_, rfl, r⟩) hS (by rw [len_ivs]; omega) (fun _ => rfl) (fun _ _ _ _ e _ => e) (fun i x H' Q' hx s1 k => ?_) ?_
  · obtain ⟨hi, rfl⟩ := of_ivs hx
    have gd := good.at hi
    refine ⟨_, rfl, _, _, _, rfl, _, _, _, rfl, rfl, rfl, k _ _ (Same.refl _) ?_⟩
    exact congrArg V.bl (decide_eq_true gd)
  · intro D H' acc _ s1 hd hl hv
    have e := acc_bls (f := fun _ => true) hl hv
    rw [len_ivs] at e
    subst e
    refine q_all (SqL.of hd) ?_
    walk_at "sx"
    rw [if_neg (by simp)]
    exact q _ s1

end Sky

/-! Mb: plain mathematics of boards. -/
namespace Sky
/-- a pair bounds the reach of a bar, and no board in it as high as the bar is greater than tot -/
def Bnd (bs : List Int) (tot : Int) (i : Nat) (p : Int × Int) : Prop :=
  0 ≤ p.1 ∧ p.1 ≤ (i : Int) ∧ (i : Int) ≤ p.2 ∧ p.2 < (bs.length : Int) ∧ (0 < p.1 → g bs (p.1 - 1).toNat < g bs i) ∧ (p.2 < (bs.length : Int) - 1 → g bs (p.2 + 1).toNat < g bs i) ∧ g bs i * (p.2 - p.1 + 1) ≤ tot
def Lies (bs : List Int) (f m h : Int) : Prop := 0 ≤ f ∧ 1 ≤ m ∧ 0 ≤ h ∧ f + m ≤ (bs.length : Int) ∧ ∀ k : Nat, f ≤ (k : Int) → (k : Int) < f + m → h ≤ g bs k
def Under (bs : List Int) (f m h : Int) (rs : List (Int × Int)) : Prop := Lies bs f m h ∧ rs.length = bs.length ∧ ∀ i, i < bs.length → Bnd bs (m * h) i (rs.getD i (0, 0))
def rf (bs : List Int) (i : Nat) : Int := (reach bs i).1
def rl (bs : List Int) (i : Nat) : Int := (reach bs i).2
def size (bs : List Int) (i : Nat) : Int := g bs i * (rl bs i - rf bs i + 1)
theorem rf_ge (bs : List Int) (i : Nat) : 0 ≤ rf bs i := by
  have := link_ge bs i
  unfold rf reach
  simp only
  omega
theorem rf_le (bs : List Int) (i : Nat) : rf bs i ≤ (i : Int) := by
  have := link_lt bs i
  unfold rf reach
  simp only
  omega
theorem rl_ge {bs : List Int} {i : Nat} (h : i < bs.length) : (i : Int) ≤ rl bs i := by
  have := behind_gt h
  unfold rl reach
  simp only
  omega
theorem rl_lt {bs : List Int} {i : Nat} : rl bs i < (bs.length : Int) := by
  have := behind_le (bs := bs) i
  unfold rl reach
  simp only
  omega
theorem rf_low {bs : List Int} {i : Nat} (h : 0 < rf bs i) : g bs (rf bs i - 1).toNat < g bs i := by
  have e : rf bs i - 1 = link bs i := by
    unfold rf reach
    simp only
    omega
  rw [e]
  have h2 : 0 ≤ link bs i := by omega
  exact down_low bs (g bs i) i _ (by rw [Int.toNat_of_nonneg h2]; rfl)
theorem rf_all {bs : List Int} {i k : Nat} (h1 : rf bs i ≤ (k : Int)) (h2 : k ≤ i) : g bs i ≤ g bs k := by
  by_cases e : k = i
  · rw [e]
    exact Int.le_refl _
  · refine down_between bs (g bs i) i k (by omega) ?_
    have : rf bs i = link bs i + 1 := rfl
    unfold link at this
    omega
theorem rl_rev {bs : List Int} {i : Nat} (h : i < bs.length) : rl bs i = (bs.length : Int) - 1 - rf bs.reverse (bs.length - 1 - i) := by
  unfold rl rf reach behind
  simp only
  omega
theorem rl_low {bs : List Int} {i : Nat} (h : i < bs.length) (h2 : rl bs i < (bs.length : Int) - 1) : g bs (rl bs i + 1).toNat < g bs i := by
  have e := rl_rev h
  have a := rf_low (bs := bs.reverse) (i := bs.length - 1 - i) (by omega)
  have l1 := rf_le bs.reverse (bs.length - 1 - i)
  rw [g_rev (by omega), g_rev (by omega)] at a
  have e1 : bs.length - 1 - (rf bs.reverse (bs.length - 1 - i) - 1).toNat = (rl bs i + 1).toNat := by omega
  have e2 : bs.length - 1 - (bs.length - 1 - i) = i := by omega
  rwa [e1, e2] at a
theorem rl_all {bs : List Int} {i k : Nat} (h : i < bs.length) (h1 : (k : Int) ≤ rl bs i) (h2 : i ≤ k) : g bs i ≤ g bs k := by
  have e := rl_rev h
  have lt := rl_lt (bs := bs) (i := i)
  have a := rf_all (bs := bs.reverse) (i := bs.length - 1 - i) (k := bs.length - 1 - k) (by omega) (by omega)
  rw [g_rev (by omega), g_rev (by omega)] at a
  have e1 : bs.length - 1 - (bs.length - 1 - i) = i := by omega
  have e2 : bs.length - 1 - (bs.length - 1 - k) = k := by omega
  rwa [e1, e2] at a
/-- a stretch no bar of which is lower lies in the reach -/
theorem in_reach {bs : List Int} {i lo j : Nat} (h1 : i ≤ lo) (h2 : lo ≤ j) (h3 : j < bs.length) (h : ∀ k, i ≤ k → k ≤ j → g bs lo ≤ g bs k) : rf bs lo ≤ (i : Int) ∧ (j : Int) ≤ rl bs lo := by
  have hl : lo < bs.length := by omega
  constructor
  · have l1 := rf_le bs lo
    by_cases c : rf bs lo ≤ (i : Int)
    · exact c
    · have a := rf_low (bs := bs) (i := lo) (by omega)
      have b := h (rf bs lo - 1).toNat (by omega) (by omega)
      omega
  · have l1 := rl_ge hl
    by_cases c : (j : Int) ≤ rl bs lo
    · exact c
    · have a := rl_low hl (by omega)
      have b := h (rl bs lo + 1).toNat (by omega) (by omega)
      omega
theorem reachL_at {bs : List Int} {i : Nat} (h : i < bs.length) : (reachL bs).getD i (0, 0) = (rf bs i, rl bs i) := by
  unfold reachL
  rw [List.getD_eq_getElem?_getD, List.getElem?_map, List.getElem?_range h]
  rfl
theorem bnd_reach {bs : List Int} {i : Nat} {tot : Int} (h : i < bs.length) (ht : size bs i ≤ tot) : Bnd bs tot i (rf bs i, rl bs i) :=
  ⟨rf_ge bs i, rf_le bs i, rl_ge h, rl_lt, fun c => rf_low c, fun c => rl_low h c, ht⟩
theorem lies_reach {bs : List Int} (hg : Good bs) {i : Nat} (h : i < bs.length) : Lies bs (rf bs i) (rl bs i - rf bs i + 1) (g bs i) := by
  have a := rf_ge bs i
  have b := rf_le bs i
  have c := rl_ge h
  have d := rl_lt (bs := bs) (i := i)
  refine ⟨a, by omega, (hg.at h).1, by omega, fun k k1 k2 => ?_⟩
  by_cases e : k ≤ i
  · exact rf_all k1 e
  · exact rl_all h (by omega) (by omega)
theorem under_board {bs : List Int} (hg : Good bs) {i : Nat} (h : i < bs.length) (hm : ∀ j, j < bs.length → size bs j ≤ size bs i) : Under bs (rf bs i) (rl bs i - rf bs i + 1) (g bs i) (reachL bs) := by
  refine ⟨lies_reach hg h, reachL_len bs, fun j hj => ?_⟩
  rw [reachL_at hj]
  refine bnd_reach hj ?_
  rw [Int.mul_comm]
  exact hm j hj
/-- the first place of a value of a list -/
theorem first_at {m : Int} : ∀ {l : List Int}, m ∈ l → ∃ j, j < l.length ∧ g l j = m ∧ ∀ k, k < j → g l k ≠ m
  | [], h => by simp at h
  | x :: r, h => by
    by_cases e : x = m
    · exact ⟨0, by simp, by simp [g, e], fun k hk => by omega⟩
    · have h2 : m ∈ r := by
        rcases List.mem_cons.mp h with h | h
        · exact absurd h.symm e
        · exact h
      obtain ⟨j, h3, h4, h5⟩ := first_at h2
      refine ⟨j + 1, by simp; omega, by simpa [g] using h4, fun k hk => ?_⟩
      cases k with
      | zero => simpa [g] using e
      | succ k =>
        have := h5 k (by omega)
        simpa [g] using this
theorem Good.mul {bs : List Int} (hg : Good bs) {i : Nat} (h : i < bs.length) : -(2 ^ 64) < g bs i ∧ g bs i < 2 ^ 64 := by
  have := hg.at h
  omega
end Sky

/-! Mt: plain mathematics of trees of bars. -/
namespace Sky
/-- the nearest no higher one ahead -/
def aft (bs : List Int) (p : Nat) : Int := down bs (g bs p + 1) p
def par (bs : List Int) (p : Nat) : Int :=
  if behind bs p = (bs.length : Int) then aft bs p else if aft bs p < 0 ∨ g bs (aft bs p).toNat ≤ g bs (behind bs p).toNat then behind bs p else aft bs p
def parL (bs : List Int) : List Int := (List.range bs.length).map (par bs)
theorem parL_len (bs : List Int) : (parL bs).length = bs.length := by simp [parL]
theorem parL_at {bs : List Int} {p : Nat} (h : p < bs.length) : g (parL bs) p = par bs p := g_map h
theorem aft_lt (bs : List Int) (p : Nat) : aft bs p < (p : Int) := down_lt _ _ _
theorem aft_ge (bs : List Int) (p : Nat) : -1 ≤ aft bs p := down_ge _ _ _
theorem aft_low {bs : List Int} {p a : Nat} (h : aft bs p = (a : Int)) : g bs a ≤ g bs p := by
  have := down_low bs (g bs p + 1) p a h
  omega
theorem aft_all {bs : List Int} {p k : Nat} (h : aft bs p < (k : Int)) (h2 : k < p) : g bs p < g bs k := by
  have := down_between bs (g bs p + 1) p k h2 h
  omega
theorem aft_of {bs : List Int} {p : Nat} {d : Int} (h1 : -1 ≤ d) (h2 : d < (p : Int)) (h3 : 0 ≤ d → g bs d.toNat ≤ g bs p) (h4 : ∀ k : Nat, d < (k : Int) → k < p → g bs p < g bs k) : aft bs p = d :=
  down_of h1 h2 (fun c => by have := h3 c; omega) fun k k1 k2 => by have := h4 k k1 k2; omega
theorem bh_gt {bs : List Int} {p : Nat} (h : p < bs.length) : (p : Int) < behind bs p := behind_gt h
theorem bh_le (bs : List Int) (p : Nat) : behind bs p ≤ (bs.length : Int) := behind_le p
theorem bh_low {bs : List Int} {p b : Nat} (h : p < bs.length) (e : behind bs p = (b : Int)) (hb : b < bs.length) : g bs b < g bs p := by
  have h1 : rl bs p = behind bs p - 1 := rfl
  have := rl_low h (by omega)
  have e2 : (rl bs p + 1).toNat = b := by omega
  rwa [e2] at this
theorem bh_all {bs : List Int} {p k : Nat} (h : p < bs.length) (h1 : p < k) (h2 : (k : Int) < behind bs p) : g bs p ≤ g bs k := by
  have h3 : rl bs p = behind bs p - 1 := rfl
  exact rl_all h (by omega) (by omega)
theorem bh_of {bs : List Int} {p i : Nat} (h : p < i) (hi : i < bs.length) (h1 : g bs i < g bs p) (h2 : ∀ k, p < k → k < i → g bs p ≤ g bs k) : behind bs p = (i : Int) := by
  have hp : p < bs.length := by omega
  have a := bh_gt hp
  have b := bh_le bs p
  obtain ⟨j, ej⟩ : ∃ j : Nat, behind bs p = (j : Int) := ⟨(behind bs p).toNat, by omega⟩
  by_cases c : j < i
  · have x := bh_low hp ej (by omega)
    have y := h2 j (by omega) c
    omega
  · by_cases c2 : i < j
    · have := bh_all hp h (by omega)
      omega
    · omega
theorem bh_end {bs : List Int} {p : Nat} (hp : p < bs.length) (h2 : ∀ k, p < k → k < bs.length → g bs p ≤ g bs k) : behind bs p = (bs.length : Int) := by
  have a := bh_gt hp
  have b := bh_le bs p
  obtain ⟨j, ej⟩ : ∃ j : Nat, behind bs p = (j : Int) := ⟨(behind bs p).toNat, by omega⟩
  by_cases c : j < bs.length
  · have x := bh_low hp ej c
    have y := h2 j (by omega) c
    omega
  · omega
/-! ### the order by height, then place -/
def lw (bs : List Int) (q p : Nat) : Prop := g bs q < g bs p ∨ (g bs q = g bs p ∧ q < p)
def num (f : Nat → Bool) : Nat → Nat
  | 0 => 0
  | n + 1 => num f n + (if f n then 1 else 0)
theorem num_le {f h : Nat → Bool} : ∀ {n}, (∀ i, i < n → f i = true → h i = true) → num f n ≤ num h n
  | 0, _ => Nat.le_refl _
  | n + 1, H => by
    have ih := num_le (f := f) (h := h) (n := n) fun i hi => H i (by omega)
    have hn := H n (by omega)
    unfold num
    cases e : f n with
    | false =>
      rw [if_neg Bool.false_ne_true]
      omega
    | true =>
      rw [hn e]
      omega
theorem num_lt {f h : Nat → Bool} : ∀ {n}, (∀ i, i < n → f i = true → h i = true) → ∀ j, j < n → f j = false → h j = true → num f n < num h n
  | 0, _, j, hj, _, _ => by omega
  | n + 1, H, j, hj, h1, h2 => by
    have hn := H n (by omega)
    unfold num
    by_cases e : j = n
    · subst e
      have ih := num_le (f := f) (h := h) (n := j) fun i hi => H i (by omega)
      rw [h1, h2, if_neg Bool.false_ne_true, if_pos rfl]
      omega
    · have ih := num_lt (f := f) (h := h) (n := n) (fun i hi => H i (by omega)) j (by omega) h1 h2
      cases e : f n with
      | false =>
        rw [if_neg Bool.false_ne_true]
        omega
      | true =>
        rw [hn e]
        omega
theorem num_all (n : Nat) : num (fun _ => true) n = n := by
  induction n with
  | zero => rfl
  | succ n ih =>
    unfold num
    rw [ih, if_pos rfl]
def lwB (bs : List Int) (q p : Nat) : Bool := decide (g bs q < g bs p) || (decide (g bs q = g bs p) && decide (q < p))
theorem lwB_iff {bs : List Int} {q p : Nat} : lwB bs q p = true ↔ lw bs q p := by
  unfold lwB lw
  simp
def rk (bs : List Int) (p : Nat) : Nat := num (fun q => lwB bs q p) bs.length
theorem rk_lt {bs : List Int} {q p : Nat} (hq : q < bs.length) (h : lw bs q p) : rk bs q < rk bs p := by
  refine num_lt (fun i hi e => ?_) q hq ?_ (lwB_iff.mpr h)
  · rw [lwB_iff] at e ⊢
    unfold lw at *
    omega
  · rw [← Bool.not_eq_true, lwB_iff]
    unfold lw
    omega
theorem rk_n {bs : List Int} {p : Nat} (hp : p < bs.length) : rk bs p < bs.length := by
  have := num_lt (f := fun q => lwB bs q p) (h := fun _ => true) (n := bs.length) (fun _ _ _ => rfl) p hp (by
    rw [← Bool.not_eq_true, lwB_iff]
    unfold lw
    omega) rfl
  rwa [num_all] at this
/-! ### how deep a place hangs -/
def Rt (ts : List Int) : Nat → Nat → Prop
  | 0, p => g ts p < 0
  | k + 1, p => 0 ≤ g ts p ∧ Rt ts k (g ts p).toNat
theorem Rt.eq {ts : List Int} : ∀ {k j p}, Rt ts k p → Rt ts j p → k = j
  | 0, 0, _, _, _ => rfl
  | 0, j + 1, p, h, h2 => by
    have a : g ts p < 0 := h
    have b := h2.1
    omega
  | k + 1, 0, p, h, h2 => by
    have a : g ts p < 0 := h2
    have b := h.1
    omega
  | k + 1, j + 1, p, h, h2 => by rw [Rt.eq h.2 h2.2]
def dpF (ts : List Int) : Nat → Nat → Nat
  | 0, _ => 0
  | f + 1, p => if g ts p < 0 then 0 else dpF ts f (g ts p).toNat + 1
theorem Rt.dpF {ts : List Int} : ∀ {k f p}, Rt ts k p → k ≤ f → dpF ts f p = k
  | 0, 0, _, _, _ => rfl
  | 0, f + 1, p, h, _ => if_pos h
  | k + 1, 0, _, _, h => by omega
  | k + 1, f + 1, p, h, h2 => by
    have a := h.1
    show (if g ts p < 0 then 0 else Sky.dpF ts f (g ts p).toNat + 1) = k + 1
    rw [if_neg (by omega), Rt.dpF h.2 (by omega)]
def dpt (ts : List Int) (p : Nat) : Nat := dpF ts ts.length p
def dptL (ts : List Int) : List Int := (List.range ts.length).map fun p => ((dpt ts p : Nat) : Int)
theorem dptL_len (ts : List Int) : (dptL ts).length = ts.length := by simp [dptL]
/-- every place comes from one above all -/
def Hung (ts : List Int) : Prop := ∀ p, p < ts.length → ∃ k, k < ts.length ∧ Rt ts k p
theorem Hung.rt {ts : List Int} (h : Hung ts) {p : Nat} (hp : p < ts.length) : Rt ts (dpt ts p) p := by
  obtain ⟨k, h1, h2⟩ := h p hp
  have e : dpt ts p = k := Rt.dpF h2 (by omega)
  rw [e]
  exact h2
theorem Hung.lt {ts : List Int} (h : Hung ts) {p : Nat} (hp : p < ts.length) : dpt ts p < ts.length := by
  obtain ⟨k, h1, h2⟩ := h p hp
  have e : dpt ts p = k := Rt.dpF h2 (by omega)
  omega
theorem Hung.top {ts : List Int} (h : Hung ts) {p : Nat} (hp : p < ts.length) (c : g ts p < 0) : dpt ts p = 0 := Rt.eq (h.rt hp) c
theorem Hung.next {ts : List Int} (h : Hung ts) {p q : Nat} (hp : p < ts.length) (hq : q < ts.length) (c : g ts p = (q : Int)) : dpt ts p = dpt ts q + 1 := by
  refine Rt.eq (h.rt hp) (show Rt ts (dpt ts q + 1) p from ⟨by omega, ?_⟩)
  have e : (g ts p).toNat = q := by omega
  rw [e]
  exact h.rt hq
/-- what the parent is -/
theorem par_cases {bs : List Int} {p : Nat} (hp : p < bs.length) :
    (par bs p = -1 ∧ aft bs p = -1 ∧ behind bs p = (bs.length : Int)) ∨
    (∃ a : Nat, par bs p = (a : Int) ∧ aft bs p = (a : Int) ∧ a < p ∧ (behind bs p = (bs.length : Int) ∨ ∃ b : Nat, behind bs p = (b : Int) ∧ b < bs.length ∧ p < b ∧ g bs b < g bs a)) ∨
    (∃ b : Nat, par bs p = (b : Int) ∧ behind bs p = (b : Int) ∧ b < bs.length ∧ p < b ∧ (aft bs p = -1 ∨ ∃ a : Nat, aft bs p = (a : Int) ∧ a < p ∧ g bs a ≤ g bs b)) := by
  have h1 := aft_lt bs p
  have h2 := aft_ge bs p
  have h3 := bh_gt hp
  have h4 := bh_le bs p
  obtain ⟨b, eb⟩ : ∃ b : Nat, behind bs p = (b : Int) := ⟨(behind bs p).toNat, by omega⟩
  unfold par
  by_cases c : behind bs p = (bs.length : Int)
  · rw [if_pos c]
    by_cases d : aft bs p < 0
    · exact .inl ⟨by omega, by omega, c⟩
    · exact .inr (.inl ⟨(aft bs p).toNat, by omega, by omega, by omega, .inl c⟩)
  · rw [if_neg c]
    have e2 : (behind bs p).toNat = b := by omega
    rw [e2]
    by_cases d : aft bs p < 0
    · rw [if_pos (.inl d)]
      exact .inr (.inr ⟨b, eb, eb, by omega, by omega, .inl (by omega)⟩)
    · by_cases e : g bs (aft bs p).toNat ≤ g bs b
      · rw [if_pos (.inr e)]
        exact .inr (.inr ⟨b, eb, eb, by omega, by omega, .inr ⟨(aft bs p).toNat, by omega, by omega, e⟩⟩)
      · rw [if_neg (by omega)]
        exact .inr (.inl ⟨(aft bs p).toNat, by omega, by omega, by omega, .inr ⟨b, eb, by omega, by omega, by omega⟩⟩)
theorem aft_lw {bs : List Int} {p a : Nat} (h : aft bs p = (a : Int)) : lw bs a p := by
  have h1 := aft_low h
  have h2 := aft_lt bs p
  unfold lw
  omega
theorem bh_lw {bs : List Int} {p b : Nat} (hp : p < bs.length) (h : behind bs p = (b : Int)) (hb : b < bs.length) : lw bs b p := .inl (bh_low hp h hb)
theorem par_rt {bs : List Int} : ∀ m p, p < bs.length → rk bs p ≤ m → ∃ k, k ≤ rk bs p ∧ Rt (parL bs) k p := by
  intro m
  induction m with
  | zero =>
    intro p hp hm
    rcases par_cases hp with ⟨h, _⟩ | ⟨a, h, h2, h3, _⟩ | ⟨b, h, h2, h3, _⟩
    · exact ⟨0, by omega, by show g (parL bs) p < 0; rw [parL_at hp]; omega⟩
    · have := rk_lt (show a < bs.length by omega) (aft_lw h2)
      omega
    · have := rk_lt h3 (bh_lw hp h2 h3)
      omega
  | succ m ih =>
    intro p hp hm
    have go : ∀ q : Nat, par bs p = (q : Int) → q < bs.length → rk bs q < rk bs p → ∃ k, k ≤ rk bs p ∧ Rt (parL bs) k p := fun q e hq hr => by
      obtain ⟨k, k1, k2⟩ := ih q hq (by omega)
      refine ⟨k + 1, by omega, ?_, ?_⟩
      · rw [parL_at hp]; omega
      · rw [parL_at hp, e]
        exact k2
    rcases par_cases hp with ⟨h, _⟩ | ⟨a, h, h2, h3, _⟩ | ⟨b, h, h2, h3, _⟩
    · exact ⟨0, by omega, by show g (parL bs) p < 0; rw [parL_at hp]; omega⟩
    · exact go a h (by omega) (rk_lt (by omega) (aft_lw h2))
    · exact go b h h3 (rk_lt h3 (bh_lw hp h2 h3))
theorem par_hung (bs : List Int) : Hung (parL bs) := by
  intro p hp
  rw [parL_len] at hp ⊢
  obtain ⟨k, k1, k2⟩ := par_rt _ p hp (Nat.le_refl _)
  exact ⟨k, by have := rk_n hp; omega, k2⟩
def deep (bs : List Int) (p : Nat) : Nat := dpt (parL bs) p
theorem deep_next {bs : List Int} {p q : Nat} (hp : p < bs.length) (hq : q < bs.length) (h : par bs p = (q : Int)) : deep bs p = deep bs q + 1 :=
  (par_hung bs).next (by rw [parL_len]; exact hp) (by rw [parL_len]; exact hq) (by rw [parL_at hp]; exact h)
theorem deep_lt {bs : List Int} {p : Nat} (hp : p < bs.length) : deep bs p < bs.length := by
  have := (par_hung bs).lt (p := p) (by rw [parL_len]; exact hp)
  rwa [parL_len] at this
/-- between the two sides the one ahead is the one ahead of the one behind, or the other way round -/
theorem aft_bh {bs : List Int} {p a b : Nat} (hp : p < bs.length) (ha : aft bs p = (a : Int)) (hb : behind bs p = (b : Int)) (hbn : b < bs.length) (h : g bs a ≤ g bs b) : aft bs b = (a : Int) := by
  have h1 := aft_lt bs p
  have h2 := bh_gt hp
  have h3 := bh_low hp hb hbn
  refine aft_of (by omega) (by omega) (fun _ => by rw [show ((a : Int)).toNat = a by omega]; exact h) fun k k1 k2 => ?_
  by_cases c : k < p
  · have := aft_all (bs := bs) (p := p) (k := k) (by omega) c
    omega
  · by_cases c2 : k = p
    · subst c2; exact h3
    · have := bh_all hp (show p < k by omega) (by omega)
      omega
theorem bh_aft {bs : List Int} {p a b : Nat} (hp : p < bs.length) (ha : aft bs p = (a : Int)) (hb : behind bs p = (b : Int)) (hbn : b < bs.length) (h : g bs b < g bs a) : behind bs a = (b : Int) := by
  have h1 := aft_lt bs p
  have h2 := bh_gt hp
  have h3 := aft_low ha
  refine bh_of (by omega) hbn h fun k k1 k2 => ?_
  by_cases c : k < p
  · have := aft_all (bs := bs) (p := p) (k := k) (by omega) c
    omega
  · by_cases c2 : k = p
    · subst c2; exact h3
    · have := bh_all hp (show p < k by omega) (by omega)
      omega
/-- the nearest ones are less deep -/
theorem deep_anc {bs : List Int} : ∀ m p, p < bs.length → rk bs p ≤ m → (∀ a : Nat, aft bs p = (a : Int) → deep bs a < deep bs p) ∧ ∀ b : Nat, behind bs p = (b : Int) → b < bs.length → deep bs b < deep bs p := by
  intro m
  induction m with
  | zero =>
    intro p hp hm
    refine ⟨fun a ha => ?_, fun b hb hbn => ?_⟩
    · have := rk_lt (show a < bs.length by have := aft_lt bs p; omega) (aft_lw ha)
      omega
    · have := rk_lt hbn (bh_lw hp hb hbn)
      omega
  | succ m ih =>
    intro p hp hm
    rcases par_cases hp with ⟨h, h2, h3⟩ | ⟨a, h, h2, h3, h4⟩ | ⟨b, h, h2, h3, h3b, h4⟩
    · exact ⟨fun a ha => by omega, fun b hb hbn => by omega⟩
    · have da := deep_next hp (show a < bs.length by omega) h
      have ra := rk_lt (show a < bs.length by omega) (aft_lw h2)
      refine ⟨fun a' ha' => ?_, fun b' hb' hbn' => ?_⟩
      · have : a' = a := by omega
        subst this
        omega
      · rcases h4 with h4 | ⟨b, e1, e2, e3, e4⟩
        · omega
        · have : b' = b := by omega
          subst this
          have := (ih a (by omega) (by omega)).2 b' (bh_aft hp h2 e1 e2 e4) e2
          omega
    · have db := deep_next hp h3 h
      have rb := rk_lt h3 (bh_lw hp h2 h3)
      refine ⟨fun a' ha' => ?_, fun b' hb' hbn' => ?_⟩
      · rcases h4 with h4 | ⟨a, e1, e2, e4⟩
        · omega
        · have : a' = a := by omega
          subst this
          have := (ih b h3 (by omega)).1 a' (aft_bh hp e1 h2 h3 e4)
          omega
      · have : b' = b := by omega
        subst this
        omega
/-- all between the nearest ones are deeper -/
theorem deep_desc {bs : List Int} {x : Nat} (hx : x < bs.length) : ∀ m y, y < bs.length → rk bs y ≤ m → aft bs x < (y : Int) → (y : Int) < behind bs x → y ≠ x → deep bs x < deep bs y := by
  intro m
  induction m with
  | zero =>
    intro y hy hm h1 h2 hne
    have : lw bs x y := by
      by_cases c : y < x
      · have := aft_all h1 c
        unfold lw; omega
      · have := bh_all hx (show x < y by omega) h2
        unfold lw; omega
    have := rk_lt hx this
    omega
  | succ m ih =>
    intro y hy hm h1 h2 hne
    have ax := aft_lt bs x
    have bx := bh_gt hx
    by_cases c : y < x
    · have gy := aft_all h1 c
      -- behind y stands x or one nearer
      have b1 : behind bs y ≤ (x : Int) := by
        by_cases d : behind bs y ≤ (x : Int)
        · exact d
        · have := bh_all hy c (by omega)
          omega
      have b2 := bh_gt hy
      rcases par_cases hy with ⟨h, e2, e3⟩ | ⟨a, h, e2, e3, e4⟩ | ⟨b, h, e2, e3, e4, _⟩
      · omega
      · have da := deep_next hy (show a < bs.length by omega) h
        rcases e4 with e4 | ⟨b, f1, f2, f3, f4⟩
        · omega
        · have lwx : g bs x ≤ g bs b := by
            by_cases z : b = x
            · rw [z]; exact Int.le_refl _
            · have := aft_all (bs := bs) (p := x) (k := b) (by omega) (by omega)
              omega
          have ra := rk_lt (show a < bs.length by omega) (aft_lw e2)
          have : aft bs x < (a : Int) := by
            by_cases z : aft bs x < (a : Int)
            · exact z
            · by_cases z2 : aft bs x = (a : Int)
              · have := aft_low z2
                omega
              · obtain ⟨ax', eax⟩ : ∃ ax' : Nat, aft bs x = (ax' : Int) := ⟨(aft bs x).toNat, by omega⟩
                have q1 := aft_low eax
                have q2 := aft_all (bs := bs) (p := y) (k := ax') (by omega) (by omega)
                omega
          have := ih a (by omega) (by omega) this (by omega) (by omega)
          omega
      · have db := deep_next hy e3 h
        by_cases z : b = x
        · subst z
          omega
        · have rb := rk_lt e3 (bh_lw hy e2 e3)
          have := ih b e3 (by omega) (by omega) (by omega) z
          omega
    · have cy : x < y := by omega
      have gy := bh_all hx cy h2
      have a1 : (x : Int) ≤ aft bs y := by
        by_cases d : (x : Int) ≤ aft bs y
        · exact d
        · have := aft_all (bs := bs) (p := y) (k := x) (by omega) cy
          omega
      have a2 := aft_lt bs y
      rcases par_cases hy with ⟨h, e2, e3⟩ | ⟨a, h, e2, e3, _⟩ | ⟨b, h, e2, e3, e4, e5⟩
      · omega
      · have da := deep_next hy (show a < bs.length by omega) h
        by_cases z : a = x
        · subst z
          omega
        · have ra := rk_lt (show a < bs.length by omega) (aft_lw e2)
          have := ih a (by omega) (by omega) (by omega) (by omega) z
          omega
      · have db := deep_next hy e3 h
        rcases e5 with e5 | ⟨a, f1, f2, f3⟩
        · omega
        · have lwx : g bs x ≤ g bs a := by
            by_cases z : a = x
            · rw [z]; exact Int.le_refl _
            · exact bh_all hx (show x < a by omega) (by omega)
          have rb := rk_lt e3 (bh_lw hy e2 e3)
          have : (b : Int) < behind bs x := by
            by_cases z : (b : Int) < behind bs x
            · exact z
            · by_cases z2 : behind bs x = (b : Int)
              · have := bh_low hx z2 e3
                omega
              · obtain ⟨bx', ebx⟩ : ∃ bx' : Nat, behind bs x = (bx' : Int) := ⟨(behind bs x).toNat, by omega⟩
                have q1 := bh_low hx ebx (by omega)
                have q2 := bh_all hy (k := bx') (by omega) (by omega)
                omega
          have := ih b e3 (by omega) (by omega) this (by omega)
          omega
def deepL (bs : List Int) : List Int := dptL (parL bs)
theorem deepL_len (bs : List Int) : (deepL bs).length = bs.length := by rw [deepL, dptL_len, parL_len]
theorem deepL_at {bs : List Int} {p : Nat} (h : p < bs.length) : g (deepL bs) p = ((deep bs p : Nat) : Int) := by
  unfold deepL dptL
  rw [g_map (by rw [parL_len]; exact h)]
  rfl
/-- the tree of the depths is the same tree -/
theorem par_deep {bs : List Int} {p : Nat} (hp : p < bs.length) : par (deepL bs) p = par bs p := by
  have ll := deepL_len bs
  have anc := fun x (hx : x < bs.length) => deep_anc (bs := bs) _ x hx (Nat.le_refl _)
  have a1 := aft_lt bs p
  have a2 := aft_ge bs p
  have b1 := bh_gt hp
  have b2 := bh_le bs p
  have ea : aft (deepL bs) p = aft bs p := by
    refine aft_of a2 a1 (fun c => ?_) fun k k1 k2 => ?_
    · rw [deepL_at (by omega), deepL_at hp]
      have := (anc p hp).1 (aft bs p).toNat (by omega)
      omega
    · rw [deepL_at hp, deepL_at (by omega)]
      have := deep_desc hp _ k (by omega) (Nat.le_refl _) k1 (by omega) (by omega)
      omega
  have eb : behind (deepL bs) p = behind bs p := by
    obtain ⟨b, eb⟩ : ∃ b : Nat, behind bs p = (b : Int) := ⟨(behind bs p).toNat, by omega⟩
    by_cases c : b < bs.length
    · rw [eb]
      refine bh_of (by omega) (by omega) ?_ fun k k1 k2 => ?_
      · rw [deepL_at c, deepL_at hp]
        have := (anc p hp).2 b eb c
        omega
      · rw [deepL_at hp, deepL_at (by omega)]
        have := deep_desc hp _ k (by omega) (Nat.le_refl _) (by omega) (by omega) (by omega)
        omega
    · rw [bh_end (by omega) fun k k1 k2 => ?_]
      · omega
      · rw [deepL_at hp, deepL_at (by omega)]
        have := deep_desc hp _ k (by omega) (Nat.le_refl _) (by omega) (by omega) (by omega)
        omega
  unfold par
  rw [ea, eb, ll]
  by_cases c : behind bs p = (bs.length : Int)
  · rw [if_pos c, if_pos c]
  · rw [if_neg c, if_neg c]
    by_cases d : aft bs p < 0
    · rw [if_pos (.inl d), if_pos (.inl d)]
    · obtain ⟨a, eaa⟩ : ∃ a : Nat, aft bs p = (a : Int) := ⟨(aft bs p).toNat, by omega⟩
      obtain ⟨b, ebb⟩ : ∃ b : Nat, behind bs p = (b : Int) := ⟨(behind bs p).toNat, by omega⟩
      have e1 : (aft bs p).toNat = a := by omega
      have e2 : (behind bs p).toNat = b := by omega
      have hb : b < bs.length := by omega
      rw [e1, e2, deepL_at (by omega), deepL_at hb]
      by_cases e : g bs a ≤ g bs b
      · have := (anc b hb).1 a (aft_bh hp eaa ebb hb e)
        rw [if_pos (.inr (by omega)), if_pos (.inr e)]
      · have := (anc a (by omega)).2 b (bh_aft hp eaa ebb hb (by omega)) hb
        rw [if_neg (by omega), if_neg (by omega)]
theorem parL_deep (bs : List Int) : parL (deepL bs) = parL bs := by
  unfold parL
  rw [deepL_len]
  exact List.map_congr_left fun p hp => par_deep (List.mem_range.mp hp)
theorem deepL_good {bs : List Int} (h : bs.length ≤ 1000) : Good (deepL bs) := by
  intro b hb
  unfold deepL dptL at hb
  obtain ⟨i, hi, rfl⟩ := List.mem_map.mp hb
  rw [List.mem_range, parL_len] at hi
  have := deep_lt hi
  unfold deep at this
  omega
end Sky

/-! Mp: the stack of parents_of, in plain words. -/
namespace Sky
def Ch (bs : List Int) : List Nat → Prop
  | [] => True
  | p :: r => hd r = aft bs p ∧ Ch bs r
theorem Ch.le {bs : List Int} : ∀ {st : List Nat}, Ch bs st → ∀ q ∈ st, (q : Int) ≤ hd st
  | [], _, q, h => by simp at h
  | p :: r, c, q, h => by
    rcases List.mem_cons.mp h with e | e
    · subst e
      exact Int.le_refl _
    · have := Ch.le c.2 q e
      have h2 := aft_lt bs p
      have h3 := c.1
      show (q : Int) ≤ (p : Int)
      omega
theorem g_set {F : List Int} {j k : Nat} {v : Int} (h : j < F.length) : g (F.set j v) k = if j = k then v else g F k := by
  unfold g
  rw [List.getD_eq_getElem?_getD, List.getElem?_set, List.getD_eq_getElem?_getD]
  by_cases e : j = k
  · subst e
    simp [h]
  · rw [if_neg e, if_neg e]
structure PSt (bs : List Int) (i : Nat) (st : List Nat) (F : List Int) : Prop where
  ch : Ch bs st
  el : ∀ p ∈ st, p < i ∧ ∀ k, p < k → k < i → g bs p ≤ g bs k
  ln : F.length = bs.length
  on : ∀ p, p ∈ st → g F p = aft bs p
  off : ∀ p, p < i → p ∉ st → g F p = par bs p
  new : ∀ p, i ≤ p → p < bs.length → g F p = -1
  top : hd st = (i : Int) - 1
  sl : st.length ≤ i
structure PWh (bs : List Int) (i : Nat) (st0 st : List Nat) (last : Int) : Prop where
  ch : Ch bs st
  sub : ∀ q ∈ st, q ∈ st0
  bt : ∀ k : Nat, hd st < (k : Int) → k < i → g bs i < g bs k
  la : (last = -1 ∧ st = st0) ∨ ∃ p : Nat, p ∈ st0 ∧ last = (p : Int) ∧ hd st = aft bs p ∧ g bs i < g bs p
  out : ∀ q ∈ st0, q ∉ st → g bs i < g bs q ∧ ((q : Int) = last ∨ ∃ a : Nat, aft bs q = (a : Int) ∧ g bs i < g bs a)
  len : st.length ≤ st0.length
theorem PSt.zero (bs F : List Int) (h : F.length = bs.length) (hn : ∀ p, p < bs.length → g F p = -1) : PSt bs 0 [] F :=
  ⟨trivial, by simp, h, by simp, fun p hp => by omega, fun p _ hp => hn p hp, rfl, Nat.le_refl _⟩
theorem PWh.zero {bs : List Int} {i : Nat} {st : List Nat} {F : List Int} (h : PSt bs i st F) : PWh bs i st st (-1) :=
  ⟨h.ch, fun _ q => q, fun k k1 k2 => by have := h.top; omega, .inl ⟨rfl, rfl⟩, fun q h1 h2 => absurd h1 h2, Nat.le_refl _⟩
theorem PWh.pop {bs : List Int} {i : Nat} {st0 r : List Nat} {p : Nat} {last : Int} (h : PWh bs i st0 (p :: r) last) (c : g bs i < g bs p) (hp : p < i) : PWh bs i st0 r p := by
  have hr : hd r = aft bs p := h.ch.1
  refine ⟨h.ch.2, fun q hq => h.sub q (List.mem_cons_of_mem _ hq), fun k k1 k2 => ?_, .inr ⟨p, h.sub p List.mem_cons_self, rfl, hr, c⟩, fun q h1 h2 => ?_, by have := h.len; simp at this; omega⟩
  · by_cases c1 : p < k
    · exact h.bt k (show (p : Int) < (k : Int) by omega) k2
    · by_cases c2 : k = p
      · subst c2; exact c
      · have := aft_all (bs := bs) (p := p) (k := k) (by omega) (by omega)
        omega
  · by_cases e : q = p
    · subst e
      exact ⟨c, .inl rfl⟩
    · have hq : q ∉ p :: r := fun z => by
        rcases List.mem_cons.mp z with z | z
        · exact e z
        · exact h2 z
      obtain ⟨o1, o2⟩ := h.out q h1 hq
      refine ⟨o1, .inr ?_⟩
      rcases o2 with o2 | o2
      · rcases h.la with ⟨l1, _⟩ | ⟨p', l0, l1, l2, l3⟩
        · omega
        · have : q = p' := by omega
          subst this
          exact ⟨p, l2.symm, c⟩
      · exact o2
def setL (F : List Int) (last : Int) (i : Nat) : List Int := if 0 ≤ last then F.set last.toNat (i : Int) else F
def setT (F : List Int) (st : List Nat) (i : Nat) : List Int := if st = [] then F else F.set i (hd st)
theorem setL_len (F : List Int) (last : Int) (i : Nat) : (setL F last i).length = F.length := by
  unfold setL
  split <;> simp
theorem setT_len (F : List Int) (st : List Nat) (i : Nat) : (setT F st i).length = F.length := by
  unfold setT
  split <;> simp
theorem PSt.step {bs : List Int} {i : Nat} {st0 st : List Nat} {F : List Int} {last : Int} (h : PSt bs i st0 F) (w : PWh bs i st0 st last) (hi : i < bs.length) (he : ∀ p r, st = p :: r → g bs p ≤ g bs i) :
    PSt bs (i + 1) (i :: st) (setT (setL F last i) st i) := by
  have hle := w.ch.le
  have sti : ∀ q ∈ st, q < i := fun q hq => (h.el q (w.sub q hq)).1
  have hdge : -1 ≤ hd st := by
    cases st with
    | nil => exact Int.le_refl _
    | cons p r => show -1 ≤ (p : Int); omega
  have hdlt : hd st < (i : Int) := by
    cases st with
    | nil => show -1 < (i : Int); omega
    | cons p r =>
      have := sti p List.mem_cons_self
      show (p : Int) < (i : Int)
      omega
  have ea : aft bs i = hd st := by
    refine aft_of hdge hdlt (fun c => ?_) w.bt
    cases st with
    | nil => exact absurd c (by show ¬ 0 ≤ (-1 : Int); omega)
    | cons p r =>
      have := he p r rfl
      have e : (hd (p :: r)).toNat = p := by show ((p : Int)).toNat = p; omega
      rw [e]
      exact this
  have lasti : last < (i : Int) := by
    rcases w.la with ⟨l1, _⟩ | ⟨p, l0, l1, _⟩
    · omega
    · have := (h.el p l0).1
      omega
  -- reads of the new list
  have gT : ∀ k, g (setT (setL F last i) st i) k = if k = i then (if st = [] then g (setL F last i) i else hd st) else g (setL F last i) k := fun k => by
    unfold setT
    by_cases c : st = []
    · rw [if_pos c, if_pos c]
      by_cases e : k = i
      · rw [if_pos e, e]
      · rw [if_neg e]
    · rw [if_neg c, if_neg c, g_set (by rw [setL_len, h.ln]; exact hi)]
      by_cases e : k = i
      · rw [if_pos e, if_pos e.symm]
      · rw [if_neg e, if_neg (fun z => e z.symm)]
  have gL : ∀ k : Nat, g (setL F last i) k = if (k : Int) = last then (i : Int) else g F k := fun k => by
    unfold setL
    by_cases c : 0 ≤ last
    · rw [if_pos c, g_set (by rw [h.ln]; omega)]
      by_cases e : (k : Int) = last
      · rw [if_pos e, if_pos (by omega)]
      · rw [if_neg e, if_neg (by omega)]
    · rw [if_neg c, if_neg (by omega)]
  refine ⟨⟨ea.symm, w.ch⟩, fun p hp => ?_, by rw [setT_len, setL_len, h.ln], fun p hp => ?_, fun p hp hn => ?_, fun p hp hn => ?_, by show (i : Int) = ((i + 1 : Nat) : Int) - 1; omega, ?_⟩
  · rcases List.mem_cons.mp hp with e | e
    · subst e
      exact ⟨by omega, fun k k1 k2 => by omega⟩
    · obtain ⟨h1, h2⟩ := h.el p (w.sub p e)
      refine ⟨by omega, fun k k1 k2 => ?_⟩
      by_cases c : k = i
      · subst c
        cases st with
        | nil => simp at e
        | cons q r =>
          have hq := he q r rfl
          by_cases z : p = q
          · subst z; exact hq
          · have hpq : (p : Int) ≤ (q : Int) := hle p e
            have hqi := sti q List.mem_cons_self
            have := h2 q (by omega) hqi
            omega
      · exact h2 k k1 (by omega)
  · rw [gT]
    rcases List.mem_cons.mp hp with e | e
    · subst e
      rw [if_pos rfl, ea]
      by_cases c : st = []
      · rw [if_pos c, gL, if_neg (by omega), h.new p (Nat.le_refl _) hi, c]
        rfl
      · rw [if_neg c]
    · have hpi := sti p e
      rw [if_neg (by omega), gL, if_neg ?_, h.on p (w.sub p e)]
      intro z
      rcases w.la with ⟨l1, _⟩ | ⟨p', l0, l1, l2, l3⟩
      · omega
      · have := hle p e
        have := aft_lt bs p'
        omega
  · rw [gT]
    have hpi : p ≠ i := fun z => hn (by rw [z]; exact List.mem_cons_self)
    have hps : p ∉ st := fun z => hn (List.mem_cons_of_mem _ z)
    rw [if_neg hpi, gL]
    by_cases c : p ∈ st0
    · obtain ⟨o1, o2⟩ := w.out p c hps
      obtain ⟨e1, e2⟩ := h.el p c
      have eb : behind bs p = (i : Int) := bh_of e1 hi o1 e2
      have ep : par bs p = if aft bs p < 0 ∨ g bs (aft bs p).toNat ≤ g bs i then (i : Int) else aft bs p := by
        unfold par
        rw [eb, if_neg (by omega), show ((i : Int)).toNat = i by omega]
      rw [ep]
      by_cases z : (p : Int) = last
      · rw [if_pos z]
        rcases w.la with ⟨l1, _⟩ | ⟨p', l0, l1, l2, l3⟩
        · omega
        · have : p = p' := by omega
          subst this
          rw [if_pos ?_]
          rw [← l2]
          cases st with
          | nil => exact .inl (by show (-1 : Int) < 0; omega)
          | cons q r =>
            have := he q r rfl
            right
            show g bs ((q : Int)).toNat ≤ g bs i
            rw [show ((q : Int)).toNat = q by omega]
            exact this
      · rw [if_neg z, h.on p c]
        rcases o2 with o2 | ⟨a, o2, o3⟩
        · exact absurd o2 z
        · rw [o2, show ((a : Int)).toNat = a by omega, if_neg (by omega)]
    · rw [if_neg ?_, h.off p (by omega) c]
      intro z
      rcases w.la with ⟨l1, _⟩ | ⟨p', l0, l1, l2, l3⟩
      · omega
      · have : p = p' := by omega
        subst this
        exact c l0
  · rw [gT, if_neg (by omega), gL, if_neg (by omega)]
    exact h.new p (by omega) hn
  · have := w.len
    have := h.sl
    rw [List.length_cons]
    omega
theorem PSt.last {bs : List Int} {st : List Nat} {F : List Int} (h : PSt bs bs.length st F) : F = parL bs := by
  apply List.ext_getElem?
  intro p
  by_cases hp : p < bs.length
  · have e1 : F[p]? = some (g F p) := by simp [g, h.ln, hp]
    have e2 : (parL bs)[p]? = some (par bs p) := by simp [parL, hp]
    rw [e1, e2]
    congr 1
    by_cases c : p ∈ st
    · rw [h.on p c]
      unfold par
      rw [if_pos (bh_end hp (h.el p c).2)]
    · exact h.off p hp c
  · rw [List.getElem?_eq_none (by rw [h.ln]; omega), List.getElem?_eq_none (by rw [parL_len]; omega)]
end Sky

/-! Pt: parents_of, tree. -/
namespace Sky
open PySem PySem.Spec PyProof.Rows L2
local macro_rules | `(tactic| walk_at "sx") => `(tactic| try simp only [e_K, e_seq, e_asg, e_name, e_drop, e_ret, e_retN, e_ifs, e_next, e_var, e_c, e_op, e_un, e_rI0, e_rI, e_rU, e_test, e_B, e_bl, e_and, e_or, e_not, e_andV, e_orV, e_notV, e_if, e_CB, e_CKw, e_cons, e_nil, e_call,
  e_chn, e_cCons, e_cOne, e_BM, e_BM0, e_sub, e_par, e_ls, e_noP, e_part, e_intx, e_refx, e_yes, e_get0, e_getS, e_sl, List.set_cons_zero, List.set_cons_succ, List.cons_append, List.nil_append, List.append_nil, Bool.not_true, Bool.not_false, e_lst, e_tup, e_rev, e_eqi, e_nei, decide_true, decide_false, if_true, Bool.false_eq_true, if_false, e_callS])
theorem ivs_set (l : List Int) (j : Nat) (v : Int) : (ivs l).set j (.int v) = ivs (l.set j v) := (List.map_set ..).symm
abbrev s_parents_of : Stmt := top 12
abbrev N_parents_of : List Str := ["bars", "found", "waiting", "place", "bar", "last"]
theorem sc_parents_of : FnScope ["bars", "found", "waiting", "place", "bar", "last"] ["bars"] (defScope s_parents_of) := ⟨rfl, rfl, rfl, by decide +kernel, rfl, by decide +kernel, by decide +kernel⟩
def sp_parents_of (K : PySem.W.Frag) : Sp := Sp1 fun x H Q _ => ∃ (a : Addr) (bs : List Int), x = .ref a ∧ SqL K H a (ivs bs) ∧ bs.length ≤ 1000 ∧ ∀ p H', H p = none → Same H H' → H' p = some (.lst (ivs (parL bs))) → Q (.ref p) H'
structure PaSt (H : Hp) (p q : Addr) (F : List Int) (st : List Nat) (H' : Hp) : Prop where
  sm : Same H H'
  fp : H' p = some (.lst (ivs F))
  fq : H' q = some (.lst (ivs (stI st)))
theorem PaSt.more {H H1 H2 : Hp} {p q : Addr} {F : List Int} {st : List Nat} (h : PaSt H p q F st H1) (s : Same H1 H2) : PaSt H p q F st H2 := ⟨h.sm.trans s, s _ _ h.fp, s _ _ h.fq⟩
theorem ok_parents_of {P : Program} {w : World} {K : PySem.W.Frag} {mg : Str → Option Value} {base : Heap} {CL : Cl} (D : Def K mg "parents_of" ["bars"] s_parents_of) (T : Txt K mg CL)  : Has P w K mg base CX0 1 "parents_of" ["bars"] (sp_parents_of K) := by
  obtain ⟨f, fd, gm, F, bb⟩ := D
  refine ⟨f, fd, gm, F.ok sc_parents_of (fun vs H Q E h => ?_) (fun cdv A outer s H vs Q E hr h => ?_), F.kp, bb⟩
  · obtain ⟨x1, rfl, _⟩ := h
    rfl
  obtain ⟨x1, rfl, h⟩ := h
  refine ⟨_, (pss_cons (ps_setLc (i := 1) (own := [("bar", 4)]) (g := (gName 4)) (tt := tYes) (by rfl) sc_parents_of.nd rfl rfl (sw_true rfl rfl rfl (by decide +kernel)) (pi_list (pv 0)) (blkOk_by (own := [("bar", 4)]) (N := N_parents_of) (sc := defScope s_parents_of) (by decide +kernel)) (fun _ _ _ _ _ => (pg_name (i := 4) sc_parents_of.nd rfl (Or.inl rfl))) (fun _ _ _ _ _ => pts_nil) (fun _ _ _ _ _ => (pe_un un_neg pe_int)))
      (pss_cons (ps_set (i := 2) sc_parents_of.nd rfl (Or.inl rfl) (pe_lst pa_nil))
      (pss_cons (ps_for PassesOwn.never rfl (pi_enum (by rfl) T.m_enumerate (pa_cons (pv 0) pa_nil)) (pg_tup (n := 2) rfl (pgs_cons (pg_name (i := 3) sc_parents_of.nd rfl (Or.inl rfl)) (pgs_cons (pg_name (i := 4) sc_parents_of.nd rfl (Or.inl rfl)) pgs_nil))) (pss_cons (ps_set (i := 5) sc_parents_of.nd rfl (Or.inl rfl) (pe_un un_neg pe_int))
      (pss_mid (ps_while PassesOwn.never (PW.pt (pw_and (pt_cmpR (neDK (K := K) hr.units) (pv 2) (pe_lst pa_nil) (nomark _)) (pw_and1 (pt_cmpR op_gt (pe_ix (ix_listK (K := K)) (pv 0) (pe_ix (ix_listK (K := K)) (pv 2) (pe_un un_neg pe_int) (fun _ _ => rfl)) (fun _ _ => rfl)) (pv 4) (nomark _))))) (pss_one (ps_set (i := 5) sc_parents_of.nd rfl (Or.inl rfl) (pe_bm0 PySem.F.plainAttrs_list PySem.F.slot_list_pop PySem.F.type_list_pop mt_pop (pv 2)))))
      (pss_mid (ps_if (pt_cmpR op_ge (pv 5) pe_int (nomark _)) (pss_one (ps_asg (pv 3) (pg_sub (pv 1) (pv 5) set_list))) pss_nil)
      (pss_mid (ps_if (pt_cmpR (neDK (K := K) hr.units) (pv 2) (pe_lst pa_nil) (nomark _)) (pss_one (ps_asg (pe_ix (ix_listK (K := K)) (pv 2) (pe_un un_neg pe_int) (fun _ _ => rfl)) (pg_sub (pv 1) (pv 3) set_list))) pss_nil)
      (pss_one (ps_expr (pe_bm PySem.F.plainAttrs_list PySem.F.slot_list_append PySem.F.type_list_append mt_append (pv 2) (pa_cons (pv 3) pa_nil)))))))))
      (pss_one (ps_ret (pv 1)))))), start_is (σ := [some x1, none, none, none, none, none]) rfl ?_⟩
  obtain ⟨a, bs, rfl, hS, hlen, k⟩ := h
  walk_at "sx"
  refine q_lcL (fun i v _ => v = .int (-1)) (fun R r => ⟨_, rfl, r⟩) hS (by rw [len_ivs]; omega) (fun _ => rfl) (fun _ _ _ _ e _ => e) (fun i x H' Q' hx s1 kk => ?_) ?_
  · simp only [wipe, List.map_cons, List.map_nil]
    walk_at "sx"
    exact kk _ _ (Same.refl _) rfl
  intro p H1 acc np s1 hp hla hva
  have e := acc_ivs (f := fun _ => -1) hla hva
  subst e
  rw [len_ivs] at hp
  refine q_newL fun q nq => ?_
  have hpq : p ≠ q := ne_of_none hp nq
  have nq0 := s1.free nq
  have s2 := s1.trans (same_new (o := .lst []) nq)
  have hp2 := same_new (o := .lst []) nq _ _ hp
  refine q_forE (a := a) (xs := ivs bs) (fun R r => ⟨_, rfl, r⟩) (fun i σ H' => ∃ (v3 v4 v5 : Option V) (F : List Int) (st : List Nat), σ = [some (.ref a), some (.ref p), some (.ref q), v3, v4, v5] ∧ PaSt H p q F st H' ∧ PSt bs i st F)
    ⟨none, none, none, _, [], rfl, ⟨s2, hp2, upd_same⟩, PSt.zero bs _ (by simp) fun p hp => by rw [g_map hp]⟩ (fun i σ H' ⟨_, _, _, _, _, _, s, _⟩ => s.sm.seq hS) ?_ ?_
  · rintro i x σ H3 H4 hx ⟨v3, v4, v5, F, st0, rfl, a3, inv⟩ s4
    obtain ⟨hi, rfl⟩ := of_ivs hx
    have a4 := a3.more s4
    have sl := inv.sl
    walk_at "sx"
    refine q_mid (fun σ H5 => ∃ (st : List Nat) (last : Int), σ = [some (.ref a), some (.ref p), some (.ref q), some (.int (i : Int)), some (.int (g bs i)), some (.int last)] ∧ PaSt H p q F st H5 ∧ PWh bs i st0 st last ∧ ∀ p r, st = p :: r → g bs p ≤ g bs i) ?_ ?_
    · refine q_while (fun m σ H5 => ∃ (st : List Nat) (last : Int), m = st.length ∧ σ = [some (.ref a), some (.ref p), some (.ref q), some (.int (i : Int)), some (.int (g bs i)), some (.int last)] ∧ PaSt H p q F st H5 ∧ PWh bs i st0 st last)
        ⟨_, st0, -1, rfl, rfl, a4, PWh.zero inv⟩ ?_
      rintro m σ H5 ⟨st, last, rfl, rfl, a5, w⟩
      walk_at "sx"
      refine q_neN (SqL.of a5.fq) fun H6 s6 => ?_
      walk_at "sx"
      have a6 := a5.more s6
      cases st with
      | nil =>
        rw [if_neg (by simp [stI])]
        exact ⟨[], last, rfl, a6, w, fun p r e => by cases e⟩
      | cons j r =>
        have hj := (inv.el j (w.sub j List.mem_cons_self)).1
        rw [if_pos (by simp [stI])]
        have f6 := a6.fq
        rw [stI_cons] at f6
        refine q_ix1 (SqL.of f6) (q_ixL (a6.sm.seq hS) rfl (by omega) ?_)
        walk_at "sx"
        by_cases c : g bs i < g bs j
        · rw [if_pos (decide_eq_true c)]
          refine ⟨_, fun _ _ n => n, q_pop (xs := ivs (stI r)) (y := .int (j : Int)) (by rw [f6, ivs_app]) ?_⟩
          walk_at "sx"
          exact ⟨r.length, by simp, r, (j : Int), rfl, rfl, ⟨same_mut a6.sm nq0, by rw [upd_ne hpq]; exact a6.fp, upd_same⟩, w.pop c hj⟩
        · rw [if_neg (by simpa using c)]
          refine ⟨j :: r, last, rfl, a6, w, fun p' r' e => ?_⟩
          cases e
          omega
    · rintro σ H5 ⟨st, last, rfl, a5, w, he⟩
      walk_at "sx"
      have stl : st.length ≤ i := Nat.le_trans w.len sl
      have lasti : last < (i : Int) := by
        rcases w.la with ⟨l1, _⟩ | ⟨p, l0, l1, _⟩
        · omega
        · have := (inv.el p l0).1
          omega
      refine q_mid (fun σ H6 => σ = [some (.ref a), some (.ref p), some (.ref q), some (.int (i : Int)), some (.int (g bs i)), some (.int last)] ∧ PaSt H p q (setL F last i) st H6) ?_ ?_
      · walk_at "sx"
        by_cases c : 0 ≤ last
        · rw [if_pos (decide_eq_true c)]
          refine q_setL a5.fp (j := last.toNat) (by omega) (by rw [len_ivs, inv.ln]; omega) ?_
          refine ⟨trivial, same_mut a5.sm np, ?_, ?_⟩
          · rw [upd_same, ivs_set]
            unfold setL
            rw [if_pos c]
          · rw [upd_ne hpq.symm]
            exact a5.fq
        · rw [if_neg (by simpa using c)]
          refine ⟨trivial, ?_⟩
          unfold setL
          rw [if_neg c]
          exact a5
      · rintro σ H6 ⟨rfl, a6⟩
        walk_at "sx"
        refine q_mid (fun σ H7 => σ = [some (.ref a), some (.ref p), some (.ref q), some (.int (i : Int)), some (.int (g bs i)), some (.int last)] ∧ PaSt H p q (setT (setL F last i) st i) st H7) ?_ ?_
        · walk_at "sx"
          refine q_neN (SqL.of a6.fq) fun H7 s7 => ?_
          walk_at "sx"
          have a7 := a6.more s7
          cases st with
          | nil =>
            rw [if_neg (by simp [stI])]
            exact ⟨trivial, a7⟩
          | cons j r =>
            rw [if_pos (by simp [stI])]
            have f7 := a7.fq
            rw [stI_cons] at f7
            refine q_ix1 (SqL.of f7) (q_setL a7.fp (j := i) rfl (by rw [len_ivs, setL_len, inv.ln]; exact hi) ?_)
            refine ⟨trivial, same_mut a7.sm np, ?_, ?_⟩
            · rw [upd_same, ivs_set]
              rfl
            · rw [upd_ne hpq.symm]
              exact a7.fq
        · rintro σ H7 ⟨rfl, a7⟩
          walk_at "sx"
          refine q_app a7.fq (by rw [len_ivs, stI_len]; omega) ?_
          refine ⟨_, _, _, _, i :: st, rfl, ⟨same_mut a7.sm nq0, ?_, ?_⟩, inv.step w hi he⟩
          · rw [upd_ne hpq]
            exact a7.fp
          · rw [upd_same, stI_cons, ivs_app]
  · rintro σ H3 ⟨v3, v4, v5, F, st, rfl, a3, inv⟩
    rw [len_ivs] at inv
    walk_at "sx"
    have e := inv.last
    subst e
    exact k p H3 np a3.sm a3.fp
abbrev s_tree : Stmt := top 13
abbrev N_tree : List Str := ["bars"]
theorem sc_tree : FnScope ["bars"] ["bars"] (defScope s_tree) := ⟨rfl, rfl, rfl, by decide +kernel, rfl, by decide +kernel, by decide +kernel⟩
def sp_tree (K : PySem.W.Frag) : Sp := Sp1 fun x H Q _ => ∃ (a : Addr) (bs : List Int), x = .ref a ∧ SqL K H a (ivs bs) ∧ Good bs ∧ bs.length ≤ 1000 ∧ ∀ p H', H p = none → Same H H' → H' p = some (.lst (ivs (parL bs))) → Q (.ref p) H'
theorem ok_tree {P : Program} {w : World} {K : PySem.W.Frag} {mg : Str → Option Value} {base : Heap} {CL : Cl} (D : Def K mg "tree" ["bars"] s_tree) (T : Txt K mg CL) (h_asked_bars : Has P w K mg base CX0 2 "asked_bars" ["bars"] (sp_asked_bars K)) (h_parents_of : Has P w K mg base CX0 1 "parents_of" ["bars"] (sp_parents_of K)) : Has P w K mg base CX0 3 "tree" ["bars"] (sp_tree K) := by
  obtain ⟨f, fd, gm, F, bb⟩ := D
  obtain ⟨f_asked_bars, fd_asked_bars, g_asked_bars, G_asked_bars, k_asked_bars, b_asked_bars⟩ := h_asked_bars
  obtain ⟨f_parents_of, fd_parents_of, g_parents_of, G_parents_of, k_parents_of, b_parents_of⟩ := h_parents_of
  refine ⟨f, fd, gm, F.ok sc_tree (fun vs H Q E h => ?_) (fun cdv A outer s H vs Q E hr h => ?_), F.kp, bb⟩
  · obtain ⟨x1, rfl, _⟩ := h
    rfl
  have hr_asked_bars : Room 2 (A.deeper (envOfC "tree" (defScope s_tree) s.heap.objs.size f cdv)) := hr.mono (by decide)
  have hr_parents_of : Room 1 (A.deeper (envOfC "tree" (defScope s_tree) s.heap.objs.size f cdv)) := hr.mono (by decide)
  obtain ⟨x1, rfl, h⟩ := h
  refine ⟨_, (pss_cons (ps_expr (pe_call G_asked_bars hr_asked_bars (by rfl) g_asked_bars k_asked_bars b_asked_bars .nil pass0 (pa_cons (pv 0) pa_nil)))
      (pss_one (ps_ret (pe_call G_parents_of hr_parents_of (by rfl) g_parents_of k_parents_of b_parents_of .nil pass0 (pa_cons (pv 0) pa_nil))))), start_is (σ := [some x1]) rfl ?_⟩
  obtain ⟨a, bs, rfl, hS, good, hlen, k⟩ := h
  walk_at "sx"
  refine ⟨_, rfl, a, bs, rfl, hS, good, hlen, fun H1 s1 => ?_⟩
  exact ⟨_, rfl, a, bs, rfl, s1.seq hS, hlen, fun p H2 np s2 hp => k p H2 (s1.free np) (s1.trans s2) hp⟩
end Sky

/-! Md: depths by waves, in plain words. -/
namespace Sky
abbrev nts (l : List Nat) : List Int := l.map fun (n : Nat) => (n : Int)
def kids (ts : List Int) (i c : Nat) : List Nat := (List.range i).filter fun p => decide (g ts p = (c : Int))
def roots (ts : List Int) (i : Nat) : List Nat := (List.range i).filter fun p => decide (g ts p < 0)
theorem kids_mem {ts : List Int} {i c p : Nat} : p ∈ kids ts i c ↔ p < i ∧ g ts p = (c : Int) := by
  unfold kids
  rw [List.mem_filter, List.mem_range, decide_eq_true_eq]
theorem roots_mem {ts : List Int} {i p : Nat} : p ∈ roots ts i ↔ p < i ∧ g ts p < 0 := by
  unfold roots
  rw [List.mem_filter, List.mem_range, decide_eq_true_eq]
theorem kids_nd (ts : List Int) (i c : Nat) : (kids ts i c).Nodup := List.nodup_range.filter _
theorem roots_nd (ts : List Int) (i : Nat) : (roots ts i).Nodup := List.nodup_range.filter _
theorem kids_step {ts : List Int} {i c : Nat} : kids ts (i + 1) c = if g ts i = (c : Int) then kids ts i c ++ [i] else kids ts i c := by
  unfold kids
  rw [List.range_succ, List.filter_append]
  by_cases h : g ts i = (c : Int)
  · rw [if_pos h]
    simp [h]
  · rw [if_neg h]
    simp [h]
theorem roots_step {ts : List Int} {i : Nat} : roots ts (i + 1) = if g ts i < 0 then roots ts i ++ [i] else roots ts i := by
  unfold roots
  rw [List.range_succ, List.filter_append]
  by_cases h : g ts i < 0
  · rw [if_pos h]
    simp [h]
  · rw [if_neg h]
    simp [h]
theorem kids_len (ts : List Int) (i c : Nat) : (kids ts i c).length ≤ i := by
  have h := List.length_filter_le (fun p => decide (g ts p = (c : Int))) (List.range i)
  rwa [List.length_range] at h
theorem roots_len (ts : List Int) (i : Nat) : (roots ts i).length ≤ i := by
  have h := List.length_filter_le (fun p => decide (g ts p < 0)) (List.range i)
  rwa [List.length_range] at h
theorem nd_inj : ∀ {W : List Nat}, W.Nodup → ∀ {i j w : Nat}, W[i]? = some w → W[j]? = some w → i = j
  | [], _, i, j, w, h, _ => by simp at h
  | x :: r, nd, i, j, w, h, h2 => by
    obtain ⟨n1, n2⟩ := List.nodup_cons.mp nd
    cases i with
    | zero =>
      cases j with
      | zero => rfl
      | succ j =>
        have e : x = w := by simpa using h
        subst e
        exact absurd (List.mem_of_getElem? (by simpa using h2 : r[j]? = some x)) n1
    | succ i =>
      cases j with
      | zero =>
        have e : x = w := by simpa using h2
        subst e
        exact absurd (List.mem_of_getElem? (by simpa using h : r[i]? = some x)) n1
      | succ j => rw [nd_inj n2 (by simpa using h : r[i]? = some w) (by simpa using h2 : r[j]? = some w)]
theorem sub_len : ∀ {n : Nat} {W : List Nat}, (∀ p, p < n → p ∈ W) → n ≤ W.length
  | 0, _, _ => Nat.zero_le _
  | n + 1, W, h => by
    have h1 := h n (by omega)
    have h2 := List.length_erase_of_mem h1
    have h3 := sub_len (n := n) (W := W.erase n) fun p hp => (List.mem_erase_of_ne (by omega)).mpr (h p (by omega))
    have h4 := List.length_pos_of_mem h1
    omega
theorem nd_len : ∀ {n : Nat} {W : List Nat}, W.Nodup → (∀ p ∈ W, p < n) → W.length ≤ n
  | 0, [], _, _ => Nat.le_refl _
  | 0, p :: r, _, h => by
    have := h p List.mem_cons_self
    omega
  | n + 1, W, nd, h => by
    by_cases c : n ∈ W
    · have h2 := List.length_erase_of_mem c
      have h3 := nd_len (n := n) (nd.erase n) fun p hp => by
        have := (nd.mem_erase_iff).mp hp
        have := h p this.2
        omega
      omega
    · have h3 := nd_len (n := n) nd fun p hp => by
        have := h p hp
        have : p ≠ n := fun e => c (e ▸ hp)
        omega
      omega
theorem nd_full {n : Nat} {W : List Nat} (nd : W.Nodup) (h : ∀ p ∈ W, p < n) (hl : n ≤ W.length) {p : Nat} (hp : p < n) : p ∈ W := by
  by_cases c : p ∈ W
  · exact c
  · have := nd_len (n := n) (W := p :: W) (List.nodup_cons.mpr ⟨c, nd⟩) fun q hq => by
      rcases List.mem_cons.mp hq with e | e
      · omega
      · exact h q e
    rw [List.length_cons] at this
    omega
/-- parents as they are asked for -/
def Pr (ts : List Int) : Prop := ∀ i, i < ts.length → -1 ≤ g ts i ∧ g ts i < (ts.length : Int)
structure BfF (ts : List Int) (W : List Nat) (F : List Int) : Prop where
  ln : F.length = ts.length
  rt : ∀ (j p : Nat), W[j]? = some p → ∃ k, k ≤ j ∧ Rt ts k p ∧ g F p = (k : Int)
structure Bf (ts : List Int) (at_ : Nat) (W : List Nat) : Prop where
  nd : W.Nodup
  lt : ∀ p ∈ W, p < ts.length
  cl : ∀ p, p ∈ W ↔ p < ts.length ∧ (g ts p < 0 ∨ ∃ j w, j < at_ ∧ W[j]? = some w ∧ g ts p = ((w : Nat) : Int))
  le : at_ ≤ W.length
theorem Bf.zero {ts : List Int} : Bf ts 0 (roots ts ts.length) :=
  ⟨roots_nd _ _, fun p hp => (roots_mem.mp hp).1, fun p => by
    rw [roots_mem]
    constructor
    · rintro ⟨a, b⟩
      exact ⟨a, .inl b⟩
    · rintro ⟨a, b | ⟨j, w, c, _⟩⟩
      · exact ⟨a, b⟩
      · omega, Nat.zero_le _⟩
theorem BfF.zero {ts F : List Int} (h : F.length = ts.length) (h0 : ∀ p, p < ts.length → g F p = 0) : BfF ts (roots ts ts.length) F :=
  ⟨h, fun j p e => by
    have m := roots_mem.mp (List.mem_of_getElem? e)
    exact ⟨0, Nat.zero_le _, m.2, h0 p m.1⟩⟩
theorem Bf.fresh {ts : List Int} {at_ w c : Nat} {W : List Nat} (h : Bf ts at_ W) (hw : W[at_]? = some w) (hc : g ts c = (w : Int)) : c ∉ W := by
  intro m
  rcases ((h.cl c).mp m).2 with z | ⟨j, w', j1, j2, j3⟩
  · omega
  · have e : w' = w := by omega
    subst e
    have := nd_inj h.nd j2 hw
    omega
theorem BfF.step {ts : List Int} {at_ w : Nat} {W : List Nat} {F : List Int} {i c : Nat} (h : Bf ts at_ W) (hw : W[at_]? = some w) (f : BfF ts (W ++ (kids ts ts.length w).take i) F) (hc : (kids ts ts.length w)[i]? = some c) :
    BfF ts (W ++ (kids ts ts.length w).take (i + 1)) (F.set c (g F w + 1)) := by
  have mc := kids_mem.mp (List.mem_of_getElem? hc)
  have hat : at_ < W.length := (List.getElem?_eq_some_iff.mp hw).1
  have fr := h.fresh hw mc.2
  have fr2 : c ∉ (kids ts ts.length w).take i := fun m => by
    obtain ⟨j, hj, e⟩ := List.getElem_of_mem m
    rw [List.getElem_take] at e
    rw [List.length_take] at hj
    have hj2 : j < (kids ts ts.length w).length := by omega
    have := nd_inj (kids_nd ts ts.length w) (by rw [List.getElem?_eq_getElem hj2, e] : (kids ts ts.length w)[j]? = some c) hc
    omega
  have et : (kids ts ts.length w).take (i + 1) = (kids ts ts.length w).take i ++ [c] := by
    rw [List.take_add_one, hc]
    rfl
  refine ⟨by rw [List.length_set]; exact f.ln, fun j p e => ?_⟩
  rw [et, ← List.append_assoc] at e
  by_cases z : j < (W ++ (kids ts ts.length w).take i).length
  · rw [List.getElem?_append_left z] at e
    have pn : p ≠ c := fun e2 => by
      have := List.mem_of_getElem? e
      rw [e2] at this
      rcases List.mem_append.mp this with m | m
      · exact fr m
      · exact fr2 m
    obtain ⟨k, k1, k2, k3⟩ := f.rt j p e
    refine ⟨k, k1, k2, ?_⟩
    rw [g_set (by rw [f.ln]; exact mc.1), if_neg (fun e2 => pn e2.symm)]
    exact k3
  · rw [List.getElem?_append_right (by omega)] at e
    have hj : j - (W ++ (kids ts ts.length w).take i).length = 0 := by
      have h0 := (List.getElem?_eq_some_iff.mp e).1
      have h1 : [c].length = 1 := rfl
      omega
    rw [hj] at e
    have ep : p = c := by simpa using e.symm
    subst ep
    obtain ⟨k, k1, k2, k3⟩ := f.rt at_ w (by rw [List.getElem?_append_left hat]; exact hw)
    refine ⟨k + 1, ?_, ⟨by omega, ?_⟩, ?_⟩
    · rw [List.length_append] at z
      omega
    · have e3 : (g ts p).toNat = w := by omega
      rw [e3]
      exact k2
    · rw [g_set (by rw [f.ln]; exact mc.1), if_pos rfl, k3]
      omega
theorem Bf.step {ts : List Int} {at_ w : Nat} {W : List Nat} (h : Bf ts at_ W) (hw : W[at_]? = some w) : Bf ts (at_ + 1) (W ++ kids ts ts.length w) := by
  have hat : at_ < W.length := (List.getElem?_eq_some_iff.mp hw).1
  refine ⟨?_, fun p hp => ?_, fun p => ?_, by rw [List.length_append]; omega⟩
  · rw [List.nodup_append]
    refine ⟨h.nd, kids_nd _ _ _, fun x hx y hy e => ?_⟩
    subst e
    exact h.fresh hw (kids_mem.mp hy).2 hx
  · rcases List.mem_append.mp hp with m | m
    · exact h.lt p m
    · exact (kids_mem.mp m).1
  · rw [List.mem_append, h.cl p, kids_mem]
    constructor
    · rintro (⟨a, b | ⟨j, w', j1, j2, j3⟩⟩ | ⟨a, b⟩)
      · exact ⟨a, .inl b⟩
      · exact ⟨a, .inr ⟨j, w', by omega, by rw [List.getElem?_append_left (by omega)]; exact j2, j3⟩⟩
      · exact ⟨a, .inr ⟨at_, w, by omega, by rw [List.getElem?_append_left hat]; exact hw, b⟩⟩
    · rintro ⟨a, b | ⟨j, w', j1, j2, j3⟩⟩
      · exact .inl ⟨a, .inl b⟩
      · rw [List.getElem?_append_left (by omega)] at j2
        by_cases z : j = at_
        · subst z
          rw [hw] at j2
          have : w = w' := by simpa using j2
          subst this
          exact .inr ⟨a, j3⟩
        · exact .inl ⟨a, .inr ⟨j, w', by omega, j2, j3⟩⟩
theorem Bf.len {ts : List Int} {at_ : Nat} {W : List Nat} (h : Bf ts at_ W) : W.length ≤ ts.length := nd_len h.nd h.lt
/-- at the end: all are there, or some do not come from one above all -/
theorem Bf.full {ts : List Int} {W : List Nat} {F : List Int} (h : Bf ts W.length W) (f : BfF ts W F) (c : ts.length ≤ W.length) : Hung ts ∧ F = dptL ts := by
  have all : ∀ p, p < ts.length → ∃ k, k < ts.length ∧ Rt ts k p ∧ g F p = (k : Int) := fun p hp => by
    obtain ⟨j, hj, e⟩ := List.getElem_of_mem (nd_full h.nd h.lt c hp)
    obtain ⟨k, k1, k2, k3⟩ := f.rt j p (by rw [List.getElem?_eq_getElem hj, e])
    have := h.len
    exact ⟨k, by omega, k2, k3⟩
  have hu : Hung ts := fun p hp => by
    obtain ⟨k, k1, k2, _⟩ := all p hp
    exact ⟨k, k1, k2⟩
  refine ⟨hu, ?_⟩
  apply List.ext_getElem?
  intro p
  by_cases hp : p < ts.length
  · have e1 : F[p]? = some (g F p) := by simp [g, f.ln, hp]
    have e2 : (dptL ts)[p]? = some ((dpt ts p : Nat) : Int) := by simp [dptL, hp]
    rw [e1, e2]
    obtain ⟨k, k1, k2, k3⟩ := all p hp
    have := (hu.rt hp).eq k2
    rw [k3, this]
  · rw [List.getElem?_eq_none (by rw [f.ln]; omega), List.getElem?_eq_none (by rw [dptL_len]; omega)]
theorem Bf.miss {ts : List Int} (hp : Pr ts) {W : List Nat} (h : Bf ts W.length W) (c : W.length < ts.length) : ¬ Hung ts := by
  intro hu
  have all : ∀ k p, p < ts.length → Rt ts k p → p ∈ W := by
    intro k
    induction k with
    | zero => exact fun p h1 h2 => (h.cl p).mpr ⟨h1, .inl h2⟩
    | succ k ih =>
      intro p h1 h2
      have h3 := h2.1
      have m := ih (g ts p).toNat (by have := (hp p h1).2; omega) h2.2
      obtain ⟨j, hj, e⟩ := List.getElem_of_mem m
      exact (h.cl p).mpr ⟨h1, .inr ⟨j, (g ts p).toNat, hj, by rw [List.getElem?_eq_getElem hj, e], by omega⟩⟩
  have := sub_len (n := ts.length) (W := W) fun p h1 => by
    obtain ⟨k, _, k2⟩ := hu p h1
    exact all k p h1 k2
  omega
end Sky

/-! Pd: depths. -/
namespace Sky
open PySem PySem.Spec PyProof.Rows L2
local macro_rules | `(tactic| walk_at "sx") => `(tactic| try simp only [e_K, e_seq, e_asg, e_name, e_drop, e_ret, e_retN, e_ifs, e_next, e_var, e_c, e_op, e_un, e_rI0, e_rI, e_rU, e_test, e_B, e_bl, e_and, e_or, e_not, e_andV, e_orV, e_notV, e_if, e_CB, e_CKw, e_cons, e_nil, e_call,
  e_chn, e_cCons, e_cOne, e_BM, e_BM0, e_sub, e_par, e_ls, e_noP, e_part, e_intx, e_refx, e_yes, e_get0, e_getS, e_sl, List.set_cons_zero, List.set_cons_succ, List.cons_append, List.nil_append, List.append_nil, Bool.not_true, Bool.not_false, e_lst, e_tup, e_rev, e_eqi, e_nei, decide_true, decide_false, if_true, Bool.false_eq_true, if_false, e_callS])
/-- the addresses: the list of lists, the found, the waiting -/
structure DAd (H : Hp) (D fp q : Addr) (cs : List Addr) : Prop where
  nd : cs.Nodup
  nD : D ∉ cs
  nf : fp ∉ cs
  nq : q ∉ cs
  Df : D ≠ fp
  Dq : D ≠ q
  fq : fp ≠ q
  hD : H D = none
  hf : H fp = none
  hq : H q = none
  hc : ∀ t ∈ cs, H t = none
structure DSt (H : Hp) (D fp q : Addr) (cs : List Addr) (L : Nat → List Nat) (F : List Int) (W : List Nat) (H' : Hp) : Prop where
  sm : Same H H'
  dl : H' D = some (.lst (cs.map V.ref))
  ch : ∀ (m : Nat) (t : Addr), cs[m]? = some t → H' t = some (.lst (ivs (nts (L m))))
  ff : H' fp = some (.lst (ivs F))
  fw : H' q = some (.lst (ivs (nts W)))
theorem ne_mem {a b : Addr} {l : List Addr} (h : a ∈ l) (n : b ∉ l) : a ≠ b := fun z => n (z ▸ h)
section
variable {H H' : Hp} {D fp q : Addr} {cs : List Addr} {L : Nat → List Nat} {F : List Int} {W : List Nat}
theorem DSt.more (h : DSt H D fp q cs L F W H') {H2 : Hp} (s : Same H' H2) : DSt H D fp q cs L F W H2 := ⟨h.sm.trans s, s _ _ h.dl, fun m t e => s _ _ (h.ch m t e), s _ _ h.ff, s _ _ h.fw⟩
theorem DSt.setF (A : DAd H D fp q cs) (h : DSt H D fp q cs L F W H') (F2 : List Int) : DSt H D fp q cs L F2 W (upd H' fp (.lst (ivs F2))) :=
  ⟨same_mut h.sm A.hf, by rw [upd_ne A.Df]; exact h.dl, fun m t e => by rw [upd_ne (ne_mem (List.mem_of_getElem? e) A.nf)]; exact h.ch m t e, upd_same, by rw [upd_ne A.fq.symm]; exact h.fw⟩
theorem DSt.setW (A : DAd H D fp q cs) (h : DSt H D fp q cs L F W H') (W2 : List Nat) : DSt H D fp q cs L F W2 (upd H' q (.lst (ivs (nts W2)))) :=
  ⟨same_mut h.sm A.hq, by rw [upd_ne A.Dq]; exact h.dl, fun m t e => by rw [upd_ne (ne_mem (List.mem_of_getElem? e) A.nq)]; exact h.ch m t e, by rw [upd_ne A.fq]; exact h.ff, upd_same⟩
theorem nd_injA {α : Type} : ∀ {W : List α}, W.Nodup → ∀ {i j : Nat} {w : α}, W[i]? = some w → W[j]? = some w → i = j
  | [], _, i, j, w, h, _ => by simp at h
  | x :: r, nd, i, j, w, h, h2 => by
    obtain ⟨n1, n2⟩ := List.nodup_cons.mp nd
    cases i with
    | zero =>
      cases j with
      | zero => rfl
      | succ j =>
        have e : x = w := by simpa using h
        subst e
        exact absurd (List.mem_of_getElem? (by simpa using h2 : r[j]? = some x)) n1
    | succ i =>
      cases j with
      | zero =>
        have e : x = w := by simpa using h2
        subst e
        exact absurd (List.mem_of_getElem? (by simpa using h : r[i]? = some x)) n1
      | succ j => rw [nd_injA n2 (by simpa using h : r[i]? = some w) (by simpa using h2 : r[j]? = some w)]
theorem DSt.setK (A : DAd H D fp q cs) (h : DSt H D fp q cs L F W H') {c : Nat} {t : Addr} (hc : cs[c]? = some t) {L2 : Nat → List Nat} (e : ∀ m, m ≠ c → L2 m = L m) : DSt H D fp q cs L2 F W (upd H' t (.lst (ivs (nts (L2 c))))) := by
  have mt := List.mem_of_getElem? hc
  refine ⟨same_mut h.sm (A.hc t mt), by rw [upd_ne (ne_mem mt A.nD).symm]; exact h.dl, fun m u e2 => ?_, by rw [upd_ne (ne_mem mt A.nf).symm]; exact h.ff, by rw [upd_ne (ne_mem mt A.nq).symm]; exact h.fw⟩
  by_cases z : m = c
  · subst z
    rw [hc] at e2
    cases e2
    exact upd_same
  · have ut : u ≠ t := fun z2 => z (nd_injA A.nd (z2 ▸ e2) hc)
    rw [upd_ne ut, e m z]
    exact h.ch m u e2
theorem DSt.same (h : DSt H D fp q cs L F W H') {L2 : Nat → List Nat} (e : ∀ m, L2 m = L m) : DSt H D fp q cs L2 F W H' := ⟨h.sm, h.dl, fun m t z => by rw [e m]; exact h.ch m t z, h.ff, h.fw⟩
end
theorem nts_at {W : List Nat} {j w : Nat} (h : W[j]? = some w) : g (nts W) j = (w : Int) := by
  unfold g nts
  rw [List.getD_eq_getElem?_getD, List.getElem?_map, h]
  rfl
theorem nts_app (W : List Nat) (w : Nat) : ivs (nts (W ++ [w])) = ivs (nts W) ++ [V.int (w : Int)] := by simp [ivs, nts]
theorem nts_len (W : List Nat) : (nts W).length = W.length := List.length_map ..
abbrev s_depths : Stmt := top 14
abbrev N_depths : List Str := ["parents", "children", "found", "waiting", "place", "parent", "at", "child", "one"]
theorem sc_depths : FnScope ["parents", "children", "found", "waiting", "place", "parent", "at", "child", "one"] ["parents"] (defScope s_depths) := ⟨rfl, rfl, rfl, by decide +kernel, rfl, by decide +kernel, by decide +kernel⟩
def sp_depths (K : PySem.W.Frag) : Sp := Sp1 fun x H Q _ => ∃ (a : Addr) (ts : List Int), x = .ref a ∧ SqL K H a (ivs ts) ∧ Pr ts ∧ ts.length ≤ 1000 ∧
  (Hung ts → ∀ p H', H p = none → Same H H' → H' p = some (.lst (ivs (dptL ts))) → Q (.ref p) H') ∧ (¬ Hung ts → ∀ p H', H p = none → Same H H' → H' p = some (.lst (ivs [])) → Q (.ref p) H')
theorem ok_depths {P : Program} {w : World} {K : PySem.W.Frag} {mg : Str → Option Value} {base : Heap} {CL : Cl} (D : Def K mg "depths" ["parents"] s_depths) (T : Txt K mg CL)  : Has P w K mg base CX0 1 "depths" ["parents"] (sp_depths K) := by
  obtain ⟨f, fd, gm, F, bb⟩ := D
  refine ⟨f, fd, gm, F.ok sc_depths (fun vs H Q E h => ?_) (fun cdv A outer s H vs Q E hr h => ?_), F.kp, bb⟩
  · obtain ⟨x1, rfl, _⟩ := h
    rfl
  obtain ⟨x1, rfl, h⟩ := h
  refine ⟨_, (pss_cons (ps_setLc (i := 1) (own := [("one", 8)]) (g := (gName 8)) (tt := tYes) (by rfl) sc_depths.nd rfl rfl (sw_true rfl rfl rfl (by decide +kernel)) (pi_list (pv 0)) (blkOk_by (own := [("one", 8)]) (N := N_depths) (sc := defScope s_depths) (by decide +kernel)) (fun _ _ _ _ _ => (pg_name (i := 8) sc_depths.nd rfl (Or.inl rfl))) (fun _ _ _ _ _ => pts_nil) (fun _ _ _ _ _ => (pe_lst pa_nil)))
      (pss_cons (ps_setLc (i := 2) (own := [("one", 8)]) (g := (gName 8)) (tt := tYes) (by rfl) sc_depths.nd rfl rfl (sw_true rfl rfl rfl (by decide +kernel)) (pi_list (pv 0)) (blkOk_by (own := [("one", 8)]) (N := N_depths) (sc := defScope s_depths) (by decide +kernel)) (fun _ _ _ _ _ => (pg_name (i := 8) sc_depths.nd rfl (Or.inl rfl))) (fun _ _ _ _ _ => pts_nil) (fun _ _ _ _ _ => pe_int))
      (pss_cons (ps_set (i := 3) sc_depths.nd rfl (Or.inl rfl) (pe_lst pa_nil))
      (pss_cons (ps_for PassesOwn.never rfl (pi_enum (by rfl) T.m_enumerate (pa_cons (pv 0) pa_nil)) (pg_tup (n := 2) rfl (pgs_cons (pg_name (i := 4) sc_depths.nd rfl (Or.inl rfl)) (pgs_cons (pg_name (i := 5) sc_depths.nd rfl (Or.inl rfl)) pgs_nil))) (pss_one (ps_if (pt_cmpR op_lt (pv 5) pe_int (nomark _)) (pss_one (ps_expr (pe_bm PySem.F.plainAttrs_list PySem.F.slot_list_append PySem.F.type_list_append mt_append (pv 3) (pa_cons (pv 4) pa_nil)))) (pss_one (ps_expr (pe_bm PySem.F.plainAttrs_list PySem.F.slot_list_append PySem.F.type_list_append mt_append (pe_ix (ix_listK (K := K)) (pv 1) (pv 5) (fun _ _ => rfl)) (pa_cons (pv 4) pa_nil)))))))
      (pss_cons (ps_set (i := 6) sc_depths.nd rfl (Or.inl rfl) pe_int)
      (pss_mid (ps_while PassesOwn.never (pt_cmpR op_lt (pv 6) (pe_callB (lenK (K := K)) (by rfl) T.m_len bt_len (pa_cons (pv 3) pa_nil)) (nomark _)) (pss_cons (ps_for PassesOwn.never rfl (pi_list (pe_ix (ix_listK (K := K)) (pv 1) (pe_ix (ix_listK (K := K)) (pv 3) (pv 6) (fun _ _ => rfl)) (fun _ _ => rfl))) (pg_name (i := 7) sc_depths.nd rfl (Or.inl rfl)) (pss_cons (ps_asg (pe_op op_add (pe_ix (ix_listK (K := K)) (pv 2) (pe_ix (ix_listK (K := K)) (pv 3) (pv 6) (fun _ _ => rfl)) (fun _ _ => rfl)) pe_int) (pg_sub (pv 2) (pv 7) set_list))
      (pss_one (ps_expr (pe_bm PySem.F.plainAttrs_list PySem.F.slot_list_append PySem.F.type_list_append mt_append (pv 3) (pa_cons (pv 7) pa_nil))))))
      (pss_one (ps_set (i := 6) sc_depths.nd rfl (Or.inl rfl) (pe_op op_add (pv 6) pe_int)))))
      (pss_cons (ps_if (pt_cmpR op_lt (pe_callB (lenK (K := K)) (by rfl) T.m_len bt_len (pa_cons (pv 3) pa_nil)) (pe_callB (lenK (K := K)) (by rfl) T.m_len bt_len (pa_cons (pv 0) pa_nil)) (nomark _)) (pss_one (ps_ret (pe_lst pa_nil))) pss_nil)
      (pss_one (ps_ret (pv 2)))))))))), start_is (σ := [some x1, none, none, none, none, none, none, none, none]) rfl ?_⟩
  obtain ⟨a, ts, rfl, hS, hpr, hlen, k1, k2⟩ := h
  walk_at "sx"
  refine q_lcLL (fun _ => []) (fun R r => ⟨_, rfl, r⟩) hS (by rw [len_ivs]; omega) (fun _ => rfl) (fun i x H' Q' hx s1 kk => ?_) ?_
  · simp only [wipe, List.map_cons, List.map_nil]
    walk_at "sx"
    exact q_newL fun t nt => kk t _ nt (same_new nt) upd_same
  intro D H1 cs nD s1 hD hcl hcs
  rw [len_ivs] at hcl
  refine q_lcL (fun i v _ => v = .int 0) (fun R r => ⟨_, rfl, r⟩) (s1.seq hS) (by rw [len_ivs]; omega) (fun _ => rfl) (fun _ _ _ _ e _ => e) (fun i x H' Q' hx s2 kk => ?_) ?_
  · simp only [wipe, List.map_cons, List.map_nil]
    walk_at "sx"
    exact kk _ _ (Same.refl _) rfl
  intro fp H2 acc nf s2 hf hla hva
  have e := acc_ivs (f := fun _ => 0) hla hva
  subst e
  rw [len_ivs] at hf
  refine q_newL fun q nq => ?_
  have s12 := s1.trans s2
  have sq := same_new (o := .lst []) nq
  have A : DAd H D fp q cs := by
    refine ⟨hcs.nd, hcs.nD, fun m => ?_, fun m => ?_, ne_of_none hD nf, ne_of_none (s2 _ _ hD) nq, ne_of_none hf nq, nD, s1.free nf, s12.free nq, hcs.fr⟩
    · obtain ⟨j, hj, e⟩ := List.getElem_of_mem m
      have := hcs.at_ j fp (by rw [List.getElem?_eq_getElem hj, e])
      rw [nf] at this
      cases this
    · obtain ⟨j, hj, e⟩ := List.getElem_of_mem m
      have := s2 _ _ (hcs.at_ j q (by rw [List.getElem?_eq_getElem hj, e]))
      rw [nq] at this
      cases this
  have d0 : DSt H D fp q cs (kids ts 0) ((List.range ts.length).map fun _ => 0) (roots ts 0) (upd H2 q (.lst [])) :=
    ⟨s12.trans sq, sq _ _ (s2 _ _ hD), fun m t e => sq _ _ (s2 _ _ (hcs.at_ m t e)), sq _ _ hf, upd_same⟩
  generalize upd H2 q (.lst []) = H3 at d0 ⊢
  refine q_forE (a := a) (xs := ivs ts) (fun R r => ⟨_, rfl, r⟩) (fun i σ H' => ∃ v4 v5, σ = [some (.ref a), some (.ref D), some (.ref fp), some (.ref q), v4, v5, none, none, none] ∧ DSt H D fp q cs (kids ts i) ((List.range ts.length).map fun _ => 0) (roots ts i) H')
    ⟨none, none, rfl, d0⟩ (fun i σ H' ⟨_, _, _, d⟩ => d.sm.seq hS) ?_ ?_
  · rintro i x σ H4 H5 hx ⟨v4, v5, rfl, d4⟩ s5
    obtain ⟨hi, rfl⟩ := of_ivs hx
    have d5 := d4.more s5
    walk_at "sx"
    by_cases c : g ts i < 0
    · rw [if_pos (decide_eq_true c)]
      refine q_app d5.fw (by rw [len_ivs, nts_len]; have := roots_len ts i; omega) ?_
      refine ⟨_, _, rfl, ?_⟩
      have er : roots ts (i + 1) = roots ts i ++ [i] := by rw [roots_step, if_pos c]
      have := d5.setW A (roots ts (i + 1))
      rw [er, nts_app] at this
      rw [er]
      exact this.same fun m => by rw [kids_step, if_neg (by omega)]
    · rw [if_neg (by simpa using c)]
      obtain ⟨n, en⟩ : ∃ n : Nat, g ts i = (n : Int) := ⟨(g ts i).toNat, by omega⟩
      have hn : n < cs.length := by have := (hpr i hi).2; omega
      have ct := List.getElem?_eq_getElem hn
      rw [en]
      refine q_ixV (SqL.of d5.dl) rfl (by rw [List.getElem?_map, ct]; rfl) ?_
      refine q_app (d5.ch n _ ct) (by rw [len_ivs, nts_len]; have := kids_len ts i n; omega) ?_
      refine ⟨_, _, rfl, ?_⟩
      have := d5.setK A ct (L2 := kids ts (i + 1)) fun m hm => by rw [kids_step, if_neg (by omega)]
      have ek : kids ts (i + 1) n = kids ts i n ++ [i] := by rw [kids_step, if_pos en]
      have er : roots ts (i + 1) = roots ts i := by rw [roots_step, if_neg c]
      rw [ek, nts_app] at this
      rw [er]
      exact this
  rintro σ H4 ⟨v4, v5, rfl, d4⟩
  rw [len_ivs] at d4
  walk_at "sx"
  refine q_mid (fun σ H5 => ∃ (W : List Nat) (F : List Int) (w4 w5 w6 w7 w8 : Option V), σ = [some (.ref a), some (.ref D), some (.ref fp), some (.ref q), w4, w5, w6, w7, w8] ∧ DSt H D fp q cs (kids ts ts.length) F W H5 ∧ Bf ts W.length W ∧ BfF ts W F) ?_ ?_
  · refine q_while (fun m σ H5 => ∃ (at_ : Nat) (W : List Nat) (F : List Int) (w7 : Option V), m = ts.length - at_ ∧ σ = [some (.ref a), some (.ref D), some (.ref fp), some (.ref q), v4, v5, some (.int (at_ : Int)), w7, none] ∧ DSt H D fp q cs (kids ts ts.length) F W H5 ∧ Bf ts at_ W ∧ BfF ts W F)
      ⟨_, 0, _, _, none, rfl, rfl, d4, Bf.zero, BfF.zero (by simp) fun p hp => by rw [g_map hp]⟩ ?_
    rintro m σ H5 ⟨at_, W, F, w7, rfl, rfl, d5, b5, f5⟩
    walk_at "sx"
    refine q_lenI (SqL.of d5.fw) ?_
    rw [nts_len]
    walk_at "sx"
    by_cases c : (at_ : Int) < (W.length : Int)
    · rw [if_pos (decide_eq_true c)]
      have hat : at_ < W.length := by omega
      have hw := List.getElem?_eq_getElem hat
      generalize W[at_] = w at hw
      have wn := b5.lt w (List.mem_of_getElem? hw)
      have wl := b5.len
      have ct := List.getElem?_eq_getElem (show w < cs.length by omega)
      generalize cs[w]'(show w < cs.length by omega) = t at ct
      have kl := kids_len ts ts.length w
      refine ⟨fun σ' H' => ∃ (W' : List Nat) (F' : List Int) (w7 : Option V), σ' = [some (.ref a), some (.ref D), some (.ref fp), some (.ref q), v4, v5, some (.int ((at_ + 1 : Nat) : Int)), w7, none] ∧ DSt H D fp q cs (kids ts ts.length) F' W' H' ∧ Bf ts (at_ + 1) W' ∧ BfF ts W' F',
        fun σ' H' ⟨W', F', w7, e1, e2, e3, e4⟩ => ⟨ts.length - (at_ + 1), by omega, at_ + 1, W', F', w7, rfl, e1, e2, e3, e4⟩, ?_⟩
      refine q_forL (a := t) (xs := ivs (nts (kids ts ts.length w))) (fun R r => by
          walk_at "sx"
          refine q_ixL (SqL.of d5.fw) rfl (by rw [nts_len]; exact hat) ?_
          rw [nts_at hw]
          exact q_ixV (SqL.of d5.dl) rfl (by rw [List.getElem?_map, ct]; rfl) r)
        (fun i σ H' => ∃ (w7 : Option V) (F' : List Int), σ = [some (.ref a), some (.ref D), some (.ref fp), some (.ref q), v4, v5, some (.int (at_ : Int)), w7, none] ∧ DSt H D fp q cs (kids ts ts.length) F' (W ++ (kids ts ts.length w).take i) H' ∧ BfF ts (W ++ (kids ts ts.length w).take i) F')
        ⟨w7, F, rfl, by simpa using d5, by simpa using f5⟩ (fun i σ H' ⟨_, _, _, d, _⟩ => SqL.of (d.ch w t ct)) ?_ ?_
      · rintro i x σ H6 hx ⟨w7', F', rfl, d6, f6⟩
        obtain ⟨hi, rfl⟩ := of_ivs hx
        rw [nts_len] at hi
        have hc := List.getElem?_eq_getElem hi
        generalize (kids ts ts.length w)[i] = cc at hc
        rw [nts_at hc]
        have mc := kids_mem.mp (List.mem_of_getElem? hc)
        have hwi : (W ++ (kids ts ts.length w).take i)[at_]? = some w := by rw [List.getElem?_append_left hat]; exact hw
        walk_at "sx"
        refine q_ixL (SqL.of d6.fw) rfl (by rw [nts_len, List.length_append]; omega) ?_
        rw [nts_at hwi]
        refine q_ixL (SqL.of d6.ff) rfl (by rw [f6.ln]; exact wn) ?_
        walk_at "sx"
        refine q_setL d6.ff rfl (by rw [len_ivs, f6.ln]; exact mc.1) ?_
        rw [ivs_set]
        have d7 := d6.setF A (F'.set cc (g F' w + 1))
        have f7 := BfF.step b5 hw f6 hc
        refine q_app d7.fw (by rw [len_ivs, nts_len, List.length_append, List.length_take]; omega) ?_
        have et : W ++ (kids ts ts.length w).take (i + 1) = (W ++ (kids ts ts.length w).take i) ++ [cc] := by
          rw [List.take_add_one, hc, List.append_assoc]
          rfl
        have d8 := d7.setW A ((W ++ (kids ts ts.length w).take i) ++ [cc])
        rw [nts_app] at d8
        rw [et] at f7 ⊢
        exact ⟨_, _, rfl, d8, f7⟩
      · rintro σ H6 ⟨w7', F', rfl, d6, f6⟩
        rw [len_ivs, nts_len, List.take_length] at d6 f6
        walk_at "sx"
        refine ⟨_, F', w7', ?_, d6, b5.step hw, f6⟩
        rw [show ((at_ + 1 : Nat) : Int) = (at_ : Int) + 1 by omega]
    · rw [if_neg (by simpa using c)]
      have e : at_ = W.length := by have := b5.le; omega
      subst e
      exact ⟨W, F, _, _, _, _, _, rfl, d5, b5, f5⟩
  · rintro σ H5 ⟨W, F, w4, w5, w6, w7, w8, rfl, d5, b5, f5⟩
    walk_at "sx"
    refine q_lenI (SqL.of d5.fw) (q_lenI (d5.sm.seq hS) ?_)
    rw [nts_len]
    walk_at "sx"
    by_cases c : (W.length : Int) < (ts.length : Int)
    · rw [if_pos (decide_eq_true c)]
      exact q_newL fun r nr => k2 (b5.miss hpr (by omega)) r _ (d5.sm.free nr) (d5.sm.trans (same_new nr)) upd_same
    · rw [if_neg (by simpa using c)]
      obtain ⟨hu, e⟩ := b5.full f5 (by omega)
      subst e
      exact k1 hu fp H5 A.hf d5.sm d5.ff
end Sky

/-! Pv: bars_of, for any parents in their bounds. -/
namespace Sky
open PySem PySem.Spec PyProof.Rows L2
local macro_rules | `(tactic| walk_at "sx") => `(tactic| try simp only [e_K, e_seq, e_asg, e_name, e_drop, e_ret, e_retN, e_ifs, e_next, e_var, e_c, e_op, e_un, e_rI0, e_rI, e_rU, e_test, e_B, e_bl, e_and, e_or, e_not, e_andV, e_orV, e_notV, e_if, e_CB, e_CKw, e_cons, e_nil, e_call,
  e_chn, e_cCons, e_cOne, e_BM, e_BM0, e_sub, e_par, e_ls, e_noP, e_part, e_intx, e_refx, e_yes, e_get0, e_getS, e_sl, List.set_cons_zero, List.set_cons_succ, List.cons_append, List.nil_append, List.append_nil, Bool.not_true, Bool.not_false, e_lst, e_tup, e_rev, e_eqi, e_nei, decide_true, decide_false, if_true, Bool.false_eq_true, if_false, e_callS])
abbrev s_bars_of : Stmt := top 15
abbrev N_bars_of : List Str := ["parents", "found", "one"]
theorem sc_bars_of : FnScope ["parents", "found", "one"] ["parents"] (defScope s_bars_of) := ⟨rfl, rfl, rfl, by decide +kernel, rfl, by decide +kernel, by decide +kernel⟩
def TreeOk (ts : List Int) : Prop := Hung ts ∧ parL (dptL ts) = ts
def sp_bars_of (K : PySem.W.Frag) (CL : Cl) : Sp := Sp1 fun x H Q E => ∃ (a : Addr) (ts : List Int), x = .ref a ∧ SqL K H a (ivs ts) ∧ Pr ts ∧ ts.length ≤ 1000 ∧
  (TreeOk ts → ∀ p H', H p = none → Same H H' → H' p = some (.lst (ivs (dptL ts))) → Q (.ref p) H') ∧ (¬ TreeOk ts → ∀ H', Same H H' → E (.ref CL.BadTree) none H')
theorem ok_bars_of {P : Program} {w : World} {K : PySem.W.Frag} {mg : Str → Option Value} {base : Heap} {CL : Cl} (D : Def K mg "bars_of" ["parents"] s_bars_of) (T : Txt K mg CL) (h_depths : Has P w K mg base CX0 1 "depths" ["parents"] (sp_depths K)) (h_parents_of : Has P w K mg base CX0 1 "parents_of" ["bars"] (sp_parents_of K)) (h_is_number : Has P w K mg base CX0 1 "is_number" ["thing", "least", "most"] (sp_is_number K)) : Has P w K mg base (L2N.CX P w) 2 "bars_of" ["parents"] (sp_bars_of K CL) := by
  obtain ⟨f, fd, gm, F, bb⟩ := D
  obtain ⟨f_depths, fd_depths, g_depths, G_depths, k_depths, b_depths⟩ := h_depths
  obtain ⟨f_parents_of, fd_parents_of, g_parents_of, G_parents_of, k_parents_of, b_parents_of⟩ := h_parents_of
  obtain ⟨f_is_number, fd_is_number, g_is_number, G_is_number, k_is_number, b_is_number⟩ := h_is_number
  refine ⟨f, fd, gm, okN F sc_bars_of (fun vs H Q E h => ?_) (fun cdv A outer s H vs Q E hr h => ?_), F.kp, bb⟩
  · obtain ⟨x1, rfl, _⟩ := h
    rfl
  have hr_depths : Room 1 (A.deeper (envOfC "bars_of" (defScope s_bars_of) s.heap.objs.size f cdv)) := hr.mono (by decide)
  have hr_parents_of : Room 1 (A.deeper (envOfC "bars_of" (defScope s_bars_of) s.heap.objs.size f cdv)) := hr.mono (by decide)
  have hr_is_number : Room 1 (A.deeper (envOfC "bars_of" (defScope s_bars_of) s.heap.objs.size f cdv)) := hr.mono (by decide)
  obtain ⟨x1, rfl, h⟩ := h
  refine ⟨_, (pss_cons (ps_if (PW.pt (pw_or (pt_not (pt_val (pe_callB (isiK (K := K)) (by rfl) T.m_isinstance bt_isinstance (pa_cons (pv 0) (pa_cons (pe_bltn (v := V.ty "list") (by rfl) T.m_list bt_list rfl) pa_nil))))) (pw_or1 (pt_not (pt_val (pe_callB (allK (K := K) rfl) (by rfl) T.m_all bt_all (pa_cons (pe_lc (own := [("one", 2)]) (g := (gName 2)) (tt := tYes) (by rfl) sc_bars_of.nd (pi_list (pv 0)) (blkOk_by (own := [("one", 2)]) (N := N_bars_of) (sc := defScope s_bars_of) (by decide +kernel)) (fun _ _ _ _ _ => (pg_name (i := 2) sc_bars_of.nd rfl (Or.inl rfl))) (fun _ _ _ _ _ => pts_nil) (fun _ _ _ _ _ => (pe_call G_is_number hr_is_number (by rfl) g_is_number k_is_number b_is_number .nil pass0 (pa_cons (pv 2) (pa_cons (pe_un un_neg pe_int) (pa_cons (pe_op op_sub (pe_callB (lenK (K := K)) (by rfl) T.m_len bt_len (pa_cons (pv 0) pa_nil)) pe_int) pa_nil)))))) pa_nil))))))) (pss_one (L2N.ps_raise rfl (L2N.takes_of rfl rfl rfl rfl) (L2N.pmk_own PySem.F.excBase_ValueError T.xi_BadTree T.c_BadTree T.kx_BadTree (raises_own T.bx_BadTree T.tx_BadTree) (by rfl)))) pss_nil)
      (pss_cons (ps_set (i := 1) sc_bars_of.nd rfl (Or.inl rfl) (pe_call G_depths hr_depths (by rfl) g_depths k_depths b_depths .nil pass0 (pa_cons (pv 0) pa_nil)))
      (pss_cons (ps_if (PW.pt (pw_or (pt_cmpR op_ne (pe_callB (lenK (K := K)) (by rfl) T.m_len bt_len (pa_cons (pv 1) pa_nil)) (pe_callB (lenK (K := K)) (by rfl) T.m_len bt_len (pa_cons (pv 0) pa_nil)) (nomark _)) (pw_or1 (pt_cmpR (neDK (K := K) hr.units) (pe_call G_parents_of hr_parents_of (by rfl) g_parents_of k_parents_of b_parents_of .nil pass0 (pa_cons (pv 1) pa_nil)) (pv 0) (nomark _))))) (pss_one (L2N.ps_raise rfl (L2N.takes_of rfl rfl rfl rfl) (L2N.pmk_own PySem.F.excBase_ValueError T.xi_BadTree T.c_BadTree T.kx_BadTree (raises_own T.bx_BadTree T.tx_BadTree) (by rfl)))) pss_nil)
      (pss_one (ps_ret (pv 1)))))), start_is (σ := [some x1, none, none]) rfl ?_⟩
  obtain ⟨a, ts, rfl, hS, hpr, hlen, k1, k2⟩ := h
  walk_at "sx"
  refine q_isi (tyx_list hS) kb_ll ?_
  walk_at "sx"
  refine q_lcL (fun i v _ => v = .bl true) (fun R r => ⟨_, rfl, r⟩) hS (by rw [len_ivs]; omega) (fun _ => rfl) (fun _ _ _ _ e _ => e) (fun i x H' Q' hx s1 kk => ?_) ?_
  · obtain ⟨hi, rfl⟩ := of_ivs hx
    simp only [wipe, List.map_cons, List.map_nil]
    walk_at "sx"
    refine q_lenI (s1.seq hS) ?_
    walk_at "sx"
    refine ⟨_, _, _, rfl, _, _, _, rfl, rfl, rfl, kk _ _ (Same.refl _) ?_⟩
    have := hpr i hi
    rw [decide_eq_true (by omega)]
  intro D H1 acc nD s1 hD hla hva
  have e := acc_bls (f := fun _ => true) hla hva
  subst e
  refine q_all (SqL.of hD) ?_
  have e2 : (List.map (fun _ => true) (List.range (ivs ts).length)).all id = true := by simp
  rw [e2]
  walk_at "sx"
  try rw [if_neg (by simp)]
  have hS1 := s1.seq hS
  refine ⟨_, rfl, a, ts, rfl, hS1, hpr, hlen, fun hu p H2 np s2 hp => ?_, fun nhu p H2 np s2 hp => ?_⟩
  · walk_at "sx"
    refine q_lenI (SqL.of hp) (q_lenI (s2.seq hS1) ?_)
    rw [dptL_len]
    walk_at "sx"
    refine ⟨_, rfl, p, dptL ts, rfl, SqL.of hp, by rw [dptL_len]; exact hlen, fun r H3 nr s3 hr => ?_⟩
    refine q_neL (SqL.of hr) ((s2.trans s3).seq hS1) ?_
    walk_at "sx"
    by_cases c : parL (dptL ts) = ts
    · rw [if_neg (by simp [c])]
      exact k1 ⟨hu, c⟩ p H3 (s1.free np) ((s1.trans s2).trans s3) (s3 _ _ hp)
    · rw [if_pos (by simp [c])]
      exact k2 (fun z => c z.2) H3 ((s1.trans s2).trans s3)
  · walk_at "sx"
    refine q_lenI (SqL.of hp) (q_lenI (s2.seq hS1) ?_)
    have ne : ts.length ≠ 0 := fun z => nhu (by
      have : ts = [] := List.eq_nil_of_length_eq_zero z
      rw [this]
      exact fun p hp => by simp at hp)
    walk_at "sx"
    rw [if_pos (by simp; intro z; exact absurd (by omega : ts.length = 0) ne)]
    exact k2 (fun z => nhu z.1) H2 (s1.trans s2)
end Sky

/-! Mh: a tree found by the least of a stretch, again and again; walks up are short. -/
namespace Sky
/-- a walk up passes no place twice -/
def way (ts : List Int) : Nat → Nat → List Nat
  | 0, p => [p]
  | k + 1, p => p :: way ts k (g ts p).toNat
theorem way_len (ts : List Int) : ∀ k p, (way ts k p).length = k + 1
  | 0, _ => rfl
  | k + 1, p => by show (p :: way ts k _).length = _; rw [List.length_cons, way_len ts k]
theorem way_rt {ts : List Int} : ∀ {k p}, Rt ts k p → ∀ q ∈ way ts k p, ∃ j, j ≤ k ∧ Rt ts j q
  | 0, p, h, q, hq => by
    have e : q = p := by simpa [way] using hq
    exact ⟨0, Nat.le_refl _, e ▸ h⟩
  | k + 1, p, h, q, hq => by
    rcases List.mem_cons.mp hq with e | e
    · exact ⟨k + 1, Nat.le_refl _, e ▸ h⟩
    · obtain ⟨j, h1, h2⟩ := way_rt h.2 q e
      exact ⟨j, by omega, h2⟩
theorem way_nd {ts : List Int} : ∀ {k p}, Rt ts k p → (way ts k p).Nodup
  | 0, p, _ => by simp [way]
  | k + 1, p, h => by
    refine List.nodup_cons.mpr ⟨fun m => ?_, way_nd h.2⟩
    obtain ⟨j, h1, h2⟩ := way_rt h.2 p m
    have := Rt.eq h h2
    omega
theorem way_lt {ts : List Int} (hp : Pr ts) : ∀ {k p}, p < ts.length → Rt ts k p → ∀ q ∈ way ts k p, q < ts.length
  | 0, p, hl, _, q, hq => by
    have e : q = p := by simpa [way] using hq
    omega
  | k + 1, p, hl, h, q, hq => by
    rcases List.mem_cons.mp hq with e | e
    · omega
    · have := hp p hl
      have := h.1
      exact way_lt hp (by omega) h.2 q e
theorem rt_short {ts : List Int} (hp : Pr ts) {k p : Nat} (hl : p < ts.length) (h : Rt ts k p) : k < ts.length := by
  have := nd_len (way_nd h) (way_lt hp hl h)
  rw [way_len] at this
  omega
/-- a walk up that does not end goes on as long as it may -/
theorem dpF_long {ts : List Int} : ∀ {f p}, (∀ k, k < f → ¬ Rt ts k p) → dpF ts f p = f
  | 0, p, _ => rfl
  | f + 1, p, h => by
    have h0 : ¬ g ts p < 0 := fun z => h 0 (by omega) z
    show (if g ts p < 0 then 0 else dpF ts f (g ts p).toNat + 1) = f + 1
    rw [if_neg h0, dpF_long fun k hk z => h (k + 1) (by omega) ⟨by omega, z⟩]
theorem not_hung {ts : List Int} (hp : Pr ts) (h : ¬ Hung ts) : ∃ p, p < ts.length ∧ dpF ts (ts.length + 1) p = ts.length + 1 := by
  by_cases c : ∃ p, p < ts.length ∧ ∀ k, ¬ Rt ts k p
  · obtain ⟨p, h1, h2⟩ := c
    exact ⟨p, h1, dpF_long fun k _ => h2 k⟩
  · refine absurd (fun p hl => ?_) h
    by_cases z : ∃ k, Rt ts k p
    · obtain ⟨k, hk⟩ := z
      exact ⟨k, rt_short hp hl hk, hk⟩
    · exact absurd ⟨p, hl, fun k hk => z ⟨k, hk⟩⟩ c
theorem hung_dpF {ts : List Int} (h : Hung ts) {p : Nat} (hl : p < ts.length) : dpF ts (ts.length + 1) p = dpt ts p :=
  Rt.dpF (h.rt hl) (by have := h.lt hl; omega)
theorem hung_nil : Hung [] := fun p hp => by simp at hp
/-! ### stretches -/
structure Iv (bs : List Int) (lo hi : Nat) (ab : Int) : Prop where
  hn : hi ≤ bs.length
  lf : 0 < lo → ∀ k, lo ≤ k → k < hi → g bs (lo - 1) ≤ g bs k
  rg : hi < bs.length → ∀ k, lo ≤ k → k < hi → g bs hi < g bs k
  up : ab = if hi = bs.length then (lo : Int) - 1 else if lo = 0 ∨ g bs (lo - 1) ≤ g bs hi then (hi : Int) else (lo : Int) - 1
/-- the first least one of a stretch -/
structure Lst (bs : List Int) (lo hi m : Nat) : Prop where
  ge : lo ≤ m
  lt : m < hi
  lf : ∀ k, lo ≤ k → k < m → g bs m < g bs k
  rg : ∀ k, m < k → k < hi → g bs m ≤ g bs k
theorem Iv.par {bs : List Int} {lo hi m : Nat} {ab : Int} (v : Iv bs lo hi ab) (l : Lst bs lo hi m) : par bs m = ab := by
  have hn := v.hn
  have h1 := l.ge
  have h2 := l.lt
  have ea : aft bs m = (lo : Int) - 1 := by
    refine aft_of (by omega) (by omega) (fun c => ?_) fun k k1 k2 => l.lf k (by omega) k2
    rw [show ((lo : Int) - 1).toNat = lo - 1 by omega]
    exact v.lf (by omega) m h1 h2
  have eb : behind bs m = (hi : Int) := by
    by_cases c : hi < bs.length
    · exact bh_of h2 c (v.rg c m h1 h2) l.rg
    · have e : hi = bs.length := by omega
      rw [e]
      exact bh_end (by omega) fun k k1 k2 => l.rg k k1 (by omega)
  rw [v.up]
  unfold Sky.par
  rw [ea, eb]
  by_cases c : hi = bs.length
  · rw [if_pos (by omega), if_pos c]
  · rw [if_neg (by omega), if_neg c]
    rw [show ((lo : Int) - 1).toNat = lo - 1 by omega, show ((hi : Int)).toNat = hi by omega]
    by_cases d : lo = 0
    · rw [if_pos (.inl (by omega)), if_pos (.inl d)]
    · by_cases e : g bs (lo - 1) ≤ g bs hi
      · rw [if_pos (.inr e), if_pos (.inr e)]
      · rw [if_neg (by omega), if_neg (by omega)]
theorem Iv.left {bs : List Int} {lo hi m : Nat} {ab : Int} (v : Iv bs lo hi ab) (l : Lst bs lo hi m) : Iv bs lo m (m : Int) := by
  have hn := v.hn
  have h1 := l.ge
  have h2 := l.lt
  refine ⟨by omega, fun c k k1 k2 => v.lf c k k1 (by omega), fun c k k1 k2 => l.lf k k1 k2, ?_⟩
  rw [if_neg (by omega)]
  by_cases c : lo = 0
  · rw [if_pos (.inl c)]
  · rw [if_pos (.inr (v.lf (by omega) m h1 h2))]
theorem Iv.right {bs : List Int} {lo hi m : Nat} {ab : Int} (v : Iv bs lo hi ab) (l : Lst bs lo hi m) : Iv bs (m + 1) hi (m : Int) := by
  have hn := v.hn
  have h1 := l.ge
  have h2 := l.lt
  refine ⟨hn, fun c k k1 k2 => ?_, fun c k k1 k2 => v.rg c k (by omega) k2, ?_⟩
  · rw [show m + 1 - 1 = m by omega]
    exact l.rg k (by omega) k2
  · by_cases c : hi = bs.length
    · rw [if_pos c]
      omega
    · rw [if_neg c, if_neg ?_]
      · omega
      · rw [show m + 1 - 1 = m by omega]
        have := v.rg (by omega) m h1 h2
        omega
theorem Iv.whole (bs : List Int) : Iv bs 0 bs.length (-1) :=
  ⟨Nat.le_refl _, fun c => by omega, fun c => by omega, by rw [if_pos rfl]; rfl⟩
/-- stretches that wait, and what is found -/
structure Hg (bs : List Int) (W : List (Nat × Nat × Int)) (F : List Int) : Prop where
  ln : F.length = bs.length
  iv : ∀ w ∈ W, Iv bs w.1 w.2.1 w.2.2
  al : ∀ p, p < bs.length → g F p = par bs p ∨ ∃ w ∈ W, w.1 ≤ p ∧ p < w.2.1
def wsum : List (Nat × Nat × Int) → Nat
  | [] => 0
  | w :: r => 2 * (w.2.1 - w.1) + 1 + wsum r
theorem wsum_len : ∀ W : List (Nat × Nat × Int), W.length ≤ wsum W
  | [] => Nat.le_refl _
  | w :: r => by
    have := wsum_len r
    show r.length + 1 ≤ 2 * (w.2.1 - w.1) + 1 + wsum r
    omega
theorem Hg.zero {bs F : List Int} (h : F.length = bs.length) : Hg bs [(0, bs.length, -1)] F :=
  ⟨h, fun w hw => by
    have e : w = (0, bs.length, -1) := by simpa using hw
    subst e
    exact Iv.whole bs, fun p hp => .inr ⟨_, List.mem_cons_self, Nat.zero_le _, hp⟩⟩
theorem Hg.skip {bs F : List Int} {w : Nat × Nat × Int} {r : List (Nat × Nat × Int)} (h : Hg bs (w :: r) F) (c : ¬ w.1 < w.2.1) : Hg bs r F :=
  ⟨h.ln, fun x hx => h.iv x (List.mem_cons_of_mem _ hx), fun p hp => by
    rcases h.al p hp with z | ⟨x, hx, a, b⟩
    · exact .inl z
    · rcases List.mem_cons.mp hx with e | e
      · subst e
        omega
      · exact .inr ⟨x, e, a, b⟩⟩
theorem Hg.step {bs F : List Int} {lo hi m : Nat} {ab : Int} {r : List (Nat × Nat × Int)} (h : Hg bs ((lo, hi, ab) :: r) F) (l : Lst bs lo hi m) : Hg bs ((m + 1, hi, (m : Int)) :: (lo, m, (m : Int)) :: r) (F.set m ab) := by
  have v := h.iv _ List.mem_cons_self
  simp only at v
  have hm : m < F.length := by have := v.hn; have := l.lt; have := h.ln; omega
  refine ⟨by rw [List.length_set]; exact h.ln, fun w hw => ?_, fun p hp => ?_⟩
  · rcases List.mem_cons.mp hw with e | e
    · subst e
      exact v.right l
    · rcases List.mem_cons.mp e with e | e
      · subst e
        exact v.left l
      · exact h.iv w (List.mem_cons_of_mem _ e)
  · rw [g_set hm]
    by_cases e : m = p
    · subst e
      rw [if_pos rfl]
      exact .inl (v.par l).symm
    · rw [if_neg e]
      rcases h.al p hp with z | ⟨x, hx, a, b⟩
      · exact .inl z
      · right
        rcases List.mem_cons.mp hx with e2 | e2
        · subst e2
          simp only at a b
          by_cases c : p < m
          · exact ⟨(lo, m, (m : Int)), List.mem_cons_of_mem _ List.mem_cons_self, a, c⟩
          · exact ⟨(m + 1, hi, (m : Int)), List.mem_cons_self, by show m + 1 ≤ p; omega, b⟩
        · exact ⟨x, List.mem_cons_of_mem _ (List.mem_cons_of_mem _ e2), a, b⟩
theorem Hg.done {bs F : List Int} (h : Hg bs [] F) : F = parL bs := by
  apply List.ext_getElem?
  intro p
  by_cases hp : p < bs.length
  · have e1 : F[p]? = some (g F p) := by simp [g, h.ln, hp]
    have e2 : (parL bs)[p]? = some (par bs p) := by simp [parL, hp]
    rw [e1, e2]
    congr 1
    rcases h.al p hp with z | ⟨x, hx, _⟩
    · exact z
    · simp at hx
  · rw [List.getElem?_eq_none (by rw [h.ln]; omega), List.getElem?_eq_none (by rw [parL_len]; omega)]
end Sky

/-! L1: the law's own helpers: bars drawn, numbers, links and reaches by walking. -/
namespace Sky
open PySem PySem.Spec PyProof.Rows L2
local macro_rules | `(tactic| walk_at "sx") => `(tactic| try simp only [e_K, e_seq, e_asg, e_name, e_drop, e_ret, e_retN, e_ifs, e_next, e_var, e_c, e_op, e_un, e_rI0, e_rI, e_rU, e_test, e_B, e_bl, e_and, e_or, e_not, e_andV, e_orV, e_notV, e_if, e_CB, e_CKw, e_cons, e_nil, e_call,
  e_chn, e_cCons, e_cOne, e_BM, e_BM0, e_sub, e_par, e_ls, e_noP, e_part, e_intx, e_refx, e_yes, e_get0, e_getS, e_sl, List.set_cons_zero, List.set_cons_succ, List.cons_append, List.nil_append, List.append_nil, Bool.not_true, Bool.not_false, e_lst, e_tup, e_rev, e_eqi, e_nei, decide_true, decide_false, if_true, Bool.false_eq_true, if_false, e_callS])
abbrev s__law_bars : Stmt := top 17
abbrev N__law_bars : List Str := ["_law_script", "_law_mixed", "_law_most", "_law_bars_here", "_law_cell"]
theorem sc__law_bars : FnScope ["_law_script", "_law_mixed", "_law_most", "_law_bars_here", "_law_cell"] ["_law_script"] (defScope s__law_bars) := ⟨rfl, rfl, rfl, by decide +kernel, rfl, by decide +kernel, by decide +kernel⟩
/-- drawn bars: good ones, one for each cell -/
def sp__law_bars (K : PySem.W.Frag) : Sp := Sp1 fun x H Q _ => ∃ (a : Addr) (ns : List Int), x = .ref a ∧ SqL K H a (ivs ns) ∧ ns.length ≤ 63 ∧ ∀ p H' bs, H p = none → Same H H' → H' p = some (.lst (ivs bs)) → Good bs → bs.length = ns.length → Q (.ref p) H'
theorem most_of (S : Int) : ∃ (j : Nat) (m : Int), S % 4 = (j : Int) ∧ ([V.int 3, V.int 3, V.int 10, V.int 10000001] : List V)[j]? = some (.int m) ∧ 0 < m ∧ m ≤ 10000001 := by
  have h1 := Int.emod_nonneg S (show (4 : Int) ≠ 0 by decide)
  have h2 := Int.emod_lt_of_pos S (show (0 : Int) < 4 by decide)
  have h : S % 4 = 0 ∨ S % 4 = 1 ∨ S % 4 = 2 ∨ S % 4 = 3 := by omega
  rcases h with h | h | h | h
  · exact ⟨0, 3, h, rfl, by decide, by decide⟩
  · exact ⟨1, 3, h, rfl, by decide, by decide⟩
  · exact ⟨2, 10, h, rfl, by decide, by decide⟩
  · exact ⟨3, 10000001, h, rfl, by decide, by decide⟩
theorem Good.perm {l m : List Int} (h : Good l) (p : m.Perm l) : Good m := fun b hb => h b (p.mem_iff.mp hb)
theorem ok__law_bars {P : Program} {w : World} {K : PySem.W.Frag} {mg : Str → Option Value} {base : Heap} {CL : Cl} (D : Def K mg "_law_bars" ["_law_script"] s__law_bars) (T : Txt K mg CL)  : Has P w K mg base CX0 1 "_law_bars" ["_law_script"] (sp__law_bars K) := by
  obtain ⟨f, fd, gm, F, bb⟩ := D
  refine ⟨f, fd, gm, F.ok sc__law_bars (fun vs H Q E h => ?_) (fun cdv A outer s H vs Q E hr h => ?_), F.kp, bb⟩
  · obtain ⟨x1, rfl, _⟩ := h
    rfl
  obtain ⟨x1, rfl, h⟩ := h
  refine ⟨_, (pss_cons (ps_set (i := 1) sc__law_bars.nd rfl (Or.inl rfl) (pe_callB (sumK (K := K) rfl) (by rfl) T.m_sum bt_sum (pa_cons (pv 0) pa_nil)))
      (pss_cons (ps_set (i := 2) sc__law_bars.nd rfl (Or.inr rfl) (pe_ix (ix_tupK (K := K)) (pe_tup (pa_cons pe_int (pa_cons pe_int (pa_cons pe_int (pa_cons pe_int pa_nil))))) (pe_op op_mod (pv 1) pe_int) (fun _ _ => rfl)))
      (pss_cons (ps_setLc (i := 3) (own := [("_law_cell", 4)]) (g := (gName 4)) (tt := tYes) (by rfl) sc__law_bars.nd rfl rfl (sw_true rfl rfl rfl (by decide +kernel)) (pi_list (pv 0)) (blkOk_by (own := [("_law_cell", 4)]) (N := N__law_bars) (sc := defScope s__law_bars) (by decide +kernel)) (fun _ _ _ _ _ => (pg_name (i := 4) sc__law_bars.nd rfl (Or.inl rfl))) (fun _ _ _ _ _ => pts_nil) (fun _ _ _ _ _ => (pe_op op_mod (pv 4) (pv 2))))
      (pss_cons (ps_if (pt_cmpR op_eq (pe_op op_mod (pe_op op_fdiv (pv 1) pe_int) pe_int) pe_int (nomark _)) (pss_one (ps_ret (pe_callB (sortedK (K := K)) (by rfl) T.m_sorted bt_sorted (pa_cons (pv 3) pa_nil)))) pss_nil)
      (pss_one (ps_ret (pe_ifExp (pt_cmpR op_eq (pe_op op_mod (pe_op op_fdiv (pv 1) pe_int) pe_int) pe_int (nomark _)) (pe_revLK (K := K) (pe_callB (sortedK (K := K)) (by rfl) T.m_sorted bt_sorted (pa_cons (pv 3) pa_nil))) (pv 3)))))))), start_is (σ := [some x1, none, none, none, none]) rfl ?_⟩
  obtain ⟨a, ns, rfl, hS, hlen, k⟩ := h
  walk_at "sx"
  refine q_sum hS ?_
  walk_at "sx"
  refine q_newT fun t nt => ?_
  walk_at "sx"
  refine ⟨by decide, ?_⟩
  obtain ⟨j, m, e1, e2, m0, m1⟩ := most_of ns.sum
  refine q_ixT (SqT.of upd_same) e1 e2 ?_
  have s1 := same_new (o := .tup [.int 3, .int 3, .int 10, .int 10000001]) nt
  generalize upd H t (.tup [.int 3, .int 3, .int 10, .int 10000001]) = H1 at s1 ⊢
  refine q_lcL (fun i v _ => v = .int (g ns i % m)) (fun R r => ⟨_, rfl, r⟩) (s1.seq hS) (by rw [len_ivs]; omega) (fun _ => rfl) (fun _ _ _ _ e _ => e) (fun i x H' Q' hx s2 k => ?_) ?_
  · obtain ⟨hi, rfl⟩ := of_ivs hx
    exact ⟨_, rfl, _, rfl, _, _, rfl, rfl, m0, k _ _ (Same.refl _) rfl⟩
  · intro D H2 acc nd s2 hd hl hv
    have e := acc_ivs hl hv
    rw [len_ivs] at e
    have gd : Good ((List.range ns.length).map fun i => g ns i % m) := by
      intro b hb
      obtain ⟨i, _, rfl⟩ := List.mem_map.mp hb
      have h1 := Int.emod_nonneg (g ns i) (show m ≠ 0 by omega)
      have h2 := Int.emod_lt_of_pos (g ns i) m0
      constructor <;> omega
    have ln : ((List.range ns.length).map fun i => g ns i % m).length = ns.length := by simp
    generalize (List.range ns.length).map (fun i => g ns i % m) = bs at e gd ln
    subst e
    have nd0 := s1.free nd
    have s3 := s1.trans s2
    walk_at "sx"
    refine ⟨⟨by decide, by decide⟩, by decide, ?_⟩
    by_cases c : ns.sum / 4 % 7 = 5
    · rw [if_pos (decide_eq_true c)]
      refine q_sorted (SqL.of hd) (by omega) fun l' p pm _ np => ?_
      exact k p _ l' (s3.free np) (s3.trans (same_new np)) upd_same (gd.perm pm) (by rw [pm.length_eq]; exact ln)
    · rw [if_neg (by simpa using c)]
      refine ⟨⟨by decide, by decide⟩, by decide, ?_⟩
      by_cases c2 : ns.sum / 4 % 7 = 6
      · rw [if_pos (decide_eq_true c2)]
        refine q_sorted (SqL.of hd) (by omega) fun l' p pm _ np => ?_
        refine ⟨p, rfl, _, SqL.of upd_same, fun q nq => ?_⟩
        rw [rev_ivs]
        have s4 := s3.trans (same_new (o := .lst (ivs l')) np)
        exact k q _ l'.reverse (s4.free nq) (s4.trans (same_new nq)) upd_same (Good.rev (gd.perm pm)) (by rw [List.length_reverse, pm.length_eq]; exact ln)
      · rw [if_neg (by simpa using c2)]
        exact k D H2 bs nd0 s3 hd gd ln
abbrev s__law_numbers : Stmt := top 18
abbrev N__law_numbers : List Str := ["_law_found", "_law_one"]
theorem sc__law_numbers : FnScope ["_law_found", "_law_one"] ["_law_found"] (defScope s__law_numbers) := ⟨rfl, rfl, rfl, by decide +kernel, rfl, by decide +kernel, by decide +kernel⟩
def sp__law_numbers (K : PySem.W.Frag) : Sp := Sp1 fun x H Q _ => ∃ (a : Addr) (ns : List Int), x = .ref a ∧ SqL K H a (ivs ns) ∧ ns.length ≤ 1000 ∧ ∀ H', Same H H' → Q (.bl true) H'
theorem ok__law_numbers {P : Program} {w : World} {K : PySem.W.Frag} {mg : Str → Option Value} {base : Heap} {CL : Cl} (D : Def K mg "_law_numbers" ["_law_found"] s__law_numbers) (T : Txt K mg CL)  : Has P w K mg base CX0 1 "_law_numbers" ["_law_found"] (sp__law_numbers K) := by
  obtain ⟨f, fd, gm, F, bb⟩ := D
  refine ⟨f, fd, gm, F.ok sc__law_numbers (fun vs H Q E h => ?_) (fun cdv A outer s H vs Q E hr h => ?_), F.kp, bb⟩
  · obtain ⟨x1, rfl, _⟩ := h
    rfl
  obtain ⟨x1, rfl, h⟩ := h
  refine ⟨_, (pss_cons (ps_if (pt_not (pt_val (pe_callB (isiK (K := K)) (by rfl) T.m_isinstance bt_isinstance (pa_cons (pv 0) (pa_cons (pe_bltn (v := V.ty "list") (by rfl) T.m_list bt_list rfl) pa_nil))))) (pss_one (ps_ret pe_bl)) pss_nil)
      (pss_one (ps_ret (pe_callB (allK (K := K) rfl) (by rfl) T.m_all bt_all (pa_cons (pe_lc (own := [("_law_one", 1)]) (g := (gName 1)) (tt := tYes) (by rfl) sc__law_numbers.nd (pi_list (pv 0)) (blkOk_by (own := [("_law_one", 1)]) (N := N__law_numbers) (sc := defScope s__law_numbers) (by decide +kernel)) (fun _ _ _ _ _ => (pg_name (i := 1) sc__law_numbers.nd rfl (Or.inl rfl))) (fun _ _ _ _ _ => pts_nil) (fun _ _ _ _ _ => (pe_and (pe_callB (isiK (K := K)) (by rfl) T.m_isinstance bt_isinstance (pa_cons (pv 1) (pa_cons (pe_bltn (v := V.ty "int") (by rfl) T.m_int bt_int rfl) pa_nil))) (pe_one (pe_not (pe_callB (isiK (K := K)) (by rfl) T.m_isinstance bt_isinstance (pa_cons (pv 1) (pa_cons (pe_bltn (v := V.ty "bool") (by rfl) T.m_bool bt_bool rfl) pa_nil)))))))) pa_nil))))), start_is (σ := [some x1, none]) rfl ?_⟩
  obtain ⟨a, ns, rfl, hS, hlen, k⟩ := h
  walk_at "sx"
  refine q_isi (tyx_list hS) kb_ll ?_
  walk_at "sx"
  refine q_lcL (fun i v _ => v = .bl true) (fun R r => ⟨_, rfl, r⟩) hS (by rw [len_ivs]; omega) (fun _ => rfl) (fun _ _ _ _ e _ => e) (fun i x H' Q' hx s2 k => ?_) ?_
  · obtain ⟨hi, rfl⟩ := of_ivs hx
    simp only [wipe, List.map_cons, List.map_nil]
    walk_at "sx"
    refine q_isi tyx_int kb_ii ?_
    walk_at "sx"
    refine q_isi tyx_int kb_ib ?_
    walk_at "sx"
    exact k _ _ (Same.refl _) rfl
  · intro D H2 acc nd s2 hd hl hv
    have e := acc_bls (f := fun _ => true) hl hv
    subst e
    refine q_all (SqL.of hd) ?_
    have e2 : (List.map (fun _ => true) (List.range (ivs ns).length)).all id = true := by simp
    rw [e2]
    exact k _ s2

end Sky

/-! L7: the law's own trees, by stretches; depths by walking. -/
namespace Sky
open PySem PySem.Spec PyProof.Rows L2
local macro_rules | `(tactic| walk_at "sx") => `(tactic| try simp only [e_K, e_seq, e_asg, e_name, e_drop, e_ret, e_retN, e_ifs, e_next, e_var, e_c, e_op, e_un, e_rI0, e_rI, e_rU, e_test, e_B, e_bl, e_and, e_or, e_not, e_andV, e_orV, e_notV, e_if, e_CB, e_CKw, e_cons, e_nil, e_call,
  e_chn, e_cCons, e_cOne, e_BM, e_BM0, e_sub, e_par, e_ls, e_noP, e_part, e_intx, e_refx, e_yes, e_get0, e_getS, e_sl, List.set_cons_zero, List.set_cons_succ, List.cons_append, List.nil_append, List.append_nil, Bool.not_true, Bool.not_false, e_lst, e_tup, e_rev, e_eqi, e_nei, decide_true, decide_false, if_true, Bool.false_eq_true, if_false, e_callS])
abbrev s__law_deep : Stmt := top 19
abbrev N__law_deep : List Str := ["_law_parents", "_law_found", "_law_place", "_law_many"]
theorem sc__law_deep : FnScope ["_law_parents", "_law_found", "_law_place", "_law_many"] ["_law_parents"] (defScope s__law_deep) := ⟨rfl, rfl, rfl, by decide +kernel, rfl, by decide +kernel, by decide +kernel⟩
def sp__law_deep (K : PySem.W.Frag) : Sp := Sp1 fun x H Q _ => ∃ (a : Addr) (ts : List Int), x = .ref a ∧ SqL K H a (ivs ts) ∧ Pr ts ∧ ts.length ≤ 1000 ∧
  (Hung ts → ∀ p H', H p = none → Same H H' → H' p = some (.lst (ivs (dptL ts))) → Q (.ref p) H') ∧ (¬ Hung ts → ∀ p H', H p = none → Same H H' → H' p = some (.lst (ivs [])) → Q (.ref p) H')
def wkL (ts : List Int) : List Int := (List.range ts.length).map fun p => ((dpF ts (ts.length + 1) p : Nat) : Int)
theorem wkL_len (ts : List Int) : (wkL ts).length = ts.length := by simp [wkL]
theorem wkL_hung {ts : List Int} (h : Hung ts) : wkL ts = dptL ts := by
  unfold wkL dptL
  exact List.map_congr_left fun p hp => by rw [hung_dpF h (List.mem_range.mp hp)]
theorem ok__law_deep {P : Program} {w : World} {K : PySem.W.Frag} {mg : Str → Option Value} {base : Heap} {CL : Cl} (D : Def K mg "_law_deep" ["_law_parents"] s__law_deep) (T : Txt K mg CL)  : Has P w K mg base CX0 1 "_law_deep" ["_law_parents"] (sp__law_deep K) := by
  obtain ⟨f, fd, gm, F, bb⟩ := D
  refine ⟨f, fd, gm, F.ok sc__law_deep (fun vs H Q E h => ?_) (fun cdv A outer s H vs Q E hr h => ?_), F.kp, bb⟩
  · obtain ⟨x1, rfl, _⟩ := h
    rfl
  obtain ⟨x1, rfl, h⟩ := h
  refine ⟨_, (pss_cons (ps_set (i := 1) sc__law_deep.nd rfl (Or.inl rfl) (pe_lst pa_nil))
      (pss_cons (ps_for PassesOwn.never rfl (pi_range1 (by rfl) T.m_range (pa_cons (pe_callB (lenK (K := K)) (by rfl) T.m_len bt_len (pa_cons (pv 0) pa_nil)) pa_nil)) (pg_name (i := 2) sc__law_deep.nd rfl (Or.inl rfl)) (pss_cons (ps_set (i := 3) sc__law_deep.nd rfl (Or.inl rfl) pe_int)
      (pss_mid (ps_while PassesOwn.never (PW.pt (pw_and (pt_cmpR op_ge (pe_ix (ix_listK (K := K)) (pv 0) (pv 2) (fun _ _ => rfl)) pe_int (nomark _)) (pw_and1 (pt_cmpR op_le (pv 3) (pe_callB (lenK (K := K)) (by rfl) T.m_len bt_len (pa_cons (pv 0) pa_nil)) (nomark _))))) (pss_cons (ps_set (i := 2) sc__law_deep.nd rfl (Or.inl rfl) (pe_ix (ix_listK (K := K)) (pv 0) (pv 2) (fun _ _ => rfl)))
      (pss_one (ps_set (i := 3) sc__law_deep.nd rfl (Or.inl rfl) (pe_op op_add (pv 3) pe_int)))))
      (pss_one (ps_expr (pe_bm PySem.F.plainAttrs_list PySem.F.slot_list_append PySem.F.type_list_append mt_append (pv 1) (pa_cons (pv 3) pa_nil)))))))
      (pss_cons (ps_if (PW.pt (pw_and (pt_cmpR (neDK (K := K) hr.units) (pv 0) (pe_lst pa_nil) (nomark _)) (pw_and1 (pt_cmpR op_gt (pe_callB (maxK (K := K) rfl) (by rfl) T.m_max bt_max (pa_cons (pv 1) pa_nil)) (pe_callB (lenK (K := K)) (by rfl) T.m_len bt_len (pa_cons (pv 0) pa_nil)) (nomark _))))) (pss_one (ps_ret (pe_lst pa_nil))) pss_nil)
      (pss_one (ps_ret (pv 1)))))), start_is (σ := [some x1, none, none, none]) rfl ?_⟩
  obtain ⟨a, ts, rfl, hS, hpr, hlen, k1, k2⟩ := h
  walk_at "sx"
  refine q_newL fun p np => ?_
  have s0 := same_new (o := .lst []) np
  refine q_forR (n := ts.length) (fun R r => ⟨_, rfl, a, _, rfl, .inl (s0.seq hS), by rw [len_ivs]; exact r⟩) (by omega) (fun i σ H' => ∃ v2 v3, σ = [some (.ref a), some (.ref p), v2, v3] ∧ Same H H' ∧ H' p = some (.lst (ivs ((wkL ts).take i))))
    ⟨none, none, rfl, s0, upd_same⟩ ?_ ?_
  · rintro i σ H1 hi ⟨v2, v3, rfl, s1, hp⟩
    have hS1 := s1.seq hS
    walk_at "sx"
    refine q_mid (fun σ H2 => ∃ v2, σ = [some (.ref a), some (.ref p), v2, some (.int ((dpF ts (ts.length + 1) i : Nat) : Int))] ∧ H2 = H1) ?_ ?_
    · refine q_while (fun m σ H2 => ∃ q c : Nat, σ = [some (.ref a), some (.ref p), some (.int (q : Int)), some (.int (c : Int))] ∧ H2 = H1 ∧ q < ts.length ∧ c + m = ts.length + 1 ∧ c + dpF ts m q = dpF ts (ts.length + 1) i)
        ⟨ts.length + 1, i, 0, rfl, rfl, hi, by omega, by omega⟩ ?_
      rintro m σ H2 ⟨q, c, rfl, rfl, hq, hc, hd⟩
      walk_at "sx"
      refine q_ixL hS1 rfl hq ?_
      walk_at "sx"
      by_cases z : 0 ≤ g ts q
      · rw [if_pos (decide_eq_true z)]
        refine q_lenI hS1 ?_
        walk_at "sx"
        cases m with
        | zero =>
          rw [if_neg (by simp <;> omega)]
          have e : dpF ts 0 q = 0 := rfl
          rw [← hd, e]
          exact ⟨_, rfl, trivial⟩
        | succ m =>
          rw [if_pos (by simp <;> omega)]
          have hq2 := hpr q hq
          obtain ⟨q', eq⟩ : ∃ q' : Nat, g ts q = (q' : Int) := ⟨(g ts q).toNat, by omega⟩
          refine ⟨fun σ' H' => ∃ q c : Nat, σ' = [some (.ref a), some (.ref p), some (.int (q : Int)), some (.int (c : Int))] ∧ H' = H2 ∧ q < ts.length ∧ c + m = ts.length + 1 ∧ c + dpF ts m q = dpF ts (ts.length + 1) i, fun _ _ n => ⟨m, by omega, n⟩, ?_⟩
          refine q_ixL hS1 rfl hq ?_
          rw [eq]
          have e : dpF ts (m + 1) q = dpF ts m q' + 1 := by
            show (if g ts q < 0 then 0 else dpF ts m (g ts q).toNat + 1) = _
            rw [if_neg (by omega), eq, show ((q' : Int)).toNat = q' by omega]
          rw [e] at hd
          refine ⟨q', c + 1, ?_, rfl, by omega, by omega, by omega⟩
          rw [show ((c + 1 : Nat) : Int) = (c : Int) + 1 by omega]
      · rw [if_neg (by simpa using z)]
        have e : dpF ts m q = 0 := by
          cases m with
          | zero => rfl
          | succ m => exact if_pos (by omega)
        rw [e, Nat.add_zero] at hd
        rw [← hd]
        exact ⟨_, rfl, trivial⟩
    · rintro σ H2 ⟨v2, rfl, rfl⟩
      walk_at "sx"
      refine q_app hp (by rw [len_ivs, List.length_take, wkL_len]; omega) ⟨_, _, rfl, same_mut s1 np, ?_⟩
      have et : (wkL ts).take (i + 1) = (wkL ts).take i ++ [((dpF ts (ts.length + 1) i : Nat) : Int)] := take_map_range _ hi
      rw [upd_same, et, ivs_app]
  · rintro σ H1 ⟨v2, v3, rfl, s1, hp⟩
    rw [List.take_of_length_le (by rw [wkL_len]; exact Nat.le_refl _)] at hp
    walk_at "sx"
    refine q_neN (s1.seq hS) fun H2 s2 => ?_
    walk_at "sx"
    have hp2 := s2 _ _ hp
    have s02 := s1.trans s2
    by_cases c : ts = []
    · rw [if_neg (by simp [c])]
      have hu : Hung ts := by rw [c]; exact hung_nil
      rw [wkL_hung hu] at hp2
      exact k1 hu p H2 np s02 hp2
    · rw [if_pos (by simp [c])]
      have hpos : 0 < ts.length := List.length_pos_iff.mpr c
      refine q_max (SqL.of hp2) (by rw [wkL_len]; exact hpos) fun m h1 h2 => q_lenI (s02.seq hS) ?_
      walk_at "sx"
      by_cases hu : Hung ts
      · rw [if_neg (by
          rw [decide_eq_true_eq]
          rw [wkL_hung hu] at h1
          obtain ⟨q, hq, rfl⟩ := List.mem_map.mp h1
          have := hu.lt (List.mem_range.mp hq)
          omega)]
        rw [wkL_hung hu] at hp2
        exact k1 hu p H2 np s02 hp2
      · obtain ⟨q, hq, e⟩ := not_hung hpr hu
        have h3 := h2 ((dpF ts (ts.length + 1) q : Nat) : Int) (List.mem_map.mpr ⟨q, List.mem_range.mpr hq, rfl⟩)
        rw [if_pos (by rw [decide_eq_true_eq]; omega)]
        exact q_newL fun r nr => k2 hu r _ (s02.free nr) (s02.trans (same_new nr)) upd_same
/-- triples at the places of a list -/
inductive Trs (H : Hp) : List (Nat × Nat × Int) → List V → Prop
  | nil : Trs H [] []
  | cons {w : Nat × Nat × Int} {t : Addr} {l : List (Nat × Nat × Int)} {vs : List V} : H t = some (.tup [.int (w.1 : Int), .int (w.2.1 : Int), .int w.2.2]) → Trs H l vs → Trs H (w :: l) (.ref t :: vs)
theorem Trs.mono {H H' : Hp} (k : Tk H H') : ∀ {l : List (Nat × Nat × Int)} {vs : List V}, Trs H l vs → Trs H' l vs
  | _, _, .nil => .nil
  | _, _, .cons a r => .cons (k _ _ a) (Trs.mono k r)
theorem Trs.len {H : Hp} : ∀ {l : List (Nat × Nat × Int)} {vs : List V}, Trs H l vs → vs.length = l.length
  | _, _, .nil => rfl
  | _, _, .cons _ r => congrArg Nat.succ (Trs.len r)
def trd (w : Nat × Nat × Int) : PyData := .tuple [.int (w.1 : Int), .int (w.2.1 : Int), .int w.2.2]
theorem dp_trs {K : PySem.W.Frag} {H : Hp} : ∀ {l : List (Nat × Nat × Int)} {vs : List V}, Trs H l vs → DpAll K H vs (l.map trd)
  | _, _, .nil => .nil
  | _, _, .cons h r => .cons (.tup (SqT.of h) (.cons (.int _) (.cons (.int _) (.cons (.int _) .nil)))) (dp_trs r)
theorem dpall_rev {K : PySem.W.Frag} {H : Hp} {v : V} {d : PyData} (a : Dp K H v d) : ∀ {vs : List V} {ds : List PyData}, DpAll K H vs ds → DpAll K H (vs ++ [v]) (ds ++ [d])
  | _, _, .nil => .cons a .nil
  | _, _, .cons b r => .cons b (dpall_rev a r)
theorem trd_lay : ∀ l : List (Nat × Nat × Int), PyData.canLayAll0 (l.map trd) = true
  | [] => rfl
  | p :: r => by simp [PyData.canLayAll0, PyData.canLay0, trd, trd_lay r]
theorem trd_depth : ∀ l : List (Nat × Nat × Int), PyData.depthAll (l.map trd) ≤ 1
  | [] => by simp [PyData.depthAll]
  | p :: r => by
    have := trd_depth r
    simp only [List.map_cons, PyData.depthAll, trd, PyData.depth]
    omega
theorem trd_shaped (l : List (Nat × Nat × Int)) : SeqAt.shaped (.list (l.map trd)) = true := by
  have d := trd_depth l
  have d2 : PyData.depth (.list (l.map trd)) ≤ 64 := by
    simp only [PyData.depth]
    omega
  have d3 : PyData.canLay0 (.list (l.map trd)) = true := by
    simp only [PyData.canLay0]
    exact trd_lay l
  unfold SeqAt.shaped
  rw [d3, decide_eq_true d2]
  rfl
/-- the waiting ones, the last at the head, against [] -/
theorem q_neW {K : PySem.W.Frag} {H : Hp} {a : Addr} {W : List (Nat × Nat × Int)} {vs : List V} {Q : VK} (ha : SqL K H a vs.reverse) (hv : Trs H W vs) (q : ∀ H', Same H H' → Q (.bl (!decide (W = []))) H') : rNewL [] H fun x H1 => rNeD K (.ref a) x H1 Q := by
  refine ⟨sz_of (by decide), fun p np => ?_⟩
  have s := same_new (o := .lst []) np
  have hd : ∀ {l : List (Nat × Nat × Int)} {vs : List V}, Trs (upd H p (.lst [])) l vs → DpAll K (upd H p (.lst [])) vs.reverse (l.reverse.map trd) := fun {l vs} t => by
    induction t with
    | nil => exact .nil
    | cons h r ih =>
      rw [List.reverse_cons, List.reverse_cons, List.map_append]
      exact dpall_rev (.tup (SqT.of h) (.cons (.int _) (.cons (.int _) (.cons (.int _) .nil)))) ih
  refine ⟨_, _, .lst (s.seq ha) (hd (hv.mono (same_tk s))), .lst (SqL.of upd_same) .nil, trd_shaped _, PySem.W.ke_shaped_ints [], ?_⟩
  have e : PyData.eqv (.list (W.reverse.map trd)) (.list []) = decide (W = []) := by
    cases W with
    | nil => simp [PyData.eqv, PyData.eqvAll]
    | cons w r =>
      cases h : ((w :: r).reverse.map trd) with
      | nil =>
        have := congrArg List.length h
        simp at this
      | cons x y => simp [PyData.eqv, PyData.eqvAll]
  rw [e]
  exact q _ s
theorem ivs_set7 (l : List Int) (j : Nat) (v : Int) : (ivs l).set j (.int v) = ivs (l.set j v) := (List.map_set ..).symm
theorem q_g3 {K : PySem.W.Frag} {i j k : Nat} {t : Addr} {x y z : V} {σ : L2.St} {H : Hp} {Q : L2.St → Hp → Prop} (h : SqT K H t [x, y, z]) (q : Q (((σ.set i (some x)).set j (some y)).set k (some z)) H) :
    gTup K 3 (gCons (gName i) (gCons (gName j) (gCons (gName k) gNil))) (.ref t) σ H Q :=
  ⟨t, [x, y, z], rfl, h, rfl, x, [y, z], rfl, y, [z], rfl, z, [], rfl, rfl, q⟩
abbrev s__law_hung : Stmt := top 20
abbrev N__law_hung : List Str := ["_law_bars_here", "_law_found", "_law_waiting", "_law_low", "_law_high", "_law_above", "_law_at", "_law_place", "_law_bar"]
theorem sc__law_hung : FnScope ["_law_bars_here", "_law_found", "_law_waiting", "_law_low", "_law_high", "_law_above", "_law_at", "_law_place", "_law_bar"] ["_law_bars_here"] (defScope s__law_hung) := ⟨rfl, rfl, rfl, by decide +kernel, rfl, by decide +kernel, by decide +kernel⟩
def sp__law_hung (K : PySem.W.Frag) : Sp := Sp1 fun x H Q _ => ∃ (a : Addr) (bs : List Int), x = .ref a ∧ SqL K H a (ivs bs) ∧ bs.length ≤ 1000 ∧ ∀ p H', H p = none → Same H H' → H' p = some (.lst (ivs (parL bs))) → Q (.ref p) H'
theorem ok__law_hung {P : Program} {w : World} {K : PySem.W.Frag} {mg : Str → Option Value} {base : Heap} {CL : Cl} (D : Def K mg "_law_hung" ["_law_bars_here"] s__law_hung) (T : Txt K mg CL)  : Has P w K mg base CX0 1 "_law_hung" ["_law_bars_here"] (sp__law_hung K) := by
  obtain ⟨f, fd, gm, F, bb⟩ := D
  refine ⟨f, fd, gm, F.ok sc__law_hung (fun vs H Q E h => ?_) (fun cdv A outer s H vs Q E hr h => ?_), F.kp, bb⟩
  · obtain ⟨x1, rfl, _⟩ := h
    rfl
  obtain ⟨x1, rfl, h⟩ := h
  refine ⟨_, (pss_cons (ps_setLc (i := 1) (own := [("_law_bar", 8)]) (g := (gName 8)) (tt := tYes) (by rfl) sc__law_hung.nd rfl rfl (sw_true rfl rfl rfl (by decide +kernel)) (pi_list (pv 0)) (blkOk_by (own := [("_law_bar", 8)]) (N := N__law_hung) (sc := defScope s__law_hung) (by decide +kernel)) (fun _ _ _ _ _ => (pg_name (i := 8) sc__law_hung.nd rfl (Or.inl rfl))) (fun _ _ _ _ _ => pts_nil) (fun _ _ _ _ _ => (pe_un un_neg pe_int)))
      (pss_cons (ps_set (i := 2) sc__law_hung.nd rfl (Or.inl rfl) (pe_lst (pa_cons (pe_tup (pa_cons pe_int (pa_cons (pe_callB (lenK (K := K)) (by rfl) T.m_len bt_len (pa_cons (pv 0) pa_nil)) (pa_cons (pe_un un_neg pe_int) pa_nil)))) pa_nil)))
      (pss_mid (ps_while PassesOwn.never (pt_cmpR (neDK (K := K) hr.units) (pv 2) (pe_lst pa_nil) (nomark _)) (pss_cons (ps_asg (pe_bm0 PySem.F.plainAttrs_list PySem.F.slot_list_pop PySem.F.type_list_pop mt_pop (pv 2)) (pg_tup (n := 3) rfl (pgs_cons (pg_name (i := 3) sc__law_hung.nd rfl (Or.inl rfl)) (pgs_cons (pg_name (i := 4) sc__law_hung.nd rfl (Or.inl rfl)) (pgs_cons (pg_name (i := 5) sc__law_hung.nd rfl (Or.inl rfl)) pgs_nil)))))
      (pss_one (ps_if (pt_cmpR op_lt (pv 3) (pv 4) (nomark _)) (pss_cons (ps_set (i := 6) sc__law_hung.nd rfl (Or.inl rfl) (pv 3))
      (pss_cons (ps_for PassesOwn.never rfl (pi_range2 (by rfl) T.m_range (pa_cons (pv 3) (pa_cons (pv 4) pa_nil))) (pg_name (i := 7) sc__law_hung.nd rfl (Or.inl rfl)) (pss_one (ps_if (pt_cmpR op_lt (pe_ix (ix_listK (K := K)) (pv 0) (pv 7) (fun _ _ => rfl)) (pe_ix (ix_listK (K := K)) (pv 0) (pv 6) (fun _ _ => rfl)) (nomark _)) (pss_one (ps_set (i := 6) sc__law_hung.nd rfl (Or.inl rfl) (pv 7))) pss_nil)))
      (pss_cons (ps_asg (pv 5) (pg_sub (pv 1) (pv 6) set_list))
      (pss_cons (ps_expr (pe_bm PySem.F.plainAttrs_list PySem.F.slot_list_append PySem.F.type_list_append mt_append (pv 2) (pa_cons (pe_tup (pa_cons (pv 3) (pa_cons (pv 6) (pa_cons (pv 6) pa_nil)))) pa_nil)))
      (pss_one (ps_expr (pe_bm PySem.F.plainAttrs_list PySem.F.slot_list_append PySem.F.type_list_append mt_append (pv 2) (pa_cons (pe_tup (pa_cons (pe_op op_add (pv 6) pe_int) (pa_cons (pv 4) (pa_cons (pv 6) pa_nil)))) pa_nil)))))))) pss_nil))))
      (pss_one (ps_ret (pv 1)))))), start_is (σ := [some x1, none, none, none, none, none, none, none, none]) rfl ?_⟩
  obtain ⟨a, bs, rfl, hS, hlen, k⟩ := h
  walk_at "sx"
  refine q_lcL (fun i v _ => v = .int (-1)) (fun R r => ⟨_, rfl, r⟩) hS (by rw [len_ivs]; omega) (fun _ => rfl) (fun _ _ _ _ e _ => e) (fun i x H' Q' hx s1 kk => ?_) ?_
  · simp only [wipe, List.map_cons, List.map_nil]
    walk_at "sx"
    exact kk _ _ (Same.refl _) rfl
  intro p H1 acc np s1 hp hla hva
  have e := acc_ivs (f := fun _ => -1) hla hva
  subst e
  rw [len_ivs] at hp
  refine q_lenI (s1.seq hS) ?_
  refine q_newT fun t nt => ?_
  refine q_newL fun q nq => ?_
  have st := same_new (o := .tup [.int 0, .int (bs.length : Int), .int (-1)]) nt
  have sq := same_new (o := .lst [V.ref t]) nq
  have s2 := (s1.trans st).trans sq
  have hpq : p ≠ q := ne_of_none (st _ _ hp) nq
  have nq0 := (s1.trans st).free nq
  have hp2 := sq _ _ (st _ _ hp)
  have ht2 := sq _ _ (upd_same (H := H1) (a := t) (o := .tup [.int 0, .int (bs.length : Int), .int (-1)]))
  have hq2 := upd_same (H := upd H1 t (.tup [.int 0, .int (bs.length : Int), .int (-1)])) (a := q) (o := .lst [V.ref t])
  generalize upd (upd H1 t (.tup [.int 0, .int (bs.length : Int), .int (-1)])) q (.lst [V.ref t]) = H2 at s2 hp2 ht2 hq2 ⊢
  refine q_mid (fun σ H3 => ∃ (F : List Int) (v3 v4 v5 v6 v7 v8 : Option V), σ = [some (.ref a), some (.ref p), some (.ref q), v3, v4, v5, v6, v7, v8] ∧ Same H H3 ∧ H3 p = some (.lst (ivs F)) ∧ F = parL bs) ?_ ?_
  · refine q_while (fun m σ H3 => ∃ (W : List (Nat × Nat × Int)) (F : List Int) (vs : List V) (v3 v4 v5 v6 v7 : Option V), m = wsum W ∧ m ≤ 2 * bs.length + 1 ∧ σ = [some (.ref a), some (.ref p), some (.ref q), v3, v4, v5, v6, v7, none] ∧ Same H H3 ∧ H3 p = some (.lst (ivs F)) ∧ H3 q = some (.lst vs.reverse) ∧ Trs H3 W vs ∧ Hg bs W F)
      ⟨_, [(0, bs.length, -1)], _, [V.ref t], none, none, none, none, none, rfl, by simp [wsum], rfl, s2, hp2, hq2, .cons ht2 .nil, Hg.zero (by simp)⟩ ?_
    rintro m σ H3 ⟨W, F, vs, v3, v4, v5, v6, v7, rfl, hm, rfl, s3, hp3, hq3, ht3, hg⟩
    walk_at "sx"
    refine q_neW (SqL.of hq3) ht3 fun H4 s4 => ?_
    walk_at "sx"
    have s34 := s3.trans s4
    have hp4 := s4 _ _ hp3
    have hq4 := s4 _ _ hq3
    have ht4 := ht3.mono (same_tk s4)
    cases W with
    | nil =>
      rw [if_neg (by simp)]
      exact ⟨F, _, _, _, _, _, _, rfl, s34, hp4, hg.done⟩
    | cons w r =>
      rw [if_pos (by simp)]
      cases ht4 with
      | @cons _ tw _ vr hw htr =>
        obtain ⟨lo, hi, ab⟩ := w
        simp only at hw
        have wl := wsum_len r
        have hr5 := htr.len
        have wm : wsum ((lo, hi, ab) :: r) = 2 * (hi - lo) + 1 + wsum r := rfl
        rw [List.reverse_cons] at hq4
        have tk := tk_upd (ys := vr.reverse) hq4
        refine ⟨fun σ' H' => ∃ m', m' < wsum ((lo, hi, ab) :: r) ∧ ∃ (W : List (Nat × Nat × Int)) (F : List Int) (vs : List V) (v3 v4 v5 v6 v7 : Option V), m' = wsum W ∧ m' ≤ 2 * bs.length + 1 ∧ σ' = [some (.ref a), some (.ref p), some (.ref q), v3, v4, v5, v6, v7, none] ∧ Same H H' ∧ H' p = some (.lst (ivs F)) ∧ H' q = some (.lst vs.reverse) ∧ Trs H' W vs ∧ Hg bs W F,
          fun _ _ n => n, q_pop hq4 (q_g3 (SqT.of (tk _ _ hw)) ?_)⟩
        have s5 := same_mut (o := .lst vr.reverse) s34 nq0
        have hp5 : upd H4 q (.lst vr.reverse) p = some (.lst (ivs F)) := by rw [upd_ne hpq]; exact hp4
        have hq5 := upd_same (H := H4) (a := q) (o := .lst vr.reverse)
        have ht5 := htr.mono tk
        generalize upd H4 q (.lst vr.reverse) = H5 at s5 hp5 hq5 ht5 ⊢
        have hS5 := s5.seq hS
        have hhi := (hg.iv _ List.mem_cons_self).hn
        simp only at hhi
        walk_at "sx"
        by_cases c : (lo : Int) < (hi : Int)
        · rw [if_pos (decide_eq_true c)]
          have lh : lo < hi := by omega
          refine q_forR2 (lo := lo) (n := hi) (fun R r => ⟨_, rfl, _, rfl, r⟩) ⟨by omega, by omega⟩ (fun i σ H' => ∃ (m : Nat) (v7 : Option V), σ = [some (.ref a), some (.ref p), some (.ref q), some (.int (lo : Int)), some (.int (hi : Int)), some (.int ab), some (.int (m : Int)), v7, none] ∧ H' = H5 ∧ lo ≤ m ∧ m < hi ∧ (m < i ∨ m = lo) ∧ (∀ k, lo ≤ k → k < m → g bs m < g bs k) ∧ ∀ k, m < k → k < i → g bs m ≤ g bs k)
            ⟨lo, _, rfl, rfl, Nat.le_refl _, lh, .inr rfl, fun k k1 k2 => by omega, fun k k1 k2 => by omega⟩ ?_ ?_
          · rintro i σ H6 h1 h2 ⟨m, v7, rfl, rfl, m1, m2, m3, m4, m5⟩
            walk_at "sx"
            refine q_ixL hS5 rfl (by omega) (q_ixL hS5 rfl (by omega) ?_)
            walk_at "sx"
            by_cases d : g bs i < g bs m
            · rw [if_pos (decide_eq_true d)]
              have nm : m < i := by
                rcases m3 with z | z
                · exact z
                · by_cases e : lo = i
                  · subst z; subst e
                    omega
                  · omega
              refine ⟨i, _, rfl, trivial, h1, h2, .inl (by omega), fun k k1 k2 => ?_, fun k k1 k2 => by omega⟩
              by_cases e1 : k < m
              · have := m4 k k1 e1
                omega
              · by_cases e2 : k = m
                · rw [e2]; exact d
                · have := m5 k (by omega) k2
                  omega
            · rw [if_neg (by simpa using d)]
              refine ⟨m, _, rfl, trivial, m1, m2, ?_, m4, fun k k1 k2 => ?_⟩
              · rcases m3 with z | z
                · exact .inl (by omega)
                · exact .inr z
              · by_cases e : k = i
                · rw [e]; omega
                · exact m5 k k1 (by omega)
          · rintro σ H6 ⟨m, v7, rfl, rfl, m1, m2, m3, m4, m5⟩
            walk_at "sx"
            have l : Lst bs lo hi m := ⟨m1, m2, m4, m5⟩
            have hg2 := hg.step l
            refine q_setL hp5 rfl (by rw [len_ivs, hg.ln]; omega) ?_
            rw [ivs_set7]
            have tk6 : Tk H6 (upd H6 p (.lst (ivs (F.set m ab)))) := tk_upd hp5
            have s6 := same_mut (o := .lst (ivs (F.set m ab))) s5 np
            have hp6 := upd_same (H := H6) (a := p) (o := .lst (ivs (F.set m ab)))
            have hq6 : upd H6 p (.lst (ivs (F.set m ab))) q = some (.lst vr.reverse) := by rw [upd_ne hpq.symm]; exact hq5
            have ht6 := ht5.mono tk6
            generalize upd H6 p (.lst (ivs (F.set m ab))) = H7 at s6 hp6 hq6 ht6 ⊢
            refine ⟨.inl ⟨rfl, _, SqL.of hq6⟩, q_newT fun t1 nt1 => ?_⟩
            have s7 := same_new (o := .tup [V.int (lo : Int), .int (m : Int), .int (m : Int)]) nt1
            have hq7 := s7 _ _ hq6
            refine (q_app (K := K) hq7 (by rw [List.length_reverse]; omega) ?_).2
            have tk8 := tk_upd (ys := vr.reverse ++ [V.ref t1]) hq7
            have s8 := same_mut (o := .lst (vr.reverse ++ [V.ref t1])) (s6.trans s7) nq0
            have hp8 : upd (upd H7 t1 (.tup [V.int (lo : Int), .int (m : Int), .int (m : Int)])) q (.lst (vr.reverse ++ [V.ref t1])) p = some (.lst (ivs (F.set m ab))) := by rw [upd_ne hpq]; exact s7 _ _ hp6
            have hq8 := upd_same (H := upd H7 t1 (.tup [V.int (lo : Int), .int (m : Int), .int (m : Int)])) (a := q) (o := .lst (vr.reverse ++ [V.ref t1]))
            have ht8 := ht6.mono (Tk.trans (same_tk s7) tk8)
            have h18 := tk8 _ _ (upd_same (H := H7) (a := t1) (o := .tup [V.int (lo : Int), .int (m : Int), .int (m : Int)]))
            generalize upd (upd H7 t1 (.tup [V.int (lo : Int), .int (m : Int), .int (m : Int)])) q (.lst (vr.reverse ++ [V.ref t1])) = H8 at s8 hp8 hq8 ht8 h18 ⊢
            refine ⟨.inl ⟨rfl, _, SqL.of hq8⟩, q_newT fun t2 nt2 => ?_⟩
            have s9 := same_new (o := .tup [V.int ((m : Int) + 1), .int (hi : Int), .int (m : Int)]) nt2
            have hq9 := s9 _ _ hq8
            refine (q_app (K := K) hq9 (by rw [List.length_append, List.length_reverse]; simp; omega) ?_).2
            have tk10 := tk_upd (ys := vr.reverse ++ [V.ref t1] ++ [V.ref t2]) hq9
            have em : (m : Int) + 1 = ((m + 1 : Nat) : Int) := by omega
            have wm2 : wsum ((m + 1, hi, (m : Int)) :: (lo, m, (m : Int)) :: r) = 2 * (hi - (m + 1)) + 1 + (2 * (m - lo) + 1 + wsum r) := rfl
            refine ⟨_, ?_, (m + 1, hi, (m : Int)) :: (lo, m, (m : Int)) :: r, F.set m ab, .ref t2 :: .ref t1 :: vr, _, _, _, _, _, rfl, ?_, rfl, same_mut (s8.trans s9) nq0, ?_, ?_, ?_, hg2⟩
            · rw [wm2, wm]; omega
            · rw [wm2]; omega
            · rw [upd_ne hpq]; exact s9 _ _ hp8
            · rw [upd_same, List.reverse_cons, List.reverse_cons]
            · refine .cons (tk10 _ _ ?_) (.cons (tk10 _ _ (s9 _ _ h18)) (ht8.mono (Tk.trans (same_tk s9) tk10)))
              rw [upd_same, em]
        · rw [if_neg (by simpa using c)]
          exact ⟨_, by rw [wm]; omega, r, F, vr, _, _, _, _, _, rfl, by omega, rfl, s5, hp5, hq5, ht5, hg.skip (by simp only; omega)⟩
  · rintro σ H3 ⟨F, v3, v4, v5, v6, v7, v8, rfl, s3, hp3, rfl⟩
    walk_at "sx"
    exact k p H3 np s3 hp3
end Sky

/-! K07: the law. -/
namespace Sky
open PySem PySem.Spec PyProof.Rows L2
local macro_rules | `(tactic| walk_at "sx") => `(tactic| try simp only [e_K, e_seq, e_asg, e_name, e_drop, e_ret, e_retN, e_ifs, e_next, e_var, e_c, e_op, e_un, e_rI0, e_rI, e_rU, e_test, e_B, e_bl, e_and, e_or, e_not, e_andV, e_orV, e_notV, e_if, e_CB, e_CKw, e_cons, e_nil, e_call,
  e_chn, e_cCons, e_cOne, e_BM, e_BM0, e_sub, e_par, e_ls, e_noP, e_part, e_intx, e_refx, e_yes, e_get0, e_getS, e_sl, List.set_cons_zero, List.set_cons_succ, List.cons_append, List.nil_append, List.append_nil, Bool.not_true, Bool.not_false, e_lst, e_tup, e_rev, e_eqi, e_nei, decide_true, decide_false, if_true, Bool.false_eq_true, if_false, e_callS])
theorem q_ixLast {K : PySem.W.Frag} {H : Hp} {Q : VK} {a : Addr} {l : List Int} (h : SqL K H a (ivs l)) (hl : l ≠ []) (q : Q (.int (g l (l.length - 1))) H) : rIxL K (.ref a) (.int (-1)) H Q := by
  obtain ⟨ini, la, rfl⟩ : ∃ ini la, l = ini ++ [la] := ⟨_, _, (List.dropLast_concat_getLast hl).symm⟩
  refine q_ix1 h ?_
  have e : g (ini ++ [la]) ((ini ++ [la]).length - 1) = la := by simp [g]
  rwa [e] at q
theorem pr_set {ts : List Int} (h : Pr ts) {j : Nat} {v : Int} (h1 : -1 ≤ v) (h2 : v < (ts.length : Int)) : Pr (ts.set j v) := by
  intro i hi
  rw [List.length_set] at hi ⊢
  by_cases c : j < ts.length
  · rw [g_set c]
    split
    · exact ⟨h1, h2⟩
    · exact h i hi
  · rw [List.set_eq_of_length_le (by omega)]
    exact h i hi
theorem par_pr (bs : List Int) : Pr (parL bs) := by
  intro i hi
  rw [parL_len] at hi ⊢
  rw [parL_at hi]
  rcases par_cases hi with ⟨h, _⟩ | ⟨a, h, _, h3, _⟩ | ⟨b, h, _, h3, _⟩ <;> omega
theorem nat_of_mod {y : Int} {n : Nat} (h : 0 < n) : ∃ j : Nat, y % (n : Int) = (j : Int) ∧ j < n := by
  have h1 := Int.emod_nonneg y (show (n : Int) ≠ 0 by omega)
  have h2 := Int.emod_lt_of_pos y (show (0 : Int) < (n : Int) by omega)
  exact ⟨(y % (n : Int)).toNat, by omega, by omega⟩
theorem q_isH {K : PySem.W.Frag} {H : Hp} {Q : VK} {D a : Addr} {c : V} {cv : Value} {b : Bool} (C : ExcC K D) (hc : ClsV c cv) (hk : PySem.W.kitOne K (.ref D) cv = some b) (q : Q (.bl b) H) : rIsH K (.ref D) none a [.ref a, c] H Q := ⟨D, c, cv, b, rfl, rfl, C, rfl, hc, hk, q⟩
abbrev s__law_drawn : Stmt := top 21
abbrev N__law_drawn : List Str := ["_law_script", "_law_many", "_law_mixed", "_law_found", "_law_one", "_law_other", "_law_kept", "_law_cell"]
theorem sc__law_drawn : FnScope ["_law_script", "_law_many", "_law_mixed", "_law_found", "_law_one", "_law_other", "_law_kept", "_law_cell"] ["_law_script"] (defScope s__law_drawn) := ⟨rfl, rfl, rfl, by decide +kernel, rfl, by decide +kernel, by decide +kernel⟩
def sp__law_drawn (K : PySem.W.Frag) : Sp := Sp1 fun x H Q _ => ∃ (a : Addr) (ns : List Int), x = .ref a ∧ SqL K H a (ivs ns) ∧ ns.length ≤ 63 ∧ ∀ p H' ts, H p = none → Same H H' → H' p = some (.lst (ivs ts)) → Pr ts → ts.length = ns.length → Q (.ref p) H'
theorem ok__law_drawn {P : Program} {w : World} {K : PySem.W.Frag} {mg : Str → Option Value} {base : Heap} {CL : Cl} (D : Def K mg "_law_drawn" ["_law_script"] s__law_drawn) (T : Txt K mg CL) (h__law_hung : Has P w K mg base CX0 1 "_law_hung" ["_law_bars_here"] (sp__law_hung K)) (h__law_bars : Has P w K mg base CX0 1 "_law_bars" ["_law_script"] (sp__law_bars K)) : Has P w K mg base CX0 2 "_law_drawn" ["_law_script"] (sp__law_drawn K) := by
  obtain ⟨f, fd, gm, F, bb⟩ := D
  obtain ⟨f__law_hung, fd__law_hung, g__law_hung, G__law_hung, k__law_hung, b__law_hung⟩ := h__law_hung
  obtain ⟨f__law_bars, fd__law_bars, g__law_bars, G__law_bars, k__law_bars, b__law_bars⟩ := h__law_bars
  refine ⟨f, fd, gm, F.ok sc__law_drawn (fun vs H Q E h => ?_) (fun cdv A outer s H vs Q E hr h => ?_), F.kp, bb⟩
  · obtain ⟨x1, rfl, _⟩ := h
    rfl
  have hr__law_hung : Room 1 (A.deeper (envOfC "_law_drawn" (defScope s__law_drawn) s.heap.objs.size f cdv)) := hr.mono (by decide)
  have hr__law_bars : Room 1 (A.deeper (envOfC "_law_drawn" (defScope s__law_drawn) s.heap.objs.size f cdv)) := hr.mono (by decide)
  obtain ⟨x1, rfl, h⟩ := h
  refine ⟨_, (pss_cons (ps_set (i := 1) sc__law_drawn.nd rfl (Or.inr rfl) (pe_callB (lenK (K := K)) (by rfl) T.m_len bt_len (pa_cons (pv 0) pa_nil)))
      (pss_cons (ps_set (i := 2) sc__law_drawn.nd rfl (Or.inl rfl) (pe_callB (sumK (K := K) rfl) (by rfl) T.m_sum bt_sum (pa_cons (pv 0) pa_nil)))
      (pss_cons (ps_if (PW.pt (pw_or (pt_cmpR (eqDK (K := K) hr.units) (pv 0) (pe_lst pa_nil) (nomark _)) (pw_or1 (pt_cmpR op_eq (pe_op op_mod (pe_op op_fdiv (pv 2) pe_int) pe_int) pe_int (nomark _))))) (pss_one (ps_ret (pe_lc (own := [("_law_cell", 7)]) (g := (gName 7)) (tt := tYes) (by rfl) sc__law_drawn.nd (pi_list (pv 0)) (blkOk_by (own := [("_law_cell", 7)]) (N := N__law_drawn) (sc := defScope s__law_drawn) (by decide +kernel)) (fun _ _ _ _ _ => (pg_name (i := 7) sc__law_drawn.nd rfl (Or.inl rfl))) (fun _ _ _ _ _ => pts_nil) (fun _ _ _ _ _ => (pe_op op_sub (pe_op op_mod (pv 7) (pe_op op_add (pv 1) pe_int)) pe_int))))) pss_nil)
      (pss_cons (ps_set (i := 3) sc__law_drawn.nd rfl (Or.inl rfl) (pe_call G__law_hung hr__law_hung (by rfl) g__law_hung k__law_hung b__law_hung .nil pass0 (pa_cons (pe_call G__law_bars hr__law_bars (by rfl) g__law_bars k__law_bars b__law_bars .nil pass0 (pa_cons (pv 0) pa_nil)) pa_nil)))
      (pss_cons (ps_set (i := 4) sc__law_drawn.nd rfl (Or.inl rfl) (pe_op op_mod (pe_ix (ix_listK (K := K)) (pv 0) pe_int (fun _ _ => rfl)) (pv 1)))
      (pss_cons (ps_set (i := 5) sc__law_drawn.nd rfl (Or.inl rfl) (pe_op op_mod (pe_ix (ix_listK (K := K)) (pv 0) (pe_un un_neg pe_int) (fun _ _ => rfl)) (pv 1)))
      (pss_cons (ps_if (pt_cmpR op_eq (pe_op op_mod (pe_op op_fdiv (pv 2) pe_int) pe_int) pe_int (nomark _)) (pss_one (ps_asg (pe_op op_sub (pe_op op_mod (pe_op op_fdiv (pe_ix (ix_listK (K := K)) (pv 0) (pe_un un_neg pe_int) (fun _ _ => rfl)) pe_int) (pe_op op_add (pv 1) pe_int)) pe_int) (pg_sub (pv 3) (pv 4) set_list))) pss_nil)
      (pss_cons (ps_if (pt_cmpR op_eq (pe_op op_mod (pe_op op_fdiv (pv 2) pe_int) pe_int) pe_int (nomark _)) (pss_cons (ps_set (i := 6) sc__law_drawn.nd rfl (Or.inl rfl) (pe_ix (ix_listK (K := K)) (pv 3) (pv 4) (fun _ _ => rfl)))
      (pss_cons (ps_asg (pe_ix (ix_listK (K := K)) (pv 3) (pv 5) (fun _ _ => rfl)) (pg_sub (pv 3) (pv 4) set_list))
      (pss_one (ps_asg (pv 6) (pg_sub (pv 3) (pv 5) set_list))))) pss_nil)
      (pss_one (ps_ret (pv 3))))))))))), start_is (σ := [some x1, none, none, none, none, none, none, none]) rfl ?_⟩
  obtain ⟨a, ns, rfl, hS, hlen, k⟩ := h
  walk_at "sx"
  refine q_lenI hS (q_sum hS ?_)
  walk_at "sx"
  refine q_eqN hS fun H1 s1 => ?_
  walk_at "sx"
  have hS1 := s1.seq hS
  have comp : ∀ Q' : VK, (∀ p H', H1 p = none → Same H1 H' → H' p = some (.lst (ivs ((List.range ns.length).map fun i => g ns i % ((ns.length : Int) + 1) - 1))) → Q' (.ref p) H') → True := fun _ _ => trivial
  have prc : Pr ((List.range ns.length).map fun i => g ns i % ((ns.length : Int) + 1) - 1) := by
    intro i hi
    have hi2 : i < ns.length := by simpa using hi
    rw [g_map hi2, List.length_map, List.length_range]
    have h1 := Int.emod_nonneg (g ns i) (show (ns.length : Int) + 1 ≠ 0 by omega)
    have h2 := Int.emod_lt_of_pos (g ns i) (show (0 : Int) < (ns.length : Int) + 1 by omega)
    constructor <;> omega
  by_cases c0 : ns = []
  · rw [if_pos (decide_eq_true c0)]
    refine q_lcL (fun i v _ => v = .int (g ns i % ((ns.length : Int) + 1) - 1)) (fun R r => ⟨_, rfl, r⟩) hS1 (by rw [len_ivs]; omega) (fun _ => rfl) (fun _ _ _ _ e _ => e) (fun i x H' Q' hx s2 kk => ?_) ?_
    · obtain ⟨hi, rfl⟩ := of_ivs hx
      simp only [wipe, List.map_cons, List.map_nil]
      walk_at "sx"
      exact ⟨by omega, kk _ _ (Same.refl _) rfl⟩
    · intro D H2 acc nD s2 hD hla hva
      have e := acc_ivs hla hva
      rw [len_ivs] at e
      subst e
      exact k D H2 _ (s1.free nD) (s1.trans s2) hD prc (by simp)
  rw [if_neg (by simpa using c0)]
  have hpos : 0 < ns.length := List.length_pos_iff.mpr c0
  refine ⟨⟨by decide, by decide⟩, by decide, ?_⟩
  by_cases c1 : ns.sum / 4 % 4 = 0
  · rw [if_pos (decide_eq_true c1)]
    refine q_lcL (fun i v _ => v = .int (g ns i % ((ns.length : Int) + 1) - 1)) (fun R r => ⟨_, rfl, r⟩) hS1 (by rw [len_ivs]; omega) (fun _ => rfl) (fun _ _ _ _ e _ => e) (fun i x H' Q' hx s2 kk => ?_) ?_
    · obtain ⟨hi, rfl⟩ := of_ivs hx
      simp only [wipe, List.map_cons, List.map_nil]
      walk_at "sx"
      exact ⟨by omega, kk _ _ (Same.refl _) rfl⟩
    · intro D H2 acc nD s2 hD hla hva
      have e := acc_ivs hla hva
      rw [len_ivs] at e
      subst e
      exact k D H2 _ (s1.free nD) (s1.trans s2) hD prc (by simp)
  rw [if_neg (by simpa using c1)]
  refine ⟨_, rfl, a, ns, rfl, hS1, hlen, fun b H2 bs nb s2 hb good hl => ?_⟩
  refine ⟨_, rfl, b, bs, rfl, SqL.of hb, by omega, fun p H3 np s3 hp => ?_⟩
  have s13 := (s1.trans s2).trans s3
  have np0 := (s1.trans s2).free np
  have hS3 := s13.seq hS
  have ll : (parL bs).length = ns.length := by rw [parL_len, hl]
  have lp := par_pr bs
  walk_at "sx"
  refine q_ixL hS3 (j := 0) rfl hpos ?_
  walk_at "sx"
  obtain ⟨one, e1, h1⟩ := nat_of_mod (y := g ns 0) hpos
  rw [e1]
  refine ⟨by omega, q_ixLast hS3 c0 ?_⟩
  walk_at "sx"
  obtain ⟨oth, e2, h2⟩ := nat_of_mod (y := g ns (ns.length - 1)) hpos
  rw [e2]
  generalize parL bs = F at hp ll lp
  generalize g ns 0 = y0 at *
  refine ⟨by omega, ⟨by decide, by decide⟩, by decide, ?_⟩
  have fin : ∀ (F : List Int) (H4 : Hp), Same H H4 → H4 p = some (.lst (ivs F)) → F.length = ns.length → Pr F →
      CDiv ns.sum 4 ∧ (0 : Int) < 4 ∧ if decide (ns.sum / 4 % 4 = 2) = true then
        rIxL K (V.ref p) (V.int (one : Int)) H4 fun v H1 => rIxL K (V.ref p) (V.int (oth : Int)) H1 fun v_1 H1 => rSetL (V.ref p) (V.int (one : Int)) v_1 H1 fun H3 => rSetL (V.ref p) (V.int (oth : Int)) v H3 fun H3 => Q (V.ref p) H3
      else Q (V.ref p) H4 := by
    intro F H4 s4 hp4 ll lp
    refine ⟨⟨by decide, by decide⟩, by decide, ?_⟩
    by_cases c3 : ns.sum / 4 % 4 = 2
    · rw [if_pos (decide_eq_true c3)]
      refine q_ixL (SqL.of hp4) rfl (by omega) (q_ixL (SqL.of hp4) rfl (by omega) ?_)
      refine q_setL hp4 rfl (by rw [len_ivs]; omega) ?_
      rw [ivs_set7]
      refine q_setL upd_same rfl (by rw [len_ivs, List.length_set]; omega) ?_
      rw [ivs_set7]
      have b1 := lp one (by omega)
      have b2 := lp oth (by omega)
      exact k p _ _ np0 (same_mut (same_mut s4 np0) np0) upd_same (pr_set (pr_set lp b2.1 b2.2) b1.1 (by rw [List.length_set]; exact b1.2)) (by rw [List.length_set, List.length_set]; exact ll)
    · rw [if_neg (by simpa using c3)]
      exact k p H4 F np0 s4 hp4 lp ll
  by_cases c2 : ns.sum / 4 % 4 = 1
  · rw [if_pos (decide_eq_true c2)]
    refine q_ixLast hS3 c0 ?_
    walk_at "sx"
    have z1 := Int.emod_nonneg (g ns (ns.length - 1) / 7) (show (ns.length : Int) + 1 ≠ 0 by omega)
    have z2 := Int.emod_lt_of_pos (g ns (ns.length - 1) / 7) (show (0 : Int) < (ns.length : Int) + 1 by omega)
    refine ⟨⟨by decide, by decide⟩, by omega, ?_⟩
    refine q_setL hp rfl (by rw [len_ivs]; omega) ?_
    rw [ivs_set7]
    exact fin _ _ (same_mut s13 np0) upd_same (by rw [List.length_set]; exact ll) (pr_set lp (by omega) (by omega))
  · rw [if_neg (by simpa using c2)]
    exact fin F H3 s13 hp ll lp
abbrev s__law_refused : Stmt := top 22
abbrev N__law_refused : List Str := ["_law_parents", "error", "_law_others"]
theorem sc__law_refused : FnScope ["_law_parents", "error", "_law_others"] ["_law_parents"] (defScope s__law_refused) := ⟨rfl, rfl, rfl, by decide +kernel, rfl, by decide +kernel, by decide +kernel⟩
def sp__law_refused (K : PySem.W.Frag) (CL : Cl) : Sp := Sp1 fun x H Q _ => ∃ (a : Addr) (ts : List Int), x = .ref a ∧ SqL K H a (ivs ts) ∧ Pr ts ∧ ts.length ≤ 1000 ∧ ¬ TreeOk ts ∧ ∀ H', Q (.bl true) H'
theorem ok__law_refused {P : Program} {w : World} {K : PySem.W.Frag} {mg : Str → Option Value} {base : Heap} {CL : Cl} (D : Def K mg "_law_refused" ["_law_parents"] s__law_refused) (T : Txt K mg CL) (h_bars_of : Has P w K mg base (L2N.CX P w) 2 "bars_of" ["parents"] (sp_bars_of K CL)) : Has P w K mg base CX0 3 "_law_refused" ["_law_parents"] (sp__law_refused K CL) := by
  obtain ⟨f, fd, gm, F, bb⟩ := D
  obtain ⟨f_bars_of, fd_bars_of, g_bars_of, G_bars_of, k_bars_of, b_bars_of⟩ := h_bars_of
  refine ⟨f, fd, gm, F.ok sc__law_refused (fun vs H Q E h => ?_) (fun cdv A outer s H vs Q E hr h => ?_), F.kp, bb⟩
  · obtain ⟨x1, rfl, _⟩ := h
    rfl
  have hr_bars_of : Room 2 (A.deeper (envOfC "_law_refused" (defScope s__law_refused) s.heap.objs.size f cdv)) := hr.mono (by decide)
  obtain ⟨x1, rfl, h⟩ := h
  refine ⟨_, (pss_cons (ps_tryX (K := K) (i := 1) rfl rfl sc__law_refused.nd rfl rfl ⟨rfl, by decide, .inl T.c_BarError⟩)
      (pss_one (ps_ret pe_bl))), start_is (σ := [some x1, none, none]) rfl ?_⟩
  obtain ⟨a, ts, rfl, hS, hpr, hlen, nt, k⟩ := h
  walk_at "sx"
  intro pn xe tk po
  refine ⟨_, (pss_one (ps_expr (pe_callS G_bars_of hr_bars_of (by rfl) g_bars_of k_bars_of b_bars_of (fun σ => L2N.passAt tk σ) (pa_cons (pv 0) pa_nil)))), ?_⟩
  walk_at "sx"
  refine ⟨_, rfl, a, ts, rfl, hS, hpr, hlen, fun z => absurd z nt, fun _ H1 s1 => q_caught T.em_BadTree fun ae ne => ?_⟩
  rintro oe pn2 ⟨yi, ya⟩
  refine ⟨_, (pss_cons (ps_set (i := 2) sc__law_refused.nd rfl (Or.inl rfl) (pe_lst (pa_cons (pe_callB yi (by rfl) T.m_isinstance bt_isinstance (pa_cons (pv 1) (pa_cons (pe_glob (v := V.ref CL.BadBars) (by rfl) T.c_BadBars rfl) pa_nil))) (pa_cons (pe_callB yi (by rfl) T.m_isinstance bt_isinstance (pa_cons (pv 1) (pa_cons (pe_glob (v := V.ref CL.BadLinks) (by rfl) T.c_BadLinks rfl) pa_nil))) (pa_cons (pe_callB yi (by rfl) T.m_isinstance bt_isinstance (pa_cons (pv 1) (pa_cons (pe_glob (v := V.ref CL.BadPlace) (by rfl) T.c_BadPlace rfl) pa_nil))) pa_nil)))))
      (pss_cons (ps_expr (pe_bm PySem.F.plainAttrs_list PySem.F.slot_list_append PySem.F.type_list_append mt_append (pv 2) (pa_cons (pe_callB yi (by rfl) T.m_isinstance bt_isinstance (pa_cons (pv 1) (pa_cons (pe_glob (v := V.ref CL.NoBar) (by rfl) T.c_NoBar rfl) pa_nil))) pa_nil)))
      (pss_one (ps_ret (pe_and (pe_callB yi (by rfl) T.m_isinstance bt_isinstance (pa_cons (pv 1) (pa_cons (pe_glob (v := V.ref CL.BadTree) (by rfl) T.c_BadTree rfl) pa_nil))) (pe_and (pe_callB yi (by rfl) T.m_isinstance bt_isinstance (pa_cons (pv 1) (pa_cons (pe_bltn (v := V.ty "ValueError") (by rfl) T.m_ValueError bt_ValueError rfl) pa_nil))) (pe_one (pe_not (pe_callB ya (by rfl) T.m_any bt_any (pa_cons (pv 2) pa_nil)))))))))), ?_⟩
  walk_at "sx"
  refine q_isH T.ec_BadTree (.own _) T.ke_BadTree_BadBars (q_isH T.ec_BadTree (.own _) T.ke_BadTree_BadLinks (q_isH T.ec_BadTree (.own _) T.ke_BadTree_BadPlace ?_))
  refine q_newL fun q nq => ?_
  refine ⟨.inl ⟨rfl, _, SqL.of upd_same⟩, q_isH T.ec_BadTree (.own _) T.ke_BadTree_NoBar ?_⟩
  refine (q_app (K := K) upd_same (by simp) ?_).2
  refine q_isH T.ec_BadTree (.own _) T.ke_BadTree_BadTree ?_
  walk_at "sx"
  refine q_isH T.ec_BadTree (.ty _) T.kv_BadTree ?_
  walk_at "sx"
  refine q_any (bs := [false, false, false, false]) (SqL.of upd_same) ?_
  walk_at "sx"
  exact k _
abbrev s_law : Stmt := top 23
abbrev N_law : List Str := ["_law_script", "_law_parents", "_law_deep_here", "_law_handed", "_law_found", "_law_bars_here"]
theorem sc_law : FnScope ["_law_script", "_law_parents", "_law_deep_here", "_law_handed", "_law_found", "_law_bars_here"] ["_law_script"] (defScope s_law) := ⟨rfl, rfl, rfl, by decide +kernel, rfl, by decide +kernel, by decide +kernel⟩
def sp_law (K : PySem.W.Frag) : Sp := Sp1 fun x H Q _ => ∃ (a : Addr) (ns : List Int), x = .ref a ∧ SqL K H a (ivs ns) ∧ ns.length ≤ 63 ∧ ∀ H', Q (.bl true) H'
theorem dptL_good {ts : List Int} (h : Hung ts) (hl : ts.length ≤ 1000) : Good (dptL ts) := by
  intro b hb
  unfold dptL at hb
  obtain ⟨i, hi, rfl⟩ := List.mem_map.mp hb
  have := h.lt (List.mem_range.mp hi)
  omega
theorem tree_nil : TreeOk [] := ⟨hung_nil, rfl⟩
theorem ok_law {P : Program} {w : World} {K : PySem.W.Frag} {mg : Str → Option Value} {base : Heap} {CL : Cl} {f : Addr} {fd : FuncData} (F : Fun K "law" "law" s_law f fd) (T : Txt K mg CL) (h__law_drawn : Has P w K mg base CX0 2 "_law_drawn" ["_law_script"] (sp__law_drawn K)) (h__law_deep : Has P w K mg base CX0 1 "_law_deep" ["_law_parents"] (sp__law_deep K)) (h_bars_of : Has P w K mg base (L2N.CX P w) 2 "bars_of" ["parents"] (sp_bars_of K CL)) (h__law_bars : Has P w K mg base CX0 1 "_law_bars" ["_law_script"] (sp__law_bars K)) (h__law_refused : Has P w K mg base CX0 3 "_law_refused" ["_law_parents"] (sp__law_refused K CL)) (h__law_hung : Has P w K mg base CX0 1 "_law_hung" ["_law_bars_here"] (sp__law_hung K)) (h__law_numbers : Has P w K mg base CX0 1 "_law_numbers" ["_law_found"] (sp__law_numbers K)) (h_tree : Has P w K mg base CX0 3 "tree" ["bars"] (sp_tree K)) : FnOk P w K mg base CX0 4 f fd ["_law_script"] (sp_law K) := by
  obtain ⟨f__law_drawn, fd__law_drawn, g__law_drawn, G__law_drawn, k__law_drawn, b__law_drawn⟩ := h__law_drawn
  obtain ⟨f__law_deep, fd__law_deep, g__law_deep, G__law_deep, k__law_deep, b__law_deep⟩ := h__law_deep
  obtain ⟨f_bars_of, fd_bars_of, g_bars_of, G_bars_of, k_bars_of, b_bars_of⟩ := h_bars_of
  obtain ⟨f__law_bars, fd__law_bars, g__law_bars, G__law_bars, k__law_bars, b__law_bars⟩ := h__law_bars
  obtain ⟨f__law_refused, fd__law_refused, g__law_refused, G__law_refused, k__law_refused, b__law_refused⟩ := h__law_refused
  obtain ⟨f__law_hung, fd__law_hung, g__law_hung, G__law_hung, k__law_hung, b__law_hung⟩ := h__law_hung
  obtain ⟨f__law_numbers, fd__law_numbers, g__law_numbers, G__law_numbers, k__law_numbers, b__law_numbers⟩ := h__law_numbers
  obtain ⟨f_tree, fd_tree, g_tree, G_tree, k_tree, b_tree⟩ := h_tree
  refine F.ok sc_law (fun vs H Q E h => ?_) (fun cdv A outer s H vs Q E hr h => ?_)
  · obtain ⟨x1, rfl, _⟩ := h
    rfl
  have hr__law_drawn : Room 2 (A.deeper (envOfC "law" (defScope s_law) s.heap.objs.size f cdv)) := hr.mono (by decide)
  have hr__law_deep : Room 1 (A.deeper (envOfC "law" (defScope s_law) s.heap.objs.size f cdv)) := hr.mono (by decide)
  have hr_bars_of : Room 2 (A.deeper (envOfC "law" (defScope s_law) s.heap.objs.size f cdv)) := hr.mono (by decide)
  have hr__law_bars : Room 1 (A.deeper (envOfC "law" (defScope s_law) s.heap.objs.size f cdv)) := hr.mono (by decide)
  have hr__law_refused : Room 3 (A.deeper (envOfC "law" (defScope s_law) s.heap.objs.size f cdv)) := hr.mono (by decide)
  have hr__law_hung : Room 1 (A.deeper (envOfC "law" (defScope s_law) s.heap.objs.size f cdv)) := hr.mono (by decide)
  have hr__law_numbers : Room 1 (A.deeper (envOfC "law" (defScope s_law) s.heap.objs.size f cdv)) := hr.mono (by decide)
  have hr_tree : Room 3 (A.deeper (envOfC "law" (defScope s_law) s.heap.objs.size f cdv)) := hr.mono (by decide)
  obtain ⟨x1, rfl, h⟩ := h
  refine ⟨_, (pss_cons (ps_set (i := 1) sc_law.nd rfl (Or.inl rfl) (pe_call G__law_drawn hr__law_drawn (by rfl) g__law_drawn k__law_drawn b__law_drawn .nil pass0 (pa_cons (pv 0) pa_nil)))
      (pss_cons (ps_set (i := 2) sc_law.nd rfl (Or.inl rfl) (pe_call G__law_deep hr__law_deep (by rfl) g__law_deep k__law_deep b__law_deep .nil pass0 (pa_cons (pv 1) pa_nil)))
      (pss_cons (ps_set (i := 3) sc_law.nd rfl (Or.inl rfl) (pe_callTy (listK (K := K)) (by rfl) T.m_list bt_list (pa_cons (pv 1) pa_nil)))
      (pss_cons (ps_if (PW.pt (pw_or (pt_cmpR op_ne (pe_callB (lenK (K := K)) (by rfl) T.m_len bt_len (pa_cons (pv 2) pa_nil)) (pe_callB (lenK (K := K)) (by rfl) T.m_len bt_len (pa_cons (pv 1) pa_nil)) (nomark _)) (pw_or1 (pt_cmpR (neDK (K := K) hr.units) (pe_call G__law_hung hr__law_hung (by rfl) g__law_hung k__law_hung b__law_hung .nil pass0 (pa_cons (pv 2) pa_nil)) (pv 1) (nomark _))))) (pss_one (ps_ret (pe_call G__law_refused hr__law_refused (by rfl) g__law_refused k__law_refused b__law_refused .nil pass0 (pa_cons (pv 3) pa_nil)))) pss_nil)
      (pss_cons (ps_set (i := 4) sc_law.nd rfl (Or.inl rfl) (pe_call G_bars_of hr_bars_of (by rfl) g_bars_of k_bars_of b_bars_of .nil passF (pa_cons (pv 3) pa_nil)))
      (pss_cons (ps_if (PW.pt (pw_or (pt_not (pt_val (pe_call G__law_numbers hr__law_numbers (by rfl) g__law_numbers k__law_numbers b__law_numbers .nil pass0 (pa_cons (pv 4) pa_nil)))) (pw_or (pt_cmpR (neDK (K := K) hr.units) (pv 4) (pv 2) (nomark _)) (pw_or1 (pt_cmpR (neDK (K := K) hr.units) (pv 3) (pv 1) (nomark _)))))) (pss_one (ps_ret pe_bl)) pss_nil)
      (pss_cons (ps_set (i := 5) sc_law.nd rfl (Or.inl rfl) (pe_call G__law_bars hr__law_bars (by rfl) g__law_bars k__law_bars b__law_bars .nil pass0 (pa_cons (pv 0) pa_nil)))
      (pss_one (ps_ret (pe_and (pe_cmpR (eqDK (K := K) hr.units) (pe_call G_tree hr_tree (by rfl) g_tree k_tree b_tree .nil pass0 (pa_cons (pv 4) pa_nil)) (pv 1) (nomark _)) (pe_and (pe_cmpR (eqDK (K := K) hr.units) (pe_call G_tree hr_tree (by rfl) g_tree k_tree b_tree .nil pass0 (pa_cons (pv 5) pa_nil)) (pe_call G__law_hung hr__law_hung (by rfl) g__law_hung k__law_hung b__law_hung .nil pass0 (pa_cons (pv 5) pa_nil)) (nomark _)) (pe_one (pe_cmpR (eqDK (K := K) hr.units) (pe_call G_bars_of hr_bars_of (by rfl) g_bars_of k_bars_of b_bars_of .nil passF (pa_cons (pe_lst pa_nil) pa_nil)) (pe_lst pa_nil) (nomark _)))))))))))))), start_is (σ := [some x1, none, none, none, none, none]) rfl ?_⟩
  obtain ⟨a, ns, rfl, hS, hlen, k⟩ := h
  walk_at "sx"
  refine ⟨_, rfl, a, ns, rfl, hS, hlen, fun b H1 ts nb s1 hb hpr hl => ?_⟩
  have lt : ts.length ≤ 63 := by omega
  -- no tree of bars
  have ref : ∀ (v2 : Option V) (h : Addr) (H' : Hp), H' h = some (.lst (ivs ts)) → ¬ TreeOk ts → sp__law_refused K CL [.ref h] H' Q E0 := fun v2 h H' hh nt => ⟨_, rfl, h, ts, rfl, SqL.of hh, hpr, by omega, nt, k⟩
  refine ⟨_, rfl, b, ts, rfl, SqL.of hb, hpr, by omega, fun hu d H2 nd s2 hd => ?_, fun nhu d H2 nd s2 hd => ?_⟩
  · walk_at "sx"
    have hb2 := s2 _ _ hb
    refine q_list (SqL.of hb2) fun h nh => ?_
    have s3 := same_new (o := .lst (ivs ts)) nh
    have hh : upd H2 h (.lst (ivs ts)) h = some (.lst (ivs ts)) := upd_same
    have hb3 := s3 _ _ hb2
    have hd3 := s3 _ _ hd
    have S3 := (s1.trans s2).trans s3
    generalize upd H2 h (.lst (ivs ts)) = H3 at hh hb3 hd3 S3 ⊢
    refine q_lenI (SqL.of hd3) (q_lenI (SqL.of hb3) ?_)
    rw [dptL_len]
    walk_at "sx"
    refine ⟨_, rfl, d, dptL ts, rfl, SqL.of hd3, by rw [dptL_len]; omega, fun p H4 np s4 hp => ?_⟩
    have hh4 := s4 _ _ hh
    have hb4 := s4 _ _ hb3
    have hd4 := s4 _ _ hd3
    refine q_neL (SqL.of hp) (SqL.of hb4) ?_
    walk_at "sx"
    by_cases c : parL (dptL ts) = ts
    · rw [if_neg (by simp [c])]
      have S4 := S3.trans s4
      refine ⟨_, rfl, h, ts, rfl, SqL.of hh4, hpr, by omega, fun _ q H5 nq s5 hq => ?_, fun z => absurd ⟨hu, c⟩ z⟩
      walk_at "sx"
      refine ⟨_, rfl, q, _, rfl, SqL.of hq, by rw [dptL_len]; omega, fun H6 s6 => ?_⟩
      walk_at "sx"
      have s46 := s5.trans s6
      refine q_neL (SqL.of (s6 _ _ hq)) (SqL.of (s46 _ _ hd4)) ?_
      walk_at "sx"
      try rw [if_neg (by simp)]
      refine q_neL (SqL.of (s46 _ _ hh4)) (SqL.of (s46 _ _ hb4)) ?_
      walk_at "sx"
      try rw [if_neg (by simp)]
      have S6 := S4.trans s46
      refine ⟨_, rfl, a, ns, rfl, S6.seq hS, hlen, fun e H7 bs ne s7 he good hbl => ?_⟩
      walk_at "sx"
      have S67 := s46.trans s7
      refine ⟨_, rfl, q, dptL ts, rfl, SqL.of (s7 _ _ (s6 _ _ hq)), dptL_good hu (by omega), by rw [dptL_len]; omega, fun r H8 nr s8 hr => ?_⟩
      have s48 := S67.trans s8
      refine q_eqL (SqL.of hr) (SqL.of (s48 _ _ hb4)) ?_
      rw [decide_eq_true c]
      walk_at "sx"
      have he8 := s8 _ _ he
      refine ⟨_, rfl, e, bs, rfl, SqL.of he8, good, by omega, fun r2 H9 nr2 s9 hr2 => ?_⟩
      refine ⟨_, rfl, e, bs, rfl, SqL.of (s9 _ _ he8), by omega, fun r3 H10 nr3 s10 hr3 => ?_⟩
      refine q_eqL (SqL.of (s10 _ _ hr2)) (SqL.of hr3) ?_
      walk_at "sx"
      refine q_newL fun z nz => ?_
      refine ⟨_, rfl, z, [], rfl, SqL.of upd_same, fun i hi => by simp at hi, by simp, fun _ y H12 ny s12 hy => ?_, fun n => absurd tree_nil n⟩
      have hy : H12 y = some (.lst (ivs [])) := hy
      refine q_eqN (SqL.of hy) fun H13 s13 => ?_
      walk_at "sx"
      exact k _
    · rw [if_pos (by simp [c])]
      exact ref none h H4 hh4 fun z => c z.2
  · walk_at "sx"
    have hb2 := s2 _ _ hb
    refine q_list (SqL.of hb2) fun h nh => ?_
    have s3 := same_new (o := .lst (ivs ts)) nh
    have hh : upd H2 h (.lst (ivs ts)) h = some (.lst (ivs ts)) := upd_same
    have hb3 := s3 _ _ hb2
    have hd3 := s3 _ _ hd
    generalize upd H2 h (.lst (ivs ts)) = H3 at hh hb3 hd3 ⊢
    refine q_lenI (SqL.of hd3) (q_lenI (SqL.of hb3) ?_)
    have ne : ts.length ≠ 0 := fun z => nhu (by
      have e : ts = [] := List.eq_nil_of_length_eq_zero z
      rw [e]
      exact hung_nil)
    walk_at "sx"
    rw [if_pos (by simp; intro z; exact absurd (by omega : ts.length = 0) ne)]
    exact ref none h H3 hh fun z => nhu z.1
end Sky

/-! E: the end. -/
namespace Sky
open PySem PySem.Spec PyProof.Rows L2
theorem def__law_hung {K : PySem.W.Frag} {h : Heap} {mg : Str → Option Value} {f : Addr} {od an : Option Addr} {sl : Array (Option Value)} {oc kV dc pm cd ct : Value} (X : K.In h) (G : h.Ns mainGlobals mg) (a : PySem.W.nsIn K mainGlobals "_law_hung" = some (some (.ref f)))
    (lk : K.lookup f = some ⟨oc, od, .func (PySem.W.fnOf "_law_hung" "_law_hung" (defArgs s__law_hung) (defBody s__law_hung) (defScope s__law_hung) .none kV dc pm an cd ct), sl⟩) (c : PySem.W.codeIn K cd "_law_hung" = true) (kp : PySem.W.keepIn K (.ref f) = true) :
    Def K mg "_law_hung" ["_law_bars_here"] s__law_hung := ⟨f, _, PySem.W.mg_of X G a, fun_mk (st := s__law_hung) lk c kp, (fun_mk (st := s__law_hung) lk c kp).binds (ps := ["_law_bars_here"]) fun _ _ _ _ _ _ us hl => match us, hl with | [_], _ => rfl⟩
theorem def__law_bars {K : PySem.W.Frag} {h : Heap} {mg : Str → Option Value} {f : Addr} {od an : Option Addr} {sl : Array (Option Value)} {oc kV dc pm cd ct : Value} (X : K.In h) (G : h.Ns mainGlobals mg) (a : PySem.W.nsIn K mainGlobals "_law_bars" = some (some (.ref f)))
    (lk : K.lookup f = some ⟨oc, od, .func (PySem.W.fnOf "_law_bars" "_law_bars" (defArgs s__law_bars) (defBody s__law_bars) (defScope s__law_bars) .none kV dc pm an cd ct), sl⟩) (c : PySem.W.codeIn K cd "_law_bars" = true) (kp : PySem.W.keepIn K (.ref f) = true) :
    Def K mg "_law_bars" ["_law_script"] s__law_bars := ⟨f, _, PySem.W.mg_of X G a, fun_mk (st := s__law_bars) lk c kp, (fun_mk (st := s__law_bars) lk c kp).binds (ps := ["_law_script"]) fun _ _ _ _ _ _ us hl => match us, hl with | [_], _ => rfl⟩
theorem def__law_drawn {K : PySem.W.Frag} {h : Heap} {mg : Str → Option Value} {f : Addr} {od an : Option Addr} {sl : Array (Option Value)} {oc kV dc pm cd ct : Value} (X : K.In h) (G : h.Ns mainGlobals mg) (a : PySem.W.nsIn K mainGlobals "_law_drawn" = some (some (.ref f)))
    (lk : K.lookup f = some ⟨oc, od, .func (PySem.W.fnOf "_law_drawn" "_law_drawn" (defArgs s__law_drawn) (defBody s__law_drawn) (defScope s__law_drawn) .none kV dc pm an cd ct), sl⟩) (c : PySem.W.codeIn K cd "_law_drawn" = true) (kp : PySem.W.keepIn K (.ref f) = true) :
    Def K mg "_law_drawn" ["_law_script"] s__law_drawn := ⟨f, _, PySem.W.mg_of X G a, fun_mk (st := s__law_drawn) lk c kp, (fun_mk (st := s__law_drawn) lk c kp).binds (ps := ["_law_script"]) fun _ _ _ _ _ _ us hl => match us, hl with | [_], _ => rfl⟩
theorem def__law_deep {K : PySem.W.Frag} {h : Heap} {mg : Str → Option Value} {f : Addr} {od an : Option Addr} {sl : Array (Option Value)} {oc kV dc pm cd ct : Value} (X : K.In h) (G : h.Ns mainGlobals mg) (a : PySem.W.nsIn K mainGlobals "_law_deep" = some (some (.ref f)))
    (lk : K.lookup f = some ⟨oc, od, .func (PySem.W.fnOf "_law_deep" "_law_deep" (defArgs s__law_deep) (defBody s__law_deep) (defScope s__law_deep) .none kV dc pm an cd ct), sl⟩) (c : PySem.W.codeIn K cd "_law_deep" = true) (kp : PySem.W.keepIn K (.ref f) = true) :
    Def K mg "_law_deep" ["_law_parents"] s__law_deep := ⟨f, _, PySem.W.mg_of X G a, fun_mk (st := s__law_deep) lk c kp, (fun_mk (st := s__law_deep) lk c kp).binds (ps := ["_law_parents"]) fun _ _ _ _ _ _ us hl => match us, hl with | [_], _ => rfl⟩
theorem def_depths {K : PySem.W.Frag} {h : Heap} {mg : Str → Option Value} {f : Addr} {od an : Option Addr} {sl : Array (Option Value)} {oc kV dc pm cd ct : Value} (X : K.In h) (G : h.Ns mainGlobals mg) (a : PySem.W.nsIn K mainGlobals "depths" = some (some (.ref f)))
    (lk : K.lookup f = some ⟨oc, od, .func (PySem.W.fnOf "depths" "depths" (defArgs s_depths) (defBody s_depths) (defScope s_depths) .none kV dc pm an cd ct), sl⟩) (c : PySem.W.codeIn K cd "depths" = true) (kp : PySem.W.keepIn K (.ref f) = true) :
    Def K mg "depths" ["parents"] s_depths := ⟨f, _, PySem.W.mg_of X G a, fun_mk (st := s_depths) lk c kp, (fun_mk (st := s_depths) lk c kp).binds (ps := ["parents"]) fun _ _ _ _ _ _ us hl => match us, hl with | [_], _ => rfl⟩
theorem def_parents_of {K : PySem.W.Frag} {h : Heap} {mg : Str → Option Value} {f : Addr} {od an : Option Addr} {sl : Array (Option Value)} {oc kV dc pm cd ct : Value} (X : K.In h) (G : h.Ns mainGlobals mg) (a : PySem.W.nsIn K mainGlobals "parents_of" = some (some (.ref f)))
    (lk : K.lookup f = some ⟨oc, od, .func (PySem.W.fnOf "parents_of" "parents_of" (defArgs s_parents_of) (defBody s_parents_of) (defScope s_parents_of) .none kV dc pm an cd ct), sl⟩) (c : PySem.W.codeIn K cd "parents_of" = true) (kp : PySem.W.keepIn K (.ref f) = true) :
    Def K mg "parents_of" ["bars"] s_parents_of := ⟨f, _, PySem.W.mg_of X G a, fun_mk (st := s_parents_of) lk c kp, (fun_mk (st := s_parents_of) lk c kp).binds (ps := ["bars"]) fun _ _ _ _ _ _ us hl => match us, hl with | [_], _ => rfl⟩
theorem def_is_number {K : PySem.W.Frag} {h : Heap} {mg : Str → Option Value} {f : Addr} {od an : Option Addr} {sl : Array (Option Value)} {oc kV dc pm cd ct : Value} (X : K.In h) (G : h.Ns mainGlobals mg) (a : PySem.W.nsIn K mainGlobals "is_number" = some (some (.ref f)))
    (lk : K.lookup f = some ⟨oc, od, .func (PySem.W.fnOf "is_number" "is_number" (defArgs s_is_number) (defBody s_is_number) (defScope s_is_number) .none kV dc pm an cd ct), sl⟩) (c : PySem.W.codeIn K cd "is_number" = true) (kp : PySem.W.keepIn K (.ref f) = true) :
    Def K mg "is_number" ["thing", "least", "most"] s_is_number := ⟨f, _, PySem.W.mg_of X G a, fun_mk (st := s_is_number) lk c kp, (fun_mk (st := s_is_number) lk c kp).binds (ps := ["thing", "least", "most"]) fun _ _ _ _ _ _ us hl => match us, hl with | [_, _, _], _ => rfl⟩
theorem def_bars_of {K : PySem.W.Frag} {h : Heap} {mg : Str → Option Value} {f : Addr} {od an : Option Addr} {sl : Array (Option Value)} {oc kV dc pm cd ct : Value} (X : K.In h) (G : h.Ns mainGlobals mg) (a : PySem.W.nsIn K mainGlobals "bars_of" = some (some (.ref f)))
    (lk : K.lookup f = some ⟨oc, od, .func (PySem.W.fnOf "bars_of" "bars_of" (defArgs s_bars_of) (defBody s_bars_of) (defScope s_bars_of) .none kV dc pm an cd ct), sl⟩) (c : PySem.W.codeIn K cd "bars_of" = true) (kp : PySem.W.keepIn K (.ref f) = true) :
    Def K mg "bars_of" ["parents"] s_bars_of := ⟨f, _, PySem.W.mg_of X G a, fun_mk (st := s_bars_of) lk c kp, (fun_mk (st := s_bars_of) lk c kp).binds (ps := ["parents"]) fun _ _ _ _ _ _ us hl => match us, hl with | [_], _ => rfl⟩
theorem def__law_refused {K : PySem.W.Frag} {h : Heap} {mg : Str → Option Value} {f : Addr} {od an : Option Addr} {sl : Array (Option Value)} {oc kV dc pm cd ct : Value} (X : K.In h) (G : h.Ns mainGlobals mg) (a : PySem.W.nsIn K mainGlobals "_law_refused" = some (some (.ref f)))
    (lk : K.lookup f = some ⟨oc, od, .func (PySem.W.fnOf "_law_refused" "_law_refused" (defArgs s__law_refused) (defBody s__law_refused) (defScope s__law_refused) .none kV dc pm an cd ct), sl⟩) (c : PySem.W.codeIn K cd "_law_refused" = true) (kp : PySem.W.keepIn K (.ref f) = true) :
    Def K mg "_law_refused" ["_law_parents"] s__law_refused := ⟨f, _, PySem.W.mg_of X G a, fun_mk (st := s__law_refused) lk c kp, (fun_mk (st := s__law_refused) lk c kp).binds (ps := ["_law_parents"]) fun _ _ _ _ _ _ us hl => match us, hl with | [_], _ => rfl⟩
theorem def__law_numbers {K : PySem.W.Frag} {h : Heap} {mg : Str → Option Value} {f : Addr} {od an : Option Addr} {sl : Array (Option Value)} {oc kV dc pm cd ct : Value} (X : K.In h) (G : h.Ns mainGlobals mg) (a : PySem.W.nsIn K mainGlobals "_law_numbers" = some (some (.ref f)))
    (lk : K.lookup f = some ⟨oc, od, .func (PySem.W.fnOf "_law_numbers" "_law_numbers" (defArgs s__law_numbers) (defBody s__law_numbers) (defScope s__law_numbers) .none kV dc pm an cd ct), sl⟩) (c : PySem.W.codeIn K cd "_law_numbers" = true) (kp : PySem.W.keepIn K (.ref f) = true) :
    Def K mg "_law_numbers" ["_law_found"] s__law_numbers := ⟨f, _, PySem.W.mg_of X G a, fun_mk (st := s__law_numbers) lk c kp, (fun_mk (st := s__law_numbers) lk c kp).binds (ps := ["_law_found"]) fun _ _ _ _ _ _ us hl => match us, hl with | [_], _ => rfl⟩
theorem def_asked_bars {K : PySem.W.Frag} {h : Heap} {mg : Str → Option Value} {f : Addr} {od an : Option Addr} {sl : Array (Option Value)} {oc kV dc pm cd ct : Value} (X : K.In h) (G : h.Ns mainGlobals mg) (a : PySem.W.nsIn K mainGlobals "asked_bars" = some (some (.ref f)))
    (lk : K.lookup f = some ⟨oc, od, .func (PySem.W.fnOf "asked_bars" "asked_bars" (defArgs s_asked_bars) (defBody s_asked_bars) (defScope s_asked_bars) .none kV dc pm an cd ct), sl⟩) (c : PySem.W.codeIn K cd "asked_bars" = true) (kp : PySem.W.keepIn K (.ref f) = true) :
    Def K mg "asked_bars" ["bars"] s_asked_bars := ⟨f, _, PySem.W.mg_of X G a, fun_mk (st := s_asked_bars) lk c kp, (fun_mk (st := s_asked_bars) lk c kp).binds (ps := ["bars"]) fun _ _ _ _ _ _ us hl => match us, hl with | [_], _ => rfl⟩
theorem def_tree {K : PySem.W.Frag} {h : Heap} {mg : Str → Option Value} {f : Addr} {od an : Option Addr} {sl : Array (Option Value)} {oc kV dc pm cd ct : Value} (X : K.In h) (G : h.Ns mainGlobals mg) (a : PySem.W.nsIn K mainGlobals "tree" = some (some (.ref f)))
    (lk : K.lookup f = some ⟨oc, od, .func (PySem.W.fnOf "tree" "tree" (defArgs s_tree) (defBody s_tree) (defScope s_tree) .none kV dc pm an cd ct), sl⟩) (c : PySem.W.codeIn K cd "tree" = true) (kp : PySem.W.keepIn K (.ref f) = true) :
    Def K mg "tree" ["bars"] s_tree := ⟨f, _, PySem.W.mg_of X G a, fun_mk (st := s_tree) lk c kp, (fun_mk (st := s_tree) lk c kp).binds (ps := ["bars"]) fun _ _ _ _ _ _ us hl => match us, hl with | [_], _ => rfl⟩
theorem def_law {K : PySem.W.Frag} {h : Heap} {mg : Str → Option Value} {f : Addr} {od an : Option Addr} {sl : Array (Option Value)} {oc kV dc pm cd ct : Value} (X : K.In h) (G : h.Ns mainGlobals mg) (a : PySem.W.nsIn K mainGlobals "law" = some (some (.ref f)))
    (lk : K.lookup f = some ⟨oc, od, .func (PySem.W.fnOf "law" "law" (defArgs s_law) (defBody s_law) (defScope s_law) .none kV dc pm an cd ct), sl⟩) (c : PySem.W.codeIn K cd "law" = true) (kp : PySem.W.keepIn K (.ref f) = true) :
    mg "law" = some (.ref f) ∧ Fun K "law" "law" s_law f (PySem.W.fnOf "law" "law" (defArgs s_law) (defBody s_law) (defScope s_law) .none kV dc pm an cd ct) := ⟨PySem.W.mg_of X G a, fun_mk (st := s_law) lk c kp⟩
theorem cst_HIGHEST {K : PySem.W.Frag} {h : Heap} {mg : Str → Option Value} {t : Tok} (X : K.In h) (G : h.Ns mainGlobals mg) (a : PySem.W.nsIn K mainGlobals "HIGHEST" = some (some (.int 10000000 t))) : ∃ t, mg "HIGHEST" = some (.int 10000000 t) := ⟨t, PySem.W.mg_of X G a⟩
theorem cls_mk {K : PySem.W.Frag} {C : Addr} (pg : PySem.W.plainGet K C Str.empty = true) (hd : PySem.W.hasDictIn K C = true) (po : PySem.W.plainOver K C = true) (sa : PySem.W.findIn K (.ref C) "__setattr__" = some (some (.builtin "object.__setattr__"))) : Cls K C := ⟨pg, hd, po, sa⟩
theorem kit_me {K : PySem.W.Frag} {C : Addr} : PySem.W.kitOne K (.ref C) (.ref C) = some true := if_pos (by simp)
theorem kit_mk {K : PySem.W.Frag} {C D : Addr} {cd : ClassData} {b : Bool} (h1 : PySem.W.clsIn K D = some cd) (h2 : PySem.W.typeIn K (.ref D) = some (.type "type")) (h3 : PySem.W.subIn K (.ref C) (.ref D) = some b) (ne : C ≠ D) : PySem.W.kitOne K (.ref C) (.ref D) = some b := by
  unfold PySem.W.kitOne PySem.W.kitCls
  rw [if_neg (by simpa using ne)]
  simp only [h1, h2]
  exact h3
theorem excc_mk {K : PySem.W.Frag} {D : Addr} (hg : PySem.W.findIn K (.ref D) "__getattribute__" = some (some (.builtin "BaseException.__getattribute__"))) (hk : PySem.W.findIn K (.ref D) "__getattr__" = some none) (hs : PySem.W.subIn K (.ref D) (.type "BaseException") = some true) (hd : PySem.W.hasDictIn K D = true) (ha : PySem.W.findIn K (.ref D) "__class__" = some (some (.builtin "object.__class__"))) (hn : PySem.W.specialIn K (.builtin "object.__class__") "__get__" = some (some (.builtin "getset_descriptor.__get__"))) (ht : PySem.W.takesIn K (.builtin "object.__class__") = some true) (hm : PySem.W.mroIn K D (.type "object") = some true) : ExcC K D := ⟨hg, hk, hs, hd, ha, hn, ht, hm⟩
theorem exm_mk {K : PySem.W.Frag} {C D : Addr} (h1 : PySem.W.subIn K (.ref C) (.type "BaseException") = some true) (hd : PySem.W.hasDictIn K C = true) (ht : PySem.W.typeIn K (.ref C) = some (.type "type")) (h4 : PySem.W.subIn K (.ref D) (.ref C) = some true) : PySem.W.exmOne K (.ref D) (.ref C) = some true := PySem.W.exm_ref h1 hd ht h4
theorem kitv_mk {K : PySem.W.Frag} {C : Addr} (h : PySem.W.subIn K (.ref C) (.type "ValueError") = some true) : PySem.W.kitOne K (.ref C) (.type "ValueError") = some true := by
  unfold PySem.W.kitOne PySem.W.kitCls
  rw [if_neg (by simp)]
  show (if PySem.W.kitMeta "ValueError" = true then _ else _) = _
  rw [if_pos (by decide +kernel)]
  exact h
theorem na_mk {K : PySem.W.Frag} {C : Addr} {x : Str} (h : PySem.W.findIn K (.ref C) x = some none) : NoAttr K C x := h
theorem all_mk {l : PySem.W.OpenLaw} {w : World} {K : PySem.W.Frag} {mg : Str → Option Value} {fa f : Addr} {an : Option Addr} {C_BarError C_BadBars C_NoBar C_BadPlace C_BadTree C_BadLinks : Addr} {kV dc pm cd ct : Value} (hfa : mg "law" = some (.ref fa)) (T : Txt K mg ⟨C_BarError, C_BadBars, C_NoBar, C_BadPlace, C_BadTree, C_BadLinks⟩) (D__law_hung : Def K mg "_law_hung" ["_law_bars_here"] s__law_hung) (D__law_bars : Def K mg "_law_bars" ["_law_script"] s__law_bars) (D__law_drawn : Def K mg "_law_drawn" ["_law_script"] s__law_drawn) (D__law_deep : Def K mg "_law_deep" ["_law_parents"] s__law_deep) (D_depths : Def K mg "depths" ["parents"] s_depths) (D_parents_of : Def K mg "parents_of" ["bars"] s_parents_of) (D_is_number : Def K mg "is_number" ["thing", "least", "most"] s_is_number) (D_bars_of : Def K mg "bars_of" ["parents"] s_bars_of) (D__law_refused : Def K mg "_law_refused" ["_law_parents"] s__law_refused) (D__law_numbers : Def K mg "_law_numbers" ["_law_found"] s__law_numbers) (D_asked_bars : Def K mg "asked_bars" ["bars"] s_asked_bars) (D_tree : Def K mg "tree" ["bars"] s_tree)
    (L : mg "law" = some (.ref f) ∧ Fun K "law" "law" s_law f (PySem.W.fnOf "law" "law" (defArgs s_law) (defBody s_law) (defScope s_law) .none kV dc pm an cd ct)) :
    ∃ fd : FuncData, (∀ (s : Shared) (v : Value), BindsTo s fd ⟨[v], []⟩ [("_law_script", v)]) ∧ ∀ base : Heap, K.In base → base.Ns mainGlobals mg → FnOk l.prog w K mg base CX0 4 fa fd ["_law_script"] (sp_law K) := by
  obtain ⟨hf, F⟩ := L
  have e := hfa.symm.trans hf
  cases e
  refine ⟨PySem.W.fnOf "law" "law" (defArgs s_law) (defBody s_law) (defScope s_law) .none kV dc pm an cd ct, fun s v => .of_eq rfl, fun base _ _ => ?_⟩
  have h__law_hung := ok__law_hung (P := l.prog) (w := w) (base := base) (CL := ⟨C_BarError, C_BadBars, C_NoBar, C_BadPlace, C_BadTree, C_BadLinks⟩) D__law_hung T 
  have h__law_bars := ok__law_bars (P := l.prog) (w := w) (base := base) (CL := ⟨C_BarError, C_BadBars, C_NoBar, C_BadPlace, C_BadTree, C_BadLinks⟩) D__law_bars T 
  have h__law_drawn := ok__law_drawn (P := l.prog) (w := w) (base := base) (CL := ⟨C_BarError, C_BadBars, C_NoBar, C_BadPlace, C_BadTree, C_BadLinks⟩) D__law_drawn T h__law_hung h__law_bars
  have h__law_deep := ok__law_deep (P := l.prog) (w := w) (base := base) (CL := ⟨C_BarError, C_BadBars, C_NoBar, C_BadPlace, C_BadTree, C_BadLinks⟩) D__law_deep T 
  have h_depths := ok_depths (P := l.prog) (w := w) (base := base) (CL := ⟨C_BarError, C_BadBars, C_NoBar, C_BadPlace, C_BadTree, C_BadLinks⟩) D_depths T 
  have h_parents_of := ok_parents_of (P := l.prog) (w := w) (base := base) (CL := ⟨C_BarError, C_BadBars, C_NoBar, C_BadPlace, C_BadTree, C_BadLinks⟩) D_parents_of T 
  have h_is_number := ok_is_number (P := l.prog) (w := w) (base := base) (CL := ⟨C_BarError, C_BadBars, C_NoBar, C_BadPlace, C_BadTree, C_BadLinks⟩) D_is_number T 
  have h_bars_of := ok_bars_of (P := l.prog) (w := w) (base := base) (CL := ⟨C_BarError, C_BadBars, C_NoBar, C_BadPlace, C_BadTree, C_BadLinks⟩) D_bars_of T h_depths h_parents_of h_is_number
  have h__law_refused := ok__law_refused (P := l.prog) (w := w) (base := base) (CL := ⟨C_BarError, C_BadBars, C_NoBar, C_BadPlace, C_BadTree, C_BadLinks⟩) D__law_refused T h_bars_of
  have h__law_numbers := ok__law_numbers (P := l.prog) (w := w) (base := base) (CL := ⟨C_BarError, C_BadBars, C_NoBar, C_BadPlace, C_BadTree, C_BadLinks⟩) D__law_numbers T 
  have h_asked_bars := ok_asked_bars (P := l.prog) (w := w) (base := base) (CL := ⟨C_BarError, C_BadBars, C_NoBar, C_BadPlace, C_BadTree, C_BadLinks⟩) D_asked_bars T h_is_number
  have h_tree := ok_tree (P := l.prog) (w := w) (base := base) (CL := ⟨C_BarError, C_BadBars, C_NoBar, C_BadPlace, C_BadTree, C_BadLinks⟩) D_tree T h_asked_bars h_parents_of
  exact ok_law (CL := ⟨C_BarError, C_BadBars, C_NoBar, C_BadPlace, C_BadTree, C_BadLinks⟩) F T h__law_drawn h__law_deep h_bars_of h__law_bars h__law_refused h__law_hung h__law_numbers h_tree
theorem txt_mk {K : PySem.W.Frag} {mg : Str → Option Value} {C_BarError C_BadBars C_NoBar C_BadPlace C_BadTree C_BadLinks : Addr} (m_len : mg "len" = none) (m_isinstance : mg "isinstance" = none) (m_all : mg "all" = none) (m_any : mg "any" = none) (m_sum : mg "sum" = none) (m_max : mg "max" = none) (m_sorted : mg "sorted" = none) (m_list : mg "list" = none) (m_int : mg "int" = none) (m_bool : mg "bool" = none) (m_range : mg "range" = none) (m_enumerate : mg "enumerate" = none) (m_ValueError : mg "ValueError" = none) (c_HIGHEST : ∃ t, mg "HIGHEST" = some (.int 10000000 t)) (c_BarError : mg "BarError" = some (.ref C_BarError)) (xi_BarError : PySem.W.excIn K C_BarError [.type "ValueError", .type "Exception", .type "BaseException", .type "object"] "ValueError.__new__" = true) (kx_BarError : PySem.W.keepIn K (.ref C_BarError) = true) (bx_BarError : PySem.W.subIn K (.ref C_BarError) (.type "BaseException") = some true) (tx_BarError : PySem.W.typeIn K (.ref C_BarError) = some (.type "type")) (ec_BarError : ExcC K C_BarError) (em_BarError : PySem.W.exmOne K (.ref C_BarError) (.ref C_BarError) = some true) (kv_BarError : PySem.W.kitOne K (.ref C_BarError) (.type "ValueError") = some true) (ke_BarError_BarError : PySem.W.kitOne K (.ref C_BarError) (.ref C_BarError) = some true) (ke_BarError_BadBars : PySem.W.kitOne K (.ref C_BarError) (.ref C_BadBars) = some false) (ke_BarError_NoBar : PySem.W.kitOne K (.ref C_BarError) (.ref C_NoBar) = some false) (ke_BarError_BadPlace : PySem.W.kitOne K (.ref C_BarError) (.ref C_BadPlace) = some false) (ke_BarError_BadTree : PySem.W.kitOne K (.ref C_BarError) (.ref C_BadTree) = some false) (ke_BarError_BadLinks : PySem.W.kitOne K (.ref C_BarError) (.ref C_BadLinks) = some false) (c_BadBars : mg "BadBars" = some (.ref C_BadBars)) (xi_BadBars : PySem.W.excIn K C_BadBars [.type "ValueError", .type "Exception", .type "BaseException", .type "object"] "ValueError.__new__" = true) (kx_BadBars : PySem.W.keepIn K (.ref C_BadBars) = true) (bx_BadBars : PySem.W.subIn K (.ref C_BadBars) (.type "BaseException") = some true) (tx_BadBars : PySem.W.typeIn K (.ref C_BadBars) = some (.type "type")) (ec_BadBars : ExcC K C_BadBars) (em_BadBars : PySem.W.exmOne K (.ref C_BadBars) (.ref C_BarError) = some true) (kv_BadBars : PySem.W.kitOne K (.ref C_BadBars) (.type "ValueError") = some true) (ke_BadBars_BarError : PySem.W.kitOne K (.ref C_BadBars) (.ref C_BarError) = some true) (ke_BadBars_BadBars : PySem.W.kitOne K (.ref C_BadBars) (.ref C_BadBars) = some true) (ke_BadBars_NoBar : PySem.W.kitOne K (.ref C_BadBars) (.ref C_NoBar) = some false) (ke_BadBars_BadPlace : PySem.W.kitOne K (.ref C_BadBars) (.ref C_BadPlace) = some false) (ke_BadBars_BadTree : PySem.W.kitOne K (.ref C_BadBars) (.ref C_BadTree) = some false) (ke_BadBars_BadLinks : PySem.W.kitOne K (.ref C_BadBars) (.ref C_BadLinks) = some false) (c_NoBar : mg "NoBar" = some (.ref C_NoBar)) (xi_NoBar : PySem.W.excIn K C_NoBar [.type "ValueError", .type "Exception", .type "BaseException", .type "object"] "ValueError.__new__" = true) (kx_NoBar : PySem.W.keepIn K (.ref C_NoBar) = true) (bx_NoBar : PySem.W.subIn K (.ref C_NoBar) (.type "BaseException") = some true) (tx_NoBar : PySem.W.typeIn K (.ref C_NoBar) = some (.type "type")) (ec_NoBar : ExcC K C_NoBar) (em_NoBar : PySem.W.exmOne K (.ref C_NoBar) (.ref C_BarError) = some true) (kv_NoBar : PySem.W.kitOne K (.ref C_NoBar) (.type "ValueError") = some true) (ke_NoBar_BarError : PySem.W.kitOne K (.ref C_NoBar) (.ref C_BarError) = some true) (ke_NoBar_BadBars : PySem.W.kitOne K (.ref C_NoBar) (.ref C_BadBars) = some false) (ke_NoBar_NoBar : PySem.W.kitOne K (.ref C_NoBar) (.ref C_NoBar) = some true) (ke_NoBar_BadPlace : PySem.W.kitOne K (.ref C_NoBar) (.ref C_BadPlace) = some false) (ke_NoBar_BadTree : PySem.W.kitOne K (.ref C_NoBar) (.ref C_BadTree) = some false) (ke_NoBar_BadLinks : PySem.W.kitOne K (.ref C_NoBar) (.ref C_BadLinks) = some false) (c_BadPlace : mg "BadPlace" = some (.ref C_BadPlace)) (xi_BadPlace : PySem.W.excIn K C_BadPlace [.type "ValueError", .type "Exception", .type "BaseException", .type "object"] "ValueError.__new__" = true) (kx_BadPlace : PySem.W.keepIn K (.ref C_BadPlace) = true) (bx_BadPlace : PySem.W.subIn K (.ref C_BadPlace) (.type "BaseException") = some true) (tx_BadPlace : PySem.W.typeIn K (.ref C_BadPlace) = some (.type "type")) (ec_BadPlace : ExcC K C_BadPlace) (em_BadPlace : PySem.W.exmOne K (.ref C_BadPlace) (.ref C_BarError) = some true) (kv_BadPlace : PySem.W.kitOne K (.ref C_BadPlace) (.type "ValueError") = some true) (ke_BadPlace_BarError : PySem.W.kitOne K (.ref C_BadPlace) (.ref C_BarError) = some true) (ke_BadPlace_BadBars : PySem.W.kitOne K (.ref C_BadPlace) (.ref C_BadBars) = some false) (ke_BadPlace_NoBar : PySem.W.kitOne K (.ref C_BadPlace) (.ref C_NoBar) = some false) (ke_BadPlace_BadPlace : PySem.W.kitOne K (.ref C_BadPlace) (.ref C_BadPlace) = some true) (ke_BadPlace_BadTree : PySem.W.kitOne K (.ref C_BadPlace) (.ref C_BadTree) = some false) (ke_BadPlace_BadLinks : PySem.W.kitOne K (.ref C_BadPlace) (.ref C_BadLinks) = some false) (c_BadTree : mg "BadTree" = some (.ref C_BadTree)) (xi_BadTree : PySem.W.excIn K C_BadTree [.type "ValueError", .type "Exception", .type "BaseException", .type "object"] "ValueError.__new__" = true) (kx_BadTree : PySem.W.keepIn K (.ref C_BadTree) = true) (bx_BadTree : PySem.W.subIn K (.ref C_BadTree) (.type "BaseException") = some true) (tx_BadTree : PySem.W.typeIn K (.ref C_BadTree) = some (.type "type")) (ec_BadTree : ExcC K C_BadTree) (em_BadTree : PySem.W.exmOne K (.ref C_BadTree) (.ref C_BarError) = some true) (kv_BadTree : PySem.W.kitOne K (.ref C_BadTree) (.type "ValueError") = some true) (ke_BadTree_BarError : PySem.W.kitOne K (.ref C_BadTree) (.ref C_BarError) = some true) (ke_BadTree_BadBars : PySem.W.kitOne K (.ref C_BadTree) (.ref C_BadBars) = some false) (ke_BadTree_NoBar : PySem.W.kitOne K (.ref C_BadTree) (.ref C_NoBar) = some false) (ke_BadTree_BadPlace : PySem.W.kitOne K (.ref C_BadTree) (.ref C_BadPlace) = some false) (ke_BadTree_BadTree : PySem.W.kitOne K (.ref C_BadTree) (.ref C_BadTree) = some true) (ke_BadTree_BadLinks : PySem.W.kitOne K (.ref C_BadTree) (.ref C_BadLinks) = some false) (c_BadLinks : mg "BadLinks" = some (.ref C_BadLinks)) (xi_BadLinks : PySem.W.excIn K C_BadLinks [.type "ValueError", .type "Exception", .type "BaseException", .type "object"] "ValueError.__new__" = true) (kx_BadLinks : PySem.W.keepIn K (.ref C_BadLinks) = true) (bx_BadLinks : PySem.W.subIn K (.ref C_BadLinks) (.type "BaseException") = some true) (tx_BadLinks : PySem.W.typeIn K (.ref C_BadLinks) = some (.type "type")) (ec_BadLinks : ExcC K C_BadLinks) (em_BadLinks : PySem.W.exmOne K (.ref C_BadLinks) (.ref C_BarError) = some true) (kv_BadLinks : PySem.W.kitOne K (.ref C_BadLinks) (.type "ValueError") = some true) (ke_BadLinks_BarError : PySem.W.kitOne K (.ref C_BadLinks) (.ref C_BarError) = some true) (ke_BadLinks_BadBars : PySem.W.kitOne K (.ref C_BadLinks) (.ref C_BadBars) = some false) (ke_BadLinks_NoBar : PySem.W.kitOne K (.ref C_BadLinks) (.ref C_NoBar) = some false) (ke_BadLinks_BadPlace : PySem.W.kitOne K (.ref C_BadLinks) (.ref C_BadPlace) = some false) (ke_BadLinks_BadTree : PySem.W.kitOne K (.ref C_BadLinks) (.ref C_BadTree) = some false) (ke_BadLinks_BadLinks : PySem.W.kitOne K (.ref C_BadLinks) (.ref C_BadLinks) = some true) : Txt K mg ⟨C_BarError, C_BadBars, C_NoBar, C_BadPlace, C_BadTree, C_BadLinks⟩ := ⟨m_len, m_isinstance, m_all, m_any, m_sum, m_max, m_sorted, m_list, m_int, m_bool, m_range, m_enumerate, m_ValueError, c_HIGHEST, c_BarError, xi_BarError, kx_BarError, bx_BarError, tx_BarError, ec_BarError, em_BarError, kv_BarError, ke_BarError_BarError, ke_BarError_BadBars, ke_BarError_NoBar, ke_BarError_BadPlace, ke_BarError_BadTree, ke_BarError_BadLinks, c_BadBars, xi_BadBars, kx_BadBars, bx_BadBars, tx_BadBars, ec_BadBars, em_BadBars, kv_BadBars, ke_BadBars_BarError, ke_BadBars_BadBars, ke_BadBars_NoBar, ke_BadBars_BadPlace, ke_BadBars_BadTree, ke_BadBars_BadLinks, c_NoBar, xi_NoBar, kx_NoBar, bx_NoBar, tx_NoBar, ec_NoBar, em_NoBar, kv_NoBar, ke_NoBar_BarError, ke_NoBar_BadBars, ke_NoBar_NoBar, ke_NoBar_BadPlace, ke_NoBar_BadTree, ke_NoBar_BadLinks, c_BadPlace, xi_BadPlace, kx_BadPlace, bx_BadPlace, tx_BadPlace, ec_BadPlace, em_BadPlace, kv_BadPlace, ke_BadPlace_BarError, ke_BadPlace_BadBars, ke_BadPlace_NoBar, ke_BadPlace_BadPlace, ke_BadPlace_BadTree, ke_BadPlace_BadLinks, c_BadTree, xi_BadTree, kx_BadTree, bx_BadTree, tx_BadTree, ec_BadTree, em_BadTree, kv_BadTree, ke_BadTree_BarError, ke_BadTree_BadBars, ke_BadTree_NoBar, ke_BadTree_BadPlace, ke_BadTree_BadTree, ke_BadTree_BadLinks, c_BadLinks, xi_BadLinks, kx_BadLinks, bx_BadLinks, tx_BadLinks, ec_BadLinks, em_BadLinks, kv_BadLinks, ke_BadLinks_BarError, ke_BadLinks_BadBars, ke_BadLinks_NoBar, ke_BadLinks_BadPlace, ke_BadLinks_BadTree, ke_BadLinks_BadLinks⟩
end Sky
open PySem PySem.W PyProof.Rows
set_option maxRecDepth 100000 in
set_option maxHeartbeats 0 in
theorem PySem.Challenge.cw_skybars_k07_whole_tree_back_holds : PySem.Challenge.rw_skybars_k07_whole_tree_back.Holds := by
  w_on; o_law; k_head; (case hw => w_witness2)
  k_fill
  refine L2.walk_of (l := PySem.Challenge.rw_skybars_k07_whole_tree_back) (n := 63) (k := 4) (x := "_law_script") (CX := fun _ => L2.CX0) (sp := fun w => Sky.sp_law _) rfl (by decide) rfl ⟨rfl, by decide, by decide⟩ (fun w h Y => PySem.W.kIn_of Y) ?F (fun _ _ a ns hl _ hS => ⟨_, rfl, a, ns, rfl, hS, hl, fun _ => rfl⟩) (fun _ _ _ _ _ h => h)
  case F =>
    intro w mg fa h KX G hmg
    refine' Sky.all_mk hmg (Sky.txt_mk (PySem.W.mg_none_of KX G ?z_len) (PySem.W.mg_none_of KX G ?z_isinstance) (PySem.W.mg_none_of KX G ?z_all) (PySem.W.mg_none_of KX G ?z_any) (PySem.W.mg_none_of KX G ?z_sum) (PySem.W.mg_none_of KX G ?z_max) (PySem.W.mg_none_of KX G ?z_sorted) (PySem.W.mg_none_of KX G ?z_list) (PySem.W.mg_none_of KX G ?z_int) (PySem.W.mg_none_of KX G ?z_bool) (PySem.W.mg_none_of KX G ?z_range) (PySem.W.mg_none_of KX G ?z_enumerate) (PySem.W.mg_none_of KX G ?z_ValueError) (Sky.cst_HIGHEST KX G ?c_HIGHEST) (PySem.W.mg_of KX G ?c_BarError) ?xi_BarError ?kx_BarError ?bx_BarError ?tx_BarError (Sky.excc_mk ?e1_ec_BarError ?e2_ec_BarError ?e3_ec_BarError ?e4_ec_BarError ?e5_ec_BarError ?e6_ec_BarError ?e7_ec_BarError ?e8_ec_BarError) (Sky.exm_mk ?m1_em_BarError ?m2_em_BarError ?m3_em_BarError ?m4_em_BarError) (Sky.kitv_mk ?kv_BarError) Sky.kit_me (Sky.kit_mk ?k1_ke_BarError_BadBars ?k2_ke_BarError_BadBars ?k3_ke_BarError_BadBars ?k4_ke_BarError_BadBars) (Sky.kit_mk ?k1_ke_BarError_NoBar ?k2_ke_BarError_NoBar ?k3_ke_BarError_NoBar ?k4_ke_BarError_NoBar) (Sky.kit_mk ?k1_ke_BarError_BadPlace ?k2_ke_BarError_BadPlace ?k3_ke_BarError_BadPlace ?k4_ke_BarError_BadPlace) (Sky.kit_mk ?k1_ke_BarError_BadTree ?k2_ke_BarError_BadTree ?k3_ke_BarError_BadTree ?k4_ke_BarError_BadTree) (Sky.kit_mk ?k1_ke_BarError_BadLinks ?k2_ke_BarError_BadLinks ?k3_ke_BarError_BadLinks ?k4_ke_BarError_BadLinks) (PySem.W.mg_of KX G ?c_BadBars) ?xi_BadBars ?kx_BadBars ?bx_BadBars ?tx_BadBars (Sky.excc_mk ?e1_ec_BadBars ?e2_ec_BadBars ?e3_ec_BadBars ?e4_ec_BadBars ?e5_ec_BadBars ?e6_ec_BadBars ?e7_ec_BadBars ?e8_ec_BadBars) (Sky.exm_mk ?m1_em_BadBars ?m2_em_BadBars ?m3_em_BadBars ?m4_em_BadBars) (Sky.kitv_mk ?kv_BadBars) (Sky.kit_mk ?k1_ke_BadBars_BarError ?k2_ke_BadBars_BarError ?k3_ke_BadBars_BarError ?k4_ke_BadBars_BarError) Sky.kit_me (Sky.kit_mk ?k1_ke_BadBars_NoBar ?k2_ke_BadBars_NoBar ?k3_ke_BadBars_NoBar ?k4_ke_BadBars_NoBar) (Sky.kit_mk ?k1_ke_BadBars_BadPlace ?k2_ke_BadBars_BadPlace ?k3_ke_BadBars_BadPlace ?k4_ke_BadBars_BadPlace) (Sky.kit_mk ?k1_ke_BadBars_BadTree ?k2_ke_BadBars_BadTree ?k3_ke_BadBars_BadTree ?k4_ke_BadBars_BadTree) (Sky.kit_mk ?k1_ke_BadBars_BadLinks ?k2_ke_BadBars_BadLinks ?k3_ke_BadBars_BadLinks ?k4_ke_BadBars_BadLinks) (PySem.W.mg_of KX G ?c_NoBar) ?xi_NoBar ?kx_NoBar ?bx_NoBar ?tx_NoBar (Sky.excc_mk ?e1_ec_NoBar ?e2_ec_NoBar ?e3_ec_NoBar ?e4_ec_NoBar ?e5_ec_NoBar ?e6_ec_NoBar ?e7_ec_NoBar ?e8_ec_NoBar) (Sky.exm_mk ?m1_em_NoBar ?m2_em_NoBar ?m3_em_NoBar ?m4_em_NoBar) (Sky.kitv_mk ?kv_NoBar) (Sky.kit_mk ?k1_ke_NoBar_BarError ?k2_ke_NoBar_BarError ?k3_ke_NoBar_BarError ?k4_ke_NoBar_BarError) (Sky.kit_mk ?k1_ke_NoBar_BadBars ?k2_ke_NoBar_BadBars ?k3_ke_NoBar_BadBars ?k4_ke_NoBar_BadBars) Sky.kit_me (Sky.kit_mk ?k1_ke_NoBar_BadPlace ?k2_ke_NoBar_BadPlace ?k3_ke_NoBar_BadPlace ?k4_ke_NoBar_BadPlace) (Sky.kit_mk ?k1_ke_NoBar_BadTree ?k2_ke_NoBar_BadTree ?k3_ke_NoBar_BadTree ?k4_ke_NoBar_BadTree) (Sky.kit_mk ?k1_ke_NoBar_BadLinks ?k2_ke_NoBar_BadLinks ?k3_ke_NoBar_BadLinks ?k4_ke_NoBar_BadLinks) (PySem.W.mg_of KX G ?c_BadPlace) ?xi_BadPlace ?kx_BadPlace ?bx_BadPlace ?tx_BadPlace (Sky.excc_mk ?e1_ec_BadPlace ?e2_ec_BadPlace ?e3_ec_BadPlace ?e4_ec_BadPlace ?e5_ec_BadPlace ?e6_ec_BadPlace ?e7_ec_BadPlace ?e8_ec_BadPlace) (Sky.exm_mk ?m1_em_BadPlace ?m2_em_BadPlace ?m3_em_BadPlace ?m4_em_BadPlace) (Sky.kitv_mk ?kv_BadPlace) (Sky.kit_mk ?k1_ke_BadPlace_BarError ?k2_ke_BadPlace_BarError ?k3_ke_BadPlace_BarError ?k4_ke_BadPlace_BarError) (Sky.kit_mk ?k1_ke_BadPlace_BadBars ?k2_ke_BadPlace_BadBars ?k3_ke_BadPlace_BadBars ?k4_ke_BadPlace_BadBars) (Sky.kit_mk ?k1_ke_BadPlace_NoBar ?k2_ke_BadPlace_NoBar ?k3_ke_BadPlace_NoBar ?k4_ke_BadPlace_NoBar) Sky.kit_me (Sky.kit_mk ?k1_ke_BadPlace_BadTree ?k2_ke_BadPlace_BadTree ?k3_ke_BadPlace_BadTree ?k4_ke_BadPlace_BadTree) (Sky.kit_mk ?k1_ke_BadPlace_BadLinks ?k2_ke_BadPlace_BadLinks ?k3_ke_BadPlace_BadLinks ?k4_ke_BadPlace_BadLinks) (PySem.W.mg_of KX G ?c_BadTree) ?xi_BadTree ?kx_BadTree ?bx_BadTree ?tx_BadTree (Sky.excc_mk ?e1_ec_BadTree ?e2_ec_BadTree ?e3_ec_BadTree ?e4_ec_BadTree ?e5_ec_BadTree ?e6_ec_BadTree ?e7_ec_BadTree ?e8_ec_BadTree) (Sky.exm_mk ?m1_em_BadTree ?m2_em_BadTree ?m3_em_BadTree ?m4_em_BadTree) (Sky.kitv_mk ?kv_BadTree) (Sky.kit_mk ?k1_ke_BadTree_BarError ?k2_ke_BadTree_BarError ?k3_ke_BadTree_BarError ?k4_ke_BadTree_BarError) (Sky.kit_mk ?k1_ke_BadTree_BadBars ?k2_ke_BadTree_BadBars ?k3_ke_BadTree_BadBars ?k4_ke_BadTree_BadBars) (Sky.kit_mk ?k1_ke_BadTree_NoBar ?k2_ke_BadTree_NoBar ?k3_ke_BadTree_NoBar ?k4_ke_BadTree_NoBar) (Sky.kit_mk ?k1_ke_BadTree_BadPlace ?k2_ke_BadTree_BadPlace ?k3_ke_BadTree_BadPlace ?k4_ke_BadTree_BadPlace) Sky.kit_me (Sky.kit_mk ?k1_ke_BadTree_BadLinks ?k2_ke_BadTree_BadLinks ?k3_ke_BadTree_BadLinks ?k4_ke_BadTree_BadLinks) (PySem.W.mg_of KX G ?c_BadLinks) ?xi_BadLinks ?kx_BadLinks ?bx_BadLinks ?tx_BadLinks (Sky.excc_mk ?e1_ec_BadLinks ?e2_ec_BadLinks ?e3_ec_BadLinks ?e4_ec_BadLinks ?e5_ec_BadLinks ?e6_ec_BadLinks ?e7_ec_BadLinks ?e8_ec_BadLinks) (Sky.exm_mk ?m1_em_BadLinks ?m2_em_BadLinks ?m3_em_BadLinks ?m4_em_BadLinks) (Sky.kitv_mk ?kv_BadLinks) (Sky.kit_mk ?k1_ke_BadLinks_BarError ?k2_ke_BadLinks_BarError ?k3_ke_BadLinks_BarError ?k4_ke_BadLinks_BarError) (Sky.kit_mk ?k1_ke_BadLinks_BadBars ?k2_ke_BadLinks_BadBars ?k3_ke_BadLinks_BadBars ?k4_ke_BadLinks_BadBars) (Sky.kit_mk ?k1_ke_BadLinks_NoBar ?k2_ke_BadLinks_NoBar ?k3_ke_BadLinks_NoBar ?k4_ke_BadLinks_NoBar) (Sky.kit_mk ?k1_ke_BadLinks_BadPlace ?k2_ke_BadLinks_BadPlace ?k3_ke_BadLinks_BadPlace ?k4_ke_BadLinks_BadPlace) (Sky.kit_mk ?k1_ke_BadLinks_BadTree ?k2_ke_BadLinks_BadTree ?k3_ke_BadLinks_BadTree ?k4_ke_BadLinks_BadTree) Sky.kit_me) (Sky.def__law_hung KX G ?a__law_hung ?l__law_hung ?d__law_hung ?k__law_hung) (Sky.def__law_bars KX G ?a__law_bars ?l__law_bars ?d__law_bars ?k__law_bars) (Sky.def__law_drawn KX G ?a__law_drawn ?l__law_drawn ?d__law_drawn ?k__law_drawn) (Sky.def__law_deep KX G ?a__law_deep ?l__law_deep ?d__law_deep ?k__law_deep) (Sky.def_depths KX G ?a_depths ?l_depths ?d_depths ?k_depths) (Sky.def_parents_of KX G ?a_parents_of ?l_parents_of ?d_parents_of ?k_parents_of) (Sky.def_is_number KX G ?a_is_number ?l_is_number ?d_is_number ?k_is_number) (Sky.def_bars_of KX G ?a_bars_of ?l_bars_of ?d_bars_of ?k_bars_of) (Sky.def__law_refused KX G ?a__law_refused ?l__law_refused ?d__law_refused ?k__law_refused) (Sky.def__law_numbers KX G ?a__law_numbers ?l__law_numbers ?d__law_numbers ?k__law_numbers) (Sky.def_asked_bars KX G ?a_asked_bars ?l_asked_bars ?d_asked_bars ?k_asked_bars) (Sky.def_tree KX G ?a_tree ?l_tree ?d_tree ?k_tree) (Sky.def_law KX G ?a_law ?l_law ?d_law ?k_law)
    (case z_len => k_is)
    (case z_isinstance => k_is)
    (case z_all => k_is)
    (case z_any => k_is)
    (case z_sum => k_is)
    (case z_max => k_is)
    (case z_sorted => k_is)
    (case z_list => k_is)
    (case z_int => k_is)
    (case z_bool => k_is)
    (case z_range => k_is)
    (case z_enumerate => k_is)
    (case z_ValueError => k_is)
    (case c_HIGHEST => k_is)
    (case c_BarError => k_is)
    (case c_BadBars => k_is)
    (case c_NoBar => k_is)
    (case c_BadPlace => k_is)
    (case c_BadTree => k_is)
    (case c_BadLinks => k_is)
    (case xi_BarError => k_exc)
    (case kx_BarError => k_is)
    (case bx_BarError => k_is)
    (case tx_BarError => k_is)
    (case e1_ec_BarError => k_is)
    (case e2_ec_BarError => k_is)
    (case e3_ec_BarError => k_is)
    (case e4_ec_BarError => k_is)
    (case e5_ec_BarError => k_is)
    (case e6_ec_BarError => k_is)
    (case e7_ec_BarError => k_is)
    (case e8_ec_BarError => k_is)
    (case m1_em_BarError => k_is)
    (case m2_em_BarError => k_is)
    (case m3_em_BarError => k_is)
    (case m4_em_BarError => k_is)
    (case kv_BarError => k_is)
    (case k1_ke_BarError_BadBars => k_is)
    (case k2_ke_BarError_BadBars => k_is)
    (case k3_ke_BarError_BadBars => k_is)
    (case k4_ke_BarError_BadBars => decide)
    (case k1_ke_BarError_NoBar => k_is)
    (case k2_ke_BarError_NoBar => k_is)
    (case k3_ke_BarError_NoBar => k_is)
    (case k4_ke_BarError_NoBar => decide)
    (case k1_ke_BarError_BadPlace => k_is)
    (case k2_ke_BarError_BadPlace => k_is)
    (case k3_ke_BarError_BadPlace => k_is)
    (case k4_ke_BarError_BadPlace => decide)
    (case k1_ke_BarError_BadTree => k_is)
    (case k2_ke_BarError_BadTree => k_is)
    (case k3_ke_BarError_BadTree => k_is)
    (case k4_ke_BarError_BadTree => decide)
    (case k1_ke_BarError_BadLinks => k_is)
    (case k2_ke_BarError_BadLinks => k_is)
    (case k3_ke_BarError_BadLinks => k_is)
    (case k4_ke_BarError_BadLinks => decide)
    (case xi_BadBars => k_exc)
    (case kx_BadBars => k_is)
    (case bx_BadBars => k_is)
    (case tx_BadBars => k_is)
    (case e1_ec_BadBars => k_is)
    (case e2_ec_BadBars => k_is)
    (case e3_ec_BadBars => k_is)
    (case e4_ec_BadBars => k_is)
    (case e5_ec_BadBars => k_is)
    (case e6_ec_BadBars => k_is)
    (case e7_ec_BadBars => k_is)
    (case e8_ec_BadBars => k_is)
    (case m1_em_BadBars => k_is)
    (case m2_em_BadBars => k_is)
    (case m3_em_BadBars => k_is)
    (case m4_em_BadBars => k_is)
    (case kv_BadBars => k_is)
    (case k1_ke_BadBars_BarError => k_is)
    (case k2_ke_BadBars_BarError => k_is)
    (case k3_ke_BadBars_BarError => k_is)
    (case k4_ke_BadBars_BarError => decide)
    (case k1_ke_BadBars_NoBar => k_is)
    (case k2_ke_BadBars_NoBar => k_is)
    (case k3_ke_BadBars_NoBar => k_is)
    (case k4_ke_BadBars_NoBar => decide)
    (case k1_ke_BadBars_BadPlace => k_is)
    (case k2_ke_BadBars_BadPlace => k_is)
    (case k3_ke_BadBars_BadPlace => k_is)
    (case k4_ke_BadBars_BadPlace => decide)
    (case k1_ke_BadBars_BadTree => k_is)
    (case k2_ke_BadBars_BadTree => k_is)
    (case k3_ke_BadBars_BadTree => k_is)
    (case k4_ke_BadBars_BadTree => decide)
    (case k1_ke_BadBars_BadLinks => k_is)
    (case k2_ke_BadBars_BadLinks => k_is)
    (case k3_ke_BadBars_BadLinks => k_is)
    (case k4_ke_BadBars_BadLinks => decide)
    (case xi_NoBar => k_exc)
    (case kx_NoBar => k_is)
    (case bx_NoBar => k_is)
    (case tx_NoBar => k_is)
    (case e1_ec_NoBar => k_is)
    (case e2_ec_NoBar => k_is)
    (case e3_ec_NoBar => k_is)
    (case e4_ec_NoBar => k_is)
    (case e5_ec_NoBar => k_is)
    (case e6_ec_NoBar => k_is)
    (case e7_ec_NoBar => k_is)
    (case e8_ec_NoBar => k_is)
    (case m1_em_NoBar => k_is)
    (case m2_em_NoBar => k_is)
    (case m3_em_NoBar => k_is)
    (case m4_em_NoBar => k_is)
    (case kv_NoBar => k_is)
    (case k1_ke_NoBar_BarError => k_is)
    (case k2_ke_NoBar_BarError => k_is)
    (case k3_ke_NoBar_BarError => k_is)
    (case k4_ke_NoBar_BarError => decide)
    (case k1_ke_NoBar_BadBars => k_is)
    (case k2_ke_NoBar_BadBars => k_is)
    (case k3_ke_NoBar_BadBars => k_is)
    (case k4_ke_NoBar_BadBars => decide)
    (case k1_ke_NoBar_BadPlace => k_is)
    (case k2_ke_NoBar_BadPlace => k_is)
    (case k3_ke_NoBar_BadPlace => k_is)
    (case k4_ke_NoBar_BadPlace => decide)
    (case k1_ke_NoBar_BadTree => k_is)
    (case k2_ke_NoBar_BadTree => k_is)
    (case k3_ke_NoBar_BadTree => k_is)
    (case k4_ke_NoBar_BadTree => decide)
    (case k1_ke_NoBar_BadLinks => k_is)
    (case k2_ke_NoBar_BadLinks => k_is)
    (case k3_ke_NoBar_BadLinks => k_is)
    (case k4_ke_NoBar_BadLinks => decide)
    (case xi_BadPlace => k_exc)
    (case kx_BadPlace => k_is)
    (case bx_BadPlace => k_is)
    (case tx_BadPlace => k_is)
    (case e1_ec_BadPlace => k_is)
    (case e2_ec_BadPlace => k_is)
    (case e3_ec_BadPlace => k_is)
    (case e4_ec_BadPlace => k_is)
    (case e5_ec_BadPlace => k_is)
    (case e6_ec_BadPlace => k_is)
    (case e7_ec_BadPlace => k_is)
    (case e8_ec_BadPlace => k_is)
    (case m1_em_BadPlace => k_is)
    (case m2_em_BadPlace => k_is)
    (case m3_em_BadPlace => k_is)
    (case m4_em_BadPlace => k_is)
    (case kv_BadPlace => k_is)
    (case k1_ke_BadPlace_BarError => k_is)
    (case k2_ke_BadPlace_BarError => k_is)
    (case k3_ke_BadPlace_BarError => k_is)
    (case k4_ke_BadPlace_BarError => decide)
    (case k1_ke_BadPlace_BadBars => k_is)
    (case k2_ke_BadPlace_BadBars => k_is)
    (case k3_ke_BadPlace_BadBars => k_is)
    (case k4_ke_BadPlace_BadBars => decide)
    (case k1_ke_BadPlace_NoBar => k_is)
    (case k2_ke_BadPlace_NoBar => k_is)
    (case k3_ke_BadPlace_NoBar => k_is)
    (case k4_ke_BadPlace_NoBar => decide)
    (case k1_ke_BadPlace_BadTree => k_is)
    (case k2_ke_BadPlace_BadTree => k_is)
    (case k3_ke_BadPlace_BadTree => k_is)
    (case k4_ke_BadPlace_BadTree => decide)
    (case k1_ke_BadPlace_BadLinks => k_is)
    (case k2_ke_BadPlace_BadLinks => k_is)
    (case k3_ke_BadPlace_BadLinks => k_is)
    (case k4_ke_BadPlace_BadLinks => decide)
    (case xi_BadTree => k_exc)
    (case kx_BadTree => k_is)
    (case bx_BadTree => k_is)
    (case tx_BadTree => k_is)
    (case e1_ec_BadTree => k_is)
    (case e2_ec_BadTree => k_is)
    (case e3_ec_BadTree => k_is)
    (case e4_ec_BadTree => k_is)
    (case e5_ec_BadTree => k_is)
    (case e6_ec_BadTree => k_is)
    (case e7_ec_BadTree => k_is)
    (case e8_ec_BadTree => k_is)
    (case m1_em_BadTree => k_is)
    (case m2_em_BadTree => k_is)
    (case m3_em_BadTree => k_is)
    (case m4_em_BadTree => k_is)
    (case kv_BadTree => k_is)
    (case k1_ke_BadTree_BarError => k_is)
    (case k2_ke_BadTree_BarError => k_is)
    (case k3_ke_BadTree_BarError => k_is)
    (case k4_ke_BadTree_BarError => decide)
    (case k1_ke_BadTree_BadBars => k_is)
    (case k2_ke_BadTree_BadBars => k_is)
    (case k3_ke_BadTree_BadBars => k_is)
    (case k4_ke_BadTree_BadBars => decide)
    (case k1_ke_BadTree_NoBar => k_is)
    (case k2_ke_BadTree_NoBar => k_is)
    (case k3_ke_BadTree_NoBar => k_is)
    (case k4_ke_BadTree_NoBar => decide)
    (case k1_ke_BadTree_BadPlace => k_is)
    (case k2_ke_BadTree_BadPlace => k_is)
    (case k3_ke_BadTree_BadPlace => k_is)
    (case k4_ke_BadTree_BadPlace => decide)
    (case k1_ke_BadTree_BadLinks => k_is)
    (case k2_ke_BadTree_BadLinks => k_is)
    (case k3_ke_BadTree_BadLinks => k_is)
    (case k4_ke_BadTree_BadLinks => decide)
    (case xi_BadLinks => k_exc)
    (case kx_BadLinks => k_is)
    (case bx_BadLinks => k_is)
    (case tx_BadLinks => k_is)
    (case e1_ec_BadLinks => k_is)
    (case e2_ec_BadLinks => k_is)
    (case e3_ec_BadLinks => k_is)
    (case e4_ec_BadLinks => k_is)
    (case e5_ec_BadLinks => k_is)
    (case e6_ec_BadLinks => k_is)
    (case e7_ec_BadLinks => k_is)
    (case e8_ec_BadLinks => k_is)
    (case m1_em_BadLinks => k_is)
    (case m2_em_BadLinks => k_is)
    (case m3_em_BadLinks => k_is)
    (case m4_em_BadLinks => k_is)
    (case kv_BadLinks => k_is)
    (case k1_ke_BadLinks_BarError => k_is)
    (case k2_ke_BadLinks_BarError => k_is)
    (case k3_ke_BadLinks_BarError => k_is)
    (case k4_ke_BadLinks_BarError => decide)
    (case k1_ke_BadLinks_BadBars => k_is)
    (case k2_ke_BadLinks_BadBars => k_is)
    (case k3_ke_BadLinks_BadBars => k_is)
    (case k4_ke_BadLinks_BadBars => decide)
    (case k1_ke_BadLinks_NoBar => k_is)
    (case k2_ke_BadLinks_NoBar => k_is)
    (case k3_ke_BadLinks_NoBar => k_is)
    (case k4_ke_BadLinks_NoBar => decide)
    (case k1_ke_BadLinks_BadPlace => k_is)
    (case k2_ke_BadLinks_BadPlace => k_is)
    (case k3_ke_BadLinks_BadPlace => k_is)
    (case k4_ke_BadLinks_BadPlace => decide)
    (case k1_ke_BadLinks_BadTree => k_is)
    (case k2_ke_BadLinks_BadTree => k_is)
    (case k3_ke_BadLinks_BadTree => k_is)
    (case k4_ke_BadLinks_BadTree => decide)
    (case a__law_hung => k_is)
    (case l__law_hung => k_is)
    (case d__law_hung => k_is)
    (case k__law_hung => k_is)
    (case a__law_bars => k_is)
    (case l__law_bars => k_is)
    (case d__law_bars => k_is)
    (case k__law_bars => k_is)
    (case a__law_drawn => k_is)
    (case l__law_drawn => k_is)
    (case d__law_drawn => k_is)
    (case k__law_drawn => k_is)
    (case a__law_deep => k_is)
    (case l__law_deep => k_is)
    (case d__law_deep => k_is)
    (case k__law_deep => k_is)
    (case a_depths => k_is)
    (case l_depths => k_is)
    (case d_depths => k_is)
    (case k_depths => k_is)
    (case a_parents_of => k_is)
    (case l_parents_of => k_is)
    (case d_parents_of => k_is)
    (case k_parents_of => k_is)
    (case a_is_number => k_is)
    (case l_is_number => k_is)
    (case d_is_number => k_is)
    (case k_is_number => k_is)
    (case a_bars_of => k_is)
    (case l_bars_of => k_is)
    (case d_bars_of => k_is)
    (case k_bars_of => k_is)
    (case a__law_refused => k_is)
    (case l__law_refused => k_is)
    (case d__law_refused => k_is)
    (case k__law_refused => k_is)
    (case a__law_numbers => k_is)
    (case l__law_numbers => k_is)
    (case d__law_numbers => k_is)
    (case k__law_numbers => k_is)
    (case a_asked_bars => k_is)
    (case l_asked_bars => k_is)
    (case d_asked_bars => k_is)
    (case k_asked_bars => k_is)
    (case a_tree => k_is)
    (case l_tree => k_is)
    (case d_tree => k_is)
    (case k_tree => k_is)
    (case a_law => k_is)
    (case l_law => k_is)
    (case d_law => k_is)
    (case k_law => k_is)
#print axioms PySem.Challenge.cw_skybars_k07_whole_tree_back_holds

