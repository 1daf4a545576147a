import PyProof.Rows.All
import Wide.All
import OpenK.AllK
import Wide.FinOn
import HandS.ForMost
import HandS.IsInst
import HandS.Style
import HandS.RevRange
import HandS.SortKw
import KE.KMinKey
import HandS.ForExc
import HandS.ExcIs
import HandS.ExcCtx
import HandS.Hot
import HandS.HotCalls
import PySem.Challenge.RW_skybars_k09_refused
set_option Elab.async false
set_option linter.all false
set_option maxRecDepth 100000
set_option maxHeartbeats 4000000
/-! R: rules of our own over the hand layer: comparisons of more than two links, max(xs, default=d), loops and comprehensions over enumerate and zip, the built-in names. -/
namespace Sky
open PySem PySem.Spec PyProof.Rows L2

/-! ### chains a op b op c op d .. -/
structure PCh (X : Cx) (ops : List CmpOp) (es : List Expr) (t : V → TE) : Prop where
  val : ∀ (pos : Pos) (pins : List (Addr × Obj)) (s : Shared) (σ : L2.St) (H : Hp) (Q : VK) (x : V) (v : Value), Inv X pins σ H s → RelV x v → t x σ H Q →
    wpAny (model X.prog X.w) X.A (compareChain pos v ops (evalEach es X.env)) (EP X pins σ Q) X.xe s
  tst : ∀ (pos : Pos) (pins : List (Addr × Obj)) (s : Shared) (σ : L2.St) (H : Hp) (Q : Bool → Hp → Prop) (x : V) (v : Value), Inv X pins σ H s → RelV x v → t x σ H (fun z H' => ∃ k, z = .bl k ∧ Q k H') →
    wpAny (model X.prog X.w) X.A (testChain pos v ops (evalEach es X.env)) (TP X pins σ Q) X.xe s
section
variable {X : Cx} {op op' : CmpOp} {ops : List CmpOp} {a b c : Expr} {cs : List Expr} {ta tb tc : TE} {r : R2} {t' : V → TE} {pos : Pos}
def cOne (r : R2) (tc : TE) : V → TE := fun x σ H Q => tc σ H fun y H2 => r x y H2 Q
def cCons (r : R2) (tb : TE) (t' : V → TE) : V → TE := fun x σ H Q => tb σ H fun y H2 => r x y H2 fun z H3 => ∃ k, z = .bl k ∧ (if k = true then t' y σ H3 Q else Q (.bl false) H3)
theorem pch_one (ho : OpR X (compareOp op) r) (hc : PE X c tc) : PCh X [op] [c] (cOne r tc) := by
  constructor
  · intro pos pins s σ H Q x v I rx h
    exact chain_last (thn (hc.run pins s σ H _ I h) fun u s2 ⟨y, H2, I2, r2, q2⟩ => ho pins s2 σ H2 x y v u Q I2 rx r2 q2)
  · intro pos pins s σ H Q x v I rx h
    refine test_last (thn (hc.run pins s σ H _ I h) fun u s2 ⟨y, H2, I2, r2, q2⟩ => thn (ho pins s2 σ H2 x y v u _ I2 rx r2 q2) fun d s3 ⟨z, H3, I3, r3, k, e, q3⟩ => ?_)
    subst e
    cases r3
    exact wpAny_truthy_bool ⟨H3, I3, q3⟩
theorem pch_cons (ho : OpR X (compareOp op) r) (hb : PE X b tb) (hc : PCh X (op' :: ops) (c :: cs) t') : PCh X (op :: op' :: ops) (b :: c :: cs) (cCons r tb t') := by
  constructor
  · intro pos pins s σ H Q x v I rx h
    refine chain_link (thn (hb.run pins s σ H _ I h) fun u s2 ⟨y, H2, I2, r2, q2⟩ => thn (ho pins s2 σ H2 x y v u _ I2 rx r2 q2) fun d s3 ⟨z, H3, I3, r3, k, e, q3⟩ => ?_)
    subst e
    cases r3
    refine wpAny_truthy_bool ?_
    cases k with
    | false => exact ite_ff ⟨.bl false, H3, I3, rfl, q3⟩
    | true => exact ite_tt (hc.val _ pins s3 σ H3 Q y u I3 r2 q3)
  · intro pos pins s σ H Q x v I rx h
    refine test_link (thn (hb.run pins s σ H _ I h) fun u s2 ⟨y, H2, I2, r2, q2⟩ => thn (ho pins s2 σ H2 x y v u _ I2 rx r2 q2) fun d s3 ⟨z, H3, I3, r3, k, e, q3⟩ => ?_)
    subst e
    cases r3
    refine wpAny_truthy_bool ?_
    cases k with
    | false =>
      obtain ⟨k', e', q'⟩ := q3
      cases e'
      exact ite_ff ⟨H3, I3, q'⟩
    | true => exact ite_tt (hc.tst _ pins s3 σ H3 Q y u I3 r2 q3)
def tChn (ta : TE) (t : V → TE) : TE := fun σ H Q => ta σ H fun x H1 => t x σ H1 Q
theorem pe_chn {op1 op2 : CmpOp} {r1 r2 : Expr} {rs : List Expr} {t : V → TE} (ha : PE X a ta) (h : PCh X (op1 :: op2 :: ops) (r1 :: r2 :: rs) t)
    (hm : lastMarks (op1 :: op2 :: ops) (r1 :: r2 :: rs) = false := by with_unfolding_all rfl) : PE X (.Compare a (op1 :: op2 :: ops) (r1 :: r2 :: rs) pos) (tChn ta t) := by
  refine ⟨fun pins s σ H Q I hw => ?_⟩
  exact Compare_chain (thn (ha.run pins s σ H _ I hw) fun v s1 ⟨x, H1, I1, q1, k1⟩ => h.val pos pins s1 σ H1 Q x v I1 q1 k1) hm
theorem pt_chn {op1 op2 : CmpOp} {r1 r2 : Expr} {rs : List Expr} {t : V → TE} (ha : PE X a ta) (h : PCh X (op1 :: op2 :: ops) (r1 :: r2 :: rs) t)
    (hm : lastMarks (op1 :: op2 :: ops) (r1 :: r2 :: rs) = false := by with_unfolding_all rfl) : PT X (.Compare a (op1 :: op2 :: ops) (r1 :: r2 :: rs) pos) (tTest (tChn ta t)) := by
  refine ⟨fun pins s σ H Q I hw => ?_⟩
  exact isTrue_chain (thn (ha.run pins s σ H _ I hw) fun v s1 ⟨x, H1, I1, q1, k1⟩ => h.tst pos pins s1 σ H1 Q x v I1 q1 k1) hm
end

/-! ### lists of whole numbers as values -/
def g (bs : List Int) (i : Nat) : Int := bs.getD i 0
abbrev ivs (l : List Int) : List V := l.map V.int
theorem ivs_at {l : List Int} {j : Nat} (h : j < l.length) : (ivs l)[j]? = some (.int (g l j)) := by
  unfold g
  rw [List.getElem?_map, List.getElem?_eq_getElem h, List.getD_eq_getElem?_getD, List.getElem?_eq_getElem h]
  rfl
theorem at_ivs {l : List Int} {j : Nat} {i : Int} (e : i = (j : Int)) (h : j < l.length) : atI (ivs l) i = some (.int (g l j)) := by
  rw [e]
  exact atI_nat (ivs_at h)
theorem of_ivs {l : List Int} {j : Nat} {x : V} (h : (ivs l)[j]? = some x) : j < l.length ∧ x = .int (g l j) := by
  have hj : j < l.length := by
    have := (List.getElem?_eq_some_iff.mp h).1
    rwa [List.length_map] at this
  refine ⟨hj, ?_⟩
  rw [ivs_at hj] at h
  exact (Option.some.inj h).symm
theorem len_ivs (l : List Int) : (ivs l).length = l.length := List.length_map ..
theorem ivs_app (l : List Int) (x : Int) : ivs (l ++ [x]) = ivs l ++ [V.int x] := by simp [ivs]
theorem rev_ivs (l : List Int) : (ivs l).reverse = ivs l.reverse := (List.map_reverse ..).symm
theorem sz_of {n : Nat} (h : n ≤ 100000) : n ≤ sizeLine := Nat.le_trans h (by decide)
theorem sz_lt {n : Nat} (h : n < 100000) : n < sizeLine := Nat.lt_of_lt_of_le h (by decide)

/-- a list read as data: of numbers -/
theorem dp_ivsA {K : PySem.W.Frag} {H : Hp} : ∀ l : List Int, DpAll K H (ivs l) (l.map PyData.int)
  | [] => .nil
  | a :: r => .cons (.int a) (dp_ivsA r)
theorem dp_ivs {K : PySem.W.Frag} {H : Hp} {a : Addr} {l : List Int} (h : SqL K H a (ivs l)) : Dp K H (.ref a) (.list (l.map PyData.int)) := .lst h (dp_ivsA l)
theorem eqv_ivsA : ∀ l m : List Int, PyData.eqvAll (l.map PyData.int) (m.map PyData.int) = decide (l = m)
  | [], [] => by simp [PyData.eqvAll]
  | [], _ :: _ => by simp [PyData.eqvAll]
  | _ :: _, [] => by simp [PyData.eqvAll]
  | a :: r, b :: t => by
    simp only [List.map_cons, PyData.eqvAll, PyData.eqv, eqv_ivsA r t]
    by_cases h : a = b <;> by_cases h' : r = t <;> simp [h, h']
theorem eqv_ivs (l m : List Int) : PyData.eqv (.list (l.map PyData.int)) (.list (m.map PyData.int)) = decide (l = m) := by
  simp only [PyData.eqv]
  exact eqv_ivsA l m
/-- ==, != of two lists of numbers -/
theorem q_eqL {K : PySem.W.Frag} {H : Hp} {a b : Addr} {l m : List Int} {Q : VK} (ha : SqL K H a (ivs l)) (hb : SqL K H b (ivs m)) (q : Q (.bl (decide (l = m))) H) : rEqD K (.ref a) (.ref b) H Q :=
  ⟨_, _, dp_ivs ha, dp_ivs hb, PySem.W.ke_shaped_ints l, PySem.W.ke_shaped_ints m, by rw [eqv_ivs]; exact q⟩
theorem q_neL {K : PySem.W.Frag} {H : Hp} {a b : Addr} {l m : List Int} {Q : VK} (ha : SqL K H a (ivs l)) (hb : SqL K H b (ivs m)) (q : Q (.bl (!decide (l = m))) H) : rNeD K (.ref a) (.ref b) H Q :=
  ⟨_, _, dp_ivs ha, dp_ivs hb, PySem.W.ke_shaped_ints l, PySem.W.ke_shaped_ints m, by rw [eqv_ivs]; exact q⟩

/-! ### loops over enumerate, with two names -/
abbrev g2 (K : PySem.W.Frag) (j k : Nat) : TG := gTup K 2 (gCons (gName j) (gCons (gName k) gNil))
theorem g2_new {K : PySem.W.Frag} {j k : Nat} {T : Addr} {x y : V} {σ : L2.St} {H : Hp} {Q : L2.St → Hp → Prop} (q : Q ((σ.set j (some x)).set k (some y)) (upd H T (.tup [x, y]))) : g2 K j k (.ref T) σ (upd H T (.tup [x, y])) Q :=
  ⟨T, [x, y], rfl, SqT.of upd_same, rfl, x, [y], rfl, y, [], rfl, rfl, q⟩
theorem same_new {H : Hp} {p : Addr} {o : HO} (h : H p = none) : Same H (upd H p o) := fun b u e => by
  rw [upd_ne (ne_of_none e h)]
  exact e
/-- what H did not know may change -/
theorem same_mut {H H' : Hp} {p : Addr} {o : HO} (e : Same H H') (h : H p = none) : Same H (upd H' p o) := fun a u ha => by
  rw [upd_ne (ne_of_none ha h)]
  exact e a u ha
theorem for_enum2 {K : PySem.W.Frag} {a : Addr} {xs : List V} {j k : Nat} {tb : TS} {D : Ends} {σ : L2.St} {H : Hp} (Pv : Nat → L2.St → Hp → Prop) (h0 : Pv 0 σ H) (hq : ∀ i σ H, Pv i σ H → SqL K H a xs)
    (hs : ∀ (i : Nat) (x : V) (σ : L2.St) (H H' : Hp), xs[i]? = some x → Pv i σ H → Same H H' → tb { D with nx := Pv (i + 1), ct := Pv (i + 1), bk := D.nx } ((σ.set j (some (.int (i : Int)))).set k (some x)) H') (hd : ∀ σ H, Pv xs.length σ H → D.nx σ H) :
    ∃ W : Nat → Nat → L2.St → Hp → Prop, (∃ m, W 0 m σ H) ∧ ∀ i m σ H, W i m σ H →
      ((Ite K a).stop i H ∧ D.nx σ H) ∨ ((Ite K a).go i H ∧ ∃ N : L2.St → Hp → Prop, (∀ σ' H', N σ' H' → ∃ m', m' < m ∧ W (i + 1) m' σ' H') ∧ ∀ v H', (Ite K a).yld i H v H' → g2 K j k v σ H' fun σ2 H2 => tb { D with nx := N, ct := N, bk := D.nx } σ2 H2) := by
  refine ⟨fun i m σ H => m = xs.length - i ∧ i ≤ xs.length ∧ Pv i σ H, ⟨xs.length, rfl, Nat.zero_le _, h0⟩, ?_⟩
  rintro i m σ H ⟨rfl, hi, p⟩
  have qx := hq i σ H p
  by_cases hlt : i < xs.length
  · refine .inr ⟨⟨xs, xs[i], qx, List.getElem?_eq_getElem hlt⟩, Pv (i + 1), fun σ' H' p' => ⟨xs.length - (i + 1), by omega, rfl, hlt, p'⟩, fun v H' y => ?_⟩
    obtain ⟨T, x', rfl, hT, rfl, f1⟩ := y
    exact g2_new (hs i x' σ H _ (f1 xs qx) p (same_new hT))
  · have e : i = xs.length := by omega
    subst e
    exact .inl ⟨⟨xs, qx, Nat.le_refl _⟩, hd σ H p⟩
/-! ### comprehensions over enumerate, zip -/
theorem lc_enum {K : PySem.W.Frag} {a : Addr} {xs : List V} {g : TG} {tt : TT} {te : TE} {vs : List Nat} {σ : L2.St} {H1 : Hp} {D : Addr} {Qd : Hp → Prop} (Pv : Nat → Hp → Prop) (h0 : Pv 0 (upd H1 D (.lst []))) (hl : ∀ i H, Pv i H → SqL K H a xs)
    (hs : ∀ (i : Nat) (x : V) (T : Addr) (H : Hp), xs[i]? = some x → Pv i H → H T = none → g (.ref T) (wipe σ vs) (upd H T (.tup [.int (i : Int), x])) fun σ2 H2 => wipe σ2 vs = wipe σ vs ∧ tt σ2 H2 fun b H3 =>
      if b = true then te σ2 H3 fun y H4 => ∃ acc, H4 D = some (.lst acc) ∧ acc.length < sizeLine ∧ Pv (i + 1) (upd H4 D (.lst (acc ++ [y]))) else Pv (i + 1) H3) (hd : ∀ H, Pv xs.length H → Qd H) :
    ∃ W : Nat → Nat → Hp → Prop, (∃ m, W 0 m (upd H1 D (.lst []))) ∧ ∀ i m H, W i m H →
      ((Ite K a).stop i H ∧ Qd H) ∨ ((Ite K a).go i H ∧ ∃ Nx : Hp → Prop, (∀ H', Nx H' → ∃ m', m' < m ∧ W (i + 1) m' H') ∧ ∀ x H', (Ite K a).yld i H x H' → g x (wipe σ vs) H' fun σ2 H2 => wipe σ2 vs = wipe σ vs ∧ tt σ2 H2 fun b H3 =>
        if b = true then te σ2 H3 fun y H4 => ∃ acc, H4 D = some (.lst acc) ∧ acc.length < sizeLine ∧ Nx (upd H4 D (.lst (acc ++ [y]))) else Nx H3) := by
  refine ⟨fun i m H => m = xs.length - i ∧ i ≤ xs.length ∧ Pv i H, ⟨xs.length, rfl, Nat.zero_le _, h0⟩, ?_⟩
  rintro i m H ⟨rfl, hi, p⟩
  have qx := hl i H p
  by_cases hlt : i < xs.length
  · refine .inr ⟨⟨xs, xs[i], qx, List.getElem?_eq_getElem hlt⟩, Pv (i + 1), fun H' p' => ⟨xs.length - (i + 1), by omega, rfl, hlt, p'⟩, fun v H' y => ?_⟩
    obtain ⟨T, x', rfl, hT, rfl, f1⟩ := y
    exact hs i x' T H (f1 xs qx) p hT
  · have e : i = xs.length := by omega
    subst e
    exact .inl ⟨⟨xs, qx, Nat.le_refl _⟩, hd H p⟩
theorem lc_zip {K : PySem.W.Frag} {a b : Addr} {xs ys : List V} {g : TG} {tt : TT} {te : TE} {vs : List Nat} {σ : L2.St} {H1 : Hp} {D : Addr} {Qd : Hp → Prop} (hlen : xs.length = ys.length) (Pv : Nat → Hp → Prop) (h0 : Pv 0 (upd H1 D (.lst [])))
    (hl : ∀ i H, Pv i H → SqL K H a xs ∧ SqL K H b ys)
    (hs : ∀ (i : Nat) (x y : V) (T : Addr) (H : Hp), xs[i]? = some x → ys[i]? = some y → Pv i H → H T = none → g (.ref T) (wipe σ vs) (upd H T (.tup [x, y])) fun σ2 H2 => wipe σ2 vs = wipe σ vs ∧ tt σ2 H2 fun b H3 =>
      if b = true then te σ2 H3 fun y H4 => ∃ acc, H4 D = some (.lst acc) ∧ acc.length < sizeLine ∧ Pv (i + 1) (upd H4 D (.lst (acc ++ [y]))) else Pv (i + 1) H3) (hd : ∀ H, Pv xs.length H → Qd H) :
    ∃ W : Nat → Nat → Hp → Prop, (∃ m, W 0 m (upd H1 D (.lst []))) ∧ ∀ i m H, W i m H →
      ((Itz K a b).stop i H ∧ Qd H) ∨ ((Itz K a b).go i H ∧ ∃ Nx : Hp → Prop, (∀ H', Nx H' → ∃ m', m' < m ∧ W (i + 1) m' H') ∧ ∀ x H', (Itz K a b).yld i H x H' → g x (wipe σ vs) H' fun σ2 H2 => wipe σ2 vs = wipe σ vs ∧ tt σ2 H2 fun b H3 =>
        if b = true then te σ2 H3 fun y H4 => ∃ acc, H4 D = some (.lst acc) ∧ acc.length < sizeLine ∧ Nx (upd H4 D (.lst (acc ++ [y]))) else Nx H3) := by
  refine ⟨fun i m H => m = xs.length - i ∧ i ≤ xs.length ∧ Pv i H, ⟨xs.length, rfl, Nat.zero_le _, h0⟩, ?_⟩
  rintro i m H ⟨rfl, hi, p⟩
  obtain ⟨qx, qy⟩ := hl i H p
  by_cases hlt : i < xs.length
  · have hx : xs[i]? = some xs[i] := List.getElem?_eq_getElem hlt
    have hlt2 : i < ys.length := by omega
    have hy : ys[i]? = some ys[i] := List.getElem?_eq_getElem hlt2
    refine .inr ⟨⟨xs, ys, _, _, qx, qy, hx, hy⟩, Pv (i + 1), fun H' p' => ⟨xs.length - (i + 1), by omega, rfl, hlt, p'⟩, fun v H' y => ?_⟩
    obtain ⟨T, x', y', rfl, hT, rfl, f1, f2⟩ := y
    exact hs i x' y' T H (f1 xs qx) (f2 ys qy) p hT
  · have e : i = xs.length := by omega
    subst e
    exact .inl ⟨⟨xs, ys, qx, qy, Or.inl (Nat.le_refl _)⟩, hd H p⟩
end Sky
namespace Sky
open PySem PySem.Spec PyProof.Rows L2
/-! ### a def as it stands, a def as it is used; promises by the count of arguments -/
def Sp1 (P : V → Hp → VK → XK → Prop) : Sp := fun vs H Q E => ∃ x, vs = [x] ∧ P x H Q E
def Sp2 (P : V → V → Hp → VK → XK → Prop) : Sp := fun vs H Q E => ∃ x y, vs = [x, y] ∧ P x y H Q E
def Sp3 (P : V → V → V → Hp → VK → XK → Prop) : Sp := fun vs H Q E => ∃ x y z, vs = [x, y, z] ∧ P x y z H Q E
def Sp5 (P : V → V → V → V → V → Hp → VK → XK → Prop) : Sp := fun vs H Q E => ∃ x y z u v, vs = [x, y, z, u, v] ∧ P x y z u v H Q E
def Def (K : PySem.W.Frag) (mg : Str → Option Value) (x : Str) (ps : List Str) (st : Stmt) : Prop := ∃ (f : Addr) (fd : FuncData), mg x = some (.ref f) ∧ Fun K x x st f fd ∧ Binds K fd ps []
def Has (P : Program) (w : World) (K : PySem.W.Frag) (mg : Str → Option Value) (base : Heap) (CX : CXT) (k : Nat) (x : Str) (ps : List Str) (sp : Sp) : Prop :=
  ∃ (f : Addr) (fd : FuncData), mg x = some (.ref f) ∧ FnOk P w K mg base CX k f fd ps sp ∧ PySem.W.keepIn K (.ref f) = true ∧ Binds K fd ps []
theorem Has.mono {P : Program} {w : World} {K : PySem.W.Frag} {mg : Str → Option Value} {base : Heap} {CX : CXT} {j k : Nat} {x : Str} {ps : List Str} {sp : Sp} (h : Has P w K mg base CX j x ps sp) (l : j ≤ k) : Has P w K mg base CX k x ps sp := by
  obtain ⟨f, fd, a, b, c, d⟩ := h
  exact ⟨f, fd, a, b.mono l, c, d⟩
/-! ### the built-in names -/
theorem bt_len : bootBuiltins "len" = some (.builtin "len") := by decide +kernel
theorem bt_isinstance : bootBuiltins "isinstance" = some (.builtin "isinstance") := by decide +kernel
theorem bt_all : bootBuiltins "all" = some (.builtin "all") := by decide +kernel
theorem bt_any : bootBuiltins "any" = some (.builtin "any") := by decide +kernel
theorem bt_sum : bootBuiltins "sum" = some (.builtin "sum") := by decide +kernel
theorem bt_max : bootBuiltins "max" = some (.builtin "max") := by decide +kernel
theorem bt_min : bootBuiltins "min" = some (.builtin "min") := by decide +kernel
theorem bt_sorted : bootBuiltins "sorted" = some (.builtin "sorted") := by decide +kernel
theorem bt_int : bootBuiltins "int" = some (.type "int") := by decide +kernel
theorem bt_bool : bootBuiltins "bool" = some (.type "bool") := by decide +kernel
theorem bt_tuple : bootBuiltins "tuple" = some (.type "tuple") := by decide +kernel
theorem bt_str : bootBuiltins "str" = some (.type "str") := by decide +kernel
theorem bt_ValueError : bootBuiltins "ValueError" = some (.type "ValueError") := by decide +kernel
theorem bt_list : bootBuiltins "list" = some (.type "list") := by decide +kernel
/-- len, list(..), by names of our own -/
def rLenK (K : PySem.W.Frag) : List V → Hp → VK → Prop := fun xs H Q => ∃ p ys, xs = [.ref p] ∧ (SqL K H p ys ∨ SqT K H p ys) ∧ Q (.int (ys.length : Nat)) H
def rListK (K : PySem.W.Frag) : List V → Hp → VK → Prop := fun xs H Q => ∃ p ys, xs = [.ref p] ∧ (SqL K H p ys ∨ SqT K H p ys) ∧ ∀ l, H l = none → Q (.ref l) (upd H l (.lst ys))
theorem call_lenK {X : Cx} : CallR X (.builtin "len") (rLenK X.K) := call_len_seq
theorem call_listK {X : Cx} : CallR X (.type "list") (rListK X.K) := call_list_of
/-! ### the rules with the written part named (for a block of a comprehension) -/
section
variable {X : Cx} {K : PySem.W.Frag}
theorem ix_listK (e : X.K = K := by rfl) : IxR X (rIxL K) := e ▸ ix_list
theorem ix_tupK (e : X.K = K := by rfl) : IxR X (rIxT K) := e ▸ ix_tup
theorem isiK (e : X.K = K := by rfl) : CallR X (.builtin "isinstance") (rIsi K) := e ▸ call_isi
theorem lenK (e : X.K = K := by rfl) : CallR X (.builtin "len") (rLenK K) := e ▸ call_lenK
theorem listK (e : X.K = K := by rfl) : CallR X (.type "list") (rListK K) := e ▸ call_listK
theorem allK (hc : X.calm = true) (e : X.K = K := by rfl) : CallR X (.builtin "all") (rAll K) := e ▸ cr_all hc
theorem anyK (hc : X.calm = true) (e : X.K = K := by rfl) : CallR X (.builtin "any") (rAny K) := e ▸ cr_any hc
theorem sumK (hc : X.calm = true) (e : X.K = K := by rfl) : CallR X (.builtin "sum") (rSum K) := e ▸ cr_sum hc
theorem maxK (hc : X.calm = true) (e : X.K = K := by rfl) : CallR X (.builtin "max") (rMax K) := e ▸ cr_max hc
theorem minK (hc : X.calm = true) (e : X.K = K := by rfl) : CallR X (.builtin "min") (rMin K) := e ▸ cr_min hc
theorem sortedK (e : X.K = K := by rfl) : CallR X (.builtin "sorted") (rSorted K) := e ▸ cr_sorted
theorem sl_listK (e : X.K = K := by rfl) : SlR X (rSlL K) := e ▸ sl_list
theorem eqDK (hu : X.A.units + 64 < cLine) (e : X.K = K := by rfl) : OpR X (compareOp .Eq) (rEqD K) := e ▸ op_eqD hu
theorem neDK (hu : X.A.units + 64 < cLine) (e : X.K = K := by rfl) : OpR X (compareOp .NotEq) (rNeD K) := e ▸ op_neD hu
theorem inK (e : X.K = K := by rfl) : OpR X (compareOp .In) (rIn K false) := e ▸ op_in_seq
theorem notInK (e : X.K = K := by rfl) : OpR X (compareOp .NotIn) (rIn K true) := e ▸ op_notIn_seq
theorem pe_revLK {e : Expr} {te : TE} {k : Nat} {p1 p2 p3 pos : Pos} (he : PE X e te) (h : X.K = K := by rfl) : PE X (.Subscript e (.Slice none none (some (.UnaryOp .USub (.Constant (.int 1) k p1) p2)) p3) pos) (tRevL K te) := h ▸ pe_revL he
end
/-! ### isinstance with a built-in type -/
theorem q_isi {K : PySem.W.Frag} {H : Hp} {x : V} {t T : String} {b : Bool} {Q : VK} (ty : TyX K H x (.type t)) (hk : kitB t T = some b) (q : Q (.bl b) H) : rIsi K [x, .ty T] H Q :=
  ⟨x, .ty T, .type t, .type T, b, rfl, .ty T, ty, kit_ty hk, q⟩
theorem kb_ii : kitB "int" "int" = some true := by decide +kernel
theorem kb_ib : kitB "int" "bool" = some false := by decide +kernel
theorem kb_ll : kitB "list" "list" = some true := by decide +kernel
theorem kb_tt : kitB "tuple" "tuple" = some true := by decide +kernel
theorem kb_bb : kitB "bool" "bool" = some true := by decide +kernel
theorem kb_bi : kitB "bool" "int" = some true := by decide +kernel
theorem tyx_int {K : PySem.W.Frag} {H : Hp} {i : Int} : TyX K H (.int i) (.type "int") := .base (.int i)
theorem tyx_bl {K : PySem.W.Frag} {H : Hp} {b : Bool} : TyX K H (.bl b) (.type "bool") := .base (.bl b)
theorem tyx_list {K : PySem.W.Frag} {H : Hp} {a : Addr} {xs : List V} (h : SqL K H a xs) : TyX K H (.ref a) (.type "list") := by
  rcases h with (h | ⟨o, h⟩) | ⟨o, its, n, hk, hc, _⟩
  · exact .base (.lst h)
  · exact .base (.frz h)
  · exact .kList hk hc
theorem tyx_tup {K : PySem.W.Frag} {H : Hp} {a : Addr} {xs : List V} (h : SqT K H a xs) : TyX K H (.ref a) (.type "tuple") := by
  rcases h with (h | ⟨o, h⟩) | ⟨o, its, n, hk, hc, _⟩
  · exact .base (.tup h)
  · exact .fTuple h
  · exact .kTuple hk hc
/-! ### a test whose answer is known -/
theorem ifT {c : Bool} {A B : Prop} (hc : c = true) (h : A) : if c = true then A else B := by
  rw [if_pos hc]
  exact h
theorem ifF {c : Bool} {A B : Prop} (hc : c = false) (h : B) : if c = true then A else B := by
  rw [hc, if_neg Bool.false_ne_true]
  exact h
theorem same_seqT {K : PySem.W.Frag} {H H' : Hp} {a : Addr} {xs : List V} (e : Same H H') (h : SqT K H a xs) : SqT K H' a xs := by
  rcases h with (h | ⟨o, h⟩) | h
  · exact .inl (.inl (e _ _ h))
  · exact .inl (.inr ⟨o, e _ _ h⟩)
  · exact .inr h
end Sky

/-! Mx: max(xs, default=d) of a list of whole numbers, by our own walk of the built-in's loop with its keyword carried. -/
namespace SkyMx
open PySem PySem.Spec PyProof.Rows
section
variable {prog : Program} {w : World} {A : Around} {R : Result → Shared → Prop} {I : Addr} {fp wr : List Addr} {n : Nat} {P : Nat → Value → Prop} {St : Nat → Heap → Prop} {kw : List (Str × Value)}
theorem nameMx : (toString "max" ++ toString ".loop" : String) = "max.loop" := by decide
/-- what the loop's end is to give -/
abbrev MxEnd (bt : Nat → Nat → Bool) (n : Nat) (P : Nat → Value → Prop) (wr : List Addr) (S : Addr) (R : Result → Shared → Prop) (s : Shared) : Prop :=
  ∀ v h' tk, P (argBest bt (n - 1)) v → (∀ b o, b ∉ wr → b ≠ S → s.heap.get? b = some o → h'.get? b = some o) → R (.ok (.ret v)) { s with heap := h', toks := tk }
theorem mx_loop (W : Walks prog w A.in1 I fp wr n P St) (bt : Nat → Nat → Bool) (hcmp : CmpOf prog w A.in1 .Gt P bt) (S : Addr) (hSf : S ∉ fp) :
    ∀ (k j : Nat) (s : Shared) (vb : Value) (c : Nat), n - (j + 1) = k → j + 1 ≤ n → St (j + 1) s.heap → P (argBest bt j) vb →
      s.heap.get? S = some { cls := .type "list", dict := none, data := .seq #[vb, vb] c, slots := #[] } → MxEnd bt n P wr S R s →
      codeAny (model prog w) A (.builtin "max.loop" ⟨[.ref I, .none, .ref S], kw⟩) R s := by
  have hSw : S ∉ wr := fun q => hSf (W.sub _ q)
  intro k
  induction k with
  | zero =>
    intro j s vb c hk hj hst hb hS hR
    have hin : j + 1 = n := by omega
    refine codeAny_builtin F.entry_max_loop ?_
    rw [Around.under_plainId F.plain_max_loop _]
    show wpAny (model prog w) A.in1 (seqItems? (.ref S) >>= fun _ => _) (fun _ => _) _ s
    refine wpAny_bind (wpAny_seqItems hS rfl ?_)
    show wpAny (model prog w) A.in1 (tryCatch (pyNext (.ref I)) (fun _ => _) >>= fun _ => _) (fun _ => _) _ s
    refine wpAny_bind (wpAny_tryCatch (W.done s _ _ (hin ▸ hst) fun h' tk keep => ?_))
    have hS2 := keep S _ hSw hS
    show wpAny (model prog w) A.in1 (updateSeq S (fun _ => #[]) >>= fun _ => _) (fun _ => _) _ _
    refine wpAny_bind (wpAny_updateSeq hS2 rfl (wpAny_bind (wpAny_letGo (wpAny_pure ?_))))
    exact hR vb _ tk (by rw [← hin]; exact hb) fun b o hbw hbS e => (Heap.get?_update_other _ _ (Ne.symm hbS)).trans (keep b o hbw e)
  | succ k ih =>
    intro j s vb c hk hj hst hb hS hR
    have hlt : j + 1 < n := by omega
    refine codeAny_builtin F.entry_max_loop ?_
    rw [Around.under_plainId F.plain_max_loop _]
    show wpAny (model prog w) A.in1 (seqItems? (.ref S) >>= fun _ => _) (fun _ => _) _ s
    refine wpAny_bind (wpAny_seqItems hS rfl ?_)
    show wpAny (model prog w) A.in1 (tryCatch (pyNext (.ref I)) (fun _ => _) >>= fun _ => _) (fun _ => _) _ s
    refine wpAny_bind (wpAny_tryCatch (W.item (j + 1) s _ _ hlt hst fun v h' tk hP st2 keep => ?_))
    have hS2 := keep S _ hSw hS
    show wpAny (model prog w) A.in1 (tryCatch (holding [v, v] (richCompare .Gt v vb >>= fun _ => _)) (fun _ => _) >>= fun _ => _) (fun _ => _) _ _
    refine wpAny_bind (wpAny_tryCatch (wpAny_holding (wpAny_bind (hcmp (j + 1) (argBest bt j) v vb _ _ _ hP hb (wpAny_bind (wpAny_holding (wpAny_truthy_bool (wpAny_bind (wpAny_letGo (wpAny_pure ?_))))))))))
    cases hbt : bt (j + 1) (argBest bt j) with
    | true =>
      rw [if_pos rfl]
      refine wpAny_bind (wpAny_updateSeq hS2 rfl (wpAny_bind (wpAny_letGo ?_)))
      rw [nameMx]
      refine wpAny_pure ⟨plainId_quiet F.plain_max_loop _, ih (j + 1) _ v _ (by omega) hlt (W.frame _ _ _ st2 fun b hbf o e => ?_) (by simp only [argBest, hbt, if_true]; exact hP) (Heap.get?_update_self _ hS2 rfl) fun v2 h2 tk2 hP2 keep2 => ?_⟩
      · exact (Heap.get?_update_other _ _ (fun q : S = b => hSf (by rw [q]; exact hbf))).trans e
      · exact hR v2 h2 tk2 hP2 fun b o hbw hbS e => keep2 b o hbw hbS ((Heap.get?_update_other _ _ (Ne.symm hbS)).trans (keep b o hbw e))
    | false =>
      rw [if_neg Bool.false_ne_true]
      refine wpAny_bind (wpAny_letGo ?_)
      rw [nameMx]
      refine wpAny_pure ⟨plainId_quiet F.plain_max_loop _, ih (j + 1) _ vb c (by omega) hlt st2 (by simp only [argBest, hbt, Bool.false_eq_true, if_false]; exact hb) hS2 fun v2 h2 tk2 hP2 keep2 => ?_⟩
      exact hR v2 h2 tk2 hP2 fun b o hbw hbS e => keep2 b o hbw hbS (keep b o hbw e)
theorem mx_first (W : Walks prog w A.in1 I fp wr n P St) (bt : Nat → Nat → Bool) (hcmp : CmpOf prog w A.in1 .Gt P bt) (S : Addr) (hSf : S ∉ fp) (hn : 0 < n) {s : Shared} {c : Nat} (hst : St 0 s.heap)
    (hS : s.heap.get? S = some { cls := .type "list", dict := none, data := .seq #[] c, slots := #[] }) (hR : MxEnd bt n P wr S R s) :
    codeAny (model prog w) A (.builtin "max.loop" ⟨[.ref I, .none, .ref S], kw⟩) R s := by
  have hSw : S ∉ wr := fun q => hSf (W.sub _ q)
  refine codeAny_builtin F.entry_max_loop ?_
  rw [Around.under_plainId F.plain_max_loop _]
  show wpAny (model prog w) A.in1 (seqItems? (.ref S) >>= fun _ => _) (fun _ => _) _ s
  refine wpAny_bind (wpAny_seqItems hS rfl ?_)
  show wpAny (model prog w) A.in1 (tryCatch (pyNext (.ref I)) (fun _ => _) >>= fun _ => _) (fun _ => _) _ s
  refine wpAny_bind (wpAny_tryCatch (W.item 0 s _ _ hn hst fun v h' tk hP st2 keep => ?_))
  have hS2 := keep S _ hSw hS
  show wpAny (model prog w) A.in1 (updateSeq S (fun _ => #[v, v]) >>= fun _ => _) (fun _ => _) _ _
  refine wpAny_bind (wpAny_updateSeq hS2 rfl ?_)
  rw [nameMx]
  refine wpAny_pure ⟨plainId_quiet F.plain_max_loop _, mx_loop W bt hcmp S hSf _ 0 _ v _ rfl hn (W.frame _ _ _ st2 fun b hbf o e => ?_) hP (Heap.get?_update_self _ hS2 rfl) fun v2 h2 tk2 hP2 keep2 => ?_⟩
  · exact (Heap.get?_update_other _ _ (fun q : S = b => hSf (by rw [q]; exact hbf))).trans e
  · exact hR v2 h2 tk2 hP2 fun b o hbw hbS e => keep2 b o hbw hbS ((Heap.get?_update_other _ _ (Ne.symm hbS)).trans (keep b o hbw e))
/-- nothing walked: the default -/
theorem mx_none (W : Walks prog w A.in1 I fp wr 0 P St) (S : Addr) {nm : Str} {d : Value} {s : Shared} {c : Nat} (hst : St 0 s.heap)
    (hS : s.heap.get? S = some { cls := .type "list", dict := none, data := .seq #[] c, slots := #[] })
    (hR : ∀ h' tk, (∀ b o, b ∉ wr → s.heap.get? b = some o → h'.get? b = some o) → R (.ok (.ret d)) { s with heap := h', toks := tk }) :
    codeAny (model prog w) A (.builtin "max.loop" ⟨[.ref I, .none, .ref S], [(nm, d)]⟩) R s := by
  refine codeAny_builtin F.entry_max_loop ?_
  rw [Around.under_plainId F.plain_max_loop _]
  show wpAny (model prog w) A.in1 (seqItems? (.ref S) >>= fun _ => _) (fun _ => _) _ s
  refine wpAny_bind (wpAny_seqItems hS rfl ?_)
  show wpAny (model prog w) A.in1 (tryCatch (pyNext (.ref I)) (fun _ => _) >>= fun _ => _) (fun _ => _) _ s
  refine wpAny_bind (wpAny_tryCatch (W.done s _ _ hst fun h' tk keep => ?_))
  show wpAny (model prog w) A.in1 (rule _ >>= fun _ => _) (fun _ => _) _ _
  refine wpAny_bind (wpAny_rule (wpAny_pure ?_))
  exact hR h' tk keep
end
theorem argsMx (a v : Value) : argsOk "max" ⟨[a], [(Str.ofString "default", v)]⟩ := by unfold argsOk; kernel_rfl
section
variable {prog : Program} {w : World} {A : Around} {E : Value → Shared → Prop} {s : Shared} {l : Addr} {its : List Value} {ns : List Int} {Q : Value → Shared → Prop} {d : Value}
theorem mx_raw (hh : A.handled = none) (hl : s.heap.IsList l its.toArray) (hi : IntsAre its ns)
    (h0 : ns = [] → ∀ h' tk, (∀ b o, s.heap.get? b = some o → h'.get? b = some o) → Q d { s with heap := h', toks := tk })
    (h1 : ∀ h' tk M t', (∀ b o, s.heap.get? b = some o → h'.get? b = some o) → M ∈ ns → (∀ a, a ∈ ns → a ≤ M) → Q (.int M t') { s with heap := h', toks := tk }) :
    wpAny (model prog w) A (call (.builtin "max") [.ref l] [(Str.ofString "default", d)]) Q E s := by
  obtain ⟨xs, e⟩ := hi.allInts.items
  have hn : numsOf (intItems xs).toList = ns := by rw [← e]; exact hi.numsOf
  rw [nums_intItems] at hn
  rw [e] at hl
  refine PyProof.Rows.kmk_tree F.kind_max F.plain_max F.entry_max (argsMx _ _) ?_
  show wpAny (model prog w) A.in1 (Builtin.Builtins.bindParams "max" ["key", "default"] 0 ⟨[], [(Str.ofString "default", d)]⟩ >>= fun _ => _) (fun _ => _) _ s
  refine wpAny_bind (wpAny_of_eq (show Builtin.Builtins.bindParams "max" ["key", "default"] 0 ⟨[], [(Str.ofString "default", d)]⟩ = pure [none, some d] from rfl) ?_)
  refine wpAny_bind (wpAny_pure (wpAny_bind (iter_intList hl fun s2 e2 st hfp hlI => ?_)))
  subst e2
  refine wpAny_bind (wpAny_newObj_type ?_)
  rw [nameMx]
  have W := Walks.list (prog := prog) (w := w) (A := A.in1) hh s.heap.objs.size l hlI (intItems xs)
  have hSf : (s.heap.push { cls := .type "list_iterator", data := .fields #[.ref l, .int 0 0] }).objs.size ∉ [s.heap.objs.size, l] := fun q => Nat.lt_irrefl _ (hfp _ q)
  have sz : (s.heap.push { cls := .type "list_iterator", data := .fields #[.ref l, .int 0 0] }).objs.size = s.heap.objs.size + 1 := Heap.size_push ..
  have st' := W.frame _ _ (((s.heap.push { cls := .type "list_iterator", data := .fields #[.ref l, .int 0 0] }).push { cls := .type "list", data := .seq ([] : List Value).toArray })) st fun b _ o q => Heap.get?_push_of_some _ q
  have hSn : ((s.heap.push { cls := .type "list_iterator", data := .fields #[.ref l, .int 0 0] }).push { cls := .type "list", data := .seq ([] : List Value).toArray }).get? (s.heap.push { cls := .type "list_iterator", data := .fields #[.ref l, .int 0 0] }).objs.size = some { cls := .type "list", dict := none, data := .seq #[] 0, slots := #[] } := Heap.get?_push_size _ rfl
  have old : ∀ b o, s.heap.get? b = some o → b ∉ [s.heap.objs.size] ∧ b ≠ (s.heap.push { cls := .type "list_iterator", data := .fields #[.ref l, .int 0 0] }).objs.size ∧ ((s.heap.push { cls := .type "list_iterator", data := .fields #[.ref l, .int 0 0] }).push { cls := .type "list", data := .seq ([] : List Value).toArray }).get? b = some o := fun b o q => by
    have lt := Heap.lt_size q
    refine ⟨fun z => ?_, ?_, Heap.get?_push_of_some _ (Heap.get?_push_of_some _ q)⟩
    · exact absurd (List.mem_singleton.mp z) (Nat.ne_of_lt lt)
    · rw [sz]
      exact Nat.ne_of_lt (Nat.lt_succ_of_lt lt)
  rcases Nat.eq_zero_or_pos (intItems xs).size with hz | hz
  · have hxz : xs.size = 0 := by simpa [intItems] using hz
    have hnil : ns = [] := by
      rw [← hn]
      apply List.eq_nil_of_length_eq_zero
      rw [List.length_map, Array.length_toList, hxz]
    refine wpAny_pure ⟨plainId_quiet F.plain_max_loop _, ?_⟩
    generalize hI : intItems xs = its2 at W st' hz
    rw [hz] at W
    exact mx_none W _ st' hSn fun h' tk keep => h0 hnil h' tk fun b o q => keep b o (old b o q).1 (old b o q).2.2
  · refine wpAny_pure ⟨plainId_quiet F.plain_max_loop _, mx_first W _ (CmpOf.ints_gt (numAt xs) (fun _ _ => intItems_at)) _ hSf hz st' hSn fun v h' tk hP keep => ?_⟩
    have hsz : (intItems xs).size = xs.size := by simp [intItems]
    rw [hsz] at hP hz
    have hP' : (intItems xs)[argBest (fun i j => decide (numAt xs i > numAt xs j)) (xs.size - 1)]? = some v := hP
    obtain ⟨t, rfl⟩ := intItems_at hP'
    obtain ⟨b1, b2⟩ := argBest_gt (numAt xs) (xs.size - 1)
    subst hn
    refine h1 h' tk _ t (fun b o q => keep b o (old b o q).1 (old b o q).2.1 (old b o q).2.2) ?_ fun a ha => ?_
    · rw [numAt_eq]
      exact PySem.getD_mem (by rw [List.length_map, Array.length_toList]; omega)
    · obtain ⟨j, hj, rfl⟩ := mem_getD ha
      rw [List.length_map, Array.length_toList] at hj
      rw [← numAt_eq]
      exact b2 j (by omega)
end
end SkyMx
namespace Sky
open PySem PySem.Spec PyProof.Rows L2
/-- max(xs, default=d): the greatest, or the default where there is none -/
def rMaxD (K : PySem.W.Frag) : List V → List V → Hp → VK → Prop := fun vs zs H Q => ∃ (a : Addr) (ns : List Int) (d : Int), vs = [V.ref a] ∧ zs = [.int d] ∧ SqL K H a (ns.map V.int) ∧ (ns = [] → Q (.int d) H) ∧ ∀ m, m ∈ ns → (∀ y, y ∈ ns → y ≤ m) → Q (.int m) H
theorem cr_maxD {X : Cx} (hc : X.calm = true) : CallRK X (.builtin "max") [Str.ofString "default"] (rMaxD X.K) := by
  intro pins s σ H vs zs us ws Q I r rz h
  obtain ⟨a, ns, d, rfl, rfl, hs, q0, q1⟩ := h
  obtain ⟨its, rv, hl, _⟩ := I.list hs
  rw [Vals.ref1 r]
  obtain ⟨u, rfl, ru⟩ := vals1 rz
  exact SkyMx.mx_raw (I.ok.hd hc) hl.isList rv.ints (fun e h' tk hk => ⟨.int d, H, I.kept hk, ru, q0 e⟩) fun h' tk m t' hk h1 h2 => ⟨.int m, H, I.kept hk, ⟨_, rfl⟩, q1 m h1 h2⟩
theorem maxDK {X : Cx} {K : PySem.W.Frag} (hc : X.calm = true) (e : X.K = K := by rfl) : CallRK X (.builtin "max") [Str.ofString "default"] (rMaxD K) := e ▸ cr_maxD hc
end Sky

/-! Rx: a reading brought to plain words by simp: each word of the layer as one equation; what is left is answered by the q_-lemmas. -/
namespace Sky
open PySem PySem.Spec PyProof.Rows L2
section
variable {σ : L2.St} {H : Hp} {Q : VK} {R : Bool → Hp → Prop} {RA : List V → Hp → Prop} {D : Ends} {t u : TS} {te ta tb tc : TE} {c c' : TT} {x y z : V} {r r' : R2} {i j k : Nat} {tl : TA} {K : PySem.W.Frag} {QS : L2.St → Hp → Prop} {T : String}
theorem e_seq : tSeq t u D σ H = t { D with nx := u D } σ H := rfl
theorem e_asg {gt : TG} : tAsg te gt D σ H = te σ H (fun v H1 => gt v σ H1 D.nx) := rfl
theorem e_name : gName i x σ H QS = QS (σ.set i (some x)) H := rfl
theorem e_drop : tDrop te D σ H = te σ H (fun _ H1 => D.nx σ H1) := rfl
theorem e_ret : tRet te D σ H = te σ H D.rt := rfl
theorem e_retN : tRetN D σ H = D.rt .non H := rfl
theorem e_ifs : tIfS c t u D σ H = c σ H (fun b H1 => if b = true then t D σ H1 else u D σ H1) := rfl
/-- a statement, then the rest, a word between them said once -/
def tMid (t u : TS) : TS := fun D σ H => ∃ Mid : L2.St → Hp → Prop, t { D with nx := Mid } σ H ∧ ∀ σ' H', Mid σ' H' → u D σ' H'
theorem pss_mid {X : Cx} {st : Stmt} {rest : List Stmt} {t u : TS} (h1 : PS X st t) (h2 : PSs X rest u) : PSs X (st :: rest) (tMid t u) := by
  refine ⟨fun pins s σ H D I h => ?_⟩
  obtain ⟨Mid, hm, hu⟩ := h
  refine wpAny_execs_cons (thn (h1.run pins s σ H { D with nx := Mid } I hm) fun f s1 q => ?_)
  cases f with
  | next =>
    obtain ⟨σ', H', I', q'⟩ := q
    exact h2.run pins s1 σ' H' D I' (hu σ' H' q')
  | ret v => exact q
  | brk => exact q
  | cont => exact q
theorem q_mid (Mid : L2.St → Hp → Prop) (h : t { D with nx := Mid } σ H) (k : ∀ σ' H', Mid σ' H' → u D σ' H') : tMid t u D σ H := ⟨Mid, h, k⟩
theorem e_next : tNext D σ H = D.nx σ H := rfl
theorem e_var : tVar i σ H Q = ∃ v, σ[i]? = some (some v) ∧ Q v H := rfl
theorem e_c : tC x σ H Q = Q x H := rfl
theorem e_op : tOp r ta tb σ H Q = ta σ H (fun v H1 => tb σ H1 fun w H2 => r v w H2 Q) := rfl
theorem e_un {r : V → Hp → VK → Prop} : tUn r ta σ H Q = ta σ H (fun v H1 => r v H1 Q) := rfl
theorem e_rI0 {f : Int → Int → V} {a b : Int} : rI0 f (.int a) (.int b) H Q = Q (f a b) H := by simp [rI0]
theorem e_rI {C : Int → Int → Prop} {f : Int → Int → V} {a b : Int} : rI C f (.int a) (.int b) H Q = (C a b ∧ Q (f a b) H) := by simp [rI]
theorem e_rU {f : Int → V} {a : Int} : rU f (.int a) H Q = Q (f a) H := by simp [rU]
theorem e_test : tTest te σ H R = te σ H (fun v H1 => ∃ b, v = .bl b ∧ R b H1) := rfl
theorem e_B : tB te σ H R = te σ H (fun v H1 => ∃ b, v = .bl b ∧ R b H1) := rfl
theorem e_bl {P : Bool → Prop} {b : Bool} : (∃ b', V.bl b = V.bl b' ∧ P b') = P b := by simp
theorem start_is {N : List Str} {vs : List V} {σ : L2.St} {t : TS} {D : Ends} {H : Hp} (e : L2.start N vs = σ) (h : t D σ H) : t D (L2.start N vs) H := by
  rw [e]
  exact h
theorem e_K {CX : CXT} {P : Program} {w : World} {K : PySem.W.Frag} {mg : Str → Option Value} {base : Heap} {N : List Str} {q : Str} {sc : Scope} {f : Addr} {cd : Value} {A : Around} {o : List Env} {s : Shared} {H : Hp} {E : XK} : (cxOf CX P w K mg base N q sc f cd A o s H E).K = K := rfl
theorem e_and : tAnd c c' σ H R = c σ H (fun b H1 => if b = true then c' σ H1 R else R false H1) := rfl
theorem e_or : tOr c c' σ H R = c σ H (fun b H1 => if b = true then R true H1 else c' σ H1 R) := rfl
theorem e_not : tNot c σ H R = c σ H (fun b H1 => R (!b) H1) := rfl
theorem e_andV : tAndV ta tb σ H Q = ta σ H (fun v H1 => ∃ b, v = .bl b ∧ if b = true then tb σ H1 Q else Q (.bl false) H1) := rfl
theorem e_orV : tOrV ta tb σ H Q = ta σ H (fun v H1 => ∃ b, v = .bl b ∧ if b = true then Q (.bl true) H1 else tb σ H1 Q) := rfl
theorem e_notV : tNotV ta σ H Q = ta σ H (fun v H1 => ∃ b, v = .bl b ∧ Q (.bl (!b)) H1) := rfl
theorem e_if : tIf c ta tb σ H Q = c σ H (fun b H1 => if b = true then ta σ H1 Q else tb σ H1 Q) := rfl
theorem e_CB {f : List V → Hp → VK → Prop} : tCB f tl σ H Q = tl σ H (fun vs H1 => f vs H1 Q) := rfl
theorem e_CKw {f : List V → List V → Hp → VK → Prop} {tk : TA} : tCKw f tl tk σ H Q = tl σ H (fun vs H1 => tk σ H1 fun zs H2 => f vs zs H2 Q) := rfl
theorem e_cons : tCons ta tl σ H RA = ta σ H (fun v H1 => tl σ H1 fun vs H2 => RA (v :: vs) H2) := rfl
theorem e_nil : tNil σ H RA = RA [] H := rfl
theorem e_call {sp : Sp} {dvs : List V} {E : XK} : tCall sp dvs E tl σ H Q = tl σ H (fun vs H1 => sp (vs ++ dvs) H1 Q E) := rfl
theorem e_chn {ct : V → TE} : tChn ta ct σ H Q = ta σ H (fun v H1 => ct v σ H1 Q) := rfl
theorem e_cCons {ct : V → TE} : cCons r tb ct x σ H Q = tb σ H (fun y H2 => r x y H2 fun z H3 => ∃ b, z = .bl b ∧ (if b = true then ct y σ H3 Q else Q (.bl false) H3)) := rfl
theorem e_cOne : cOne r tc x σ H Q = tc σ H (fun y H2 => r x y H2 Q) := rfl
theorem e_BM {f : V → List V → Hp → VK → Prop} : tBM K T f ta tl σ H Q = ta σ H (fun v H1 => tyV K T v H1 ∧ tl σ H1 fun vs H2 => f v vs H2 Q) := rfl
theorem e_BM0 {f : V → List V → Hp → VK → Prop} : tBM0 K T f ta σ H Q = ta σ H (fun v H1 => tyV K T v H1 ∧ f v [] H1 Q) := rfl
theorem e_sub {s : TSet} : gSub ta tb s x σ H QS = ta σ H (fun o H1 => tb σ H1 fun w H2 => s o w x H2 fun H3 => QS σ H3) := rfl
theorem e_par : tPar i j tl D σ H = tl σ H (fun vs H1 => ∃ v w, vs = [v, w] ∧ D.nx ((σ.set i (some v)).set j (some w)) H1) := rfl
theorem e_ls {f : TO} {gt : TO} {s : V → Option Int → Option Int → Hp → VK → Prop} : tSl s te f gt σ H Q = te σ H (fun v H1 => f σ H1 fun l H2 => gt σ H2 fun w H3 => s v l w H3 Q) := rfl
theorem e_noP {QO : Option Int → Hp → Prop} : tNoPart σ H QO = QO none H := rfl
theorem e_part {QO : Option Int → Hp → Prop} : tPart te σ H QO = te σ H (fun v H1 => ∃ n, v = .int n ∧ QO (some n) H1) := rfl
theorem e_intx {P : Int → Prop} {a : Int} : (∃ n, V.int a = V.int n ∧ P n) = P a := by simp
theorem e_refx {P : Addr → Prop} {a : Addr} : (∃ n, V.ref a = V.ref n ∧ P n) = P a := by simp
theorem e_yes : tYes σ H R = R true H := rfl
theorem e_get0 {α : Type} {a : α} {l : List α} : (a :: l)[0]? = some a := rfl
theorem e_getS {α : Type} {a : α} {l : List α} {n : Nat} : (a :: l)[n + 1]? = l[n]? := rfl
theorem e_sl {P : V → Prop} {v : V} : (∃ w, (some (some v) : Option (Option V)) = some (some w) ∧ P w) = P v := by simp
end
end Sky

/-! Ma: plain mathematics of bars: nearest lower ones, reaches, the shown. -/
namespace Sky
def Good (bs : List Int) : Prop := ∀ b ∈ bs, 0 ≤ b ∧ b ≤ 10000000
theorem Good.at {bs : List Int} (h : Good bs) {i : Nat} (hi : i < bs.length) : 0 ≤ g bs i ∧ g bs i ≤ 10000000 := by
  have e : g bs i = bs[i] := by simp [g, hi]
  rw [e]
  exact h _ (List.getElem_mem hi)
theorem Good.rev {bs : List Int} (h : Good bs) : Good bs.reverse := fun b hb => h b (List.mem_reverse.mp hb)
theorem g_rev {bs : List Int} {i : Nat} (hi : i < bs.length) : g bs.reverse i = g bs (bs.length - 1 - i) := by
  unfold g
  rw [List.getD_eq_getElem?_getD, List.getD_eq_getElem?_getD, List.getElem?_reverse hi]
/-- from n - 1 downwards the first place that is lower than v, or -1 -/
def down (bs : List Int) (v : Int) : Nat → Int
  | 0 => -1
  | n + 1 => if v ≤ g bs n then down bs v n else (n : Int)
theorem down_ge (bs : List Int) (v : Int) : ∀ n, -1 ≤ down bs v n
  | 0 => Int.le_refl _
  | n + 1 => by
    unfold down
    have := down_ge bs v n
    split <;> omega
theorem down_lt (bs : List Int) (v : Int) : ∀ n : Nat, down bs v n < n
  | 0 => by unfold down; omega
  | n + 1 => by
    unfold down
    have := down_lt bs v n
    split <;> omega
/-- what it is: none between is lower -/
theorem down_between (bs : List Int) (v : Int) : ∀ (n k : Nat), k < n → down bs v n < k → v ≤ g bs k
  | 0, k, h, _ => by omega
  | n + 1, k, h, h2 => by
    unfold down at h2
    by_cases c : v ≤ g bs n
    · rw [if_pos c] at h2
      by_cases e : k = n
      · subst e; exact c
      · exact down_between bs v n k (by omega) h2
    · rw [if_neg c] at h2
      omega
theorem down_low (bs : List Int) (v : Int) : ∀ (n k : Nat), down bs v n = (k : Int) → g bs k < v
  | 0, k, h => by unfold down at h; omega
  | n + 1, k, h => by
    unfold down at h
    by_cases c : v ≤ g bs n
    · rw [if_pos c] at h
      exact down_low bs v n k h
    · rw [if_neg c] at h
      have e : n = k := by omega
      subst e
      omega
theorem down_step {bs : List Int} {v : Int} {n : Nat} (h : v ≤ g bs n) : down bs v (n + 1) = down bs v n := if_pos h
theorem down_stop {bs : List Int} {v : Int} {n : Nat} (h : g bs n < v) : down bs v (n + 1) = (n : Int) := if_neg (by omega)
/-- it is told by its marks -/
theorem down_of {bs : List Int} {v : Int} {n : Nat} {d : Int} (h1 : -1 ≤ d) (h2 : d < n) (h3 : 0 ≤ d → g bs d.toNat < v) (h4 : ∀ k : Nat, d < k → k < n → v ≤ g bs k) : down bs v n = d := by
  induction n with
  | zero => unfold down; omega
  | succ n ih =>
    by_cases c : d = n
    · have := h3 (by omega)
      have e : d.toNat = n := by omega
      rw [e] at this
      rw [down_stop this, c]
    · rw [down_step (h4 n (by omega) (by omega))]
      exact ih (by omega) fun k a b => h4 k a (by omega)
def link (bs : List Int) (i : Nat) : Int := down bs (g bs i) i
def links (bs : List Int) : List Int := (List.range bs.length).map (link bs)
theorem links_len (bs : List Int) : (links bs).length = bs.length := by simp [links]
theorem links_at {bs : List Int} {i : Nat} (h : i < bs.length) : (links bs).getD i 0 = link bs i := by simp [links, h]
theorem take_map_range {α : Type} (f : Nat → α) : ∀ {n i : Nat}, i < n → ((List.range n).map f).take (i + 1) = ((List.range n).map f).take i ++ [f i] := fun {n i} h => by
  rw [List.take_add_one, List.getElem?_map, List.getElem?_range h]
  rfl
theorem take_map_all {α : Type} (f : Nat → α) (n : Nat) : ((List.range n).map f).take n = (List.range n).map f := List.take_of_length_le (by simp)
/-! ### the stack -/
def hd : List Nat → Int
  | [] => -1
  | j :: _ => (j : Int)
def pop (bs : List Int) (v : Int) (st : List Nat) : List Nat := st.dropWhile fun j => decide (v ≤ g bs j)
theorem pop_nil (bs : List Int) (v : Int) : pop bs v [] = [] := rfl
theorem pop_yes {bs : List Int} {v : Int} {j : Nat} {st : List Nat} (h : v ≤ g bs j) : pop bs v (j :: st) = pop bs v st := by simp [pop, List.dropWhile_cons, h]
theorem pop_no {bs : List Int} {v : Int} {j : Nat} {st : List Nat} (h : g bs j < v) : pop bs v (j :: st) = j :: st := by
  have : ¬ v ≤ g bs j := by omega
  simp [pop, List.dropWhile_cons, this]
theorem pop_sub (bs : List Int) (v : Int) : ∀ (st : List Nat) {j : Nat}, j ∈ pop bs v st → j ∈ st
  | [], j, h => by simp [pop] at h
  | k :: st, j, h => by
    by_cases c : v ≤ g bs k
    · rw [pop_yes c] at h
      exact List.mem_cons_of_mem _ (pop_sub bs v st h)
    · rw [pop_no (by omega)] at h
      exact h
theorem pop_pop {bs : List Int} {v u : Int} (h : v ≤ u) : ∀ st : List Nat, pop bs v (pop bs u st) = pop bs v st
  | [] => rfl
  | k :: st => by
    by_cases c : u ≤ g bs k
    · rw [pop_yes c, pop_yes (by omega : v ≤ g bs k)]
      exact pop_pop h st
    · rw [pop_no (show g bs k < u by omega)]
structure SInv (bs : List Int) (i : Nat) (st : List Nat) : Prop where
  dn : ∀ v, down bs v i = hd (pop bs v st)
  lt : ∀ j ∈ st, j < i
theorem sinv0 (bs : List Int) : SInv bs 0 [] := ⟨fun _ => rfl, by simp⟩
theorem SInv.step {bs : List Int} {i : Nat} {st : List Nat} (h : SInv bs i st) : SInv bs (i + 1) (i :: pop bs (g bs i) st) := by
  refine ⟨fun v => ?_, fun j hj => ?_⟩
  · by_cases c : v ≤ g bs i
    · rw [down_step c, pop_yes c, pop_pop c]
      exact h.dn v
    · rw [down_stop (by omega), pop_no (by omega)]
      rfl
  · rcases List.mem_cons.mp hj with e | e
    · omega
    · have := h.lt j (pop_sub _ _ _ e)
      omega
/-- the stack as a list, its top last -/
def stI (st : List Nat) : List Int := st.reverse.map fun (n : Nat) => (n : Int)
theorem stI_cons (j : Nat) (st : List Nat) : stI (j :: st) = stI st ++ [(j : Int)] := by simp [stI]
theorem stI_nil : stI [] = [] := rfl
theorem stI_len (st : List Nat) : (stI st).length = st.length := by simp [stI]
theorem stI_cons_ne (j : Nat) (st : List Nat) : stI (j :: st) ≠ [] := by simp [stI]
/-! ### behind -/
def behind (bs : List Int) (i : Nat) : Int := (bs.length : Int) - 1 - link bs.reverse (bs.length - 1 - i)
def behinds (bs : List Int) : List Int := (List.range bs.length).map (behind bs)
theorem behinds_len (bs : List Int) : (behinds bs).length = bs.length := by simp [behinds]
theorem behinds_at {bs : List Int} {i : Nat} (h : i < bs.length) : (behinds bs).getD i 0 = behind bs i := by simp [behinds, h]
theorem behinds_eq (bs : List Int) : ((links bs.reverse).map fun p => (bs.length : Int) - 1 - p).reverse = behinds bs := by
  apply List.ext_getElem?
  intro i
  by_cases h : i < bs.length
  · rw [List.getElem?_reverse (by simpa [links] using h)]
    simp only [links, behinds, List.length_map, List.length_range, List.length_reverse, List.getElem?_map]
    rw [List.getElem?_range (by omega), List.getElem?_range h]
    rfl
  · rw [List.getElem?_eq_none (by simp [links]; omega), List.getElem?_eq_none (by simp [behinds]; omega)]
def reach (bs : List Int) (i : Nat) : Int × Int := (link bs i + 1, behind bs i - 1)
def reachL (bs : List Int) : List (Int × Int) := (List.range bs.length).map (reach bs)
theorem reachL_len (bs : List Int) : (reachL bs).length = bs.length := by simp [reachL]
/-- reaches of the bars told backwards -/
theorem reach_rev {bs : List Int} {i : Nat} (h : i < bs.length) : reach bs.reverse i = ((bs.length : Int) - 1 - (reach bs (bs.length - 1 - i)).2, (bs.length : Int) - 1 - (reach bs (bs.length - 1 - i)).1) := by
  unfold reach behind
  simp only [List.length_reverse, List.reverse_reverse]
  have e : bs.length - 1 - (bs.length - 1 - i) = i := by omega
  rw [e]
  refine Prod.ext ?_ ?_ <;> simp only <;> omega
theorem reachL_rev (bs : List Int) : reachL bs.reverse = (reachL bs).reverse.map fun p => ((bs.length : Int) - 1 - p.2, (bs.length : Int) - 1 - p.1) := by
  apply List.ext_getElem?
  intro i
  by_cases h : i < bs.length
  · rw [List.getElem?_map, List.getElem?_reverse (by simpa [reachL] using h)]
    simp only [reachL, List.length_map, List.length_range, List.length_reverse, List.getElem?_map]
    rw [List.getElem?_range h, List.getElem?_range (by omega)]
    show some (reach bs.reverse i) = _
    rw [reach_rev h]
    rfl
  · rw [List.getElem?_eq_none (by simp [reachL]; omega), List.getElem?_eq_none (by simp [reachL]; omega)]
/-- bounds of a reach -/
theorem link_lt (bs : List Int) (i : Nat) : link bs i < i := down_lt _ _ _
theorem link_ge (bs : List Int) (i : Nat) : -1 ≤ link bs i := down_ge _ _ _
theorem behind_gt {bs : List Int} {i : Nat} (h : i < bs.length) : (i : Int) < behind bs i := by
  have := link_lt bs.reverse (bs.length - 1 - i)
  unfold behind
  omega
theorem behind_le {bs : List Int} (i : Nat) : behind bs i ≤ bs.length := by
  have := link_ge bs.reverse (bs.length - 1 - i)
  unfold behind
  omega
/-! ### the highest so far (-1 ahead of the first) -/
def pmax (bs : List Int) : Nat → Int
  | 0 => -1
  | n + 1 => if pmax bs n < g bs n then g bs n else pmax bs n
def shownL (bs : List Int) (n : Nat) : List Int := ((List.range n).filter fun i => decide (pmax bs i < g bs i)).map fun (i : Nat) => (i : Int)
theorem shown_yes {bs : List Int} {n : Nat} (h : pmax bs n < g bs n) : shownL bs (n + 1) = shownL bs n ++ [(n : Int)] := by
  unfold shownL
  rw [List.range_succ, List.filter_append, List.map_append]
  simp [h]
theorem shown_no {bs : List Int} {n : Nat} (h : ¬ pmax bs n < g bs n) : shownL bs (n + 1) = shownL bs n := by
  unfold shownL
  rw [List.range_succ, List.filter_append, List.map_append]
  simp [h]
theorem shown_len (bs : List Int) : ∀ n, (shownL bs n).length ≤ n
  | 0 => Nat.le_refl _
  | n + 1 => by
    have := shown_len bs n
    by_cases h : pmax bs n < g bs n
    · rw [shown_yes h, List.length_append]
      simp
      omega
    · rw [shown_no h]
      omega
theorem pmax_ge (bs : List Int) : ∀ n, -1 ≤ pmax bs n
  | 0 => Int.le_refl _
  | n + 1 => by
    have := pmax_ge bs n
    unfold pmax
    split <;> omega
theorem pmax_all (bs : List Int) : ∀ n k, k < n → g bs k ≤ pmax bs n
  | 0, k, h => by omega
  | n + 1, k, h => by
    unfold pmax
    by_cases e : k = n
    · subst e
      split <;> omega
    · have := pmax_all bs n k (by omega)
      split <;> omega
theorem pmax_is (bs : List Int) : ∀ n, pmax bs n = -1 ∨ ∃ k, k < n ∧ pmax bs n = g bs k
  | 0 => .inl rfl
  | n + 1 => by
    unfold pmax
    split
    · exact .inr ⟨n, by omega, rfl⟩
    · rcases pmax_is bs n with h | ⟨k, h1, h2⟩
      · exact .inl h
      · exact .inr ⟨k, by omega, h2⟩
/-- the greatest of the first n, as max(.., default=-1) tells it -/
theorem pmax_of {bs : List Int} (hg : Good bs) {n : Nat} (hn : n ≤ bs.length) {m : Int} (h1 : m ∈ bs.take n) (h2 : ∀ y ∈ bs.take n, y ≤ m) : m = pmax bs n := by
  obtain ⟨k, hk, e⟩ := List.getElem_of_mem h1
  rw [List.length_take] at hk
  rw [List.getElem_take] at e
  have e1 : g bs k = m := by simp [g, show k < bs.length by omega, e]
  have a := pmax_all bs n k (by omega)
  have hm := hg.at (show k < bs.length by omega)
  rcases pmax_is bs n with h | ⟨j, hj, h⟩
  · omega
  · have hj2 : j < bs.length := by omega
    have mem : g bs j ∈ bs.take n := by
      have : bs[j] ∈ bs.take n := by
        rw [List.mem_take_iff_getElem]
        exact ⟨j, by omega, rfl⟩
      simpa [g, hj2] using this
    have := h2 _ mem
    omega
theorem g_map {f : Nat → Int} {n i : Nat} (h : i < n) : g ((List.range n).map f) i = f i := by simp [g, h]
end Sky

/-! Rq: the answers: one lemma for what is left at each operation; loops; comprehensions. -/
namespace Sky
open PySem PySem.Spec PyProof.Rows L2
def rNewL : List V → Hp → VK → Prop := fun vs H Q => vs.length ≤ sizeLine ∧ ∀ p, H p = none → Q (.ref p) (upd H p (.lst vs))
def rNewT : List V → Hp → VK → Prop := fun vs H Q => vs.length ≤ sizeLine ∧ ∀ p, H p = none → Q (.ref p) (upd H p (.tup vs))
section
variable {σ : L2.St} {H : Hp} {Q : VK} {tl : TA} {K : PySem.W.Frag} {te : TE}
theorem e_lst : tLst tl σ H Q = tl σ H (fun vs H1 => rNewL vs H1 Q) := rfl
theorem e_tup : tTup tl σ H Q = tl σ H (fun vs H1 => rNewT vs H1 Q) := rfl
theorem e_rev : tRevL K te σ H Q = te σ H (fun x H1 => ∃ a, x = .ref a ∧ ∃ xs, SqL K H1 a xs ∧ ∀ p, H1 p = none → Q (.ref p) (upd H1 p (.lst xs.reverse))) := by
  unfold tRevL
  congr 1
  funext x H1
  apply propext
  constructor
  · rintro ⟨a, xs, h1, h2, h3⟩; exact ⟨a, h1, xs, h2, h3⟩
  · rintro ⟨a, h1, xs, h2, h3⟩; exact ⟨a, xs, h1, h2, h3⟩
end
/-- tuples stand for ever -/
def Tk (H H' : Hp) : Prop := ∀ b xs, H b = some (.tup xs) → H' b = some (.tup xs)
theorem same_tk {H H' : Hp} (s : Same H H') : Tk H H' := fun b xs e => s b _ e
theorem Tk.trans {H H1 H2 : Hp} (a : Tk H H1) (b : Tk H1 H2) : Tk H H2 := fun c xs e => b c xs (a c xs e)
theorem tk_upd {H : Hp} {p : Addr} {xs ys : List V} (h : H p = some (.lst xs)) : Tk H (upd H p (.lst ys)) := fun b zs e => by
  rw [upd_ne (ne_of e h (by intro z; cases z))]
  exact e
section
variable {σ : L2.St} {H : Hp} {Q : VK} {K : PySem.W.Frag} {a b p : Addr} {l m : List Int} {xs : List V} {i : Int} {j : Nat} {x y : V}
theorem q_newL (q : ∀ p, H p = none → Q (.ref p) (upd H p (.lst xs))) (h : xs.length ≤ 100000 := by simp) : rNewL xs H Q := ⟨sz_of h, q⟩
theorem q_newT (q : ∀ p, H p = none → Q (.ref p) (upd H p (.tup xs))) (h : xs.length ≤ 100000 := by simp) : rNewT xs H Q := ⟨sz_of h, q⟩
/-- compared with a new [] -/
theorem q_neN (h : SqL K H a (ivs l)) (q : ∀ H', Same H H' → Q (.bl (!decide (l = []))) H') : rNewL [] H fun x H1 => rNeD K (.ref a) x H1 Q :=
  ⟨sz_of (by decide), fun p np => q_neL (m := []) ((same_new np).seq h) (SqL.of upd_same) (q _ (same_new np))⟩
theorem q_eqN (h : SqL K H a (ivs l)) (q : ∀ H', Same H H' → Q (.bl (decide (l = []))) H') : rNewL [] H fun x H1 => rEqD K (.ref a) x H1 Q :=
  ⟨sz_of (by decide), fun p np => q_eqL (m := []) ((same_new np).seq h) (SqL.of upd_same) (q _ (same_new np))⟩
theorem q_ixL (h : SqL K H a (ivs l)) (e : i = (j : Int)) (hj : j < l.length) (q : Q (.int (g l j)) H) : rIxL K (.ref a) (.int i) H Q := ⟨a, _, i, _, rfl, rfl, h, at_ivs e hj, q⟩
theorem q_ix1 (h : SqL K H a (ivs (l ++ [i]))) (q : Q (.int i) H) : rIxL K (.ref a) (.int (-1)) H Q :=
  ⟨a, _, -1, _, rfl, rfl, h, by rw [show ivs (l ++ [i]) = ivs l ++ [V.int i] by simp [ivs]]; exact atI_last _ _, q⟩
theorem q_ixV (h : SqL K H a xs) (e : i = (j : Int)) (hx : xs[j]? = some x) (q : Q x H) : rIxL K (.ref a) (.int i) H Q := ⟨a, _, i, _, rfl, rfl, h, at_of e hx, q⟩
theorem q_ixT (h : SqT K H a xs) (e : i = (j : Int)) (hx : xs[j]? = some x) (q : Q x H) : rIxT K (.ref a) (.int i) H Q := ⟨a, _, i, _, rfl, rfl, h, at_of e hx, q⟩
theorem q_len (h : SqL K H a xs) (q : Q (.int (xs.length : Nat)) H) : rLenK K [.ref a] H Q := ⟨a, _, rfl, .inl h, q⟩
theorem q_lenI (h : SqL K H a (ivs l)) (q : Q (.int (l.length : Nat)) H) : rLenK K [.ref a] H Q := ⟨a, _, rfl, .inl h, by rw [len_ivs]; exact q⟩
theorem q_list (h : SqL K H a xs) (q : ∀ p, H p = none → Q (.ref p) (upd H p (.lst xs))) : rListK K [.ref a] H Q := ⟨a, _, rfl, .inl h, q⟩
theorem q_listT (h : SqT K H a xs) (q : ∀ p, H p = none → Q (.ref p) (upd H p (.lst xs))) : rListK K [.ref a] H Q := ⟨a, _, rfl, .inr h, q⟩
theorem q_app (h : H a = some (.lst xs)) (hz : xs.length < 100000) (q : Q .non (upd H a (.lst (xs ++ [y])))) : tyV K "list" (.ref a) H ∧ rAppend (.ref a) [y] H Q := ⟨.inl ⟨rfl, _, SqL.of h⟩, a, xs, y, rfl, rfl, h, sz_lt hz, q⟩
theorem q_pop (h : H a = some (.lst (xs ++ [y]))) (q : Q y (upd H a (.lst xs))) : tyV K "list" (.ref a) H ∧ rPop (.ref a) [] H Q :=
  ⟨.inl ⟨rfl, _, SqL.of h⟩, a, xs ++ [y], y, rfl, rfl, h, by simp, by rw [List.dropLast_concat]; exact q⟩
theorem q_sum (h : SqL K H a (ivs l)) (q : Q (.int l.sum) H) : rSum K [.ref a] H Q := ⟨a, l, rfl, h, q⟩
theorem q_max (h : SqL K H a (ivs l)) (hl : 0 < l.length) (q : ∀ m, m ∈ l → (∀ y, y ∈ l → y ≤ m) → Q (.int m) H) : rMax K [.ref a] H Q := ⟨a, l, rfl, h, hl, q⟩
theorem q_min (h : SqL K H a (ivs l)) (hl : 0 < l.length) (q : ∀ m, m ∈ l → (∀ y, y ∈ l → m ≤ y) → Q (.int m) H) : rMin K [.ref a] H Q := ⟨a, l, rfl, h, hl, q⟩
theorem q_maxD {d : Int} (h : SqL K H a (ivs l)) (q0 : l = [] → Q (.int d) H) (q : ∀ m, m ∈ l → (∀ y, y ∈ l → y ≤ m) → Q (.int m) H) : rMaxD K [.ref a] [.int d] H Q := ⟨a, l, d, rfl, rfl, h, q0, q⟩
theorem q_all {bs : List Bool} (h : SqL K H a (bs.map V.bl)) (q : Q (.bl (bs.all id)) H) : rAll K [.ref a] H Q := ⟨a, bs, rfl, h, q⟩
theorem q_any {bs : List Bool} (h : SqL K H a (bs.map V.bl)) (q : Q (.bl (bs.any id)) H) : rAny K [.ref a] H Q := ⟨a, bs, rfl, h, q⟩
theorem q_setL {QS : Hp → Prop} (h : H a = some (.lst xs)) (e : i = (j : Int)) (hj : j < xs.length) (q : QS (upd H a (.lst (xs.set j x)))) : rSetL (.ref a) (.int i) x H QS :=
  ⟨a, xs, i, j, rfl, rfl, h, by rw [e]; unfold ixN; rw [if_pos (by omega), if_pos (by omega)]; simp, q⟩
end
/-! ### loops -/
section
variable {σ : L2.St} {H : Hp} {K : PySem.W.Frag} {a : Addr} {xs : List V} {tl : TA} {te : TE} {tb : TS} {D : Ends} {j k : Nat} {c : TT}
theorem q_forE (ha : ∀ R, R [V.ref a] H → tl σ H R) (Pv : Nat → L2.St → Hp → Prop) (h0 : Pv 0 σ H) (hq : ∀ i σ H, Pv i σ H → SqL K H a xs)
    (hs : ∀ (i : Nat) (x : V) (σ : L2.St) (H H' : Hp), xs[i]? = some x → Pv i σ H → Same H H' → tb { D with nx := Pv (i + 1), ct := Pv (i + 1), bk := D.nx } ((σ.set j (some (.int (i : Int)))).set k (some x)) H') (hd : ∀ σ H, Pv xs.length σ H → D.nx σ H) :
    tFor (iEnum K tl) (g2 K j k) tb D σ H := ha _ ⟨a, xs, rfl, hq 0 σ H h0, for_enum2 Pv h0 hq hs hd⟩
theorem q_forL (ha : ∀ R : VK, R (V.ref a) H → te σ H R) (Pv : Nat → L2.St → Hp → Prop) (h0 : Pv 0 σ H) (hq : ∀ i σ H, Pv i σ H → SqL K H a xs)
    (hs : ∀ (i : Nat) (x : V) (σ : L2.St) (H : Hp), xs[i]? = some x → Pv i σ H → tb { D with nx := Pv (i + 1), ct := Pv (i + 1), bk := D.nx } (σ.set j (some x)) H) (hd : ∀ σ H, Pv xs.length σ H → D.nx σ H) :
    tFor (iList K te) (gName j) tb D σ H := ha _ ⟨a, rfl, ⟨xs, hq 0 σ H h0⟩, for_list Pv h0 (fun i σ H _ p => hq i σ H p) hs hd⟩
theorem q_forR {n : Nat} (ha : ∀ R, R [V.int (n : Int)] H → tl σ H R) (hn : n ≤ 100000) (Pv : Nat → L2.St → Hp → Prop) (h0 : Pv 0 σ H)
    (hs : ∀ (i : Nat) (σ : L2.St) (H : Hp), i < n → Pv i σ H → tb { D with nx := Pv (i + 1), ct := Pv (i + 1), bk := D.nx } (σ.set j (some (.int (i : Int)))) H) (hd : ∀ σ H, Pv n σ H → D.nx σ H) :
    tFor (iRng1 tl) (gName j) tb D σ H := ha _ ⟨n, rfl, by omega, by omega, by
      rw [Int.toNat_natCast]
      exact for_range (lo := 0) (n := n) Pv h0 (fun i σ' H' hi p => by
        show tb { D with nx := Pv (i + 1), ct := Pv (i + 1), bk := D.nx } (σ'.set j (some (.int ((0 : Int) + (i : Int))))) H'
        rw [Int.zero_add]
        exact hs i σ' H' hi p) hd⟩
theorem q_forR2 {lo n : Nat} (ha : ∀ R, R [V.int (lo : Int), V.int (n : Int)] H → tl σ H R) (hn : lo ≤ n ∧ n ≤ 100000) (Pv : Nat → L2.St → Hp → Prop) (h0 : Pv lo σ H)
    (hs : ∀ (i : Nat) (σ : L2.St) (H : Hp), lo ≤ i → i < n → Pv i σ H → tb { D with nx := Pv (i + 1), ct := Pv (i + 1), bk := D.nx } (σ.set j (some (.int (i : Int)))) H) (hd : ∀ σ H, Pv n σ H → D.nx σ H) :
    tFor (iRng2 tl) (gName j) tb D σ H := ha _ ⟨lo, n, rfl, ⟨by omega, by omega, by omega, by omega⟩, by
      have e : ((n : Int) - (lo : Int)).toNat = n - lo := by omega
      rw [e]
      exact for_range (lo := (lo : Int)) (n := n - lo) (fun i => Pv (lo + i)) h0 (fun i σ' H' hi p => by
        show tb { D with nx := Pv (lo + i + 1), ct := Pv (lo + i + 1), bk := D.nx } (σ'.set j (some (.int ((lo : Int) + (i : Int))))) H'
        rw [show (lo : Int) + (i : Int) = ((lo + i : Nat) : Int) by omega]
        exact hs (lo + i) σ' H' (by omega) (by omega) p) (fun σ' H' p => by
          have p : Pv (lo + (n - lo)) σ' H' := p
          rw [show lo + (n - lo) = n by omega] at p
          exact hd σ' H' p)⟩
theorem q_while (W : Nat → L2.St → Hp → Prop) (h0 : ∃ m, W m σ H) (hs : ∀ m σ H, W m σ H → c σ H fun b H1 => if b = true then ∃ N : L2.St → Hp → Prop, (∀ σ' H', N σ' H' → ∃ m', m' < m ∧ W m' σ' H') ∧ tb { D with nx := N, ct := N, bk := D.nx } σ H1 else D.nx σ H1) : tWhile c tb D σ H := ⟨W, h0, hs⟩
end
/-! ### comprehensions: P tells of the i-th value -/
section
variable {σ : L2.St} {H : Hp} {K : PySem.W.Frag} {a b : Addr} {xs ys : List V} {tl : TA} {tx te : TE} {Q : VK} {j k : Nat} {vs : List Nat} {gt : TG}
/-- what stands of the list at D behind i turns -/
def Lc (P : Nat → V → Hp → Prop) (H : Hp) (D : Addr) (i : Nat) (H' : Hp) : Prop := H D = none ∧ Same H H' ∧ ∃ acc, H' D = some (.lst acc) ∧ acc.length = i ∧ ∀ m v, acc[m]? = some v → P m v H'
theorem lc_zero (P : Nat → V → Hp → Prop) {D : Addr} (h : H D = none) : Lc P H D 0 (upd H D (.lst [])) := ⟨h, same_new h, [], upd_same, rfl, fun m v e => by simp at e⟩
theorem lc_more {P : Nat → V → Hp → Prop} (mono : ∀ i v H1 H2, P i v H1 → Tk H1 H2 → P i v H2) {D : Addr} {i : Nat} {H1 H2 : Hp} {y : V} (h : Lc P H D i H1) (hi : i < 100000) (s : Same H1 H2) (p : P i y H2) :
    ∃ acc, H2 D = some (.lst acc) ∧ acc.length < sizeLine ∧ Lc P H D (i + 1) (upd H2 D (.lst (acc ++ [y]))) := by
  obtain ⟨h1, h2, acc, h3, h4, h5⟩ := h
  have e := s _ _ h3
  have tk := tk_upd (ys := acc ++ [y]) e
  refine ⟨acc, e, by rw [h4]; exact sz_lt hi, h1, same_mut (h2.trans s) h1, acc ++ [y], upd_same, by rw [List.length_append, h4]; rfl, fun m v hm => ?_⟩
  by_cases c : m < i
  · rw [List.getElem?_append_left (by omega)] at hm
    exact mono _ _ _ _ (h5 m v hm) (Tk.trans (same_tk s) tk)
  · have e2 : m = i := by
      have := (List.getElem?_eq_some_iff.mp hm).1
      rw [List.length_append, h4] at this
      simp at this
      omega
    subst e2
    rw [List.getElem?_append_right (by omega), h4] at hm
    simp at hm
    subst hm
    exact mono _ _ _ _ p tk
abbrev LcEnd (P : Nat → V → Hp → Prop) (H : Hp) (n : Nat) (Q : VK) : Prop := ∀ D H' acc, H D = none → Same H H' → H' D = some (.lst acc) → acc.length = n → (∀ i v, acc[i]? = some v → P i v H') → Q (.ref D) H'
theorem q_lcR {n : Nat} (P : Nat → V → Hp → Prop) (ha : ∀ R, R [V.int (n : Int)] H → tl σ H R) (hn : n ≤ 50000) (hw : ∀ x, wipe ((wipe σ vs).set j (some x)) vs = wipe σ vs) (mono : ∀ i v H1 H2, P i v H1 → Tk H1 H2 → P i v H2)
    (he : ∀ (i : Nat) (H' : Hp) (Q' : VK), i < n → Same H H' → (∀ v H'', Same H' H'' → P i v H'' → Q' v H'') → te ((wipe σ vs).set j (some (.int (i : Int)))) H' Q') (q : LcEnd P H n Q) :
    tLc (iRng1 tl) (gName j) tYes te vs σ H Q := ha _ ⟨n, rfl, by omega, by omega, fun D hD => by
      rw [Int.toNat_natCast]
      refine lc_range (lo := 0) (n := n) (Lc P H D) (lc_zero P hD) (fun i H' hi p => ?_) (fun H' p => ?_)
      · show wipe ((wipe σ vs).set j (some (.int ((0 : Int) + (i : Int))))) vs = wipe σ vs ∧ tYes ((wipe σ vs).set j (some (.int ((0 : Int) + (i : Int))))) H' fun b H3 => if b = true then te ((wipe σ vs).set j (some (.int ((0 : Int) + (i : Int))))) H3 fun y H4 => ∃ acc, H4 D = some (.lst acc) ∧ acc.length < sizeLine ∧ Lc P H D (i + 1) (upd H4 D (.lst (acc ++ [y]))) else Lc P H D (i + 1) H3
        rw [Int.zero_add]
        refine ⟨hw _, ?_⟩
        simp only [e_yes, if_true]
        exact he i H' _ hi p.2.1 fun v H'' s pv => lc_more mono p (by omega) s pv
      · obtain ⟨h1, h2, acc, h3, h4, h5⟩ := p
        exact q D H' acc h1 h2 h3 h4 h5⟩
theorem q_lcL (P : Nat → V → Hp → Prop) (ha : ∀ R : VK, R (V.ref a) H → tx σ H R) (hx : SqL K H a xs) (hn : xs.length ≤ 50000) (hw : ∀ x, wipe ((wipe σ vs).set j (some x)) vs = wipe σ vs) (mono : ∀ i v H1 H2, P i v H1 → Tk H1 H2 → P i v H2)
    (he : ∀ (i : Nat) (x : V) (H' : Hp) (Q' : VK), xs[i]? = some x → Same H H' → (∀ v H'', Same H' H'' → P i v H'' → Q' v H'') → te ((wipe σ vs).set j (some x)) H' Q') (q : LcEnd P H xs.length Q) :
    tLc (iList K tx) (gName j) tYes te vs σ H Q := ha _ ⟨a, rfl, ⟨xs, hx⟩, fun D hD => by
      refine lc_list (xs := xs) (Lc P H D) (lc_zero P hD) (fun i H' _ p => p.2.1.seq hx) (fun i x H' hi p => ?_) (fun H' p => ?_)
      · have lt := (List.getElem?_eq_some_iff.mp hi).1
        refine ⟨hw _, ?_⟩
        simp only [e_yes, if_true, e_name]
        exact he i x H' _ hi p.2.1 fun v H'' s pv => lc_more mono p (by omega) s pv
      · obtain ⟨h1, h2, acc, h3, h4, h5⟩ := p
        exact q D H' acc h1 h2 h3 h4 h5⟩
/-- over a list that is made for it -/
theorem q_lcN {xs : List V} (P : Nat → V → Hp → Prop) (ha : ∀ R : VK, (∀ b H1, H b = none → Same H H1 → H1 b = some (.lst xs) → R (V.ref b) H1) → tx σ H R) (hn : xs.length ≤ 50000) (hw : ∀ x, wipe ((wipe σ vs).set j (some x)) vs = wipe σ vs) (mono : ∀ i v H1 H2, P i v H1 → Tk H1 H2 → P i v H2)
    (he : ∀ (i : Nat) (x : V) (H' : Hp) (Q' : VK), xs[i]? = some x → Same H H' → (∀ v H'', Same H' H'' → P i v H'' → Q' v H'') → te ((wipe σ vs).set j (some x)) H' Q') (q : LcEnd P H xs.length Q) :
    tLc (iList K tx) (gName j) tYes te vs σ H Q := ha _ fun b H1 nb s1 hb => ⟨b, rfl, ⟨xs, SqL.of hb⟩, fun D hD => by
      refine lc_list (xs := xs) (Lc P H1 D) (lc_zero P hD) (fun i H' _ p => p.2.1.seq (SqL.of hb)) (fun i x H' hi p => ?_) (fun H' p => ?_)
      · have lt := (List.getElem?_eq_some_iff.mp hi).1
        refine ⟨hw _, ?_⟩
        simp only [e_yes, if_true, e_name]
        exact he i x H' _ hi (s1.trans p.2.1) fun v H'' s pv => lc_more mono p (by omega) s pv
      · obtain ⟨h1, h2, acc, h3, h4, h5⟩ := p
        exact q D H' acc (s1.free h1) (s1.trans h2) h3 h4 h5⟩
end
/-- the values told one by one -/
theorem acc_ivs {acc : List V} {n : Nat} {f : Nat → Int} (hl : acc.length = n) (h : ∀ i v, acc[i]? = some v → v = V.int (f i)) : acc = ivs ((List.range n).map f) := by
  apply List.ext_getElem?
  intro i
  by_cases c : i < n
  · rw [List.getElem?_eq_getElem (by omega)]
    have := h i acc[i] (List.getElem?_eq_getElem (by omega))
    rw [this]
    simp [ivs, c]
  · rw [List.getElem?_eq_none (by omega), List.getElem?_eq_none (by simp [ivs]; omega)]
theorem acc_bls {acc : List V} {n : Nat} {f : Nat → Bool} (hl : acc.length = n) (h : ∀ i v, acc[i]? = some v → v = V.bl (f i)) : acc = ((List.range n).map f).map V.bl := by
  apply List.ext_getElem?
  intro i
  by_cases c : i < n
  · rw [List.getElem?_eq_getElem (by omega)]
    have := h i acc[i] (List.getElem?_eq_getElem (by omega))
    rw [this]
    simp [c]
  · rw [List.getElem?_eq_none (by omega), List.getElem?_eq_none (by simp; omega)]
end Sky
/-! ### lists of pairs of whole numbers -/
namespace Sky
open PySem PySem.Spec PyProof.Rows L2
def PrAt (ab : Int × Int) (v : V) (H : Hp) : Prop := ∃ t, v = .ref t ∧ H t = some (.tup [.int ab.1, .int ab.2])
theorem PrAt.mono {ab : Int × Int} {v : V} {H H' : Hp} (h : PrAt ab v H) (k : Tk H H') : PrAt ab v H' := by
  obtain ⟨t, e, h⟩ := h
  exact ⟨t, e, k _ _ h⟩
inductive Prs (H : Hp) : List (Int × Int) → List V → Prop
  | nil : Prs H [] []
  | cons {ab : Int × Int} {v : V} {l : List (Int × Int)} {vs : List V} : PrAt ab v H → Prs H l vs → Prs H (ab :: l) (v :: vs)
theorem Prs.mono {H H' : Hp} (k : Tk H H') : ∀ {l : List (Int × Int)} {vs : List V}, Prs H l vs → Prs H' l vs
  | _, _, .nil => .nil
  | _, _, .cons a r => .cons (a.mono k) (Prs.mono k r)
theorem Prs.len {H : Hp} : ∀ {l : List (Int × Int)} {vs : List V}, Prs H l vs → vs.length = l.length
  | _, _, .nil => rfl
  | _, _, .cons _ r => congrArg Nat.succ (Prs.len r)
theorem Prs.at {H : Hp} {l : List (Int × Int)} {vs : List V} (p : Prs H l vs) : ∀ {i : Nat} {v : V}, vs[i]? = some v → ∃ ab, l[i]? = some ab ∧ PrAt ab v H := by
  induction p with
  | nil => intro i v h; simp at h
  | cons a r ih =>
    intro i v h
    cases i with
    | zero =>
      simp at h
      subst h
      exact ⟨_, rfl, a⟩
    | succ i =>
      obtain ⟨ab, h1, h2⟩ := ih (i := i) (v := v) (by simpa using h)
      exact ⟨ab, by simpa using h1, h2⟩
theorem Prs.app {H : Hp} {ab : Int × Int} {v : V} (a : PrAt ab v H) : ∀ {l : List (Int × Int)} {vs : List V}, Prs H l vs → Prs H (l ++ [ab]) (vs ++ [v])
  | _, _, .nil => .cons a .nil
  | _, _, .cons b r => .cons b (Prs.app a r)
theorem Prs.rev {H : Hp} : ∀ {l : List (Int × Int)} {vs : List V}, Prs H l vs → Prs H l.reverse vs.reverse
  | _, _, .nil => .nil
  | _, _, .cons a r => by
    rw [List.reverse_cons, List.reverse_cons]
    exact Prs.app a (Prs.rev r)
theorem Prs.of {H : Hp} {f : Nat → Int × Int} : ∀ {n : Nat} {vs : List V}, vs.length = n → (∀ i v, vs[i]? = some v → PrAt (f i) v H) → Prs H ((List.range n).map f) vs := by
  intro n
  induction n with
  | zero =>
    intro vs hl _
    have e : vs = [] := List.eq_nil_of_length_eq_zero hl
    subst e
    exact .nil
  | succ n ih =>
    intro vs hl h
    have hne : vs ≠ [] := by
      intro e
      subst e
      simp at hl
    obtain ⟨ini, la, rfl⟩ : ∃ ini la, vs = ini ++ [la] := ⟨_, _, (List.dropLast_concat_getLast hne).symm⟩
    have l2 : ini.length = n := by simpa using hl
    rw [List.range_succ, List.map_append]
    refine Prs.app ?_ (ih l2 fun i v hv => ?_)
    · refine h n la ?_
      rw [List.getElem?_append_right (by omega)]
      simp [l2]
    · have lt := (List.getElem?_eq_some_iff.mp hv).1
      refine h i v ?_
      rw [List.getElem?_append_left lt]
      exact hv
def prd (p : Int × Int) : PyData := .tuple [.int p.1, .int p.2]
theorem prd_lay : ∀ l : List (Int × Int), PyData.canLayAll0 (l.map prd) = true
  | [] => rfl
  | p :: r => by simp [PyData.canLayAll0, PyData.canLay0, prd, prd_lay r]
theorem prd_depth : ∀ l : List (Int × Int), PyData.depthAll (l.map prd) ≤ 1
  | [] => by simp [PyData.depthAll]
  | p :: r => by
    have := prd_depth r
    simp only [List.map_cons, PyData.depthAll, prd, PyData.depth]
    omega
theorem prd_shaped (l : List (Int × Int)) : SeqAt.shaped (.list (l.map prd)) = true := by
  have d := prd_depth l
  have d2 : PyData.depth (.list (l.map prd)) ≤ 64 := by
    simp only [PyData.depth]
    omega
  have d3 : PyData.canLay0 (.list (l.map prd)) = true := by
    simp only [PyData.canLay0]
    exact prd_lay l
  unfold SeqAt.shaped
  rw [d3, decide_eq_true d2]
  rfl
theorem eqv_prdA : ∀ l m : List (Int × Int), PyData.eqvAll (l.map prd) (m.map prd) = decide (l = m)
  | [], [] => by simp [PyData.eqvAll]
  | [], _ :: _ => by simp [PyData.eqvAll]
  | _ :: _, [] => by simp [PyData.eqvAll]
  | (a, b) :: r, (c, d) :: t => by
    simp only [List.map_cons, PyData.eqvAll, PyData.eqv, prd, eqv_prdA r t]
    by_cases h : a = c <;> by_cases h2 : b = d <;> by_cases h' : r = t <;> simp [h, h2, h']
theorem eqv_prd (l m : List (Int × Int)) : PyData.eqv (.list (l.map prd)) (.list (m.map prd)) = decide (l = m) := by
  simp only [PyData.eqv]
  exact eqv_prdA l m
theorem dp_prsA {K : PySem.W.Frag} {H : Hp} : ∀ {l : List (Int × Int)} {vs : List V}, Prs H l vs → DpAll K H vs (l.map prd)
  | _, _, .nil => .nil
  | _, _, .cons a r => by
    obtain ⟨t, rfl, h⟩ := a
    exact .cons (.tup (SqT.of h) (.cons (.int _) (.cons (.int _) .nil))) (dp_prsA r)
theorem dp_prs {K : PySem.W.Frag} {H : Hp} {a : Addr} {l : List (Int × Int)} {vs : List V} (h : SqL K H a vs) (p : Prs H l vs) : Dp K H (.ref a) (.list (l.map prd)) := .lst h (dp_prsA p)
theorem q_eqP {K : PySem.W.Frag} {H : Hp} {a b : Addr} {l m : List (Int × Int)} {vs ws : List V} {Q : VK} (ha : SqL K H a vs) (hv : Prs H l vs) (hb : SqL K H b ws) (hw : Prs H m ws) (q : Q (.bl (decide (l = m))) H) : rEqD K (.ref a) (.ref b) H Q :=
  ⟨_, _, dp_prs ha hv, dp_prs hb hw, prd_shaped l, prd_shaped m, by rw [eqv_prd]; exact q⟩
theorem q_neP {K : PySem.W.Frag} {H : Hp} {a b : Addr} {l m : List (Int × Int)} {vs ws : List V} {Q : VK} (ha : SqL K H a vs) (hv : Prs H l vs) (hb : SqL K H b ws) (hw : Prs H m ws) (q : Q (.bl (!decide (l = m))) H) : rNeD K (.ref a) (.ref b) H Q :=
  ⟨_, _, dp_prs ha hv, dp_prs hb hw, prd_shaped l, prd_shaped m, by rw [eqv_prd]; exact q⟩
/-- a pair is unpacked to two names -/
theorem q_g2 {K : PySem.W.Frag} {j k : Nat} {t : Addr} {x y : V} {σ : L2.St} {H : Hp} {Q : L2.St → Hp → Prop} (h : SqT K H t [x, y]) (q : Q ((σ.set j (some x)).set k (some y)) H) : gTup K 2 (gCons (gName j) (gCons (gName k) gNil)) (.ref t) σ H Q :=
  ⟨t, [x, y], rfl, h, rfl, x, [y], rfl, y, [], rfl, rfl, q⟩
end Sky
/-! ### comprehensions over any target; with a test -/
namespace Sky
open PySem PySem.Spec PyProof.Rows L2
section
variable {σ : L2.St} {H : Hp} {K : PySem.W.Frag} {a b : Addr} {xs ys : List V} {tl : TA} {tx te : TE} {Q : VK} {j k : Nat} {vs : List Nat} {gt : TG} {tt : TT}
theorem q_lcNG {xs : List V} (P : Nat → V → Hp → Prop) (ha : ∀ R : VK, (∀ b H1, H b = none → Same H H1 → H1 b = some (.lst xs) → R (V.ref b) H1) → tx σ H R) (hn : xs.length ≤ 50000) (mono : ∀ i v H1 H2, P i v H1 → Tk H1 H2 → P i v H2)
    (he : ∀ (i : Nat) (x : V) (H' : Hp) (Q' : VK), xs[i]? = some x → Same H H' → (∀ v H'', Same H' H'' → P i v H'' → Q' v H'') → gt x (wipe σ vs) H' fun σ2 H2 => wipe σ2 vs = wipe σ vs ∧ te σ2 H2 Q') (q : LcEnd P H xs.length Q) :
    tLc (iList K tx) gt tYes te vs σ H Q := ha _ fun b H1 nb s1 hb => ⟨b, rfl, ⟨xs, SqL.of hb⟩, fun D hD => by
      refine lc_list (xs := xs) (Lc P H1 D) (lc_zero P hD) (fun i H' _ p => p.2.1.seq (SqL.of hb)) (fun i x H' hi p => ?_) (fun H' p => ?_)
      · have lt := (List.getElem?_eq_some_iff.mp hi).1
        simp only [e_yes, if_true]
        exact he i x H' _ hi (s1.trans p.2.1) fun v H'' s pv => lc_more mono p (by omega) s pv
      · obtain ⟨h1, h2, acc, h3, h4, h5⟩ := p
        exact q D H' acc (s1.free h1) (s1.trans h2) h3 h4 h5⟩
theorem q_lcLG (P : Nat → V → Hp → Prop) (ha : ∀ R : VK, R (V.ref a) H → tx σ H R) (hx : SqL K H a xs) (hn : xs.length ≤ 50000) (mono : ∀ i v H1 H2, P i v H1 → Tk H1 H2 → P i v H2)
    (he : ∀ (i : Nat) (x : V) (H' : Hp) (Q' : VK), xs[i]? = some x → Same H H' → (∀ v H'', Same H' H'' → P i v H'' → Q' v H'') → gt x (wipe σ vs) H' fun σ2 H2 => wipe σ2 vs = wipe σ vs ∧ te σ2 H2 Q') (q : LcEnd P H xs.length Q) :
    tLc (iList K tx) gt tYes te vs σ H Q := ha _ ⟨a, rfl, ⟨xs, hx⟩, fun D hD => by
      refine lc_list (xs := xs) (Lc P H D) (lc_zero P hD) (fun i H' _ p => p.2.1.seq hx) (fun i x H' hi p => ?_) (fun H' p => ?_)
      · have lt := (List.getElem?_eq_some_iff.mp hi).1
        simp only [e_yes, if_true]
        exact he i x H' _ hi p.2.1 fun v H'' s pv => lc_more mono p (by omega) s pv
      · obtain ⟨h1, h2, acc, h3, h4, h5⟩ := p
        exact q D H' acc h1 h2 h3 h4 h5⟩
theorem q_lcEG (P : Nat → V → Hp → Prop) (ha : ∀ R, R [V.ref a] H → tl σ H R) (hx : SqL K H a xs) (hn : xs.length ≤ 50000) (mono : ∀ i v H1 H2, P i v H1 → Tk H1 H2 → P i v H2)
    (he : ∀ (i : Nat) (x : V) (T : Addr) (H' : Hp) (Q' : VK), xs[i]? = some x → Same H H' → H' T = some (.tup [.int (i : Int), x]) → (∀ v H'', Same H' H'' → P i v H'' → Q' v H'') → gt (.ref T) (wipe σ vs) H' fun σ2 H2 => wipe σ2 vs = wipe σ vs ∧ te σ2 H2 Q') (q : LcEnd P H xs.length Q) :
    tLc (iEnum K tl) gt tYes te vs σ H Q := ha _ ⟨a, xs, rfl, hx, fun D hD => by
      refine lc_enum (xs := xs) (Lc P H D) (lc_zero P hD) (fun i H' p => p.2.1.seq hx) (fun i x T H' hi p nT => ?_) (fun H' p => ?_)
      · have lt := (List.getElem?_eq_some_iff.mp hi).1
        simp only [e_yes, if_true]
        have s2 := same_new (o := .tup [.int (i : Int), x]) nT
        exact he i x T _ _ hi (p.2.1.trans s2) upd_same fun v H'' s pv => lc_more mono p (by omega) (s2.trans s) pv
      · obtain ⟨h1, h2, acc, h3, h4, h5⟩ := p
        exact q D H' acc h1 h2 h3 h4 h5⟩
theorem q_lcZG (P : Nat → V → Hp → Prop) (ha : ∀ R, R [V.ref a, V.ref b] H → tl σ H R) (hx : SqL K H a xs) (hy : SqL K H b ys) (hlen : xs.length = ys.length) (hn : xs.length ≤ 50000) (mono : ∀ i v H1 H2, P i v H1 → Tk H1 H2 → P i v H2)
    (he : ∀ (i : Nat) (x y : V) (T : Addr) (H' : Hp) (Q' : VK), xs[i]? = some x → ys[i]? = some y → Same H H' → H' T = some (.tup [x, y]) → (∀ v H'', Same H' H'' → P i v H'' → Q' v H'') → gt (.ref T) (wipe σ vs) H' fun σ2 H2 => wipe σ2 vs = wipe σ vs ∧ te σ2 H2 Q') (q : LcEnd P H xs.length Q) :
    tLc (iZip K tl) gt tYes te vs σ H Q := ha _ ⟨a, b, xs, ys, rfl, hx, hy, fun D hD => by
      refine lc_zip (xs := xs) hlen (Lc P H D) (lc_zero P hD) (fun i H' p => ⟨p.2.1.seq hx, p.2.1.seq hy⟩) (fun i x y T H' hi hi2 p nT => ?_) (fun H' p => ?_)
      · have lt := (List.getElem?_eq_some_iff.mp hi).1
        simp only [e_yes, if_true]
        have s2 := same_new (o := .tup [x, y]) nT
        exact he i x y T _ _ hi hi2 (p.2.1.trans s2) upd_same fun v H'' s pv => lc_more mono p (by omega) (s2.trans s) pv
      · obtain ⟨h1, h2, acc, h3, h4, h5⟩ := p
        exact q D H' acc h1 h2 h3 h4 h5⟩
/-- which of the first n turns give, and what -/
def kept (n : Nat) (f : Nat → Bool) (v : Nat → V) : List V := ((List.range n).filter f).map v
theorem kept_yes {n : Nat} {f : Nat → Bool} {v : Nat → V} (h : f n = true) : kept (n + 1) f v = kept n f v ++ [v n] := by
  unfold kept
  rw [List.range_succ, List.filter_append, List.map_append]
  simp [h]
theorem kept_no {n : Nat} {f : Nat → Bool} {v : Nat → V} (h : f n = false) : kept (n + 1) f v = kept n f v := by
  unfold kept
  rw [List.range_succ, List.filter_append, List.map_append]
  simp [h]
theorem kept_len (n : Nat) (f : Nat → Bool) (v : Nat → V) : (kept n f v).length ≤ n := by
  unfold kept
  rw [List.length_map]
  have h := List.length_filter_le f (List.range n)
  rwa [List.length_range] at h
theorem q_lcRF {n : Nat} (f : Nat → Bool) (v : Nat → V) (ha : ∀ R, R [V.int (n : Int)] H → tl σ H R) (hn : n ≤ 50000) (hw : ∀ x, wipe ((wipe σ vs).set j (some x)) vs = wipe σ vs)
    (ht : ∀ (i : Nat) (H' : Hp) (R : Bool → Hp → Prop), i < n → Same H H' → (∀ H'', Same H' H'' → R (f i) H'') → tt ((wipe σ vs).set j (some (.int (i : Int)))) H' R)
    (he : ∀ (i : Nat) (H' : Hp) (Q' : VK), i < n → f i = true → Same H H' → (∀ H'', Same H' H'' → Q' (v i) H'') → te ((wipe σ vs).set j (some (.int (i : Int)))) H' Q')
    (q : ∀ D H', H D = none → Same H H' → H' D = some (.lst (kept n f v)) → Q (.ref D) H') :
    tLc (iRng1 tl) (gName j) tt te vs σ H Q := ha _ ⟨n, rfl, by omega, by omega, fun D hD => by
      rw [Int.toNat_natCast]
      refine lc_range (lo := 0) (n := n) (fun i H' => Same H H' ∧ H' D = some (.lst (kept i f v))) ⟨same_new hD, upd_same⟩ (fun i H' hi p => ?_) (fun H' p => ?_)
      · simp only [Int.zero_add]
        refine ⟨hw _, ht i H' _ hi p.1 fun H2 s2 => ?_⟩
        have hd := s2 _ _ p.2
        cases hf : f i with
        | true =>
          refine iteT (he i H2 _ hi hf (p.1.trans s2) fun H3 s3 => ?_)
          exact ⟨_, s3 _ _ hd, sz_lt (by have := kept_len i f v; omega), same_mut ((p.1.trans s2).trans s3) hD, by rw [upd_same, kept_yes hf]⟩
        | false =>
          refine iteF ⟨p.1.trans s2, ?_⟩
          rw [kept_no hf]
          exact hd
      · exact q D H' hD p.1 p.2⟩
end
theorem e_eqi {a b : Int} {H : Hp} {Q : VK} : rEq (.int a) (.int b) H Q = Q (.bl (decide (a = b))) H := by
  have e : decide (V.int a = V.int b) = decide (a = b) := by simp
  unfold rEq
  rw [e]
  simp [scal]
theorem e_nei {a b : Int} {H : Hp} {Q : VK} : rNe (.int a) (.int b) H Q = Q (.bl (!decide (a = b))) H := by
  have e : decide (V.int a = V.int b) = decide (a = b) := by simp
  unfold rNe
  rw [e]
  simp [scal]
theorem q_sorted {K : PySem.W.Frag} {H : Hp} {Q : VK} {a : Addr} {l : List Int} (h : SqL K H a (ivs l)) (hl : l.length < 64) (q : ∀ l' p, l'.Perm l → l'.Pairwise (· ≤ ·) → H p = none → Q (.ref p) (upd H p (.lst (ivs l')))) : rSorted K [.ref a] H Q := ⟨a, l, rfl, h, hl, q⟩
end Sky
/-! ### slices of lists of numbers -/
namespace Sky
open PySem PySem.Spec PyProof.Rows L2
theorem q_sl {K : PySem.W.Frag} {H : Hp} {Q : VK} {a : Addr} {xs : List V} {lo hi : Option Int} (h : SqL K H a xs) (q : ∀ p, H p = none → Q (.ref p) (upd H p (.lst (cutV xs lo hi)))) : rSlL K (.ref a) lo hi H Q := ⟨a, xs, rfl, h, q⟩
theorem take_ivs (l : List Int) (i : Nat) : (ivs l).take i = ivs (l.take i) := (List.map_take ..).symm
theorem drop_ivs (l : List Int) (i : Nat) : (ivs l).drop i = ivs (l.drop i) := (List.map_drop ..).symm
theorem cut_to (l : List Int) (i : Nat) : cutV (ivs l) none (some (i : Int)) = ivs (l.take i) := by
  unfold cutV
  rw [HT.sIx_none, HT.sIx_nat, List.drop_zero, Nat.sub_zero, len_ivs, take_ivs]
  by_cases c : i ≤ l.length
  · rw [Nat.min_eq_left c]
  · rw [Nat.min_eq_right (by omega), List.take_of_length_le (by omega), List.take_of_length_le (by omega)]
theorem cut_from (l : List Int) (i : Nat) : cutV (ivs l) (some (i : Int)) none = ivs (l.drop i) := by
  unfold cutV
  rw [HT.sIx_none, HT.sIx_nat, len_ivs, drop_ivs, take_ivs]
  by_cases c : i ≤ l.length
  · rw [Nat.min_eq_left c, List.take_of_length_le (by simp)]
  · rw [Nat.min_eq_right (by omega), Nat.sub_self, List.take_zero, List.drop_eq_nil_of_le (by omega)]
theorem cut_mid (l : List Int) (i j : Nat) : cutV (ivs l) (some (i : Int)) (some (j : Int)) = ivs ((l.take j).drop i) := by
  unfold cutV
  rw [HT.sIx_nat, HT.sIx_nat, len_ivs, drop_ivs, take_ivs, List.drop_take]
  congr 1
  apply List.ext_getElem?
  intro m
  rw [List.getElem?_take, List.getElem?_take, List.getElem?_drop, List.getElem?_drop]
  by_cases c : i + m < l.length
  · have e : min i l.length = i := Nat.min_eq_left (by omega)
    rw [e]
    by_cases c2 : m < j - i
    · rw [if_pos c2, if_pos (by omega)]
    · rw [if_neg c2, if_neg (by omega)]
  · have e2 : l[i + m]? = none := List.getElem?_eq_none (by omega)
    rw [e2]
    by_cases c3 : m < min j l.length - min i l.length
    · have e1 : l[min i l.length + m]? = none := List.getElem?_eq_none (by omega)
      rw [e1]
      split <;> split <;> rfl
    · rw [if_neg c3]
      split <;> rfl
end Sky

/-! Rh: errors: defs that raise, calls that let an error out, isinstance and any in an except suite. -/
namespace SkyH
open PySem PySem.Spec PyProof.Rows HotX
section
variable {prog : Program} {w : World} {A : Around} {E : Value → Shared → Prop} {s : Shared}
/-- next at the end of a list, an error being handled -/
theorem list_end_hot {it l x1 : Addr} {i : Nat} {items : Array Value} {Q : Option Value → Shared → Prop} (hot : HotAt A x1 s.heap) (hit : s.heap.IsListIter it l i) (hl : s.heap.IsList l items) (hx : items[i]? = none) (hne : x1 ≠ it)
    (hQ : ∀ h', (∀ b o, b ≠ it → s.heap.get? b = some o → h'.get? b = some o) → Q none { s with heap := h' }) : wpAny (model prog w) A (pyNext (.ref it)) Q E s := by
  obtain ⟨o, ho, hc, hd⟩ := id hit
  obtain ⟨ol, hol, _, nl, hdl⟩ := hl
  obtain ⟨hh, o1, vs1, h1, d1, c1⟩ := hot
  unfold pyNext
  refine wpAny_bind (wpAny_attempt (wpAny_callSpecial?_slot (name := Str.ofString "__next__") hit.typeIs slot_listiter_next
    (wpAny_call_entry slot_listiter_next hit.typeIs entry_listiter_next ?_ (args_listiter_next _))))
  show wpAny _ _ (field (.ref it) 0 >>= _) _ _ s
  refine wpAny_bind (wpAny_field ho hd (x := .ref l) rfl ?_)
  show wpAny _ _ (if (Value.ref l == Value.none) = true then _ else _) _ _ s
  rw [if_neg (show ¬ ((Value.ref l == Value.none) = true) from Bool.false_ne_true)]
  show wpAny _ _ (field (.ref it) 1 >>= _) _ _ s
  refine wpAny_bind (wpAny_field ho hd (x := .int i 0) rfl ?_)
  show wpAny _ _ (seqItems? (.ref l) >>= _) _ _ s
  refine wpAny_bind (wpAny_seqItems hol hdl ?_)
  simp only [Int.toNat_natCast, hx]
  refine wpAny_bind (wpAny_rule (wpAny_bind (wpAny_setField ho hd (by simp) ?_)))
  show wpAny _ _ (newExc (.type "StopIteration") [] >>= _) _ _ _
  have h1' := (Heap.get?_update_other s.heap (Obj.mapFields (·.setIfInBounds 0 Value.none)) (Ne.symm hne)).trans h1
  refine wpAny_bind ?_
  simp only [newExc, newTuple]
  refine wpAny_bind (wpAny_newObj_type ?_ (by size_fits))
  refine wpAny_bind (m := firstArgMember _ _) (wpAny_of_eq (a := Value.none) (by first | rfl | (simp only [firstArgMember]; rfl)) ?_)
  refine wpAny_newObj_type ?_ (by size_fits)
  refine raiseNew_hot ⟨hh, o1, vs1, Heap.get?_push_of_some _ (Heap.get?_push_of_some _ h1'), d1, c1⟩ (Nat.ne_of_lt (Heap.lt_size (Heap.get?_push_of_some _ h1'))) (Heap.get?_push_size _ rfl) rfl (by first | (simp; done) | (simp; omega) | (simp only [Array.size_append]; simp; omega)) ?_
  refine wpAny_bind (wpAny_isInstance (T := "StopIteration") (b := true) ⟨_, Heap.get?_update_self _ (Heap.get?_push_size _ rfl) rfl, rfl⟩ isSubtype_stop ?_)
  refine wpAny_pure (hQ _ fun b o hb e => ?_)
  have e' := (Heap.get?_update_other s.heap (Obj.mapFields (·.setIfInBounds 0 Value.none)) (Ne.symm hb)).trans e
  rw [Heap.get?_update_other _ _ (Nat.ne_of_gt (Heap.lt_size (Heap.get?_push_of_some _ e')))]
  exact Heap.get?_push_of_some _ (Heap.get?_push_of_some _ e')
theorem walks_hot {x1 : Addr} (hh : A.handled = some (.ref x1)) (I ax : Addr) (hne : ax ≠ I) (hx : x1 ≠ I) (items : Array Value) :
    Walks prog w A I [I, ax, x1] [I] items.size (fun i v => items[i]? = some v) (fun i h => h.IsListIter I ax i ∧ h.IsList ax items ∧ ∃ (o : Obj) (vs : Array Value), h.get? x1 = some o ∧ o.data = .fields vs ∧ vs[2]? = some .none) where
  sub := fun b hb => by simp at hb; simp [hb]
  frame := fun _ _ _ st hk => ⟨st.1.at fun o e => hk I (by simp) o e, st.2.1.at fun o e => hk ax (by simp) o e, by
    obtain ⟨o, vs, h1, h2, h3⟩ := st.2.2
    exact ⟨o, vs, hk x1 (by simp) o h1, h2, h3⟩⟩
  item := fun i s Q E hi st hQ => by
    refine wpAny_pyNext_list_item st.1 st.2.1 (x := items[i]) (by simp [hi]) fun h' hit' hs' => ?_
    refine hQ _ h' s.toks (by simp [hi]) ⟨hit', st.2.1.extBut hs'.extBut hne, ?_⟩ fun b o hb e => hs'.extBut b o (fun h => hb (by simp [h])) e
    obtain ⟨o, vs, h1, h2, h3⟩ := st.2.2
    exact ⟨o, vs, hs'.extBut x1 o hx h1, h2, h3⟩
  done := fun s Q E st hQ => list_end_hot ⟨hh, st.2.2⟩ st.1 st.2.1 (by simp) hx fun h' he' => hQ h' s.toks fun b o hb e => he' b o (fun h => hb (by simp [h])) e
  self := fun _ _ _ _ st hQ => wpAny_pyIter_listiter st.1 hQ
end
end SkyH
namespace Sky
open PySem PySem.Spec PyProof.Rows L2
theorem any_hot {X : Cx} {a : Addr} {oe : Obj} {cls : Value} {d : Option Addr} {pn : List (Addr × Obj)} (hz : L2N.Zn cls d oe) (hf : ∃ vs, oe.data = .fields vs) : CallR (X.suite a ((a, oe) :: pn)) (.builtin "any") (rAny X.K) := by
  intro pins s σ H vs us Q I r h
  obtain ⟨l, bs, rfl, hs, q⟩ := h
  obtain ⟨its, rv, hl, _⟩ := I.list hs
  rw [Vals.ref1 r]
  have hb := rv.bls
  obtain ⟨hget, _⟩ := I.pin (a, oe) (List.mem_append_left _ List.mem_cons_self)
  obtain ⟨vs, hv⟩ := hf
  have hn := hz.2.2 vs hv
  refine call_any_walk (iter_any hl.isList fun s₂ e2 st hne => ?_)
  subst e2
  have hxa : a ≠ s.heap.objs.size := Nat.ne_of_lt (Heap.lt_size hget)
  refine ⟨_, _, _, _, _, _, _, rfl, SkyH.walks_hot (A := (X.suite a ((a, oe) :: pn)).A.in1) rfl _ l hne hxa its.toArray, ⟨st.1, st.2, oe, vs, Heap.get?_push_of_some _ hget, hv, hn⟩, truth_bools hb, fun h' tk hk => ?_⟩
  refine ⟨.bl _, H, I.kept fun b o eo => hk b o (fun hmem => ?_) (Heap.get?_push_of_some _ eo), ?_, q⟩
  · rcases List.mem_cons.mp hmem with e1 | hmem
    · exact absurd (e1 ▸ Heap.lt_size eo) (Nat.lt_irrefl _)
    · cases hmem
  · show Value.bool _ = Value.bool _
    rw [← L2.any_range, hb, List.size_toArray, List.length_map]
/-- isinstance(e, c), e the error that the suite holds, whatever its class is -/
def rIsH (K : PySem.W.Frag) (cls : Value) (d : Option Addr) (a : Addr) : List V → Hp → VK → Prop := fun xs H Q => ∃ (D : Addr) (c : V) (cv : Value) (b : Bool), cls = .ref D ∧ d = none ∧ ExcC K D ∧ xs = [.ref a, c] ∧ ClsV c cv ∧ PySem.W.kitOne K (.ref D) cv = some b ∧ Q (.bl b) H
theorem isi_hot {X : Cx} {a : Addr} {oe : Obj} {cls : Value} {d : Option Addr} {pn : List (Addr × Obj)} (hz : L2N.Zn cls d oe) (hf : ∃ vs, oe.data = .fields vs) : CallR (X.suite a ((a, oe) :: pn)) (.builtin "isinstance") (rIsH X.K cls d a) := by
  intro pins s σ H xs us Q I r h
  obtain ⟨D, c, cv, b, rfl, rfl, C, rfl, hcv, e, q⟩ := h
  exact call_isE C hz.zc hf pins s σ H _ us Q I r ⟨c, cv, b, rfl, fun u ru => hcv.eq ru, e, q⟩
theorem isi_hotK {X Y : Cx} {K : PySem.W.Frag} {a : Addr} {oe : Obj} {cls : Value} {d : Option Addr} {pn : List (Addr × Obj)} (hz : L2N.Zn cls d oe) (hf : ∃ vs, oe.data = .fields vs) (e : Y = X.suite a ((a, oe) :: pn) := by rfl) (ek : Y.K = K := by rfl) : CallR Y (.builtin "isinstance") (rIsH K cls d a) := by
  subst ek
  subst e
  exact isi_hot hz hf
theorem any_hotK {X Y : Cx} {K : PySem.W.Frag} {a : Addr} {oe : Obj} {cls : Value} {d : Option Addr} {pn : List (Addr × Obj)} (hz : L2N.Zn cls d oe) (hf : ∃ vs, oe.data = .fields vs) (e : Y = X.suite a ((a, oe) :: pn) := by rfl) (ek : Y.K = K := by rfl) : CallR Y (.builtin "any") (rAny K) := by
  subst ek
  subst e
  exact any_hot hz hf
/-- a def that may raise -/
theorem okN {P : Program} {w : World} {K : PySem.W.Frag} {mg : Str → Option Value} {base : Heap} {x qual : Str} {st : Stmt} {f : Addr} {fd : FuncData} {N ps : List Str} {k : Nat} {sp : Sp} (F : Fun K x qual st f fd) (S : FnScope N ps (defScope st)) (len : ∀ vs H Q E, sp vs H Q E → vs.length = ps.length)
    (hbody : ∀ (cdv : Value) (A : Around) (outer : List Env) (s : Shared) (H : Hp) (vs : List V) (Q : VK) (E : XK), Room k (A.deeper (envOfC qual (defScope st) s.heap.objs.size f cdv)) → sp vs H Q E →
      ∃ t, PSs (cxOf (L2N.CX P w) P w K mg base N qual (defScope st) f cdv A outer s H E) (defBody st) t ∧ t { nx := fun _ H' => Q .non H', rt := Q } (start N vs) H) : FnOk P w K mg base (L2N.CX P w) (k + 1) f fd ps sp := by
  obtain ⟨oc, od, kV, doc, pm, an, cdv, ct, osl, rfl, lk, hcd⟩ := F.ex
  exact fn_of lk hcd S len fun A outer s H vs Q E hr hsp => hbody cdv A outer s H vs Q E hr hsp
/-- nothing is let out -/
def EF : XK := fun _ _ _ => False
theorem passF {X : Cx} : Passes (L2N.CX X.prog X.w) X EF := fun _ _ _ _ _ _ _ h => by
  obtain ⟨_, _, _, _, _, _, _, _, _, _, _, _, z⟩ := h
  exact z.elim
theorem takesF {X : Cx} : L2N.Takes X (fun _ _ _ _ => False) := fun _ _ x => by
  obtain ⟨_, _, _, _, _, _, _, _, _, _, _, _, _, _, _, _, z⟩ := x
  exact z.elim
section
variable {σ : L2.St} {H : Hp} {Q : VK} {sp : Sp} {E : L2.St → XK} {tl : TA}
theorem e_callS : tCallS sp E tl σ H Q = tl σ H fun vs H1 => sp vs H1 Q (E σ) := rfl
end
/-- what one may ask of the error that is handled -/
def HotY (K : PySem.W.Frag) (Y : Cx) (cls : Value) (d : Option Addr) (a : Addr) : Prop := CallR Y (.builtin "isinstance") (rIsH K cls d a) ∧ CallR Y (.builtin "any") (rAny K)
/-- the suite of an except clause: its reading said later -/
def TryS (K : PySem.W.Frag) (X : Cx) (b₀ : Stmt) (suite : List Stmt) : Addr → Value → Option Addr → TS := fun a cls d D σ H => ∀ (oe : Obj) (pn : List (Addr × Obj)), HotY K (X.suite a ((a, oe) :: pn)) cls d a → ∃ t, PSs (X.suite a ((a, oe) :: pn)) (b₀ :: suite) t ∧ t D σ H
/-- what the clause wishes of an error -/
def WTry (K : PySem.W.Frag) (X : Cx) (c : Value) (i : Nat) (b₀ : Stmt) (suite : List Stmt) (D : Ends) : WX := wAs K c i (TryS K X b₀ suite) (fun _ _ _ _ => False) D
/-- a try with one clause: its body's reading said later -/
def tTry (K : PySem.W.Frag) (X : Cx) (c : Value) (i : Nat) (body : List Stmt) (b₀ : Stmt) (suite : List Stmt) : TS := fun D σ H =>
  ∀ (pn : List (Addr × Obj)) (xe : Value → Shared → Prop), L2N.Takes (X.tr pn xe) (WTry K X c i b₀ suite D) → PassesOwn (model X.prog X.w) X.A X.env xe → ∃ t, PSs (X.tr pn xe) body t ∧ t D σ H
theorem ps_tryX {X : Cx} {K : PySem.W.Frag} {x n : Str} {c : Value} {i : Nat} {body suite : List Stmt} {b₀ : Stmt} {np pos pos' : Pos} (hs : X.stack = X.env :: X.outer) (hf : X.env.frame = some X.env.locals) (hN : X.N.Nodup) (hi : X.N[i]? = some n) (hln : X.env.kindOf n = some .local) (hc : Names X x c) (hK : X.K = K := by rfl) :
    PS X (.Try body [.ExceptHandler (some (.Name x np)) (some n) (b₀ :: suite) pos'] [] [] pos) (tTry K X c i body b₀ suite) := by
  subst hK
  refine L2N.ps_try_as (tb := fun W D' σ H => ∀ (pn : List (Addr × Obj)) (xe : Value → Shared → Prop), L2N.Takes (X.tr pn xe) W → PassesOwn (model X.prog X.w) X.A X.env xe → ∃ t, PSs (X.tr pn xe) body t ∧ t D' σ H) (ts := TryS X.K X b₀ suite) hs hf hN hi hln hc takesF (fun W pn xe tk po => ⟨fun pins s σ H D I h => ?_⟩) (fun a oe cls d pn hz hf => ⟨fun pins s σ H D I h => ?_⟩)
  · obtain ⟨t, h1, h2⟩ := h pn xe tk po
    exact h1.run pins s σ H D I h2
  · obtain ⟨t, h1, h2⟩ := h oe pn ⟨isi_hot hz hf, any_hot hz hf⟩
    exact h1.run pins s σ H D I h2
/-- an error of the clause's class has come -/
theorem q_caught {K : PySem.W.Frag} {X : Cx} {c : Value} {i : Nat} {b₀ : Stmt} {suite : List Stmt} {D : Ends} {σ : L2.St} {H : Hp} {cls : Value} {d : Option Addr} (hm : PySem.W.exmOne K cls c = some true)
    (h : ∀ a, H a = none → TryS K X b₀ suite a cls d { nx := fun σ' H' => D.nx (σ'.set i none) H', rt := D.rt, bk := fun σ' H' => D.bk (σ'.set i none) H', ct := fun σ' H' => D.ct (σ'.set i none) H' } (σ.set i (some (.ref a))) H) : WE (WTry K X c i b₀ suite D) σ cls d H :=
  ⟨true, hm, fun _ a na => h a na, fun z => Bool.noConfusion z⟩
/-- a def at f that keeps the promise sp, as it may be called here -/
def CalN (X : Cx) (f : Addr) (sp : Sp) (E : L2.St → XK) : Prop := PySem.W.keepIn X.K (.ref f) = true ∧ ∀ (pins : List (Addr × Obj)) (σ : L2.St) (H : Hp) (s : Shared) (Q : VK) (us : List Value) (vs : List V), Inv X pins σ H s → Vals vs us → sp vs H Q (E σ) →
  wpAny (model X.prog X.w) X.A (call (.ref f) us) (EP X pins σ Q) X.xe s
theorem calN {X : Cx} {CX : CXT} {k : Nat} {f : Addr} {fd : FuncData} {ps : List Str} {sp : Sp} {E : L2.St → XK} (F : FnOk X.prog X.w X.K X.mg X.base CX k f fd ps sp) (hr : Room k X.A) (hk : PySem.W.keepIn X.K (.ref f) = true) (hb : Binds X.K fd ps []) (hx : ∀ σ, PassesAt CX X σ (E σ)) : CalN X f sp E :=
  ⟨hk, fun pins σ H s Q us vs I r h => run_fnS F hr hb (hx σ) I r h⟩
/-- f(e, ..), f an expression -/
def tCallE (X : Cx) (E : L2.St → XK) (tf : TE) (t : TA) : TE := fun σ H Q => tf σ H fun y H1 => ∃ f sp, y = V.ref f ∧ CalN X f sp E ∧ t σ H1 fun vs H2 => sp vs H2 Q (E σ)
theorem ev_callSub {fa fb e : Expr} {es : List Expr} {fp pos : Pos} {env : Env} : eval (.Call (.Subscript fa fb fp) (e :: es) [] pos) env = (do callWith pos (← eval (.Subscript fa fb fp) env) [] (backTo pos (starEach (e :: es) env)) (backToKw pos (keywordEach [] env))) := by rfl
theorem pe_callE {X : Cx} {E : L2.St → XK} {fa fb e : Expr} {es : List Expr} {fp pos : Pos} {tf : TE} {t : TA} (hf : PE X (.Subscript fa fb fp) tf) (ha : PA X (e :: es) t)
    (he : starEach (e :: es) X.env = (false, eval e X.env) :: starEach es X.env := by rfl) (hpl : (backTo pos (starEach es X.env)).any (·.1) = false := by rfl) : PE X (.Call (.Subscript fa fb fp) (e :: es) [] pos) (tCallE X E tf t) := by
  have ht : eval (.Call (.Subscript fa fb fp) (e :: es) [] pos) X.env = (do callWith pos (← eval (.Subscript fa fb fp) X.env) [] (backTo pos (starEach (e :: es) X.env)) (backToKw pos (keywordEach [] X.env))) := ev_callSub
  refine ⟨fun pins s σ H Q I h => ?_⟩
  refine Call_ (thn (hf.run pins s σ H _ I h) fun u s1 ⟨y, H1, I1, ry, f, sp, ey, c, q⟩ => ?_) ht
  subst ey
  obtain rfl : u = Value.ref f := ry
  refine PySem.W.callWith_K (h₀ := X.base) I1.ok.mod.kin c.1 (thn (ha.run pos pins s1 σ H1 _ I1 q) fun us s2 ⟨vs, H2, I2, r, q2⟩ => ⟨I2.kIn, ?_⟩) he hpl
  exact c.2 pins σ H2 s2 Q us vs I2 r q2
theorem e_callE {X : Cx} {E : L2.St → XK} {tf : TE} {t : TA} {σ : L2.St} {H : Hp} {Q : VK} : tCallE X E tf t σ H Q = tf σ H fun y H1 => ∃ f sp, y = V.ref f ∧ CalN X f sp E ∧ t σ H1 fun vs H2 => sp vs H2 Q (E σ) := rfl
end Sky

/-! Ro: objects of own classes: defs that are methods, fields, isinstance. -/
namespace Sky
open PySem PySem.Spec PyProof.Rows L2
def DefM (K : PySem.W.Frag) (C : Addr) (m q : Str) (ps : List Str) (st : Stmt) : Prop := ∃ (f : Addr) (fd : FuncData), Fun K m q st f fd ∧ Binds K fd ps [] ∧ Meth K C m f
def DefI (K : PySem.W.Frag) (C : Addr) (q : Str) (ps : List Str) (st : Stmt) : Prop := ∃ (f : Addr) (fd : FuncData), Fun K "__init__" q st f fd ∧ Binds K fd ps [] ∧ Mk K C f
def HasM (P : Program) (w : World) (K : PySem.W.Frag) (mg : Str → Option Value) (base : Heap) (CX : CXT) (k : Nat) (C : Addr) (m : Str) (ps : List Str) (sp : Sp) : Prop :=
  ∃ (f : Addr) (fd : FuncData), FnOk P w K mg base CX k f fd ps sp ∧ Binds K fd ps [] ∧ Meth K C m f
def HasI (P : Program) (w : World) (K : PySem.W.Frag) (mg : Str → Option Value) (base : Heap) (CX : CXT) (k : Nat) (C : Addr) (ps : List Str) (sp : Sp) : Prop :=
  ∃ (f : Addr) (fd : FuncData), FnOk P w K mg base CX k f fd ps sp ∧ Binds K fd ps [] ∧ Mk K C f
section
variable {X : Cx} {K : PySem.W.Frag} {e : Expr} {f : Str} {pos : Pos} {ta tb : TE}
theorem pe_fldK (he : PE X e ta) (hb : attributeBase e f X.env (eval e X.env) = eval e X.env) (h : X.K = K := by rfl) : PE X (.Attribute e f pos) (tFld K ta f) := h ▸ pe_fld he hb
/-- one of two readings -/
def tAny (ta tb : TE) : TE := fun σ H Q => ta σ H Q ∨ tb σ H Q
theorem pe_any (ha : PE X e ta) (hb : PE X e tb) : PE X e (tAny ta tb) := by
  refine ⟨fun pins s σ H Q I h => ?_⟩
  rcases h with h | h
  · exact ha.run pins s σ H Q I h
  · exact hb.run pins s σ H Q I h
end
/-- x.f -/
def rFld (K : PySem.W.Frag) (f : Str) : V → Hp → VK → Prop := fun x H1 Q => ∃ a C dx fs v, x = .ref a ∧ H1 a = some (.ins C dx fs) ∧ Cls K C ∧ NoAttr K C f ∧ fs.lookup f = some v ∧ Q v H1
section
variable {σ : L2.St} {H : Hp} {Q : VK} {D : Ends} {te ta tb tv : TE} {tl : TA} {K : PySem.W.Frag} {f m : Str} {C : Addr} {sp : Sp} {dvs : List V} {E : XK}
theorem e_any : tAny ta tb σ H Q = (ta σ H Q ∨ tb σ H Q) := rfl
theorem e_fld : tFld K ta f σ H Q = ta σ H fun x H1 => rFld K f x H1 Q := rfl
theorem e_sfld : sFld K ta tv f D σ H = tv σ H fun y H1 => ta σ H1 fun x H2 => ∃ a C dx fs, x = .ref a ∧ H2 a = some (.ins C dx fs) ∧ Cls K C ∧ NoAttr K C f ∧ fs.length < 1000 ∧ D.nx σ (upd H2 a (.ins C dx (putF f y fs))) := rfl
theorem e_meth : tMeth C m sp dvs E ta tl σ H Q = ta σ H fun x H1 => ∃ a dx fs, x = .ref a ∧ H1 a = some (.ins C dx fs) ∧ fs.lookup m = none ∧ tl σ H1 fun vs H2 => sp (x :: (vs ++ dvs)) H2 Q E := rfl
theorem e_make : tMake C sp dvs E tl σ H Q = tl σ H fun vs H1 => ∀ x dx, H1 x = none → H1 dx = none → dx ≠ x → sp (.ref x :: (vs ++ dvs)) (upd (upd H1 dx (.own x)) x (.ins C dx [])) (fun v H2 => v = .non ∧ Q (.ref x) H2) E := rfl
end
theorem e_par3 {i j l : Nat} {ta : TA} {D : Ends} {σ : L2.St} {H : Hp} : tPar3 i j l ta D σ H = ta σ H fun vs H1 => ∃ u v w, vs = [u, v, w] ∧ D.nx (((σ.set i (some u)).set j (some v)).set l (some w)) H1 := rfl
theorem q_fld {K : PySem.W.Frag} {H : Hp} {Q : VK} {a C dx : Addr} {fs : List (Str × V)} {f : Str} {v : V} (h : H a = some (.ins C dx fs)) (c : Cls K C) (n : NoAttr K C f) (e : fs.lookup f = some v) (q : Q v H) : rFld K f (.ref a) H Q := ⟨a, C, dx, fs, v, rfl, h, c, n, e, q⟩
/-- what isinstance asks of an own class -/
structure InsO (K : PySem.W.Frag) (C : Addr) : Prop where
  cl : Cls K C
  ha : PySem.W.findIn K (.ref C) "__class__" = some (some (.builtin "object.__class__"))
  hn : PySem.W.specialIn K (.builtin "object.__class__") "__get__" = some (some (.builtin "getset_descriptor.__get__"))
  htk : PySem.W.takesIn K (.builtin "object.__class__") = some true
  hm : PySem.W.mroIn K C (.type "object") = some true
  me : PySem.W.kitOne K (.ref C) (.ref C) = some true
theorem tyx_ins {K : PySem.W.Frag} {H : Hp} {a C dx : Addr} {fs : List (Str × V)} (h : H a = some (.ins C dx fs)) (c : InsO K C) : TyX K H (.ref a) (.ref C) := .base (.ins h c.cl c.ha c.hn c.htk c.hm)
/-- isinstance with an own class -/
theorem q_isiO {K : PySem.W.Frag} {H : Hp} {x : V} {t : Value} {D : Addr} {b : Bool} {Q : VK} (ty : TyX K H x t) (hk : PySem.W.kitOne K t (.ref D) = some b) (q : Q (.bl b) H) : rIsi K [x, .ref D] H Q :=
  ⟨x, .ref D, t, .ref D, b, rfl, .own D, ty, hk, q⟩
theorem q_is {a b : Bool} {H : Hp} {Q : VK} (q : Q (.bl (decide (a = b))) H) : rIsB (.bl a) (.bl b) H Q := ⟨a, b, rfl, rfl, q⟩
theorem q_not {a b : Bool} {H : Hp} {Q : VK} (q : Q (.bl (!decide (a = b))) H) : rNotB (.bl a) (.bl b) H Q := ⟨a, b, rfl, rfl, q⟩
/-- the truth of a word, as a bool -/
noncomputable def tf (P : Prop) : Bool := @decide P (Classical.propDecidable P)
theorem tf_iff {P : Prop} : tf P = true ↔ P := by
  unfold tf
  exact @decide_eq_true_iff P (Classical.propDecidable P)
theorem tf_of {P : Prop} {c : Bool} (h : c = true ↔ P) : c = tf P := by
  rw [Bool.eq_iff_iff, h, tf_iff]
theorem tf_all {n : Nat} {P : Nat → Prop} : (((List.range n).map fun i => tf (P i)).all id = true) ↔ ∀ i, i < n → P i := by
  rw [List.all_map, List.all_eq_true]
  constructor
  · intro h i hi
    exact tf_iff.mp (h i (List.mem_range.mpr hi))
  · intro h i hi
    exact tf_iff.mpr (h i (List.mem_range.mp hi))
section
variable {σ : L2.St} {H : Hp} {K : PySem.W.Frag} {a b : Addr} {xs ys : List V} {tl : TA} {tb : TS} {D : Ends} {gt : TG}
/-- a loop over zip of lists that are made for it: the lists first, then forZ -/
def forZ (K : PySem.W.Frag) (gt : TG) (tb : TS) (D : Ends) (σ : L2.St) (vs : List V) (H1 : Hp) : Prop := ∃ a b xs ys, vs = [V.ref a, .ref b] ∧ SqL K H1 a xs ∧ SqL K H1 b ys ∧ ∃ W : Nat → Nat → L2.St → Hp → Prop, (∃ m, W 0 m σ H1) ∧ ∀ i m σ H, W i m σ H →
  ((Itz K a b).stop i H ∧ D.nx σ H) ∨ ((Itz K a b).go i H ∧ ∃ N : L2.St → Hp → Prop, (∀ σ' H', N σ' H' → ∃ m', m' < m ∧ W (i + 1) m' σ' H') ∧ ∀ x H', (Itz K a b).yld i H x H' → gt x σ H' fun σ2 H2 => tb { D with nx := N, ct := N, bk := D.nx } σ2 H2)
theorem e_forZ : tFor (iZip K tl) gt tb D σ H = tl σ H fun vs H1 => forZ K gt tb D σ vs H1 := rfl
theorem q_forZ (hlen : xs.length = ys.length) (Pv : Nat → L2.St → Hp → Prop) (h0 : Pv 0 σ H) (hq : ∀ i σ H, Pv i σ H → SqL K H a xs ∧ SqL K H b ys)
    (hs : ∀ (i : Nat) (x y : V) (T : Addr) (σ : L2.St) (H : Hp), xs[i]? = some x → ys[i]? = some y → Pv i σ H → H T = none → gt (.ref T) σ (upd H T (.tup [x, y])) fun σ2 H2 => tb { D with nx := Pv (i + 1), ct := Pv (i + 1), bk := D.nx } σ2 H2) (hd : ∀ σ H, Pv xs.length σ H → D.nx σ H) :
    forZ K gt tb D σ [.ref a, .ref b] H := ⟨a, b, xs, ys, rfl, (hq 0 σ H h0).1, (hq 0 σ H h0).2, by
  refine ⟨fun i m σ H => m = xs.length - i ∧ i ≤ xs.length ∧ Pv i σ H, ⟨xs.length, rfl, Nat.zero_le _, h0⟩, ?_⟩
  rintro i m σ H ⟨rfl, hi, p⟩
  obtain ⟨qx, qy⟩ := hq i σ H p
  by_cases hlt : i < xs.length
  · have hx : xs[i]? = some xs[i] := List.getElem?_eq_getElem hlt
    have hlt2 : i < ys.length := by omega
    have hy : ys[i]? = some ys[i] := List.getElem?_eq_getElem hlt2
    refine .inr ⟨⟨xs, ys, _, _, qx, qy, hx, hy⟩, Pv (i + 1), fun σ' H' p' => ⟨xs.length - (i + 1), by omega, rfl, hlt, p'⟩, fun v H' y => ?_⟩
    obtain ⟨T, x', y', rfl, hT, rfl, f1, f2⟩ := y
    exact hs i x' y' T σ H (f1 xs qx) (f2 ys qy) p hT
  · have e : i = xs.length := by omega
    subst e
    exact .inl ⟨⟨xs, ys, qx, qy, Or.inl (Nat.le_refl _)⟩, hd σ H p⟩⟩
end
/-- tuples of whole numbers -/
theorem shaped_tup (l : List Int) : SeqAt.shaped (.tuple (l.map PyData.int)) = true := by
  have h := PySem.W.ke_shaped_ints l
  unfold SeqAt.shaped at *
  simpa [PyData.canLay0, PyData.depth] using h
theorem eqv_tup (l m : List Int) : PyData.eqv (.tuple (l.map PyData.int)) (.tuple (m.map PyData.int)) = decide (l = m) := by
  simp only [PyData.eqv]
  exact eqv_ivsA l m
theorem q_eqT {K : PySem.W.Frag} {H : Hp} {a b : Addr} {l m : List Int} {Q : VK} (ha : SqT K H a (ivs l)) (hb : SqT K H b (ivs m)) (q : Q (.bl (decide (l = m))) H) : rEqD K (.ref a) (.ref b) H Q :=
  ⟨_, _, .tup ha (dp_ivsA l), .tup hb (dp_ivsA m), shaped_tup l, shaped_tup m, by rw [eqv_tup]; exact q⟩
theorem q_neT {K : PySem.W.Frag} {H : Hp} {a b : Addr} {l m : List Int} {Q : VK} (ha : SqT K H a (ivs l)) (hb : SqT K H b (ivs m)) (q : Q (.bl (!decide (l = m))) H) : rNeD K (.ref a) (.ref b) H Q :=
  ⟨_, _, .tup ha (dp_ivsA l), .tup hb (dp_ivsA m), shaped_tup l, shaped_tup m, by rw [eqv_tup]; exact q⟩
end Sky

/-! Rw: further answers: list.index, reversed(range(n)), comprehensions over range(a, b) with a test. -/
namespace Sky
open PySem PySem.Spec PyProof.Rows L2
theorem mt_indexK {X : Cx} {K : PySem.W.Frag} (e : X.K = K := by rfl) : MtR X "list.index" (rIndex K) := e ▸ mt_index
theorem flat_ivs (l : List Int) : (ivs l).all flatV = true := by
  rw [List.all_eq_true]
  intro x hx
  obtain ⟨i, _, rfl⟩ := List.mem_map.mp hx
  rfl
theorem eqV_int (a b : Int) : eqV (.int a) (.int b) = decide (a = b) := by
  show (a == b) = decide (a = b)
  rw [Bool.eq_iff_iff]
  simp
theorem q_index {K : PySem.W.Frag} {H : Hp} {Q : VK} {a : Addr} {l : List Int} {m : Int} {j : Nat} (h : SqL K H a (ivs l)) (hj : j < l.length) (e : g l j = m) (no : ∀ k, k < j → g l k ≠ m) (q : Q (.int (j : Nat)) H) :
    tyV K "list" (.ref a) H ∧ rIndex K (.ref a) [.int m] H Q := by
  refine ⟨.inl ⟨rfl, _, h⟩, a, ivs l, .int m, j, .int (g l j), rfl, rfl, h, rfl, flat_ivs l, ivs_at hj, ?_, fun k z hk hz => ?_, q⟩
  · rw [eqV_int, e]
    exact decide_eq_true rfl
  · obtain ⟨hk2, rfl⟩ := of_ivs hz
    rw [eqV_int]
    exact decide_eq_false (no k hk)
section
variable {σ : L2.St} {H : Hp} {K : PySem.W.Frag} {a b : Addr} {tl : TA} {te : TE} {tb : TS} {D : Ends} {Q : VK} {j : Nat} {vs : List Nat} {tt : TT}
/-- for place in reversed(range(n)) -/
theorem q_forV {n : Nat} (ha : ∀ R : VK, R (V.int (n : Int)) H → te σ H R) (hn : n ≤ 100000) (Pv : Nat → L2.St → Hp → Prop) (h0 : Pv 0 σ H)
    (hs : ∀ (i : Nat) (σ : L2.St) (H : Hp), i < n → Pv i σ H → tb { D with nx := Pv (i + 1), ct := Pv (i + 1), bk := D.nx } (σ.set j (some (.int ((n - 1 - i : Nat) : Int)))) H) (hd : ∀ σ H, Pv n σ H → D.nx σ H) :
    tFor (iRevR (tRg1 te)) (gName j) tb D σ H := ha _ ⟨n, rfl, by omega, by omega, by omega, by omega, by
      have e : ((n : Int) - 0).toNat = n := by omega
      rw [e]
      refine for_rangeC (n := n) Pv h0 (fun i σ' H' hi p => ?_) hd
      have e2 : (0 : Int) + (n : Int) - 1 + (i : Int) * (-1) = ((n - 1 - i : Nat) : Int) := by omega
      rw [e2]
      exact hs i σ' H' hi p⟩
/-- [v(i) for i in range(lo, n) if f(i)] -/
theorem q_lcRF2 {lo n : Nat} (f : Nat → Bool) (v : Nat → V) (ha : ∀ R, R [V.int (lo : Int), V.int (n : Int)] H → tl σ H R) (hn : lo ≤ n ∧ n ≤ 50000) (hw : ∀ x, wipe ((wipe σ vs).set j (some x)) vs = wipe σ vs)
    (ht : ∀ (i : Nat) (H' : Hp) (R : Bool → Hp → Prop), lo ≤ i → i < n → Same H H' → (∀ H'', Same H' H'' → R (f i) H'') → tt ((wipe σ vs).set j (some (.int (i : Int)))) H' R)
    (he : ∀ (i : Nat) (H' : Hp) (Q' : VK), lo ≤ i → i < n → f i = true → Same H H' → (∀ H'', Same H' H'' → Q' (v i) H'') → te ((wipe σ vs).set j (some (.int (i : Int)))) H' Q')
    (q : ∀ D H', H D = none → Same H H' → H' D = some (.lst (kept (n - lo) (fun i => f (lo + i)) (fun i => v (lo + i)))) → Q (.ref D) H') :
    tLc (iRng2 tl) (gName j) tt te vs σ H Q := ha _ ⟨lo, n, rfl, ⟨by omega, by omega, by omega, by omega⟩, fun D hD => by
      have e : ((n : Int) - (lo : Int)).toNat = n - lo := by omega
      rw [e]
      refine lc_range (lo := (lo : Int)) (n := n - lo) (fun i H' => Same H H' ∧ H' D = some (.lst (kept i (fun i => f (lo + i)) (fun i => v (lo + i))))) ⟨same_new hD, upd_same⟩ (fun i H' hi p => ?_) (fun H' p => ?_)
      · have e2 : (lo : Int) + (i : Int) = ((lo + i : Nat) : Int) := by omega
        simp only [e2]
        refine ⟨hw _, ht (lo + i) H' _ (by omega) (by omega) p.1 fun H2 s2 => ?_⟩
        have hd := s2 _ _ p.2
        cases hf : f (lo + i) with
        | true =>
          refine iteT (he (lo + i) H2 _ (by omega) (by omega) hf (p.1.trans s2) fun H3 s3 => ?_)
          exact ⟨_, s3 _ _ hd, sz_lt (by have := kept_len i (fun i => f (lo + i)) (fun i => v (lo + i)); omega), same_mut ((p.1.trans s2).trans s3) hD, by rw [upd_same, kept_yes (n := i) (f := fun i => f (lo + i)) hf]⟩
        | false =>
          refine iteF ⟨p.1.trans s2, ?_⟩
          rw [kept_no (n := i) (f := fun i => f (lo + i)) hf]
          exact hd
      · exact q D H' hD p.1 p.2⟩
end
end Sky

/-! Rl: comprehensions that make lists of new lists; loops over a list with any target; in. -/
namespace Sky
open PySem PySem.Spec PyProof.Rows L2
section
variable {σ : L2.St} {H : Hp} {K : PySem.W.Frag} {a b : Addr} {xs ys : List V} {tl : TA} {tx te : TE} {Q : VK} {j k : Nat} {vs : List Nat} {gt : TG}
/-- lists at the places ts: each of its own, as L tells it -/
structure Lls (H0 H : Hp) (L : Nat → List Int) (D : Addr) (ts : List Addr) : Prop where
  nd : ts.Nodup
  nD : D ∉ ts
  fr : ∀ t ∈ ts, H0 t = none
  at_ : ∀ (m : Nat) (t : Addr), ts[m]? = some t → H t = some (.lst (ivs (L m)))
theorem Lls.more {H0 H H' : Hp} {L : Nat → List Int} {D : Addr} {ts : List Addr} (h : Lls H0 H L D ts) (s : Same H H') : Lls H0 H' L D ts := ⟨h.nd, h.nD, h.fr, fun m t e => s _ _ (h.at_ m t e)⟩
def LcL (L : Nat → List Int) (H : Hp) (D : Addr) (i : Nat) (H' : Hp) : Prop := H D = none ∧ Same H H' ∧ ∃ ts : List Addr, H' D = some (.lst (ts.map V.ref)) ∧ ts.length = i ∧ Lls H H' L D ts
theorem lcL_zero (L : Nat → List Int) {D : Addr} (h : H D = none) : LcL L H D 0 (upd H D (.lst [])) :=
  ⟨h, same_new h, [], upd_same, rfl, List.nodup_nil, by simp, by simp, fun m t e => by simp at e⟩
theorem lcL_more {L : Nat → List Int} {D : Addr} {i : Nat} {H1 H2 : Hp} {t : Addr} (h : LcL L H D i H1) (hi : i < 100000) (s : Same H1 H2) (nt : H1 t = none) (p : H2 t = some (.lst (ivs (L i)))) :
    ∃ acc, H2 D = some (.lst acc) ∧ acc.length < sizeLine ∧ LcL L H D (i + 1) (upd H2 D (.lst (acc ++ [V.ref t]))) := by
  obtain ⟨h1, h2, ts, h3, h4, h5⟩ := h
  have e := s _ _ h3
  have tD : t ≠ D := (ne_of_none h3 nt).symm
  have tts : t ∉ ts := fun m => by
    obtain ⟨k, hk, ek⟩ := List.getElem_of_mem m
    have := h5.at_ k t (by rw [List.getElem?_eq_getElem hk, ek])
    rw [nt] at this
    cases this
  refine ⟨_, e, by rw [List.length_map, h4]; exact sz_lt hi, h1, same_mut (h2.trans s) h1, ts ++ [t], ?_, by rw [List.length_append, h4]; rfl, ?_, ?_, ?_, fun m u hm => ?_⟩
  · rw [upd_same, List.map_append]
    rfl
  · rw [List.nodup_append]
    refine ⟨h5.nd, by simp, fun x hx y hy => ?_⟩
    have : y = t := by simpa using hy
    subst this
    intro e
    subst e
    exact tts hx
  · intro m
    rcases List.mem_append.mp m with m | m
    · exact h5.nD m
    · exact tD ((by simpa using m : D = t).symm)
  · intro u hu
    rcases List.mem_append.mp hu with m | m
    · exact h5.fr u m
    · have : u = t := by simpa using m
      subst this
      exact h2.free nt
  · by_cases c : m < i
    · rw [List.getElem?_append_left (by omega)] at hm
      have uD : u ≠ D := fun e => h5.nD (e ▸ List.mem_of_getElem? hm)
      rw [upd_ne uD]
      exact s _ _ (h5.at_ m u hm)
    · have e2 : m = i := by
        have := (List.getElem?_eq_some_iff.mp hm).1
        rw [List.length_append, h4] at this
        simp at this
        omega
      subst e2
      rw [List.getElem?_append_right (by omega), h4] at hm
      simp at hm
      subst hm
      rw [upd_ne tD]
      exact p
abbrev LlEnd (L : Nat → List Int) (H : Hp) (n : Nat) (Q : VK) : Prop := ∀ D H' ts, H D = none → Same H H' → H' D = some (.lst (ts.map V.ref)) → ts.length = n → Lls H H' L D ts → Q (.ref D) H'
/-- [a new list for i in range(n)] -/
theorem q_lcRL {n : Nat} (L : Nat → List Int) (ha : ∀ R, R [V.int (n : Int)] H → tl σ H R) (hn : n ≤ 50000) (hw : ∀ x, wipe ((wipe σ vs).set j (some x)) vs = wipe σ vs)
    (he : ∀ (i : Nat) (H' : Hp) (Q' : VK), i < n → Same H H' → (∀ t H'', H' t = none → Same H' H'' → H'' t = some (.lst (ivs (L i))) → Q' (.ref t) H'') → te ((wipe σ vs).set j (some (.int (i : Int)))) H' Q') (q : LlEnd L H n Q) :
    tLc (iRng1 tl) (gName j) tYes te vs σ H Q := ha _ ⟨n, rfl, by omega, by omega, fun D hD => by
      rw [Int.toNat_natCast]
      refine lc_range (lo := 0) (n := n) (LcL L H D) (lcL_zero L hD) (fun i H' hi p => ?_) (fun H' p => ?_)
      · show wipe ((wipe σ vs).set j (some (.int ((0 : Int) + (i : Int))))) vs = wipe σ vs ∧ tYes ((wipe σ vs).set j (some (.int ((0 : Int) + (i : Int))))) H' fun b H3 => if b = true then te ((wipe σ vs).set j (some (.int ((0 : Int) + (i : Int))))) H3 fun y H4 => ∃ acc, H4 D = some (.lst acc) ∧ acc.length < sizeLine ∧ LcL L H D (i + 1) (upd H4 D (.lst (acc ++ [y]))) else LcL L H D (i + 1) H3
        rw [Int.zero_add]
        refine ⟨hw _, ?_⟩
        simp only [e_yes, if_true]
        exact he i H' _ hi p.2.1 fun t H'' nt s pt => lcL_more p (by omega) s nt pt
      · obtain ⟨h1, h2, ts, h3, h4, h5⟩ := p
        exact q D H' ts h1 h2 h3 h4 h5⟩
/-- [a new list for x in a list] -/
theorem q_lcLL (L : Nat → List Int) (ha : ∀ R : VK, R (V.ref a) H → tx σ H R) (hx : SqL K H a xs) (hn : xs.length ≤ 50000) (hw : ∀ x, wipe ((wipe σ vs).set j (some x)) vs = wipe σ vs)
    (he : ∀ (i : Nat) (x : V) (H' : Hp) (Q' : VK), xs[i]? = some x → Same H H' → (∀ t H'', H' t = none → Same H' H'' → H'' t = some (.lst (ivs (L i))) → Q' (.ref t) H'') → te ((wipe σ vs).set j (some x)) H' Q') (q : LlEnd L H xs.length Q) :
    tLc (iList K tx) (gName j) tYes te vs σ H Q := ha _ ⟨a, rfl, ⟨xs, hx⟩, fun D hD => by
      refine lc_list (xs := xs) (LcL L H D) (lcL_zero L hD) (fun i H' _ p => p.2.1.seq hx) (fun i x H' hi p => ?_) (fun H' p => ?_)
      · have lt := (List.getElem?_eq_some_iff.mp hi).1
        refine ⟨hw _, ?_⟩
        simp only [e_yes, if_true, e_name]
        exact he i x H' _ hi p.2.1 fun t H'' nt s pt => lcL_more p (by omega) s nt pt
      · obtain ⟨h1, h2, ts, h3, h4, h5⟩ := p
        exact q D H' ts h1 h2 h3 h4 h5⟩
end
section
variable {σ : L2.St} {H : Hp} {K : PySem.W.Frag} {a : Addr} {xs : List V} {te : TE} {tb : TS} {D : Ends} {gt : TG} {Q : VK}
theorem q_forG (ha : ∀ R : VK, R (V.ref a) H → te σ H R) (Pv : Nat → L2.St → Hp → Prop) (h0 : Pv 0 σ H) (hq : ∀ i σ H, Pv i σ H → SqL K H a xs)
    (hs : ∀ (i : Nat) (x : V) (σ : L2.St) (H : Hp), xs[i]? = some x → Pv i σ H → gt x σ H fun σ2 H2 => tb { D with nx := Pv (i + 1), ct := Pv (i + 1), bk := D.nx } σ2 H2) (hd : ∀ σ H, Pv xs.length σ H → D.nx σ H) :
    tFor (iList K te) gt tb D σ H := ha _ ⟨a, rfl, ⟨xs, hq 0 σ H h0⟩, for_list Pv h0 (fun i σ H _ p => hq i σ H p) hs hd⟩
/-- a loop over a list that is made for it: the list first, then forA -/
def forA (K : PySem.W.Frag) (g : TG) (tb : TS) (D : Ends) (σ : L2.St) (x : V) (H1 : Hp) : Prop := ∃ a, x = .ref a ∧ (∃ xs, SqL K H1 a xs) ∧ ∃ W : Nat → Nat → L2.St → Hp → Prop, (∃ m, W 0 m σ H1) ∧ ∀ i m σ H, W i m σ H →
  ((Itl K a).stop i H ∧ D.nx σ H) ∨ ((Itl K a).go i H ∧ ∃ N : L2.St → Hp → Prop, (∀ σ' H', N σ' H' → ∃ m', m' < m ∧ W (i + 1) m' σ' H') ∧ ∀ x H', (Itl K a).yld i H x H' → g x σ H' fun σ2 H2 => tb { D with nx := N, ct := N, bk := D.nx } σ2 H2)
theorem e_forA : tFor (iList K te) gt tb D σ H = te σ H fun x H1 => forA K gt tb D σ x H1 := rfl
theorem q_forA (Pv : Nat → L2.St → Hp → Prop) (h0 : Pv 0 σ H) (hq : ∀ i σ H, Pv i σ H → SqL K H a xs)
    (hs : ∀ (i : Nat) (x : V) (σ : L2.St) (H : Hp), xs[i]? = some x → Pv i σ H → gt x σ H fun σ2 H2 => tb { D with nx := Pv (i + 1), ct := Pv (i + 1), bk := D.nx } σ2 H2) (hd : ∀ σ H, Pv xs.length σ H → D.nx σ H) :
    forA K gt tb D σ (.ref a) H := ⟨a, rfl, ⟨xs, hq 0 σ H h0⟩, for_list Pv h0 (fun i σ H _ p => hq i σ H p) hs hd⟩
theorem inV_ivs (m : Int) : ∀ l : List Int, inV (.int m) (ivs l) = decide (m ∈ l)
  | [] => by simp [inV]
  | x :: r => by
    have ih := inV_ivs m r
    unfold inV at ih ⊢
    rw [show ivs (x :: r) = V.int x :: ivs r from rfl, List.any_cons, ih, eqV_int, Bool.eq_iff_iff]
    simp only [Bool.or_eq_true, decide_eq_true_eq, List.mem_cons]
    constructor
    · rintro (e | e)
      · exact .inl e.symm
      · exact .inr e
    · rintro (e | e)
      · exact .inl e.symm
      · exact .inr e
theorem q_in {l : List Int} {m : Int} (h : SqL K H a (ivs l)) (q : Q (.bl (decide (m ∈ l))) H) : rIn K false (.int m) (.ref a) H Q :=
  ⟨a, _, rfl, .inl h, rfl, flat_ivs l, by rw [inV_ivs]; exact q⟩
end
end Sky

/-! P0: the text by places, what its top holds. -/
namespace Sky
open PySem PySem.Spec PyProof.Rows L2
def top (i : Nat) : Stmt := PySem.Challenge.pw_skybars_k09_refused.main.body.getD i (.Pass ⟨0, 0, 0, 0⟩)
structure Cl where
  Answer : Addr
  Board : Addr
  Row : Addr
  Crossed : Addr
  BarError : Addr
  BadBars : Addr
  NoBar : Addr
  BadPlace : Addr
  BadTree : Addr
  BadLinks : Addr
structure Txt (K : PySem.W.Frag) (mg : Str → Option Value) (CL : Cl) : Prop where
  m_len : mg "len" = none
  m_isinstance : mg "isinstance" = none
  m_all : mg "all" = none
  m_sum : mg "sum" = none
  m_max : mg "max" = none
  m_min : mg "min" = none
  m_list : mg "list" = none
  m_int : mg "int" = none
  m_bool : mg "bool" = none
  m_range : mg "range" = none
  m_enumerate : mg "enumerate" = none
  m_zip : mg "zip" = none
  m_reversed : mg "reversed" = none
  m_ValueError : mg "ValueError" = none
  c_HIGHEST : ∃ t, mg "HIGHEST" = some (.int 10000000 t)
  c_BarError : mg "BarError" = some (.ref CL.BarError)
  xi_BarError : PySem.W.excIn K CL.BarError [.type "ValueError", .type "Exception", .type "BaseException", .type "object"] "ValueError.__new__" = true
  kx_BarError : PySem.W.keepIn K (.ref CL.BarError) = true
  bx_BarError : PySem.W.subIn K (.ref CL.BarError) (.type "BaseException") = some true
  tx_BarError : PySem.W.typeIn K (.ref CL.BarError) = some (.type "type")
  ec_BarError : ExcC K CL.BarError
  em_BarError : PySem.W.exmOne K (.ref CL.BarError) (.ref CL.BarError) = some true
  kv_BarError : PySem.W.kitOne K (.ref CL.BarError) (.type "ValueError") = some true
  ke_BarError_BarError : PySem.W.kitOne K (.ref CL.BarError) (.ref CL.BarError) = some true
  ke_BarError_BadBars : PySem.W.kitOne K (.ref CL.BarError) (.ref CL.BadBars) = some false
  ke_BarError_NoBar : PySem.W.kitOne K (.ref CL.BarError) (.ref CL.NoBar) = some false
  ke_BarError_BadPlace : PySem.W.kitOne K (.ref CL.BarError) (.ref CL.BadPlace) = some false
  ke_BarError_BadTree : PySem.W.kitOne K (.ref CL.BarError) (.ref CL.BadTree) = some false
  ke_BarError_BadLinks : PySem.W.kitOne K (.ref CL.BarError) (.ref CL.BadLinks) = some false
  c_BadBars : mg "BadBars" = some (.ref CL.BadBars)
  xi_BadBars : PySem.W.excIn K CL.BadBars [.type "ValueError", .type "Exception", .type "BaseException", .type "object"] "ValueError.__new__" = true
  kx_BadBars : PySem.W.keepIn K (.ref CL.BadBars) = true
  bx_BadBars : PySem.W.subIn K (.ref CL.BadBars) (.type "BaseException") = some true
  tx_BadBars : PySem.W.typeIn K (.ref CL.BadBars) = some (.type "type")
  ec_BadBars : ExcC K CL.BadBars
  em_BadBars : PySem.W.exmOne K (.ref CL.BadBars) (.ref CL.BarError) = some true
  kv_BadBars : PySem.W.kitOne K (.ref CL.BadBars) (.type "ValueError") = some true
  ke_BadBars_BarError : PySem.W.kitOne K (.ref CL.BadBars) (.ref CL.BarError) = some true
  ke_BadBars_BadBars : PySem.W.kitOne K (.ref CL.BadBars) (.ref CL.BadBars) = some true
  ke_BadBars_NoBar : PySem.W.kitOne K (.ref CL.BadBars) (.ref CL.NoBar) = some false
  ke_BadBars_BadPlace : PySem.W.kitOne K (.ref CL.BadBars) (.ref CL.BadPlace) = some false
  ke_BadBars_BadTree : PySem.W.kitOne K (.ref CL.BadBars) (.ref CL.BadTree) = some false
  ke_BadBars_BadLinks : PySem.W.kitOne K (.ref CL.BadBars) (.ref CL.BadLinks) = some false
  c_NoBar : mg "NoBar" = some (.ref CL.NoBar)
  xi_NoBar : PySem.W.excIn K CL.NoBar [.type "ValueError", .type "Exception", .type "BaseException", .type "object"] "ValueError.__new__" = true
  kx_NoBar : PySem.W.keepIn K (.ref CL.NoBar) = true
  bx_NoBar : PySem.W.subIn K (.ref CL.NoBar) (.type "BaseException") = some true
  tx_NoBar : PySem.W.typeIn K (.ref CL.NoBar) = some (.type "type")
  ec_NoBar : ExcC K CL.NoBar
  em_NoBar : PySem.W.exmOne K (.ref CL.NoBar) (.ref CL.BarError) = some true
  kv_NoBar : PySem.W.kitOne K (.ref CL.NoBar) (.type "ValueError") = some true
  ke_NoBar_BarError : PySem.W.kitOne K (.ref CL.NoBar) (.ref CL.BarError) = some true
  ke_NoBar_BadBars : PySem.W.kitOne K (.ref CL.NoBar) (.ref CL.BadBars) = some false
  ke_NoBar_NoBar : PySem.W.kitOne K (.ref CL.NoBar) (.ref CL.NoBar) = some true
  ke_NoBar_BadPlace : PySem.W.kitOne K (.ref CL.NoBar) (.ref CL.BadPlace) = some false
  ke_NoBar_BadTree : PySem.W.kitOne K (.ref CL.NoBar) (.ref CL.BadTree) = some false
  ke_NoBar_BadLinks : PySem.W.kitOne K (.ref CL.NoBar) (.ref CL.BadLinks) = some false
  c_BadPlace : mg "BadPlace" = some (.ref CL.BadPlace)
  xi_BadPlace : PySem.W.excIn K CL.BadPlace [.type "ValueError", .type "Exception", .type "BaseException", .type "object"] "ValueError.__new__" = true
  kx_BadPlace : PySem.W.keepIn K (.ref CL.BadPlace) = true
  bx_BadPlace : PySem.W.subIn K (.ref CL.BadPlace) (.type "BaseException") = some true
  tx_BadPlace : PySem.W.typeIn K (.ref CL.BadPlace) = some (.type "type")
  ec_BadPlace : ExcC K CL.BadPlace
  em_BadPlace : PySem.W.exmOne K (.ref CL.BadPlace) (.ref CL.BarError) = some true
  kv_BadPlace : PySem.W.kitOne K (.ref CL.BadPlace) (.type "ValueError") = some true
  ke_BadPlace_BarError : PySem.W.kitOne K (.ref CL.BadPlace) (.ref CL.BarError) = some true
  ke_BadPlace_BadBars : PySem.W.kitOne K (.ref CL.BadPlace) (.ref CL.BadBars) = some false
  ke_BadPlace_NoBar : PySem.W.kitOne K (.ref CL.BadPlace) (.ref CL.NoBar) = some false
  ke_BadPlace_BadPlace : PySem.W.kitOne K (.ref CL.BadPlace) (.ref CL.BadPlace) = some true
  ke_BadPlace_BadTree : PySem.W.kitOne K (.ref CL.BadPlace) (.ref CL.BadTree) = some false
  ke_BadPlace_BadLinks : PySem.W.kitOne K (.ref CL.BadPlace) (.ref CL.BadLinks) = some false
  c_BadTree : mg "BadTree" = some (.ref CL.BadTree)
  xi_BadTree : PySem.W.excIn K CL.BadTree [.type "ValueError", .type "Exception", .type "BaseException", .type "object"] "ValueError.__new__" = true
  kx_BadTree : PySem.W.keepIn K (.ref CL.BadTree) = true
  bx_BadTree : PySem.W.subIn K (.ref CL.BadTree) (.type "BaseException") = some true
  tx_BadTree : PySem.W.typeIn K (.ref CL.BadTree) = some (.type "type")
  ec_BadTree : ExcC K CL.BadTree
  em_BadTree : PySem.W.exmOne K (.ref CL.BadTree) (.ref CL.BarError) = some true
  kv_BadTree : PySem.W.kitOne K (.ref CL.BadTree) (.type "ValueError") = some true
  ke_BadTree_BarError : PySem.W.kitOne K (.ref CL.BadTree) (.ref CL.BarError) = some true
  ke_BadTree_BadBars : PySem.W.kitOne K (.ref CL.BadTree) (.ref CL.BadBars) = some false
  ke_BadTree_NoBar : PySem.W.kitOne K (.ref CL.BadTree) (.ref CL.NoBar) = some false
  ke_BadTree_BadPlace : PySem.W.kitOne K (.ref CL.BadTree) (.ref CL.BadPlace) = some false
  ke_BadTree_BadTree : PySem.W.kitOne K (.ref CL.BadTree) (.ref CL.BadTree) = some true
  ke_BadTree_BadLinks : PySem.W.kitOne K (.ref CL.BadTree) (.ref CL.BadLinks) = some false
  c_BadLinks : mg "BadLinks" = some (.ref CL.BadLinks)
  xi_BadLinks : PySem.W.excIn K CL.BadLinks [.type "ValueError", .type "Exception", .type "BaseException", .type "object"] "ValueError.__new__" = true
  kx_BadLinks : PySem.W.keepIn K (.ref CL.BadLinks) = true
  bx_BadLinks : PySem.W.subIn K (.ref CL.BadLinks) (.type "BaseException") = some true
  tx_BadLinks : PySem.W.typeIn K (.ref CL.BadLinks) = some (.type "type")
  ec_BadLinks : ExcC K CL.BadLinks
  em_BadLinks : PySem.W.exmOne K (.ref CL.BadLinks) (.ref CL.BarError) = some true
  kv_BadLinks : PySem.W.kitOne K (.ref CL.BadLinks) (.type "ValueError") = some true
  ke_BadLinks_BarError : PySem.W.kitOne K (.ref CL.BadLinks) (.ref CL.BarError) = some true
  ke_BadLinks_BadBars : PySem.W.kitOne K (.ref CL.BadLinks) (.ref CL.BadBars) = some false
  ke_BadLinks_NoBar : PySem.W.kitOne K (.ref CL.BadLinks) (.ref CL.NoBar) = some false
  ke_BadLinks_BadPlace : PySem.W.kitOne K (.ref CL.BadLinks) (.ref CL.BadPlace) = some false
  ke_BadLinks_BadTree : PySem.W.kitOne K (.ref CL.BadLinks) (.ref CL.BadTree) = some false
  ke_BadLinks_BadLinks : PySem.W.kitOne K (.ref CL.BadLinks) (.ref CL.BadLinks) = some true
  c_Answer : mg "Answer" = some (.ref CL.Answer)
  cl_Answer : Cls K CL.Answer
  ic_Answer : InsO K CL.Answer
  ki_Answer_Board : PySem.W.kitOne K (.ref CL.Answer) (.ref CL.Board) = some false
  ki_Answer_Row : PySem.W.kitOne K (.ref CL.Answer) (.ref CL.Row) = some false
  ki_Answer_Crossed : PySem.W.kitOne K (.ref CL.Answer) (.ref CL.Crossed) = some false
  c_Board : mg "Board" = some (.ref CL.Board)
  cl_Board : Cls K CL.Board
  ic_Board : InsO K CL.Board
  na_Board_first : NoAttr K CL.Board "first"
  na_Board_many : NoAttr K CL.Board "many"
  na_Board_high : NoAttr K CL.Board "high"
  na_Board_around : NoAttr K CL.Board "around"
  ki_Board_Answer : PySem.W.kitOne K (.ref CL.Board) (.ref CL.Answer) = some true
  ki_Board_Row : PySem.W.kitOne K (.ref CL.Board) (.ref CL.Row) = some false
  ki_Board_Crossed : PySem.W.kitOne K (.ref CL.Board) (.ref CL.Crossed) = some false
  c_Row : mg "Row" = some (.ref CL.Row)
  cl_Row : Cls K CL.Row
  ic_Row : InsO K CL.Row
  na_Row_bars : NoAttr K CL.Row "bars"
  ki_Row_Answer : PySem.W.kitOne K (.ref CL.Row) (.ref CL.Answer) = some true
  ki_Row_Board : PySem.W.kitOne K (.ref CL.Row) (.ref CL.Board) = some false
  ki_Row_Crossed : PySem.W.kitOne K (.ref CL.Row) (.ref CL.Crossed) = some false
  c_Crossed : mg "Crossed" = some (.ref CL.Crossed)
  cl_Crossed : Cls K CL.Crossed
  ic_Crossed : InsO K CL.Crossed
  na_Crossed_first : NoAttr K CL.Crossed "first"
  na_Crossed_second : NoAttr K CL.Crossed "second"
  ki_Crossed_Answer : PySem.W.kitOne K (.ref CL.Crossed) (.ref CL.Answer) = some true
  ki_Crossed_Board : PySem.W.kitOne K (.ref CL.Crossed) (.ref CL.Board) = some false
  ki_Crossed_Row : PySem.W.kitOne K (.ref CL.Crossed) (.ref CL.Row) = some false

end Sky

/-! P9: is_number, asked_bars: for things of any kind. -/
namespace Sky
open PySem PySem.Spec PyProof.Rows L2
local macro_rules | `(tactic| walk_at "sx") => `(tactic| try simp only [e_K, e_seq, e_asg, e_name, e_drop, e_ret, e_retN, e_ifs, e_next, e_var, e_c, e_op, e_un, e_rI0, e_rI, e_rU, e_test, e_B, e_bl, e_and, e_or, e_not, e_andV, e_orV, e_notV, e_if, e_CB, e_CKw, e_cons, e_nil, e_call,
  e_chn, e_cCons, e_cOne, e_BM, e_BM0, e_sub, e_par, e_ls, e_noP, e_part, e_intx, e_refx, e_yes, e_get0, e_getS, e_sl, List.set_cons_zero, List.set_cons_succ, List.cons_append, List.nil_append, List.append_nil, Bool.not_true, Bool.not_false, e_lst, e_tup, e_rev, e_eqi, e_nei, decide_true, decide_false, if_true, Bool.false_eq_true, if_false, e_callS, e_callE, e_any, e_fld, e_sfld, e_meth, e_make, e_par3])
local macro_rules | `(tactic| walk_at "sy") => `(tactic| try simp (config := { implicitDefEqProofs := false }) only [e_K, e_seq, e_asg, e_name, e_drop, e_ret, e_retN, e_ifs, e_next, e_var, e_c, e_op, e_un, e_rI0, e_rI, e_rU, e_test, e_B, e_bl, e_and, e_or, e_not, e_andV, e_orV, e_notV, e_if, e_CB, e_CKw, e_cons, e_nil, e_call,
  e_chn, e_cCons, e_cOne, e_BM, e_BM0, e_sub, e_par, e_ls, e_noP, e_part, e_intx, e_refx, e_yes, e_get0, e_getS, e_sl, List.set_cons_zero, List.set_cons_succ, List.cons_append, List.nil_append, List.append_nil, Bool.not_true, Bool.not_false, e_lst, e_tup, e_rev, e_eqi, e_nei, decide_true, decide_false, if_true, Bool.false_eq_true, if_false, e_callS, e_callE, e_any, e_fld, e_sfld, e_meth, e_make, e_par3])
/-- a flat thing -/
def Fl (x : V) : Prop := x = .non ∨ (∃ b, x = .bl b) ∨ (∃ i, x = .int i) ∨ ∃ s, x = .str s
def nb : V → Int → Int → Bool
  | .int i, lo, hi => decide (lo ≤ i ∧ i ≤ hi)
  | _, _, _ => false
/-- no list -/
def NotL (K : PySem.W.Frag) (H : Hp) (x : V) : Prop := Fl x ∨ ∃ t xs, x = .ref t ∧ SqT K H t xs
theorem kb_ni : kitB "NoneType" "int" = some false := by decide +kernel
theorem kb_si : kitB "str" "int" = some false := by decide +kernel
theorem kb_ti : kitB "tuple" "int" = some false := by decide +kernel
theorem kb_nl : kitB "NoneType" "list" = some false := by decide +kernel
theorem kb_bl : kitB "bool" "list" = some false := by decide +kernel
theorem kb_il : kitB "int" "list" = some false := by decide +kernel
theorem kb_sl : kitB "str" "list" = some false := by decide +kernel
theorem kb_tl : kitB "tuple" "list" = some false := by decide +kernel
theorem tyx_non {K : PySem.W.Frag} {H : Hp} : TyX K H .non (.type "NoneType") := .base .non
theorem tyx_str {K : PySem.W.Frag} {H : Hp} {s : Str} : TyX K H (.str s) (.type "str") := .base (.str s)
theorem q_notL {K : PySem.W.Frag} {H : Hp} {x : V} {Q : VK} (h : NotL K H x) (q : Q (.bl false) H) : rIsi K [x, .ty "list"] H Q := by
  rcases h with (rfl | ⟨b, rfl⟩ | ⟨i, rfl⟩ | ⟨s, rfl⟩) | ⟨t, xs, rfl, h⟩
  · exact q_isi tyx_non kb_nl q
  · exact q_isi tyx_bl kb_bl q
  · exact q_isi tyx_int kb_il q
  · exact q_isi tyx_str kb_sl q
  · exact q_isi (tyx_tup h) kb_tl q
theorem NotL.more {K : PySem.W.Frag} {H H' : Hp} {x : V} (h : NotL K H x) (s : Same H H') : NotL K H' x := by
  rcases h with h | ⟨t, xs, e, h⟩
  · exact .inl h
  · exact .inr ⟨t, xs, e, same_seqT s h⟩
abbrev s_is_number : Stmt := top 10
abbrev N_is_number : List Str := ["thing", "least", "most"]
theorem sc_is_number : FnScope ["thing", "least", "most"] ["thing", "least", "most"] (defScope s_is_number) := ⟨rfl, rfl, rfl, by decide +kernel, rfl, by decide +kernel, by decide +kernel⟩
def sp_is_number (K : PySem.W.Frag) : Sp := Sp3 fun x y z H Q _ => ∃ lo hi : Int, y = .int lo ∧ z = .int hi ∧ NotL K H x ∧ Q (.bl (nb x lo hi)) H
theorem ok_is_number {P : Program} {w : World} {K : PySem.W.Frag} {mg : Str → Option Value} {base : Heap} {CL : Cl} (D : Def K mg "is_number" ["thing", "least", "most"] s_is_number) (T : Txt K mg CL)  : Has P w K mg base CX0 1 "is_number" ["thing", "least", "most"] (sp_is_number K) := by
  obtain ⟨f, fd, gm, F, bb⟩ := D
  refine ⟨f, fd, gm, F.ok sc_is_number (fun vs H Q E h => ?_) (fun cdv A outer s H vs Q E hr h => ?_), F.kp, bb⟩
  · obtain ⟨x1, x2, x3, rfl, _⟩ := h
    rfl
  obtain ⟨x1, x2, x3, rfl, h⟩ := h
  refine ⟨_, (pss_one (ps_ret (pe_and (pe_callB (isiK (K := K)) (by rfl) T.m_isinstance bt_isinstance (pa_cons (pv 0) (pa_cons (pe_bltn (v := V.ty "int") (by rfl) T.m_int bt_int rfl) pa_nil))) (pe_and (pe_not (pe_callB (isiK (K := K)) (by rfl) T.m_isinstance bt_isinstance (pa_cons (pv 0) (pa_cons (pe_bltn (v := V.ty "bool") (by rfl) T.m_bool bt_bool rfl) pa_nil)))) (pe_one (pe_chn (pv 1) (pch_cons op_le (pv 0) (pch_one op_le (pv 2))))))))), start_is (σ := [some x1, some x2, some x3]) rfl ?_⟩
  obtain ⟨lo, hi, rfl, rfl, hx, q⟩ := h
  walk_at "sx"
  rcases hx with (rfl | ⟨b, rfl⟩ | ⟨i, rfl⟩ | ⟨s, rfl⟩) | ⟨t, xs, rfl, h⟩
  · refine q_isi tyx_non kb_ni ?_
    walk_at "sx"
    exact q
  · refine q_isi tyx_bl kb_bi ?_
    walk_at "sx"
    refine q_isi tyx_bl kb_bb ?_
    walk_at "sx"
    exact q
  · refine q_isi tyx_int kb_ii ?_
    walk_at "sx"
    refine q_isi tyx_int kb_ib ?_
    walk_at "sx"
    unfold nb at q
    by_cases c : lo ≤ i
    · simpa [c] using q
    · simpa [c] using q
  · refine q_isi tyx_str kb_si ?_
    walk_at "sx"
    exact q
  · refine q_isi (tyx_tup h) kb_ti ?_
    walk_at "sx"
    exact q
/-- no bars -/
def BadB (K : PySem.W.Frag) (H : Hp) (x : V) : Prop := NotL K H x ∨ ∃ a xs, x = .ref a ∧ SqL K H a xs ∧ (∀ y ∈ xs, Fl y) ∧ xs.length ≤ 1000 ∧ (xs.all fun y => nb y 0 10000000) = false
theorem BadB.more {K : PySem.W.Frag} {H H' : Hp} {x : V} (h : BadB K H x) (s : Same H H') : BadB K H' x := by
  rcases h with h | ⟨a, xs, e, h, r⟩
  · exact .inl (h.more s)
  · exact .inr ⟨a, xs, e, s.seq h, r⟩
theorem all_map_range (xs : List V) (f : V → Bool) : ((List.range xs.length).map fun i => f (xs.getD i .non)).all id = xs.all f := by
  rw [Bool.eq_iff_iff, List.all_eq_true, List.all_eq_true]
  constructor
  · intro h y hy
    obtain ⟨i, hi, e⟩ := List.getElem_of_mem hy
    have := h (f (xs.getD i .non)) (List.mem_map.mpr ⟨i, List.mem_range.mpr hi, rfl⟩)
    rw [List.getD_eq_getElem?_getD, List.getElem?_eq_getElem hi, e] at this
    exact this
  · intro h b hb
    obtain ⟨i, hi, rfl⟩ := List.mem_map.mp hb
    have hi := List.mem_range.mp hi
    show f (xs.getD i .non) = true
    rw [List.getD_eq_getElem?_getD, List.getElem?_eq_getElem hi]
    exact h _ (List.getElem_mem hi)
theorem nb_good {bs : List Int} (h : Good bs) : ((ivs bs).all fun y => nb y 0 10000000) = true := by
  rw [List.all_eq_true]
  intro y hy
  obtain ⟨i, hi, rfl⟩ := List.mem_map.mp hy
  exact decide_eq_true (h i hi)
theorem fl_ivs (bs : List Int) : ∀ y ∈ ivs bs, Fl y := fun y hy => by
  obtain ⟨i, _, rfl⟩ := List.mem_map.mp hy
  exact .inr (.inr (.inl ⟨i, rfl⟩))
abbrev s_asked_bars : Stmt := top 11
abbrev N_asked_bars : List Str := ["bars", "bar"]
theorem sc_asked_bars : FnScope ["bars", "bar"] ["bars"] (defScope s_asked_bars) := ⟨rfl, rfl, rfl, by decide +kernel, rfl, by decide +kernel, by decide +kernel⟩
/-- bars, or no bars and the error -/
def sp_asked_bars (K : PySem.W.Frag) (CL : Cl) : Sp := Sp1 fun x H Q E => (∃ (a : Addr) (bs : List Int), x = .ref a ∧ SqL K H a (ivs bs) ∧ Good bs ∧ bs.length ≤ 1000 ∧ ∀ H', Same H H' → Q .non H') ∨ (BadB K H x ∧ ∀ H', Same H H' → E (.ref CL.BadBars) none H')
theorem ok_asked_bars {P : Program} {w : World} {K : PySem.W.Frag} {mg : Str → Option Value} {base : Heap} {CL : Cl} (D : Def K mg "asked_bars" ["bars"] s_asked_bars) (T : Txt K mg CL) (h_is_number : Has P w K mg base CX0 1 "is_number" ["thing", "least", "most"] (sp_is_number K)) : Has P w K mg base (L2N.CX P w) 2 "asked_bars" ["bars"] (sp_asked_bars K CL) := by
  obtain ⟨f, fd, gm, F, bb⟩ := D
  obtain ⟨f_is_number, fd_is_number, g_is_number, G_is_number, k_is_number, b_is_number⟩ := h_is_number
  obtain ⟨t_HIGHEST, c_HIGHEST⟩ := T.c_HIGHEST
  refine ⟨f, fd, gm, okN F sc_asked_bars (fun vs H Q E h => ?_) (fun cdv A outer s H vs Q E hr h => ?_), F.kp, bb⟩
  · obtain ⟨x1, rfl, _⟩ := h
    rfl
  have hr_is_number : Room 1 (A.deeper (envOfC "asked_bars" (defScope s_asked_bars) s.heap.objs.size f cdv)) := hr.mono (by decide)
  obtain ⟨x1, rfl, h⟩ := h
  refine ⟨_, (pss_one (ps_if (PW.pt (pw_or (pt_not (pt_val (pe_callB (isiK (K := K)) (by rfl) T.m_isinstance bt_isinstance (pa_cons (pv 0) (pa_cons (pe_bltn (v := V.ty "list") (by rfl) T.m_list bt_list rfl) pa_nil))))) (pw_or1 (pt_not (pt_val (pe_callB (allK (K := K) rfl) (by rfl) T.m_all bt_all (pa_cons (pe_lc (own := [("bar", 1)]) (g := (gName 1)) (tt := tYes) (by rfl) sc_asked_bars.nd (pi_list (pv 0)) (blkOk_by (own := [("bar", 1)]) (N := N_asked_bars) (sc := defScope s_asked_bars) (by decide +kernel)) (fun _ _ _ _ _ => (pg_name (i := 1) sc_asked_bars.nd rfl (Or.inl rfl))) (fun _ _ _ _ _ => pts_nil) (fun _ _ _ _ _ => (pe_call G_is_number hr_is_number (by rfl) g_is_number k_is_number b_is_number .nil pass0 (pa_cons (pv 1) (pa_cons pe_int (pa_cons (pe_glob (v := V.int 10000000) (by rfl) c_HIGHEST ⟨_, rfl⟩) pa_nil)))))) pa_nil))))))) (pss_one (L2N.ps_raise rfl (L2N.takes_of rfl rfl rfl rfl) (L2N.pmk_own PySem.F.excBase_ValueError T.xi_BadBars T.c_BadBars T.kx_BadBars (raises_own T.bx_BadBars T.tx_BadBars) (by rfl)))) pss_nil)), start_is (σ := [some x1, none]) rfl ?_⟩
  walk_at "sx"
  have core : ∀ (a : Addr) (xs : List V), SqL K H a xs → (∀ y ∈ xs, Fl y) → xs.length ≤ 1000 → (∀ H', Same H H' → if (xs.all fun y => nb y 0 10000000) = true then Q .non H' else E (.ref CL.BadBars) none H') →
      rIsi K [.ref a, V.ty "list"] H fun v H1 => ∃ b, v = V.bl b ∧ if (!b) = true then E (Value.ref CL.BadBars) none H1 else
          tLc (iList K (tVar 0)) (gName 1) tYes (tCall (sp_is_number K) [] E0 (tCons (tVar 1) (tCons (tC (V.int 0)) (tCons (tC (V.int 10000000)) tNil)))) (List.map (fun x => x.snd) [(Str.ofString "bar", 1)]) [some (.ref a), none] H1 fun v H1 =>
            rAll K [v] H1 fun v H1 => ∃ b, v = V.bl b ∧ if (!b) = true then E (Value.ref CL.BadBars) none H1 else Q V.non H1 := by
    intro a xs hS hfl hlen k
    refine q_isi (tyx_list hS) kb_ll ?_
    walk_at "sx"
    refine q_lcL (fun i v _ => v = .bl (nb (xs.getD i .non) 0 10000000)) (fun R r => ⟨_, rfl, r⟩) hS (by omega) (fun _ => rfl) (fun _ _ _ _ e _ => e) (fun i x H' Q' hx s1 kk => ?_) ?_
    · simp only [wipe, List.map_cons, List.map_nil]
      walk_at "sx"
      refine ⟨_, _, _, rfl, _, _, rfl, rfl, .inl (hfl x (List.mem_of_getElem? hx)), kk _ _ (Same.refl _) ?_⟩
      rw [List.getD_eq_getElem?_getD, hx]
      rfl
    · intro D H1 acc nD s1 hD hla hva
      have e := acc_bls hla hva
      subst e
      refine q_all (SqL.of hD) ?_
      rw [all_map_range xs fun y => nb y 0 10000000]
      walk_at "sx"
      have := k H1 s1
      cases c : xs.all fun y => nb y 0 10000000 with
      | true =>
        rw [c, if_pos rfl] at this
        rw [if_neg (by simp)]
        exact this
      | false =>
        rw [c, if_neg Bool.false_ne_true] at this
        rw [if_pos (by simp)]
        exact this
  rcases h with ⟨a, bs, rfl, hS, good, hlen, k⟩ | ⟨hb | ⟨a, xs, rfl, hS, hfl, hlen, hn⟩, k⟩
  · refine core a _ hS (fl_ivs bs) (by rw [len_ivs]; exact hlen) fun H' s => ?_
    rw [if_pos (nb_good good)]
    exact k H' s
  · refine q_notL hb ?_
    walk_at "sx"
    exact k H (Same.refl _)
  · refine core a xs hS hfl hlen fun H' s => ?_
    rw [if_neg (by rw [hn]; exact Bool.false_ne_true)]
    exact k H' s
end Sky

/-! P1b: ahead_of. -/
namespace Sky
open PySem PySem.Spec PyProof.Rows L2
local macro_rules | `(tactic| walk_at "sx") => `(tactic| try simp only [e_K, e_seq, e_asg, e_name, e_drop, e_ret, e_retN, e_ifs, e_next, e_var, e_c, e_op, e_un, e_rI0, e_rI, e_rU, e_test, e_B, e_bl, e_and, e_or, e_not, e_andV, e_orV, e_notV, e_if, e_CB, e_CKw, e_cons, e_nil, e_call,
  e_chn, e_cCons, e_cOne, e_BM, e_BM0, e_sub, e_par, e_ls, e_noP, e_part, e_intx, e_refx, e_yes, e_get0, e_getS, e_sl, List.set_cons_zero, List.set_cons_succ, List.cons_append, List.nil_append, List.append_nil, Bool.not_true, Bool.not_false, e_lst, e_tup, e_rev, e_eqi, e_nei, decide_true, decide_false, if_true, Bool.false_eq_true, if_false, e_callS, e_callE, e_any, e_fld, e_sfld, e_meth, e_make, e_par3])
local macro_rules | `(tactic| walk_at "sy") => `(tactic| try simp (config := { implicitDefEqProofs := false }) only [e_K, e_seq, e_asg, e_name, e_drop, e_ret, e_retN, e_ifs, e_next, e_var, e_c, e_op, e_un, e_rI0, e_rI, e_rU, e_test, e_B, e_bl, e_and, e_or, e_not, e_andV, e_orV, e_notV, e_if, e_CB, e_CKw, e_cons, e_nil, e_call,
  e_chn, e_cCons, e_cOne, e_BM, e_BM0, e_sub, e_par, e_ls, e_noP, e_part, e_intx, e_refx, e_yes, e_get0, e_getS, e_sl, List.set_cons_zero, List.set_cons_succ, List.cons_append, List.nil_append, List.append_nil, Bool.not_true, Bool.not_false, e_lst, e_tup, e_rev, e_eqi, e_nei, decide_true, decide_false, if_true, Bool.false_eq_true, if_false, e_callS, e_callE, e_any, e_fld, e_sfld, e_meth, e_make, e_par3])
abbrev s_ahead_of : Stmt := top 12
abbrev N_ahead_of : List Str := ["bars", "found", "waiting", "place", "bar"]
theorem sc_ahead_of : FnScope ["bars", "found", "waiting", "place", "bar"] ["bars"] (defScope s_ahead_of) := ⟨rfl, rfl, rfl, by decide +kernel, rfl, by decide +kernel, by decide +kernel⟩
def sp_ahead_of (K : PySem.W.Frag) : Sp := Sp1 fun x H Q _ => ∃ (a : Addr) (bs : List Int), x = .ref a ∧ SqL K H a (ivs bs) ∧ bs.length ≤ 1000 ∧ ∀ p H', H p = none → Same H H' → H' p = some (.lst (ivs (links bs))) → Q (.ref p) H'
/-- what stands between two turns of ahead_of -/
structure AhSt (K : PySem.W.Frag) (H : Hp) (bs : List Int) (p q : Addr) (i : Nat) (st : List Nat) (H' : Hp) : Prop where
  sm : Same H H'
  fp : H' p = some (.lst (ivs ((links bs).take i)))
  fq : H' q = some (.lst (ivs (stI st)))
theorem AhSt.more {K : PySem.W.Frag} {H H1 H2 : Hp} {bs : List Int} {p q : Addr} {i : Nat} {st : List Nat} (h : AhSt K H bs p q i st H1) (s : Same H1 H2) : AhSt K H bs p q i st H2 := ⟨h.sm.trans s, s _ _ h.fp, s _ _ h.fq⟩
theorem stI_le {st : List Nat} {i : Nat} (h : st.length ≤ i) : (ivs (stI st)).length ≤ i := by rw [len_ivs, stI_len]; exact h
theorem pop_len (bs : List Int) (v : Int) (st : List Nat) : (pop bs v st).length ≤ st.length := (List.dropWhile_sublist _).length_le
theorem ok_ahead_of {P : Program} {w : World} {K : PySem.W.Frag} {mg : Str → Option Value} {base : Heap} {CL : Cl} (D : Def K mg "ahead_of" ["bars"] s_ahead_of) (T : Txt K mg CL)  : Has P w K mg base CX0 1 "ahead_of" ["bars"] (sp_ahead_of K) := by
  obtain ⟨f, fd, gm, F, bb⟩ := D
  refine ⟨f, fd, gm, F.ok sc_ahead_of (fun vs H Q E h => ?_) (fun cdv A outer s H vs Q E hr h => ?_), F.kp, bb⟩
  · obtain ⟨x1, rfl, _⟩ := h
    rfl
  obtain ⟨x1, rfl, h⟩ := h
  refine ⟨_, (pss_cons (ps_set (i := 1) sc_ahead_of.nd rfl (Or.inl rfl) (pe_lst pa_nil))
      (pss_cons (ps_set (i := 2) sc_ahead_of.nd rfl (Or.inl rfl) (pe_lst pa_nil))
      (pss_cons (ps_for PassesOwn.never rfl (pi_enum (by rfl) T.m_enumerate (pa_cons (pv 0) pa_nil)) (pg_tup (n := 2) rfl (pgs_cons (pg_name (i := 3) sc_ahead_of.nd rfl (Or.inl rfl)) (pgs_cons (pg_name (i := 4) sc_ahead_of.nd rfl (Or.inl rfl)) pgs_nil))) (pss_mid (ps_while PassesOwn.never (PW.pt (pw_and (pt_cmpR (neDK (K := K) hr.units) (pv 2) (pe_lst pa_nil) (nomark _)) (pw_and1 (pt_cmpR op_ge (pe_ix (ix_listK (K := K)) (pv 0) (pe_ix (ix_listK (K := K)) (pv 2) (pe_un un_neg pe_int) (fun _ _ => rfl)) (fun _ _ => rfl)) (pv 4) (nomark _))))) (pss_one (ps_expr (pe_bm0 PySem.F.plainAttrs_list PySem.F.slot_list_pop PySem.F.type_list_pop mt_pop (pv 2)))))
      (pss_cons (ps_if (pt_cmpR (eqDK (K := K) hr.units) (pv 2) (pe_lst pa_nil) (nomark _)) (pss_one (ps_expr (pe_bm PySem.F.plainAttrs_list PySem.F.slot_list_append PySem.F.type_list_append mt_append (pv 1) (pa_cons (pe_un un_neg pe_int) pa_nil)))) (pss_one (ps_expr (pe_bm PySem.F.plainAttrs_list PySem.F.slot_list_append PySem.F.type_list_append mt_append (pv 1) (pa_cons (pe_ix (ix_listK (K := K)) (pv 2) (pe_un un_neg pe_int) (fun _ _ => rfl)) pa_nil)))))
      (pss_one (ps_expr (pe_bm PySem.F.plainAttrs_list PySem.F.slot_list_append PySem.F.type_list_append mt_append (pv 2) (pa_cons (pv 3) pa_nil)))))))
      (pss_one (ps_ret (pv 1)))))), start_is (σ := [some x1, none, none, none, none]) rfl ?_⟩
  obtain ⟨a, bs, rfl, hS, hlen, k⟩ := h
  walk_at "sx"
  refine q_newL fun p np => q_newL fun q nq => ?_
  have hpq : p ≠ q := ne_of_none upd_same nq
  have nq0 : H q = none := by rw [upd_ne hpq.symm] at nq; exact nq
  have s0 : Same H (upd (upd H p (.lst [])) q (.lst [])) := (same_new np).trans (same_new nq)
  refine q_forE (a := a) (xs := ivs bs) (fun R r => ⟨_, rfl, r⟩) (fun i σ H' => ∃ (v3 v4 : Option V) (st : List Nat), σ = [some (.ref a), some (.ref p), some (.ref q), v3, v4] ∧ i ≤ bs.length ∧ st.length ≤ i ∧ AhSt K H bs p q i st H' ∧ SInv bs i st)
    ⟨none, none, [], rfl, Nat.zero_le _, Nat.le_refl _, ⟨s0, by rw [upd_ne hpq, upd_same]; rfl, upd_same⟩, sinv0 bs⟩ (fun i σ H' ⟨_, _, _, _, _, _, s1, _⟩ => s1.sm.seq hS) ?_ ?_
  · rintro i x σ H1 H2 hx ⟨v3, v4, st, rfl, _, hsl, a1, inv⟩ s2
    obtain ⟨hi, rfl⟩ := of_ivs hx
    walk_at "sx"
    refine q_mid (fun σ H5 => ∃ st', σ = [some (.ref a), some (.ref p), some (.ref q), some (.int (i : Int)), some (.int (g bs i))] ∧ AhSt K H bs p q i st' H5 ∧ st'.length ≤ i ∧ st' = pop bs (g bs i) st) ?_ ?_
    · refine q_while (fun m σ H3 => ∃ st', m = st'.length ∧ σ = [some (.ref a), some (.ref p), some (.ref q), some (.int (i : Int)), some (.int (g bs i))] ∧ AhSt K H bs p q i st' H3 ∧ pop bs (g bs i) st' = pop bs (g bs i) st ∧ st'.length ≤ i ∧ ∀ j ∈ st', j < i)
        ⟨_, st, rfl, rfl, a1.more s2, rfl, hsl, inv.lt⟩ ?_
      rintro m σ H3 ⟨st', rfl, rfl, a3, hp, hsl3, hl⟩
      walk_at "sx"
      refine q_neN (SqL.of a3.fq) fun H4 s4 => ?_
      walk_at "sx"
      have a4 := a3.more s4
      cases st' with
      | nil =>
        rw [if_neg (by simp [stI])]
        exact ⟨[], trivial, a4, hsl3, hp⟩
      | cons j r =>
        have hj := hl j List.mem_cons_self
        rw [if_pos (by simp [stI])]
        have f4 := a4.fq
        rw [stI_cons] at f4
        refine q_ix1 (SqL.of f4) (q_ixL (a4.sm.seq hS) rfl (by omega) ?_)
        walk_at "sx"
        by_cases c : g bs i ≤ g bs j
        · rw [if_pos (decide_eq_true c)]
          refine ⟨_, fun _ _ n => n, q_pop (xs := ivs (stI r)) (y := .int (j : Int)) (by rw [f4, ivs_app]) ?_⟩
          rw [pop_yes c] at hp
          exact ⟨r.length, by simp, r, rfl, rfl, ⟨same_mut a4.sm nq0, by rw [upd_ne hpq]; exact a4.fp, upd_same⟩, hp, by simp at hsl3; omega, fun m hm => hl m (List.mem_cons_of_mem _ hm)⟩
        · rw [if_neg (by simpa using c)]
          rw [pop_no (by omega)] at hp
          exact ⟨j :: r, trivial, a4, hsl3, hp⟩
    · rintro σ H5 ⟨st', rfl, a5, hsl5, hst⟩
      walk_at "sx"
      refine q_eqN (SqL.of a5.fq) fun H6 s6 => ?_
      walk_at "sx"
      have a6 := a5.more s6
      have f6 := a6.fq
      have hli : (links bs).take (i + 1) = (links bs).take i ++ [hd st'] := by
        rw [hst]
        unfold links
        rw [take_map_range _ hi, ← inv.dn]
        rfl
      have htk : (ivs ((links bs).take i)).length < 100000 := by
        rw [len_ivs, List.length_take, links_len]
        omega
      have last : ∀ y : Int, y = hd st' → ∃ (v3 v4 : Option V) (st : List Nat), [some (V.ref a), some (.ref p), some (.ref q), some (.int (i : Int)), some (.int (g bs i))] = [some (.ref a), some (.ref p), some (.ref q), v3, v4] ∧ i + 1 ≤ bs.length ∧ st.length ≤ i + 1 ∧
          AhSt K H bs p q (i + 1) st (upd (upd H6 p (.lst (ivs ((links bs).take i) ++ [.int y]))) q (.lst (ivs (stI st') ++ [.int (i : Int)]))) ∧ SInv bs (i + 1) st := by
        intro y hy
        refine ⟨_, _, i :: st', rfl, hi, by simpa using hsl5, ⟨same_mut (same_mut a6.sm np) nq0, ?_, ?_⟩, ?_⟩
        · rw [upd_ne hpq, upd_same, hli, hy]
          simp [ivs]
        · rw [upd_same, stI_cons]
          simp [ivs]
        · rw [hst]
          exact inv.step
      cases st' with
      | nil =>
        rw [if_pos (by simp [stI])]
        refine q_app a6.fp htk (q_app (by rw [upd_ne hpq.symm]; exact f6) (by simp [stI, ivs]) ?_)
        exact last _ rfl
      | cons j r =>
        rw [if_neg (by simp [stI])]
        have f6' := f6
        rw [stI_cons] at f6'
        refine ⟨.inl ⟨rfl, _, SqL.of a6.fp⟩, q_ix1 (SqL.of f6') ⟨p, _, _, rfl, rfl, a6.fp, sz_lt htk, ?_⟩⟩
        refine q_app (by rw [upd_ne hpq.symm]; exact f6) (Nat.lt_of_le_of_lt (stI_le hsl5) (by omega)) ?_
        exact last _ rfl
  · rintro σ H1 ⟨v3, v4, st, rfl, _, _, a1, _⟩
    walk_at "sx"
    refine k p H1 np a1.sm ?_
    have e := a1.fp
    rw [len_ivs, List.take_of_length_le (by rw [links_len]; exact Nat.le_refl _)] at e
    exact e
end Sky

/-! P2: behind_of, reaches: for good bars. -/
namespace Sky
open PySem PySem.Spec PyProof.Rows L2
local macro_rules | `(tactic| walk_at "sx") => `(tactic| try simp only [e_K, e_seq, e_asg, e_name, e_drop, e_ret, e_retN, e_ifs, e_next, e_var, e_c, e_op, e_un, e_rI0, e_rI, e_rU, e_test, e_B, e_bl, e_and, e_or, e_not, e_andV, e_orV, e_notV, e_if, e_CB, e_CKw, e_cons, e_nil, e_call,
  e_chn, e_cCons, e_cOne, e_BM, e_BM0, e_sub, e_par, e_ls, e_noP, e_part, e_intx, e_refx, e_yes, e_get0, e_getS, e_sl, List.set_cons_zero, List.set_cons_succ, List.cons_append, List.nil_append, List.append_nil, Bool.not_true, Bool.not_false, e_lst, e_tup, e_rev, e_eqi, e_nei, decide_true, decide_false, if_true, Bool.false_eq_true, if_false, e_callS, e_callE, e_any, e_fld, e_sfld, e_meth, e_make, e_par3])
local macro_rules | `(tactic| walk_at "sy") => `(tactic| try simp (config := { implicitDefEqProofs := false }) only [e_K, e_seq, e_asg, e_name, e_drop, e_ret, e_retN, e_ifs, e_next, e_var, e_c, e_op, e_un, e_rI0, e_rI, e_rU, e_test, e_B, e_bl, e_and, e_or, e_not, e_andV, e_orV, e_notV, e_if, e_CB, e_CKw, e_cons, e_nil, e_call,
  e_chn, e_cCons, e_cOne, e_BM, e_BM0, e_sub, e_par, e_ls, e_noP, e_part, e_intx, e_refx, e_yes, e_get0, e_getS, e_sl, List.set_cons_zero, List.set_cons_succ, List.cons_append, List.nil_append, List.append_nil, Bool.not_true, Bool.not_false, e_lst, e_tup, e_rev, e_eqi, e_nei, decide_true, decide_false, if_true, Bool.false_eq_true, if_false, e_callS, e_callE, e_any, e_fld, e_sfld, e_meth, e_make, e_par3])
abbrev s_behind_of : Stmt := top 13
abbrev N_behind_of : List Str := ["bars", "many", "place"]
theorem sc_behind_of : FnScope ["bars", "many", "place"] ["bars"] (defScope s_behind_of) := ⟨rfl, rfl, rfl, by decide +kernel, rfl, by decide +kernel, by decide +kernel⟩
def sp_behind_of (K : PySem.W.Frag) : Sp := Sp1 fun x H Q _ => ∃ (a : Addr) (bs : List Int), x = .ref a ∧ SqL K H a (ivs bs) ∧ bs.length ≤ 1000 ∧ ∀ p H', H p = none → Same H H' → H' p = some (.lst (ivs (behinds bs))) → Q (.ref p) H'
theorem ok_behind_of {P : Program} {w : World} {K : PySem.W.Frag} {mg : Str → Option Value} {base : Heap} {CL : Cl} (D : Def K mg "behind_of" ["bars"] s_behind_of) (T : Txt K mg CL) (h_ahead_of : Has P w K mg base CX0 1 "ahead_of" ["bars"] (sp_ahead_of K)) : Has P w K mg base CX0 2 "behind_of" ["bars"] (sp_behind_of K) := by
  obtain ⟨f, fd, gm, F, bb⟩ := D
  obtain ⟨f_ahead_of, fd_ahead_of, g_ahead_of, G_ahead_of, k_ahead_of, b_ahead_of⟩ := h_ahead_of
  refine ⟨f, fd, gm, F.ok sc_behind_of (fun vs H Q E h => ?_) (fun cdv A outer s H vs Q E hr h => ?_), F.kp, bb⟩
  · obtain ⟨x1, rfl, _⟩ := h
    rfl
  have hr_ahead_of : Room 1 (A.deeper (envOfC "behind_of" (defScope s_behind_of) s.heap.objs.size f cdv)) := hr.mono (by decide)
  obtain ⟨x1, rfl, h⟩ := h
  refine ⟨_, (pss_cons (ps_set (i := 1) sc_behind_of.nd rfl (Or.inr rfl) (pe_callB (lenK (K := K)) (by rfl) T.m_len bt_len (pa_cons (pv 0) pa_nil)))
      (pss_one (ps_ret (pe_revLK (K := K) (pe_lc (own := [("place", 2)]) (g := (gName 2)) (tt := tYes) (by rfl) sc_behind_of.nd (pi_list (pe_call G_ahead_of hr_ahead_of (by rfl) g_ahead_of k_ahead_of b_ahead_of .nil pass0 (pa_cons (pe_revLK (K := K) (pv 0)) pa_nil))) (blkOk_by (own := [("place", 2)]) (N := N_behind_of) (sc := defScope s_behind_of) (by decide +kernel)) (fun _ _ _ _ _ => (pg_name (i := 2) sc_behind_of.nd rfl (Or.inl rfl))) (fun _ _ _ _ _ => pts_nil) (fun _ _ _ _ _ => (pe_op op_sub (pe_op op_sub (pv 1) pe_int) (pv 2)))))))), start_is (σ := [some x1, none, none]) rfl ?_⟩
  obtain ⟨a, bs, rfl, hS, hlen, k⟩ := h
  walk_at "sx"
  refine q_lenI hS ?_
  refine q_lcN (xs := ivs (links bs.reverse)) (fun i v _ => v = .int ((bs.length : Int) - 1 - (links bs.reverse).getD i 0)) (fun R r => ?_) (by rw [len_ivs, links_len, List.length_reverse]; omega) (fun _ => rfl) (fun _ _ _ _ e _ => e) (fun i x H' Q' hx s1 k => ?_) ?_
  · walk_at "sx"
    refine ⟨_, hS, fun p np => ⟨_, rfl, p, bs.reverse, rfl, SqL.of (by rw [upd_same, rev_ivs]), by simpa using hlen, fun b H1 nb s1 hb => r b H1 ((same_new np).free nb) ((same_new np).trans s1) hb⟩⟩
  · obtain ⟨hi, rfl⟩ := of_ivs hx
    refine ⟨_, rfl, _, _, rfl, rfl, _, rfl, _, _, rfl, rfl, k _ _ (Same.refl _) rfl⟩
  · intro D H' acc nd s1 hd hl hv
    have e := acc_ivs hl hv
    subst e
    refine ⟨D, rfl, _, SqL.of hd, fun p np => k p _ (s1.free np) (s1.trans (same_new np)) ?_⟩
    have e2 : (List.range (ivs (links bs.reverse)).length).map (fun i => (bs.length : Int) - 1 - (links bs.reverse).getD i 0) = (links bs.reverse).map fun p => (bs.length : Int) - 1 - p := by
      rw [len_ivs]
      apply List.ext_getElem?
      intro i
      by_cases c : i < (links bs.reverse).length
      · simp [c]
      · simp [List.getElem?_eq_none (Nat.le_of_not_lt c), c]
    rw [upd_same, e2, rev_ivs, behinds_eq]
end Sky

/-! Mb: plain mathematics of boards. -/
namespace Sky
/-- a pair bounds the reach of a bar, and no board in it as high as the bar is greater than tot -/
def Bnd (bs : List Int) (tot : Int) (i : Nat) (p : Int × Int) : Prop :=
  0 ≤ p.1 ∧ p.1 ≤ (i : Int) ∧ (i : Int) ≤ p.2 ∧ p.2 < (bs.length : Int) ∧ (0 < p.1 → g bs (p.1 - 1).toNat < g bs i) ∧ (p.2 < (bs.length : Int) - 1 → g bs (p.2 + 1).toNat < g bs i) ∧ g bs i * (p.2 - p.1 + 1) ≤ tot
def Lies (bs : List Int) (f m h : Int) : Prop := 0 ≤ f ∧ 1 ≤ m ∧ 0 ≤ h ∧ f + m ≤ (bs.length : Int) ∧ ∀ k : Nat, f ≤ (k : Int) → (k : Int) < f + m → h ≤ g bs k
def Under (bs : List Int) (f m h : Int) (rs : List (Int × Int)) : Prop := Lies bs f m h ∧ rs.length = bs.length ∧ ∀ i, i < bs.length → Bnd bs (m * h) i (rs.getD i (0, 0))
def rf (bs : List Int) (i : Nat) : Int := (reach bs i).1
def rl (bs : List Int) (i : Nat) : Int := (reach bs i).2
def size (bs : List Int) (i : Nat) : Int := g bs i * (rl bs i - rf bs i + 1)
theorem rf_ge (bs : List Int) (i : Nat) : 0 ≤ rf bs i := by
  have := link_ge bs i
  unfold rf reach
  simp only
  omega
theorem rf_le (bs : List Int) (i : Nat) : rf bs i ≤ (i : Int) := by
  have := link_lt bs i
  unfold rf reach
  simp only
  omega
theorem rl_ge {bs : List Int} {i : Nat} (h : i < bs.length) : (i : Int) ≤ rl bs i := by
  have := behind_gt h
  unfold rl reach
  simp only
  omega
theorem rl_lt {bs : List Int} {i : Nat} : rl bs i < (bs.length : Int) := by
  have := behind_le (bs := bs) i
  unfold rl reach
  simp only
  omega
theorem rf_low {bs : List Int} {i : Nat} (h : 0 < rf bs i) : g bs (rf bs i - 1).toNat < g bs i := by
  have e : rf bs i - 1 = link bs i := by
    unfold rf reach
    simp only
    omega
  rw [e]
  have h2 : 0 ≤ link bs i := by omega
  exact down_low bs (g bs i) i _ (by rw [Int.toNat_of_nonneg h2]; rfl)
theorem rf_all {bs : List Int} {i k : Nat} (h1 : rf bs i ≤ (k : Int)) (h2 : k ≤ i) : g bs i ≤ g bs k := by
  by_cases e : k = i
  · rw [e]
    exact Int.le_refl _
  · refine down_between bs (g bs i) i k (by omega) ?_
    have : rf bs i = link bs i + 1 := rfl
    unfold link at this
    omega
theorem rl_rev {bs : List Int} {i : Nat} (h : i < bs.length) : rl bs i = (bs.length : Int) - 1 - rf bs.reverse (bs.length - 1 - i) := by
  unfold rl rf reach behind
  simp only
  omega
theorem rl_low {bs : List Int} {i : Nat} (h : i < bs.length) (h2 : rl bs i < (bs.length : Int) - 1) : g bs (rl bs i + 1).toNat < g bs i := by
  have e := rl_rev h
  have a := rf_low (bs := bs.reverse) (i := bs.length - 1 - i) (by omega)
  have l1 := rf_le bs.reverse (bs.length - 1 - i)
  rw [g_rev (by omega), g_rev (by omega)] at a
  have e1 : bs.length - 1 - (rf bs.reverse (bs.length - 1 - i) - 1).toNat = (rl bs i + 1).toNat := by omega
  have e2 : bs.length - 1 - (bs.length - 1 - i) = i := by omega
  rwa [e1, e2] at a
theorem rl_all {bs : List Int} {i k : Nat} (h : i < bs.length) (h1 : (k : Int) ≤ rl bs i) (h2 : i ≤ k) : g bs i ≤ g bs k := by
  have e := rl_rev h
  have lt := rl_lt (bs := bs) (i := i)
  have a := rf_all (bs := bs.reverse) (i := bs.length - 1 - i) (k := bs.length - 1 - k) (by omega) (by omega)
  rw [g_rev (by omega), g_rev (by omega)] at a
  have e1 : bs.length - 1 - (bs.length - 1 - i) = i := by omega
  have e2 : bs.length - 1 - (bs.length - 1 - k) = k := by omega
  rwa [e1, e2] at a
/-- a stretch no bar of which is lower lies in the reach -/
theorem in_reach {bs : List Int} {i lo j : Nat} (h1 : i ≤ lo) (h2 : lo ≤ j) (h3 : j < bs.length) (h : ∀ k, i ≤ k → k ≤ j → g bs lo ≤ g bs k) : rf bs lo ≤ (i : Int) ∧ (j : Int) ≤ rl bs lo := by
  have hl : lo < bs.length := by omega
  constructor
  · have l1 := rf_le bs lo
    by_cases c : rf bs lo ≤ (i : Int)
    · exact c
    · have a := rf_low (bs := bs) (i := lo) (by omega)
      have b := h (rf bs lo - 1).toNat (by omega) (by omega)
      omega
  · have l1 := rl_ge hl
    by_cases c : (j : Int) ≤ rl bs lo
    · exact c
    · have a := rl_low hl (by omega)
      have b := h (rl bs lo + 1).toNat (by omega) (by omega)
      omega
theorem reachL_at {bs : List Int} {i : Nat} (h : i < bs.length) : (reachL bs).getD i (0, 0) = (rf bs i, rl bs i) := by
  unfold reachL
  rw [List.getD_eq_getElem?_getD, List.getElem?_map, List.getElem?_range h]
  rfl
theorem bnd_reach {bs : List Int} {i : Nat} {tot : Int} (h : i < bs.length) (ht : size bs i ≤ tot) : Bnd bs tot i (rf bs i, rl bs i) :=
  ⟨rf_ge bs i, rf_le bs i, rl_ge h, rl_lt, fun c => rf_low c, fun c => rl_low h c, ht⟩
theorem lies_reach {bs : List Int} (hg : Good bs) {i : Nat} (h : i < bs.length) : Lies bs (rf bs i) (rl bs i - rf bs i + 1) (g bs i) := by
  have a := rf_ge bs i
  have b := rf_le bs i
  have c := rl_ge h
  have d := rl_lt (bs := bs) (i := i)
  refine ⟨a, by omega, (hg.at h).1, by omega, fun k k1 k2 => ?_⟩
  by_cases e : k ≤ i
  · exact rf_all k1 e
  · exact rl_all h (by omega) (by omega)
theorem under_board {bs : List Int} (hg : Good bs) {i : Nat} (h : i < bs.length) (hm : ∀ j, j < bs.length → size bs j ≤ size bs i) : Under bs (rf bs i) (rl bs i - rf bs i + 1) (g bs i) (reachL bs) := by
  refine ⟨lies_reach hg h, reachL_len bs, fun j hj => ?_⟩
  rw [reachL_at hj]
  refine bnd_reach hj ?_
  rw [Int.mul_comm]
  exact hm j hj
/-- the first place of a value of a list -/
theorem first_at {m : Int} : ∀ {l : List Int}, m ∈ l → ∃ j, j < l.length ∧ g l j = m ∧ ∀ k, k < j → g l k ≠ m
  | [], h => by simp at h
  | x :: r, h => by
    by_cases e : x = m
    · exact ⟨0, by simp, by simp [g, e], fun k hk => by omega⟩
    · have h2 : m ∈ r := by
        rcases List.mem_cons.mp h with h | h
        · exact absurd h.symm e
        · exact h
      obtain ⟨j, h3, h4, h5⟩ := first_at h2
      refine ⟨j + 1, by simp; omega, by simpa [g] using h4, fun k hk => ?_⟩
      cases k with
      | zero => simpa [g] using e
      | succ k =>
        have := h5 k (by omega)
        simpa [g] using this
theorem Good.mul {bs : List Int} (hg : Good bs) {i : Nat} (h : i < bs.length) : -(2 ^ 64) < g bs i ∧ g bs i < 2 ^ 64 := by
  have := hg.at h
  omega
end Sky

/-! Mt: plain mathematics of trees of bars. -/
namespace Sky
/-- the nearest no higher one ahead -/
def aft (bs : List Int) (p : Nat) : Int := down bs (g bs p + 1) p
def par (bs : List Int) (p : Nat) : Int :=
  if behind bs p = (bs.length : Int) then aft bs p else if aft bs p < 0 ∨ g bs (aft bs p).toNat ≤ g bs (behind bs p).toNat then behind bs p else aft bs p
def parL (bs : List Int) : List Int := (List.range bs.length).map (par bs)
theorem parL_len (bs : List Int) : (parL bs).length = bs.length := by simp [parL]
theorem parL_at {bs : List Int} {p : Nat} (h : p < bs.length) : g (parL bs) p = par bs p := g_map h
theorem aft_lt (bs : List Int) (p : Nat) : aft bs p < (p : Int) := down_lt _ _ _
theorem aft_ge (bs : List Int) (p : Nat) : -1 ≤ aft bs p := down_ge _ _ _
theorem aft_low {bs : List Int} {p a : Nat} (h : aft bs p = (a : Int)) : g bs a ≤ g bs p := by
  have := down_low bs (g bs p + 1) p a h
  omega
theorem aft_all {bs : List Int} {p k : Nat} (h : aft bs p < (k : Int)) (h2 : k < p) : g bs p < g bs k := by
  have := down_between bs (g bs p + 1) p k h2 h
  omega
theorem aft_of {bs : List Int} {p : Nat} {d : Int} (h1 : -1 ≤ d) (h2 : d < (p : Int)) (h3 : 0 ≤ d → g bs d.toNat ≤ g bs p) (h4 : ∀ k : Nat, d < (k : Int) → k < p → g bs p < g bs k) : aft bs p = d :=
  down_of h1 h2 (fun c => by have := h3 c; omega) fun k k1 k2 => by have := h4 k k1 k2; omega
theorem bh_gt {bs : List Int} {p : Nat} (h : p < bs.length) : (p : Int) < behind bs p := behind_gt h
theorem bh_le (bs : List Int) (p : Nat) : behind bs p ≤ (bs.length : Int) := behind_le p
theorem bh_low {bs : List Int} {p b : Nat} (h : p < bs.length) (e : behind bs p = (b : Int)) (hb : b < bs.length) : g bs b < g bs p := by
  have h1 : rl bs p = behind bs p - 1 := rfl
  have := rl_low h (by omega)
  have e2 : (rl bs p + 1).toNat = b := by omega
  rwa [e2] at this
theorem bh_all {bs : List Int} {p k : Nat} (h : p < bs.length) (h1 : p < k) (h2 : (k : Int) < behind bs p) : g bs p ≤ g bs k := by
  have h3 : rl bs p = behind bs p - 1 := rfl
  exact rl_all h (by omega) (by omega)
theorem bh_of {bs : List Int} {p i : Nat} (h : p < i) (hi : i < bs.length) (h1 : g bs i < g bs p) (h2 : ∀ k, p < k → k < i → g bs p ≤ g bs k) : behind bs p = (i : Int) := by
  have hp : p < bs.length := by omega
  have a := bh_gt hp
  have b := bh_le bs p
  obtain ⟨j, ej⟩ : ∃ j : Nat, behind bs p = (j : Int) := ⟨(behind bs p).toNat, by omega⟩
  by_cases c : j < i
  · have x := bh_low hp ej (by omega)
    have y := h2 j (by omega) c
    omega
  · by_cases c2 : i < j
    · have := bh_all hp h (by omega)
      omega
    · omega
theorem bh_end {bs : List Int} {p : Nat} (hp : p < bs.length) (h2 : ∀ k, p < k → k < bs.length → g bs p ≤ g bs k) : behind bs p = (bs.length : Int) := by
  have a := bh_gt hp
  have b := bh_le bs p
  obtain ⟨j, ej⟩ : ∃ j : Nat, behind bs p = (j : Int) := ⟨(behind bs p).toNat, by omega⟩
  by_cases c : j < bs.length
  · have x := bh_low hp ej c
    have y := h2 j (by omega) c
    omega
  · omega
/-! ### the order by height, then place -/
def lw (bs : List Int) (q p : Nat) : Prop := g bs q < g bs p ∨ (g bs q = g bs p ∧ q < p)
def num (f : Nat → Bool) : Nat → Nat
  | 0 => 0
  | n + 1 => num f n + (if f n then 1 else 0)
theorem num_le {f h : Nat → Bool} : ∀ {n}, (∀ i, i < n → f i = true → h i = true) → num f n ≤ num h n
  | 0, _ => Nat.le_refl _
  | n + 1, H => by
    have ih := num_le (f := f) (h := h) (n := n) fun i hi => H i (by omega)
    have hn := H n (by omega)
    unfold num
    cases e : f n with
    | false =>
      rw [if_neg Bool.false_ne_true]
      omega
    | true =>
      rw [hn e]
      omega
theorem num_lt {f h : Nat → Bool} : ∀ {n}, (∀ i, i < n → f i = true → h i = true) → ∀ j, j < n → f j = false → h j = true → num f n < num h n
  | 0, _, j, hj, _, _ => by omega
  | n + 1, H, j, hj, h1, h2 => by
    have hn := H n (by omega)
    unfold num
    by_cases e : j = n
    · subst e
      have ih := num_le (f := f) (h := h) (n := j) fun i hi => H i (by omega)
      rw [h1, h2, if_neg Bool.false_ne_true, if_pos rfl]
      omega
    · have ih := num_lt (f := f) (h := h) (n := n) (fun i hi => H i (by omega)) j (by omega) h1 h2
      cases e : f n with
      | false =>
        rw [if_neg Bool.false_ne_true]
        omega
      | true =>
        rw [hn e]
        omega
theorem num_all (n : Nat) : num (fun _ => true) n = n := by
  induction n with
  | zero => rfl
  | succ n ih =>
    unfold num
    rw [ih, if_pos rfl]
def lwB (bs : List Int) (q p : Nat) : Bool := decide (g bs q < g bs p) || (decide (g bs q = g bs p) && decide (q < p))
theorem lwB_iff {bs : List Int} {q p : Nat} : lwB bs q p = true ↔ lw bs q p := by
  unfold lwB lw
  simp
def rk (bs : List Int) (p : Nat) : Nat := num (fun q => lwB bs q p) bs.length
theorem rk_lt {bs : List Int} {q p : Nat} (hq : q < bs.length) (h : lw bs q p) : rk bs q < rk bs p := by
  refine num_lt (fun i hi e => ?_) q hq ?_ (lwB_iff.mpr h)
  · rw [lwB_iff] at e ⊢
    unfold lw at *
    omega
  · rw [← Bool.not_eq_true, lwB_iff]
    unfold lw
    omega
theorem rk_n {bs : List Int} {p : Nat} (hp : p < bs.length) : rk bs p < bs.length := by
  have := num_lt (f := fun q => lwB bs q p) (h := fun _ => true) (n := bs.length) (fun _ _ _ => rfl) p hp (by
    rw [← Bool.not_eq_true, lwB_iff]
    unfold lw
    omega) rfl
  rwa [num_all] at this
/-! ### how deep a place hangs -/
def Rt (ts : List Int) : Nat → Nat → Prop
  | 0, p => g ts p < 0
  | k + 1, p => 0 ≤ g ts p ∧ Rt ts k (g ts p).toNat
theorem Rt.eq {ts : List Int} : ∀ {k j p}, Rt ts k p → Rt ts j p → k = j
  | 0, 0, _, _, _ => rfl
  | 0, j + 1, p, h, h2 => by
    have a : g ts p < 0 := h
    have b := h2.1
    omega
  | k + 1, 0, p, h, h2 => by
    have a : g ts p < 0 := h2
    have b := h.1
    omega
  | k + 1, j + 1, p, h, h2 => by rw [Rt.eq h.2 h2.2]
def dpF (ts : List Int) : Nat → Nat → Nat
  | 0, _ => 0
  | f + 1, p => if g ts p < 0 then 0 else dpF ts f (g ts p).toNat + 1
theorem Rt.dpF {ts : List Int} : ∀ {k f p}, Rt ts k p → k ≤ f → dpF ts f p = k
  | 0, 0, _, _, _ => rfl
  | 0, f + 1, p, h, _ => if_pos h
  | k + 1, 0, _, _, h => by omega
  | k + 1, f + 1, p, h, h2 => by
    have a := h.1
    show (if g ts p < 0 then 0 else Sky.dpF ts f (g ts p).toNat + 1) = k + 1
    rw [if_neg (by omega), Rt.dpF h.2 (by omega)]
def dpt (ts : List Int) (p : Nat) : Nat := dpF ts ts.length p
def dptL (ts : List Int) : List Int := (List.range ts.length).map fun p => ((dpt ts p : Nat) : Int)
theorem dptL_len (ts : List Int) : (dptL ts).length = ts.length := by simp [dptL]
/-- every place comes from one above all -/
def Hung (ts : List Int) : Prop := ∀ p, p < ts.length → ∃ k, k < ts.length ∧ Rt ts k p
theorem Hung.rt {ts : List Int} (h : Hung ts) {p : Nat} (hp : p < ts.length) : Rt ts (dpt ts p) p := by
  obtain ⟨k, h1, h2⟩ := h p hp
  have e : dpt ts p = k := Rt.dpF h2 (by omega)
  rw [e]
  exact h2
theorem Hung.lt {ts : List Int} (h : Hung ts) {p : Nat} (hp : p < ts.length) : dpt ts p < ts.length := by
  obtain ⟨k, h1, h2⟩ := h p hp
  have e : dpt ts p = k := Rt.dpF h2 (by omega)
  omega
theorem Hung.top {ts : List Int} (h : Hung ts) {p : Nat} (hp : p < ts.length) (c : g ts p < 0) : dpt ts p = 0 := Rt.eq (h.rt hp) c
theorem Hung.next {ts : List Int} (h : Hung ts) {p q : Nat} (hp : p < ts.length) (hq : q < ts.length) (c : g ts p = (q : Int)) : dpt ts p = dpt ts q + 1 := by
  refine Rt.eq (h.rt hp) (show Rt ts (dpt ts q + 1) p from ⟨by omega, ?_⟩)
  have e : (g ts p).toNat = q := by omega
  rw [e]
  exact h.rt hq
/-- what the parent is -/
theorem par_cases {bs : List Int} {p : Nat} (hp : p < bs.length) :
    (par bs p = -1 ∧ aft bs p = -1 ∧ behind bs p = (bs.length : Int)) ∨
    (∃ a : Nat, par bs p = (a : Int) ∧ aft bs p = (a : Int) ∧ a < p ∧ (behind bs p = (bs.length : Int) ∨ ∃ b : Nat, behind bs p = (b : Int) ∧ b < bs.length ∧ p < b ∧ g bs b < g bs a)) ∨
    (∃ b : Nat, par bs p = (b : Int) ∧ behind bs p = (b : Int) ∧ b < bs.length ∧ p < b ∧ (aft bs p = -1 ∨ ∃ a : Nat, aft bs p = (a : Int) ∧ a < p ∧ g bs a ≤ g bs b)) := by
  have h1 := aft_lt bs p
  have h2 := aft_ge bs p
  have h3 := bh_gt hp
  have h4 := bh_le bs p
  obtain ⟨b, eb⟩ : ∃ b : Nat, behind bs p = (b : Int) := ⟨(behind bs p).toNat, by omega⟩
  unfold par
  by_cases c : behind bs p = (bs.length : Int)
  · rw [if_pos c]
    by_cases d : aft bs p < 0
    · exact .inl ⟨by omega, by omega, c⟩
    · exact .inr (.inl ⟨(aft bs p).toNat, by omega, by omega, by omega, .inl c⟩)
  · rw [if_neg c]
    have e2 : (behind bs p).toNat = b := by omega
    rw [e2]
    by_cases d : aft bs p < 0
    · rw [if_pos (.inl d)]
      exact .inr (.inr ⟨b, eb, eb, by omega, by omega, .inl (by omega)⟩)
    · by_cases e : g bs (aft bs p).toNat ≤ g bs b
      · rw [if_pos (.inr e)]
        exact .inr (.inr ⟨b, eb, eb, by omega, by omega, .inr ⟨(aft bs p).toNat, by omega, by omega, e⟩⟩)
      · rw [if_neg (by omega)]
        exact .inr (.inl ⟨(aft bs p).toNat, by omega, by omega, by omega, .inr ⟨b, eb, by omega, by omega, by omega⟩⟩)
theorem aft_lw {bs : List Int} {p a : Nat} (h : aft bs p = (a : Int)) : lw bs a p := by
  have h1 := aft_low h
  have h2 := aft_lt bs p
  unfold lw
  omega
theorem bh_lw {bs : List Int} {p b : Nat} (hp : p < bs.length) (h : behind bs p = (b : Int)) (hb : b < bs.length) : lw bs b p := .inl (bh_low hp h hb)
theorem par_rt {bs : List Int} : ∀ m p, p < bs.length → rk bs p ≤ m → ∃ k, k ≤ rk bs p ∧ Rt (parL bs) k p := by
  intro m
  induction m with
  | zero =>
    intro p hp hm
    rcases par_cases hp with ⟨h, _⟩ | ⟨a, h, h2, h3, _⟩ | ⟨b, h, h2, h3, _⟩
    · exact ⟨0, by omega, by show g (parL bs) p < 0; rw [parL_at hp]; omega⟩
    · have := rk_lt (show a < bs.length by omega) (aft_lw h2)
      omega
    · have := rk_lt h3 (bh_lw hp h2 h3)
      omega
  | succ m ih =>
    intro p hp hm
    have go : ∀ q : Nat, par bs p = (q : Int) → q < bs.length → rk bs q < rk bs p → ∃ k, k ≤ rk bs p ∧ Rt (parL bs) k p := fun q e hq hr => by
      obtain ⟨k, k1, k2⟩ := ih q hq (by omega)
      refine ⟨k + 1, by omega, ?_, ?_⟩
      · rw [parL_at hp]; omega
      · rw [parL_at hp, e]
        exact k2
    rcases par_cases hp with ⟨h, _⟩ | ⟨a, h, h2, h3, _⟩ | ⟨b, h, h2, h3, _⟩
    · exact ⟨0, by omega, by show g (parL bs) p < 0; rw [parL_at hp]; omega⟩
    · exact go a h (by omega) (rk_lt (by omega) (aft_lw h2))
    · exact go b h h3 (rk_lt h3 (bh_lw hp h2 h3))
theorem par_hung (bs : List Int) : Hung (parL bs) := by
  intro p hp
  rw [parL_len] at hp ⊢
  obtain ⟨k, k1, k2⟩ := par_rt _ p hp (Nat.le_refl _)
  exact ⟨k, by have := rk_n hp; omega, k2⟩
def deep (bs : List Int) (p : Nat) : Nat := dpt (parL bs) p
theorem deep_next {bs : List Int} {p q : Nat} (hp : p < bs.length) (hq : q < bs.length) (h : par bs p = (q : Int)) : deep bs p = deep bs q + 1 :=
  (par_hung bs).next (by rw [parL_len]; exact hp) (by rw [parL_len]; exact hq) (by rw [parL_at hp]; exact h)
theorem deep_lt {bs : List Int} {p : Nat} (hp : p < bs.length) : deep bs p < bs.length := by
  have := (par_hung bs).lt (p := p) (by rw [parL_len]; exact hp)
  rwa [parL_len] at this
/-- between the two sides the one ahead is the one ahead of the one behind, or the other way round -/
theorem aft_bh {bs : List Int} {p a b : Nat} (hp : p < bs.length) (ha : aft bs p = (a : Int)) (hb : behind bs p = (b : Int)) (hbn : b < bs.length) (h : g bs a ≤ g bs b) : aft bs b = (a : Int) := by
  have h1 := aft_lt bs p
  have h2 := bh_gt hp
  have h3 := bh_low hp hb hbn
  refine aft_of (by omega) (by omega) (fun _ => by rw [show ((a : Int)).toNat = a by omega]; exact h) fun k k1 k2 => ?_
  by_cases c : k < p
  · have := aft_all (bs := bs) (p := p) (k := k) (by omega) c
    omega
  · by_cases c2 : k = p
    · subst c2; exact h3
    · have := bh_all hp (show p < k by omega) (by omega)
      omega
theorem bh_aft {bs : List Int} {p a b : Nat} (hp : p < bs.length) (ha : aft bs p = (a : Int)) (hb : behind bs p = (b : Int)) (hbn : b < bs.length) (h : g bs b < g bs a) : behind bs a = (b : Int) := by
  have h1 := aft_lt bs p
  have h2 := bh_gt hp
  have h3 := aft_low ha
  refine bh_of (by omega) hbn h fun k k1 k2 => ?_
  by_cases c : k < p
  · have := aft_all (bs := bs) (p := p) (k := k) (by omega) c
    omega
  · by_cases c2 : k = p
    · subst c2; exact h3
    · have := bh_all hp (show p < k by omega) (by omega)
      omega
/-- the nearest ones are less deep -/
theorem deep_anc {bs : List Int} : ∀ m p, p < bs.length → rk bs p ≤ m → (∀ a : Nat, aft bs p = (a : Int) → deep bs a < deep bs p) ∧ ∀ b : Nat, behind bs p = (b : Int) → b < bs.length → deep bs b < deep bs p := by
  intro m
  induction m with
  | zero =>
    intro p hp hm
    refine ⟨fun a ha => ?_, fun b hb hbn => ?_⟩
    · have := rk_lt (show a < bs.length by have := aft_lt bs p; omega) (aft_lw ha)
      omega
    · have := rk_lt hbn (bh_lw hp hb hbn)
      omega
  | succ m ih =>
    intro p hp hm
    rcases par_cases hp with ⟨h, h2, h3⟩ | ⟨a, h, h2, h3, h4⟩ | ⟨b, h, h2, h3, h3b, h4⟩
    · exact ⟨fun a ha => by omega, fun b hb hbn => by omega⟩
    · have da := deep_next hp (show a < bs.length by omega) h
      have ra := rk_lt (show a < bs.length by omega) (aft_lw h2)
      refine ⟨fun a' ha' => ?_, fun b' hb' hbn' => ?_⟩
      · have : a' = a := by omega
        subst this
        omega
      · rcases h4 with h4 | ⟨b, e1, e2, e3, e4⟩
        · omega
        · have : b' = b := by omega
          subst this
          have := (ih a (by omega) (by omega)).2 b' (bh_aft hp h2 e1 e2 e4) e2
          omega
    · have db := deep_next hp h3 h
      have rb := rk_lt h3 (bh_lw hp h2 h3)
      refine ⟨fun a' ha' => ?_, fun b' hb' hbn' => ?_⟩
      · rcases h4 with h4 | ⟨a, e1, e2, e4⟩
        · omega
        · have : a' = a := by omega
          subst this
          have := (ih b h3 (by omega)).1 a' (aft_bh hp e1 h2 h3 e4)
          omega
      · have : b' = b := by omega
        subst this
        omega
/-- all between the nearest ones are deeper -/
theorem deep_desc {bs : List Int} {x : Nat} (hx : x < bs.length) : ∀ m y, y < bs.length → rk bs y ≤ m → aft bs x < (y : Int) → (y : Int) < behind bs x → y ≠ x → deep bs x < deep bs y := by
  intro m
  induction m with
  | zero =>
    intro y hy hm h1 h2 hne
    have : lw bs x y := by
      by_cases c : y < x
      · have := aft_all h1 c
        unfold lw; omega
      · have := bh_all hx (show x < y by omega) h2
        unfold lw; omega
    have := rk_lt hx this
    omega
  | succ m ih =>
    intro y hy hm h1 h2 hne
    have ax := aft_lt bs x
    have bx := bh_gt hx
    by_cases c : y < x
    · have gy := aft_all h1 c
      -- behind y stands x or one nearer
      have b1 : behind bs y ≤ (x : Int) := by
        by_cases d : behind bs y ≤ (x : Int)
        · exact d
        · have := bh_all hy c (by omega)
          omega
      have b2 := bh_gt hy
      rcases par_cases hy with ⟨h, e2, e3⟩ | ⟨a, h, e2, e3, e4⟩ | ⟨b, h, e2, e3, e4, _⟩
      · omega
      · have da := deep_next hy (show a < bs.length by omega) h
        rcases e4 with e4 | ⟨b, f1, f2, f3, f4⟩
        · omega
        · have lwx : g bs x ≤ g bs b := by
            by_cases z : b = x
            · rw [z]; exact Int.le_refl _
            · have := aft_all (bs := bs) (p := x) (k := b) (by omega) (by omega)
              omega
          have ra := rk_lt (show a < bs.length by omega) (aft_lw e2)
          have : aft bs x < (a : Int) := by
            by_cases z : aft bs x < (a : Int)
            · exact z
            · by_cases z2 : aft bs x = (a : Int)
              · have := aft_low z2
                omega
              · obtain ⟨ax', eax⟩ : ∃ ax' : Nat, aft bs x = (ax' : Int) := ⟨(aft bs x).toNat, by omega⟩
                have q1 := aft_low eax
                have q2 := aft_all (bs := bs) (p := y) (k := ax') (by omega) (by omega)
                omega
          have := ih a (by omega) (by omega) this (by omega) (by omega)
          omega
      · have db := deep_next hy e3 h
        by_cases z : b = x
        · subst z
          omega
        · have rb := rk_lt e3 (bh_lw hy e2 e3)
          have := ih b e3 (by omega) (by omega) (by omega) z
          omega
    · have cy : x < y := by omega
      have gy := bh_all hx cy h2
      have a1 : (x : Int) ≤ aft bs y := by
        by_cases d : (x : Int) ≤ aft bs y
        · exact d
        · have := aft_all (bs := bs) (p := y) (k := x) (by omega) cy
          omega
      have a2 := aft_lt bs y
      rcases par_cases hy with ⟨h, e2, e3⟩ | ⟨a, h, e2, e3, _⟩ | ⟨b, h, e2, e3, e4, e5⟩
      · omega
      · have da := deep_next hy (show a < bs.length by omega) h
        by_cases z : a = x
        · subst z
          omega
        · have ra := rk_lt (show a < bs.length by omega) (aft_lw e2)
          have := ih a (by omega) (by omega) (by omega) (by omega) z
          omega
      · have db := deep_next hy e3 h
        rcases e5 with e5 | ⟨a, f1, f2, f3⟩
        · omega
        · have lwx : g bs x ≤ g bs a := by
            by_cases z : a = x
            · rw [z]; exact Int.le_refl _
            · exact bh_all hx (show x < a by omega) (by omega)
          have rb := rk_lt e3 (bh_lw hy e2 e3)
          have : (b : Int) < behind bs x := by
            by_cases z : (b : Int) < behind bs x
            · exact z
            · by_cases z2 : behind bs x = (b : Int)
              · have := bh_low hx z2 e3
                omega
              · obtain ⟨bx', ebx⟩ : ∃ bx' : Nat, behind bs x = (bx' : Int) := ⟨(behind bs x).toNat, by omega⟩
                have q1 := bh_low hx ebx (by omega)
                have q2 := bh_all hy (k := bx') (by omega) (by omega)
                omega
          have := ih b e3 (by omega) (by omega) this (by omega)
          omega
def deepL (bs : List Int) : List Int := dptL (parL bs)
theorem deepL_len (bs : List Int) : (deepL bs).length = bs.length := by rw [deepL, dptL_len, parL_len]
theorem deepL_at {bs : List Int} {p : Nat} (h : p < bs.length) : g (deepL bs) p = ((deep bs p : Nat) : Int) := by
  unfold deepL dptL
  rw [g_map (by rw [parL_len]; exact h)]
  rfl
/-- the tree of the depths is the same tree -/
theorem par_deep {bs : List Int} {p : Nat} (hp : p < bs.length) : par (deepL bs) p = par bs p := by
  have ll := deepL_len bs
  have anc := fun x (hx : x < bs.length) => deep_anc (bs := bs) _ x hx (Nat.le_refl _)
  have a1 := aft_lt bs p
  have a2 := aft_ge bs p
  have b1 := bh_gt hp
  have b2 := bh_le bs p
  have ea : aft (deepL bs) p = aft bs p := by
    refine aft_of a2 a1 (fun c => ?_) fun k k1 k2 => ?_
    · rw [deepL_at (by omega), deepL_at hp]
      have := (anc p hp).1 (aft bs p).toNat (by omega)
      omega
    · rw [deepL_at hp, deepL_at (by omega)]
      have := deep_desc hp _ k (by omega) (Nat.le_refl _) k1 (by omega) (by omega)
      omega
  have eb : behind (deepL bs) p = behind bs p := by
    obtain ⟨b, eb⟩ : ∃ b : Nat, behind bs p = (b : Int) := ⟨(behind bs p).toNat, by omega⟩
    by_cases c : b < bs.length
    · rw [eb]
      refine bh_of (by omega) (by omega) ?_ fun k k1 k2 => ?_
      · rw [deepL_at c, deepL_at hp]
        have := (anc p hp).2 b eb c
        omega
      · rw [deepL_at hp, deepL_at (by omega)]
        have := deep_desc hp _ k (by omega) (Nat.le_refl _) (by omega) (by omega) (by omega)
        omega
    · rw [bh_end (by omega) fun k k1 k2 => ?_]
      · omega
      · rw [deepL_at hp, deepL_at (by omega)]
        have := deep_desc hp _ k (by omega) (Nat.le_refl _) (by omega) (by omega) (by omega)
        omega
  unfold par
  rw [ea, eb, ll]
  by_cases c : behind bs p = (bs.length : Int)
  · rw [if_pos c, if_pos c]
  · rw [if_neg c, if_neg c]
    by_cases d : aft bs p < 0
    · rw [if_pos (.inl d), if_pos (.inl d)]
    · obtain ⟨a, eaa⟩ : ∃ a : Nat, aft bs p = (a : Int) := ⟨(aft bs p).toNat, by omega⟩
      obtain ⟨b, ebb⟩ : ∃ b : Nat, behind bs p = (b : Int) := ⟨(behind bs p).toNat, by omega⟩
      have e1 : (aft bs p).toNat = a := by omega
      have e2 : (behind bs p).toNat = b := by omega
      have hb : b < bs.length := by omega
      rw [e1, e2, deepL_at (by omega), deepL_at hb]
      by_cases e : g bs a ≤ g bs b
      · have := (anc b hb).1 a (aft_bh hp eaa ebb hb e)
        rw [if_pos (.inr (by omega)), if_pos (.inr e)]
      · have := (anc a (by omega)).2 b (bh_aft hp eaa ebb hb (by omega)) hb
        rw [if_neg (by omega), if_neg (by omega)]
theorem parL_deep (bs : List Int) : parL (deepL bs) = parL bs := by
  unfold parL
  rw [deepL_len]
  exact List.map_congr_left fun p hp => par_deep (List.mem_range.mp hp)
theorem deepL_good {bs : List Int} (h : bs.length ≤ 1000) : Good (deepL bs) := by
  intro b hb
  unfold deepL dptL at hb
  obtain ⟨i, hi, rfl⟩ := List.mem_map.mp hb
  rw [List.mem_range, parL_len] at hi
  have := deep_lt hi
  unfold deep at this
  omega
end Sky

/-! Mp: the stack of parents_of, in plain words. -/
namespace Sky
def Ch (bs : List Int) : List Nat → Prop
  | [] => True
  | p :: r => hd r = aft bs p ∧ Ch bs r
theorem Ch.le {bs : List Int} : ∀ {st : List Nat}, Ch bs st → ∀ q ∈ st, (q : Int) ≤ hd st
  | [], _, q, h => by simp at h
  | p :: r, c, q, h => by
    rcases List.mem_cons.mp h with e | e
    · subst e
      exact Int.le_refl _
    · have := Ch.le c.2 q e
      have h2 := aft_lt bs p
      have h3 := c.1
      show (q : Int) ≤ (p : Int)
      omega
theorem g_set {F : List Int} {j k : Nat} {v : Int} (h : j < F.length) : g (F.set j v) k = if j = k then v else g F k := by
  unfold g
  rw [List.getD_eq_getElem?_getD, List.getElem?_set, List.getD_eq_getElem?_getD]
  by_cases e : j = k
  · subst e
    simp [h]
  · rw [if_neg e, if_neg e]
structure PSt (bs : List Int) (i : Nat) (st : List Nat) (F : List Int) : Prop where
  ch : Ch bs st
  el : ∀ p ∈ st, p < i ∧ ∀ k, p < k → k < i → g bs p ≤ g bs k
  ln : F.length = bs.length
  on : ∀ p, p ∈ st → g F p = aft bs p
  off : ∀ p, p < i → p ∉ st → g F p = par bs p
  new : ∀ p, i ≤ p → p < bs.length → g F p = -1
  top : hd st = (i : Int) - 1
  sl : st.length ≤ i
structure PWh (bs : List Int) (i : Nat) (st0 st : List Nat) (last : Int) : Prop where
  ch : Ch bs st
  sub : ∀ q ∈ st, q ∈ st0
  bt : ∀ k : Nat, hd st < (k : Int) → k < i → g bs i < g bs k
  la : (last = -1 ∧ st = st0) ∨ ∃ p : Nat, p ∈ st0 ∧ last = (p : Int) ∧ hd st = aft bs p ∧ g bs i < g bs p
  out : ∀ q ∈ st0, q ∉ st → g bs i < g bs q ∧ ((q : Int) = last ∨ ∃ a : Nat, aft bs q = (a : Int) ∧ g bs i < g bs a)
  len : st.length ≤ st0.length
theorem PSt.zero (bs F : List Int) (h : F.length = bs.length) (hn : ∀ p, p < bs.length → g F p = -1) : PSt bs 0 [] F :=
  ⟨trivial, by simp, h, by simp, fun p hp => by omega, fun p _ hp => hn p hp, rfl, Nat.le_refl _⟩
theorem PWh.zero {bs : List Int} {i : Nat} {st : List Nat} {F : List Int} (h : PSt bs i st F) : PWh bs i st st (-1) :=
  ⟨h.ch, fun _ q => q, fun k k1 k2 => by have := h.top; omega, .inl ⟨rfl, rfl⟩, fun q h1 h2 => absurd h1 h2, Nat.le_refl _⟩
theorem PWh.pop {bs : List Int} {i : Nat} {st0 r : List Nat} {p : Nat} {last : Int} (h : PWh bs i st0 (p :: r) last) (c : g bs i < g bs p) (hp : p < i) : PWh bs i st0 r p := by
  have hr : hd r = aft bs p := h.ch.1
  refine ⟨h.ch.2, fun q hq => h.sub q (List.mem_cons_of_mem _ hq), fun k k1 k2 => ?_, .inr ⟨p, h.sub p List.mem_cons_self, rfl, hr, c⟩, fun q h1 h2 => ?_, by have := h.len; simp at this; omega⟩
  · by_cases c1 : p < k
    · exact h.bt k (show (p : Int) < (k : Int) by omega) k2
    · by_cases c2 : k = p
      · subst c2; exact c
      · have := aft_all (bs := bs) (p := p) (k := k) (by omega) (by omega)
        omega
  · by_cases e : q = p
    · subst e
      exact ⟨c, .inl rfl⟩
    · have hq : q ∉ p :: r := fun z => by
        rcases List.mem_cons.mp z with z | z
        · exact e z
        · exact h2 z
      obtain ⟨o1, o2⟩ := h.out q h1 hq
      refine ⟨o1, .inr ?_⟩
      rcases o2 with o2 | o2
      · rcases h.la with ⟨l1, _⟩ | ⟨p', l0, l1, l2, l3⟩
        · omega
        · have : q = p' := by omega
          subst this
          exact ⟨p, l2.symm, c⟩
      · exact o2
def setL (F : List Int) (last : Int) (i : Nat) : List Int := if 0 ≤ last then F.set last.toNat (i : Int) else F
def setT (F : List Int) (st : List Nat) (i : Nat) : List Int := if st = [] then F else F.set i (hd st)
theorem setL_len (F : List Int) (last : Int) (i : Nat) : (setL F last i).length = F.length := by
  unfold setL
  split <;> simp
theorem setT_len (F : List Int) (st : List Nat) (i : Nat) : (setT F st i).length = F.length := by
  unfold setT
  split <;> simp
theorem PSt.step {bs : List Int} {i : Nat} {st0 st : List Nat} {F : List Int} {last : Int} (h : PSt bs i st0 F) (w : PWh bs i st0 st last) (hi : i < bs.length) (he : ∀ p r, st = p :: r → g bs p ≤ g bs i) :
    PSt bs (i + 1) (i :: st) (setT (setL F last i) st i) := by
  have hle := w.ch.le
  have sti : ∀ q ∈ st, q < i := fun q hq => (h.el q (w.sub q hq)).1
  have hdge : -1 ≤ hd st := by
    cases st with
    | nil => exact Int.le_refl _
    | cons p r => show -1 ≤ (p : Int); omega
  have hdlt : hd st < (i : Int) := by
    cases st with
    | nil => show -1 < (i : Int); omega
    | cons p r =>
      have := sti p List.mem_cons_self
      show (p : Int) < (i : Int)
      omega
  have ea : aft bs i = hd st := by
    refine aft_of hdge hdlt (fun c => ?_) w.bt
    cases st with
    | nil => exact absurd c (by show ¬ 0 ≤ (-1 : Int); omega)
    | cons p r =>
      have := he p r rfl
      have e : (hd (p :: r)).toNat = p := by show ((p : Int)).toNat = p; omega
      rw [e]
      exact this
  have lasti : last < (i : Int) := by
    rcases w.la with ⟨l1, _⟩ | ⟨p, l0, l1, _⟩
    · omega
    · have := (h.el p l0).1
      omega
  -- reads of the new list
  have gT : ∀ k, g (setT (setL F last i) st i) k = if k = i then (if st = [] then g (setL F last i) i else hd st) else g (setL F last i) k := fun k => by
    unfold setT
    by_cases c : st = []
    · rw [if_pos c, if_pos c]
      by_cases e : k = i
      · rw [if_pos e, e]
      · rw [if_neg e]
    · rw [if_neg c, if_neg c, g_set (by rw [setL_len, h.ln]; exact hi)]
      by_cases e : k = i
      · rw [if_pos e, if_pos e.symm]
      · rw [if_neg e, if_neg (fun z => e z.symm)]
  have gL : ∀ k : Nat, g (setL F last i) k = if (k : Int) = last then (i : Int) else g F k := fun k => by
    unfold setL
    by_cases c : 0 ≤ last
    · rw [if_pos c, g_set (by rw [h.ln]; omega)]
      by_cases e : (k : Int) = last
      · rw [if_pos e, if_pos (by omega)]
      · rw [if_neg e, if_neg (by omega)]
    · rw [if_neg c, if_neg (by omega)]
  refine ⟨⟨ea.symm, w.ch⟩, fun p hp => ?_, by rw [setT_len, setL_len, h.ln], fun p hp => ?_, fun p hp hn => ?_, fun p hp hn => ?_, by show (i : Int) = ((i + 1 : Nat) : Int) - 1; omega, ?_⟩
  · rcases List.mem_cons.mp hp with e | e
    · subst e
      exact ⟨by omega, fun k k1 k2 => by omega⟩
    · obtain ⟨h1, h2⟩ := h.el p (w.sub p e)
      refine ⟨by omega, fun k k1 k2 => ?_⟩
      by_cases c : k = i
      · subst c
        cases st with
        | nil => simp at e
        | cons q r =>
          have hq := he q r rfl
          by_cases z : p = q
          · subst z; exact hq
          · have hpq : (p : Int) ≤ (q : Int) := hle p e
            have hqi := sti q List.mem_cons_self
            have := h2 q (by omega) hqi
            omega
      · exact h2 k k1 (by omega)
  · rw [gT]
    rcases List.mem_cons.mp hp with e | e
    · subst e
      rw [if_pos rfl, ea]
      by_cases c : st = []
      · rw [if_pos c, gL, if_neg (by omega), h.new p (Nat.le_refl _) hi, c]
        rfl
      · rw [if_neg c]
    · have hpi := sti p e
      rw [if_neg (by omega), gL, if_neg ?_, h.on p (w.sub p e)]
      intro z
      rcases w.la with ⟨l1, _⟩ | ⟨p', l0, l1, l2, l3⟩
      · omega
      · have := hle p e
        have := aft_lt bs p'
        omega
  · rw [gT]
    have hpi : p ≠ i := fun z => hn (by rw [z]; exact List.mem_cons_self)
    have hps : p ∉ st := fun z => hn (List.mem_cons_of_mem _ z)
    rw [if_neg hpi, gL]
    by_cases c : p ∈ st0
    · obtain ⟨o1, o2⟩ := w.out p c hps
      obtain ⟨e1, e2⟩ := h.el p c
      have eb : behind bs p = (i : Int) := bh_of e1 hi o1 e2
      have ep : par bs p = if aft bs p < 0 ∨ g bs (aft bs p).toNat ≤ g bs i then (i : Int) else aft bs p := by
        unfold par
        rw [eb, if_neg (by omega), show ((i : Int)).toNat = i by omega]
      rw [ep]
      by_cases z : (p : Int) = last
      · rw [if_pos z]
        rcases w.la with ⟨l1, _⟩ | ⟨p', l0, l1, l2, l3⟩
        · omega
        · have : p = p' := by omega
          subst this
          rw [if_pos ?_]
          rw [← l2]
          cases st with
          | nil => exact .inl (by show (-1 : Int) < 0; omega)
          | cons q r =>
            have := he q r rfl
            right
            show g bs ((q : Int)).toNat ≤ g bs i
            rw [show ((q : Int)).toNat = q by omega]
            exact this
      · rw [if_neg z, h.on p c]
        rcases o2 with o2 | ⟨a, o2, o3⟩
        · exact absurd o2 z
        · rw [o2, show ((a : Int)).toNat = a by omega, if_neg (by omega)]
    · rw [if_neg ?_, h.off p (by omega) c]
      intro z
      rcases w.la with ⟨l1, _⟩ | ⟨p', l0, l1, l2, l3⟩
      · omega
      · have : p = p' := by omega
        subst this
        exact c l0
  · rw [gT, if_neg (by omega), gL, if_neg (by omega)]
    exact h.new p (by omega) hn
  · have := w.len
    have := h.sl
    rw [List.length_cons]
    omega
theorem PSt.last {bs : List Int} {st : List Nat} {F : List Int} (h : PSt bs bs.length st F) : F = parL bs := by
  apply List.ext_getElem?
  intro p
  by_cases hp : p < bs.length
  · have e1 : F[p]? = some (g F p) := by simp [g, h.ln, hp]
    have e2 : (parL bs)[p]? = some (par bs p) := by simp [parL, hp]
    rw [e1, e2]
    congr 1
    by_cases c : p ∈ st
    · rw [h.on p c]
      unfold par
      rw [if_pos (bh_end hp (h.el p c).2)]
    · exact h.off p hp c
  · rw [List.getElem?_eq_none (by rw [h.ln]; omega), List.getElem?_eq_none (by rw [parL_len]; omega)]
end Sky

/-! Md: depths by waves, in plain words. -/
namespace Sky
abbrev nts (l : List Nat) : List Int := l.map fun (n : Nat) => (n : Int)
def kids (ts : List Int) (i c : Nat) : List Nat := (List.range i).filter fun p => decide (g ts p = (c : Int))
def roots (ts : List Int) (i : Nat) : List Nat := (List.range i).filter fun p => decide (g ts p < 0)
theorem kids_mem {ts : List Int} {i c p : Nat} : p ∈ kids ts i c ↔ p < i ∧ g ts p = (c : Int) := by
  unfold kids
  rw [List.mem_filter, List.mem_range, decide_eq_true_eq]
theorem roots_mem {ts : List Int} {i p : Nat} : p ∈ roots ts i ↔ p < i ∧ g ts p < 0 := by
  unfold roots
  rw [List.mem_filter, List.mem_range, decide_eq_true_eq]
theorem kids_nd (ts : List Int) (i c : Nat) : (kids ts i c).Nodup := List.nodup_range.filter _
theorem roots_nd (ts : List Int) (i : Nat) : (roots ts i).Nodup := List.nodup_range.filter _
theorem kids_step {ts : List Int} {i c : Nat} : kids ts (i + 1) c = if g ts i = (c : Int) then kids ts i c ++ [i] else kids ts i c := by
  unfold kids
  rw [List.range_succ, List.filter_append]
  by_cases h : g ts i = (c : Int)
  · rw [if_pos h]
    simp [h]
  · rw [if_neg h]
    simp [h]
theorem roots_step {ts : List Int} {i : Nat} : roots ts (i + 1) = if g ts i < 0 then roots ts i ++ [i] else roots ts i := by
  unfold roots
  rw [List.range_succ, List.filter_append]
  by_cases h : g ts i < 0
  · rw [if_pos h]
    simp [h]
  · rw [if_neg h]
    simp [h]
theorem kids_len (ts : List Int) (i c : Nat) : (kids ts i c).length ≤ i := by
  have h := List.length_filter_le (fun p => decide (g ts p = (c : Int))) (List.range i)
  rwa [List.length_range] at h
theorem roots_len (ts : List Int) (i : Nat) : (roots ts i).length ≤ i := by
  have h := List.length_filter_le (fun p => decide (g ts p < 0)) (List.range i)
  rwa [List.length_range] at h
theorem nd_inj : ∀ {W : List Nat}, W.Nodup → ∀ {i j w : Nat}, W[i]? = some w → W[j]? = some w → i = j
  | [], _, i, j, w, h, _ => by simp at h
  | x :: r, nd, i, j, w, h, h2 => by
    obtain ⟨n1, n2⟩ := List.nodup_cons.mp nd
    cases i with
    | zero =>
      cases j with
      | zero => rfl
      | succ j =>
        have e : x = w := by simpa using h
        subst e
        exact absurd (List.mem_of_getElem? (by simpa using h2 : r[j]? = some x)) n1
    | succ i =>
      cases j with
      | zero =>
        have e : x = w := by simpa using h2
        subst e
        exact absurd (List.mem_of_getElem? (by simpa using h : r[i]? = some x)) n1
      | succ j => rw [nd_inj n2 (by simpa using h : r[i]? = some w) (by simpa using h2 : r[j]? = some w)]
theorem sub_len : ∀ {n : Nat} {W : List Nat}, (∀ p, p < n → p ∈ W) → n ≤ W.length
  | 0, _, _ => Nat.zero_le _
  | n + 1, W, h => by
    have h1 := h n (by omega)
    have h2 := List.length_erase_of_mem h1
    have h3 := sub_len (n := n) (W := W.erase n) fun p hp => (List.mem_erase_of_ne (by omega)).mpr (h p (by omega))
    have h4 := List.length_pos_of_mem h1
    omega
theorem nd_len : ∀ {n : Nat} {W : List Nat}, W.Nodup → (∀ p ∈ W, p < n) → W.length ≤ n
  | 0, [], _, _ => Nat.le_refl _
  | 0, p :: r, _, h => by
    have := h p List.mem_cons_self
    omega
  | n + 1, W, nd, h => by
    by_cases c : n ∈ W
    · have h2 := List.length_erase_of_mem c
      have h3 := nd_len (n := n) (nd.erase n) fun p hp => by
        have := (nd.mem_erase_iff).mp hp
        have := h p this.2
        omega
      omega
    · have h3 := nd_len (n := n) nd fun p hp => by
        have := h p hp
        have : p ≠ n := fun e => c (e ▸ hp)
        omega
      omega
theorem nd_full {n : Nat} {W : List Nat} (nd : W.Nodup) (h : ∀ p ∈ W, p < n) (hl : n ≤ W.length) {p : Nat} (hp : p < n) : p ∈ W := by
  by_cases c : p ∈ W
  · exact c
  · have := nd_len (n := n) (W := p :: W) (List.nodup_cons.mpr ⟨c, nd⟩) fun q hq => by
      rcases List.mem_cons.mp hq with e | e
      · omega
      · exact h q e
    rw [List.length_cons] at this
    omega
/-- parents as they are asked for -/
def Pr (ts : List Int) : Prop := ∀ i, i < ts.length → -1 ≤ g ts i ∧ g ts i < (ts.length : Int)
structure BfF (ts : List Int) (W : List Nat) (F : List Int) : Prop where
  ln : F.length = ts.length
  rt : ∀ (j p : Nat), W[j]? = some p → ∃ k, k ≤ j ∧ Rt ts k p ∧ g F p = (k : Int)
structure Bf (ts : List Int) (at_ : Nat) (W : List Nat) : Prop where
  nd : W.Nodup
  lt : ∀ p ∈ W, p < ts.length
  cl : ∀ p, p ∈ W ↔ p < ts.length ∧ (g ts p < 0 ∨ ∃ j w, j < at_ ∧ W[j]? = some w ∧ g ts p = ((w : Nat) : Int))
  le : at_ ≤ W.length
theorem Bf.zero {ts : List Int} : Bf ts 0 (roots ts ts.length) :=
  ⟨roots_nd _ _, fun p hp => (roots_mem.mp hp).1, fun p => by
    rw [roots_mem]
    constructor
    · rintro ⟨a, b⟩
      exact ⟨a, .inl b⟩
    · rintro ⟨a, b | ⟨j, w, c, _⟩⟩
      · exact ⟨a, b⟩
      · omega, Nat.zero_le _⟩
theorem BfF.zero {ts F : List Int} (h : F.length = ts.length) (h0 : ∀ p, p < ts.length → g F p = 0) : BfF ts (roots ts ts.length) F :=
  ⟨h, fun j p e => by
    have m := roots_mem.mp (List.mem_of_getElem? e)
    exact ⟨0, Nat.zero_le _, m.2, h0 p m.1⟩⟩
theorem Bf.fresh {ts : List Int} {at_ w c : Nat} {W : List Nat} (h : Bf ts at_ W) (hw : W[at_]? = some w) (hc : g ts c = (w : Int)) : c ∉ W := by
  intro m
  rcases ((h.cl c).mp m).2 with z | ⟨j, w', j1, j2, j3⟩
  · omega
  · have e : w' = w := by omega
    subst e
    have := nd_inj h.nd j2 hw
    omega
theorem BfF.step {ts : List Int} {at_ w : Nat} {W : List Nat} {F : List Int} {i c : Nat} (h : Bf ts at_ W) (hw : W[at_]? = some w) (f : BfF ts (W ++ (kids ts ts.length w).take i) F) (hc : (kids ts ts.length w)[i]? = some c) :
    BfF ts (W ++ (kids ts ts.length w).take (i + 1)) (F.set c (g F w + 1)) := by
  have mc := kids_mem.mp (List.mem_of_getElem? hc)
  have hat : at_ < W.length := (List.getElem?_eq_some_iff.mp hw).1
  have fr := h.fresh hw mc.2
  have fr2 : c ∉ (kids ts ts.length w).take i := fun m => by
    obtain ⟨j, hj, e⟩ := List.getElem_of_mem m
    rw [List.getElem_take] at e
    rw [List.length_take] at hj
    have hj2 : j < (kids ts ts.length w).length := by omega
    have := nd_inj (kids_nd ts ts.length w) (by rw [List.getElem?_eq_getElem hj2, e] : (kids ts ts.length w)[j]? = some c) hc
    omega
  have et : (kids ts ts.length w).take (i + 1) = (kids ts ts.length w).take i ++ [c] := by
    rw [List.take_add_one, hc]
    rfl
  refine ⟨by rw [List.length_set]; exact f.ln, fun j p e => ?_⟩
  rw [et, ← List.append_assoc] at e
  by_cases z : j < (W ++ (kids ts ts.length w).take i).length
  · rw [List.getElem?_append_left z] at e
    have pn : p ≠ c := fun e2 => by
      have := List.mem_of_getElem? e
      rw [e2] at this
      rcases List.mem_append.mp this with m | m
      · exact fr m
      · exact fr2 m
    obtain ⟨k, k1, k2, k3⟩ := f.rt j p e
    refine ⟨k, k1, k2, ?_⟩
    rw [g_set (by rw [f.ln]; exact mc.1), if_neg (fun e2 => pn e2.symm)]
    exact k3
  · rw [List.getElem?_append_right (by omega)] at e
    have hj : j - (W ++ (kids ts ts.length w).take i).length = 0 := by
      have h0 := (List.getElem?_eq_some_iff.mp e).1
      have h1 : [c].length = 1 := rfl
      omega
    rw [hj] at e
    have ep : p = c := by simpa using e.symm
    subst ep
    obtain ⟨k, k1, k2, k3⟩ := f.rt at_ w (by rw [List.getElem?_append_left hat]; exact hw)
    refine ⟨k + 1, ?_, ⟨by omega, ?_⟩, ?_⟩
    · rw [List.length_append] at z
      omega
    · have e3 : (g ts p).toNat = w := by omega
      rw [e3]
      exact k2
    · rw [g_set (by rw [f.ln]; exact mc.1), if_pos rfl, k3]
      omega
theorem Bf.step {ts : List Int} {at_ w : Nat} {W : List Nat} (h : Bf ts at_ W) (hw : W[at_]? = some w) : Bf ts (at_ + 1) (W ++ kids ts ts.length w) := by
  have hat : at_ < W.length := (List.getElem?_eq_some_iff.mp hw).1
  refine ⟨?_, fun p hp => ?_, fun p => ?_, by rw [List.length_append]; omega⟩
  · rw [List.nodup_append]
    refine ⟨h.nd, kids_nd _ _ _, fun x hx y hy e => ?_⟩
    subst e
    exact h.fresh hw (kids_mem.mp hy).2 hx
  · rcases List.mem_append.mp hp with m | m
    · exact h.lt p m
    · exact (kids_mem.mp m).1
  · rw [List.mem_append, h.cl p, kids_mem]
    constructor
    · rintro (⟨a, b | ⟨j, w', j1, j2, j3⟩⟩ | ⟨a, b⟩)
      · exact ⟨a, .inl b⟩
      · exact ⟨a, .inr ⟨j, w', by omega, by rw [List.getElem?_append_left (by omega)]; exact j2, j3⟩⟩
      · exact ⟨a, .inr ⟨at_, w, by omega, by rw [List.getElem?_append_left hat]; exact hw, b⟩⟩
    · rintro ⟨a, b | ⟨j, w', j1, j2, j3⟩⟩
      · exact .inl ⟨a, .inl b⟩
      · rw [List.getElem?_append_left (by omega)] at j2
        by_cases z : j = at_
        · subst z
          rw [hw] at j2
          have : w = w' := by simpa using j2
          subst this
          exact .inr ⟨a, j3⟩
        · exact .inl ⟨a, .inr ⟨j, w', by omega, j2, j3⟩⟩
theorem Bf.len {ts : List Int} {at_ : Nat} {W : List Nat} (h : Bf ts at_ W) : W.length ≤ ts.length := nd_len h.nd h.lt
/-- at the end: all are there, or some do not come from one above all -/
theorem Bf.full {ts : List Int} {W : List Nat} {F : List Int} (h : Bf ts W.length W) (f : BfF ts W F) (c : ts.length ≤ W.length) : Hung ts ∧ F = dptL ts := by
  have all : ∀ p, p < ts.length → ∃ k, k < ts.length ∧ Rt ts k p ∧ g F p = (k : Int) := fun p hp => by
    obtain ⟨j, hj, e⟩ := List.getElem_of_mem (nd_full h.nd h.lt c hp)
    obtain ⟨k, k1, k2, k3⟩ := f.rt j p (by rw [List.getElem?_eq_getElem hj, e])
    have := h.len
    exact ⟨k, by omega, k2, k3⟩
  have hu : Hung ts := fun p hp => by
    obtain ⟨k, k1, k2, _⟩ := all p hp
    exact ⟨k, k1, k2⟩
  refine ⟨hu, ?_⟩
  apply List.ext_getElem?
  intro p
  by_cases hp : p < ts.length
  · have e1 : F[p]? = some (g F p) := by simp [g, f.ln, hp]
    have e2 : (dptL ts)[p]? = some ((dpt ts p : Nat) : Int) := by simp [dptL, hp]
    rw [e1, e2]
    obtain ⟨k, k1, k2, k3⟩ := all p hp
    have := (hu.rt hp).eq k2
    rw [k3, this]
  · rw [List.getElem?_eq_none (by rw [f.ln]; omega), List.getElem?_eq_none (by rw [dptL_len]; omega)]
theorem Bf.miss {ts : List Int} (hp : Pr ts) {W : List Nat} (h : Bf ts W.length W) (c : W.length < ts.length) : ¬ Hung ts := by
  intro hu
  have all : ∀ k p, p < ts.length → Rt ts k p → p ∈ W := by
    intro k
    induction k with
    | zero => exact fun p h1 h2 => (h.cl p).mpr ⟨h1, .inl h2⟩
    | succ k ih =>
      intro p h1 h2
      have h3 := h2.1
      have m := ih (g ts p).toNat (by have := (hp p h1).2; omega) h2.2
      obtain ⟨j, hj, e⟩ := List.getElem_of_mem m
      exact (h.cl p).mpr ⟨h1, .inr ⟨j, (g ts p).toNat, hj, by rw [List.getElem?_eq_getElem hj, e], by omega⟩⟩
  have := sub_len (n := ts.length) (W := W) fun p h1 => by
    obtain ⟨k, _, k2⟩ := hu p h1
    exact all k p h1 k2
  omega
end Sky

/-! Mw: plain mathematics of water: the highest so far, the rims, the levels. -/
namespace Sky
def hm (bs : List Int) : Nat → Int
  | 0 => 0
  | n + 1 => if g bs n > hm bs n then g bs n else hm bs n
theorem hm_pos (bs : List Int) : ∀ n, 0 ≤ hm bs n
  | 0 => Int.le_refl _
  | n + 1 => by
    have := hm_pos bs n
    unfold hm
    split <;> omega
theorem hm_step (bs : List Int) (n : Nat) : hm bs n ≤ hm bs (n + 1) := by
  show hm bs n ≤ (if g bs n > hm bs n then g bs n else hm bs n)
  split <;> omega
theorem hm_mono {bs : List Int} {m n : Nat} (h : m ≤ n) : hm bs m ≤ hm bs n := by
  induction n with
  | zero =>
    have e : m = 0 := by omega
    rw [e]
    exact Int.le_refl _
  | succ n ih =>
    by_cases c : m = n + 1
    · rw [c]
      exact Int.le_refl _
    · have := ih (by omega)
      have := hm_step bs n
      omega
theorem hm_ge {bs : List Int} {k n : Nat} (h : k < n) : g bs k ≤ hm bs n := by
  have h1 : g bs k ≤ hm bs (k + 1) := by
    show g bs k ≤ (if g bs k > hm bs k then g bs k else hm bs k)
    split <;> omega
  have := hm_mono (bs := bs) (show k + 1 ≤ n by omega)
  omega
theorem hm_le {bs : List Int} {c : Int} (hc : 0 ≤ c) : ∀ {n : Nat}, (∀ k, k < n → g bs k ≤ c) → hm bs n ≤ c
  | 0, _ => hc
  | n + 1, h => by
    have h1 := hm_le hc (n := n) fun k hk => h k (by omega)
    have h2 := h n (by omega)
    show (if g bs n > hm bs n then g bs n else hm bs n) ≤ c
    split <;> omega
/-- the first of the highest of the first n + 1 -/
def lft (bs : List Int) : Nat → Nat
  | 0 => 0
  | n + 1 => if g bs (n + 1) > g bs (lft bs n) then n + 1 else lft bs n
theorem lft_le (bs : List Int) : ∀ n, lft bs n ≤ n
  | 0 => Nat.le_refl _
  | n + 1 => by
    have := lft_le bs n
    unfold lft
    split <;> omega
theorem lft_max (bs : List Int) : ∀ n k, k ≤ n → g bs k ≤ g bs (lft bs n)
  | 0, k, h => by
    have e : k = 0 := by omega
    subst e
    exact Int.le_refl _
  | n + 1, k, h => by
    unfold lft
    by_cases c : g bs (n + 1) > g bs (lft bs n)
    · rw [if_pos c]
      by_cases e : k = n + 1
      · subst e
        exact Int.le_refl _
      · have := lft_max bs n k (by omega)
        omega
    · rw [if_neg c]
      by_cases e : k = n + 1
      · subst e
        omega
      · exact lft_max bs n k (by omega)
theorem lft_first (bs : List Int) : ∀ n k, k < lft bs n → g bs k < g bs (lft bs n)
  | 0, k, h => by unfold lft at h; omega
  | n + 1, k, h => by
    unfold lft at h ⊢
    by_cases c : g bs (n + 1) > g bs (lft bs n)
    · rw [if_pos c] at h ⊢
      have := lft_max bs n k (by omega)
      omega
    · rw [if_neg c] at h ⊢
      exact lft_first bs n k h
theorem hm_lft {bs : List Int} (hg : Good bs) : ∀ {n : Nat}, n < bs.length → hm bs (n + 1) = g bs (lft bs n)
  | 0, h => by
    have := (hg.at h).1
    show (if g bs 0 > 0 then g bs 0 else 0) = g bs 0
    split <;> omega
  | n + 1, h => by
    have ih := hm_lft hg (n := n) (by omega)
    show (if g bs (n + 1) > hm bs (n + 1) then g bs (n + 1) else hm bs (n + 1)) = _
    have e : lft bs (n + 1) = if g bs (n + 1) > g bs (lft bs n) then n + 1 else lft bs n := rfl
    rw [ih, e]
    by_cases c : g bs (n + 1) > g bs (lft bs n)
    · rw [if_pos c, if_pos c]
    · rw [if_neg c, if_neg c]
/-- the last of the highest from a place on -/
def rgt (bs : List Int) (i : Nat) : Nat := bs.length - 1 - lft bs.reverse (bs.length - 1 - i)
theorem rgt_ge {bs : List Int} {i : Nat} (h : i < bs.length) : i ≤ rgt bs i := by
  have := lft_le bs.reverse (bs.length - 1 - i)
  unfold rgt
  omega
theorem rgt_lt {bs : List Int} {i : Nat} (h : i < bs.length) : rgt bs i < bs.length := by
  unfold rgt
  omega
theorem g_rgt {bs : List Int} {i : Nat} (h : i < bs.length) : g bs.reverse (lft bs.reverse (bs.length - 1 - i)) = g bs (rgt bs i) := by
  have := lft_le bs.reverse (bs.length - 1 - i)
  rw [g_rev (by omega)]
  rfl
theorem rgt_max {bs : List Int} {i k : Nat} (h : i < bs.length) (h1 : i ≤ k) (h2 : k < bs.length) : g bs k ≤ g bs (rgt bs i) := by
  have := lft_max bs.reverse (bs.length - 1 - i) (bs.length - 1 - k) (by omega)
  rw [g_rgt h, g_rev (by omega)] at this
  have e : bs.length - 1 - (bs.length - 1 - k) = k := by omega
  rwa [e] at this
theorem rgt_last {bs : List Int} {i k : Nat} (h : i < bs.length) (h1 : rgt bs i < k) (h2 : k < bs.length) : g bs k < g bs (rgt bs i) := by
  have := lft_first bs.reverse (bs.length - 1 - i) (bs.length - 1 - k) (by unfold rgt at h1; omega)
  rw [g_rgt h, g_rev (by omega)] at this
  have e : bs.length - 1 - (bs.length - 1 - k) = k := by omega
  rwa [e] at this
/-- the lower of two, as min(a, b) tells it -/
def lo2 (a b : Int) : Int := if b < a then b else a
theorem lo2_l (a b : Int) : lo2 a b ≤ a := by unfold lo2; split <;> omega
theorem lo2_r (a b : Int) : lo2 a b ≤ b := by unfold lo2; split <;> omega
theorem lo2_is (a b : Int) : lo2 a b = a ∨ lo2 a b = b := by unfold lo2; split <;> simp
theorem lo2_comm (a b : Int) : lo2 a b = lo2 b a := by unfold lo2; split <;> split <;> omega
def lvl (bs : List Int) (i : Nat) : Int := lo2 (g bs (lft bs i)) (g bs (rgt bs i))
def lvls (bs : List Int) : List Int := (List.range bs.length).map (lvl bs)
theorem lvls_len (bs : List Int) : (lvls bs).length = bs.length := by simp [lvls]
theorem lvls_at {bs : List Int} {i : Nat} (h : i < bs.length) : g (lvls bs) i = lvl bs i := g_map h
theorem lvl_hm {bs : List Int} (hg : Good bs) {i : Nat} (h : i < bs.length) : lvl bs i = lo2 (hm bs (i + 1)) (hm bs.reverse (bs.length - i)) := by
  have e : bs.length - i = (bs.length - 1 - i) + 1 := by omega
  rw [hm_lft hg h, e, hm_lft hg.rev (by rw [List.length_reverse]; omega), g_rgt h]
  rfl
theorem lvl_ge {bs : List Int} {i : Nat} (h : i < bs.length) : g bs i ≤ lvl bs i := by
  have h1 := lft_max bs i i (Nat.le_refl _)
  have h2 := rgt_max h (Nat.le_refl i) h
  rcases lo2_is (g bs (lft bs i)) (g bs (rgt bs i)) with e | e <;> (unfold lvl; rw [e]; assumption)
theorem lvls_good {bs : List Int} (hg : Good bs) : Good (lvls bs) := by
  intro b hb
  obtain ⟨i, hi, rfl⟩ := List.mem_map.mp hb
  have hi := List.mem_range.mp hi
  have h1 := (hg.at hi).1
  have h2 := lvl_ge hi
  have h3 := lo2_l (g bs (lft bs i)) (g bs (rgt bs i))
  have h4 := (hg.at (i := lft bs i) (by have := lft_le bs i; omega)).2
  unfold lvl at h2 ⊢
  omega
/-- of the bars told backwards -/
theorem lft_rev {bs : List Int} {i : Nat} (h : i < bs.length) : g bs.reverse (lft bs.reverse i) = g bs (rgt bs (bs.length - 1 - i)) := by
  have := g_rgt (bs := bs) (i := bs.length - 1 - i) (by omega)
  have e : bs.length - 1 - (bs.length - 1 - i) = i := by omega
  rwa [e] at this
theorem rgt_rev {bs : List Int} {i : Nat} (h : i < bs.length) : g bs.reverse (rgt bs.reverse i) = g bs (lft bs (bs.length - 1 - i)) := by
  have hl := lft_le bs (bs.length - 1 - i)
  unfold rgt
  rw [List.reverse_reverse, List.length_reverse, g_rev (by omega)]
  congr 1
  omega
theorem lvls_rev (bs : List Int) : lvls bs.reverse = (lvls bs).reverse := by
  apply List.ext_getElem?
  intro i
  by_cases h : i < bs.length
  · rw [List.getElem?_reverse (by simpa [lvls] using h)]
    simp only [lvls, List.length_map, List.length_range, List.length_reverse, List.getElem?_map]
    rw [List.getElem?_range h, List.getElem?_range (by omega)]
    show some (lvl bs.reverse i) = some (lvl bs (bs.length - 1 - i))
    unfold lvl
    rw [lft_rev h, rgt_rev h, lo2_comm]
  · rw [List.getElem?_eq_none (by simp [lvls]; omega), List.getElem?_eq_none (by simp [lvls]; omega)]
/-- what stands full stays -/
theorem lvls_full {bs : List Int} (hg : Good bs) : lvls (lvls bs) = lvls bs := by
  apply List.ext_getElem?
  intro i
  by_cases h : i < bs.length
  · have hl := lvls_len bs
    have e1 : (lvls (lvls bs))[i]? = some (lvl (lvls bs) i) := by simp [lvls, h]
    have e2 : (lvls bs)[i]? = some (lvl bs i) := by simp [lvls, h]
    rw [e1, e2]
    congr 1
    have a1 := lvl_ge (bs := lvls bs) (i := i) (by omega)
    rw [lvls_at h] at a1
    have b1 : g (lvls bs) (lft (lvls bs) i) ≤ g bs (lft bs i) := by
      have l1 := lft_le (lvls bs) i
      rw [lvls_at (by omega)]
      have x1 := lo2_l (g bs (lft bs (lft (lvls bs) i))) (g bs (rgt bs (lft (lvls bs) i)))
      have x2 := lft_max bs i (lft bs (lft (lvls bs) i)) (by have := lft_le bs (lft (lvls bs) i); omega)
      unfold lvl
      omega
    have b2 : g (lvls bs) (rgt (lvls bs) i) ≤ g bs (rgt bs i) := by
      have l1 := rgt_ge (bs := lvls bs) (i := i) (by omega)
      have l2 := rgt_lt (bs := lvls bs) (i := i) (by omega)
      rw [hl] at l2
      rw [lvls_at l2]
      have x1 := lo2_r (g bs (lft bs (rgt (lvls bs) i))) (g bs (rgt bs (rgt (lvls bs) i)))
      have y1 := rgt_ge (bs := bs) (i := rgt (lvls bs) i) l2
      have y2 := rgt_lt (bs := bs) (i := rgt (lvls bs) i) l2
      have x2 := rgt_max (bs := bs) (k := rgt bs (rgt (lvls bs) i)) h (by omega) y2
      unfold lvl
      omega
    have c1 := lo2_l (g (lvls bs) (lft (lvls bs) i)) (g (lvls bs) (rgt (lvls bs) i))
    have c2 := lo2_r (g (lvls bs) (lft (lvls bs) i)) (g (lvls bs) (rgt (lvls bs) i))
    have d := lo2_is (g bs (lft bs i)) (g bs (rgt bs i))
    unfold lvl at a1 ⊢
    rcases d with d | d <;> (rw [d] at a1 ⊢; omega)
  · rw [List.getElem?_eq_none (by simp [lvls]; omega), List.getElem?_eq_none (by simp [lvls]; omega)]
def rim (bs : List Int) (i : Nat) : Int × Int := ((lft bs i : Nat), (rgt bs i : Nat))
def rimL (bs : List Int) : List (Int × Int) := (List.range bs.length).map (rim bs)
/-- the place ahead of turn n -/
def lft0 (bs : List Int) : Nat → Nat
  | 0 => 0
  | n + 1 => lft bs n
theorem lft0_step (bs : List Int) (n : Nat) : lft bs n = if g bs n > g bs (lft0 bs n) then n else lft0 bs n := by
  cases n with
  | zero =>
    show 0 = if g bs 0 > g bs 0 then 0 else 0
    rw [if_neg (by omega)]
  | succ n => rfl
theorem lft0_le (bs : List Int) : ∀ n, lft0 bs n ≤ n
  | 0 => Nat.le_refl _
  | n + 1 => by
    have := lft_le bs n
    show lft bs n ≤ n + 1
    omega
end Sky

/-! Mk: plain mathematics of rows told by links. -/
namespace Sky
def Lk (ts : List Int) : Prop := ∀ i, i < ts.length → -1 ≤ g ts i ∧ g ts i < (i : Int)
def rowV (ts : List Int) (B : List Int) (n : Nat) : Int := if g ts n < 0 then 0 else g B (g ts n).toNat + 1
def rowB (ts : List Int) : Nat → List Int
  | 0 => []
  | n + 1 => rowB ts n ++ [rowV ts (rowB ts n) n]
theorem rowB_len (ts : List Int) : ∀ n, (rowB ts n).length = n
  | 0 => rfl
  | n + 1 => by
    show (rowB ts n ++ [rowV ts (rowB ts n) n]).length = n + 1
    rw [List.length_append, rowB_len ts n]
    rfl
theorem g_app {B : List Int} {v : Int} {i : Nat} (h : i < B.length) : g (B ++ [v]) i = g B i := by
  unfold g
  rw [List.getD_eq_getElem?_getD, List.getD_eq_getElem?_getD, List.getElem?_append_left h]
theorem g_last (B : List Int) (v : Int) : g (B ++ [v]) B.length = v := by
  unfold g
  rw [List.getD_eq_getElem?_getD, List.getElem?_append_right (Nat.le_refl _)]
  simp
theorem rowB_at {ts : List Int} {i n : Nat} (h : i < n) : g (rowB ts n) i = rowV ts (rowB ts i) i := by
  induction n with
  | zero => omega
  | succ n ih =>
    show g (rowB ts n ++ [rowV ts (rowB ts n) n]) i = _
    by_cases e : i = n
    · subst e
      have := g_last (rowB ts i) (rowV ts (rowB ts i) i)
      rwa [rowB_len] at this
    · rw [g_app (by rw [rowB_len]; omega), ih (by omega)]
theorem rowB_st {ts : List Int} {i m n : Nat} (h : i < m) (h2 : i < n) : g (rowB ts m) i = g (rowB ts n) i := by rw [rowB_at h, rowB_at h2]
theorem rowB_pos {ts : List Int} (hk : Lk ts) : ∀ n, n ≤ ts.length → ∀ i, i < n → 0 ≤ g (rowB ts n) i ∧ g (rowB ts n) i ≤ (i : Int)
  | 0, _, i, h => by omega
  | n + 1, hn, i, h => by
    have ih := rowB_pos hk n (by omega)
    have hi := hk i (by omega)
    rw [rowB_at h]
    unfold rowV
    by_cases c : g ts i < 0
    · rw [if_pos c]
      omega
    · rw [if_neg c]
      have h2 : (g ts i).toNat < i := by omega
      rw [rowB_st (m := i) (n := n) h2 (by omega)]
      have := ih (g ts i).toNat (by omega)
      omega
/-- the value of a place by its link -/
theorem rowB_lt {ts : List Int} (hk : Lk ts) {i n : Nat} (h : i < n) (hn : n ≤ ts.length) (c : 0 ≤ g ts i) : g (rowB ts n) i = g (rowB ts n) (g ts i).toNat + 1 := by
  have hi := hk i (by omega)
  rw [rowB_at h]
  unfold rowV
  rw [if_neg (by omega), rowB_st (m := i) (n := n) (by omega) (by omega)]
theorem rowB_0 {ts : List Int} {i n : Nat} (h : i < n) (c : g ts i < 0) : g (rowB ts n) i = 0 := by
  rw [rowB_at h]
  exact if_pos c
/-- the links so far are the told ones -/
def Row1 (ts : List Int) (n i : Nat) : Prop := ∀ k : Nat, g ts i < (k : Int) → k < i → g (rowB ts n) i ≤ g (rowB ts n) k
def RowOk (ts : List Int) (n : Nat) : Prop := ∀ i, i < n → Row1 ts n i
theorem RowOk.step {ts : List Int} {n : Nat} (h : RowOk ts n) (h1 : ∀ k : Nat, g ts n < (k : Int) → k < n → rowV ts (rowB ts n) n ≤ g (rowB ts n) k) : RowOk ts (n + 1) := by
  intro i hi k k1 k2
  by_cases e : i = n
  · subst e
    rw [rowB_at (Nat.lt_succ_self i), rowB_st (m := i + 1) (n := i) (by omega) k2]
    exact h1 k k1 k2
  · rw [rowB_st (m := n + 1) (n := n) hi (by omega), rowB_st (m := n + 1) (n := n) (i := k) (by omega) (by omega)]
    exact h i (by omega) k k1 k2
/-- one step down the chain -/
theorem chain_step {ts : List Int} (hk : Lk ts) {n at_ : Nat} (hn : n ≤ ts.length) (ok : RowOk ts n) (ha : at_ < n) (h : ∀ k, at_ < k → k < n → g (rowB ts n) at_ < g (rowB ts n) k) {b : Nat} (e : g ts at_ = (b : Int)) :
    ∀ k, b < k → k < n → g (rowB ts n) b < g (rowB ts n) k := by
  intro k k1 k2
  have hb : g (rowB ts n) at_ = g (rowB ts n) b + 1 := by
    have := rowB_lt hk ha hn (by omega)
    rw [e] at this
    exact this
  by_cases c : k < at_
  · have := ok at_ ha k (by omega) c
    omega
  · by_cases c2 : k = at_
    · subst c2
      omega
    · have := h k (by omega) k2
      omega
theorem links_row {ts : List Int} (hk : Lk ts) (ok : RowOk ts ts.length) : links (rowB ts ts.length) = ts := by
  have hl := rowB_len ts ts.length
  apply List.ext_getElem?
  intro i
  by_cases h : i < ts.length
  · have e1 : (links (rowB ts ts.length))[i]? = some (link (rowB ts ts.length) i) := by simp [links, hl, h]
    have e2 : ts[i]? = some (g ts i) := by simp [g, h]
    rw [e1, e2]
    congr 1
    have hi := hk i h
    refine down_of hi.1 hi.2 (fun c => ?_) fun k k1 k2 => ok i h k k1 k2
    have := rowB_lt hk h (Nat.le_refl _) c
    omega
  · rw [List.getElem?_eq_none (by simp [links, hl]; omega), List.getElem?_eq_none (by omega)]
theorem row_good {ts : List Int} (hk : Lk ts) (hl : ts.length ≤ 1000) : Good (rowB ts ts.length) := by
  intro b hb
  obtain ⟨i, hi, rfl⟩ := List.getElem_of_mem hb
  rw [rowB_len] at hi
  have := rowB_pos hk ts.length (Nat.le_refl _) i hi
  have e : g (rowB ts ts.length) i = (rowB ts ts.length)[i] := by
    have hi2 : i < (rowB ts ts.length).length := by rw [rowB_len]; exact hi
    simp [g, hi2]
  rw [← e]
  omega
/-- links of bars are links -/
theorem links_lk (bs : List Int) : Lk (links bs) := by
  intro i hi
  rw [links_len] at hi
  have e : g (links bs) i = link bs i := links_at hi
  rw [e]
  exact ⟨link_ge bs i, link_lt bs i⟩
theorem lk_set {ts : List Int} (hk : Lk ts) {i : Nat} {v : Int} (h1 : -1 ≤ v) (h2 : v < (i : Int)) : Lk (ts.set i v) := by
  intro j hj
  rw [List.length_set] at hj
  have hjj := hk j hj
  unfold g at hjj ⊢
  rw [List.getD_eq_getElem?_getD, List.getElem?_set]
  rw [List.getD_eq_getElem?_getD] at hjj
  by_cases e : i = j
  · subst e
    simp [hj]
    omega
  · rw [if_neg e]
    exact hjj
/-- two places whose links cross -/
def Cross (ts : List Int) (f s : Int) : Prop := 0 ≤ f ∧ f < s ∧ s < (ts.length : Int) ∧ g ts f.toNat < g ts s.toNat ∧ g ts s.toNat < f
end Sky

/-! Pw: highest_so_far, levels, water, rims: for good bars. -/
namespace Sky
open PySem PySem.Spec PyProof.Rows L2
local macro_rules | `(tactic| walk_at "sx") => `(tactic| try simp only [e_K, e_seq, e_asg, e_name, e_drop, e_ret, e_retN, e_ifs, e_next, e_var, e_c, e_op, e_un, e_rI0, e_rI, e_rU, e_test, e_B, e_bl, e_and, e_or, e_not, e_andV, e_orV, e_notV, e_if, e_CB, e_CKw, e_cons, e_nil, e_call,
  e_chn, e_cCons, e_cOne, e_BM, e_BM0, e_sub, e_par, e_ls, e_noP, e_part, e_intx, e_refx, e_yes, e_get0, e_getS, e_sl, List.set_cons_zero, List.set_cons_succ, List.cons_append, List.nil_append, List.append_nil, Bool.not_true, Bool.not_false, e_lst, e_tup, e_rev, e_eqi, e_nei, decide_true, decide_false, if_true, Bool.false_eq_true, if_false, e_callS, e_callE, e_any, e_fld, e_sfld, e_meth, e_make, e_par3])
local macro_rules | `(tactic| walk_at "sy") => `(tactic| try simp (config := { implicitDefEqProofs := false }) only [e_K, e_seq, e_asg, e_name, e_drop, e_ret, e_retN, e_ifs, e_next, e_var, e_c, e_op, e_un, e_rI0, e_rI, e_rU, e_test, e_B, e_bl, e_and, e_or, e_not, e_andV, e_orV, e_notV, e_if, e_CB, e_CKw, e_cons, e_nil, e_call,
  e_chn, e_cCons, e_cOne, e_BM, e_BM0, e_sub, e_par, e_ls, e_noP, e_part, e_intx, e_refx, e_yes, e_get0, e_getS, e_sl, List.set_cons_zero, List.set_cons_succ, List.cons_append, List.nil_append, List.append_nil, Bool.not_true, Bool.not_false, e_lst, e_tup, e_rev, e_eqi, e_nei, decide_true, decide_false, if_true, Bool.false_eq_true, if_false, e_callS, e_callE, e_any, e_fld, e_sfld, e_meth, e_make, e_par3])
abbrev s_highest_so_far : Stmt := top 33
abbrev N_highest_so_far : List Str := ["bars", "found", "highest", "bar"]
theorem sc_highest_so_far : FnScope ["bars", "found", "highest", "bar"] ["bars"] (defScope s_highest_so_far) := ⟨rfl, rfl, rfl, by decide +kernel, rfl, by decide +kernel, by decide +kernel⟩
def hmL (bs : List Int) : List Int := (List.range bs.length).map fun i => hm bs (i + 1)
theorem hmL_len (bs : List Int) : (hmL bs).length = bs.length := by simp [hmL]
def sp_highest_so_far (K : PySem.W.Frag) : Sp := Sp1 fun x H Q _ => ∃ (a : Addr) (bs : List Int), x = .ref a ∧ SqL K H a (ivs bs) ∧ bs.length ≤ 1000 ∧ ∀ p H', H p = none → Same H H' → H' p = some (.lst (ivs (hmL bs))) → Q (.ref p) H'
theorem ok_highest_so_far {P : Program} {w : World} {K : PySem.W.Frag} {mg : Str → Option Value} {base : Heap} {CL : Cl} (D : Def K mg "highest_so_far" ["bars"] s_highest_so_far) (T : Txt K mg CL)  : Has P w K mg base CX0 1 "highest_so_far" ["bars"] (sp_highest_so_far K) := by
  obtain ⟨f, fd, gm, F, bb⟩ := D
  refine ⟨f, fd, gm, F.ok sc_highest_so_far (fun vs H Q E h => ?_) (fun cdv A outer s H vs Q E hr h => ?_), F.kp, bb⟩
  · obtain ⟨x1, rfl, _⟩ := h
    rfl
  obtain ⟨x1, rfl, h⟩ := h
  refine ⟨_, (pss_cons (ps_set (i := 1) sc_highest_so_far.nd rfl (Or.inl rfl) (pe_lst pa_nil))
      (pss_cons (ps_set (i := 2) sc_highest_so_far.nd rfl (Or.inl rfl) pe_int)
      (pss_cons (ps_for PassesOwn.never rfl (pi_list (pv 0)) (pg_name (i := 3) sc_highest_so_far.nd rfl (Or.inl rfl)) (pss_cons (ps_set (i := 2) sc_highest_so_far.nd rfl (Or.inl rfl) (pe_callB (call_max2 rfl) (by rfl) T.m_max bt_max (pa_cons (pv 2) (pa_cons (pv 3) pa_nil))))
      (pss_one (ps_expr (pe_bm PySem.F.plainAttrs_list PySem.F.slot_list_append PySem.F.type_list_append mt_append (pv 1) (pa_cons (pv 2) pa_nil))))))
      (pss_one (ps_ret (pv 1)))))), start_is (σ := [some x1, none, none, none]) rfl ?_⟩
  obtain ⟨a, bs, rfl, hS, hlen, k⟩ := h
  walk_at "sx"
  refine q_newL fun p np => ?_
  have s0 := same_new (o := .lst []) np
  refine q_forL (a := a) (xs := ivs bs) (fun R r => ⟨_, rfl, r⟩) (fun i σ H' => ∃ v3, σ = [some (.ref a), some (.ref p), some (.int (hm bs i)), v3] ∧ Same H H' ∧ H' p = some (.lst (ivs ((hmL bs).take i)))) ⟨none, rfl, s0, upd_same⟩ (fun i σ H' ⟨_, _, s1, _⟩ => s1.seq hS) ?_ ?_
  · rintro i x σ H1 hx ⟨v3, rfl, s1, hp⟩
    obtain ⟨hi, rfl⟩ := of_ivs hx
    walk_at "sx"
    refine ⟨_, _, rfl, q_app hp (by rw [len_ivs, List.length_take, hmL_len]; omega) ⟨_, rfl, same_mut s1 np, ?_⟩⟩
    have e : (hmL bs).take (i + 1) = (hmL bs).take i ++ [hm bs (i + 1)] := take_map_range (fun i => hm bs (i + 1)) hi
    rw [upd_same, e, ivs_app]
    rfl
  · rintro σ H1 ⟨v3, rfl, s1, hp⟩
    walk_at "sx"
    rw [len_ivs, List.take_of_length_le (by rw [hmL_len]; exact Nat.le_refl _)] at hp
    exact k p H1 np s1 hp
end Sky

/-! Pt: parents_of, tree. -/
namespace Sky
open PySem PySem.Spec PyProof.Rows L2
local macro_rules | `(tactic| walk_at "sx") => `(tactic| try simp only [e_K, e_seq, e_asg, e_name, e_drop, e_ret, e_retN, e_ifs, e_next, e_var, e_c, e_op, e_un, e_rI0, e_rI, e_rU, e_test, e_B, e_bl, e_and, e_or, e_not, e_andV, e_orV, e_notV, e_if, e_CB, e_CKw, e_cons, e_nil, e_call,
  e_chn, e_cCons, e_cOne, e_BM, e_BM0, e_sub, e_par, e_ls, e_noP, e_part, e_intx, e_refx, e_yes, e_get0, e_getS, e_sl, List.set_cons_zero, List.set_cons_succ, List.cons_append, List.nil_append, List.append_nil, Bool.not_true, Bool.not_false, e_lst, e_tup, e_rev, e_eqi, e_nei, decide_true, decide_false, if_true, Bool.false_eq_true, if_false, e_callS, e_callE, e_any, e_fld, e_sfld, e_meth, e_make, e_par3])
local macro_rules | `(tactic| walk_at "sy") => `(tactic| try simp (config := { implicitDefEqProofs := false }) only [e_K, e_seq, e_asg, e_name, e_drop, e_ret, e_retN, e_ifs, e_next, e_var, e_c, e_op, e_un, e_rI0, e_rI, e_rU, e_test, e_B, e_bl, e_and, e_or, e_not, e_andV, e_orV, e_notV, e_if, e_CB, e_CKw, e_cons, e_nil, e_call,
  e_chn, e_cCons, e_cOne, e_BM, e_BM0, e_sub, e_par, e_ls, e_noP, e_part, e_intx, e_refx, e_yes, e_get0, e_getS, e_sl, List.set_cons_zero, List.set_cons_succ, List.cons_append, List.nil_append, List.append_nil, Bool.not_true, Bool.not_false, e_lst, e_tup, e_rev, e_eqi, e_nei, decide_true, decide_false, if_true, Bool.false_eq_true, if_false, e_callS, e_callE, e_any, e_fld, e_sfld, e_meth, e_make, e_par3])
theorem ivs_set (l : List Int) (j : Nat) (v : Int) : (ivs l).set j (.int v) = ivs (l.set j v) := (List.map_set ..).symm
abbrev s_parents_of : Stmt := top 28
abbrev N_parents_of : List Str := ["bars", "found", "waiting", "place", "bar", "last"]
theorem sc_parents_of : FnScope ["bars", "found", "waiting", "place", "bar", "last"] ["bars"] (defScope s_parents_of) := ⟨rfl, rfl, rfl, by decide +kernel, rfl, by decide +kernel, by decide +kernel⟩
def sp_parents_of (K : PySem.W.Frag) : Sp := Sp1 fun x H Q _ => ∃ (a : Addr) (bs : List Int), x = .ref a ∧ SqL K H a (ivs bs) ∧ bs.length ≤ 1000 ∧ ∀ p H', H p = none → Same H H' → H' p = some (.lst (ivs (parL bs))) → Q (.ref p) H'
structure PaSt (H : Hp) (p q : Addr) (F : List Int) (st : List Nat) (H' : Hp) : Prop where
  sm : Same H H'
  fp : H' p = some (.lst (ivs F))
  fq : H' q = some (.lst (ivs (stI st)))
theorem PaSt.more {H H1 H2 : Hp} {p q : Addr} {F : List Int} {st : List Nat} (h : PaSt H p q F st H1) (s : Same H1 H2) : PaSt H p q F st H2 := ⟨h.sm.trans s, s _ _ h.fp, s _ _ h.fq⟩
theorem ok_parents_of {P : Program} {w : World} {K : PySem.W.Frag} {mg : Str → Option Value} {base : Heap} {CL : Cl} (D : Def K mg "parents_of" ["bars"] s_parents_of) (T : Txt K mg CL)  : Has P w K mg base CX0 1 "parents_of" ["bars"] (sp_parents_of K) := by
  obtain ⟨f, fd, gm, F, bb⟩ := D
  refine ⟨f, fd, gm, F.ok sc_parents_of (fun vs H Q E h => ?_) (fun cdv A outer s H vs Q E hr h => ?_), F.kp, bb⟩
  · obtain ⟨x1, rfl, _⟩ := h
    rfl
  obtain ⟨x1, rfl, h⟩ := h
  refine ⟨_, (pss_cons (ps_setLc (i := 1) (own := [("bar", 4)]) (g := (gName 4)) (tt := tYes) (by rfl) sc_parents_of.nd rfl rfl (sw_true rfl rfl rfl (by decide +kernel)) (pi_list (pv 0)) (blkOk_by (own := [("bar", 4)]) (N := N_parents_of) (sc := defScope s_parents_of) (by decide +kernel)) (fun _ _ _ _ _ => (pg_name (i := 4) sc_parents_of.nd rfl (Or.inl rfl))) (fun _ _ _ _ _ => pts_nil) (fun _ _ _ _ _ => (pe_un un_neg pe_int)))
      (pss_cons (ps_set (i := 2) sc_parents_of.nd rfl (Or.inl rfl) (pe_lst pa_nil))
      (pss_cons (ps_for PassesOwn.never rfl (pi_enum (by rfl) T.m_enumerate (pa_cons (pv 0) pa_nil)) (pg_tup (n := 2) rfl (pgs_cons (pg_name (i := 3) sc_parents_of.nd rfl (Or.inl rfl)) (pgs_cons (pg_name (i := 4) sc_parents_of.nd rfl (Or.inl rfl)) pgs_nil))) (pss_cons (ps_set (i := 5) sc_parents_of.nd rfl (Or.inl rfl) (pe_un un_neg pe_int))
      (pss_mid (ps_while PassesOwn.never (PW.pt (pw_and (pt_cmpR (neDK (K := K) hr.units) (pv 2) (pe_lst pa_nil) (nomark _)) (pw_and1 (pt_cmpR op_gt (pe_ix (ix_listK (K := K)) (pv 0) (pe_ix (ix_listK (K := K)) (pv 2) (pe_un un_neg pe_int) (fun _ _ => rfl)) (fun _ _ => rfl)) (pv 4) (nomark _))))) (pss_one (ps_set (i := 5) sc_parents_of.nd rfl (Or.inl rfl) (pe_bm0 PySem.F.plainAttrs_list PySem.F.slot_list_pop PySem.F.type_list_pop mt_pop (pv 2)))))
      (pss_mid (ps_if (pt_cmpR op_ge (pv 5) pe_int (nomark _)) (pss_one (ps_asg (pv 3) (pg_sub (pv 1) (pv 5) set_list))) pss_nil)
      (pss_mid (ps_if (pt_cmpR (neDK (K := K) hr.units) (pv 2) (pe_lst pa_nil) (nomark _)) (pss_one (ps_asg (pe_ix (ix_listK (K := K)) (pv 2) (pe_un un_neg pe_int) (fun _ _ => rfl)) (pg_sub (pv 1) (pv 3) set_list))) pss_nil)
      (pss_one (ps_expr (pe_bm PySem.F.plainAttrs_list PySem.F.slot_list_append PySem.F.type_list_append mt_append (pv 2) (pa_cons (pv 3) pa_nil)))))))))
      (pss_one (ps_ret (pv 1)))))), start_is (σ := [some x1, none, none, none, none, none]) rfl ?_⟩
  obtain ⟨a, bs, rfl, hS, hlen, k⟩ := h
  walk_at "sx"
  refine q_lcL (fun i v _ => v = .int (-1)) (fun R r => ⟨_, rfl, r⟩) hS (by rw [len_ivs]; omega) (fun _ => rfl) (fun _ _ _ _ e _ => e) (fun i x H' Q' hx s1 kk => ?_) ?_
  · simp only [wipe, List.map_cons, List.map_nil]
    walk_at "sx"
    exact kk _ _ (Same.refl _) rfl
  intro p H1 acc np s1 hp hla hva
  have e := acc_ivs (f := fun _ => -1) hla hva
  subst e
  rw [len_ivs] at hp
  refine q_newL fun q nq => ?_
  have hpq : p ≠ q := ne_of_none hp nq
  have nq0 := s1.free nq
  have s2 := s1.trans (same_new (o := .lst []) nq)
  have hp2 := same_new (o := .lst []) nq _ _ hp
  refine q_forE (a := a) (xs := ivs bs) (fun R r => ⟨_, rfl, r⟩) (fun i σ H' => ∃ (v3 v4 v5 : Option V) (F : List Int) (st : List Nat), σ = [some (.ref a), some (.ref p), some (.ref q), v3, v4, v5] ∧ PaSt H p q F st H' ∧ PSt bs i st F)
    ⟨none, none, none, _, [], rfl, ⟨s2, hp2, upd_same⟩, PSt.zero bs _ (by simp) fun p hp => by rw [g_map hp]⟩ (fun i σ H' ⟨_, _, _, _, _, _, s, _⟩ => s.sm.seq hS) ?_ ?_
  · rintro i x σ H3 H4 hx ⟨v3, v4, v5, F, st0, rfl, a3, inv⟩ s4
    obtain ⟨hi, rfl⟩ := of_ivs hx
    have a4 := a3.more s4
    have sl := inv.sl
    walk_at "sx"
    refine q_mid (fun σ H5 => ∃ (st : List Nat) (last : Int), σ = [some (.ref a), some (.ref p), some (.ref q), some (.int (i : Int)), some (.int (g bs i)), some (.int last)] ∧ PaSt H p q F st H5 ∧ PWh bs i st0 st last ∧ ∀ p r, st = p :: r → g bs p ≤ g bs i) ?_ ?_
    · refine q_while (fun m σ H5 => ∃ (st : List Nat) (last : Int), m = st.length ∧ σ = [some (.ref a), some (.ref p), some (.ref q), some (.int (i : Int)), some (.int (g bs i)), some (.int last)] ∧ PaSt H p q F st H5 ∧ PWh bs i st0 st last)
        ⟨_, st0, -1, rfl, rfl, a4, PWh.zero inv⟩ ?_
      rintro m σ H5 ⟨st, last, rfl, rfl, a5, w⟩
      walk_at "sx"
      refine q_neN (SqL.of a5.fq) fun H6 s6 => ?_
      walk_at "sx"
      have a6 := a5.more s6
      cases st with
      | nil =>
        rw [if_neg (by simp [stI])]
        exact ⟨[], last, rfl, a6, w, fun p r e => by cases e⟩
      | cons j r =>
        have hj := (inv.el j (w.sub j List.mem_cons_self)).1
        rw [if_pos (by simp [stI])]
        have f6 := a6.fq
        rw [stI_cons] at f6
        refine q_ix1 (SqL.of f6) (q_ixL (a6.sm.seq hS) rfl (by omega) ?_)
        walk_at "sx"
        by_cases c : g bs i < g bs j
        · rw [if_pos (decide_eq_true c)]
          refine ⟨_, fun _ _ n => n, q_pop (xs := ivs (stI r)) (y := .int (j : Int)) (by rw [f6, ivs_app]) ?_⟩
          walk_at "sx"
          exact ⟨r.length, by simp, r, (j : Int), rfl, rfl, ⟨same_mut a6.sm nq0, by rw [upd_ne hpq]; exact a6.fp, upd_same⟩, w.pop c hj⟩
        · rw [if_neg (by simpa using c)]
          refine ⟨j :: r, last, rfl, a6, w, fun p' r' e => ?_⟩
          cases e
          omega
    · rintro σ H5 ⟨st, last, rfl, a5, w, he⟩
      walk_at "sx"
      have stl : st.length ≤ i := Nat.le_trans w.len sl
      have lasti : last < (i : Int) := by
        rcases w.la with ⟨l1, _⟩ | ⟨p, l0, l1, _⟩
        · omega
        · have := (inv.el p l0).1
          omega
      refine q_mid (fun σ H6 => σ = [some (.ref a), some (.ref p), some (.ref q), some (.int (i : Int)), some (.int (g bs i)), some (.int last)] ∧ PaSt H p q (setL F last i) st H6) ?_ ?_
      · walk_at "sx"
        by_cases c : 0 ≤ last
        · rw [if_pos (decide_eq_true c)]
          refine q_setL a5.fp (j := last.toNat) (by omega) (by rw [len_ivs, inv.ln]; omega) ?_
          refine ⟨trivial, same_mut a5.sm np, ?_, ?_⟩
          · rw [upd_same, ivs_set]
            unfold setL
            rw [if_pos c]
          · rw [upd_ne hpq.symm]
            exact a5.fq
        · rw [if_neg (by simpa using c)]
          refine ⟨trivial, ?_⟩
          unfold setL
          rw [if_neg c]
          exact a5
      · rintro σ H6 ⟨rfl, a6⟩
        walk_at "sx"
        refine q_mid (fun σ H7 => σ = [some (.ref a), some (.ref p), some (.ref q), some (.int (i : Int)), some (.int (g bs i)), some (.int last)] ∧ PaSt H p q (setT (setL F last i) st i) st H7) ?_ ?_
        · walk_at "sx"
          refine q_neN (SqL.of a6.fq) fun H7 s7 => ?_
          walk_at "sx"
          have a7 := a6.more s7
          cases st with
          | nil =>
            rw [if_neg (by simp [stI])]
            exact ⟨trivial, a7⟩
          | cons j r =>
            rw [if_pos (by simp [stI])]
            have f7 := a7.fq
            rw [stI_cons] at f7
            refine q_ix1 (SqL.of f7) (q_setL a7.fp (j := i) rfl (by rw [len_ivs, setL_len, inv.ln]; exact hi) ?_)
            refine ⟨trivial, same_mut a7.sm np, ?_, ?_⟩
            · rw [upd_same, ivs_set]
              rfl
            · rw [upd_ne hpq.symm]
              exact a7.fq
        · rintro σ H7 ⟨rfl, a7⟩
          walk_at "sx"
          refine q_app a7.fq (by rw [len_ivs, stI_len]; omega) ?_
          refine ⟨_, _, _, _, i :: st, rfl, ⟨same_mut a7.sm nq0, ?_, ?_⟩, inv.step w hi he⟩
          · rw [upd_ne hpq]
            exact a7.fp
          · rw [upd_same, stI_cons, ivs_app]
  · rintro σ H3 ⟨v3, v4, v5, F, st, rfl, a3, inv⟩
    rw [len_ivs] at inv
    walk_at "sx"
    have e := inv.last
    subst e
    exact k p H3 np a3.sm a3.fp
end Sky

/-! Pd: depths. -/
namespace Sky
open PySem PySem.Spec PyProof.Rows L2
local macro_rules | `(tactic| walk_at "sx") => `(tactic| try simp only [e_K, e_seq, e_asg, e_name, e_drop, e_ret, e_retN, e_ifs, e_next, e_var, e_c, e_op, e_un, e_rI0, e_rI, e_rU, e_test, e_B, e_bl, e_and, e_or, e_not, e_andV, e_orV, e_notV, e_if, e_CB, e_CKw, e_cons, e_nil, e_call,
  e_chn, e_cCons, e_cOne, e_BM, e_BM0, e_sub, e_par, e_ls, e_noP, e_part, e_intx, e_refx, e_yes, e_get0, e_getS, e_sl, List.set_cons_zero, List.set_cons_succ, List.cons_append, List.nil_append, List.append_nil, Bool.not_true, Bool.not_false, e_lst, e_tup, e_rev, e_eqi, e_nei, decide_true, decide_false, if_true, Bool.false_eq_true, if_false, e_callS, e_callE, e_any, e_fld, e_sfld, e_meth, e_make, e_par3])
local macro_rules | `(tactic| walk_at "sy") => `(tactic| try simp (config := { implicitDefEqProofs := false }) only [e_K, e_seq, e_asg, e_name, e_drop, e_ret, e_retN, e_ifs, e_next, e_var, e_c, e_op, e_un, e_rI0, e_rI, e_rU, e_test, e_B, e_bl, e_and, e_or, e_not, e_andV, e_orV, e_notV, e_if, e_CB, e_CKw, e_cons, e_nil, e_call,
  e_chn, e_cCons, e_cOne, e_BM, e_BM0, e_sub, e_par, e_ls, e_noP, e_part, e_intx, e_refx, e_yes, e_get0, e_getS, e_sl, List.set_cons_zero, List.set_cons_succ, List.cons_append, List.nil_append, List.append_nil, Bool.not_true, Bool.not_false, e_lst, e_tup, e_rev, e_eqi, e_nei, decide_true, decide_false, if_true, Bool.false_eq_true, if_false, e_callS, e_callE, e_any, e_fld, e_sfld, e_meth, e_make, e_par3])
/-- the addresses: the list of lists, the found, the waiting -/
structure DAd (H : Hp) (D fp q : Addr) (cs : List Addr) : Prop where
  nd : cs.Nodup
  nD : D ∉ cs
  nf : fp ∉ cs
  nq : q ∉ cs
  Df : D ≠ fp
  Dq : D ≠ q
  fq : fp ≠ q
  hD : H D = none
  hf : H fp = none
  hq : H q = none
  hc : ∀ t ∈ cs, H t = none
structure DSt (H : Hp) (D fp q : Addr) (cs : List Addr) (L : Nat → List Nat) (F : List Int) (W : List Nat) (H' : Hp) : Prop where
  sm : Same H H'
  dl : H' D = some (.lst (cs.map V.ref))
  ch : ∀ (m : Nat) (t : Addr), cs[m]? = some t → H' t = some (.lst (ivs (nts (L m))))
  ff : H' fp = some (.lst (ivs F))
  fw : H' q = some (.lst (ivs (nts W)))
theorem ne_mem {a b : Addr} {l : List Addr} (h : a ∈ l) (n : b ∉ l) : a ≠ b := fun z => n (z ▸ h)
section
variable {H H' : Hp} {D fp q : Addr} {cs : List Addr} {L : Nat → List Nat} {F : List Int} {W : List Nat}
theorem DSt.more (h : DSt H D fp q cs L F W H') {H2 : Hp} (s : Same H' H2) : DSt H D fp q cs L F W H2 := ⟨h.sm.trans s, s _ _ h.dl, fun m t e => s _ _ (h.ch m t e), s _ _ h.ff, s _ _ h.fw⟩
theorem DSt.setF (A : DAd H D fp q cs) (h : DSt H D fp q cs L F W H') (F2 : List Int) : DSt H D fp q cs L F2 W (upd H' fp (.lst (ivs F2))) :=
  ⟨same_mut h.sm A.hf, by rw [upd_ne A.Df]; exact h.dl, fun m t e => by rw [upd_ne (ne_mem (List.mem_of_getElem? e) A.nf)]; exact h.ch m t e, upd_same, by rw [upd_ne A.fq.symm]; exact h.fw⟩
theorem DSt.setW (A : DAd H D fp q cs) (h : DSt H D fp q cs L F W H') (W2 : List Nat) : DSt H D fp q cs L F W2 (upd H' q (.lst (ivs (nts W2)))) :=
  ⟨same_mut h.sm A.hq, by rw [upd_ne A.Dq]; exact h.dl, fun m t e => by rw [upd_ne (ne_mem (List.mem_of_getElem? e) A.nq)]; exact h.ch m t e, by rw [upd_ne A.fq]; exact h.ff, upd_same⟩
theorem nd_injA {α : Type} : ∀ {W : List α}, W.Nodup → ∀ {i j : Nat} {w : α}, W[i]? = some w → W[j]? = some w → i = j
  | [], _, i, j, w, h, _ => by simp at h
  | x :: r, nd, i, j, w, h, h2 => by
    obtain ⟨n1, n2⟩ := List.nodup_cons.mp nd
    cases i with
    | zero =>
      cases j with
      | zero => rfl
      | succ j =>
        have e : x = w := by simpa using h
        subst e
        exact absurd (List.mem_of_getElem? (by simpa using h2 : r[j]? = some x)) n1
    | succ i =>
      cases j with
      | zero =>
        have e : x = w := by simpa using h2
        subst e
        exact absurd (List.mem_of_getElem? (by simpa using h : r[i]? = some x)) n1
      | succ j => rw [nd_injA n2 (by simpa using h : r[i]? = some w) (by simpa using h2 : r[j]? = some w)]
theorem DSt.setK (A : DAd H D fp q cs) (h : DSt H D fp q cs L F W H') {c : Nat} {t : Addr} (hc : cs[c]? = some t) {L2 : Nat → List Nat} (e : ∀ m, m ≠ c → L2 m = L m) : DSt H D fp q cs L2 F W (upd H' t (.lst (ivs (nts (L2 c))))) := by
  have mt := List.mem_of_getElem? hc
  refine ⟨same_mut h.sm (A.hc t mt), by rw [upd_ne (ne_mem mt A.nD).symm]; exact h.dl, fun m u e2 => ?_, by rw [upd_ne (ne_mem mt A.nf).symm]; exact h.ff, by rw [upd_ne (ne_mem mt A.nq).symm]; exact h.fw⟩
  by_cases z : m = c
  · subst z
    rw [hc] at e2
    cases e2
    exact upd_same
  · have ut : u ≠ t := fun z2 => z (nd_injA A.nd (z2 ▸ e2) hc)
    rw [upd_ne ut, e m z]
    exact h.ch m u e2
theorem DSt.same (h : DSt H D fp q cs L F W H') {L2 : Nat → List Nat} (e : ∀ m, L2 m = L m) : DSt H D fp q cs L2 F W H' := ⟨h.sm, h.dl, fun m t z => by rw [e m]; exact h.ch m t z, h.ff, h.fw⟩
end
theorem nts_at {W : List Nat} {j w : Nat} (h : W[j]? = some w) : g (nts W) j = (w : Int) := by
  unfold g nts
  rw [List.getD_eq_getElem?_getD, List.getElem?_map, h]
  rfl
theorem nts_app (W : List Nat) (w : Nat) : ivs (nts (W ++ [w])) = ivs (nts W) ++ [V.int (w : Int)] := by simp [ivs, nts]
theorem nts_len (W : List Nat) : (nts W).length = W.length := List.length_map ..
abbrev s_depths : Stmt := top 30
abbrev N_depths : List Str := ["parents", "children", "found", "waiting", "place", "parent", "at", "child", "one"]
theorem sc_depths : FnScope ["parents", "children", "found", "waiting", "place", "parent", "at", "child", "one"] ["parents"] (defScope s_depths) := ⟨rfl, rfl, rfl, by decide +kernel, rfl, by decide +kernel, by decide +kernel⟩
def sp_depths (K : PySem.W.Frag) : Sp := Sp1 fun x H Q _ => ∃ (a : Addr) (ts : List Int), x = .ref a ∧ SqL K H a (ivs ts) ∧ Pr ts ∧ ts.length ≤ 1000 ∧
  (Hung ts → ∀ p H', H p = none → Same H H' → H' p = some (.lst (ivs (dptL ts))) → Q (.ref p) H') ∧ (¬ Hung ts → ∀ p H', H p = none → Same H H' → H' p = some (.lst (ivs [])) → Q (.ref p) H')
theorem ok_depths {P : Program} {w : World} {K : PySem.W.Frag} {mg : Str → Option Value} {base : Heap} {CL : Cl} (D : Def K mg "depths" ["parents"] s_depths) (T : Txt K mg CL)  : Has P w K mg base CX0 1 "depths" ["parents"] (sp_depths K) := by
  obtain ⟨f, fd, gm, F, bb⟩ := D
  refine ⟨f, fd, gm, F.ok sc_depths (fun vs H Q E h => ?_) (fun cdv A outer s H vs Q E hr h => ?_), F.kp, bb⟩
  · obtain ⟨x1, rfl, _⟩ := h
    rfl
  obtain ⟨x1, rfl, h⟩ := h
  refine ⟨_, (pss_cons (ps_setLc (i := 1) (own := [("one", 8)]) (g := (gName 8)) (tt := tYes) (by rfl) sc_depths.nd rfl rfl (sw_true rfl rfl rfl (by decide +kernel)) (pi_list (pv 0)) (blkOk_by (own := [("one", 8)]) (N := N_depths) (sc := defScope s_depths) (by decide +kernel)) (fun _ _ _ _ _ => (pg_name (i := 8) sc_depths.nd rfl (Or.inl rfl))) (fun _ _ _ _ _ => pts_nil) (fun _ _ _ _ _ => (pe_lst pa_nil)))
      (pss_cons (ps_setLc (i := 2) (own := [("one", 8)]) (g := (gName 8)) (tt := tYes) (by rfl) sc_depths.nd rfl rfl (sw_true rfl rfl rfl (by decide +kernel)) (pi_list (pv 0)) (blkOk_by (own := [("one", 8)]) (N := N_depths) (sc := defScope s_depths) (by decide +kernel)) (fun _ _ _ _ _ => (pg_name (i := 8) sc_depths.nd rfl (Or.inl rfl))) (fun _ _ _ _ _ => pts_nil) (fun _ _ _ _ _ => pe_int))
      (pss_cons (ps_set (i := 3) sc_depths.nd rfl (Or.inl rfl) (pe_lst pa_nil))
      (pss_cons (ps_for PassesOwn.never rfl (pi_enum (by rfl) T.m_enumerate (pa_cons (pv 0) pa_nil)) (pg_tup (n := 2) rfl (pgs_cons (pg_name (i := 4) sc_depths.nd rfl (Or.inl rfl)) (pgs_cons (pg_name (i := 5) sc_depths.nd rfl (Or.inl rfl)) pgs_nil))) (pss_one (ps_if (pt_cmpR op_lt (pv 5) pe_int (nomark _)) (pss_one (ps_expr (pe_bm PySem.F.plainAttrs_list PySem.F.slot_list_append PySem.F.type_list_append mt_append (pv 3) (pa_cons (pv 4) pa_nil)))) (pss_one (ps_expr (pe_bm PySem.F.plainAttrs_list PySem.F.slot_list_append PySem.F.type_list_append mt_append (pe_ix (ix_listK (K := K)) (pv 1) (pv 5) (fun _ _ => rfl)) (pa_cons (pv 4) pa_nil)))))))
      (pss_cons (ps_set (i := 6) sc_depths.nd rfl (Or.inl rfl) pe_int)
      (pss_mid (ps_while PassesOwn.never (pt_cmpR op_lt (pv 6) (pe_callB (lenK (K := K)) (by rfl) T.m_len bt_len (pa_cons (pv 3) pa_nil)) (nomark _)) (pss_cons (ps_for PassesOwn.never rfl (pi_list (pe_ix (ix_listK (K := K)) (pv 1) (pe_ix (ix_listK (K := K)) (pv 3) (pv 6) (fun _ _ => rfl)) (fun _ _ => rfl))) (pg_name (i := 7) sc_depths.nd rfl (Or.inl rfl)) (pss_cons (ps_asg (pe_op op_add (pe_ix (ix_listK (K := K)) (pv 2) (pe_ix (ix_listK (K := K)) (pv 3) (pv 6) (fun _ _ => rfl)) (fun _ _ => rfl)) pe_int) (pg_sub (pv 2) (pv 7) set_list))
      (pss_one (ps_expr (pe_bm PySem.F.plainAttrs_list PySem.F.slot_list_append PySem.F.type_list_append mt_append (pv 3) (pa_cons (pv 7) pa_nil))))))
      (pss_one (ps_set (i := 6) sc_depths.nd rfl (Or.inl rfl) (pe_op op_add (pv 6) pe_int)))))
      (pss_cons (ps_if (pt_cmpR op_lt (pe_callB (lenK (K := K)) (by rfl) T.m_len bt_len (pa_cons (pv 3) pa_nil)) (pe_callB (lenK (K := K)) (by rfl) T.m_len bt_len (pa_cons (pv 0) pa_nil)) (nomark _)) (pss_one (ps_ret (pe_lst pa_nil))) pss_nil)
      (pss_one (ps_ret (pv 2)))))))))), start_is (σ := [some x1, none, none, none, none, none, none, none, none]) rfl ?_⟩
  obtain ⟨a, ts, rfl, hS, hpr, hlen, k1, k2⟩ := h
  walk_at "sx"
  refine q_lcLL (fun _ => []) (fun R r => ⟨_, rfl, r⟩) hS (by rw [len_ivs]; omega) (fun _ => rfl) (fun i x H' Q' hx s1 kk => ?_) ?_
  · simp only [wipe, List.map_cons, List.map_nil]
    walk_at "sx"
    exact q_newL fun t nt => kk t _ nt (same_new nt) upd_same
  intro D H1 cs nD s1 hD hcl hcs
  rw [len_ivs] at hcl
  refine q_lcL (fun i v _ => v = .int 0) (fun R r => ⟨_, rfl, r⟩) (s1.seq hS) (by rw [len_ivs]; omega) (fun _ => rfl) (fun _ _ _ _ e _ => e) (fun i x H' Q' hx s2 kk => ?_) ?_
  · simp only [wipe, List.map_cons, List.map_nil]
    walk_at "sx"
    exact kk _ _ (Same.refl _) rfl
  intro fp H2 acc nf s2 hf hla hva
  have e := acc_ivs (f := fun _ => 0) hla hva
  subst e
  rw [len_ivs] at hf
  refine q_newL fun q nq => ?_
  have s12 := s1.trans s2
  have sq := same_new (o := .lst []) nq
  have A : DAd H D fp q cs := by
    refine ⟨hcs.nd, hcs.nD, fun m => ?_, fun m => ?_, ne_of_none hD nf, ne_of_none (s2 _ _ hD) nq, ne_of_none hf nq, nD, s1.free nf, s12.free nq, hcs.fr⟩
    · obtain ⟨j, hj, e⟩ := List.getElem_of_mem m
      have := hcs.at_ j fp (by rw [List.getElem?_eq_getElem hj, e])
      rw [nf] at this
      cases this
    · obtain ⟨j, hj, e⟩ := List.getElem_of_mem m
      have := s2 _ _ (hcs.at_ j q (by rw [List.getElem?_eq_getElem hj, e]))
      rw [nq] at this
      cases this
  have d0 : DSt H D fp q cs (kids ts 0) ((List.range ts.length).map fun _ => 0) (roots ts 0) (upd H2 q (.lst [])) :=
    ⟨s12.trans sq, sq _ _ (s2 _ _ hD), fun m t e => sq _ _ (s2 _ _ (hcs.at_ m t e)), sq _ _ hf, upd_same⟩
  generalize upd H2 q (.lst []) = H3 at d0 ⊢
  refine q_forE (a := a) (xs := ivs ts) (fun R r => ⟨_, rfl, r⟩) (fun i σ H' => ∃ v4 v5, σ = [some (.ref a), some (.ref D), some (.ref fp), some (.ref q), v4, v5, none, none, none] ∧ DSt H D fp q cs (kids ts i) ((List.range ts.length).map fun _ => 0) (roots ts i) H')
    ⟨none, none, rfl, d0⟩ (fun i σ H' ⟨_, _, _, d⟩ => d.sm.seq hS) ?_ ?_
  · rintro i x σ H4 H5 hx ⟨v4, v5, rfl, d4⟩ s5
    obtain ⟨hi, rfl⟩ := of_ivs hx
    have d5 := d4.more s5
    walk_at "sx"
    by_cases c : g ts i < 0
    · rw [if_pos (decide_eq_true c)]
      refine q_app d5.fw (by rw [len_ivs, nts_len]; have := roots_len ts i; omega) ?_
      refine ⟨_, _, rfl, ?_⟩
      have er : roots ts (i + 1) = roots ts i ++ [i] := by rw [roots_step, if_pos c]
      have := d5.setW A (roots ts (i + 1))
      rw [er, nts_app] at this
      rw [er]
      exact this.same fun m => by rw [kids_step, if_neg (by omega)]
    · rw [if_neg (by simpa using c)]
      obtain ⟨n, en⟩ : ∃ n : Nat, g ts i = (n : Int) := ⟨(g ts i).toNat, by omega⟩
      have hn : n < cs.length := by have := (hpr i hi).2; omega
      have ct := List.getElem?_eq_getElem hn
      rw [en]
      refine q_ixV (SqL.of d5.dl) rfl (by rw [List.getElem?_map, ct]; rfl) ?_
      refine q_app (d5.ch n _ ct) (by rw [len_ivs, nts_len]; have := kids_len ts i n; omega) ?_
      refine ⟨_, _, rfl, ?_⟩
      have := d5.setK A ct (L2 := kids ts (i + 1)) fun m hm => by rw [kids_step, if_neg (by omega)]
      have ek : kids ts (i + 1) n = kids ts i n ++ [i] := by rw [kids_step, if_pos en]
      have er : roots ts (i + 1) = roots ts i := by rw [roots_step, if_neg c]
      rw [ek, nts_app] at this
      rw [er]
      exact this
  rintro σ H4 ⟨v4, v5, rfl, d4⟩
  rw [len_ivs] at d4
  walk_at "sx"
  refine q_mid (fun σ H5 => ∃ (W : List Nat) (F : List Int) (w4 w5 w6 w7 w8 : Option V), σ = [some (.ref a), some (.ref D), some (.ref fp), some (.ref q), w4, w5, w6, w7, w8] ∧ DSt H D fp q cs (kids ts ts.length) F W H5 ∧ Bf ts W.length W ∧ BfF ts W F) ?_ ?_
  · refine q_while (fun m σ H5 => ∃ (at_ : Nat) (W : List Nat) (F : List Int) (w7 : Option V), m = ts.length - at_ ∧ σ = [some (.ref a), some (.ref D), some (.ref fp), some (.ref q), v4, v5, some (.int (at_ : Int)), w7, none] ∧ DSt H D fp q cs (kids ts ts.length) F W H5 ∧ Bf ts at_ W ∧ BfF ts W F)
      ⟨_, 0, _, _, none, rfl, rfl, d4, Bf.zero, BfF.zero (by simp) fun p hp => by rw [g_map hp]⟩ ?_
    rintro m σ H5 ⟨at_, W, F, w7, rfl, rfl, d5, b5, f5⟩
    walk_at "sx"
    refine q_lenI (SqL.of d5.fw) ?_
    rw [nts_len]
    walk_at "sx"
    by_cases c : (at_ : Int) < (W.length : Int)
    · rw [if_pos (decide_eq_true c)]
      have hat : at_ < W.length := by omega
      have hw := List.getElem?_eq_getElem hat
      generalize W[at_] = w at hw
      have wn := b5.lt w (List.mem_of_getElem? hw)
      have wl := b5.len
      have ct := List.getElem?_eq_getElem (show w < cs.length by omega)
      generalize cs[w]'(show w < cs.length by omega) = t at ct
      have kl := kids_len ts ts.length w
      refine ⟨fun σ' H' => ∃ (W' : List Nat) (F' : List Int) (w7 : Option V), σ' = [some (.ref a), some (.ref D), some (.ref fp), some (.ref q), v4, v5, some (.int ((at_ + 1 : Nat) : Int)), w7, none] ∧ DSt H D fp q cs (kids ts ts.length) F' W' H' ∧ Bf ts (at_ + 1) W' ∧ BfF ts W' F',
        fun σ' H' ⟨W', F', w7, e1, e2, e3, e4⟩ => ⟨ts.length - (at_ + 1), by omega, at_ + 1, W', F', w7, rfl, e1, e2, e3, e4⟩, ?_⟩
      refine q_forL (a := t) (xs := ivs (nts (kids ts ts.length w))) (fun R r => by
          walk_at "sx"
          refine q_ixL (SqL.of d5.fw) rfl (by rw [nts_len]; exact hat) ?_
          rw [nts_at hw]
          exact q_ixV (SqL.of d5.dl) rfl (by rw [List.getElem?_map, ct]; rfl) r)
        (fun i σ H' => ∃ (w7 : Option V) (F' : List Int), σ = [some (.ref a), some (.ref D), some (.ref fp), some (.ref q), v4, v5, some (.int (at_ : Int)), w7, none] ∧ DSt H D fp q cs (kids ts ts.length) F' (W ++ (kids ts ts.length w).take i) H' ∧ BfF ts (W ++ (kids ts ts.length w).take i) F')
        ⟨w7, F, rfl, by simpa using d5, by simpa using f5⟩ (fun i σ H' ⟨_, _, _, d, _⟩ => SqL.of (d.ch w t ct)) ?_ ?_
      · rintro i x σ H6 hx ⟨w7', F', rfl, d6, f6⟩
        obtain ⟨hi, rfl⟩ := of_ivs hx
        rw [nts_len] at hi
        have hc := List.getElem?_eq_getElem hi
        generalize (kids ts ts.length w)[i] = cc at hc
        rw [nts_at hc]
        have mc := kids_mem.mp (List.mem_of_getElem? hc)
        have hwi : (W ++ (kids ts ts.length w).take i)[at_]? = some w := by rw [List.getElem?_append_left hat]; exact hw
        walk_at "sx"
        refine q_ixL (SqL.of d6.fw) rfl (by rw [nts_len, List.length_append]; omega) ?_
        rw [nts_at hwi]
        refine q_ixL (SqL.of d6.ff) rfl (by rw [f6.ln]; exact wn) ?_
        walk_at "sx"
        refine q_setL d6.ff rfl (by rw [len_ivs, f6.ln]; exact mc.1) ?_
        rw [ivs_set]
        have d7 := d6.setF A (F'.set cc (g F' w + 1))
        have f7 := BfF.step b5 hw f6 hc
        refine q_app d7.fw (by rw [len_ivs, nts_len, List.length_append, List.length_take]; omega) ?_
        have et : W ++ (kids ts ts.length w).take (i + 1) = (W ++ (kids ts ts.length w).take i) ++ [cc] := by
          rw [List.take_add_one, hc, List.append_assoc]
          rfl
        have d8 := d7.setW A ((W ++ (kids ts ts.length w).take i) ++ [cc])
        rw [nts_app] at d8
        rw [et] at f7 ⊢
        exact ⟨_, _, rfl, d8, f7⟩
      · rintro σ H6 ⟨w7', F', rfl, d6, f6⟩
        rw [len_ivs, nts_len, List.take_length] at d6 f6
        walk_at "sx"
        refine ⟨_, F', w7', ?_, d6, b5.step hw, f6⟩
        rw [show ((at_ + 1 : Nat) : Int) = (at_ : Int) + 1 by omega]
    · rw [if_neg (by simpa using c)]
      have e : at_ = W.length := by have := b5.le; omega
      subst e
      exact ⟨W, F, _, _, _, _, _, rfl, d5, b5, f5⟩
  · rintro σ H5 ⟨W, F, w4, w5, w6, w7, w8, rfl, d5, b5, f5⟩
    walk_at "sx"
    refine q_lenI (SqL.of d5.fw) (q_lenI (d5.sm.seq hS) ?_)
    rw [nts_len]
    walk_at "sx"
    by_cases c : (W.length : Int) < (ts.length : Int)
    · rw [if_pos (decide_eq_true c)]
      exact q_newL fun r nr => k2 (b5.miss hpr (by omega)) r _ (d5.sm.free nr) (d5.sm.trans (same_new nr)) upd_same
    · rw [if_neg (by simpa using c)]
      obtain ⟨hu, e⟩ := b5.full f5 (by omega)
      subst e
      exact k1 hu fp H5 A.hf d5.sm d5.ff
end Sky

/-! Pb: boards: the class, by its fields. -/
namespace Sky
open PySem PySem.Spec PyProof.Rows L2
local macro_rules | `(tactic| walk_at "sx") => `(tactic| try simp only [e_K, e_seq, e_asg, e_name, e_drop, e_ret, e_retN, e_ifs, e_next, e_var, e_c, e_op, e_un, e_rI0, e_rI, e_rU, e_test, e_B, e_bl, e_and, e_or, e_not, e_andV, e_orV, e_notV, e_if, e_CB, e_CKw, e_cons, e_nil, e_call,
  e_chn, e_cCons, e_cOne, e_BM, e_BM0, e_sub, e_par, e_ls, e_noP, e_part, e_intx, e_refx, e_yes, e_get0, e_getS, e_sl, List.set_cons_zero, List.set_cons_succ, List.cons_append, List.nil_append, List.append_nil, Bool.not_true, Bool.not_false, e_lst, e_tup, e_rev, e_eqi, e_nei, decide_true, decide_false, if_true, Bool.false_eq_true, if_false, e_callS, e_callE, e_any, e_fld, e_sfld, e_meth, e_make, e_par3])
local macro_rules | `(tactic| walk_at "sy") => `(tactic| try simp (config := { implicitDefEqProofs := false }) only [e_K, e_seq, e_asg, e_name, e_drop, e_ret, e_retN, e_ifs, e_next, e_var, e_c, e_op, e_un, e_rI0, e_rI, e_rU, e_test, e_B, e_bl, e_and, e_or, e_not, e_andV, e_orV, e_notV, e_if, e_CB, e_CKw, e_cons, e_nil, e_call,
  e_chn, e_cCons, e_cOne, e_BM, e_BM0, e_sub, e_par, e_ls, e_noP, e_part, e_intx, e_refx, e_yes, e_get0, e_getS, e_sl, List.set_cons_zero, List.set_cons_succ, List.cons_append, List.nil_append, List.append_nil, Bool.not_true, Bool.not_false, e_lst, e_tup, e_rev, e_eqi, e_nei, decide_true, decide_false, if_true, Bool.false_eq_true, if_false, e_callS, e_callE, e_any, e_fld, e_sfld, e_meth, e_make, e_par3])
def bdF (f m h : Int) (l : Addr) : List (Str × V) := [("first", .int f), ("many", .int m), ("high", .int h), ("around", .ref l)]
theorem bdF_first (f m h : Int) (l : Addr) : List.lookup ("first" : Str) (bdF f m h l) = some (V.int f) := by kernel_rfl
theorem bdF_many (f m h : Int) (l : Addr) : List.lookup ("many" : Str) (bdF f m h l) = some (V.int m) := by kernel_rfl
theorem bdF_high (f m h : Int) (l : Addr) : List.lookup ("high" : Str) (bdF f m h l) = some (V.int h) := by kernel_rfl
theorem bdF_around (f m h : Int) (l : Addr) : List.lookup ("around" : Str) (bdF f m h l) = some (V.ref l) := by kernel_rfl
theorem bdF_shows (f m h : Int) (l : Addr) : List.lookup ("shows" : Str) (bdF f m h l) = none := by kernel_rfl
theorem bdF_bounded (f m h : Int) (l : Addr) : List.lookup ("bounded" : Str) (bdF f m h l) = none := by kernel_rfl
theorem bd2 (f m : Int) : putF "many" (.int m) (putF "first" (.int f) []) = ([("first", .int f), ("many", .int m)] : List (Str × V)) := by kernel_rfl
theorem bd3 (f m h : Int) : putF "high" (.int h) (putF "many" (.int m) (putF "first" (.int f) [])) = ([("first", .int f), ("many", .int m), ("high", .int h)] : List (Str × V)) := by kernel_rfl
theorem bd4 (f m h : Int) (l : Addr) : putF "around" (.ref l) (putF "high" (.int h) (putF "many" (.int m) (putF "first" (.int f) []))) = bdF f m h l := by kernel_rfl
/-- a board stands at p, its list at l -/
def BdAt (C : Addr) (H : Hp) (p : Addr) (f m h : Int) (l : Addr) : Prop := ∃ dx, H p = some (.ins C dx (bdF f m h l))
theorem BdAt.more {C : Addr} {H H' : Hp} {p : Addr} {f m h : Int} {l : Addr} (b : BdAt C H p f m h l) (s : Same H H') : BdAt C H' p f m h l := by
  obtain ⟨dx, e⟩ := b
  exact ⟨dx, s _ _ e⟩
section
variable {K : PySem.W.Frag} {mg : Str → Option Value} {CL : Cl} (T : Txt K mg CL) {H : Hp} {p : Addr} {f m h : Int} {l : Addr} {Q : VK} (b : BdAt CL.Board H p f m h l)
include T b
theorem q_first (q : Q (.int f) H) : rFld K "first" (.ref p) H Q := by
  obtain ⟨dx, e⟩ := b
  exact q_fld e T.cl_Board T.na_Board_first (bdF_first _ _ _ _) q
theorem q_many (q : Q (.int m) H) : rFld K "many" (.ref p) H Q := by
  obtain ⟨dx, e⟩ := b
  exact q_fld e T.cl_Board T.na_Board_many (bdF_many _ _ _ _) q
theorem q_high (q : Q (.int h) H) : rFld K "high" (.ref p) H Q := by
  obtain ⟨dx, e⟩ := b
  exact q_fld e T.cl_Board T.na_Board_high (bdF_high _ _ _ _) q
theorem q_around (q : Q (.ref l) H) : rFld K "around" (.ref p) H Q := by
  obtain ⟨dx, e⟩ := b
  exact q_fld e T.cl_Board T.na_Board_around (bdF_around _ _ _ _) q
end
abbrev s_Board___init__ : Stmt := inClass (top 20) 0
abbrev N_Board___init__ : List Str := ["self", "first", "many", "high", "around"]
theorem sc_Board___init__ : FnScope ["self", "first", "many", "high", "around"] ["self", "first", "many", "high", "around"] (defScope s_Board___init__) := ⟨rfl, rfl, rfl, by decide +kernel, rfl, by decide +kernel, by decide +kernel⟩
def sp_Board___init__ (K : PySem.W.Frag) (CL : Cl) : Sp := Sp5 fun x y z u v H Q _ => ∃ (p dx a : Addr) (f m h : Int) (vs : List V), x = .ref p ∧ y = .int f ∧ z = .int m ∧ u = .int h ∧ v = .ref a ∧ H p = some (.ins CL.Board dx []) ∧ SqL K H a vs ∧
  ∀ l H', H l = none → BdAt CL.Board H' p f m h l → H' l = some (.lst vs) → (∀ b o, H b = some o → b ≠ p → H' b = some o) → Q .non H'
theorem seq_upd {K : PySem.W.Frag} {H : Hp} {a p : Addr} {vs : List V} {o o' : HO} (h : SqL K H a vs) (hp : H p = some o) (ho : ∀ xs, o ≠ .lst xs) (ho2 : ∀ ob xs, o ≠ .frz ob (.lst xs)) : SqL K (upd H p o') a vs := by
  rcases h with (h | ⟨ob, h⟩) | h
  · exact .inl (.inl (by rw [upd_ne (ne_of h hp fun z => ho _ z.symm)]; exact h))
  · exact .inl (.inr ⟨ob, by rw [upd_ne (ne_of h hp fun z => ho2 _ _ z.symm)]; exact h⟩)
  · exact .inr h
theorem ok_Board___init__ {P : Program} {w : World} {K : PySem.W.Frag} {mg : Str → Option Value} {base : Heap} {CL : Cl} (D : DefI K CL.Board "Board.__init__" ["self", "first", "many", "high", "around"] s_Board___init__) (T : Txt K mg CL)  : HasI P w K mg base CX0 1 CL.Board ["self", "first", "many", "high", "around"] (sp_Board___init__ K CL) := by
  obtain ⟨f, fd, F, bb, mm⟩ := D
  refine ⟨f, fd, F.ok sc_Board___init__ (fun vs H Q E h => ?_) (fun cdv A outer s H vs Q E hr h => ?_), bb, mm⟩
  · obtain ⟨x1, x2, x3, x4, x5, rfl, _⟩ := h
    rfl
  obtain ⟨x1, x2, x3, x4, x5, rfl, h⟩ := h
  refine ⟨_, (pss_cons (ps_fld (pv 0) (pv 1) (by rfl))
      (pss_cons (ps_fld (pv 0) (pv 2) (by rfl))
      (pss_cons (ps_fld (pv 0) (pv 3) (by rfl))
      (pss_one (ps_fld (pv 0) (pe_callTy (listK (K := K)) (by rfl) T.m_list bt_list (pa_cons (pv 4) pa_nil)) (by rfl)))))), start_is (σ := [some x1, some x2, some x3, some x4, some x5]) rfl ?_⟩
  obtain ⟨p, dx, a, i, m, h, vs, rfl, rfl, rfl, rfl, rfl, hp, hS, k⟩ := h
  walk_at "sx"
  refine ⟨_, _, _, _, rfl, hp, T.cl_Board, T.na_Board_first, by show 0 < 1000; decide, ?_⟩
  walk_at "sx"
  refine ⟨_, _, _, _, rfl, upd_same, T.cl_Board, T.na_Board_many, by show 1 < 1000; decide, ?_⟩
  walk_at "sx"
  refine ⟨_, _, _, _, rfl, upd_same, T.cl_Board, T.na_Board_high, by rw [bd2]; show 2 < 1000; decide, ?_⟩
  walk_at "sx"
  have np : ∀ b o, H b = some o → b ≠ p → upd (upd (upd H p (.ins CL.Board dx (putF "first" (.int i) []))) p (.ins CL.Board dx (putF "many" (.int m) (putF "first" (.int i) [])))) p (.ins CL.Board dx (putF "high" (.int h) (putF "many" (.int m) (putF "first" (.int i) [])))) b = some o := fun b o e hb => by
    rw [upd_ne hb, upd_ne hb, upd_ne hb]
    exact e
  have hp3 : upd (upd (upd H p (.ins CL.Board dx (putF "first" (.int i) []))) p (.ins CL.Board dx (putF "many" (.int m) (putF "first" (.int i) [])))) p (.ins CL.Board dx (putF "high" (.int h) (putF "many" (.int m) (putF "first" (.int i) [])))) p = some (.ins CL.Board dx (putF "high" (.int h) (putF "many" (.int m) (putF "first" (.int i) [])))) := upd_same
  have hS3 : SqL K (upd (upd (upd H p (.ins CL.Board dx (putF "first" (.int i) []))) p (.ins CL.Board dx (putF "many" (.int m) (putF "first" (.int i) [])))) p (.ins CL.Board dx (putF "high" (.int h) (putF "many" (.int m) (putF "first" (.int i) []))))) a vs := by
    refine seq_upd (seq_upd (seq_upd hS hp ?_ ?_) upd_same ?_ ?_) upd_same ?_ ?_ <;> (intros; intro z; cases z)
  have fr : ∀ l, upd (upd (upd H p (.ins CL.Board dx (putF "first" (.int i) []))) p (.ins CL.Board dx (putF "many" (.int m) (putF "first" (.int i) [])))) p (.ins CL.Board dx (putF "high" (.int h) (putF "many" (.int m) (putF "first" (.int i) [])))) l = none → l ≠ p ∧ H l = none := fun l e => by
    have n : l ≠ p := (ne_of_none upd_same e).symm
    rw [upd_ne n, upd_ne n, upd_ne n] at e
    exact ⟨n, e⟩
  generalize upd (upd (upd H p (.ins CL.Board dx (putF "first" (.int i) []))) p (.ins CL.Board dx (putF "many" (.int m) (putF "first" (.int i) [])))) p (.ins CL.Board dx (putF "high" (.int h) (putF "many" (.int m) (putF "first" (.int i) [])))) = H3 at np hp3 hS3 fr ⊢
  refine q_list hS3 fun l nl => ?_
  obtain ⟨nlp, nl0⟩ := fr l nl
  refine ⟨_, _, _, _, rfl, by rw [upd_ne nlp.symm]; exact hp3, T.cl_Board, T.na_Board_around, by rw [bd3]; show 3 < 1000; decide, ?_⟩
  walk_at "sx"
  refine k l _ nl0 ⟨dx, by rw [upd_same, bd4]⟩ ?_ fun b o e hb => ?_
  · rw [upd_ne nlp, upd_same]
  · rw [upd_ne hb, upd_ne (ne_of_none (np b o e hb) nl)]
    exact np b o e hb

end Sky

/-! Pk: rows and crossed places: the classes, by their fields. -/
namespace Sky
open PySem PySem.Spec PyProof.Rows L2
local macro_rules | `(tactic| walk_at "sx") => `(tactic| try simp only [e_K, e_seq, e_asg, e_name, e_drop, e_ret, e_retN, e_ifs, e_next, e_var, e_c, e_op, e_un, e_rI0, e_rI, e_rU, e_test, e_B, e_bl, e_and, e_or, e_not, e_andV, e_orV, e_notV, e_if, e_CB, e_CKw, e_cons, e_nil, e_call,
  e_chn, e_cCons, e_cOne, e_BM, e_BM0, e_sub, e_par, e_ls, e_noP, e_part, e_intx, e_refx, e_yes, e_get0, e_getS, e_sl, List.set_cons_zero, List.set_cons_succ, List.cons_append, List.nil_append, List.append_nil, Bool.not_true, Bool.not_false, e_lst, e_tup, e_rev, e_eqi, e_nei, decide_true, decide_false, if_true, Bool.false_eq_true, if_false, e_callS, e_callE, e_any, e_fld, e_sfld, e_meth, e_make, e_par3])
local macro_rules | `(tactic| walk_at "sy") => `(tactic| try simp (config := { implicitDefEqProofs := false }) only [e_K, e_seq, e_asg, e_name, e_drop, e_ret, e_retN, e_ifs, e_next, e_var, e_c, e_op, e_un, e_rI0, e_rI, e_rU, e_test, e_B, e_bl, e_and, e_or, e_not, e_andV, e_orV, e_notV, e_if, e_CB, e_CKw, e_cons, e_nil, e_call,
  e_chn, e_cCons, e_cOne, e_BM, e_BM0, e_sub, e_par, e_ls, e_noP, e_part, e_intx, e_refx, e_yes, e_get0, e_getS, e_sl, List.set_cons_zero, List.set_cons_succ, List.cons_append, List.nil_append, List.append_nil, Bool.not_true, Bool.not_false, e_lst, e_tup, e_rev, e_eqi, e_nei, decide_true, decide_false, if_true, Bool.false_eq_true, if_false, e_callS, e_callE, e_any, e_fld, e_sfld, e_meth, e_make, e_par3])
theorem SqL.keep {K : PySem.W.Frag} {H : Hp} {a p : Addr} {vs : List V} {o o' : HO} (h : SqL K H a vs) (hp : H p = some o) (ho : ∀ xs, o ≠ .lst xs) (ho2 : ∀ ob xs, o ≠ .frz ob (.lst xs)) : SqL K (upd H p o') a vs := by
  rcases h with (h | ⟨ob, h⟩) | h
  · exact .inl (.inl (by rw [upd_ne (ne_of h hp fun z => ho _ z.symm)]; exact h))
  · exact .inl (.inr ⟨ob, by rw [upd_ne (ne_of h hp fun z => ho2 _ _ z.symm)]; exact h⟩)
  · exact .inr h
def rwF (l : Addr) : List (Str × V) := [("bars", .ref l)]
theorem rwF_bars (l : Addr) : List.lookup ("bars" : Str) (rwF l) = some (V.ref l) := by kernel_rfl
theorem rwF_shows (l : Addr) : List.lookup ("shows" : Str) (rwF l) = none := by kernel_rfl
theorem rw1 (l : Addr) : putF "bars" (.ref l) [] = rwF l := by kernel_rfl
def RwAt (C : Addr) (H : Hp) (p l : Addr) : Prop := ∃ dx, H p = some (.ins C dx (rwF l))
theorem RwAt.more {C : Addr} {H H' : Hp} {p l : Addr} (b : RwAt C H p l) (s : Same H H') : RwAt C H' p l := by
  obtain ⟨dx, e⟩ := b
  exact ⟨dx, s _ _ e⟩
def crF (f s : Int) : List (Str × V) := [("first", .int f), ("second", .int s)]
theorem crF_first (f s : Int) : List.lookup ("first" : Str) (crF f s) = some (V.int f) := by kernel_rfl
theorem crF_second (f s : Int) : List.lookup ("second" : Str) (crF f s) = some (V.int s) := by kernel_rfl
theorem crF_shows (f s : Int) : List.lookup ("shows" : Str) (crF f s) = none := by kernel_rfl
theorem cr1 (f : Int) : putF "first" (.int f) [] = ([("first", .int f)] : List (Str × V)) := by kernel_rfl
theorem cr2 (f s : Int) : putF "second" (.int s) (putF "first" (.int f) []) = crF f s := by kernel_rfl
def CrAt (C : Addr) (H : Hp) (p : Addr) (f s : Int) : Prop := ∃ dx, H p = some (.ins C dx (crF f s))
theorem CrAt.more {C : Addr} {H H' : Hp} {p : Addr} {f s : Int} (b : CrAt C H p f s) (h : Same H H') : CrAt C H' p f s := by
  obtain ⟨dx, e⟩ := b
  exact ⟨dx, h _ _ e⟩
section
variable {K : PySem.W.Frag} {mg : Str → Option Value} {CL : Cl} (T : Txt K mg CL) {H : Hp} {p : Addr} {l : Addr} {Q : VK} {f s : Int}
include T
theorem q_bars (b : RwAt CL.Row H p l) (q : Q (.ref l) H) : rFld K "bars" (.ref p) H Q := by
  obtain ⟨dx, e⟩ := b
  exact q_fld e T.cl_Row T.na_Row_bars (rwF_bars _) q
theorem q_cfirst (b : CrAt CL.Crossed H p f s) (q : Q (.int f) H) : rFld K "first" (.ref p) H Q := by
  obtain ⟨dx, e⟩ := b
  exact q_fld e T.cl_Crossed T.na_Crossed_first (crF_first _ _) q
theorem q_csecond (b : CrAt CL.Crossed H p f s) (q : Q (.int s) H) : rFld K "second" (.ref p) H Q := by
  obtain ⟨dx, e⟩ := b
  exact q_fld e T.cl_Crossed T.na_Crossed_second (crF_second _ _) q
end
abbrev s_Row___init__ : Stmt := inClass (top 23) 0
abbrev N_Row___init__ : List Str := ["self", "bars"]
theorem sc_Row___init__ : FnScope ["self", "bars"] ["self", "bars"] (defScope s_Row___init__) := ⟨rfl, rfl, rfl, by decide +kernel, rfl, by decide +kernel, by decide +kernel⟩
def sp_Row___init__ (K : PySem.W.Frag) (CL : Cl) : Sp := Sp2 fun x y H Q _ => ∃ (p dx a : Addr) (vs : List V), x = .ref p ∧ y = .ref a ∧ H p = some (.ins CL.Row dx []) ∧ SqL K H a vs ∧
  ∀ l H', H l = none → l ≠ p → RwAt CL.Row H' p l → H' l = some (.lst vs) → (∀ b o, H b = some o → b ≠ p → H' b = some o) → Q .non H'
theorem ok_Row___init__ {P : Program} {w : World} {K : PySem.W.Frag} {mg : Str → Option Value} {base : Heap} {CL : Cl} (D : DefI K CL.Row "Row.__init__" ["self", "bars"] s_Row___init__) (T : Txt K mg CL)  : HasI P w K mg base CX0 1 CL.Row ["self", "bars"] (sp_Row___init__ K CL) := by
  obtain ⟨f, fd, F, bb, mm⟩ := D
  refine ⟨f, fd, F.ok sc_Row___init__ (fun vs H Q E h => ?_) (fun cdv A outer s H vs Q E hr h => ?_), bb, mm⟩
  · obtain ⟨x1, x2, rfl, _⟩ := h
    rfl
  obtain ⟨x1, x2, rfl, h⟩ := h
  refine ⟨_, (pss_one (ps_fld (pv 0) (pe_callTy (listK (K := K)) (by rfl) T.m_list bt_list (pa_cons (pv 1) pa_nil)) (by rfl))), start_is (σ := [some x1, some x2]) rfl ?_⟩
  obtain ⟨p, dx, a, vs, rfl, rfl, hp, hS, k⟩ := h
  walk_at "sx"
  refine q_list hS fun l nl => ?_
  have nlp : l ≠ p := (ne_of_none hp nl).symm
  refine ⟨_, _, _, _, rfl, by rw [upd_ne nlp.symm]; exact hp, T.cl_Row, T.na_Row_bars, by show 0 < 1000; decide, ?_⟩
  walk_at "sx"
  refine k l _ nl nlp ⟨dx, by rw [upd_same, rw1]⟩ ?_ fun b o e hb => ?_
  · rw [upd_ne nlp, upd_same]
  · rw [upd_ne hb, upd_ne (ne_of_none e nl)]
    exact e
abbrev s_Crossed___init__ : Stmt := inClass (top 24) 0
abbrev N_Crossed___init__ : List Str := ["self", "first", "second"]
theorem sc_Crossed___init__ : FnScope ["self", "first", "second"] ["self", "first", "second"] (defScope s_Crossed___init__) := ⟨rfl, rfl, rfl, by decide +kernel, rfl, by decide +kernel, by decide +kernel⟩
def sp_Crossed___init__ (K : PySem.W.Frag) (CL : Cl) : Sp := Sp3 fun x y z H Q _ => ∃ (p dx : Addr) (f s : Int), x = .ref p ∧ y = .int f ∧ z = .int s ∧ H p = some (.ins CL.Crossed dx []) ∧ ∀ H', CrAt CL.Crossed H' p f s → (∀ b o, H b = some o → b ≠ p → H' b = some o) → Q .non H'
theorem ok_Crossed___init__ {P : Program} {w : World} {K : PySem.W.Frag} {mg : Str → Option Value} {base : Heap} {CL : Cl} (D : DefI K CL.Crossed "Crossed.__init__" ["self", "first", "second"] s_Crossed___init__) (T : Txt K mg CL)  : HasI P w K mg base CX0 1 CL.Crossed ["self", "first", "second"] (sp_Crossed___init__ K CL) := by
  obtain ⟨f, fd, F, bb, mm⟩ := D
  refine ⟨f, fd, F.ok sc_Crossed___init__ (fun vs H Q E h => ?_) (fun cdv A outer s H vs Q E hr h => ?_), bb, mm⟩
  · obtain ⟨x1, x2, x3, rfl, _⟩ := h
    rfl
  obtain ⟨x1, x2, x3, rfl, h⟩ := h
  refine ⟨_, (pss_cons (ps_fld (pv 0) (pv 1) (by rfl))
      (pss_one (ps_fld (pv 0) (pv 2) (by rfl)))), start_is (σ := [some x1, some x2, some x3]) rfl ?_⟩
  obtain ⟨p, dx, f, s, rfl, rfl, rfl, hp, k⟩ := h
  walk_at "sx"
  refine ⟨_, _, _, _, rfl, hp, T.cl_Crossed, T.na_Crossed_first, by show 0 < 1000; decide, ?_⟩
  walk_at "sx"
  refine ⟨_, _, _, _, rfl, upd_same, T.cl_Crossed, T.na_Crossed_second, by rw [cr1]; show 1 < 1000; decide, ?_⟩
  walk_at "sx"
  refine k _ ⟨dx, by rw [upd_same, cr2]⟩ fun b o e hb => ?_
  rw [upd_ne hb, upd_ne hb]
  exact e

end Sky

/-! P9b: the doors that ask for bars: good ones, or the error. -/
namespace Sky
open PySem PySem.Spec PyProof.Rows L2
local macro_rules | `(tactic| walk_at "sx") => `(tactic| try simp only [e_K, e_seq, e_asg, e_name, e_drop, e_ret, e_retN, e_ifs, e_next, e_var, e_c, e_op, e_un, e_rI0, e_rI, e_rU, e_test, e_B, e_bl, e_and, e_or, e_not, e_andV, e_orV, e_notV, e_if, e_CB, e_CKw, e_cons, e_nil, e_call,
  e_chn, e_cCons, e_cOne, e_BM, e_BM0, e_sub, e_par, e_ls, e_noP, e_part, e_intx, e_refx, e_yes, e_get0, e_getS, e_sl, List.set_cons_zero, List.set_cons_succ, List.cons_append, List.nil_append, List.append_nil, Bool.not_true, Bool.not_false, e_lst, e_tup, e_rev, e_eqi, e_nei, decide_true, decide_false, if_true, Bool.false_eq_true, if_false, e_callS, e_callE, e_any, e_fld, e_sfld, e_meth, e_make, e_par3])
local macro_rules | `(tactic| walk_at "sy") => `(tactic| try simp (config := { implicitDefEqProofs := false }) only [e_K, e_seq, e_asg, e_name, e_drop, e_ret, e_retN, e_ifs, e_next, e_var, e_c, e_op, e_un, e_rI0, e_rI, e_rU, e_test, e_B, e_bl, e_and, e_or, e_not, e_andV, e_orV, e_notV, e_if, e_CB, e_CKw, e_cons, e_nil, e_call,
  e_chn, e_cCons, e_cOne, e_BM, e_BM0, e_sub, e_par, e_ls, e_noP, e_part, e_intx, e_refx, e_yes, e_get0, e_getS, e_sl, List.set_cons_zero, List.set_cons_succ, List.cons_append, List.nil_append, List.append_nil, Bool.not_true, Bool.not_false, e_lst, e_tup, e_rev, e_eqi, e_nei, decide_true, decide_false, if_true, Bool.false_eq_true, if_false, e_callS, e_callE, e_any, e_fld, e_sfld, e_meth, e_make, e_par3])
abbrev s_reaches : Stmt := top 14
abbrev N_reaches : List Str := ["bars", "ahead", "behind", "place"]
theorem sc_reaches : FnScope ["bars", "ahead", "behind", "place"] ["bars"] (defScope s_reaches) := ⟨rfl, rfl, rfl, by decide +kernel, rfl, by decide +kernel, by decide +kernel⟩
def sp_reaches (K : PySem.W.Frag) (CL : Cl) : Sp := Sp1 fun x H Q E => (∃ (a : Addr) (bs : List Int), x = .ref a ∧ SqL K H a (ivs bs) ∧ Good bs ∧ bs.length ≤ 1000 ∧ ∀ p H' vs, H p = none → Same H H' → H' p = some (.lst vs) → Prs H' (reachL bs) vs → Q (.ref p) H') ∨ (BadB K H x ∧ ∀ H', Same H H' → E (.ref CL.BadBars) none H')
theorem ok_reaches {P : Program} {w : World} {K : PySem.W.Frag} {mg : Str → Option Value} {base : Heap} {CL : Cl} (D : Def K mg "reaches" ["bars"] s_reaches) (T : Txt K mg CL) (h_asked_bars : Has P w K mg base (L2N.CX P w) 2 "asked_bars" ["bars"] (sp_asked_bars K CL)) (h_ahead_of : Has P w K mg base CX0 1 "ahead_of" ["bars"] (sp_ahead_of K)) (h_behind_of : Has P w K mg base CX0 2 "behind_of" ["bars"] (sp_behind_of K)) : Has P w K mg base (L2N.CX P w) 3 "reaches" ["bars"] (sp_reaches K CL) := by
  obtain ⟨f, fd, gm, F, bb⟩ := D
  obtain ⟨f_asked_bars, fd_asked_bars, g_asked_bars, G_asked_bars, k_asked_bars, b_asked_bars⟩ := h_asked_bars
  obtain ⟨f_ahead_of, fd_ahead_of, g_ahead_of, G_ahead_of, k_ahead_of, b_ahead_of⟩ := h_ahead_of
  obtain ⟨f_behind_of, fd_behind_of, g_behind_of, G_behind_of, k_behind_of, b_behind_of⟩ := h_behind_of
  refine ⟨f, fd, gm, okN F sc_reaches (fun vs H Q E h => ?_) (fun cdv A outer s H vs Q E hr h => ?_), F.kp, bb⟩
  · obtain ⟨x1, rfl, _⟩ := h
    rfl
  have hr_asked_bars : Room 2 (A.deeper (envOfC "reaches" (defScope s_reaches) s.heap.objs.size f cdv)) := hr.mono (by decide)
  have hr_ahead_of : Room 1 (A.deeper (envOfC "reaches" (defScope s_reaches) s.heap.objs.size f cdv)) := hr.mono (by decide)
  have hr_behind_of : Room 2 (A.deeper (envOfC "reaches" (defScope s_reaches) s.heap.objs.size f cdv)) := hr.mono (by decide)
  obtain ⟨x1, rfl, h⟩ := h
  refine ⟨_, (pss_cons (ps_expr (pe_callS G_asked_bars hr_asked_bars (by rfl) g_asked_bars k_asked_bars b_asked_bars (fun σ => L2N.passAt (L2N.takes_of rfl rfl rfl rfl) σ) (pa_cons (pv 0) pa_nil)))
      (pss_cons (ps_set (i := 1) sc_reaches.nd rfl (Or.inr rfl) (pe_call G_ahead_of hr_ahead_of (by rfl) g_ahead_of k_ahead_of b_ahead_of .nil pass0 (pa_cons (pv 0) pa_nil)))
      (pss_cons (ps_set (i := 2) sc_reaches.nd rfl (Or.inr rfl) (pe_call G_behind_of hr_behind_of (by rfl) g_behind_of k_behind_of b_behind_of .nil pass0 (pa_cons (pv 0) pa_nil)))
      (pss_one (ps_ret (pe_lc (own := [("place", 3)]) (g := (gName 3)) (tt := tYes) (by rfl) sc_reaches.nd (pi_range1 (by rfl) T.m_range (pa_cons (pe_callB (lenK (K := K)) (by rfl) T.m_len bt_len (pa_cons (pv 0) pa_nil)) pa_nil)) (blkOk_by (own := [("place", 3)]) (N := N_reaches) (sc := defScope s_reaches) (by decide +kernel)) (fun _ _ _ _ _ => (pg_name (i := 3) sc_reaches.nd rfl (Or.inl rfl))) (fun _ _ _ _ _ => pts_nil) (fun _ _ _ _ _ => (pe_tup (pa_cons (pe_op op_add (pe_ix (ix_listK (K := K)) (pv 1) (pv 3) (fun _ _ => rfl)) pe_int) (pa_cons (pe_op op_sub (pe_ix (ix_listK (K := K)) (pv 2) (pv 3) (fun _ _ => rfl)) pe_int) pa_nil)))))))))), start_is (σ := [some x1, none, none, none]) rfl ?_⟩
  rcases h with ⟨a, bs, rfl, hS, good, hlen, k⟩ | ⟨hb, k⟩
  rotate_left
  · walk_at "sx"
    exact ⟨_, rfl, .inr ⟨hb, k⟩⟩
  walk_at "sx"
  refine ⟨_, rfl, .inl ⟨a, bs, rfl, hS, good, hlen, fun H1 s1 => ?_⟩⟩
  refine ⟨_, rfl, a, bs, rfl, s1.seq hS, hlen, fun p H2 np s2 hp => ?_⟩
  walk_at "sx"
  refine ⟨_, rfl, a, bs, rfl, (s1.trans s2).seq hS, hlen, fun q H3 nq s3 hq => ?_⟩
  walk_at "sx"
  have s4 := (s1.trans s2).trans s3
  refine q_lcR (n := bs.length) (fun i v H => PrAt (reach bs i) v H) (fun R r => ⟨_, rfl, a, _, rfl, .inl (s4.seq hS), by rw [len_ivs]; exact r⟩) (by omega) (fun _ => rfl) (fun _ _ _ _ h t => h.mono t) (fun i H' Q' hi s5 k => ?_) ?_
  · simp only [wipe, List.map_cons, List.map_nil]
    walk_at "sx"
    refine q_ixL (l := links bs) (SqL.of (s5 _ _ (s3 _ _ hp))) rfl (by rw [links_len]; exact hi) ?_
    walk_at "sx"
    refine q_ixL (l := behinds bs) (SqL.of (s5 _ _ hq)) rfl (by rw [behinds_len]; exact hi) ?_
    walk_at "sx"
    refine q_newT fun t nt => k _ _ (same_new nt) ⟨t, rfl, ?_⟩
    rw [upd_same]
    have e1 : g (links bs) i = link bs i := links_at hi
    have e2 : g (behinds bs) i = behind bs i := behinds_at hi
    rw [e1, e2]
    rfl
  · intro D H' acc nd s5 hd hl hv
    exact k D H' acc (s4.free nd) (s4.trans s5) hd (Prs.of hl hv)
abbrev s_links : Stmt := top 25
abbrev N_links : List Str := ["bars"]
theorem sc_links : FnScope ["bars"] ["bars"] (defScope s_links) := ⟨rfl, rfl, rfl, by decide +kernel, rfl, by decide +kernel, by decide +kernel⟩
def sp_links (K : PySem.W.Frag) (CL : Cl) : Sp := Sp1 fun x H Q E => (∃ (a : Addr) (bs : List Int), x = .ref a ∧ SqL K H a (ivs bs) ∧ Good bs ∧ bs.length ≤ 1000 ∧ ∀ p H', H p = none → Same H H' → H' p = some (.lst (ivs (links bs))) → Q (.ref p) H') ∨ (BadB K H x ∧ ∀ H', Same H H' → E (.ref CL.BadBars) none H')
theorem ok_links {P : Program} {w : World} {K : PySem.W.Frag} {mg : Str → Option Value} {base : Heap} {CL : Cl} (D : Def K mg "links" ["bars"] s_links) (T : Txt K mg CL) (h_asked_bars : Has P w K mg base (L2N.CX P w) 2 "asked_bars" ["bars"] (sp_asked_bars K CL)) (h_ahead_of : Has P w K mg base CX0 1 "ahead_of" ["bars"] (sp_ahead_of K)) : Has P w K mg base (L2N.CX P w) 3 "links" ["bars"] (sp_links K CL) := by
  obtain ⟨f, fd, gm, F, bb⟩ := D
  obtain ⟨f_asked_bars, fd_asked_bars, g_asked_bars, G_asked_bars, k_asked_bars, b_asked_bars⟩ := h_asked_bars
  obtain ⟨f_ahead_of, fd_ahead_of, g_ahead_of, G_ahead_of, k_ahead_of, b_ahead_of⟩ := h_ahead_of
  refine ⟨f, fd, gm, okN F sc_links (fun vs H Q E h => ?_) (fun cdv A outer s H vs Q E hr h => ?_), F.kp, bb⟩
  · obtain ⟨x1, rfl, _⟩ := h
    rfl
  have hr_asked_bars : Room 2 (A.deeper (envOfC "links" (defScope s_links) s.heap.objs.size f cdv)) := hr.mono (by decide)
  have hr_ahead_of : Room 1 (A.deeper (envOfC "links" (defScope s_links) s.heap.objs.size f cdv)) := hr.mono (by decide)
  obtain ⟨x1, rfl, h⟩ := h
  refine ⟨_, (pss_cons (ps_expr (pe_callS G_asked_bars hr_asked_bars (by rfl) g_asked_bars k_asked_bars b_asked_bars (fun σ => L2N.passAt (L2N.takes_of rfl rfl rfl rfl) σ) (pa_cons (pv 0) pa_nil)))
      (pss_one (ps_ret (pe_call G_ahead_of hr_ahead_of (by rfl) g_ahead_of k_ahead_of b_ahead_of .nil pass0 (pa_cons (pv 0) pa_nil))))), start_is (σ := [some x1]) rfl ?_⟩
  rcases h with ⟨a, bs, rfl, hS, good, hlen, k⟩ | ⟨hb, k⟩
  rotate_left
  · walk_at "sx"
    exact ⟨_, rfl, .inr ⟨hb, k⟩⟩
  walk_at "sx"
  refine ⟨_, rfl, .inl ⟨a, bs, rfl, hS, good, hlen, fun H1 s1 => ?_⟩⟩
  exact ⟨_, rfl, a, bs, rfl, s1.seq hS, hlen, fun p H2 np s2 hp => k p H2 (s1.free np) (s1.trans s2) hp⟩
abbrev s_tree : Stmt := top 29
abbrev N_tree : List Str := ["bars"]
theorem sc_tree : FnScope ["bars"] ["bars"] (defScope s_tree) := ⟨rfl, rfl, rfl, by decide +kernel, rfl, by decide +kernel, by decide +kernel⟩
def sp_tree (K : PySem.W.Frag) (CL : Cl) : Sp := Sp1 fun x H Q E => (∃ (a : Addr) (bs : List Int), x = .ref a ∧ SqL K H a (ivs bs) ∧ Good bs ∧ bs.length ≤ 1000 ∧ ∀ p H', H p = none → Same H H' → H' p = some (.lst (ivs (parL bs))) → Q (.ref p) H') ∨ (BadB K H x ∧ ∀ H', Same H H' → E (.ref CL.BadBars) none H')
theorem ok_tree {P : Program} {w : World} {K : PySem.W.Frag} {mg : Str → Option Value} {base : Heap} {CL : Cl} (D : Def K mg "tree" ["bars"] s_tree) (T : Txt K mg CL) (h_asked_bars : Has P w K mg base (L2N.CX P w) 2 "asked_bars" ["bars"] (sp_asked_bars K CL)) (h_parents_of : Has P w K mg base CX0 1 "parents_of" ["bars"] (sp_parents_of K)) : Has P w K mg base (L2N.CX P w) 3 "tree" ["bars"] (sp_tree K CL) := by
  obtain ⟨f, fd, gm, F, bb⟩ := D
  obtain ⟨f_asked_bars, fd_asked_bars, g_asked_bars, G_asked_bars, k_asked_bars, b_asked_bars⟩ := h_asked_bars
  obtain ⟨f_parents_of, fd_parents_of, g_parents_of, G_parents_of, k_parents_of, b_parents_of⟩ := h_parents_of
  refine ⟨f, fd, gm, okN F sc_tree (fun vs H Q E h => ?_) (fun cdv A outer s H vs Q E hr h => ?_), F.kp, bb⟩
  · obtain ⟨x1, rfl, _⟩ := h
    rfl
  have hr_asked_bars : Room 2 (A.deeper (envOfC "tree" (defScope s_tree) s.heap.objs.size f cdv)) := hr.mono (by decide)
  have hr_parents_of : Room 1 (A.deeper (envOfC "tree" (defScope s_tree) s.heap.objs.size f cdv)) := hr.mono (by decide)
  obtain ⟨x1, rfl, h⟩ := h
  refine ⟨_, (pss_cons (ps_expr (pe_callS G_asked_bars hr_asked_bars (by rfl) g_asked_bars k_asked_bars b_asked_bars (fun σ => L2N.passAt (L2N.takes_of rfl rfl rfl rfl) σ) (pa_cons (pv 0) pa_nil)))
      (pss_one (ps_ret (pe_call G_parents_of hr_parents_of (by rfl) g_parents_of k_parents_of b_parents_of .nil pass0 (pa_cons (pv 0) pa_nil))))), start_is (σ := [some x1]) rfl ?_⟩
  rcases h with ⟨a, bs, rfl, hS, good, hlen, k⟩ | ⟨hb, k⟩
  rotate_left
  · walk_at "sx"
    exact ⟨_, rfl, .inr ⟨hb, k⟩⟩
  walk_at "sx"
  refine ⟨_, rfl, .inl ⟨a, bs, rfl, hS, good, hlen, fun H1 s1 => ?_⟩⟩
  exact ⟨_, rfl, a, bs, rfl, s1.seq hS, hlen, fun p H2 np s2 hp => k p H2 (s1.free np) (s1.trans s2) hp⟩
abbrev s_levels : Stmt := top 34
abbrev N_levels : List Str := ["bars", "mine", "theirs", "one", "other"]
theorem sc_levels : FnScope ["bars", "mine", "theirs", "one", "other"] ["bars"] (defScope s_levels) := ⟨rfl, rfl, rfl, by decide +kernel, rfl, by decide +kernel, by decide +kernel⟩
def sp_levels (K : PySem.W.Frag) (CL : Cl) : Sp := Sp1 fun x H Q E => (∃ (a : Addr) (bs : List Int), x = .ref a ∧ SqL K H a (ivs bs) ∧ Good bs ∧ bs.length ≤ 1000 ∧ ∀ p H', H p = none → Same H H' → H' p = some (.lst (ivs (lvls bs))) → Q (.ref p) H') ∨ (BadB K H x ∧ ∀ H', Same H H' → E (.ref CL.BadBars) none H')
theorem ok_levels {P : Program} {w : World} {K : PySem.W.Frag} {mg : Str → Option Value} {base : Heap} {CL : Cl} (D : Def K mg "levels" ["bars"] s_levels) (T : Txt K mg CL) (h_asked_bars : Has P w K mg base (L2N.CX P w) 2 "asked_bars" ["bars"] (sp_asked_bars K CL)) (h_highest_so_far : Has P w K mg base CX0 1 "highest_so_far" ["bars"] (sp_highest_so_far K)) : Has P w K mg base (L2N.CX P w) 3 "levels" ["bars"] (sp_levels K CL) := by
  obtain ⟨f, fd, gm, F, bb⟩ := D
  obtain ⟨f_asked_bars, fd_asked_bars, g_asked_bars, G_asked_bars, k_asked_bars, b_asked_bars⟩ := h_asked_bars
  obtain ⟨f_highest_so_far, fd_highest_so_far, g_highest_so_far, G_highest_so_far, k_highest_so_far, b_highest_so_far⟩ := h_highest_so_far
  refine ⟨f, fd, gm, okN F sc_levels (fun vs H Q E h => ?_) (fun cdv A outer s H vs Q E hr h => ?_), F.kp, bb⟩
  · obtain ⟨x1, rfl, _⟩ := h
    rfl
  have hr_asked_bars : Room 2 (A.deeper (envOfC "levels" (defScope s_levels) s.heap.objs.size f cdv)) := hr.mono (by decide)
  have hr_highest_so_far : Room 1 (A.deeper (envOfC "levels" (defScope s_levels) s.heap.objs.size f cdv)) := hr.mono (by decide)
  obtain ⟨x1, rfl, h⟩ := h
  refine ⟨_, (pss_cons (ps_expr (pe_callS G_asked_bars hr_asked_bars (by rfl) g_asked_bars k_asked_bars b_asked_bars (fun σ => L2N.passAt (L2N.takes_of rfl rfl rfl rfl) σ) (pa_cons (pv 0) pa_nil)))
      (pss_cons (ps_set (i := 1) sc_levels.nd rfl (Or.inl rfl) (pe_call G_highest_so_far hr_highest_so_far (by rfl) g_highest_so_far k_highest_so_far b_highest_so_far .nil pass0 (pa_cons (pv 0) pa_nil)))
      (pss_cons (ps_set (i := 2) sc_levels.nd rfl (Or.inl rfl) (pe_revLK (K := K) (pe_call G_highest_so_far hr_highest_so_far (by rfl) g_highest_so_far k_highest_so_far b_highest_so_far .nil pass0 (pa_cons (pe_revLK (K := K) (pv 0)) pa_nil))))
      (pss_one (ps_ret (pe_lc (own := [("one", 3), ("other", 4)]) (g := (gTup K 2 (gCons (gName 3) (gCons (gName 4) gNil)))) (tt := tYes) (by rfl) sc_levels.nd (pi_zip (by rfl) T.m_zip (pa_cons (pv 1) (pa_cons (pv 2) pa_nil))) (blkOk_by (own := [("one", 3), ("other", 4)]) (N := N_levels) (sc := defScope s_levels) (by decide +kernel)) (fun _ _ _ _ _ => (pg_tup (n := 2) rfl (pgs_cons (pg_name (i := 3) sc_levels.nd rfl (Or.inl rfl)) (pgs_cons (pg_name (i := 4) sc_levels.nd rfl (Or.inl rfl)) pgs_nil)))) (fun _ _ _ _ _ => pts_nil) (fun _ _ _ _ _ => (pe_callB (call_min2 rfl) (by rfl) T.m_min bt_min (pa_cons (pv 3) (pa_cons (pv 4) pa_nil)))))))))), start_is (σ := [some x1, none, none, none, none]) rfl ?_⟩
  rcases h with ⟨a, bs, rfl, hS, good, hlen, k⟩ | ⟨hb, k⟩
  rotate_left
  · walk_at "sx"
    exact ⟨_, rfl, .inr ⟨hb, k⟩⟩
  walk_at "sx"
  refine ⟨_, rfl, .inl ⟨a, bs, rfl, hS, good, hlen, fun H1 s1 => ?_⟩⟩
  refine ⟨_, rfl, a, bs, rfl, s1.seq hS, hlen, fun p H2 np s2 hp => ?_⟩
  walk_at "sx"
  refine ⟨_, (s1.trans s2).seq hS, fun r nr => ?_⟩
  rw [rev_ivs]
  have s3 := (s1.trans s2).trans (same_new (o := .lst (ivs bs.reverse)) nr)
  have hp3 := same_new (o := .lst (ivs bs.reverse)) nr _ _ hp
  refine ⟨_, rfl, r, _, rfl, SqL.of upd_same, by simpa using hlen, fun t H4 nt s4 ht => ?_⟩
  refine ⟨t, rfl, _, SqL.of ht, fun u nu => ?_⟩
  have s5 := (s3.trans s4).trans (same_new (o := .lst (ivs (hmL bs.reverse)).reverse) nu)
  have hp5 := same_new (o := .lst (ivs (hmL bs.reverse)).reverse) nu _ _ (s4 _ _ hp3)
  have lr : (hmL bs.reverse).length = bs.length := by rw [hmL_len, List.length_reverse]
  walk_at "sx"
  have hu := upd_same (H := H4) (a := u) (o := .lst (ivs (hmL bs.reverse)).reverse)
  generalize upd H4 u (.lst (ivs (hmL bs.reverse)).reverse) = H5 at s5 hp5 hu ⊢
  rw [rev_ivs] at hu
  refine q_lcZG (xs := ivs (hmL bs)) (ys := ivs (hmL bs.reverse).reverse) (fun i v _ => v = .int (lvl bs i)) (fun R r => ⟨_, rfl, _, rfl, r⟩) (SqL.of hp5) (SqL.of hu) (by simp [hmL_len]) (by rw [len_ivs, hmL_len]; omega) (fun _ _ _ _ e _ => e) (fun i x y T H' Q' hx hy s6 hT kk => ?_) ?_
  · obtain ⟨hi, rfl⟩ := of_ivs hx
    obtain ⟨hi2, rfl⟩ := of_ivs hy
    rw [hmL_len] at hi
    refine q_g2 (SqT.of hT) ⟨rfl, ?_⟩
    simp only [wipe, List.map_cons, List.map_nil]
    walk_at "sx"
    refine ⟨_, _, rfl, kk _ _ (Same.refl _) ?_⟩
    have e1 : g (hmL bs) i = hm bs (i + 1) := g_map hi
    have e2 : g (hmL bs.reverse).reverse i = hm bs.reverse (bs.length - i) := by
      rw [g_rev (by omega), lr]
      have : g (hmL bs.reverse) (bs.length - 1 - i) = hm bs.reverse (bs.length - 1 - i + 1) := g_map (by rw [List.length_reverse]; omega)
      rw [this]
      congr 1
      omega
    rw [e1, e2, lvl_hm good hi]
    rfl
  · intro D H' acc nd s6 hd hl hv
    rw [len_ivs, hmL_len] at hl
    have e := acc_ivs hl hv
    subst e
    exact k D H' (s5.free nd) (s5.trans s6) hd
abbrev s_water : Stmt := top 35
abbrev N_water : List Str := ["bars"]
theorem sc_water : FnScope ["bars"] ["bars"] (defScope s_water) := ⟨rfl, rfl, rfl, by decide +kernel, rfl, by decide +kernel, by decide +kernel⟩
def sp_water (K : PySem.W.Frag) (CL : Cl) : Sp := Sp1 fun x H Q E => (∃ (a : Addr) (bs : List Int), x = .ref a ∧ SqL K H a (ivs bs) ∧ Good bs ∧ bs.length ≤ 1000 ∧ ∀ H', Same H H' → Q (.int ((lvls bs).sum - bs.sum)) H') ∨ (BadB K H x ∧ ∀ H', Same H H' → E (.ref CL.BadBars) none H')
theorem ok_water {P : Program} {w : World} {K : PySem.W.Frag} {mg : Str → Option Value} {base : Heap} {CL : Cl} (D : Def K mg "water" ["bars"] s_water) (T : Txt K mg CL) (h_levels : Has P w K mg base (L2N.CX P w) 3 "levels" ["bars"] (sp_levels K CL)) : Has P w K mg base (L2N.CX P w) 4 "water" ["bars"] (sp_water K CL) := by
  obtain ⟨f, fd, gm, F, bb⟩ := D
  obtain ⟨f_levels, fd_levels, g_levels, G_levels, k_levels, b_levels⟩ := h_levels
  refine ⟨f, fd, gm, okN F sc_water (fun vs H Q E h => ?_) (fun cdv A outer s H vs Q E hr h => ?_), F.kp, bb⟩
  · obtain ⟨x1, rfl, _⟩ := h
    rfl
  have hr_levels : Room 3 (A.deeper (envOfC "water" (defScope s_water) s.heap.objs.size f cdv)) := hr.mono (by decide)
  obtain ⟨x1, rfl, h⟩ := h
  refine ⟨_, (pss_one (ps_ret (pe_op op_sub (pe_callB (sumK (K := K) rfl) (by rfl) T.m_sum bt_sum (pa_cons (pe_callS G_levels hr_levels (by rfl) g_levels k_levels b_levels (fun σ => L2N.passAt (L2N.takes_of rfl rfl rfl rfl) σ) (pa_cons (pv 0) pa_nil)) pa_nil)) (pe_callB (sumK (K := K) rfl) (by rfl) T.m_sum bt_sum (pa_cons (pv 0) pa_nil))))), start_is (σ := [some x1]) rfl ?_⟩
  rcases h with ⟨a, bs, rfl, hS, good, hlen, k⟩ | ⟨hb, k⟩
  rotate_left
  · walk_at "sx"
    exact ⟨_, rfl, .inr ⟨hb, k⟩⟩
  walk_at "sx"
  refine ⟨_, rfl, .inl ⟨a, bs, rfl, hS, good, hlen, fun p H1 np s1 hp => ?_⟩⟩
  refine q_sum (SqL.of hp) (q_sum (s1.seq hS) ?_)
  walk_at "sx"
  exact k H1 s1
abbrev s_seen_ahead : Stmt := top 15
abbrev N_seen_ahead : List Str := ["bars", "found", "waiting", "bar", "many"]
theorem sc_seen_ahead : FnScope ["bars", "found", "waiting", "bar", "many"] ["bars"] (defScope s_seen_ahead) := ⟨rfl, rfl, rfl, by decide +kernel, rfl, by decide +kernel, by decide +kernel⟩
def sp_seen_ahead (K : PySem.W.Frag) (CL : Cl) : Sp := Sp1 fun x H Q E => BadB K H x ∧ ∀ H', Same H H' → E (.ref CL.BadBars) none H'
theorem ok_seen_ahead {P : Program} {w : World} {K : PySem.W.Frag} {mg : Str → Option Value} {base : Heap} {CL : Cl} (D : Def K mg "seen_ahead" ["bars"] s_seen_ahead) (T : Txt K mg CL) (h_asked_bars : Has P w K mg base (L2N.CX P w) 2 "asked_bars" ["bars"] (sp_asked_bars K CL)) : Has P w K mg base (L2N.CX P w) 3 "seen_ahead" ["bars"] (sp_seen_ahead K CL) := by
  obtain ⟨f, fd, gm, F, bb⟩ := D
  obtain ⟨f_asked_bars, fd_asked_bars, g_asked_bars, G_asked_bars, k_asked_bars, b_asked_bars⟩ := h_asked_bars
  refine ⟨f, fd, gm, okN F sc_seen_ahead (fun vs H Q E h => ?_) (fun cdv A outer s H vs Q E hr h => ?_), F.kp, bb⟩
  · obtain ⟨x1, rfl, _⟩ := h
    rfl
  have hr_asked_bars : Room 2 (A.deeper (envOfC "seen_ahead" (defScope s_seen_ahead) s.heap.objs.size f cdv)) := hr.mono (by decide)
  obtain ⟨x1, rfl, h⟩ := h
  refine ⟨_, (pss_cons (ps_expr (pe_callS G_asked_bars hr_asked_bars (by rfl) g_asked_bars k_asked_bars b_asked_bars (fun σ => L2N.passAt (L2N.takes_of rfl rfl rfl rfl) σ) (pa_cons (pv 0) pa_nil)))
      (pss_cons (ps_set (i := 1) sc_seen_ahead.nd rfl (Or.inl rfl) (pe_lst pa_nil))
      (pss_cons (ps_set (i := 2) sc_seen_ahead.nd rfl (Or.inl rfl) (pe_lst pa_nil))
      (pss_cons (ps_for (passes_of rfl) rfl (pi_list (pv 0)) (pg_name (i := 3) sc_seen_ahead.nd rfl (Or.inl rfl)) (pss_cons (ps_set (i := 4) sc_seen_ahead.nd rfl (Or.inl rfl) pe_int)
      (pss_mid (ps_while (passes_of rfl) (PW.pt (pw_and (pt_cmpR (neDK (K := K) hr.units) (pv 2) (pe_lst pa_nil) (nomark _)) (pw_and1 (pt_cmpR op_lt (pe_ix (ix_listK (K := K)) (pv 2) (pe_un un_neg pe_int) (fun _ _ => rfl)) (pv 3) (nomark _))))) (pss_cons (ps_expr (pe_bm0 PySem.F.plainAttrs_list PySem.F.slot_list_pop PySem.F.type_list_pop mt_pop (pv 2)))
      (pss_one (ps_set (i := 4) sc_seen_ahead.nd rfl (Or.inl rfl) (pe_op op_add (pv 4) pe_int)))))
      (pss_mid (ps_if (pt_cmpR (neDK (K := K) hr.units) (pv 2) (pe_lst pa_nil) (nomark _)) (pss_cons (ps_set (i := 4) sc_seen_ahead.nd rfl (Or.inl rfl) (pe_op op_add (pv 4) pe_int))
      (pss_one (ps_if (pt_cmpR op_eq (pe_ix (ix_listK (K := K)) (pv 2) (pe_un un_neg pe_int) (fun _ _ => rfl)) (pv 3) (nomark _)) (pss_one (ps_expr (pe_bm0 PySem.F.plainAttrs_list PySem.F.slot_list_pop PySem.F.type_list_pop mt_pop (pv 2)))) pss_nil))) pss_nil)
      (pss_cons (ps_expr (pe_bm PySem.F.plainAttrs_list PySem.F.slot_list_append PySem.F.type_list_append mt_append (pv 2) (pa_cons (pv 3) pa_nil)))
      (pss_one (ps_expr (pe_bm PySem.F.plainAttrs_list PySem.F.slot_list_append PySem.F.type_list_append mt_append (pv 1) (pa_cons (pv 4) pa_nil)))))))))
      (pss_one (ps_ret (pv 1))))))), start_is (σ := [some x1, none, none, none, none]) rfl ?_⟩
  obtain ⟨hb, k⟩ := h
  walk_at "sx"
  exact ⟨_, rfl, .inr ⟨hb, k⟩⟩
abbrev s_shown : Stmt := top 17
abbrev N_shown : List Str := ["bars", "found", "highest", "place", "bar"]
theorem sc_shown : FnScope ["bars", "found", "highest", "place", "bar"] ["bars"] (defScope s_shown) := ⟨rfl, rfl, rfl, by decide +kernel, rfl, by decide +kernel, by decide +kernel⟩
def sp_shown (K : PySem.W.Frag) (CL : Cl) : Sp := Sp1 fun x H Q E => BadB K H x ∧ ∀ H', Same H H' → E (.ref CL.BadBars) none H'
theorem ok_shown {P : Program} {w : World} {K : PySem.W.Frag} {mg : Str → Option Value} {base : Heap} {CL : Cl} (D : Def K mg "shown" ["bars"] s_shown) (T : Txt K mg CL) (h_asked_bars : Has P w K mg base (L2N.CX P w) 2 "asked_bars" ["bars"] (sp_asked_bars K CL)) : Has P w K mg base (L2N.CX P w) 3 "shown" ["bars"] (sp_shown K CL) := by
  obtain ⟨f, fd, gm, F, bb⟩ := D
  obtain ⟨f_asked_bars, fd_asked_bars, g_asked_bars, G_asked_bars, k_asked_bars, b_asked_bars⟩ := h_asked_bars
  refine ⟨f, fd, gm, okN F sc_shown (fun vs H Q E h => ?_) (fun cdv A outer s H vs Q E hr h => ?_), F.kp, bb⟩
  · obtain ⟨x1, rfl, _⟩ := h
    rfl
  have hr_asked_bars : Room 2 (A.deeper (envOfC "shown" (defScope s_shown) s.heap.objs.size f cdv)) := hr.mono (by decide)
  obtain ⟨x1, rfl, h⟩ := h
  refine ⟨_, (pss_cons (ps_expr (pe_callS G_asked_bars hr_asked_bars (by rfl) g_asked_bars k_asked_bars b_asked_bars (fun σ => L2N.passAt (L2N.takes_of rfl rfl rfl rfl) σ) (pa_cons (pv 0) pa_nil)))
      (pss_cons (ps_set (i := 1) sc_shown.nd rfl (Or.inl rfl) (pe_lst pa_nil))
      (pss_cons (ps_set (i := 2) sc_shown.nd rfl (Or.inl rfl) (pe_un un_neg pe_int))
      (pss_cons (ps_for (passes_of rfl) rfl (pi_enum (by rfl) T.m_enumerate (pa_cons (pv 0) pa_nil)) (pg_tup (n := 2) rfl (pgs_cons (pg_name (i := 3) sc_shown.nd rfl (Or.inl rfl)) (pgs_cons (pg_name (i := 4) sc_shown.nd rfl (Or.inl rfl)) pgs_nil))) (pss_one (ps_if (pt_cmpR op_gt (pv 4) (pv 2) (nomark _)) (pss_cons (ps_expr (pe_bm PySem.F.plainAttrs_list PySem.F.slot_list_append PySem.F.type_list_append mt_append (pv 1) (pa_cons (pv 3) pa_nil)))
      (pss_one (ps_set (i := 2) sc_shown.nd rfl (Or.inl rfl) (pv 4)))) pss_nil)))
      (pss_one (ps_ret (pv 1))))))), start_is (σ := [some x1, none, none, none, none]) rfl ?_⟩
  obtain ⟨hb, k⟩ := h
  walk_at "sx"
  exact ⟨_, rfl, .inr ⟨hb, k⟩⟩
abbrev s_rims : Stmt := top 36
abbrev N_rims : List Str := ["bars", "found", "first", "place", "bar", "last", "both"]
theorem sc_rims : FnScope ["bars", "found", "first", "place", "bar", "last", "both"] ["bars"] (defScope s_rims) := ⟨rfl, rfl, rfl, by decide +kernel, rfl, by decide +kernel, by decide +kernel⟩
def sp_rims (K : PySem.W.Frag) (CL : Cl) : Sp := Sp1 fun x H Q E => BadB K H x ∧ ∀ H', Same H H' → E (.ref CL.BadBars) none H'
theorem ok_rims {P : Program} {w : World} {K : PySem.W.Frag} {mg : Str → Option Value} {base : Heap} {CL : Cl} (D : Def K mg "rims" ["bars"] s_rims) (T : Txt K mg CL) (h_asked_bars : Has P w K mg base (L2N.CX P w) 2 "asked_bars" ["bars"] (sp_asked_bars K CL)) : Has P w K mg base (L2N.CX P w) 3 "rims" ["bars"] (sp_rims K CL) := by
  obtain ⟨f, fd, gm, F, bb⟩ := D
  obtain ⟨f_asked_bars, fd_asked_bars, g_asked_bars, G_asked_bars, k_asked_bars, b_asked_bars⟩ := h_asked_bars
  refine ⟨f, fd, gm, okN F sc_rims (fun vs H Q E h => ?_) (fun cdv A outer s H vs Q E hr h => ?_), F.kp, bb⟩
  · obtain ⟨x1, rfl, _⟩ := h
    rfl
  have hr_asked_bars : Room 2 (A.deeper (envOfC "rims" (defScope s_rims) s.heap.objs.size f cdv)) := hr.mono (by decide)
  obtain ⟨x1, rfl, h⟩ := h
  refine ⟨_, (pss_cons (ps_expr (pe_callS G_asked_bars hr_asked_bars (by rfl) g_asked_bars k_asked_bars b_asked_bars (fun σ => L2N.passAt (L2N.takes_of rfl rfl rfl rfl) σ) (pa_cons (pv 0) pa_nil)))
      (pss_cons (ps_set (i := 1) sc_rims.nd rfl (Or.inl rfl) (pe_lst pa_nil))
      (pss_cons (ps_set (i := 2) sc_rims.nd rfl (Or.inl rfl) pe_int)
      (pss_cons (ps_for (passes_of rfl) rfl (pi_enum (by rfl) T.m_enumerate (pa_cons (pv 0) pa_nil)) (pg_tup (n := 2) rfl (pgs_cons (pg_name (i := 3) sc_rims.nd rfl (Or.inl rfl)) (pgs_cons (pg_name (i := 4) sc_rims.nd rfl (Or.inl rfl)) pgs_nil))) (pss_cons (ps_if (pt_cmpR op_gt (pv 4) (pe_ix (ix_listK (K := K)) (pv 0) (pv 2) (fun _ _ => rfl)) (nomark _)) (pss_one (ps_set (i := 2) sc_rims.nd rfl (Or.inl rfl) (pv 3))) pss_nil)
      (pss_one (ps_expr (pe_bm PySem.F.plainAttrs_list PySem.F.slot_list_append PySem.F.type_list_append mt_append (pv 1) (pa_cons (pv 2) pa_nil))))))
      (pss_cons (ps_set (i := 5) sc_rims.nd rfl (Or.inl rfl) (pe_op op_sub (pe_callB (lenK (K := K)) (by rfl) T.m_len bt_len (pa_cons (pv 0) pa_nil)) pe_int))
      (pss_cons (ps_set (i := 6) sc_rims.nd rfl (Or.inl rfl) (pe_lst pa_nil))
      (pss_cons (ps_for (passes_of rfl) rfl (pi_revR (by rfl) T.m_reversed (prg_1 (by rfl) T.m_range (pe_callB (lenK (K := K)) (by rfl) T.m_len bt_len (pa_cons (pv 0) pa_nil)))) (pg_name (i := 3) sc_rims.nd rfl (Or.inl rfl)) (pss_cons (ps_if (pt_cmpR op_gt (pe_ix (ix_listK (K := K)) (pv 0) (pv 3) (fun _ _ => rfl)) (pe_ix (ix_listK (K := K)) (pv 0) (pv 5) (fun _ _ => rfl)) (nomark _)) (pss_one (ps_set (i := 5) sc_rims.nd rfl (Or.inl rfl) (pv 3))) pss_nil)
      (pss_one (ps_expr (pe_bm PySem.F.plainAttrs_list PySem.F.slot_list_append PySem.F.type_list_append mt_append (pv 6) (pa_cons (pe_tup (pa_cons (pe_ix (ix_listK (K := K)) (pv 1) (pv 3) (fun _ _ => rfl)) (pa_cons (pv 5) pa_nil))) pa_nil))))))
      (pss_one (ps_ret (pe_revLK (K := K) (pv 6))))))))))), start_is (σ := [some x1, none, none, none, none, none, none]) rfl ?_⟩
  obtain ⟨hb, k⟩ := h
  walk_at "sx"
  exact ⟨_, rfl, .inr ⟨hb, k⟩⟩
abbrev s_sees : Stmt := top 16
abbrev N_sees : List Str := ["bars", "one", "other", "low", "high"]
theorem sc_sees : FnScope ["bars", "one", "other", "low", "high"] ["bars", "one", "other"] (defScope s_sees) := ⟨rfl, rfl, rfl, by decide +kernel, rfl, by decide +kernel, by decide +kernel⟩
/-- no two places -/
def BadP (n : Int) (x y : V) : Prop := nb x 0 (n - 1) = false ∨ nb y 0 (n - 1) = false ∨ ∃ i, x = .int i ∧ y = .int i
def sp_sees (K : PySem.W.Frag) (CL : Cl) : Sp := Sp3 fun x y z H Q E => (BadB K H x ∧ ∀ H', Same H H' → E (.ref CL.BadBars) none H') ∨
  ∃ (a : Addr) (bs : List Int), x = .ref a ∧ SqL K H a (ivs bs) ∧ Good bs ∧ bs.length ≤ 1000 ∧ NotL K H y ∧ NotL K H z ∧ BadP (bs.length : Int) y z ∧ ∀ H', Same H H' → E (.ref CL.BadPlace) none H'
theorem nb_int {x : V} {lo hi : Int} (h : nb x lo hi = true) : ∃ i, x = .int i := by
  unfold nb at h
  split at h
  · exact ⟨_, rfl⟩
  · cases h
theorem ok_sees {P : Program} {w : World} {K : PySem.W.Frag} {mg : Str → Option Value} {base : Heap} {CL : Cl} (D : Def K mg "sees" ["bars", "one", "other"] s_sees) (T : Txt K mg CL) (h_asked_bars : Has P w K mg base (L2N.CX P w) 2 "asked_bars" ["bars"] (sp_asked_bars K CL)) (h_is_number : Has P w K mg base CX0 1 "is_number" ["thing", "least", "most"] (sp_is_number K)) : Has P w K mg base (L2N.CX P w) 3 "sees" ["bars", "one", "other"] (sp_sees K CL) := by
  obtain ⟨f, fd, gm, F, bb⟩ := D
  obtain ⟨f_asked_bars, fd_asked_bars, g_asked_bars, G_asked_bars, k_asked_bars, b_asked_bars⟩ := h_asked_bars
  obtain ⟨f_is_number, fd_is_number, g_is_number, G_is_number, k_is_number, b_is_number⟩ := h_is_number
  refine ⟨f, fd, gm, okN F sc_sees (fun vs H Q E h => ?_) (fun cdv A outer s H vs Q E hr h => ?_), F.kp, bb⟩
  · obtain ⟨x1, x2, x3, rfl, _⟩ := h
    rfl
  have hr_asked_bars : Room 2 (A.deeper (envOfC "sees" (defScope s_sees) s.heap.objs.size f cdv)) := hr.mono (by decide)
  have hr_is_number : Room 1 (A.deeper (envOfC "sees" (defScope s_sees) s.heap.objs.size f cdv)) := hr.mono (by decide)
  obtain ⟨x1, x2, x3, rfl, h⟩ := h
  refine ⟨_, (pss_cons (ps_expr (pe_callS G_asked_bars hr_asked_bars (by rfl) g_asked_bars k_asked_bars b_asked_bars (fun σ => L2N.passAt (L2N.takes_of rfl rfl rfl rfl) σ) (pa_cons (pv 0) pa_nil)))
      (pss_cons (ps_if (PW.pt (pw_or (pt_not (pt_val (pe_call G_is_number hr_is_number (by rfl) g_is_number k_is_number b_is_number .nil pass0 (pa_cons (pv 1) (pa_cons pe_int (pa_cons (pe_op op_sub (pe_callB (lenK (K := K)) (by rfl) T.m_len bt_len (pa_cons (pv 0) pa_nil)) pe_int) pa_nil)))))) (pw_or (pt_not (pt_val (pe_call G_is_number hr_is_number (by rfl) g_is_number k_is_number b_is_number .nil pass0 (pa_cons (pv 2) (pa_cons pe_int (pa_cons (pe_op op_sub (pe_callB (lenK (K := K)) (by rfl) T.m_len bt_len (pa_cons (pv 0) pa_nil)) pe_int) pa_nil)))))) (pw_or1 (pt_cmpR op_eq (pv 1) (pv 2) (nomark _)))))) (pss_one (L2N.ps_raise rfl (L2N.takes_of rfl rfl rfl rfl) (L2N.pmk_own PySem.F.excBase_ValueError T.xi_BadPlace T.c_BadPlace T.kx_BadPlace (raises_own T.bx_BadPlace T.tx_BadPlace) (by rfl)))) pss_nil)
      (pss_cons (ps_set (i := 3) sc_sees.nd rfl (Or.inl rfl) (pe_callB (call_min2 rfl) (by rfl) T.m_min bt_min (pa_cons (pv 1) (pa_cons (pv 2) pa_nil))))
      (pss_cons (ps_set (i := 4) sc_sees.nd rfl (Or.inl rfl) (pe_callB (call_max2 rfl) (by rfl) T.m_max bt_max (pa_cons (pv 1) (pa_cons (pv 2) pa_nil))))
      (pss_one (ps_ret (pe_cmpR op_lt (pe_callBK (maxDK (K := K) rfl) (by rfl) T.m_max bt_max (pa_cons (pe_slice (sl_listK (K := K)) (pv 0) (po_some (pe_op op_add (pv 3) pe_int)) (po_some (pv 4))) pa_nil) (pk_cons (pe_un un_neg pe_int) pk_nil)) (pe_callB (call_min2 rfl) (by rfl) T.m_min bt_min (pa_cons (pe_ix (ix_listK (K := K)) (pv 0) (pv 1) (fun _ _ => rfl)) (pa_cons (pe_ix (ix_listK (K := K)) (pv 0) (pv 2) (fun _ _ => rfl)) pa_nil))) (nomark _)))))))), start_is (σ := [some x1, some x2, some x3, none, none]) rfl ?_⟩
  rcases h with ⟨hb, k⟩ | ⟨a, bs, rfl, hS, good, hlen, hy, hz, bp, k⟩
  · walk_at "sx"
    exact ⟨_, rfl, .inr ⟨hb, k⟩⟩
  walk_at "sx"
  refine ⟨_, rfl, .inl ⟨a, bs, rfl, hS, good, hlen, fun H1 s1 => ?_⟩⟩
  have hS1 := s1.seq hS
  refine q_lenI hS1 ?_
  walk_at "sx"
  refine ⟨_, _, _, rfl, _, _, rfl, rfl, hy.more s1, ?_⟩
  walk_at "sx"
  cases c1 : nb x2 0 ((bs.length : Int) - 1) with
  | false => 
    rw [if_pos (by simp)]
    exact k H1 s1
  | true =>
    rw [if_neg (by simp)]
    refine q_lenI hS1 ?_
    walk_at "sx"
    refine ⟨_, _, _, rfl, _, _, rfl, rfl, hz.more s1, ?_⟩
    walk_at "sx"
    cases c2 : nb x3 0 ((bs.length : Int) - 1) with
    | false =>
      rw [if_pos (by simp)]
      exact k H1 s1
    | true =>
      rw [if_neg (by simp)]
      rcases bp with z | z | ⟨i, rfl, rfl⟩
      · rw [c1] at z; cases z
      · rw [c2] at z; cases z
      · walk_at "sx"
        try rw [if_pos (by simp)]
        exact k H1 s1
abbrev s_board : Stmt := top 21
abbrev N_board : List Str := ["bars", "told", "sizes", "at", "place", "first", "last"]
theorem sc_board : FnScope ["bars", "told", "sizes", "at", "place", "first", "last"] ["bars"] (defScope s_board) := ⟨rfl, rfl, rfl, by decide +kernel, rfl, by decide +kernel, by decide +kernel⟩
def sp_board (K : PySem.W.Frag) (CL : Cl) : Sp := Sp1 fun x H Q E => (BadB K H x ∧ ∀ H', Same H H' → E (.ref CL.BadBars) none H') ∨ ∃ a, x = .ref a ∧ SqL K H a (ivs []) ∧ ∀ H', Same H H' → E (.ref CL.NoBar) none H'
theorem ok_board {P : Program} {w : World} {K : PySem.W.Frag} {mg : Str → Option Value} {base : Heap} {CL : Cl} (D : Def K mg "board" ["bars"] s_board) (T : Txt K mg CL) (h_asked_bars : Has P w K mg base (L2N.CX P w) 2 "asked_bars" ["bars"] (sp_asked_bars K CL)) (h_reaches : Has P w K mg base (L2N.CX P w) 3 "reaches" ["bars"] (sp_reaches K CL)) (h_Board___init__ : HasI P w K mg base CX0 1 CL.Board ["self", "first", "many", "high", "around"] (sp_Board___init__ K CL)) : Has P w K mg base (L2N.CX P w) 4 "board" ["bars"] (sp_board K CL) := by
  obtain ⟨f, fd, gm, F, bb⟩ := D
  obtain ⟨f_asked_bars, fd_asked_bars, g_asked_bars, G_asked_bars, k_asked_bars, b_asked_bars⟩ := h_asked_bars
  obtain ⟨f_reaches, fd_reaches, g_reaches, G_reaches, k_reaches, b_reaches⟩ := h_reaches
  obtain ⟨f_Board___init__, fd_Board___init__, G_Board___init__, b_Board___init__, M_Board___init__⟩ := h_Board___init__
  refine ⟨f, fd, gm, okN F sc_board (fun vs H Q E h => ?_) (fun cdv A outer s H vs Q E hr h => ?_), F.kp, bb⟩
  · obtain ⟨x1, rfl, _⟩ := h
    rfl
  have hr_asked_bars : Room 2 (A.deeper (envOfC "board" (defScope s_board) s.heap.objs.size f cdv)) := hr.mono (by decide)
  have hr_reaches : Room 3 (A.deeper (envOfC "board" (defScope s_board) s.heap.objs.size f cdv)) := hr.mono (by decide)
  have hr_Board___init__ : Room 2 (A.deeper (envOfC "board" (defScope s_board) s.heap.objs.size f cdv)) := hr.mono (by decide)
  obtain ⟨x1, rfl, h⟩ := h
  refine ⟨_, (pss_cons (ps_expr (pe_callS G_asked_bars hr_asked_bars (by rfl) g_asked_bars k_asked_bars b_asked_bars (fun σ => L2N.passAt (L2N.takes_of rfl rfl rfl rfl) σ) (pa_cons (pv 0) pa_nil)))
      (pss_cons (ps_if (pt_cmpR (eqDK (K := K) hr.units) (pv 0) (pe_lst pa_nil) (nomark _)) (pss_one (L2N.ps_raise rfl (L2N.takes_of rfl rfl rfl rfl) (L2N.pmk_own PySem.F.excBase_ValueError T.xi_NoBar T.c_NoBar T.kx_NoBar (raises_own T.bx_NoBar T.tx_NoBar) (by rfl)))) pss_nil)
      (pss_cons (ps_set (i := 1) sc_board.nd rfl (Or.inl rfl) (pe_callS G_reaches hr_reaches (by rfl) g_reaches k_reaches b_reaches (fun σ => L2N.passAt (L2N.takes_of rfl rfl rfl rfl) σ) (pa_cons (pv 0) pa_nil)))
      (pss_cons (ps_setLc (i := 2) (own := [("place", 4), ("first", 5), ("last", 6)]) (g := (gTup K 2 (gCons (gName 4) (gCons (gTup K 2 (gCons (gName 5) (gCons (gName 6) gNil))) gNil)))) (tt := tYes) (by rfl) sc_board.nd rfl rfl (sw_true rfl rfl rfl (by decide +kernel)) (pi_enum (by rfl) T.m_enumerate (pa_cons (pv 1) pa_nil)) (blkOk_by (own := [("place", 4), ("first", 5), ("last", 6)]) (N := N_board) (sc := defScope s_board) (by decide +kernel)) (fun _ _ _ _ _ => (pg_tup (n := 2) rfl (pgs_cons (pg_name (i := 4) sc_board.nd rfl (Or.inl rfl)) (pgs_cons (pg_tup (n := 2) rfl (pgs_cons (pg_name (i := 5) sc_board.nd rfl (Or.inl rfl)) (pgs_cons (pg_name (i := 6) sc_board.nd rfl (Or.inl rfl)) pgs_nil))) pgs_nil)))) (fun _ _ _ _ _ => pts_nil) (fun _ _ _ _ _ => (pe_op op_mul (pe_ix (ix_listK (K := K)) (pv 0) (pv 4) (fun _ _ => rfl)) (pe_op op_add (pe_op op_sub (pv 6) (pv 5)) pe_int))))
      (pss_cons (ps_set (i := 3) sc_board.nd rfl (Or.inl rfl) (pe_bm PySem.F.plainAttrs_list PySem.F.slot_list_index PySem.F.type_list_index mt_index (pv 2) (pa_cons (pe_callB (maxK (K := K) rfl) (by rfl) T.m_max bt_max (pa_cons (pv 2) pa_nil)) pa_nil)))
      (pss_one (ps_ret (pe_make M_Board___init__ G_Board___init__ hr_Board___init__ (by rfl) T.c_Board b_Board___init__ .nil pass0 (pa_cons (pe_ix (ix_tupK (K := K)) (pe_ix (ix_listK (K := K)) (pv 1) (pv 3) (fun _ _ => rfl)) pe_int (fun _ _ => rfl)) (pa_cons (pe_op op_add (pe_op op_sub (pe_ix (ix_tupK (K := K)) (pe_ix (ix_listK (K := K)) (pv 1) (pv 3) (fun _ _ => rfl)) pe_int (fun _ _ => rfl)) (pe_ix (ix_tupK (K := K)) (pe_ix (ix_listK (K := K)) (pv 1) (pv 3) (fun _ _ => rfl)) pe_int (fun _ _ => rfl))) pe_int) (pa_cons (pe_ix (ix_listK (K := K)) (pv 0) (pv 3) (fun _ _ => rfl)) (pa_cons (pv 1) pa_nil)))))))))))), start_is (σ := [some x1, none, none, none, none, none, none]) rfl ?_⟩
  rcases h with ⟨hb, k⟩ | ⟨a, rfl, hS, k⟩
  · walk_at "sx"
    exact ⟨_, rfl, .inr ⟨hb, k⟩⟩
  walk_at "sx"
  refine ⟨_, rfl, .inl ⟨a, [], rfl, hS, fun b hb => by simp at hb, by simp, fun H1 s1 => ?_⟩⟩
  refine q_eqN (s1.seq hS) fun H2 s2 => ?_
  walk_at "sx"
  try rw [if_pos (by simp)]
  exact k H2 (s1.trans s2)
end Sky

/-! P9c: bars_of, row_of: for things of any kind. -/
namespace Sky
open PySem PySem.Spec PyProof.Rows L2
local macro_rules | `(tactic| walk_at "sx") => `(tactic| try simp only [e_K, e_seq, e_asg, e_name, e_drop, e_ret, e_retN, e_ifs, e_next, e_var, e_c, e_op, e_un, e_rI0, e_rI, e_rU, e_test, e_B, e_bl, e_and, e_or, e_not, e_andV, e_orV, e_notV, e_if, e_CB, e_CKw, e_cons, e_nil, e_call,
  e_chn, e_cCons, e_cOne, e_BM, e_BM0, e_sub, e_par, e_ls, e_noP, e_part, e_intx, e_refx, e_yes, e_get0, e_getS, e_sl, List.set_cons_zero, List.set_cons_succ, List.cons_append, List.nil_append, List.append_nil, Bool.not_true, Bool.not_false, e_lst, e_tup, e_rev, e_eqi, e_nei, decide_true, decide_false, if_true, Bool.false_eq_true, if_false, e_callS, e_callE, e_any, e_fld, e_sfld, e_meth, e_make, e_par3])
local macro_rules | `(tactic| walk_at "sy") => `(tactic| try simp (config := { implicitDefEqProofs := false }) only [e_K, e_seq, e_asg, e_name, e_drop, e_ret, e_retN, e_ifs, e_next, e_var, e_c, e_op, e_un, e_rI0, e_rI, e_rU, e_test, e_B, e_bl, e_and, e_or, e_not, e_andV, e_orV, e_notV, e_if, e_CB, e_CKw, e_cons, e_nil, e_call,
  e_chn, e_cCons, e_cOne, e_BM, e_BM0, e_sub, e_par, e_ls, e_noP, e_part, e_intx, e_refx, e_yes, e_get0, e_getS, e_sl, List.set_cons_zero, List.set_cons_succ, List.cons_append, List.nil_append, List.append_nil, Bool.not_true, Bool.not_false, e_lst, e_tup, e_rev, e_eqi, e_nei, decide_true, decide_false, if_true, Bool.false_eq_true, if_false, e_callS, e_callE, e_any, e_fld, e_sfld, e_meth, e_make, e_par3])
theorem made_same {H : Hp} {x dx C : Addr} (nx : H x = none) (ndx : H dx = none) (hne : dx ≠ x) : Same H (upd (upd H dx (.own x)) x (.ins C dx [])) :=
  (same_new ndx).trans (same_new (by rw [upd_ne hne.symm]; exact nx))
abbrev s_bars_of : Stmt := top 31
abbrev N_bars_of : List Str := ["parents", "found", "one"]
theorem sc_bars_of : FnScope ["parents", "found", "one"] ["parents"] (defScope s_bars_of) := ⟨rfl, rfl, rfl, by decide +kernel, rfl, by decide +kernel, by decide +kernel⟩
def TreeOk (ts : List Int) : Prop := Hung ts ∧ parL (dptL ts) = ts
def BadT (K : PySem.W.Frag) (H : Hp) (x : V) : Prop := NotL K H x ∨ ∃ a xs, x = .ref a ∧ SqL K H a xs ∧ (∀ y ∈ xs, Fl y) ∧ xs.length ≤ 1000 ∧ (xs.all fun y => nb y (-1) ((xs.length : Int) - 1)) = false
def sp_bars_of (K : PySem.W.Frag) (CL : Cl) : Sp := Sp1 fun x H Q E => (BadT K H x ∧ ∀ H', Same H H' → E (.ref CL.BadTree) none H') ∨ ∃ (a : Addr) (ts : List Int), x = .ref a ∧ SqL K H a (ivs ts) ∧ Pr ts ∧ ts.length ≤ 1000 ∧
  (TreeOk ts → ∀ p H', H p = none → Same H H' → H' p = some (.lst (ivs (dptL ts))) → Q (.ref p) H') ∧ (¬ TreeOk ts → ∀ H', Same H H' → E (.ref CL.BadTree) none H')
theorem ok_bars_of {P : Program} {w : World} {K : PySem.W.Frag} {mg : Str → Option Value} {base : Heap} {CL : Cl} (D : Def K mg "bars_of" ["parents"] s_bars_of) (T : Txt K mg CL) (h_depths : Has P w K mg base CX0 1 "depths" ["parents"] (sp_depths K)) (h_parents_of : Has P w K mg base CX0 1 "parents_of" ["bars"] (sp_parents_of K)) (h_is_number : Has P w K mg base CX0 1 "is_number" ["thing", "least", "most"] (sp_is_number K)) : Has P w K mg base (L2N.CX P w) 2 "bars_of" ["parents"] (sp_bars_of K CL) := by
  obtain ⟨f, fd, gm, F, bb⟩ := D
  obtain ⟨f_depths, fd_depths, g_depths, G_depths, k_depths, b_depths⟩ := h_depths
  obtain ⟨f_parents_of, fd_parents_of, g_parents_of, G_parents_of, k_parents_of, b_parents_of⟩ := h_parents_of
  obtain ⟨f_is_number, fd_is_number, g_is_number, G_is_number, k_is_number, b_is_number⟩ := h_is_number
  refine ⟨f, fd, gm, okN F sc_bars_of (fun vs H Q E h => ?_) (fun cdv A outer s H vs Q E hr h => ?_), F.kp, bb⟩
  · obtain ⟨x1, rfl, _⟩ := h
    rfl
  have hr_depths : Room 1 (A.deeper (envOfC "bars_of" (defScope s_bars_of) s.heap.objs.size f cdv)) := hr.mono (by decide)
  have hr_parents_of : Room 1 (A.deeper (envOfC "bars_of" (defScope s_bars_of) s.heap.objs.size f cdv)) := hr.mono (by decide)
  have hr_is_number : Room 1 (A.deeper (envOfC "bars_of" (defScope s_bars_of) s.heap.objs.size f cdv)) := hr.mono (by decide)
  obtain ⟨x1, rfl, h⟩ := h
  refine ⟨_, (pss_cons (ps_if (PW.pt (pw_or (pt_not (pt_val (pe_callB (isiK (K := K)) (by rfl) T.m_isinstance bt_isinstance (pa_cons (pv 0) (pa_cons (pe_bltn (v := V.ty "list") (by rfl) T.m_list bt_list rfl) pa_nil))))) (pw_or1 (pt_not (pt_val (pe_callB (allK (K := K) rfl) (by rfl) T.m_all bt_all (pa_cons (pe_lc (own := [("one", 2)]) (g := (gName 2)) (tt := tYes) (by rfl) sc_bars_of.nd (pi_list (pv 0)) (blkOk_by (own := [("one", 2)]) (N := N_bars_of) (sc := defScope s_bars_of) (by decide +kernel)) (fun _ _ _ _ _ => (pg_name (i := 2) sc_bars_of.nd rfl (Or.inl rfl))) (fun _ _ _ _ _ => pts_nil) (fun _ _ _ _ _ => (pe_call G_is_number hr_is_number (by rfl) g_is_number k_is_number b_is_number .nil pass0 (pa_cons (pv 2) (pa_cons (pe_un un_neg pe_int) (pa_cons (pe_op op_sub (pe_callB (lenK (K := K)) (by rfl) T.m_len bt_len (pa_cons (pv 0) pa_nil)) pe_int) pa_nil)))))) pa_nil))))))) (pss_one (L2N.ps_raise rfl (L2N.takes_of rfl rfl rfl rfl) (L2N.pmk_own PySem.F.excBase_ValueError T.xi_BadTree T.c_BadTree T.kx_BadTree (raises_own T.bx_BadTree T.tx_BadTree) (by rfl)))) pss_nil)
      (pss_cons (ps_set (i := 1) sc_bars_of.nd rfl (Or.inl rfl) (pe_call G_depths hr_depths (by rfl) g_depths k_depths b_depths .nil pass0 (pa_cons (pv 0) pa_nil)))
      (pss_cons (ps_if (PW.pt (pw_or (pt_cmpR op_ne (pe_callB (lenK (K := K)) (by rfl) T.m_len bt_len (pa_cons (pv 1) pa_nil)) (pe_callB (lenK (K := K)) (by rfl) T.m_len bt_len (pa_cons (pv 0) pa_nil)) (nomark _)) (pw_or1 (pt_cmpR (neDK (K := K) hr.units) (pe_call G_parents_of hr_parents_of (by rfl) g_parents_of k_parents_of b_parents_of .nil pass0 (pa_cons (pv 1) pa_nil)) (pv 0) (nomark _))))) (pss_one (L2N.ps_raise rfl (L2N.takes_of rfl rfl rfl rfl) (L2N.pmk_own PySem.F.excBase_ValueError T.xi_BadTree T.c_BadTree T.kx_BadTree (raises_own T.bx_BadTree T.tx_BadTree) (by rfl)))) pss_nil)
      (pss_one (ps_ret (pv 1)))))), start_is (σ := [some x1, none, none]) rfl ?_⟩
  rcases h with ⟨hb | ⟨a, xs, rfl, hS, hfl, hlen, hn⟩, k⟩ | ⟨a, ts, rfl, hS, hpr, hlen, k1, k2⟩
  · walk_at "sx"
    refine q_notL hb ?_
    walk_at "sx"
    exact k H (Same.refl _)
  · walk_at "sx"
    refine q_isi (tyx_list hS) kb_ll ?_
    walk_at "sx"
    refine q_lcL (fun i v _ => v = .bl (nb (xs.getD i .non) (-1) ((xs.length : Int) - 1))) (fun R r => ⟨_, rfl, r⟩) hS (by omega) (fun _ => rfl) (fun _ _ _ _ e _ => e) (fun i x H' Q' hx s1 kk => ?_) ?_
    · simp only [wipe, List.map_cons, List.map_nil]
      walk_at "sx"
      refine q_len (s1.seq hS) ?_
      walk_at "sx"
      refine ⟨_, _, _, rfl, _, _, rfl, rfl, .inl (hfl x (List.mem_of_getElem? hx)), kk _ _ (Same.refl _) ?_⟩
      rw [List.getD_eq_getElem?_getD, hx]
      rfl
    · intro D H1 acc nD s1 hD hla hva
      have e := acc_bls hla hva
      subst e
      refine q_all (SqL.of hD) ?_
      rw [all_map_range xs fun y => nb y (-1) ((xs.length : Int) - 1), hn]
      walk_at "sx"
      try rw [if_pos (by simp)]
      exact k H1 s1
  walk_at "sx"
  refine q_isi (tyx_list hS) kb_ll ?_
  walk_at "sx"
  refine q_lcL (fun i v _ => v = .bl true) (fun R r => ⟨_, rfl, r⟩) hS (by rw [len_ivs]; omega) (fun _ => rfl) (fun _ _ _ _ e _ => e) (fun i x H' Q' hx s1 kk => ?_) ?_
  · obtain ⟨hi, rfl⟩ := of_ivs hx
    simp only [wipe, List.map_cons, List.map_nil]
    walk_at "sx"
    refine q_lenI (s1.seq hS) ?_
    walk_at "sx"
    refine ⟨_, _, _, rfl, _, _, rfl, rfl, .inl (.inr (.inr (.inl ⟨_, rfl⟩))), kk _ _ (Same.refl _) ?_⟩
    have := hpr i hi
    exact congrArg V.bl (decide_eq_true (by omega))
  intro D H1 acc nD s1 hD hla hva
  have e := acc_bls (f := fun _ => true) hla hva
  subst e
  refine q_all (SqL.of hD) ?_
  have e2 : (List.map (fun _ => true) (List.range (ivs ts).length)).all id = true := by simp
  rw [e2]
  walk_at "sx"
  try rw [if_neg (by simp)]
  have hS1 := s1.seq hS
  refine ⟨_, rfl, a, ts, rfl, hS1, hpr, hlen, fun hu p H2 np s2 hp => ?_, fun nhu p H2 np s2 hp => ?_⟩
  · walk_at "sx"
    refine q_lenI (SqL.of hp) (q_lenI (s2.seq hS1) ?_)
    rw [dptL_len]
    walk_at "sx"
    refine ⟨_, rfl, p, dptL ts, rfl, SqL.of hp, by rw [dptL_len]; exact hlen, fun r H3 nr s3 hr => ?_⟩
    refine q_neL (SqL.of hr) ((s2.trans s3).seq hS1) ?_
    walk_at "sx"
    by_cases c : parL (dptL ts) = ts
    · rw [if_neg (by simp [c])]
      exact k1 ⟨hu, c⟩ p H3 (s1.free np) ((s1.trans s2).trans s3) (s3 _ _ hp)
    · rw [if_pos (by simp [c])]
      exact k2 (fun z => c z.2) H3 ((s1.trans s2).trans s3)
  · walk_at "sx"
    refine q_lenI (SqL.of hp) (q_lenI (s2.seq hS1) ?_)
    have ne : ts.length ≠ 0 := fun z => nhu (by
      have : ts = [] := List.eq_nil_of_length_eq_zero z
      rw [this]
      exact fun p hp => by simp at hp)
    walk_at "sx"
    rw [if_pos (by simp; intro z; exact absurd (by omega : ts.length = 0) ne)]
    exact k2 (fun z => nhu z.1) H2 (s1.trans s2)
abbrev s_row_of : Stmt := top 26
abbrev N_row_of : List Str := ["told", "bars", "place", "link", "at"]
theorem sc_row_of : FnScope ["told", "bars", "place", "link", "at"] ["told"] (defScope s_row_of) := ⟨rfl, rfl, rfl, by decide +kernel, rfl, by decide +kernel, by decide +kernel⟩
def BadK (K : PySem.W.Frag) (H : Hp) (x : V) : Prop := NotL K H x ∨ ∃ a xs, x = .ref a ∧ SqL K H a xs ∧ (∀ y ∈ xs, Fl y) ∧ xs.length ≤ 1000 ∧ ∃ i, i < xs.length ∧ nb (xs.getD i .non) (-1) ((i : Int) - 1) = false
def sp_row_of (K : PySem.W.Frag) (CL : Cl) : Sp := Sp1 fun x H Q E => (BadK K H x ∧ ∀ H', Same H H' → E (.ref CL.BadLinks) none H') ∨ ∃ (a : Addr) (ts : List Int), x = .ref a ∧ SqL K H a (ivs ts) ∧ Lk ts ∧ ts.length ≤ 1000 ∧
  (∀ (p l : Addr) (H' : Hp) (bs : List Int), H p = none → H l = none → l ≠ p → Same H H' → RwAt CL.Row H' p l → H' l = some (.lst (ivs bs)) → links bs = ts → Good bs → bs.length = ts.length → Q (.ref p) H') ∧
  (∀ (p : Addr) (f s : Int) (H' : Hp), H p = none → Same H H' → CrAt CL.Crossed H' p f s → Cross ts f s → Q (.ref p) H')
theorem ok_row_of {P : Program} {w : World} {K : PySem.W.Frag} {mg : Str → Option Value} {base : Heap} {CL : Cl} (D : Def K mg "row_of" ["told"] s_row_of) (T : Txt K mg CL) (h_Row___init__ : HasI P w K mg base CX0 1 CL.Row ["self", "bars"] (sp_Row___init__ K CL)) (h_Crossed___init__ : HasI P w K mg base CX0 1 CL.Crossed ["self", "first", "second"] (sp_Crossed___init__ K CL)) (h_is_number : Has P w K mg base CX0 1 "is_number" ["thing", "least", "most"] (sp_is_number K)) : Has P w K mg base (L2N.CX P w) 3 "row_of" ["told"] (sp_row_of K CL) := by
  obtain ⟨f, fd, gm, F, bb⟩ := D
  obtain ⟨f_Row___init__, fd_Row___init__, G_Row___init__, b_Row___init__, M_Row___init__⟩ := h_Row___init__
  obtain ⟨f_Crossed___init__, fd_Crossed___init__, G_Crossed___init__, b_Crossed___init__, M_Crossed___init__⟩ := h_Crossed___init__
  obtain ⟨f_is_number, fd_is_number, g_is_number, G_is_number, k_is_number, b_is_number⟩ := h_is_number
  refine ⟨f, fd, gm, okN F sc_row_of (fun vs H Q E h => ?_) (fun cdv A outer s H vs Q E hr h => ?_), F.kp, bb⟩
  · obtain ⟨x1, rfl, _⟩ := h
    rfl
  have hr_Row___init__ : Room 2 (A.deeper (envOfC "row_of" (defScope s_row_of) s.heap.objs.size f cdv)) := hr.mono (by decide)
  have hr_Crossed___init__ : Room 2 (A.deeper (envOfC "row_of" (defScope s_row_of) s.heap.objs.size f cdv)) := hr.mono (by decide)
  have hr_is_number : Room 1 (A.deeper (envOfC "row_of" (defScope s_row_of) s.heap.objs.size f cdv)) := hr.mono (by decide)
  obtain ⟨x1, rfl, h⟩ := h
  refine ⟨_, (pss_cons (ps_if (PW.pt (pw_or (pt_not (pt_val (pe_callB (isiK (K := K)) (by rfl) T.m_isinstance bt_isinstance (pa_cons (pv 0) (pa_cons (pe_bltn (v := V.ty "list") (by rfl) T.m_list bt_list rfl) pa_nil))))) (pw_or1 (pt_not (pt_val (pe_callB (allK (K := K) rfl) (by rfl) T.m_all bt_all (pa_cons (pe_lc (own := [("place", 2), ("link", 3)]) (g := (gTup K 2 (gCons (gName 2) (gCons (gName 3) gNil)))) (tt := tYes) (by rfl) sc_row_of.nd (pi_enum (by rfl) T.m_enumerate (pa_cons (pv 0) pa_nil)) (blkOk_by (own := [("place", 2), ("link", 3)]) (N := N_row_of) (sc := defScope s_row_of) (by decide +kernel)) (fun _ _ _ _ _ => (pg_tup (n := 2) rfl (pgs_cons (pg_name (i := 2) sc_row_of.nd rfl (Or.inl rfl)) (pgs_cons (pg_name (i := 3) sc_row_of.nd rfl (Or.inl rfl)) pgs_nil)))) (fun _ _ _ _ _ => pts_nil) (fun _ _ _ _ _ => (pe_call G_is_number hr_is_number (by rfl) g_is_number k_is_number b_is_number .nil pass0 (pa_cons (pv 3) (pa_cons (pe_un un_neg pe_int) (pa_cons (pe_op op_sub (pv 2) pe_int) pa_nil)))))) pa_nil))))))) (pss_one (L2N.ps_raise rfl (L2N.takes_of rfl rfl rfl rfl) (L2N.pmk_own PySem.F.excBase_ValueError T.xi_BadLinks T.c_BadLinks T.kx_BadLinks (raises_own T.bx_BadLinks T.tx_BadLinks) (by rfl)))) pss_nil)
      (pss_cons (ps_set (i := 1) sc_row_of.nd rfl (Or.inl rfl) (pe_lst pa_nil))
      (pss_cons (ps_for (passes_of rfl) rfl (pi_enum (by rfl) T.m_enumerate (pa_cons (pv 0) pa_nil)) (pg_tup (n := 2) rfl (pgs_cons (pg_name (i := 2) sc_row_of.nd rfl (Or.inl rfl)) (pgs_cons (pg_name (i := 3) sc_row_of.nd rfl (Or.inl rfl)) pgs_nil))) (pss_cons (ps_set (i := 4) sc_row_of.nd rfl (Or.inl rfl) (pe_op op_sub (pv 2) pe_int))
      (pss_mid (ps_while (passes_of rfl) (pt_cmpR op_gt (pv 4) (pv 3) (nomark _)) (pss_cons (ps_if (pt_cmpR op_lt (pe_ix (ix_listK (K := K)) (pv 0) (pv 4) (fun _ _ => rfl)) (pv 3) (nomark _)) (pss_one (ps_ret (pe_make M_Crossed___init__ G_Crossed___init__ hr_Crossed___init__ (by rfl) T.c_Crossed b_Crossed___init__ .nil pass0 (pa_cons (pv 4) (pa_cons (pv 2) pa_nil))))) pss_nil)
      (pss_one (ps_set (i := 4) sc_row_of.nd rfl (Or.inl rfl) (pe_ix (ix_listK (K := K)) (pv 0) (pv 4) (fun _ _ => rfl))))))
      (pss_one (ps_if (pt_cmpR op_lt (pv 3) pe_int (nomark _)) (pss_one (ps_expr (pe_bm PySem.F.plainAttrs_list PySem.F.slot_list_append PySem.F.type_list_append mt_append (pv 1) (pa_cons pe_int pa_nil)))) (pss_one (ps_expr (pe_bm PySem.F.plainAttrs_list PySem.F.slot_list_append PySem.F.type_list_append mt_append (pv 1) (pa_cons (pe_op op_add (pe_ix (ix_listK (K := K)) (pv 1) (pv 3) (fun _ _ => rfl)) pe_int) pa_nil)))))))))
      (pss_one (ps_ret (pe_make M_Row___init__ G_Row___init__ hr_Row___init__ (by rfl) T.c_Row b_Row___init__ .nil pass0 (pa_cons (pv 1) pa_nil))))))), start_is (σ := [some x1, none, none, none, none]) rfl ?_⟩
  rcases h with ⟨hb | ⟨a, xs, rfl, hS, hfl, hlen, bi, hbi, hn⟩, k⟩ | ⟨a, ts, rfl, hS, lk, hlen, kR, kC⟩
  · walk_at "sx"
    refine q_notL hb ?_
    walk_at "sx"
    exact k H (Same.refl _)
  · walk_at "sx"
    refine q_isi (tyx_list hS) kb_ll ?_
    walk_at "sx"
    refine q_lcEG (xs := xs) (fun i v _ => v = .bl (nb (xs.getD i .non) (-1) ((i : Int) - 1))) (fun R r => ⟨_, rfl, r⟩) hS (by omega) (fun _ _ _ _ e _ => e) (fun i x t H' Q' hx s1 hT kk => ?_) ?_
    · refine q_g2 (SqT.of hT) ⟨rfl, ?_⟩
      simp only [wipe, List.map_cons, List.map_nil]
      walk_at "sx"
      refine ⟨_, _, _, rfl, _, _, rfl, rfl, .inl (hfl x (List.mem_of_getElem? hx)), kk _ _ (Same.refl _) ?_⟩
      rw [List.getD_eq_getElem?_getD, hx]
      rfl
    · intro D H1 acc nD s1 hD hla hva
      have e := acc_bls hla hva
      subst e
      refine q_all (SqL.of hD) ?_
      have e2 : ((List.range xs.length).map fun i => nb (xs.getD i .non) (-1) ((i : Int) - 1)).all id = false := by
        rw [← Bool.not_eq_true, List.all_eq_true]
        intro z
        have := z _ (List.mem_map.mpr ⟨bi, List.mem_range.mpr hbi, rfl⟩)
        rw [hn] at this
        cases this
      rw [e2]
      walk_at "sx"
      try rw [if_pos (by simp)]
      exact k H1 s1
  walk_at "sx"
  refine q_isi (tyx_list hS) kb_ll ?_
  walk_at "sx"
  refine q_lcEG (xs := ivs ts) (fun i v _ => v = .bl true) (fun R r => ⟨_, rfl, r⟩) hS (by rw [len_ivs]; omega) (fun _ _ _ _ e _ => e) (fun i x t H' Q' hx s1 hT kk => ?_) ?_
  · obtain ⟨hi, rfl⟩ := of_ivs hx
    refine q_g2 (SqT.of hT) ⟨rfl, ?_⟩
    simp only [wipe, List.map_cons, List.map_nil]
    walk_at "sx"
    refine ⟨_, _, _, rfl, _, _, rfl, rfl, .inl (.inr (.inr (.inl ⟨_, rfl⟩))), kk _ _ (Same.refl _) ?_⟩
    have := lk i hi
    exact congrArg V.bl (decide_eq_true (by omega))
  intro D H1 acc nD s1 hD hla hva
  have e := acc_bls (f := fun _ => true) hla hva
  subst e
  refine q_all (SqL.of hD) ?_
  have e2 : (List.map (fun _ => true) (List.range (ivs ts).length)).all id = true := by simp
  rw [e2]
  walk_at "sx"
  try rw [if_neg (by simp)]
  refine q_newL fun q nq => ?_
  have nq0 := s1.free nq
  have s2 := s1.trans (same_new (o := .lst []) nq)
  refine q_forE (a := a) (xs := ivs ts) (fun R r => ⟨_, rfl, r⟩) (fun i σ H' => ∃ v2 v3 v4, σ = [some (.ref a), some (.ref q), v2, v3, v4] ∧ Same H H' ∧ H' q = some (.lst (ivs (rowB ts i))) ∧ RowOk ts i ∧ i ≤ ts.length)
    ⟨none, none, none, rfl, s2, upd_same, fun i hi => by omega, Nat.zero_le _⟩ (fun i σ H' ⟨_, _, _, _, s, _⟩ => s.seq hS) ?_ ?_
  · rintro i x σ H3 H4 hx ⟨v2, v3, v4, rfl, s3, hq, ok, _⟩ s4
    obtain ⟨hi, rfl⟩ := of_ivs hx
    have s04 := s3.trans s4
    have hq4 := s4 _ _ hq
    have hS4 := s04.seq hS
    have li := lk i hi
    walk_at "sx"
    refine q_mid (fun σ H5 => σ = [some (.ref a), some (.ref q), some (.int (i : Int)), some (.int (g ts i)), some (.int (g ts i))] ∧ H5 = H4 ∧ ∀ k : Nat, g ts i < (k : Int) → k < i → rowV ts (rowB ts i) i ≤ g (rowB ts i) k) ?_ ?_
    · refine q_while (fun m σ H5 => m ≤ i ∧ σ = [some (.ref a), some (.ref q), some (.int (i : Int)), some (.int (g ts i)), some (.int ((m : Int) - 1))] ∧ H5 = H4 ∧ g ts i < (m : Int) ∧ ∀ k, m ≤ k → k < i → 0 < m → g (rowB ts i) (m - 1) < g (rowB ts i) k)
        ⟨i, Nat.le_refl _, rfl, rfl, li.2, fun k k1 k2 => by omega⟩ ?_
      rintro m σ H5 ⟨hm, rfl, rfl, hlm, inv⟩
      walk_at "sx"
      by_cases c : g ts i < (m : Int) - 1
      · rw [if_pos (decide_eq_true c)]
        have m1 : 1 ≤ m := by omega
        have lm := lk (m - 1) (by omega)
        obtain ⟨m', em⟩ : ∃ m' : Nat, g ts (m - 1) = (m' : Int) - 1 := ⟨(g ts (m - 1) + 1).toNat, by omega⟩
        refine ⟨fun σ' H' => m' ≤ i ∧ σ' = [some (.ref a), some (.ref q), some (.int (i : Int)), some (.int (g ts i)), some (.int ((m' : Int) - 1))] ∧ H' = H5 ∧ g ts i < (m' : Int) ∧ ∀ k, m' ≤ k → k < i → 0 < m' → g (rowB ts i) (m' - 1) < g (rowB ts i) k, fun _ _ n => ⟨m', by omega, n⟩, ?_⟩
        refine q_ixL hS4 (j := m - 1) (by omega) (by omega) ?_
        walk_at "sx"
        by_cases d : g ts (m - 1) < g ts i
        · rw [if_pos (decide_eq_true d)]
          intro x dx nx ndx hne
          refine ⟨_, _, _, rfl, x, dx, (m : Int) - 1, (i : Int), rfl, rfl, rfl, upd_same, fun H6 hC keep => ⟨rfl, ?_⟩⟩
          have s6 : Same H5 H6 := Same.made nx ndx keep
          refine kC x _ _ H6 (s04.free nx) (s04.trans s6) hC ⟨by omega, by omega, by omega, ?_, ?_⟩
          · rw [show ((m : Int) - 1).toNat = m - 1 by omega, show ((i : Int)).toNat = i by omega]
            exact d
          · rw [show ((i : Int)).toNat = i by omega]
            exact c
        · rw [if_neg (by simpa using d)]
          refine q_ixL hS4 (j := m - 1) (by omega) (by omega) ?_
          rw [em]
          refine ⟨by omega, rfl, rfl, by omega, fun k k1 k2 k3 => ?_⟩
          exact chain_step lk (by omega) ok (at_ := m - 1) (by omega) (fun k k1 k2 => inv k (by omega) k2 (by omega)) (b := m' - 1) (by omega) k (by omega) k2
      · rw [if_neg (by simpa using c)]
        have em : (m : Int) - 1 = g ts i := by omega
        rw [em]
        refine ⟨rfl, trivial, fun k k1 k2 => ?_⟩
        unfold rowV
        by_cases z : g ts i < 0
        · rw [if_pos z]
          exact (rowB_pos lk i (by omega) k k2).1
        · rw [if_neg z]
          have := inv k (by omega) k2 (by omega)
          have e3 : (g ts i).toNat = m - 1 := by omega
          rw [e3]
          omega
    · rintro σ H5 ⟨rfl, rfl, hrow⟩
      walk_at "sx"
      have ok2 := ok.step hrow
      have fin : ∀ v : Int, v = rowV ts (rowB ts i) i → tyV K "list" (.ref q) H5 ∧ rAppend (.ref q) [.int v] H5 fun x H1 => ∃ v2 v3 v4, [some (V.ref a), some (.ref q), some (.int (i : Int)), some (.int (g ts i)), some (.int (g ts i))] = [some (V.ref a), some (.ref q), v2, v3, v4] ∧ Same H H1 ∧ H1 q = some (.lst (ivs (rowB ts (i + 1)))) ∧ RowOk ts (i + 1) ∧ i + 1 ≤ ts.length := by
        intro v hv
        refine q_app hq4 (by rw [len_ivs, rowB_len]; omega) ⟨_, _, _, rfl, same_mut s04 nq0, ?_, ok2, hi⟩
        rw [upd_same, hv]
        show _ = some (HO.lst (ivs (rowB ts i ++ [rowV ts (rowB ts i) i])))
        rw [ivs_app]
      by_cases z : g ts i < 0
      · rw [if_pos (decide_eq_true z)]
        refine fin 0 ?_
        unfold rowV
        rw [if_pos z]
      · rw [if_neg (by simpa using z)]
        refine ⟨.inl ⟨rfl, _, SqL.of hq4⟩, q_ixL (SqL.of hq4) (j := (g ts i).toNat) (by omega) (by rw [rowB_len]; omega) ?_⟩
        walk_at "sx"
        refine (fin _ ?_).2
        unfold rowV
        rw [if_neg z]
  · rintro σ H3 ⟨v2, v3, v4, rfl, s3, hq, ok, _⟩
    rw [len_ivs] at hq ok
    walk_at "sx"
    intro x dx nx ndx hne
    have sm := made_same (C := CL.Row) nx ndx hne
    refine ⟨_, _, rfl, x, dx, q, _, rfl, rfl, upd_same, sm.seq (SqL.of hq), fun l H6 nl nlx hR hl keep => ⟨rfl, ?_⟩⟩
    have s6 : Same H3 H6 := Same.made nx ndx keep
    exact kR x l H6 _ (s3.free nx) ((s3.trans sm).free nl) nlx (s3.trans s6) hR hl (links_row lk ok) (row_good lk hlen) (rowB_len ts _)
end Sky

/-! K09a: what is asked for otherwise than told. -/
namespace Sky
open PySem PySem.Spec PyProof.Rows L2
local macro_rules | `(tactic| walk_at "sx") => `(tactic| try simp only [e_K, e_seq, e_asg, e_name, e_drop, e_ret, e_retN, e_ifs, e_next, e_var, e_c, e_op, e_un, e_rI0, e_rI, e_rU, e_test, e_B, e_bl, e_and, e_or, e_not, e_andV, e_orV, e_notV, e_if, e_CB, e_CKw, e_cons, e_nil, e_call,
  e_chn, e_cCons, e_cOne, e_BM, e_BM0, e_sub, e_par, e_ls, e_noP, e_part, e_intx, e_refx, e_yes, e_get0, e_getS, e_sl, List.set_cons_zero, List.set_cons_succ, List.cons_append, List.nil_append, List.append_nil, Bool.not_true, Bool.not_false, e_lst, e_tup, e_rev, e_eqi, e_nei, decide_true, decide_false, if_true, Bool.false_eq_true, if_false, e_callS, e_callE, e_any, e_fld, e_sfld, e_meth, e_make, e_par3])
local macro_rules | `(tactic| walk_at "sy") => `(tactic| try simp (config := { implicitDefEqProofs := false }) only [e_K, e_seq, e_asg, e_name, e_drop, e_ret, e_retN, e_ifs, e_next, e_var, e_c, e_op, e_un, e_rI0, e_rI, e_rU, e_test, e_B, e_bl, e_and, e_or, e_not, e_andV, e_orV, e_notV, e_if, e_CB, e_CKw, e_cons, e_nil, e_call,
  e_chn, e_cCons, e_cOne, e_BM, e_BM0, e_sub, e_par, e_ls, e_noP, e_part, e_intx, e_refx, e_yes, e_get0, e_getS, e_sl, List.set_cons_zero, List.set_cons_succ, List.cons_append, List.nil_append, List.append_nil, Bool.not_true, Bool.not_false, e_lst, e_tup, e_rev, e_eqi, e_nei, decide_true, decide_false, if_true, Bool.false_eq_true, if_false, e_callS, e_callE, e_any, e_fld, e_sfld, e_meth, e_make, e_par3])
theorem mod_cases {w : Int} {n : Nat} (h : 0 < n) : ∃ j : Nat, w % (n : Int) = (j : Int) ∧ j < n := by
  have h1 := Int.emod_nonneg w (show (n : Int) ≠ 0 by omega)
  have h2 := Int.emod_lt_of_pos w (show (0 : Int) < (n : Int) by omega)
  exact ⟨(w % (n : Int)).toNat, by omega, by omega⟩
theorem q_cat {l b : Addr} {xs zs : List V} {H : Hp} {Q : VK} (h1 : H l = some (.lst xs)) (h2 : H b = some (.lst zs)) (hz : xs.length + zs.length ≤ 100000) (q : ∀ p, H p = none → Q (.ref p) (upd H p (.lst (xs ++ zs)))) : rCat (.ref l) (.ref b) H Q := ⟨l, b, xs, zs, rfl, rfl, h1, h2, sz_of hz, q⟩
/-- a list with one bad thing at its end -/
theorem badB_one {K : PySem.W.Frag} {H : Hp} {a : Addr} {z : V} {n : Nat} (h : SqL K H a ((List.replicate n [V.int 3]).flatten ++ [z])) (hn : n ≤ 6) (hz : Fl z) (hb : nb z 0 10000000 = false) : BadB K H (.ref a) := by
  refine .inr ⟨a, _, rfl, h, fun y hy => ?_, ?_, ?_⟩
  · rcases List.mem_append.mp hy with m | m
    · obtain ⟨l, h1, h2⟩ := List.mem_flatten.mp m
      have e := (List.mem_replicate.mp h1).2
      subst e
      have e2 : y = .int 3 := by simpa using h2
      subst e2
      exact .inr (.inr (.inl ⟨3, rfl⟩))
    · have e2 : y = z := by simpa using m
      rw [e2]
      exact hz
  · simp
    omega
  · rw [List.all_append]
    simp [hb]
abbrev s__law_bars_asked : Stmt := top 38
abbrev N__law_bars_asked : List Str := ["_law_which", "_law_more", "_law_bad", "_law_door"]
theorem sc__law_bars_asked : FnScope ["_law_which", "_law_more", "_law_bad", "_law_door"] ["_law_which", "_law_more"] (defScope s__law_bars_asked) := ⟨rfl, rfl, rfl, by decide +kernel, rfl, by decide +kernel, by decide +kernel⟩
def sp__law_bars_asked (K : PySem.W.Frag) (CL : Cl) : Sp := Sp2 fun x y H Q E => ∃ w m : Int, x = .int w ∧ y = .int m ∧ 0 ≤ m ∧ m < 1000 ∧ ∀ H', Same H H' → E (.ref CL.BadBars) none H'
theorem ok__law_bars_asked {P : Program} {w : World} {K : PySem.W.Frag} {mg : Str → Option Value} {base : Heap} {CL : Cl} (D : Def K mg "_law_bars_asked" ["_law_which", "_law_more"] s__law_bars_asked) (T : Txt K mg CL) (h_sees : Has P w K mg base (L2N.CX P w) 3 "sees" ["bars", "one", "other"] (sp_sees K CL)) (h_reaches : Has P w K mg base (L2N.CX P w) 3 "reaches" ["bars"] (sp_reaches K CL)) (h_seen_ahead : Has P w K mg base (L2N.CX P w) 3 "seen_ahead" ["bars"] (sp_seen_ahead K CL)) (h_shown : Has P w K mg base (L2N.CX P w) 3 "shown" ["bars"] (sp_shown K CL)) (h_board : Has P w K mg base (L2N.CX P w) 4 "board" ["bars"] (sp_board K CL)) (h_levels : Has P w K mg base (L2N.CX P w) 3 "levels" ["bars"] (sp_levels K CL)) (h_water : Has P w K mg base (L2N.CX P w) 4 "water" ["bars"] (sp_water K CL)) (h_rims : Has P w K mg base (L2N.CX P w) 3 "rims" ["bars"] (sp_rims K CL)) (h_links : Has P w K mg base (L2N.CX P w) 3 "links" ["bars"] (sp_links K CL)) (h_tree : Has P w K mg base (L2N.CX P w) 3 "tree" ["bars"] (sp_tree K CL)) : Has P w K mg base (L2N.CX P w) 5 "_law_bars_asked" ["_law_which", "_law_more"] (sp__law_bars_asked K CL) := by
  obtain ⟨f, fd, gm, F, bb⟩ := D
  obtain ⟨f_sees, fd_sees, g_sees, G_sees, k_sees, b_sees⟩ := h_sees
  obtain ⟨f_reaches, fd_reaches, g_reaches, G_reaches, k_reaches, b_reaches⟩ := h_reaches
  obtain ⟨f_seen_ahead, fd_seen_ahead, g_seen_ahead, G_seen_ahead, k_seen_ahead, b_seen_ahead⟩ := h_seen_ahead
  obtain ⟨f_shown, fd_shown, g_shown, G_shown, k_shown, b_shown⟩ := h_shown
  obtain ⟨f_board, fd_board, g_board, G_board, k_board, b_board⟩ := h_board
  obtain ⟨f_levels, fd_levels, g_levels, G_levels, k_levels, b_levels⟩ := h_levels
  obtain ⟨f_water, fd_water, g_water, G_water, k_water, b_water⟩ := h_water
  obtain ⟨f_rims, fd_rims, g_rims, G_rims, k_rims, b_rims⟩ := h_rims
  obtain ⟨f_links, fd_links, g_links, G_links, k_links, b_links⟩ := h_links
  obtain ⟨f_tree, fd_tree, g_tree, G_tree, k_tree, b_tree⟩ := h_tree
  refine ⟨f, fd, gm, okN F sc__law_bars_asked (fun vs H Q E h => ?_) (fun cdv A outer s H vs Q E hr h => ?_), F.kp, bb⟩
  · obtain ⟨x1, x2, rfl, _⟩ := h
    rfl
  have hr_sees : Room 3 (A.deeper (envOfC "_law_bars_asked" (defScope s__law_bars_asked) s.heap.objs.size f cdv)) := hr.mono (by decide)
  have hr_reaches : Room 3 (A.deeper (envOfC "_law_bars_asked" (defScope s__law_bars_asked) s.heap.objs.size f cdv)) := hr.mono (by decide)
  have hr_seen_ahead : Room 3 (A.deeper (envOfC "_law_bars_asked" (defScope s__law_bars_asked) s.heap.objs.size f cdv)) := hr.mono (by decide)
  have hr_shown : Room 3 (A.deeper (envOfC "_law_bars_asked" (defScope s__law_bars_asked) s.heap.objs.size f cdv)) := hr.mono (by decide)
  have hr_board : Room 4 (A.deeper (envOfC "_law_bars_asked" (defScope s__law_bars_asked) s.heap.objs.size f cdv)) := hr.mono (by decide)
  have hr_levels : Room 3 (A.deeper (envOfC "_law_bars_asked" (defScope s__law_bars_asked) s.heap.objs.size f cdv)) := hr.mono (by decide)
  have hr_water : Room 4 (A.deeper (envOfC "_law_bars_asked" (defScope s__law_bars_asked) s.heap.objs.size f cdv)) := hr.mono (by decide)
  have hr_rims : Room 3 (A.deeper (envOfC "_law_bars_asked" (defScope s__law_bars_asked) s.heap.objs.size f cdv)) := hr.mono (by decide)
  have hr_links : Room 3 (A.deeper (envOfC "_law_bars_asked" (defScope s__law_bars_asked) s.heap.objs.size f cdv)) := hr.mono (by decide)
  have hr_tree : Room 3 (A.deeper (envOfC "_law_bars_asked" (defScope s__law_bars_asked) s.heap.objs.size f cdv)) := hr.mono (by decide)
  obtain ⟨x1, x2, rfl, h⟩ := h
  refine ⟨_, (pss_cons (ps_set (i := 2) sc__law_bars_asked.nd rfl (Or.inl rfl) (pe_ix (ix_listK (K := K)) (pe_lst (pa_cons pe_non (pa_cons (pe_tup (pa_cons pe_int (pa_cons pe_int pa_nil))) (pa_cons pe_str (pa_cons pe_int (pa_cons (pe_lst (pa_cons (pe_op op_sub (pe_un un_neg pe_int) (pv 1)) pa_nil)) (pa_cons (pe_lst (pa_cons (pe_op op_add pe_int (pv 1)) pa_nil)) (pa_cons (pe_lst (pa_cons pe_bl pa_nil)) (pa_cons (pe_lst (pa_cons pe_str pa_nil)) (pa_cons (pe_lst (pa_cons pe_non pa_nil)) pa_nil)))))))))) (pe_op op_mod (pv 0) pe_int) (fun _ _ => rfl)))
      (pss_mid (ps_if (pt_val (pe_callB (isiK (K := K)) (by rfl) T.m_isinstance bt_isinstance (pa_cons (pv 2) (pa_cons (pe_bltn (v := V.ty "list") (by rfl) T.m_list bt_list rfl) pa_nil)))) (pss_one (ps_set (i := 2) sc__law_bars_asked.nd rfl (Or.inl rfl) (pe_op op_cat (pe_op op_rep (pe_lst (pa_cons pe_int pa_nil)) (pe_op op_mod (pv 1) pe_int)) (pv 2)))) pss_nil)
      (pss_cons (ps_set (i := 3) sc__law_bars_asked.nd rfl (Or.inl rfl) (pe_op op_mod (pe_op op_fdiv (pv 0) pe_int) pe_int))
      (pss_cons (ps_if (pt_cmpR op_eq (pv 3) pe_int (nomark _)) (pss_one (ps_ret (pe_callS G_sees hr_sees (by rfl) g_sees k_sees b_sees (fun σ => L2N.passAt (L2N.takes_of rfl rfl rfl rfl) σ) (pa_cons (pv 2) (pa_cons pe_non (pa_cons pe_non pa_nil)))))) pss_nil)
      (pss_one (ps_ret (pe_callE (E := WE fun cls d _ H => E cls d H) (pe_ix (ix_listK (K := K)) (pe_lst (pa_cons (pe_glob (v := V.ref f_reaches) (by rfl) g_reaches rfl) (pa_cons (pe_glob (v := V.ref f_seen_ahead) (by rfl) g_seen_ahead rfl) (pa_cons (pe_glob (v := V.ref f_shown) (by rfl) g_shown rfl) (pa_cons (pe_glob (v := V.ref f_board) (by rfl) g_board rfl) (pa_cons (pe_glob (v := V.ref f_levels) (by rfl) g_levels rfl) (pa_cons (pe_glob (v := V.ref f_water) (by rfl) g_water rfl) (pa_cons (pe_glob (v := V.ref f_rims) (by rfl) g_rims rfl) (pa_cons (pe_glob (v := V.ref f_links) (by rfl) g_links rfl) (pa_cons (pe_glob (v := V.ref f_tree) (by rfl) g_tree rfl) pa_nil)))))))))) (pv 3) (fun _ _ => rfl)) (pa_cons (pv 2) pa_nil)))))))), start_is (σ := [some x1, some x2, none, none]) rfl ?_⟩
  obtain ⟨w', m, rfl, rfl, m0, m1, k⟩ := h
  walk_at "sy"
  refine q_newT fun t1 n1 => ?_
  refine q_newL fun l1 n2 => ?_
  walk_at "sy"
  refine q_newL fun l2 n3 => ?_
  refine q_newL fun l3 n4 => ?_
  refine q_newL fun l4 n5 => ?_
  refine q_newL fun l5 n6 => ?_
  refine q_newL fun l6 n7 => ?_
  have s1 := same_new (o := .tup [V.int 1, V.int 2]) n1
  have s2 := same_new (o := .lst [V.int (-1 - m)]) n2
  have s3 := same_new (o := .lst [V.int (10000001 + m)]) n3
  have s4 := same_new (o := .lst [V.bl true]) n4
  have s5 := same_new (o := .lst [V.str (Str.ofString "1")]) n5
  have s6 := same_new (o := .lst [V.non]) n6
  have s7 := same_new (o := .lst [V.non, V.ref t1, V.str (Str.ofString "12"), V.int 5, V.ref l1, V.ref l2, V.ref l3, V.ref l4, V.ref l5]) n7
  have g1 := s7 _ _ (s6 _ _ (s5 _ _ (s4 _ _ (s3 _ _ (s2 _ _ (upd_same (H := H) (a := t1) (o := .tup [V.int 1, V.int 2])))))))
  have g2 := s7 _ _ (s6 _ _ (s5 _ _ (s4 _ _ (s3 _ _ (upd_same (H := upd H t1 (.tup [V.int 1, V.int 2])) (a := l1) (o := .lst [V.int (-1 - m)]))))))
  have S7 := (((((s1.trans s2).trans s3).trans s4).trans s5).trans s6).trans s7
  have g7 : upd (upd (upd (upd (upd (upd (upd H t1 (.tup [V.int 1, V.int 2])) l1 (.lst [V.int (-1 - m)])) l2 (.lst [V.int (10000001 + m)])) l3 (.lst [V.bl true])) l4 (.lst [V.str (Str.ofString "1")])) l5 (.lst [V.non])) l6 (.lst [V.non, V.ref t1, V.str (Str.ofString "12"), V.int 5, V.ref l1, V.ref l2, V.ref l3, V.ref l4, V.ref l5]) l6 = some (.lst [V.non, V.ref t1, V.str (Str.ofString "12"), V.int 5, V.ref l1, V.ref l2, V.ref l3, V.ref l4, V.ref l5]) := upd_same
  have g3 := s7 _ _ (s6 _ _ (s5 _ _ (s4 _ _ (upd_same (H := upd (upd H t1 (.tup [V.int 1, V.int 2])) l1 (.lst [V.int (-1 - m)])) (a := l2) (o := .lst [V.int (10000001 + m)])))))
  have g4 := s7 _ _ (s6 _ _ (s5 _ _ (upd_same (H := upd (upd (upd H t1 (.tup [V.int 1, V.int 2])) l1 (.lst [V.int (-1 - m)])) l2 (.lst [V.int (10000001 + m)])) (a := l3) (o := .lst [V.bl true]))))
  have g5 := s7 _ _ (s6 _ _ (upd_same (H := upd (upd (upd (upd H t1 (.tup [V.int 1, V.int 2])) l1 (.lst [V.int (-1 - m)])) l2 (.lst [V.int (10000001 + m)])) l3 (.lst [V.bl true])) (a := l4) (o := .lst [V.str (Str.ofString "1")])))
  have g6 := s7 _ _ (upd_same (H := upd (upd (upd (upd (upd H t1 (.tup [V.int 1, V.int 2])) l1 (.lst [V.int (-1 - m)])) l2 (.lst [V.int (10000001 + m)])) l3 (.lst [V.bl true])) l4 (.lst [V.str (Str.ofString "1")])) (a := l5) (o := .lst [V.non]))
  generalize upd (upd (upd (upd (upd (upd (upd H t1 (.tup [V.int 1, V.int 2])) l1 (.lst [V.int (-1 - m)])) l2 (.lst [V.int (10000001 + m)])) l3 (.lst [V.bl true])) l4 (.lst [V.str (Str.ofString "1")])) l5 (.lst [V.non])) l6 (.lst [V.non, V.ref t1, V.str (Str.ofString "12"), V.int 5, V.ref l1, V.ref l2, V.ref l3, V.ref l4, V.ref l5]) = H7 at S7 g1 g2 g3 g4 g5 g6 g7 ⊢
  obtain ⟨j, ej, hj⟩ := mod_cases (w := w') (n := 9) (by decide)
  rw [show ((9 : Nat) : Int) = 9 from rfl] at ej
  rw [ej]
  obtain ⟨x, hx, hbad⟩ : ∃ x, ([V.non, V.ref t1, V.str (Str.ofString "12"), V.int 5, V.ref l1, V.ref l2, V.ref l3, V.ref l4, V.ref l5] : List V)[j]? = some x ∧ (NotL K H7 x ∨ ∃ (a : Addr) (z : V), x = .ref a ∧ H7 a = some (.lst [z]) ∧ Fl z ∧ nb z 0 10000000 = false) := by
    match j, hj with
    | 0, _ => exact ⟨_, rfl, .inl (.inl (.inl rfl))⟩
    | 1, _ => exact ⟨_, rfl, .inl (.inr ⟨t1, _, rfl, SqT.of g1⟩)⟩
    | 2, _ => exact ⟨_, rfl, .inl (.inl (.inr (.inr (.inr ⟨_, rfl⟩))))⟩
    | 3, _ => exact ⟨_, rfl, .inl (.inl (.inr (.inr (.inl ⟨_, rfl⟩))))⟩
    | 4, _ => exact ⟨_, rfl, .inr ⟨l1, _, rfl, g2, .inr (.inr (.inl ⟨_, rfl⟩)), decide_eq_false (by omega)⟩⟩
    | 5, _ => exact ⟨_, rfl, .inr ⟨l2, _, rfl, g3, .inr (.inr (.inl ⟨_, rfl⟩)), decide_eq_false (by omega)⟩⟩
    | 6, _ => exact ⟨_, rfl, .inr ⟨l3, _, rfl, g4, .inr (.inl ⟨_, rfl⟩), rfl⟩⟩
    | 7, _ => exact ⟨_, rfl, .inr ⟨l4, _, rfl, g5, .inr (.inr (.inr ⟨_, rfl⟩)), rfl⟩⟩
    | 8, _ => exact ⟨_, rfl, .inr ⟨l5, _, rfl, g6, .inl rfl, rfl⟩⟩
    | n + 9, h => omega
  refine ⟨by decide, q_ixV (SqL.of g7) rfl hx ?_⟩
  clear hx g1 g2 g3 g4 g5 g6 g7
  refine q_mid (fun σ H8 => ∃ x, σ = [some (.int w'), some (.int m), some x, none] ∧ Same H H8 ∧ BadB K H8 x) ?_ ?_
  · walk_at "sy"
    rcases hbad with hb | ⟨a, z, rfl, ha, fz, hz⟩
    · refine q_notL hb ?_
      walk_at "sy"
      try rw [if_neg (by simp)]
      exact ⟨x, rfl, S7, .inl hb⟩
    · refine q_isi (tyx_list (SqL.of ha)) kb_ll ?_
      walk_at "sy"
      refine q_newL fun b nb' => ?_
      walk_at "sy"
      obtain ⟨q, eq, hq⟩ := mod_cases (w := m) (n := 6) (by decide)
      rw [show ((6 : Nat) : Int) = 6 from rfl] at eq
      rw [eq]
      have s8 := same_new (o := .lst [V.int 3]) nb'
      refine ⟨by decide, b, (q : Int), [V.int 3], rfl, rfl, upd_same, by omega, by omega, sz_of (by simp; omega), fun p np => ?_⟩
      have er : ((q : Int)).toNat = q := by omega
      rw [er]
      have s9 := same_new (o := .lst (List.replicate q [V.int 3]).flatten) np
      refine q_cat upd_same (s9 _ _ (s8 _ _ ha)) (by simp; omega) fun r nr => ?_
      exact ⟨.ref r, rfl, ((S7.trans s8).trans s9).trans (same_new nr), badB_one (SqL.of upd_same) (by omega) fz hz⟩
  rintro σ H8 ⟨x, rfl, s8, hb⟩
  walk_at "sy"
  refine ⟨⟨by decide, by decide⟩, by decide, ?_⟩
  obtain ⟨j, ej, hj⟩ := mod_cases (w := w' / 9) (n := 10) (by decide)
  rw [show ((10 : Nat) : Int) = 10 from rfl] at ej
  rw [ej]
  by_cases c : j = 9
  · rw [if_pos (by simp [c])]
    exact ⟨_, _, _, rfl, .inl ⟨hb, fun H' s => k H' (s8.trans s)⟩⟩
  rw [if_neg (by simp; omega)]
  refine q_newL fun l nl => ?_
  have s9 := same_new (o := .lst [V.ref f_reaches, V.ref f_seen_ahead, V.ref f_shown, V.ref f_board, V.ref f_levels, V.ref f_water, V.ref f_rims, V.ref f_links, V.ref f_tree]) nl
  have hb9 := hb.more s9
  have kk : ∀ H', Same (upd H8 l (.lst [V.ref f_reaches, V.ref f_seen_ahead, V.ref f_shown, V.ref f_board, V.ref f_levels, V.ref f_water, V.ref f_rims, V.ref f_links, V.ref f_tree])) H' → E (.ref CL.BadBars) none H' := fun H' s => k H' ((s8.trans s9).trans s)
  have hl : upd H8 l (.lst [V.ref f_reaches, V.ref f_seen_ahead, V.ref f_shown, V.ref f_board, V.ref f_levels, V.ref f_water, V.ref f_rims, V.ref f_links, V.ref f_tree]) l = some (.lst [V.ref f_reaches, V.ref f_seen_ahead, V.ref f_shown, V.ref f_board, V.ref f_levels, V.ref f_water, V.ref f_rims, V.ref f_links, V.ref f_tree]) := upd_same
  generalize upd H8 l (.lst [V.ref f_reaches, V.ref f_seen_ahead, V.ref f_shown, V.ref f_board, V.ref f_levels, V.ref f_water, V.ref f_rims, V.ref f_links, V.ref f_tree]) = H9 at hb9 kk hl ⊢
  match j, hj, c with
  | 0, _, _ => exact q_ixV (SqL.of hl) rfl rfl ⟨f_reaches, _, rfl, calN G_reaches hr_reaches k_reaches b_reaches (fun σ => L2N.passAt (L2N.takes_of rfl rfl rfl rfl) σ), _, rfl, .inr ⟨hb9, kk⟩⟩
  | 1, _, _ => exact q_ixV (SqL.of hl) rfl rfl ⟨f_seen_ahead, _, rfl, calN G_seen_ahead hr_seen_ahead k_seen_ahead b_seen_ahead (fun σ => L2N.passAt (L2N.takes_of rfl rfl rfl rfl) σ), _, rfl, hb9, kk⟩
  | 2, _, _ => exact q_ixV (SqL.of hl) rfl rfl ⟨f_shown, _, rfl, calN G_shown hr_shown k_shown b_shown (fun σ => L2N.passAt (L2N.takes_of rfl rfl rfl rfl) σ), _, rfl, hb9, kk⟩
  | 3, _, _ => exact q_ixV (SqL.of hl) rfl rfl ⟨f_board, _, rfl, calN G_board hr_board k_board b_board (fun σ => L2N.passAt (L2N.takes_of rfl rfl rfl rfl) σ), _, rfl, .inl ⟨hb9, kk⟩⟩
  | 4, _, _ => exact q_ixV (SqL.of hl) rfl rfl ⟨f_levels, _, rfl, calN G_levels hr_levels k_levels b_levels (fun σ => L2N.passAt (L2N.takes_of rfl rfl rfl rfl) σ), _, rfl, .inr ⟨hb9, kk⟩⟩
  | 5, _, _ => exact q_ixV (SqL.of hl) rfl rfl ⟨f_water, _, rfl, calN G_water hr_water k_water b_water (fun σ => L2N.passAt (L2N.takes_of rfl rfl rfl rfl) σ), _, rfl, .inr ⟨hb9, kk⟩⟩
  | 6, _, _ => exact q_ixV (SqL.of hl) rfl rfl ⟨f_rims, _, rfl, calN G_rims hr_rims k_rims b_rims (fun σ => L2N.passAt (L2N.takes_of rfl rfl rfl rfl) σ), _, rfl, hb9, kk⟩
  | 7, _, _ => exact q_ixV (SqL.of hl) rfl rfl ⟨f_links, _, rfl, calN G_links hr_links k_links b_links (fun σ => L2N.passAt (L2N.takes_of rfl rfl rfl rfl) σ), _, rfl, .inr ⟨hb9, kk⟩⟩
  | 8, _, _ => exact q_ixV (SqL.of hl) rfl rfl ⟨f_tree, _, rfl, calN G_tree hr_tree k_tree b_tree (fun σ => L2N.passAt (L2N.takes_of rfl rfl rfl rfl) σ), _, rfl, .inr ⟨hb9, kk⟩⟩
  | n + 9, h1, h2 => omega
end Sky

/-! K09b: places, trees, links asked for otherwise than told. -/
namespace Sky
open PySem PySem.Spec PyProof.Rows L2
local macro_rules | `(tactic| walk_at "sx") => `(tactic| try simp only [e_K, e_seq, e_asg, e_name, e_drop, e_ret, e_retN, e_ifs, e_next, e_var, e_c, e_op, e_un, e_rI0, e_rI, e_rU, e_test, e_B, e_bl, e_and, e_or, e_not, e_andV, e_orV, e_notV, e_if, e_CB, e_CKw, e_cons, e_nil, e_call,
  e_chn, e_cCons, e_cOne, e_BM, e_BM0, e_sub, e_par, e_ls, e_noP, e_part, e_intx, e_refx, e_yes, e_get0, e_getS, e_sl, List.set_cons_zero, List.set_cons_succ, List.cons_append, List.nil_append, List.append_nil, Bool.not_true, Bool.not_false, e_lst, e_tup, e_rev, e_eqi, e_nei, decide_true, decide_false, if_true, Bool.false_eq_true, if_false, e_callS, e_callE, e_any, e_fld, e_sfld, e_meth, e_make, e_par3])
local macro_rules | `(tactic| walk_at "sy") => `(tactic| try simp (config := { implicitDefEqProofs := false }) only [e_K, e_seq, e_asg, e_name, e_drop, e_ret, e_retN, e_ifs, e_next, e_var, e_c, e_op, e_un, e_rI0, e_rI, e_rU, e_test, e_B, e_bl, e_and, e_or, e_not, e_andV, e_orV, e_notV, e_if, e_CB, e_CKw, e_cons, e_nil, e_call,
  e_chn, e_cCons, e_cOne, e_BM, e_BM0, e_sub, e_par, e_ls, e_noP, e_part, e_intx, e_refx, e_yes, e_get0, e_getS, e_sl, List.set_cons_zero, List.set_cons_succ, List.cons_append, List.nil_append, List.append_nil, Bool.not_true, Bool.not_false, e_lst, e_tup, e_rev, e_eqi, e_nei, decide_true, decide_false, if_true, Bool.false_eq_true, if_false, e_callS, e_callE, e_any, e_fld, e_sfld, e_meth, e_make, e_par3])
section
variable {H : Hp} {Q : VK} {xs : List V}
theorem q_newLG (q : ∀ p H', H p = none → Same H H' → H' p = some (.lst xs) → Q (.ref p) H') (h : xs.length ≤ 100000 := by simp) : rNewL xs H Q := q_newL (fun p np => q p _ np (same_new np) upd_same) h
theorem q_newTG (q : ∀ p H', H p = none → Same H H' → H' p = some (.tup xs) → Q (.ref p) H') (h : xs.length ≤ 100000 := by simp) : rNewT xs H Q := q_newT (fun p np => q p _ np (same_new np) upd_same) h
end
theorem fl_i {i : Int} : Fl (.int i) := .inr (.inr (.inl ⟨i, rfl⟩))
theorem fl_b {b : Bool} : Fl (.bl b) := .inr (.inl ⟨b, rfl⟩)
theorem fl_s {s : Str} : Fl (.str s) := .inr (.inr (.inr ⟨s, rfl⟩))
theorem fl_n : Fl .non := .inl rfl
abbrev s__law_places_asked : Stmt := top 39
abbrev N__law_places_asked : List Str := ["_law_which", "_law_more", "_law_bad"]
theorem sc__law_places_asked : FnScope ["_law_which", "_law_more", "_law_bad"] ["_law_which", "_law_more"] (defScope s__law_places_asked) := ⟨rfl, rfl, rfl, by decide +kernel, rfl, by decide +kernel, by decide +kernel⟩
def sp__law_places_asked (K : PySem.W.Frag) (CL : Cl) : Sp := Sp2 fun x y H Q E => ∃ w m : Int, x = .int w ∧ y = .int m ∧ 0 ≤ m ∧ m < 1000 ∧ ∀ H', Same H H' → E (.ref CL.BadPlace) none H'
theorem ok__law_places_asked {P : Program} {w : World} {K : PySem.W.Frag} {mg : Str → Option Value} {base : Heap} {CL : Cl} (D : Def K mg "_law_places_asked" ["_law_which", "_law_more"] s__law_places_asked) (T : Txt K mg CL) (h_sees : Has P w K mg base (L2N.CX P w) 3 "sees" ["bars", "one", "other"] (sp_sees K CL)) : Has P w K mg base (L2N.CX P w) 4 "_law_places_asked" ["_law_which", "_law_more"] (sp__law_places_asked K CL) := by
  obtain ⟨f, fd, gm, F, bb⟩ := D
  obtain ⟨f_sees, fd_sees, g_sees, G_sees, k_sees, b_sees⟩ := h_sees
  refine ⟨f, fd, gm, okN F sc__law_places_asked (fun vs H Q E h => ?_) (fun cdv A outer s H vs Q E hr h => ?_), F.kp, bb⟩
  · obtain ⟨x1, x2, rfl, _⟩ := h
    rfl
  have hr_sees : Room 3 (A.deeper (envOfC "_law_places_asked" (defScope s__law_places_asked) s.heap.objs.size f cdv)) := hr.mono (by decide)
  obtain ⟨x1, x2, rfl, h⟩ := h
  refine ⟨_, (pss_cons (ps_set (i := 2) sc__law_places_asked.nd rfl (Or.inl rfl) (pe_ix (ix_listK (K := K)) (pe_lst (pa_cons (pe_tup (pa_cons pe_non (pa_cons pe_int pa_nil))) (pa_cons (pe_tup (pa_cons pe_int (pa_cons pe_str pa_nil))) (pa_cons (pe_tup (pa_cons (pe_op op_sub (pe_un un_neg pe_int) (pv 1)) (pa_cons pe_int pa_nil))) (pa_cons (pe_tup (pa_cons pe_int (pa_cons (pe_op op_add pe_int (pv 1)) pa_nil))) (pa_cons (pe_tup (pa_cons pe_int (pa_cons pe_int pa_nil))) (pa_cons (pe_tup (pa_cons pe_bl (pa_cons pe_int pa_nil))) (pa_cons (pe_tup (pa_cons pe_int (pa_cons pe_bl pa_nil))) (pa_cons (pe_tup (pa_cons (pe_tup (pa_cons pe_int pa_nil)) (pa_cons pe_int pa_nil))) pa_nil))))))))) (pe_op op_mod (pv 0) pe_int) (fun _ _ => rfl)))
      (pss_one (ps_ret (pe_callS G_sees hr_sees (by rfl) g_sees k_sees b_sees (fun σ => L2N.passAt (L2N.takes_of rfl rfl rfl rfl) σ) (pa_cons (pe_lst (pa_cons pe_int (pa_cons pe_int (pa_cons pe_int pa_nil)))) (pa_cons (pe_ix (ix_tupK (K := K)) (pv 2) pe_int (fun _ _ => rfl)) (pa_cons (pe_ix (ix_tupK (K := K)) (pv 2) pe_int (fun _ _ => rfl)) pa_nil))))))), start_is (σ := [some x1, some x2, none]) rfl ?_⟩
  obtain ⟨w', m, rfl, rfl, m0, m1, k⟩ := h
  walk_at "sy"
  refine q_newTG fun t1 H1 n1 s1 g1 => ?_
  refine q_newTG fun t2 H2 n2 s2 g2 => ?_
  refine q_newTG fun t3 H3 n3 s3 g3 => ?_
  walk_at "sy"
  refine q_newTG fun t4 H4 n4 s4 g4 => ?_
  refine q_newTG fun t5 H5 n5 s5 g5 => ?_
  refine q_newTG fun t6 H6 n6 s6 g6 => ?_
  refine q_newTG fun t7 H7 n7 s7 g7 => ?_
  refine q_newTG fun t8 H8 n8 s8 g8 => ?_
  refine q_newTG fun t9 H9 n9 s9 g9 => ?_
  refine q_newLG fun l HA nl sA gl => ?_
  have S9 := s9.trans sA
  have S8 := s8.trans S9
  have S7 := s7.trans S8
  have S6 := s6.trans S7
  have S5 := s5.trans S6
  have S4 := s4.trans S5
  have S3 := s3.trans S4
  have S2 := s2.trans S3
  have S1 := s1.trans S2
  obtain ⟨j, ej, hj⟩ := mod_cases (w := w') (n := 8) (by decide)
  rw [show ((8 : Nat) : Int) = 8 from rfl] at ej
  rw [ej]
  obtain ⟨x, hx, t, a, b, rfl, ht, ha, hb, hbad⟩ : ∃ x, ([V.ref t1, V.ref t2, V.ref t3, V.ref t4, V.ref t5, V.ref t6, V.ref t7, V.ref t9] : List V)[j]? = some x ∧ ∃ (t : Addr) (a b : V), x = .ref t ∧ HA t = some (.tup [a, b]) ∧ NotL K HA a ∧ NotL K HA b ∧ BadP 3 a b := by
    match j, hj with
    | 0, _ => exact ⟨_, rfl, t1, _, _, rfl, S2 _ _ g1, .inl fl_n, .inl fl_i, .inl rfl⟩
    | 1, _ => exact ⟨_, rfl, t2, _, _, rfl, S3 _ _ g2, .inl fl_i, .inl fl_s, .inr (.inl rfl)⟩
    | 2, _ => exact ⟨_, rfl, t3, _, _, rfl, S4 _ _ g3, .inl fl_i, .inl fl_i, .inl (decide_eq_false (by omega))⟩
    | 3, _ => exact ⟨_, rfl, t4, _, _, rfl, S5 _ _ g4, .inl fl_i, .inl fl_i, .inr (.inl (decide_eq_false (by omega)))⟩
    | 4, _ => exact ⟨_, rfl, t5, _, _, rfl, S6 _ _ g5, .inl fl_i, .inl fl_i, .inr (.inr ⟨1, rfl, rfl⟩)⟩
    | 5, _ => exact ⟨_, rfl, t6, _, _, rfl, S7 _ _ g6, .inl fl_b, .inl fl_i, .inl rfl⟩
    | 6, _ => exact ⟨_, rfl, t7, _, _, rfl, S8 _ _ g7, .inl fl_i, .inl fl_b, .inr (.inl rfl)⟩
    | 7, _ => exact ⟨_, rfl, t9, _, _, rfl, sA _ _ g9, .inr ⟨t8, _, rfl, SqT.of (S9 _ _ g8)⟩, .inl fl_i, .inl rfl⟩
    | n + 8, h => omega
  refine ⟨by decide, q_ixV (SqL.of gl) rfl hx ?_⟩
  walk_at "sy"
  refine q_newLG fun q HB nq sB gq => ?_
  have tb := sB _ _ ht
  refine q_ixT (j := 0) (SqT.of tb) rfl rfl ?_
  refine q_ixT (j := 1) (SqT.of tb) rfl rfl ?_
  refine ⟨_, _, _, rfl, .inr ⟨q, [3, 1, 2], rfl, SqL.of gq, ?_, by decide, ha.more sB, hb.more sB, hbad, fun H' s => k H' ((S1.trans sB).trans s)⟩⟩
  intro b hb
  rcases List.mem_cons.mp hb with rfl | hb
  · exact ⟨by decide, by decide⟩
  rcases List.mem_cons.mp hb with rfl | hb
  · exact ⟨by decide, by decide⟩
  rcases List.mem_cons.mp hb with rfl | hb
  · exact ⟨by decide, by decide⟩
  · cases hb
abbrev s__law_trees_asked : Stmt := top 41
abbrev N__law_trees_asked : List Str := ["_law_which", "_law_more", "_law_bad"]
theorem sc__law_trees_asked : FnScope ["_law_which", "_law_more", "_law_bad"] ["_law_which", "_law_more"] (defScope s__law_trees_asked) := ⟨rfl, rfl, rfl, by decide +kernel, rfl, by decide +kernel, by decide +kernel⟩
def sp__law_trees_asked (K : PySem.W.Frag) (CL : Cl) : Sp := Sp2 fun x y H Q E => ∃ w m : Int, x = .int w ∧ y = .int m ∧ 0 ≤ m ∧ m < 1000 ∧ ∀ H', Same H H' → E (.ref CL.BadTree) none H'
theorem badT_l {K : PySem.W.Frag} {H : Hp} {a : Addr} {xs : List V} (h : H a = some (.lst xs)) (hl : xs.length ≤ 1000) (hf : ∀ y ∈ xs, Fl y) (hn : (xs.all fun y => nb y (-1) ((xs.length : Int) - 1)) = false) : BadT K H (.ref a) := .inr ⟨a, xs, rfl, SqL.of h, hf, hl, hn⟩
theorem fl_1 {x : V} (h : Fl x) : ∀ y ∈ [x], Fl y := fun y hy => by
  have : y = x := by simpa using hy
  rw [this]
  exact h
theorem fl_2 {x z : V} (h : Fl x) (h2 : Fl z) : ∀ y ∈ [x, z], Fl y := fun y hy => by
  rcases List.mem_cons.mp hy with rfl | hy
  · exact h
  · exact fl_1 h2 y hy
theorem bad_0 : ¬ TreeOk [0] := fun z => by
  have := z.1.next (p := 0) (q := 0) (by decide) (by decide) rfl
  omega
theorem bad_10 : ¬ TreeOk [1, 0] := fun z => by
  have := z.1.next (p := 0) (q := 1) (by decide) (by decide) rfl
  have := z.1.next (p := 1) (q := 0) (by decide) (by decide) rfl
  omega
theorem bad_mm : ¬ TreeOk [-1, -1] := fun z => absurd z.2 (by decide)
theorem pr_1 {ts : List Int} (h : ∀ y ∈ ts, -1 ≤ y ∧ y < (ts.length : Int)) : Pr ts := fun i hi => h _ (by
  have e : g ts i = ts[i] := by simp [g, hi]
  rw [e]
  exact List.getElem_mem hi)
theorem ok__law_trees_asked {P : Program} {w : World} {K : PySem.W.Frag} {mg : Str → Option Value} {base : Heap} {CL : Cl} (D : Def K mg "_law_trees_asked" ["_law_which", "_law_more"] s__law_trees_asked) (T : Txt K mg CL) (h_bars_of : Has P w K mg base (L2N.CX P w) 2 "bars_of" ["parents"] (sp_bars_of K CL)) : Has P w K mg base (L2N.CX P w) 3 "_law_trees_asked" ["_law_which", "_law_more"] (sp__law_trees_asked K CL) := by
  obtain ⟨f, fd, gm, F, bb⟩ := D
  obtain ⟨f_bars_of, fd_bars_of, g_bars_of, G_bars_of, k_bars_of, b_bars_of⟩ := h_bars_of
  refine ⟨f, fd, gm, okN F sc__law_trees_asked (fun vs H Q E h => ?_) (fun cdv A outer s H vs Q E hr h => ?_), F.kp, bb⟩
  · obtain ⟨x1, x2, rfl, _⟩ := h
    rfl
  have hr_bars_of : Room 2 (A.deeper (envOfC "_law_trees_asked" (defScope s__law_trees_asked) s.heap.objs.size f cdv)) := hr.mono (by decide)
  obtain ⟨x1, x2, rfl, h⟩ := h
  refine ⟨_, (pss_cons (ps_set (i := 2) sc__law_trees_asked.nd rfl (Or.inl rfl) (pe_ix (ix_listK (K := K)) (pe_lst (pa_cons pe_non (pa_cons (pe_tup pa_nil) (pa_cons pe_str (pa_cons pe_int (pa_cons (pe_lst (pa_cons pe_int pa_nil)) (pa_cons (pe_lst (pa_cons (pe_un un_neg pe_int) (pa_cons (pe_op op_add pe_int (pv 1)) pa_nil))) (pa_cons (pe_lst (pa_cons (pe_op op_sub (pe_un un_neg pe_int) (pv 1)) pa_nil)) (pa_cons (pe_lst (pa_cons pe_bl pa_nil)) (pa_cons (pe_lst (pa_cons (pe_un un_neg pe_int) (pa_cons (pe_un un_neg pe_int) pa_nil))) (pa_cons (pe_lst (pa_cons pe_int (pa_cons pe_int pa_nil))) pa_nil))))))))))) (pe_op op_mod (pv 0) pe_int) (fun _ _ => rfl)))
      (pss_one (ps_ret (pe_callS G_bars_of hr_bars_of (by rfl) g_bars_of k_bars_of b_bars_of (fun σ => L2N.passAt (L2N.takes_of rfl rfl rfl rfl) σ) (pa_cons (pv 2) pa_nil))))), start_is (σ := [some x1, some x2, none]) rfl ?_⟩
  obtain ⟨w', m, rfl, rfl, m0, m1, k⟩ := h
  walk_at "sy"
  refine q_newTG fun t1 H1 n1 s1 g1 => ?_
  refine q_newLG fun l2 H2 n2 s2 g2 => ?_
  walk_at "sy"
  refine q_newLG fun l3 H3 n3 s3 g3 => ?_
  walk_at "sy"
  refine q_newLG fun l4 H4 n4 s4 g4 => ?_
  refine q_newLG fun l5 H5 n5 s5 g5 => ?_
  walk_at "sy"
  refine q_newLG fun l6 H6 n6 s6 g6 => ?_
  walk_at "sy"
  refine q_newLG fun l7 H7 n7 s7 g7 => ?_
  refine q_newLG fun l HA nl sA gl => ?_
  have S7 := s7.trans sA
  have S6 := s6.trans S7
  have S5 := s5.trans S6
  have S4 := s4.trans S5
  have S3 := s3.trans S4
  have S2 := s2.trans S3
  have S1 := s1.trans S2
  obtain ⟨j, ej, hj⟩ := mod_cases (w := w') (n := 10) (by decide)
  rw [show ((10 : Nat) : Int) = 10 from rfl] at ej
  rw [ej]
  obtain ⟨x, hx, hbad⟩ : ∃ x, ([V.non, V.ref t1, V.str (Str.ofString ""), V.int 5, V.ref l2, V.ref l3, V.ref l4, V.ref l5, V.ref l6, V.ref l7] : List V)[j]? = some x ∧ (BadT K HA x ∨ ∃ (a : Addr) (ts : List Int), x = .ref a ∧ HA a = some (.lst (ivs ts)) ∧ Pr ts ∧ ts.length ≤ 1000 ∧ ¬ TreeOk ts) := by
    match j, hj with
    | 0, _ => exact ⟨_, rfl, .inl (.inl (.inl fl_n))⟩
    | 1, _ => exact ⟨_, rfl, .inl (.inl (.inr ⟨t1, _, rfl, SqT.of (S2 _ _ g1)⟩))⟩
    | 2, _ => exact ⟨_, rfl, .inl (.inl (.inl fl_s))⟩
    | 3, _ => exact ⟨_, rfl, .inl (.inl (.inl fl_i))⟩
    | 4, _ => exact ⟨_, rfl, .inr ⟨l2, [0], rfl, S3 _ _ g2, pr_1 (by decide), by decide, bad_0⟩⟩
    | 5, _ => exact ⟨_, rfl, .inl (badT_l (S4 _ _ g3) (by simp) (fl_2 fl_i fl_i) (by
        rw [List.all_cons, List.all_cons, show nb (.int (2 + m)) (-1) ((([V.int (-1), V.int (2 + m)] : List V).length : Int) - 1) = false from decide_eq_false (by simp; omega)]
        simp))⟩
    | 6, _ => exact ⟨_, rfl, .inl (badT_l (S5 _ _ g4) (by simp) (fl_1 fl_i) (by
        rw [List.all_cons, show nb (.int (-2 - m)) (-1) ((([V.int (-2 - m)] : List V).length : Int) - 1) = false from decide_eq_false (by simp; omega)]
        rfl))⟩
    | 7, _ => exact ⟨_, rfl, .inl (badT_l (S6 _ _ g5) (by simp) (fl_1 fl_b) rfl)⟩
    | 8, _ => exact ⟨_, rfl, .inr ⟨l6, [-1, -1], rfl, S7 _ _ g6, pr_1 (by decide), by decide, bad_mm⟩⟩
    | 9, _ => exact ⟨_, rfl, .inr ⟨l7, [1, 0], rfl, sA _ _ g7, pr_1 (by decide), by decide, bad_10⟩⟩
    | n + 10, h => omega
  refine ⟨by decide, q_ixV (SqL.of gl) rfl hx ?_⟩
  rcases hbad with hb | ⟨a, ts, rfl, ha, pr, hl, nt⟩
  · exact ⟨_, rfl, .inl ⟨hb, fun H' s => k H' (S1.trans s)⟩⟩
  · exact ⟨_, rfl, .inr ⟨a, ts, rfl, SqL.of ha, pr, hl, fun z => absurd z nt, fun _ H' s => k H' (S1.trans s)⟩⟩
abbrev s__law_links_asked : Stmt := top 40
abbrev N__law_links_asked : List Str := ["_law_which", "_law_more", "_law_good", "_law_bad", "_law_place"]
theorem sc__law_links_asked : FnScope ["_law_which", "_law_more", "_law_good", "_law_bad", "_law_place"] ["_law_which", "_law_more"] (defScope s__law_links_asked) := ⟨rfl, rfl, rfl, by decide +kernel, rfl, by decide +kernel, by decide +kernel⟩
def sp__law_links_asked (K : PySem.W.Frag) (CL : Cl) : Sp := Sp2 fun x y H Q E => ∃ w m : Int, x = .int w ∧ y = .int m ∧ 0 ≤ m ∧ m < 1000 ∧ ∀ H', Same H H' → E (.ref CL.BadLinks) none H'
/-- the links that are good: one less than each place -/
def gl_ (n : Nat) : List Int := (List.range n).map fun i : Nat => ((i : Int) - 1)
theorem gl_len (n : Nat) : (gl_ n).length = n := by simp [gl_]
theorem badK_mid {K : PySem.W.Frag} {H : Hp} {a : Addr} {n : Nat} {z : V} (h : H a = some (.lst (ivs (gl_ n) ++ [z] ++ ivs (gl_ n)))) (hn : n ≤ 10) (hz : Fl z) (hb : nb z (-1) ((n : Int) - 1) = false) : BadK K H (.ref a) := by
  refine .inr ⟨a, _, rfl, SqL.of h, fun y hy => ?_, ?_, n, ?_, ?_⟩
  · rcases List.mem_append.mp hy with m | m
    · rcases List.mem_append.mp m with m | m
      · exact fl_ivs _ y m
      · have e2 : y = z := by simpa using m
        rw [e2]
        exact hz
    · exact fl_ivs _ y m
  · simp [len_ivs, gl_len]
    try omega
  · simp [len_ivs, gl_len]
    try omega
  · rw [List.getD_eq_getElem?_getD, List.getElem?_append_left (by simp [len_ivs, gl_len]), List.getElem?_append_right (by simp [len_ivs, gl_len]), len_ivs, gl_len, Nat.sub_self]
    exact hb
theorem ok__law_links_asked {P : Program} {w : World} {K : PySem.W.Frag} {mg : Str → Option Value} {base : Heap} {CL : Cl} (D : Def K mg "_law_links_asked" ["_law_which", "_law_more"] s__law_links_asked) (T : Txt K mg CL) (h_row_of : Has P w K mg base (L2N.CX P w) 3 "row_of" ["told"] (sp_row_of K CL)) : Has P w K mg base (L2N.CX P w) 4 "_law_links_asked" ["_law_which", "_law_more"] (sp__law_links_asked K CL) := by
  obtain ⟨f, fd, gm, F, bb⟩ := D
  obtain ⟨f_row_of, fd_row_of, g_row_of, G_row_of, k_row_of, b_row_of⟩ := h_row_of
  refine ⟨f, fd, gm, okN F sc__law_links_asked (fun vs H Q E h => ?_) (fun cdv A outer s H vs Q E hr h => ?_), F.kp, bb⟩
  · obtain ⟨x1, x2, rfl, _⟩ := h
    rfl
  have hr_row_of : Room 3 (A.deeper (envOfC "_law_links_asked" (defScope s__law_links_asked) s.heap.objs.size f cdv)) := hr.mono (by decide)
  obtain ⟨x1, x2, rfl, h⟩ := h
  refine ⟨_, (pss_cons (ps_setLc (i := 2) (own := [("_law_place", 4)]) (g := (gName 4)) (tt := tYes) (by rfl) sc__law_links_asked.nd rfl rfl (sw_true rfl rfl rfl (by decide +kernel)) (pi_range1 (by rfl) T.m_range (pa_cons (pe_op op_mod (pv 1) pe_int) pa_nil)) (blkOk_by (own := [("_law_place", 4)]) (N := N__law_links_asked) (sc := defScope s__law_links_asked) (by decide +kernel)) (fun _ _ _ _ _ => (pg_name (i := 4) sc__law_links_asked.nd rfl (Or.inl rfl))) (fun _ _ _ _ _ => pts_nil) (fun _ _ _ _ _ => (pe_op op_sub (pv 4) pe_int)))
      (pss_cons (ps_set (i := 3) sc__law_links_asked.nd rfl (Or.inl rfl) (pe_ix (ix_listK (K := K)) (pe_lst (pa_cons (pe_callB (lenK (K := K)) (by rfl) T.m_len bt_len (pa_cons (pv 2) pa_nil)) (pa_cons (pe_op op_add (pe_callB (lenK (K := K)) (by rfl) T.m_len bt_len (pa_cons (pv 2) pa_nil)) (pv 1)) (pa_cons (pe_op op_sub (pe_un un_neg pe_int) (pv 1)) (pa_cons pe_bl (pa_cons pe_str (pa_cons pe_non pa_nil))))))) (pe_op op_mod (pv 0) pe_int) (fun _ _ => rfl)))
      (pss_cons (ps_if (pt_cmpR op_lt (pe_op op_mod (pv 0) pe_int) pe_int (nomark _)) (pss_one (ps_ret (pe_callS G_row_of hr_row_of (by rfl) g_row_of k_row_of b_row_of (fun σ => L2N.passAt (L2N.takes_of rfl rfl rfl rfl) σ) (pa_cons (pe_ix (ix_listK (K := K)) (pe_lst (pa_cons pe_non (pa_cons (pe_tup pa_nil) (pa_cons pe_str (pa_cons pe_int pa_nil))))) (pe_op op_mod (pv 0) pe_int) (fun _ _ => rfl)) pa_nil)))) pss_nil)
      (pss_one (ps_ret (pe_callS G_row_of hr_row_of (by rfl) g_row_of k_row_of b_row_of (fun σ => L2N.passAt (L2N.takes_of rfl rfl rfl rfl) σ) (pa_cons (pe_op op_cat (pe_op op_cat (pv 2) (pe_lst (pa_cons (pv 3) pa_nil))) (pv 2)) pa_nil))))))), start_is (σ := [some x1, some x2, none, none, none]) rfl ?_⟩
  obtain ⟨w', m, rfl, rfl, m0, m1, k⟩ := h
  walk_at "sy"
  obtain ⟨n, en, hn⟩ := mod_cases (w := m) (n := 5) (by decide)
  rw [show ((5 : Nat) : Int) = 5 from rfl] at en
  refine q_lcR (n := n) (fun i v _ => v = .int ((i : Int) - 1)) (fun R r => ?_) (by omega) (fun _ => rfl) (fun _ _ _ _ e _ => e) (fun i H' Q' hi s1 kk => ?_) ?_
  · walk_at "sy"
    rw [en]
    exact ⟨by decide, r⟩
  · simp only [wipe, List.map_cons, List.map_nil]
    walk_at "sy"
    exact kk _ _ (Same.refl _) rfl
  intro D H1 acc nD s1 hD hla hva
  have e := acc_ivs hla hva
  subst e
  rw [show (List.range n).map (fun i : Nat => ((i : Int) - 1)) = gl_ n from rfl] at hD
  refine q_lenI (SqL.of hD) ?_
  walk_at "sy"
  refine q_lenI (SqL.of hD) ?_
  walk_at "sy"
  rw [gl_len]
  refine q_newLG fun l H2 nl s2 gl => ?_
  obtain ⟨j, ej, hj⟩ := mod_cases (w := w') (n := 6) (by decide)
  rw [show ((6 : Nat) : Int) = 6 from rfl] at ej
  rw [ej]
  obtain ⟨x, hx, hf, hb⟩ : ∃ x, ([V.int (n : Int), V.int ((n : Int) + m), V.int (-2 - m), V.bl true, V.str (Str.ofString "-1"), V.non] : List V)[j]? = some x ∧ Fl x ∧ nb x (-1) ((n : Int) - 1) = false := by
    match j, hj with
    | 0, _ => exact ⟨_, rfl, fl_i, decide_eq_false (by omega)⟩
    | 1, _ => exact ⟨_, rfl, fl_i, decide_eq_false (by omega)⟩
    | 2, _ => exact ⟨_, rfl, fl_i, decide_eq_false (by omega)⟩
    | 3, _ => exact ⟨_, rfl, fl_b, rfl⟩
    | 4, _ => exact ⟨_, rfl, fl_s, rfl⟩
    | 5, _ => exact ⟨_, rfl, fl_n, rfl⟩
    | n + 6, h => omega
  refine ⟨by decide, q_ixV (SqL.of gl) rfl hx ?_⟩
  obtain ⟨i, ei, hi⟩ := mod_cases (w := w') (n := 10) (by decide)
  rw [show ((10 : Nat) : Int) = 10 from rfl] at ei
  rw [ei]
  refine ⟨by decide, ?_⟩
  have S2 := s1.trans s2
  by_cases c : (i : Int) < 4
  · rw [if_pos (decide_eq_true c)]
    refine q_newTG fun t H3 nt s3 gt => ?_
    refine q_newLG fun q H4 nq s4 gq => ?_
    obtain ⟨y, hy, hb⟩ : ∃ y, ([V.non, V.ref t, V.str (Str.ofString ""), V.int 5] : List V)[i]? = some y ∧ NotL K H4 y := by
      match i, c with
      | 0, _ => exact ⟨_, rfl, .inl fl_n⟩
      | 1, _ => exact ⟨_, rfl, .inr ⟨t, _, rfl, SqT.of (s4 _ _ gt)⟩⟩
      | 2, _ => exact ⟨_, rfl, .inl fl_s⟩
      | 3, _ => exact ⟨_, rfl, .inl fl_i⟩
      | n + 4, h => omega
    refine ⟨by decide, q_ixV (SqL.of gq) rfl hy ?_⟩
    exact ⟨_, rfl, .inl ⟨.inl hb, fun H' s => k H' (((S2.trans s3).trans s4).trans s)⟩⟩
  · rw [if_neg (by simpa using c)]
    refine q_newLG fun q H3 nq s3 gq => ?_
    have d3 := s3 _ _ (s2 _ _ hD)
    refine q_cat d3 gq (by simp [len_ivs, gl_len]; omega) fun r nr => ?_
    have s4 := same_new (o := .lst (ivs (gl_ n) ++ [x])) nr
    have d4 := s4 _ _ d3
    refine q_cat upd_same d4 (by simp [len_ivs, gl_len]; omega) fun u nu => ?_
    have s5 := same_new (o := .lst (ivs (gl_ n) ++ [x] ++ ivs (gl_ n))) nu
    exact ⟨_, rfl, .inl ⟨badK_mid upd_same (by omega) hf hb, fun H' s => k H' ((((S2.trans s3).trans s4).trans s5).trans s)⟩⟩
end Sky

/-! K09: the law. -/
namespace Sky
open PySem PySem.Spec PyProof.Rows L2
local macro_rules | `(tactic| walk_at "sx") => `(tactic| try simp only [e_K, e_seq, e_asg, e_name, e_drop, e_ret, e_retN, e_ifs, e_next, e_var, e_c, e_op, e_un, e_rI0, e_rI, e_rU, e_test, e_B, e_bl, e_and, e_or, e_not, e_andV, e_orV, e_notV, e_if, e_CB, e_CKw, e_cons, e_nil, e_call,
  e_chn, e_cCons, e_cOne, e_BM, e_BM0, e_sub, e_par, e_ls, e_noP, e_part, e_intx, e_refx, e_yes, e_get0, e_getS, e_sl, List.set_cons_zero, List.set_cons_succ, List.cons_append, List.nil_append, List.append_nil, Bool.not_true, Bool.not_false, e_lst, e_tup, e_rev, e_eqi, e_nei, decide_true, decide_false, if_true, Bool.false_eq_true, if_false, e_callS, e_callE, e_any, e_fld, e_sfld, e_meth, e_make, e_par3])
local macro_rules | `(tactic| walk_at "sy") => `(tactic| try simp (config := { implicitDefEqProofs := false }) only [e_K, e_seq, e_asg, e_name, e_drop, e_ret, e_retN, e_ifs, e_next, e_var, e_c, e_op, e_un, e_rI0, e_rI, e_rU, e_test, e_B, e_bl, e_and, e_or, e_not, e_andV, e_orV, e_notV, e_if, e_CB, e_CKw, e_cons, e_nil, e_call,
  e_chn, e_cCons, e_cOne, e_BM, e_BM0, e_sub, e_par, e_ls, e_noP, e_part, e_intx, e_refx, e_yes, e_get0, e_getS, e_sl, List.set_cons_zero, List.set_cons_succ, List.cons_append, List.nil_append, List.append_nil, Bool.not_true, Bool.not_false, e_lst, e_tup, e_rev, e_eqi, e_nei, decide_true, decide_false, if_true, Bool.false_eq_true, if_false, e_callS, e_callE, e_any, e_fld, e_sfld, e_meth, e_make, e_par3])
theorem q_isH {K : PySem.W.Frag} {H : Hp} {Q : VK} {D a : Addr} {c : V} {cv : Value} {b : Bool} (C : ExcC K D) (hc : ClsV c cv) (hk : PySem.W.kitOne K (.ref D) cv = some b) (q : Q (.bl b) H) : rIsH K (.ref D) none a [.ref a, c] H Q := ⟨D, c, cv, b, rfl, rfl, C, rfl, hc, hk, q⟩
abbrev s__law_told : Stmt := top 42
abbrev N__law_told : List Str := ["_law_kind", "_law_which", "_law_more", "error", "_law_found"]
theorem sc__law_told : FnScope ["_law_kind", "_law_which", "_law_more", "error", "_law_found"] ["_law_kind", "_law_which", "_law_more"] (defScope s__law_told) := ⟨rfl, rfl, rfl, by decide +kernel, rfl, by decide +kernel, by decide +kernel⟩
def due (k : Int) : List Bool := [decide (k = 0), decide (k = 1), decide (k = 2), decide (k = 3), decide (k = 4), true]
def sp__law_told (K : PySem.W.Frag) (CL : Cl) : Sp := Sp3 fun x y z H Q _ => ∃ c w m : Int, x = .int c ∧ y = .int w ∧ z = .int m ∧ 0 ≤ c ∧ c < 5 ∧ 0 ≤ m ∧ m < 1000 ∧ ∀ p H', H p = none → Same H H' → H' p = some (.lst ((due c).map V.bl)) → Q (.ref p) H'
theorem ok__law_told {P : Program} {w : World} {K : PySem.W.Frag} {mg : Str → Option Value} {base : Heap} {CL : Cl} (D : Def K mg "_law_told" ["_law_kind", "_law_which", "_law_more"] s__law_told) (T : Txt K mg CL) (h__law_bars_asked : Has P w K mg base (L2N.CX P w) 5 "_law_bars_asked" ["_law_which", "_law_more"] (sp__law_bars_asked K CL)) (h_board : Has P w K mg base (L2N.CX P w) 4 "board" ["bars"] (sp_board K CL)) (h__law_places_asked : Has P w K mg base (L2N.CX P w) 4 "_law_places_asked" ["_law_which", "_law_more"] (sp__law_places_asked K CL)) (h__law_trees_asked : Has P w K mg base (L2N.CX P w) 3 "_law_trees_asked" ["_law_which", "_law_more"] (sp__law_trees_asked K CL)) (h__law_links_asked : Has P w K mg base (L2N.CX P w) 4 "_law_links_asked" ["_law_which", "_law_more"] (sp__law_links_asked K CL)) : Has P w K mg base CX0 6 "_law_told" ["_law_kind", "_law_which", "_law_more"] (sp__law_told K CL) := by
  obtain ⟨f, fd, gm, F, bb⟩ := D
  obtain ⟨f__law_bars_asked, fd__law_bars_asked, g__law_bars_asked, G__law_bars_asked, k__law_bars_asked, b__law_bars_asked⟩ := h__law_bars_asked
  obtain ⟨f_board, fd_board, g_board, G_board, k_board, b_board⟩ := h_board
  obtain ⟨f__law_places_asked, fd__law_places_asked, g__law_places_asked, G__law_places_asked, k__law_places_asked, b__law_places_asked⟩ := h__law_places_asked
  obtain ⟨f__law_trees_asked, fd__law_trees_asked, g__law_trees_asked, G__law_trees_asked, k__law_trees_asked, b__law_trees_asked⟩ := h__law_trees_asked
  obtain ⟨f__law_links_asked, fd__law_links_asked, g__law_links_asked, G__law_links_asked, k__law_links_asked, b__law_links_asked⟩ := h__law_links_asked
  refine ⟨f, fd, gm, F.ok sc__law_told (fun vs H Q E h => ?_) (fun cdv A outer s H vs Q E hr h => ?_), F.kp, bb⟩
  · obtain ⟨x1, x2, x3, rfl, _⟩ := h
    rfl
  have hr__law_bars_asked : Room 5 (A.deeper (envOfC "_law_told" (defScope s__law_told) s.heap.objs.size f cdv)) := hr.mono (by decide)
  have hr_board : Room 4 (A.deeper (envOfC "_law_told" (defScope s__law_told) s.heap.objs.size f cdv)) := hr.mono (by decide)
  have hr__law_places_asked : Room 4 (A.deeper (envOfC "_law_told" (defScope s__law_told) s.heap.objs.size f cdv)) := hr.mono (by decide)
  have hr__law_trees_asked : Room 3 (A.deeper (envOfC "_law_told" (defScope s__law_told) s.heap.objs.size f cdv)) := hr.mono (by decide)
  have hr__law_links_asked : Room 4 (A.deeper (envOfC "_law_told" (defScope s__law_told) s.heap.objs.size f cdv)) := hr.mono (by decide)
  obtain ⟨x1, x2, x3, rfl, h⟩ := h
  refine ⟨_, (pss_cons (ps_tryX (K := K) (i := 3) rfl rfl sc__law_told.nd rfl rfl ⟨rfl, by decide, .inl T.c_BarError⟩)
      (pss_one (ps_ret (pe_lst pa_nil)))), start_is (σ := [some x1, some x2, some x3, none, none]) rfl ?_⟩
  obtain ⟨c, w', m, rfl, rfl, rfl, c0, c5, m0, m1, k⟩ := h
  walk_at "sy"
  intro pn xe tk po
  refine ⟨_, (pss_one (ps_if (pt_cmpR op_eq (pv 0) pe_int (nomark _)) (pss_one (ps_expr (pe_callS G__law_bars_asked hr__law_bars_asked (by rfl) g__law_bars_asked k__law_bars_asked b__law_bars_asked (fun σ => L2N.passAt tk σ) (pa_cons (pv 1) (pa_cons (pv 2) pa_nil))))) (pss_one (ps_if (pt_cmpR op_eq (pv 0) pe_int (nomark _)) (pss_one (ps_expr (pe_callS G_board hr_board (by rfl) g_board k_board b_board (fun σ => L2N.passAt tk σ) (pa_cons (pe_lst pa_nil) pa_nil)))) (pss_one (ps_if (pt_cmpR op_eq (pv 0) pe_int (nomark _)) (pss_one (ps_expr (pe_callS G__law_places_asked hr__law_places_asked (by rfl) g__law_places_asked k__law_places_asked b__law_places_asked (fun σ => L2N.passAt tk σ) (pa_cons (pv 1) (pa_cons (pv 2) pa_nil))))) (pss_one (ps_if (pt_cmpR op_eq (pv 0) pe_int (nomark _)) (pss_one (ps_expr (pe_callS G__law_trees_asked hr__law_trees_asked (by rfl) g__law_trees_asked k__law_trees_asked b__law_trees_asked (fun σ => L2N.passAt tk σ) (pa_cons (pv 1) (pa_cons (pv 2) pa_nil))))) (pss_one (ps_expr (pe_callS G__law_links_asked hr__law_links_asked (by rfl) g__law_links_asked k__law_links_asked b__law_links_asked (fun σ => L2N.passAt tk σ) (pa_cons (pv 1) (pa_cons (pv 2) pa_nil))))))))))))), ?_⟩
  walk_at "sy"
  by_cases c_0 : c = 0
  · rw [if_pos (decide_eq_true c_0)]
    subst c_0
    refine ⟨_, _, rfl, w', m, rfl, rfl, m0, m1, fun H1 s1 => q_caught T.em_BadBars fun ae ne => ?_⟩
    have SS := s1
    rintro oe pn2 ⟨yi, ya⟩
    refine ⟨_, (pss_cons (ps_set (i := 4) sc__law_told.nd rfl (Or.inl rfl) (pe_lst (pa_cons (pe_callB yi (by rfl) T.m_isinstance bt_isinstance (pa_cons (pv 3) (pa_cons (pe_glob (v := V.ref CL.BadBars) (by rfl) T.c_BadBars rfl) pa_nil))) (pa_cons (pe_callB yi (by rfl) T.m_isinstance bt_isinstance (pa_cons (pv 3) (pa_cons (pe_glob (v := V.ref CL.NoBar) (by rfl) T.c_NoBar rfl) pa_nil))) (pa_cons (pe_callB yi (by rfl) T.m_isinstance bt_isinstance (pa_cons (pv 3) (pa_cons (pe_glob (v := V.ref CL.BadPlace) (by rfl) T.c_BadPlace rfl) pa_nil))) pa_nil)))))
      (pss_one (ps_ret (pe_op op_cat (pv 4) (pe_lst (pa_cons (pe_callB yi (by rfl) T.m_isinstance bt_isinstance (pa_cons (pv 3) (pa_cons (pe_glob (v := V.ref CL.BadTree) (by rfl) T.c_BadTree rfl) pa_nil))) (pa_cons (pe_callB yi (by rfl) T.m_isinstance bt_isinstance (pa_cons (pv 3) (pa_cons (pe_glob (v := V.ref CL.BadLinks) (by rfl) T.c_BadLinks rfl) pa_nil))) (pa_cons (pe_callB yi (by rfl) T.m_isinstance bt_isinstance (pa_cons (pv 3) (pa_cons (pe_bltn (v := V.ty "ValueError") (by rfl) T.m_ValueError bt_ValueError rfl) pa_nil))) pa_nil)))))))), ?_⟩
    walk_at "sy"
    refine q_isH T.ec_BadBars (.own _) T.ke_BadBars_BadBars (q_isH T.ec_BadBars (.own _) T.ke_BadBars_NoBar (q_isH T.ec_BadBars (.own _) T.ke_BadBars_BadPlace ?_))
    refine q_newLG fun r H2 nr s2 gr => ?_
    walk_at "sy"
    refine q_isH T.ec_BadBars (.own _) T.ke_BadBars_BadTree (q_isH T.ec_BadBars (.own _) T.ke_BadBars_BadLinks (q_isH T.ec_BadBars (.ty _) T.kv_BadBars ?_))
    refine q_newLG fun u H3 nu s3 gu => ?_
    have gr3 := s3 _ _ gr
    have S3 := (SS.trans s2).trans s3
    refine q_cat gr3 gu (by simp) fun p np => ?_
    exact k p _ (S3.free np) (S3.trans (same_new np)) upd_same
  rw [if_neg (by simpa using c_0)]
  by_cases c_1 : c = 1
  · rw [if_pos (decide_eq_true c_1)]
    subst c_1
    refine q_newLG fun q H0 nq s0 gq => ?_
    refine ⟨_, rfl, .inr ⟨q, rfl, SqL.of gq, fun H1 s1 => q_caught T.em_NoBar fun ae ne => ?_⟩⟩
    have SS := s0.trans s1
    rintro oe pn2 ⟨yi, ya⟩
    refine ⟨_, (pss_cons (ps_set (i := 4) sc__law_told.nd rfl (Or.inl rfl) (pe_lst (pa_cons (pe_callB yi (by rfl) T.m_isinstance bt_isinstance (pa_cons (pv 3) (pa_cons (pe_glob (v := V.ref CL.BadBars) (by rfl) T.c_BadBars rfl) pa_nil))) (pa_cons (pe_callB yi (by rfl) T.m_isinstance bt_isinstance (pa_cons (pv 3) (pa_cons (pe_glob (v := V.ref CL.NoBar) (by rfl) T.c_NoBar rfl) pa_nil))) (pa_cons (pe_callB yi (by rfl) T.m_isinstance bt_isinstance (pa_cons (pv 3) (pa_cons (pe_glob (v := V.ref CL.BadPlace) (by rfl) T.c_BadPlace rfl) pa_nil))) pa_nil)))))
      (pss_one (ps_ret (pe_op op_cat (pv 4) (pe_lst (pa_cons (pe_callB yi (by rfl) T.m_isinstance bt_isinstance (pa_cons (pv 3) (pa_cons (pe_glob (v := V.ref CL.BadTree) (by rfl) T.c_BadTree rfl) pa_nil))) (pa_cons (pe_callB yi (by rfl) T.m_isinstance bt_isinstance (pa_cons (pv 3) (pa_cons (pe_glob (v := V.ref CL.BadLinks) (by rfl) T.c_BadLinks rfl) pa_nil))) (pa_cons (pe_callB yi (by rfl) T.m_isinstance bt_isinstance (pa_cons (pv 3) (pa_cons (pe_bltn (v := V.ty "ValueError") (by rfl) T.m_ValueError bt_ValueError rfl) pa_nil))) pa_nil)))))))), ?_⟩
    walk_at "sy"
    refine q_isH T.ec_NoBar (.own _) T.ke_NoBar_BadBars (q_isH T.ec_NoBar (.own _) T.ke_NoBar_NoBar (q_isH T.ec_NoBar (.own _) T.ke_NoBar_BadPlace ?_))
    refine q_newLG fun r H2 nr s2 gr => ?_
    walk_at "sy"
    refine q_isH T.ec_NoBar (.own _) T.ke_NoBar_BadTree (q_isH T.ec_NoBar (.own _) T.ke_NoBar_BadLinks (q_isH T.ec_NoBar (.ty _) T.kv_NoBar ?_))
    refine q_newLG fun u H3 nu s3 gu => ?_
    have gr3 := s3 _ _ gr
    have S3 := (SS.trans s2).trans s3
    refine q_cat gr3 gu (by simp) fun p np => ?_
    exact k p _ (S3.free np) (S3.trans (same_new np)) upd_same
  rw [if_neg (by simpa using c_1)]
  by_cases c_2 : c = 2
  · rw [if_pos (decide_eq_true c_2)]
    subst c_2
    refine ⟨_, _, rfl, w', m, rfl, rfl, m0, m1, fun H1 s1 => q_caught T.em_BadPlace fun ae ne => ?_⟩
    have SS := s1
    rintro oe pn2 ⟨yi, ya⟩
    refine ⟨_, (pss_cons (ps_set (i := 4) sc__law_told.nd rfl (Or.inl rfl) (pe_lst (pa_cons (pe_callB yi (by rfl) T.m_isinstance bt_isinstance (pa_cons (pv 3) (pa_cons (pe_glob (v := V.ref CL.BadBars) (by rfl) T.c_BadBars rfl) pa_nil))) (pa_cons (pe_callB yi (by rfl) T.m_isinstance bt_isinstance (pa_cons (pv 3) (pa_cons (pe_glob (v := V.ref CL.NoBar) (by rfl) T.c_NoBar rfl) pa_nil))) (pa_cons (pe_callB yi (by rfl) T.m_isinstance bt_isinstance (pa_cons (pv 3) (pa_cons (pe_glob (v := V.ref CL.BadPlace) (by rfl) T.c_BadPlace rfl) pa_nil))) pa_nil)))))
      (pss_one (ps_ret (pe_op op_cat (pv 4) (pe_lst (pa_cons (pe_callB yi (by rfl) T.m_isinstance bt_isinstance (pa_cons (pv 3) (pa_cons (pe_glob (v := V.ref CL.BadTree) (by rfl) T.c_BadTree rfl) pa_nil))) (pa_cons (pe_callB yi (by rfl) T.m_isinstance bt_isinstance (pa_cons (pv 3) (pa_cons (pe_glob (v := V.ref CL.BadLinks) (by rfl) T.c_BadLinks rfl) pa_nil))) (pa_cons (pe_callB yi (by rfl) T.m_isinstance bt_isinstance (pa_cons (pv 3) (pa_cons (pe_bltn (v := V.ty "ValueError") (by rfl) T.m_ValueError bt_ValueError rfl) pa_nil))) pa_nil)))))))), ?_⟩
    walk_at "sy"
    refine q_isH T.ec_BadPlace (.own _) T.ke_BadPlace_BadBars (q_isH T.ec_BadPlace (.own _) T.ke_BadPlace_NoBar (q_isH T.ec_BadPlace (.own _) T.ke_BadPlace_BadPlace ?_))
    refine q_newLG fun r H2 nr s2 gr => ?_
    walk_at "sy"
    refine q_isH T.ec_BadPlace (.own _) T.ke_BadPlace_BadTree (q_isH T.ec_BadPlace (.own _) T.ke_BadPlace_BadLinks (q_isH T.ec_BadPlace (.ty _) T.kv_BadPlace ?_))
    refine q_newLG fun u H3 nu s3 gu => ?_
    have gr3 := s3 _ _ gr
    have S3 := (SS.trans s2).trans s3
    refine q_cat gr3 gu (by simp) fun p np => ?_
    exact k p _ (S3.free np) (S3.trans (same_new np)) upd_same
  rw [if_neg (by simpa using c_2)]
  by_cases c_3 : c = 3
  · rw [if_pos (decide_eq_true c_3)]
    subst c_3
    refine ⟨_, _, rfl, w', m, rfl, rfl, m0, m1, fun H1 s1 => q_caught T.em_BadTree fun ae ne => ?_⟩
    have SS := s1
    rintro oe pn2 ⟨yi, ya⟩
    refine ⟨_, (pss_cons (ps_set (i := 4) sc__law_told.nd rfl (Or.inl rfl) (pe_lst (pa_cons (pe_callB yi (by rfl) T.m_isinstance bt_isinstance (pa_cons (pv 3) (pa_cons (pe_glob (v := V.ref CL.BadBars) (by rfl) T.c_BadBars rfl) pa_nil))) (pa_cons (pe_callB yi (by rfl) T.m_isinstance bt_isinstance (pa_cons (pv 3) (pa_cons (pe_glob (v := V.ref CL.NoBar) (by rfl) T.c_NoBar rfl) pa_nil))) (pa_cons (pe_callB yi (by rfl) T.m_isinstance bt_isinstance (pa_cons (pv 3) (pa_cons (pe_glob (v := V.ref CL.BadPlace) (by rfl) T.c_BadPlace rfl) pa_nil))) pa_nil)))))
      (pss_one (ps_ret (pe_op op_cat (pv 4) (pe_lst (pa_cons (pe_callB yi (by rfl) T.m_isinstance bt_isinstance (pa_cons (pv 3) (pa_cons (pe_glob (v := V.ref CL.BadTree) (by rfl) T.c_BadTree rfl) pa_nil))) (pa_cons (pe_callB yi (by rfl) T.m_isinstance bt_isinstance (pa_cons (pv 3) (pa_cons (pe_glob (v := V.ref CL.BadLinks) (by rfl) T.c_BadLinks rfl) pa_nil))) (pa_cons (pe_callB yi (by rfl) T.m_isinstance bt_isinstance (pa_cons (pv 3) (pa_cons (pe_bltn (v := V.ty "ValueError") (by rfl) T.m_ValueError bt_ValueError rfl) pa_nil))) pa_nil)))))))), ?_⟩
    walk_at "sy"
    refine q_isH T.ec_BadTree (.own _) T.ke_BadTree_BadBars (q_isH T.ec_BadTree (.own _) T.ke_BadTree_NoBar (q_isH T.ec_BadTree (.own _) T.ke_BadTree_BadPlace ?_))
    refine q_newLG fun r H2 nr s2 gr => ?_
    walk_at "sy"
    refine q_isH T.ec_BadTree (.own _) T.ke_BadTree_BadTree (q_isH T.ec_BadTree (.own _) T.ke_BadTree_BadLinks (q_isH T.ec_BadTree (.ty _) T.kv_BadTree ?_))
    refine q_newLG fun u H3 nu s3 gu => ?_
    have gr3 := s3 _ _ gr
    have S3 := (SS.trans s2).trans s3
    refine q_cat gr3 gu (by simp) fun p np => ?_
    exact k p _ (S3.free np) (S3.trans (same_new np)) upd_same
  rw [if_neg (by simpa using c_3)]
  · have c_4 : c = 4 := by omega
    subst c_4
    refine ⟨_, _, rfl, w', m, rfl, rfl, m0, m1, fun H1 s1 => q_caught T.em_BadLinks fun ae ne => ?_⟩
    have SS := s1
    rintro oe pn2 ⟨yi, ya⟩
    refine ⟨_, (pss_cons (ps_set (i := 4) sc__law_told.nd rfl (Or.inl rfl) (pe_lst (pa_cons (pe_callB yi (by rfl) T.m_isinstance bt_isinstance (pa_cons (pv 3) (pa_cons (pe_glob (v := V.ref CL.BadBars) (by rfl) T.c_BadBars rfl) pa_nil))) (pa_cons (pe_callB yi (by rfl) T.m_isinstance bt_isinstance (pa_cons (pv 3) (pa_cons (pe_glob (v := V.ref CL.NoBar) (by rfl) T.c_NoBar rfl) pa_nil))) (pa_cons (pe_callB yi (by rfl) T.m_isinstance bt_isinstance (pa_cons (pv 3) (pa_cons (pe_glob (v := V.ref CL.BadPlace) (by rfl) T.c_BadPlace rfl) pa_nil))) pa_nil)))))
      (pss_one (ps_ret (pe_op op_cat (pv 4) (pe_lst (pa_cons (pe_callB yi (by rfl) T.m_isinstance bt_isinstance (pa_cons (pv 3) (pa_cons (pe_glob (v := V.ref CL.BadTree) (by rfl) T.c_BadTree rfl) pa_nil))) (pa_cons (pe_callB yi (by rfl) T.m_isinstance bt_isinstance (pa_cons (pv 3) (pa_cons (pe_glob (v := V.ref CL.BadLinks) (by rfl) T.c_BadLinks rfl) pa_nil))) (pa_cons (pe_callB yi (by rfl) T.m_isinstance bt_isinstance (pa_cons (pv 3) (pa_cons (pe_bltn (v := V.ty "ValueError") (by rfl) T.m_ValueError bt_ValueError rfl) pa_nil))) pa_nil)))))))), ?_⟩
    walk_at "sy"
    refine q_isH T.ec_BadLinks (.own _) T.ke_BadLinks_BadBars (q_isH T.ec_BadLinks (.own _) T.ke_BadLinks_NoBar (q_isH T.ec_BadLinks (.own _) T.ke_BadLinks_BadPlace ?_))
    refine q_newLG fun r H2 nr s2 gr => ?_
    walk_at "sy"
    refine q_isH T.ec_BadLinks (.own _) T.ke_BadLinks_BadTree (q_isH T.ec_BadLinks (.own _) T.ke_BadLinks_BadLinks (q_isH T.ec_BadLinks (.ty _) T.kv_BadLinks ?_))
    refine q_newLG fun u H3 nu s3 gu => ?_
    have gr3 := s3 _ _ gr
    have S3 := (SS.trans s2).trans s3
    refine q_cat gr3 gu (by simp) fun p np => ?_
    exact k p _ (S3.free np) (S3.trans (same_new np)) upd_same
/-! lists of bools -/
theorem bd_lay : ∀ l : List Bool, PyData.canLayAll0 (l.map PyData.bool) = true
  | [] => rfl
  | p :: r => by simp [PyData.canLayAll0, PyData.canLay0, bd_lay r]
theorem bd_depth : ∀ l : List Bool, PyData.depthAll (l.map PyData.bool) ≤ 1
  | [] => by simp [PyData.depthAll]
  | p :: r => by
    have := bd_depth r
    simp only [List.map_cons, PyData.depthAll, PyData.depth]
    omega
theorem bd_shaped (l : List Bool) : SeqAt.shaped (.list (l.map PyData.bool)) = true := by
  have d := bd_depth l
  have d2 : PyData.depth (.list (l.map PyData.bool)) ≤ 64 := by
    simp only [PyData.depth]
    omega
  have d3 : PyData.canLay0 (.list (l.map PyData.bool)) = true := by
    simp only [PyData.canLay0]
    exact bd_lay l
  unfold SeqAt.shaped
  rw [d3, decide_eq_true d2]
  rfl
theorem eqv_bdA : ∀ l : List Bool, PyData.eqvAll (l.map PyData.bool) (l.map PyData.bool) = true
  | [] => by simp [PyData.eqvAll]
  | a :: r => by
    simp only [List.map_cons, PyData.eqvAll, PyData.eqv, eqv_bdA r]
    cases a <;> rfl
theorem dp_blA {K : PySem.W.Frag} {H : Hp} : ∀ l : List Bool, DpAll K H (l.map V.bl) (l.map PyData.bool)
  | [] => .nil
  | a :: r => .cons (.bl a) (dp_blA r)
/-- != of two lists of the same bools -/
theorem q_neB {K : PySem.W.Frag} {H : Hp} {a b : Addr} {l : List Bool} {Q : VK} (ha : SqL K H a (l.map V.bl)) (hb : SqL K H b (l.map V.bl)) (q : Q (.bl false) H) : rNeD K (.ref a) (.ref b) H Q :=
  ⟨_, _, .lst ha (dp_blA l), .lst hb (dp_blA l), bd_shaped l, bd_shaped l, by
    have e : PyData.eqv (.list (l.map PyData.bool)) (.list (l.map PyData.bool)) = true := by
      simp only [PyData.eqv]
      exact eqv_bdA l
    rw [e]
    exact q⟩
abbrev s_law : Stmt := top 43
abbrev N_law : List Str := ["_law_script", "_law_cell", "_law_kind", "_law_due"]
theorem sc_law : FnScope ["_law_script", "_law_cell", "_law_kind", "_law_due"] ["_law_script"] (defScope s_law) := ⟨rfl, rfl, rfl, by decide +kernel, rfl, by decide +kernel, by decide +kernel⟩
def sp_law (K : PySem.W.Frag) : Sp := Sp1 fun x H Q _ => ∃ (a : Addr) (ns : List Int), x = .ref a ∧ SqL K H a (ivs ns) ∧ ns.length ≤ 63 ∧ ∀ H', Q (.bl true) H'
theorem good_nil : Good [] := fun b hb => by simp at hb
theorem good_two : Good [0, 10000000] := fun b hb => by
  rcases List.mem_cons.mp hb with rfl | hb
  · exact ⟨by decide, by decide⟩
  rcases List.mem_cons.mp hb with rfl | hb
  · exact ⟨by decide, by decide⟩
  · cases hb
theorem tree_one : TreeOk [-1] := ⟨fun p hp => by
  have : p = 0 := by simpa using hp
  subst this
  exact ⟨0, by decide, by first | exact (by decide : g [-1] 0 < 0) | constructor⟩, by decide⟩
theorem lk_one : Lk [-1] := fun i hi => by
  have : i = 0 := by simpa using hi
  subst this
  exact ⟨by decide, by decide⟩
theorem no_cross {f s : Int} (h : Cross [-1] f s) : False := by
  obtain ⟨h1, h2, h3, _⟩ := h
  simp at h3
  omega
theorem ok_law {P : Program} {w : World} {K : PySem.W.Frag} {mg : Str → Option Value} {base : Heap} {CL : Cl} {f : Addr} {fd : FuncData} (F : Fun K "law" "law" s_law f fd) (T : Txt K mg CL) (h__law_told : Has P w K mg base CX0 6 "_law_told" ["_law_kind", "_law_which", "_law_more"] (sp__law_told K CL)) (h_reaches : Has P w K mg base (L2N.CX P w) 3 "reaches" ["bars"] (sp_reaches K CL)) (h_tree : Has P w K mg base (L2N.CX P w) 3 "tree" ["bars"] (sp_tree K CL)) (h_links : Has P w K mg base (L2N.CX P w) 3 "links" ["bars"] (sp_links K CL)) (h_levels : Has P w K mg base (L2N.CX P w) 3 "levels" ["bars"] (sp_levels K CL)) (h_water : Has P w K mg base (L2N.CX P w) 4 "water" ["bars"] (sp_water K CL)) (h_row_of : Has P w K mg base (L2N.CX P w) 3 "row_of" ["told"] (sp_row_of K CL)) (h_bars_of : Has P w K mg base (L2N.CX P w) 2 "bars_of" ["parents"] (sp_bars_of K CL)) : FnOk P w K mg base CX0 7 f fd ["_law_script"] (sp_law K) := by
  obtain ⟨f__law_told, fd__law_told, g__law_told, G__law_told, k__law_told, b__law_told⟩ := h__law_told
  obtain ⟨f_reaches, fd_reaches, g_reaches, G_reaches, k_reaches, b_reaches⟩ := h_reaches
  obtain ⟨f_tree, fd_tree, g_tree, G_tree, k_tree, b_tree⟩ := h_tree
  obtain ⟨f_links, fd_links, g_links, G_links, k_links, b_links⟩ := h_links
  obtain ⟨f_levels, fd_levels, g_levels, G_levels, k_levels, b_levels⟩ := h_levels
  obtain ⟨f_water, fd_water, g_water, G_water, k_water, b_water⟩ := h_water
  obtain ⟨f_row_of, fd_row_of, g_row_of, G_row_of, k_row_of, b_row_of⟩ := h_row_of
  obtain ⟨f_bars_of, fd_bars_of, g_bars_of, G_bars_of, k_bars_of, b_bars_of⟩ := h_bars_of
  refine F.ok sc_law (fun vs H Q E h => ?_) (fun cdv A outer s H vs Q E hr h => ?_)
  · obtain ⟨x1, rfl, _⟩ := h
    rfl
  have hr__law_told : Room 6 (A.deeper (envOfC "law" (defScope s_law) s.heap.objs.size f cdv)) := hr.mono (by decide)
  have hr_reaches : Room 3 (A.deeper (envOfC "law" (defScope s_law) s.heap.objs.size f cdv)) := hr.mono (by decide)
  have hr_tree : Room 3 (A.deeper (envOfC "law" (defScope s_law) s.heap.objs.size f cdv)) := hr.mono (by decide)
  have hr_links : Room 3 (A.deeper (envOfC "law" (defScope s_law) s.heap.objs.size f cdv)) := hr.mono (by decide)
  have hr_levels : Room 3 (A.deeper (envOfC "law" (defScope s_law) s.heap.objs.size f cdv)) := hr.mono (by decide)
  have hr_water : Room 4 (A.deeper (envOfC "law" (defScope s_law) s.heap.objs.size f cdv)) := hr.mono (by decide)
  have hr_row_of : Room 3 (A.deeper (envOfC "law" (defScope s_law) s.heap.objs.size f cdv)) := hr.mono (by decide)
  have hr_bars_of : Room 2 (A.deeper (envOfC "law" (defScope s_law) s.heap.objs.size f cdv)) := hr.mono (by decide)
  obtain ⟨x1, rfl, h⟩ := h
  refine ⟨_, (pss_cons (ps_for PassesOwn.never rfl (pi_list (pv 0)) (pg_name (i := 1) sc_law.nd rfl (Or.inl rfl)) (pss_cons (ps_set (i := 2) sc_law.nd rfl (Or.inl rfl) (pe_op op_mod (pv 1) pe_int))
      (pss_cons (ps_set (i := 3) sc_law.nd rfl (Or.inl rfl) (pe_lst (pa_cons (pe_cmpR op_eq (pv 2) pe_int (nomark _)) (pa_cons (pe_cmpR op_eq (pv 2) pe_int (nomark _)) (pa_cons (pe_cmpR op_eq (pv 2) pe_int (nomark _)) (pa_cons (pe_cmpR op_eq (pv 2) pe_int (nomark _)) (pa_cons (pe_cmpR op_eq (pv 2) pe_int (nomark _)) (pa_cons pe_bl pa_nil))))))))
      (pss_one (ps_if (pt_cmpR (neDK (K := K) hr.units) (pe_call G__law_told hr__law_told (by rfl) g__law_told k__law_told b__law_told .nil pass0 (pa_cons (pv 2) (pa_cons (pe_op op_mod (pe_op op_fdiv (pv 1) pe_int) pe_int) (pa_cons (pe_op op_mod (pe_op op_fdiv (pv 1) pe_int) pe_int) pa_nil)))) (pv 3) (nomark _)) (pss_one (ps_ret pe_bl)) pss_nil)))))
      (pss_cons (ps_if (PW.pt (pw_or (pt_cmpR (neDK (K := K) hr.units) (pe_call G_reaches hr_reaches (by rfl) g_reaches k_reaches b_reaches .nil passF (pa_cons (pe_lst pa_nil) pa_nil)) (pe_lst pa_nil) (nomark _)) (pw_or (pt_cmpR (neDK (K := K) hr.units) (pe_call G_tree hr_tree (by rfl) g_tree k_tree b_tree .nil passF (pa_cons (pe_lst pa_nil) pa_nil)) (pe_lst pa_nil) (nomark _)) (pw_or (pt_cmpR (neDK (K := K) hr.units) (pe_call G_links hr_links (by rfl) g_links k_links b_links .nil passF (pa_cons (pe_lst pa_nil) pa_nil)) (pe_lst pa_nil) (nomark _)) (pw_or (pt_cmpR (neDK (K := K) hr.units) (pe_call G_levels hr_levels (by rfl) g_levels k_levels b_levels .nil passF (pa_cons (pe_lst pa_nil) pa_nil)) (pe_lst pa_nil) (nomark _)) (pw_or1 (pt_cmpR op_ne (pe_call G_water hr_water (by rfl) g_water k_water b_water .nil passF (pa_cons (pe_lst pa_nil) pa_nil)) pe_int (nomark _)))))))) (pss_one (ps_ret pe_bl)) pss_nil)
      (pss_one (ps_ret (pe_and (pe_cmpR (eqDK (K := K) hr.units) (pe_call G_reaches hr_reaches (by rfl) g_reaches k_reaches b_reaches .nil passF (pa_cons (pe_lst (pa_cons pe_int (pa_cons pe_int pa_nil))) pa_nil)) (pe_lst (pa_cons (pe_tup (pa_cons pe_int (pa_cons pe_int pa_nil))) (pa_cons (pe_tup (pa_cons pe_int (pa_cons pe_int pa_nil))) pa_nil))) (nomark _)) (pe_and (pe_callB (isiK (K := K)) (by rfl) T.m_isinstance bt_isinstance (pa_cons (pe_call G_row_of hr_row_of (by rfl) g_row_of k_row_of b_row_of .nil passF (pa_cons (pe_lst (pa_cons (pe_un un_neg pe_int) pa_nil)) pa_nil)) (pa_cons (pe_glob (v := V.ref CL.Row) (by rfl) T.c_Row rfl) pa_nil))) (pe_one (pe_cmpR (eqDK (K := K) hr.units) (pe_call G_bars_of hr_bars_of (by rfl) g_bars_of k_bars_of b_bars_of .nil passF (pa_cons (pe_lst (pa_cons (pe_un un_neg pe_int) pa_nil)) pa_nil)) (pe_lst (pa_cons pe_int pa_nil)) (nomark _))))))))), start_is (σ := [some x1, none, none, none]) rfl ?_⟩
  obtain ⟨a, ns, rfl, hS, hlen, k⟩ := h
  walk_at "sy"
  refine q_forL (a := a) (xs := ivs ns) (fun R r => ⟨_, rfl, r⟩) (fun i σ H' => ∃ v1 v2 v3, σ = [some (.ref a), v1, v2, v3] ∧ Same H H')
    ⟨none, none, none, rfl, Same.refl _⟩ (fun i σ H' ⟨_, _, _, _, s⟩ => s.seq hS) ?_ ?_
  · rintro i x σ H1 hx ⟨v1, v2, v3, rfl, s1⟩
    obtain ⟨hi, rfl⟩ := of_ivs hx
    generalize g ns i = c
    walk_at "sy"
    refine ⟨by decide, ?_⟩
    refine q_newLG fun d H2 nd s2 gd => ?_
    refine ⟨⟨by decide, by decide⟩, by decide, ⟨by decide, by decide⟩, by decide, ?_⟩
    have z1 := Int.emod_nonneg c (show (5 : Int) ≠ 0 by decide)
    have z2 := Int.emod_lt_of_pos c (show (0 : Int) < 5 by decide)
    have z3 := Int.emod_nonneg (c / 500000) (show (1000 : Int) ≠ 0 by decide)
    have z4 := Int.emod_lt_of_pos (c / 500000) (show (0 : Int) < 1000 by decide)
    refine ⟨_, _, _, rfl, c % 5, c / 5 % 100000, c / 500000 % 1000, rfl, rfl, rfl, z1, z2, z3, z4, fun p H3 np s3 hp => ?_⟩
    refine q_neB (l := due (c % 5)) (SqL.of hp) (SqL.of (s3 _ _ gd)) ?_
    walk_at "sy"
    try rw [if_neg (by simp)]
    exact ⟨_, _, _, rfl, (s1.trans s2).trans s3⟩
  rintro σ H1 ⟨v1, v2, v3, rfl, s1⟩
  walk_at "sy"
  refine q_newLG fun a1 H2 n1 t1 g1 => ?_
  refine ⟨_, rfl, .inl ⟨a1, [], rfl, SqL.of g1, good_nil, by simp, fun p H3 vs np t2 hp hv => ?_⟩⟩
  refine q_newLG fun a2 H4 n2 t3 g2 => ?_
  refine q_neP (SqL.of (t3 _ _ hp)) (hv.mono (same_tk t3)) (SqL.of g2) (m := []) .nil ?_
  rw [show (!decide (reachL [] = [])) = false from rfl]
  walk_at "sy"
  try rw [if_neg (by simp)]
  refine q_newLG fun a1 H2 n1 t1 g1 => ?_
  refine ⟨_, rfl, .inl ⟨a1, [], rfl, SqL.of g1, good_nil, by simp, fun p H3 np t2 hp => ?_⟩⟩
  refine q_neN (SqL.of hp) fun H4 t3 => ?_
  rw [show (!decide (parL [] = [])) = false from rfl]
  walk_at "sy"
  try rw [if_neg (by simp)]
  refine q_newLG fun a1 H2 n1 t1 g1 => ?_
  refine ⟨_, rfl, .inl ⟨a1, [], rfl, SqL.of g1, good_nil, by simp, fun p H3 np t2 hp => ?_⟩⟩
  refine q_neN (SqL.of hp) fun H4 t3 => ?_
  rw [show (!decide (links [] = [])) = false from rfl]
  walk_at "sy"
  try rw [if_neg (by simp)]
  refine q_newLG fun a1 H2 n1 t1 g1 => ?_
  refine ⟨_, rfl, .inl ⟨a1, [], rfl, SqL.of g1, good_nil, by simp, fun p H3 np t2 hp => ?_⟩⟩
  refine q_neN (SqL.of hp) fun H4 t3 => ?_
  rw [show (!decide (lvls [] = [])) = false from rfl]
  walk_at "sy"
  try rw [if_neg (by simp)]
  refine q_newLG fun a1 H2 n1 t1 g1 => ?_
  refine ⟨_, rfl, .inl ⟨a1, [], rfl, SqL.of g1, good_nil, by simp, fun H3 t2 => ?_⟩⟩
  rw [show (lvls []).sum - ([] : List Int).sum = 0 from rfl]
  walk_at "sy"
  try rw [if_neg (by simp)]
  refine q_newLG fun a1 H2 n1 t1 g1 => ?_
  refine ⟨_, rfl, .inl ⟨a1, [0, 10000000], rfl, SqL.of g1, good_two, by simp, fun p H3 vs np t2 hp hv => ?_⟩⟩
  refine q_newTG fun b1 H4 m1 t3 e1 => ?_
  refine q_newTG fun b2 H5 m2 t4 e2 => ?_
  refine q_newLG fun b3 H6 m3 t5 e3 => ?_
  have t35 := (t3.trans t4).trans t5
  refine q_eqP (SqL.of (t35 _ _ hp)) (hv.mono (same_tk t35)) (SqL.of e3) (m := [(0, 1), (1, 1)]) (.cons ⟨b1, rfl, t5 _ _ (t4 _ _ e1)⟩ (.cons ⟨b2, rfl, t5 _ _ e2⟩ .nil)) ?_
  rw [show decide (reachL [0, 10000000] = [(0, 1), (1, 1)]) = true by decide +kernel]
  walk_at "sy"
  try rw [if_pos rfl]
  refine q_newLG fun c1 H7 o1 t6 j1 => ?_
  refine ⟨_, rfl, .inr ⟨c1, [-1], rfl, SqL.of j1, lk_one, by simp, fun p l H8 bs np nl ne t7 hR hl hlk good hle => ?_, fun p f s H8 np t7 hC cr => (no_cross cr).elim⟩⟩
  · obtain ⟨dx, e⟩ := id hR
    refine q_isiO (tyx_ins e T.ic_Row) T.ic_Row.me ?_
    walk_at "sy"
    try rw [if_pos rfl]
    refine q_newLG fun d1 H9 q1 t8 j2 => ?_
    refine ⟨_, rfl, .inr ⟨d1, [-1], rfl, SqL.of j2, pr_1 (by decide), by simp, fun _ p H10 np t9 hp => ?_, fun z => absurd tree_one z⟩⟩
    refine q_newLG fun d2 H11 q2 t10 j3 => ?_
    refine q_eqL (SqL.of (t10 _ _ hp)) (SqL.of j3) (m := [0]) ?_
    rw [show decide (dptL [-1] = [0]) = true by decide +kernel]
    exact k _
end Sky

/-! E: the end. -/
namespace Sky
open PySem PySem.Spec PyProof.Rows L2
theorem def_is_number {K : PySem.W.Frag} {h : Heap} {mg : Str → Option Value} {f : Addr} {od an : Option Addr} {sl : Array (Option Value)} {oc kV dc pm cd ct : Value} (X : K.In h) (G : h.Ns mainGlobals mg) (a : PySem.W.nsIn K mainGlobals "is_number" = some (some (.ref f)))
    (lk : K.lookup f = some ⟨oc, od, .func (PySem.W.fnOf "is_number" "is_number" (defArgs s_is_number) (defBody s_is_number) (defScope s_is_number) .none kV dc pm an cd ct), sl⟩) (c : PySem.W.codeIn K cd "is_number" = true) (kp : PySem.W.keepIn K (.ref f) = true) :
    Def K mg "is_number" ["thing", "least", "most"] s_is_number := ⟨f, _, PySem.W.mg_of X G a, fun_mk (st := s_is_number) lk c kp, (fun_mk (st := s_is_number) lk c kp).binds (ps := ["thing", "least", "most"]) fun _ _ _ _ _ _ us hl => match us, hl with | [_, _, _], _ => rfl⟩
theorem def_asked_bars {K : PySem.W.Frag} {h : Heap} {mg : Str → Option Value} {f : Addr} {od an : Option Addr} {sl : Array (Option Value)} {oc kV dc pm cd ct : Value} (X : K.In h) (G : h.Ns mainGlobals mg) (a : PySem.W.nsIn K mainGlobals "asked_bars" = some (some (.ref f)))
    (lk : K.lookup f = some ⟨oc, od, .func (PySem.W.fnOf "asked_bars" "asked_bars" (defArgs s_asked_bars) (defBody s_asked_bars) (defScope s_asked_bars) .none kV dc pm an cd ct), sl⟩) (c : PySem.W.codeIn K cd "asked_bars" = true) (kp : PySem.W.keepIn K (.ref f) = true) :
    Def K mg "asked_bars" ["bars"] s_asked_bars := ⟨f, _, PySem.W.mg_of X G a, fun_mk (st := s_asked_bars) lk c kp, (fun_mk (st := s_asked_bars) lk c kp).binds (ps := ["bars"]) fun _ _ _ _ _ _ us hl => match us, hl with | [_], _ => rfl⟩
theorem def_sees {K : PySem.W.Frag} {h : Heap} {mg : Str → Option Value} {f : Addr} {od an : Option Addr} {sl : Array (Option Value)} {oc kV dc pm cd ct : Value} (X : K.In h) (G : h.Ns mainGlobals mg) (a : PySem.W.nsIn K mainGlobals "sees" = some (some (.ref f)))
    (lk : K.lookup f = some ⟨oc, od, .func (PySem.W.fnOf "sees" "sees" (defArgs s_sees) (defBody s_sees) (defScope s_sees) .none kV dc pm an cd ct), sl⟩) (c : PySem.W.codeIn K cd "sees" = true) (kp : PySem.W.keepIn K (.ref f) = true) :
    Def K mg "sees" ["bars", "one", "other"] s_sees := ⟨f, _, PySem.W.mg_of X G a, fun_mk (st := s_sees) lk c kp, (fun_mk (st := s_sees) lk c kp).binds (ps := ["bars", "one", "other"]) fun _ _ _ _ _ _ us hl => match us, hl with | [_, _, _], _ => rfl⟩
theorem def_ahead_of {K : PySem.W.Frag} {h : Heap} {mg : Str → Option Value} {f : Addr} {od an : Option Addr} {sl : Array (Option Value)} {oc kV dc pm cd ct : Value} (X : K.In h) (G : h.Ns mainGlobals mg) (a : PySem.W.nsIn K mainGlobals "ahead_of" = some (some (.ref f)))
    (lk : K.lookup f = some ⟨oc, od, .func (PySem.W.fnOf "ahead_of" "ahead_of" (defArgs s_ahead_of) (defBody s_ahead_of) (defScope s_ahead_of) .none kV dc pm an cd ct), sl⟩) (c : PySem.W.codeIn K cd "ahead_of" = true) (kp : PySem.W.keepIn K (.ref f) = true) :
    Def K mg "ahead_of" ["bars"] s_ahead_of := ⟨f, _, PySem.W.mg_of X G a, fun_mk (st := s_ahead_of) lk c kp, (fun_mk (st := s_ahead_of) lk c kp).binds (ps := ["bars"]) fun _ _ _ _ _ _ us hl => match us, hl with | [_], _ => rfl⟩
theorem def_behind_of {K : PySem.W.Frag} {h : Heap} {mg : Str → Option Value} {f : Addr} {od an : Option Addr} {sl : Array (Option Value)} {oc kV dc pm cd ct : Value} (X : K.In h) (G : h.Ns mainGlobals mg) (a : PySem.W.nsIn K mainGlobals "behind_of" = some (some (.ref f)))
    (lk : K.lookup f = some ⟨oc, od, .func (PySem.W.fnOf "behind_of" "behind_of" (defArgs s_behind_of) (defBody s_behind_of) (defScope s_behind_of) .none kV dc pm an cd ct), sl⟩) (c : PySem.W.codeIn K cd "behind_of" = true) (kp : PySem.W.keepIn K (.ref f) = true) :
    Def K mg "behind_of" ["bars"] s_behind_of := ⟨f, _, PySem.W.mg_of X G a, fun_mk (st := s_behind_of) lk c kp, (fun_mk (st := s_behind_of) lk c kp).binds (ps := ["bars"]) fun _ _ _ _ _ _ us hl => match us, hl with | [_], _ => rfl⟩
theorem def_reaches {K : PySem.W.Frag} {h : Heap} {mg : Str → Option Value} {f : Addr} {od an : Option Addr} {sl : Array (Option Value)} {oc kV dc pm cd ct : Value} (X : K.In h) (G : h.Ns mainGlobals mg) (a : PySem.W.nsIn K mainGlobals "reaches" = some (some (.ref f)))
    (lk : K.lookup f = some ⟨oc, od, .func (PySem.W.fnOf "reaches" "reaches" (defArgs s_reaches) (defBody s_reaches) (defScope s_reaches) .none kV dc pm an cd ct), sl⟩) (c : PySem.W.codeIn K cd "reaches" = true) (kp : PySem.W.keepIn K (.ref f) = true) :
    Def K mg "reaches" ["bars"] s_reaches := ⟨f, _, PySem.W.mg_of X G a, fun_mk (st := s_reaches) lk c kp, (fun_mk (st := s_reaches) lk c kp).binds (ps := ["bars"]) fun _ _ _ _ _ _ us hl => match us, hl with | [_], _ => rfl⟩
theorem def_seen_ahead {K : PySem.W.Frag} {h : Heap} {mg : Str → Option Value} {f : Addr} {od an : Option Addr} {sl : Array (Option Value)} {oc kV dc pm cd ct : Value} (X : K.In h) (G : h.Ns mainGlobals mg) (a : PySem.W.nsIn K mainGlobals "seen_ahead" = some (some (.ref f)))
    (lk : K.lookup f = some ⟨oc, od, .func (PySem.W.fnOf "seen_ahead" "seen_ahead" (defArgs s_seen_ahead) (defBody s_seen_ahead) (defScope s_seen_ahead) .none kV dc pm an cd ct), sl⟩) (c : PySem.W.codeIn K cd "seen_ahead" = true) (kp : PySem.W.keepIn K (.ref f) = true) :
    Def K mg "seen_ahead" ["bars"] s_seen_ahead := ⟨f, _, PySem.W.mg_of X G a, fun_mk (st := s_seen_ahead) lk c kp, (fun_mk (st := s_seen_ahead) lk c kp).binds (ps := ["bars"]) fun _ _ _ _ _ _ us hl => match us, hl with | [_], _ => rfl⟩
theorem def_shown {K : PySem.W.Frag} {h : Heap} {mg : Str → Option Value} {f : Addr} {od an : Option Addr} {sl : Array (Option Value)} {oc kV dc pm cd ct : Value} (X : K.In h) (G : h.Ns mainGlobals mg) (a : PySem.W.nsIn K mainGlobals "shown" = some (some (.ref f)))
    (lk : K.lookup f = some ⟨oc, od, .func (PySem.W.fnOf "shown" "shown" (defArgs s_shown) (defBody s_shown) (defScope s_shown) .none kV dc pm an cd ct), sl⟩) (c : PySem.W.codeIn K cd "shown" = true) (kp : PySem.W.keepIn K (.ref f) = true) :
    Def K mg "shown" ["bars"] s_shown := ⟨f, _, PySem.W.mg_of X G a, fun_mk (st := s_shown) lk c kp, (fun_mk (st := s_shown) lk c kp).binds (ps := ["bars"]) fun _ _ _ _ _ _ us hl => match us, hl with | [_], _ => rfl⟩
theorem def_board {K : PySem.W.Frag} {h : Heap} {mg : Str → Option Value} {f : Addr} {od an : Option Addr} {sl : Array (Option Value)} {oc kV dc pm cd ct : Value} (X : K.In h) (G : h.Ns mainGlobals mg) (a : PySem.W.nsIn K mainGlobals "board" = some (some (.ref f)))
    (lk : K.lookup f = some ⟨oc, od, .func (PySem.W.fnOf "board" "board" (defArgs s_board) (defBody s_board) (defScope s_board) .none kV dc pm an cd ct), sl⟩) (c : PySem.W.codeIn K cd "board" = true) (kp : PySem.W.keepIn K (.ref f) = true) :
    Def K mg "board" ["bars"] s_board := ⟨f, _, PySem.W.mg_of X G a, fun_mk (st := s_board) lk c kp, (fun_mk (st := s_board) lk c kp).binds (ps := ["bars"]) fun _ _ _ _ _ _ us hl => match us, hl with | [_], _ => rfl⟩
theorem def_highest_so_far {K : PySem.W.Frag} {h : Heap} {mg : Str → Option Value} {f : Addr} {od an : Option Addr} {sl : Array (Option Value)} {oc kV dc pm cd ct : Value} (X : K.In h) (G : h.Ns mainGlobals mg) (a : PySem.W.nsIn K mainGlobals "highest_so_far" = some (some (.ref f)))
    (lk : K.lookup f = some ⟨oc, od, .func (PySem.W.fnOf "highest_so_far" "highest_so_far" (defArgs s_highest_so_far) (defBody s_highest_so_far) (defScope s_highest_so_far) .none kV dc pm an cd ct), sl⟩) (c : PySem.W.codeIn K cd "highest_so_far" = true) (kp : PySem.W.keepIn K (.ref f) = true) :
    Def K mg "highest_so_far" ["bars"] s_highest_so_far := ⟨f, _, PySem.W.mg_of X G a, fun_mk (st := s_highest_so_far) lk c kp, (fun_mk (st := s_highest_so_far) lk c kp).binds (ps := ["bars"]) fun _ _ _ _ _ _ us hl => match us, hl with | [_], _ => rfl⟩
theorem def_levels {K : PySem.W.Frag} {h : Heap} {mg : Str → Option Value} {f : Addr} {od an : Option Addr} {sl : Array (Option Value)} {oc kV dc pm cd ct : Value} (X : K.In h) (G : h.Ns mainGlobals mg) (a : PySem.W.nsIn K mainGlobals "levels" = some (some (.ref f)))
    (lk : K.lookup f = some ⟨oc, od, .func (PySem.W.fnOf "levels" "levels" (defArgs s_levels) (defBody s_levels) (defScope s_levels) .none kV dc pm an cd ct), sl⟩) (c : PySem.W.codeIn K cd "levels" = true) (kp : PySem.W.keepIn K (.ref f) = true) :
    Def K mg "levels" ["bars"] s_levels := ⟨f, _, PySem.W.mg_of X G a, fun_mk (st := s_levels) lk c kp, (fun_mk (st := s_levels) lk c kp).binds (ps := ["bars"]) fun _ _ _ _ _ _ us hl => match us, hl with | [_], _ => rfl⟩
theorem def_water {K : PySem.W.Frag} {h : Heap} {mg : Str → Option Value} {f : Addr} {od an : Option Addr} {sl : Array (Option Value)} {oc kV dc pm cd ct : Value} (X : K.In h) (G : h.Ns mainGlobals mg) (a : PySem.W.nsIn K mainGlobals "water" = some (some (.ref f)))
    (lk : K.lookup f = some ⟨oc, od, .func (PySem.W.fnOf "water" "water" (defArgs s_water) (defBody s_water) (defScope s_water) .none kV dc pm an cd ct), sl⟩) (c : PySem.W.codeIn K cd "water" = true) (kp : PySem.W.keepIn K (.ref f) = true) :
    Def K mg "water" ["bars"] s_water := ⟨f, _, PySem.W.mg_of X G a, fun_mk (st := s_water) lk c kp, (fun_mk (st := s_water) lk c kp).binds (ps := ["bars"]) fun _ _ _ _ _ _ us hl => match us, hl with | [_], _ => rfl⟩
theorem def_rims {K : PySem.W.Frag} {h : Heap} {mg : Str → Option Value} {f : Addr} {od an : Option Addr} {sl : Array (Option Value)} {oc kV dc pm cd ct : Value} (X : K.In h) (G : h.Ns mainGlobals mg) (a : PySem.W.nsIn K mainGlobals "rims" = some (some (.ref f)))
    (lk : K.lookup f = some ⟨oc, od, .func (PySem.W.fnOf "rims" "rims" (defArgs s_rims) (defBody s_rims) (defScope s_rims) .none kV dc pm an cd ct), sl⟩) (c : PySem.W.codeIn K cd "rims" = true) (kp : PySem.W.keepIn K (.ref f) = true) :
    Def K mg "rims" ["bars"] s_rims := ⟨f, _, PySem.W.mg_of X G a, fun_mk (st := s_rims) lk c kp, (fun_mk (st := s_rims) lk c kp).binds (ps := ["bars"]) fun _ _ _ _ _ _ us hl => match us, hl with | [_], _ => rfl⟩
theorem def_links {K : PySem.W.Frag} {h : Heap} {mg : Str → Option Value} {f : Addr} {od an : Option Addr} {sl : Array (Option Value)} {oc kV dc pm cd ct : Value} (X : K.In h) (G : h.Ns mainGlobals mg) (a : PySem.W.nsIn K mainGlobals "links" = some (some (.ref f)))
    (lk : K.lookup f = some ⟨oc, od, .func (PySem.W.fnOf "links" "links" (defArgs s_links) (defBody s_links) (defScope s_links) .none kV dc pm an cd ct), sl⟩) (c : PySem.W.codeIn K cd "links" = true) (kp : PySem.W.keepIn K (.ref f) = true) :
    Def K mg "links" ["bars"] s_links := ⟨f, _, PySem.W.mg_of X G a, fun_mk (st := s_links) lk c kp, (fun_mk (st := s_links) lk c kp).binds (ps := ["bars"]) fun _ _ _ _ _ _ us hl => match us, hl with | [_], _ => rfl⟩
theorem def_parents_of {K : PySem.W.Frag} {h : Heap} {mg : Str → Option Value} {f : Addr} {od an : Option Addr} {sl : Array (Option Value)} {oc kV dc pm cd ct : Value} (X : K.In h) (G : h.Ns mainGlobals mg) (a : PySem.W.nsIn K mainGlobals "parents_of" = some (some (.ref f)))
    (lk : K.lookup f = some ⟨oc, od, .func (PySem.W.fnOf "parents_of" "parents_of" (defArgs s_parents_of) (defBody s_parents_of) (defScope s_parents_of) .none kV dc pm an cd ct), sl⟩) (c : PySem.W.codeIn K cd "parents_of" = true) (kp : PySem.W.keepIn K (.ref f) = true) :
    Def K mg "parents_of" ["bars"] s_parents_of := ⟨f, _, PySem.W.mg_of X G a, fun_mk (st := s_parents_of) lk c kp, (fun_mk (st := s_parents_of) lk c kp).binds (ps := ["bars"]) fun _ _ _ _ _ _ us hl => match us, hl with | [_], _ => rfl⟩
theorem def_tree {K : PySem.W.Frag} {h : Heap} {mg : Str → Option Value} {f : Addr} {od an : Option Addr} {sl : Array (Option Value)} {oc kV dc pm cd ct : Value} (X : K.In h) (G : h.Ns mainGlobals mg) (a : PySem.W.nsIn K mainGlobals "tree" = some (some (.ref f)))
    (lk : K.lookup f = some ⟨oc, od, .func (PySem.W.fnOf "tree" "tree" (defArgs s_tree) (defBody s_tree) (defScope s_tree) .none kV dc pm an cd ct), sl⟩) (c : PySem.W.codeIn K cd "tree" = true) (kp : PySem.W.keepIn K (.ref f) = true) :
    Def K mg "tree" ["bars"] s_tree := ⟨f, _, PySem.W.mg_of X G a, fun_mk (st := s_tree) lk c kp, (fun_mk (st := s_tree) lk c kp).binds (ps := ["bars"]) fun _ _ _ _ _ _ us hl => match us, hl with | [_], _ => rfl⟩
theorem def__law_bars_asked {K : PySem.W.Frag} {h : Heap} {mg : Str → Option Value} {f : Addr} {od an : Option Addr} {sl : Array (Option Value)} {oc kV dc pm cd ct : Value} (X : K.In h) (G : h.Ns mainGlobals mg) (a : PySem.W.nsIn K mainGlobals "_law_bars_asked" = some (some (.ref f)))
    (lk : K.lookup f = some ⟨oc, od, .func (PySem.W.fnOf "_law_bars_asked" "_law_bars_asked" (defArgs s__law_bars_asked) (defBody s__law_bars_asked) (defScope s__law_bars_asked) .none kV dc pm an cd ct), sl⟩) (c : PySem.W.codeIn K cd "_law_bars_asked" = true) (kp : PySem.W.keepIn K (.ref f) = true) :
    Def K mg "_law_bars_asked" ["_law_which", "_law_more"] s__law_bars_asked := ⟨f, _, PySem.W.mg_of X G a, fun_mk (st := s__law_bars_asked) lk c kp, (fun_mk (st := s__law_bars_asked) lk c kp).binds (ps := ["_law_which", "_law_more"]) fun _ _ _ _ _ _ us hl => match us, hl with | [_, _], _ => rfl⟩
theorem def__law_places_asked {K : PySem.W.Frag} {h : Heap} {mg : Str → Option Value} {f : Addr} {od an : Option Addr} {sl : Array (Option Value)} {oc kV dc pm cd ct : Value} (X : K.In h) (G : h.Ns mainGlobals mg) (a : PySem.W.nsIn K mainGlobals "_law_places_asked" = some (some (.ref f)))
    (lk : K.lookup f = some ⟨oc, od, .func (PySem.W.fnOf "_law_places_asked" "_law_places_asked" (defArgs s__law_places_asked) (defBody s__law_places_asked) (defScope s__law_places_asked) .none kV dc pm an cd ct), sl⟩) (c : PySem.W.codeIn K cd "_law_places_asked" = true) (kp : PySem.W.keepIn K (.ref f) = true) :
    Def K mg "_law_places_asked" ["_law_which", "_law_more"] s__law_places_asked := ⟨f, _, PySem.W.mg_of X G a, fun_mk (st := s__law_places_asked) lk c kp, (fun_mk (st := s__law_places_asked) lk c kp).binds (ps := ["_law_which", "_law_more"]) fun _ _ _ _ _ _ us hl => match us, hl with | [_, _], _ => rfl⟩
theorem def_depths {K : PySem.W.Frag} {h : Heap} {mg : Str → Option Value} {f : Addr} {od an : Option Addr} {sl : Array (Option Value)} {oc kV dc pm cd ct : Value} (X : K.In h) (G : h.Ns mainGlobals mg) (a : PySem.W.nsIn K mainGlobals "depths" = some (some (.ref f)))
    (lk : K.lookup f = some ⟨oc, od, .func (PySem.W.fnOf "depths" "depths" (defArgs s_depths) (defBody s_depths) (defScope s_depths) .none kV dc pm an cd ct), sl⟩) (c : PySem.W.codeIn K cd "depths" = true) (kp : PySem.W.keepIn K (.ref f) = true) :
    Def K mg "depths" ["parents"] s_depths := ⟨f, _, PySem.W.mg_of X G a, fun_mk (st := s_depths) lk c kp, (fun_mk (st := s_depths) lk c kp).binds (ps := ["parents"]) fun _ _ _ _ _ _ us hl => match us, hl with | [_], _ => rfl⟩
theorem def_bars_of {K : PySem.W.Frag} {h : Heap} {mg : Str → Option Value} {f : Addr} {od an : Option Addr} {sl : Array (Option Value)} {oc kV dc pm cd ct : Value} (X : K.In h) (G : h.Ns mainGlobals mg) (a : PySem.W.nsIn K mainGlobals "bars_of" = some (some (.ref f)))
    (lk : K.lookup f = some ⟨oc, od, .func (PySem.W.fnOf "bars_of" "bars_of" (defArgs s_bars_of) (defBody s_bars_of) (defScope s_bars_of) .none kV dc pm an cd ct), sl⟩) (c : PySem.W.codeIn K cd "bars_of" = true) (kp : PySem.W.keepIn K (.ref f) = true) :
    Def K mg "bars_of" ["parents"] s_bars_of := ⟨f, _, PySem.W.mg_of X G a, fun_mk (st := s_bars_of) lk c kp, (fun_mk (st := s_bars_of) lk c kp).binds (ps := ["parents"]) fun _ _ _ _ _ _ us hl => match us, hl with | [_], _ => rfl⟩
theorem def__law_trees_asked {K : PySem.W.Frag} {h : Heap} {mg : Str → Option Value} {f : Addr} {od an : Option Addr} {sl : Array (Option Value)} {oc kV dc pm cd ct : Value} (X : K.In h) (G : h.Ns mainGlobals mg) (a : PySem.W.nsIn K mainGlobals "_law_trees_asked" = some (some (.ref f)))
    (lk : K.lookup f = some ⟨oc, od, .func (PySem.W.fnOf "_law_trees_asked" "_law_trees_asked" (defArgs s__law_trees_asked) (defBody s__law_trees_asked) (defScope s__law_trees_asked) .none kV dc pm an cd ct), sl⟩) (c : PySem.W.codeIn K cd "_law_trees_asked" = true) (kp : PySem.W.keepIn K (.ref f) = true) :
    Def K mg "_law_trees_asked" ["_law_which", "_law_more"] s__law_trees_asked := ⟨f, _, PySem.W.mg_of X G a, fun_mk (st := s__law_trees_asked) lk c kp, (fun_mk (st := s__law_trees_asked) lk c kp).binds (ps := ["_law_which", "_law_more"]) fun _ _ _ _ _ _ us hl => match us, hl with | [_, _], _ => rfl⟩
theorem def_row_of {K : PySem.W.Frag} {h : Heap} {mg : Str → Option Value} {f : Addr} {od an : Option Addr} {sl : Array (Option Value)} {oc kV dc pm cd ct : Value} (X : K.In h) (G : h.Ns mainGlobals mg) (a : PySem.W.nsIn K mainGlobals "row_of" = some (some (.ref f)))
    (lk : K.lookup f = some ⟨oc, od, .func (PySem.W.fnOf "row_of" "row_of" (defArgs s_row_of) (defBody s_row_of) (defScope s_row_of) .none kV dc pm an cd ct), sl⟩) (c : PySem.W.codeIn K cd "row_of" = true) (kp : PySem.W.keepIn K (.ref f) = true) :
    Def K mg "row_of" ["told"] s_row_of := ⟨f, _, PySem.W.mg_of X G a, fun_mk (st := s_row_of) lk c kp, (fun_mk (st := s_row_of) lk c kp).binds (ps := ["told"]) fun _ _ _ _ _ _ us hl => match us, hl with | [_], _ => rfl⟩
theorem def__law_links_asked {K : PySem.W.Frag} {h : Heap} {mg : Str → Option Value} {f : Addr} {od an : Option Addr} {sl : Array (Option Value)} {oc kV dc pm cd ct : Value} (X : K.In h) (G : h.Ns mainGlobals mg) (a : PySem.W.nsIn K mainGlobals "_law_links_asked" = some (some (.ref f)))
    (lk : K.lookup f = some ⟨oc, od, .func (PySem.W.fnOf "_law_links_asked" "_law_links_asked" (defArgs s__law_links_asked) (defBody s__law_links_asked) (defScope s__law_links_asked) .none kV dc pm an cd ct), sl⟩) (c : PySem.W.codeIn K cd "_law_links_asked" = true) (kp : PySem.W.keepIn K (.ref f) = true) :
    Def K mg "_law_links_asked" ["_law_which", "_law_more"] s__law_links_asked := ⟨f, _, PySem.W.mg_of X G a, fun_mk (st := s__law_links_asked) lk c kp, (fun_mk (st := s__law_links_asked) lk c kp).binds (ps := ["_law_which", "_law_more"]) fun _ _ _ _ _ _ us hl => match us, hl with | [_, _], _ => rfl⟩
theorem def__law_told {K : PySem.W.Frag} {h : Heap} {mg : Str → Option Value} {f : Addr} {od an : Option Addr} {sl : Array (Option Value)} {oc kV dc pm cd ct : Value} (X : K.In h) (G : h.Ns mainGlobals mg) (a : PySem.W.nsIn K mainGlobals "_law_told" = some (some (.ref f)))
    (lk : K.lookup f = some ⟨oc, od, .func (PySem.W.fnOf "_law_told" "_law_told" (defArgs s__law_told) (defBody s__law_told) (defScope s__law_told) .none kV dc pm an cd ct), sl⟩) (c : PySem.W.codeIn K cd "_law_told" = true) (kp : PySem.W.keepIn K (.ref f) = true) :
    Def K mg "_law_told" ["_law_kind", "_law_which", "_law_more"] s__law_told := ⟨f, _, PySem.W.mg_of X G a, fun_mk (st := s__law_told) lk c kp, (fun_mk (st := s__law_told) lk c kp).binds (ps := ["_law_kind", "_law_which", "_law_more"]) fun _ _ _ _ _ _ us hl => match us, hl with | [_, _, _], _ => rfl⟩
theorem def_law {K : PySem.W.Frag} {h : Heap} {mg : Str → Option Value} {f : Addr} {od an : Option Addr} {sl : Array (Option Value)} {oc kV dc pm cd ct : Value} (X : K.In h) (G : h.Ns mainGlobals mg) (a : PySem.W.nsIn K mainGlobals "law" = some (some (.ref f)))
    (lk : K.lookup f = some ⟨oc, od, .func (PySem.W.fnOf "law" "law" (defArgs s_law) (defBody s_law) (defScope s_law) .none kV dc pm an cd ct), sl⟩) (c : PySem.W.codeIn K cd "law" = true) (kp : PySem.W.keepIn K (.ref f) = true) :
    mg "law" = some (.ref f) ∧ Fun K "law" "law" s_law f (PySem.W.fnOf "law" "law" (defArgs s_law) (defBody s_law) (defScope s_law) .none kV dc pm an cd ct) := ⟨PySem.W.mg_of X G a, fun_mk (st := s_law) lk c kp⟩
theorem cst_HIGHEST {K : PySem.W.Frag} {h : Heap} {mg : Str → Option Value} {t : Tok} (X : K.In h) (G : h.Ns mainGlobals mg) (a : PySem.W.nsIn K mainGlobals "HIGHEST" = some (some (.int 10000000 t))) : ∃ t, mg "HIGHEST" = some (.int 10000000 t) := ⟨t, PySem.W.mg_of X G a⟩
theorem def_Board___init__ {K : PySem.W.Frag} {C f : Addr} {od an : Option Addr} {sl : Array (Option Value)} {oc kV dc pm cd ct : Value} (a : PySem.W.findIn K (.ref C) "__init__" = some (some (.ref f))) (i : PySem.W.isFn K (.ref f) = true) (lk : K.lookup f = some ⟨oc, od, .func (PySem.W.fnOf "__init__" "Board.__init__" (defArgs s_Board___init__) (defBody s_Board___init__) (defScope s_Board___init__) .none kV dc pm an cd ct), sl⟩) (c : PySem.W.codeIn K cd "Board.__init__" = true) (kp : PySem.W.keepIn K (.ref f) = true) (mk : PySem.W.makesIn K C = true) (kc : PySem.W.keepIn K (.ref C) = true) : DefI K C "Board.__init__" ["self", "first", "many", "high", "around"] s_Board___init__ := ⟨f, _, fun_mk (st := s_Board___init__) lk c kp, (fun_mk (st := s_Board___init__) lk c kp).binds (ps := ["self", "first", "many", "high", "around"]) fun _ _ _ _ _ _ us hl => match us, hl with | [_, _, _, _, _], _ => rfl, ⟨mk, a, i, kc⟩⟩
theorem def_Row___init__ {K : PySem.W.Frag} {C f : Addr} {od an : Option Addr} {sl : Array (Option Value)} {oc kV dc pm cd ct : Value} (a : PySem.W.findIn K (.ref C) "__init__" = some (some (.ref f))) (i : PySem.W.isFn K (.ref f) = true) (lk : K.lookup f = some ⟨oc, od, .func (PySem.W.fnOf "__init__" "Row.__init__" (defArgs s_Row___init__) (defBody s_Row___init__) (defScope s_Row___init__) .none kV dc pm an cd ct), sl⟩) (c : PySem.W.codeIn K cd "Row.__init__" = true) (kp : PySem.W.keepIn K (.ref f) = true) (mk : PySem.W.makesIn K C = true) (kc : PySem.W.keepIn K (.ref C) = true) : DefI K C "Row.__init__" ["self", "bars"] s_Row___init__ := ⟨f, _, fun_mk (st := s_Row___init__) lk c kp, (fun_mk (st := s_Row___init__) lk c kp).binds (ps := ["self", "bars"]) fun _ _ _ _ _ _ us hl => match us, hl with | [_, _], _ => rfl, ⟨mk, a, i, kc⟩⟩
theorem def_Crossed___init__ {K : PySem.W.Frag} {C f : Addr} {od an : Option Addr} {sl : Array (Option Value)} {oc kV dc pm cd ct : Value} (a : PySem.W.findIn K (.ref C) "__init__" = some (some (.ref f))) (i : PySem.W.isFn K (.ref f) = true) (lk : K.lookup f = some ⟨oc, od, .func (PySem.W.fnOf "__init__" "Crossed.__init__" (defArgs s_Crossed___init__) (defBody s_Crossed___init__) (defScope s_Crossed___init__) .none kV dc pm an cd ct), sl⟩) (c : PySem.W.codeIn K cd "Crossed.__init__" = true) (kp : PySem.W.keepIn K (.ref f) = true) (mk : PySem.W.makesIn K C = true) (kc : PySem.W.keepIn K (.ref C) = true) : DefI K C "Crossed.__init__" ["self", "first", "second"] s_Crossed___init__ := ⟨f, _, fun_mk (st := s_Crossed___init__) lk c kp, (fun_mk (st := s_Crossed___init__) lk c kp).binds (ps := ["self", "first", "second"]) fun _ _ _ _ _ _ us hl => match us, hl with | [_, _, _], _ => rfl, ⟨mk, a, i, kc⟩⟩
theorem cls_mk {K : PySem.W.Frag} {C : Addr} (pg : PySem.W.plainGet K C Str.empty = true) (hd : PySem.W.hasDictIn K C = true) (po : PySem.W.plainOver K C = true) (sa : PySem.W.findIn K (.ref C) "__setattr__" = some (some (.builtin "object.__setattr__"))) : Cls K C := ⟨pg, hd, po, sa⟩
theorem insc_mk {K : PySem.W.Frag} {C : Addr} (c : Cls K C) (ha : PySem.W.findIn K (.ref C) "__class__" = some (some (.builtin "object.__class__"))) (hn : PySem.W.specialIn K (.builtin "object.__class__") "__get__" = some (some (.builtin "getset_descriptor.__get__"))) (htk : PySem.W.takesIn K (.builtin "object.__class__") = some true) (hm : PySem.W.mroIn K C (.type "object") = some true) (me : PySem.W.kitOne K (.ref C) (.ref C) = some true) : InsO K C := ⟨c, ha, hn, htk, hm, me⟩
theorem kit_me {K : PySem.W.Frag} {C : Addr} : PySem.W.kitOne K (.ref C) (.ref C) = some true := if_pos (by simp)
theorem kit_mk {K : PySem.W.Frag} {C D : Addr} {cd : ClassData} {b : Bool} (h1 : PySem.W.clsIn K D = some cd) (h2 : PySem.W.typeIn K (.ref D) = some (.type "type")) (h3 : PySem.W.subIn K (.ref C) (.ref D) = some b) (ne : C ≠ D) : PySem.W.kitOne K (.ref C) (.ref D) = some b := by
  unfold PySem.W.kitOne PySem.W.kitCls
  rw [if_neg (by simpa using ne)]
  simp only [h1, h2]
  exact h3
theorem excc_mk {K : PySem.W.Frag} {D : Addr} (hg : PySem.W.findIn K (.ref D) "__getattribute__" = some (some (.builtin "BaseException.__getattribute__"))) (hk : PySem.W.findIn K (.ref D) "__getattr__" = some none) (hs : PySem.W.subIn K (.ref D) (.type "BaseException") = some true) (hd : PySem.W.hasDictIn K D = true) (ha : PySem.W.findIn K (.ref D) "__class__" = some (some (.builtin "object.__class__"))) (hn : PySem.W.specialIn K (.builtin "object.__class__") "__get__" = some (some (.builtin "getset_descriptor.__get__"))) (ht : PySem.W.takesIn K (.builtin "object.__class__") = some true) (hm : PySem.W.mroIn K D (.type "object") = some true) : ExcC K D := ⟨hg, hk, hs, hd, ha, hn, ht, hm⟩
theorem exm_mk {K : PySem.W.Frag} {C D : Addr} (h1 : PySem.W.subIn K (.ref C) (.type "BaseException") = some true) (hd : PySem.W.hasDictIn K C = true) (ht : PySem.W.typeIn K (.ref C) = some (.type "type")) (h4 : PySem.W.subIn K (.ref D) (.ref C) = some true) : PySem.W.exmOne K (.ref D) (.ref C) = some true := PySem.W.exm_ref h1 hd ht h4
theorem kitv_mk {K : PySem.W.Frag} {C : Addr} (h : PySem.W.subIn K (.ref C) (.type "ValueError") = some true) : PySem.W.kitOne K (.ref C) (.type "ValueError") = some true := by
  unfold PySem.W.kitOne PySem.W.kitCls
  rw [if_neg (by simp)]
  show (if PySem.W.kitMeta "ValueError" = true then _ else _) = _
  rw [if_pos (by decide +kernel)]
  exact h
theorem na_mk {K : PySem.W.Frag} {C : Addr} {x : Str} (h : PySem.W.findIn K (.ref C) x = some none) : NoAttr K C x := h
theorem all_mk {l : PySem.W.OpenLaw} {w : World} {K : PySem.W.Frag} {mg : Str → Option Value} {fa f : Addr} {an : Option Addr} {C_Answer C_Board C_Row C_Crossed C_BarError C_BadBars C_NoBar C_BadPlace C_BadTree C_BadLinks : Addr} {kV dc pm cd ct : Value} (hfa : mg "law" = some (.ref fa)) (T : Txt K mg ⟨C_Answer, C_Board, C_Row, C_Crossed, C_BarError, C_BadBars, C_NoBar, C_BadPlace, C_BadTree, C_BadLinks⟩) (D_is_number : Def K mg "is_number" ["thing", "least", "most"] s_is_number) (D_asked_bars : Def K mg "asked_bars" ["bars"] s_asked_bars) (D_sees : Def K mg "sees" ["bars", "one", "other"] s_sees) (D_ahead_of : Def K mg "ahead_of" ["bars"] s_ahead_of) (D_behind_of : Def K mg "behind_of" ["bars"] s_behind_of) (D_reaches : Def K mg "reaches" ["bars"] s_reaches) (D_seen_ahead : Def K mg "seen_ahead" ["bars"] s_seen_ahead) (D_shown : Def K mg "shown" ["bars"] s_shown) (D_board : Def K mg "board" ["bars"] s_board) (D_highest_so_far : Def K mg "highest_so_far" ["bars"] s_highest_so_far) (D_levels : Def K mg "levels" ["bars"] s_levels) (D_water : Def K mg "water" ["bars"] s_water) (D_rims : Def K mg "rims" ["bars"] s_rims) (D_links : Def K mg "links" ["bars"] s_links) (D_parents_of : Def K mg "parents_of" ["bars"] s_parents_of) (D_tree : Def K mg "tree" ["bars"] s_tree) (D__law_bars_asked : Def K mg "_law_bars_asked" ["_law_which", "_law_more"] s__law_bars_asked) (D__law_places_asked : Def K mg "_law_places_asked" ["_law_which", "_law_more"] s__law_places_asked) (D_depths : Def K mg "depths" ["parents"] s_depths) (D_bars_of : Def K mg "bars_of" ["parents"] s_bars_of) (D__law_trees_asked : Def K mg "_law_trees_asked" ["_law_which", "_law_more"] s__law_trees_asked) (D_row_of : Def K mg "row_of" ["told"] s_row_of) (D__law_links_asked : Def K mg "_law_links_asked" ["_law_which", "_law_more"] s__law_links_asked) (D__law_told : Def K mg "_law_told" ["_law_kind", "_law_which", "_law_more"] s__law_told) (D_Board___init__ : DefI K C_Board "Board.__init__" ["self", "first", "many", "high", "around"] s_Board___init__) (D_Row___init__ : DefI K C_Row "Row.__init__" ["self", "bars"] s_Row___init__) (D_Crossed___init__ : DefI K C_Crossed "Crossed.__init__" ["self", "first", "second"] s_Crossed___init__)
    (L : mg "law" = some (.ref f) ∧ Fun K "law" "law" s_law f (PySem.W.fnOf "law" "law" (defArgs s_law) (defBody s_law) (defScope s_law) .none kV dc pm an cd ct)) :
    ∃ fd : FuncData, (∀ (s : Shared) (v : Value), BindsTo s fd ⟨[v], []⟩ [("_law_script", v)]) ∧ ∀ base : Heap, K.In base → base.Ns mainGlobals mg → FnOk l.prog w K mg base CX0 7 fa fd ["_law_script"] (sp_law K) := by
  obtain ⟨hf, F⟩ := L
  have e := hfa.symm.trans hf
  cases e
  refine ⟨PySem.W.fnOf "law" "law" (defArgs s_law) (defBody s_law) (defScope s_law) .none kV dc pm an cd ct, fun s v => .of_eq rfl, fun base _ _ => ?_⟩
  have h_is_number := ok_is_number (P := l.prog) (w := w) (base := base) (CL := ⟨C_Answer, C_Board, C_Row, C_Crossed, C_BarError, C_BadBars, C_NoBar, C_BadPlace, C_BadTree, C_BadLinks⟩) D_is_number T 
  have h_asked_bars := ok_asked_bars (P := l.prog) (w := w) (base := base) (CL := ⟨C_Answer, C_Board, C_Row, C_Crossed, C_BarError, C_BadBars, C_NoBar, C_BadPlace, C_BadTree, C_BadLinks⟩) D_asked_bars T h_is_number
  have h_sees := ok_sees (P := l.prog) (w := w) (base := base) (CL := ⟨C_Answer, C_Board, C_Row, C_Crossed, C_BarError, C_BadBars, C_NoBar, C_BadPlace, C_BadTree, C_BadLinks⟩) D_sees T h_asked_bars h_is_number
  have h_ahead_of := ok_ahead_of (P := l.prog) (w := w) (base := base) (CL := ⟨C_Answer, C_Board, C_Row, C_Crossed, C_BarError, C_BadBars, C_NoBar, C_BadPlace, C_BadTree, C_BadLinks⟩) D_ahead_of T 
  have h_behind_of := ok_behind_of (P := l.prog) (w := w) (base := base) (CL := ⟨C_Answer, C_Board, C_Row, C_Crossed, C_BarError, C_BadBars, C_NoBar, C_BadPlace, C_BadTree, C_BadLinks⟩) D_behind_of T h_ahead_of
  have h_reaches := ok_reaches (P := l.prog) (w := w) (base := base) (CL := ⟨C_Answer, C_Board, C_Row, C_Crossed, C_BarError, C_BadBars, C_NoBar, C_BadPlace, C_BadTree, C_BadLinks⟩) D_reaches T h_asked_bars h_ahead_of h_behind_of
  have h_seen_ahead := ok_seen_ahead (P := l.prog) (w := w) (base := base) (CL := ⟨C_Answer, C_Board, C_Row, C_Crossed, C_BarError, C_BadBars, C_NoBar, C_BadPlace, C_BadTree, C_BadLinks⟩) D_seen_ahead T h_asked_bars
  have h_shown := ok_shown (P := l.prog) (w := w) (base := base) (CL := ⟨C_Answer, C_Board, C_Row, C_Crossed, C_BarError, C_BadBars, C_NoBar, C_BadPlace, C_BadTree, C_BadLinks⟩) D_shown T h_asked_bars
  have h_Board___init__ := ok_Board___init__ (P := l.prog) (w := w) (base := base) (CL := ⟨C_Answer, C_Board, C_Row, C_Crossed, C_BarError, C_BadBars, C_NoBar, C_BadPlace, C_BadTree, C_BadLinks⟩) D_Board___init__ T 
  have h_board := ok_board (P := l.prog) (w := w) (base := base) (CL := ⟨C_Answer, C_Board, C_Row, C_Crossed, C_BarError, C_BadBars, C_NoBar, C_BadPlace, C_BadTree, C_BadLinks⟩) D_board T h_asked_bars h_reaches h_Board___init__
  have h_highest_so_far := ok_highest_so_far (P := l.prog) (w := w) (base := base) (CL := ⟨C_Answer, C_Board, C_Row, C_Crossed, C_BarError, C_BadBars, C_NoBar, C_BadPlace, C_BadTree, C_BadLinks⟩) D_highest_so_far T 
  have h_levels := ok_levels (P := l.prog) (w := w) (base := base) (CL := ⟨C_Answer, C_Board, C_Row, C_Crossed, C_BarError, C_BadBars, C_NoBar, C_BadPlace, C_BadTree, C_BadLinks⟩) D_levels T h_asked_bars h_highest_so_far
  have h_water := ok_water (P := l.prog) (w := w) (base := base) (CL := ⟨C_Answer, C_Board, C_Row, C_Crossed, C_BarError, C_BadBars, C_NoBar, C_BadPlace, C_BadTree, C_BadLinks⟩) D_water T h_levels
  have h_rims := ok_rims (P := l.prog) (w := w) (base := base) (CL := ⟨C_Answer, C_Board, C_Row, C_Crossed, C_BarError, C_BadBars, C_NoBar, C_BadPlace, C_BadTree, C_BadLinks⟩) D_rims T h_asked_bars
  have h_links := ok_links (P := l.prog) (w := w) (base := base) (CL := ⟨C_Answer, C_Board, C_Row, C_Crossed, C_BarError, C_BadBars, C_NoBar, C_BadPlace, C_BadTree, C_BadLinks⟩) D_links T h_asked_bars h_ahead_of
  have h_parents_of := ok_parents_of (P := l.prog) (w := w) (base := base) (CL := ⟨C_Answer, C_Board, C_Row, C_Crossed, C_BarError, C_BadBars, C_NoBar, C_BadPlace, C_BadTree, C_BadLinks⟩) D_parents_of T 
  have h_tree := ok_tree (P := l.prog) (w := w) (base := base) (CL := ⟨C_Answer, C_Board, C_Row, C_Crossed, C_BarError, C_BadBars, C_NoBar, C_BadPlace, C_BadTree, C_BadLinks⟩) D_tree T h_asked_bars h_parents_of
  have h__law_bars_asked := ok__law_bars_asked (P := l.prog) (w := w) (base := base) (CL := ⟨C_Answer, C_Board, C_Row, C_Crossed, C_BarError, C_BadBars, C_NoBar, C_BadPlace, C_BadTree, C_BadLinks⟩) D__law_bars_asked T h_sees h_reaches h_seen_ahead h_shown h_board h_levels h_water h_rims h_links h_tree
  have h__law_places_asked := ok__law_places_asked (P := l.prog) (w := w) (base := base) (CL := ⟨C_Answer, C_Board, C_Row, C_Crossed, C_BarError, C_BadBars, C_NoBar, C_BadPlace, C_BadTree, C_BadLinks⟩) D__law_places_asked T h_sees
  have h_depths := ok_depths (P := l.prog) (w := w) (base := base) (CL := ⟨C_Answer, C_Board, C_Row, C_Crossed, C_BarError, C_BadBars, C_NoBar, C_BadPlace, C_BadTree, C_BadLinks⟩) D_depths T 
  have h_bars_of := ok_bars_of (P := l.prog) (w := w) (base := base) (CL := ⟨C_Answer, C_Board, C_Row, C_Crossed, C_BarError, C_BadBars, C_NoBar, C_BadPlace, C_BadTree, C_BadLinks⟩) D_bars_of T h_depths h_parents_of h_is_number
  have h__law_trees_asked := ok__law_trees_asked (P := l.prog) (w := w) (base := base) (CL := ⟨C_Answer, C_Board, C_Row, C_Crossed, C_BarError, C_BadBars, C_NoBar, C_BadPlace, C_BadTree, C_BadLinks⟩) D__law_trees_asked T h_bars_of
  have h_Row___init__ := ok_Row___init__ (P := l.prog) (w := w) (base := base) (CL := ⟨C_Answer, C_Board, C_Row, C_Crossed, C_BarError, C_BadBars, C_NoBar, C_BadPlace, C_BadTree, C_BadLinks⟩) D_Row___init__ T 
  have h_Crossed___init__ := ok_Crossed___init__ (P := l.prog) (w := w) (base := base) (CL := ⟨C_Answer, C_Board, C_Row, C_Crossed, C_BarError, C_BadBars, C_NoBar, C_BadPlace, C_BadTree, C_BadLinks⟩) D_Crossed___init__ T 
  have h_row_of := ok_row_of (P := l.prog) (w := w) (base := base) (CL := ⟨C_Answer, C_Board, C_Row, C_Crossed, C_BarError, C_BadBars, C_NoBar, C_BadPlace, C_BadTree, C_BadLinks⟩) D_row_of T h_Row___init__ h_Crossed___init__ h_is_number
  have h__law_links_asked := ok__law_links_asked (P := l.prog) (w := w) (base := base) (CL := ⟨C_Answer, C_Board, C_Row, C_Crossed, C_BarError, C_BadBars, C_NoBar, C_BadPlace, C_BadTree, C_BadLinks⟩) D__law_links_asked T h_row_of
  have h__law_told := ok__law_told (P := l.prog) (w := w) (base := base) (CL := ⟨C_Answer, C_Board, C_Row, C_Crossed, C_BarError, C_BadBars, C_NoBar, C_BadPlace, C_BadTree, C_BadLinks⟩) D__law_told T h__law_bars_asked h_board h__law_places_asked h__law_trees_asked h__law_links_asked
  exact ok_law (CL := ⟨C_Answer, C_Board, C_Row, C_Crossed, C_BarError, C_BadBars, C_NoBar, C_BadPlace, C_BadTree, C_BadLinks⟩) F T h__law_told h_reaches h_tree h_links h_levels h_water h_row_of h_bars_of
theorem txt_mk {K : PySem.W.Frag} {mg : Str → Option Value} {C_Answer C_Board C_Row C_Crossed C_BarError C_BadBars C_NoBar C_BadPlace C_BadTree C_BadLinks : Addr} (m_len : mg "len" = none) (m_isinstance : mg "isinstance" = none) (m_all : mg "all" = none) (m_sum : mg "sum" = none) (m_max : mg "max" = none) (m_min : mg "min" = none) (m_list : mg "list" = none) (m_int : mg "int" = none) (m_bool : mg "bool" = none) (m_range : mg "range" = none) (m_enumerate : mg "enumerate" = none) (m_zip : mg "zip" = none) (m_reversed : mg "reversed" = none) (m_ValueError : mg "ValueError" = none) (c_HIGHEST : ∃ t, mg "HIGHEST" = some (.int 10000000 t)) (c_BarError : mg "BarError" = some (.ref C_BarError)) (xi_BarError : PySem.W.excIn K C_BarError [.type "ValueError", .type "Exception", .type "BaseException", .type "object"] "ValueError.__new__" = true) (kx_BarError : PySem.W.keepIn K (.ref C_BarError) = true) (bx_BarError : PySem.W.subIn K (.ref C_BarError) (.type "BaseException") = some true) (tx_BarError : PySem.W.typeIn K (.ref C_BarError) = some (.type "type")) (ec_BarError : ExcC K C_BarError) (em_BarError : PySem.W.exmOne K (.ref C_BarError) (.ref C_BarError) = some true) (kv_BarError : PySem.W.kitOne K (.ref C_BarError) (.type "ValueError") = some true) (ke_BarError_BarError : PySem.W.kitOne K (.ref C_BarError) (.ref C_BarError) = some true) (ke_BarError_BadBars : PySem.W.kitOne K (.ref C_BarError) (.ref C_BadBars) = some false) (ke_BarError_NoBar : PySem.W.kitOne K (.ref C_BarError) (.ref C_NoBar) = some false) (ke_BarError_BadPlace : PySem.W.kitOne K (.ref C_BarError) (.ref C_BadPlace) = some false) (ke_BarError_BadTree : PySem.W.kitOne K (.ref C_BarError) (.ref C_BadTree) = some false) (ke_BarError_BadLinks : PySem.W.kitOne K (.ref C_BarError) (.ref C_BadLinks) = some false) (c_BadBars : mg "BadBars" = some (.ref C_BadBars)) (xi_BadBars : PySem.W.excIn K C_BadBars [.type "ValueError", .type "Exception", .type "BaseException", .type "object"] "ValueError.__new__" = true) (kx_BadBars : PySem.W.keepIn K (.ref C_BadBars) = true) (bx_BadBars : PySem.W.subIn K (.ref C_BadBars) (.type "BaseException") = some true) (tx_BadBars : PySem.W.typeIn K (.ref C_BadBars) = some (.type "type")) (ec_BadBars : ExcC K C_BadBars) (em_BadBars : PySem.W.exmOne K (.ref C_BadBars) (.ref C_BarError) = some true) (kv_BadBars : PySem.W.kitOne K (.ref C_BadBars) (.type "ValueError") = some true) (ke_BadBars_BarError : PySem.W.kitOne K (.ref C_BadBars) (.ref C_BarError) = some true) (ke_BadBars_BadBars : PySem.W.kitOne K (.ref C_BadBars) (.ref C_BadBars) = some true) (ke_BadBars_NoBar : PySem.W.kitOne K (.ref C_BadBars) (.ref C_NoBar) = some false) (ke_BadBars_BadPlace : PySem.W.kitOne K (.ref C_BadBars) (.ref C_BadPlace) = some false) (ke_BadBars_BadTree : PySem.W.kitOne K (.ref C_BadBars) (.ref C_BadTree) = some false) (ke_BadBars_BadLinks : PySem.W.kitOne K (.ref C_BadBars) (.ref C_BadLinks) = some false) (c_NoBar : mg "NoBar" = some (.ref C_NoBar)) (xi_NoBar : PySem.W.excIn K C_NoBar [.type "ValueError", .type "Exception", .type "BaseException", .type "object"] "ValueError.__new__" = true) (kx_NoBar : PySem.W.keepIn K (.ref C_NoBar) = true) (bx_NoBar : PySem.W.subIn K (.ref C_NoBar) (.type "BaseException") = some true) (tx_NoBar : PySem.W.typeIn K (.ref C_NoBar) = some (.type "type")) (ec_NoBar : ExcC K C_NoBar) (em_NoBar : PySem.W.exmOne K (.ref C_NoBar) (.ref C_BarError) = some true) (kv_NoBar : PySem.W.kitOne K (.ref C_NoBar) (.type "ValueError") = some true) (ke_NoBar_BarError : PySem.W.kitOne K (.ref C_NoBar) (.ref C_BarError) = some true) (ke_NoBar_BadBars : PySem.W.kitOne K (.ref C_NoBar) (.ref C_BadBars) = some false) (ke_NoBar_NoBar : PySem.W.kitOne K (.ref C_NoBar) (.ref C_NoBar) = some true) (ke_NoBar_BadPlace : PySem.W.kitOne K (.ref C_NoBar) (.ref C_BadPlace) = some false) (ke_NoBar_BadTree : PySem.W.kitOne K (.ref C_NoBar) (.ref C_BadTree) = some false) (ke_NoBar_BadLinks : PySem.W.kitOne K (.ref C_NoBar) (.ref C_BadLinks) = some false) (c_BadPlace : mg "BadPlace" = some (.ref C_BadPlace)) (xi_BadPlace : PySem.W.excIn K C_BadPlace [.type "ValueError", .type "Exception", .type "BaseException", .type "object"] "ValueError.__new__" = true) (kx_BadPlace : PySem.W.keepIn K (.ref C_BadPlace) = true) (bx_BadPlace : PySem.W.subIn K (.ref C_BadPlace) (.type "BaseException") = some true) (tx_BadPlace : PySem.W.typeIn K (.ref C_BadPlace) = some (.type "type")) (ec_BadPlace : ExcC K C_BadPlace) (em_BadPlace : PySem.W.exmOne K (.ref C_BadPlace) (.ref C_BarError) = some true) (kv_BadPlace : PySem.W.kitOne K (.ref C_BadPlace) (.type "ValueError") = some true) (ke_BadPlace_BarError : PySem.W.kitOne K (.ref C_BadPlace) (.ref C_BarError) = some true) (ke_BadPlace_BadBars : PySem.W.kitOne K (.ref C_BadPlace) (.ref C_BadBars) = some false) (ke_BadPlace_NoBar : PySem.W.kitOne K (.ref C_BadPlace) (.ref C_NoBar) = some false) (ke_BadPlace_BadPlace : PySem.W.kitOne K (.ref C_BadPlace) (.ref C_BadPlace) = some true) (ke_BadPlace_BadTree : PySem.W.kitOne K (.ref C_BadPlace) (.ref C_BadTree) = some false) (ke_BadPlace_BadLinks : PySem.W.kitOne K (.ref C_BadPlace) (.ref C_BadLinks) = some false) (c_BadTree : mg "BadTree" = some (.ref C_BadTree)) (xi_BadTree : PySem.W.excIn K C_BadTree [.type "ValueError", .type "Exception", .type "BaseException", .type "object"] "ValueError.__new__" = true) (kx_BadTree : PySem.W.keepIn K (.ref C_BadTree) = true) (bx_BadTree : PySem.W.subIn K (.ref C_BadTree) (.type "BaseException") = some true) (tx_BadTree : PySem.W.typeIn K (.ref C_BadTree) = some (.type "type")) (ec_BadTree : ExcC K C_BadTree) (em_BadTree : PySem.W.exmOne K (.ref C_BadTree) (.ref C_BarError) = some true) (kv_BadTree : PySem.W.kitOne K (.ref C_BadTree) (.type "ValueError") = some true) (ke_BadTree_BarError : PySem.W.kitOne K (.ref C_BadTree) (.ref C_BarError) = some true) (ke_BadTree_BadBars : PySem.W.kitOne K (.ref C_BadTree) (.ref C_BadBars) = some false) (ke_BadTree_NoBar : PySem.W.kitOne K (.ref C_BadTree) (.ref C_NoBar) = some false) (ke_BadTree_BadPlace : PySem.W.kitOne K (.ref C_BadTree) (.ref C_BadPlace) = some false) (ke_BadTree_BadTree : PySem.W.kitOne K (.ref C_BadTree) (.ref C_BadTree) = some true) (ke_BadTree_BadLinks : PySem.W.kitOne K (.ref C_BadTree) (.ref C_BadLinks) = some false) (c_BadLinks : mg "BadLinks" = some (.ref C_BadLinks)) (xi_BadLinks : PySem.W.excIn K C_BadLinks [.type "ValueError", .type "Exception", .type "BaseException", .type "object"] "ValueError.__new__" = true) (kx_BadLinks : PySem.W.keepIn K (.ref C_BadLinks) = true) (bx_BadLinks : PySem.W.subIn K (.ref C_BadLinks) (.type "BaseException") = some true) (tx_BadLinks : PySem.W.typeIn K (.ref C_BadLinks) = some (.type "type")) (ec_BadLinks : ExcC K C_BadLinks) (em_BadLinks : PySem.W.exmOne K (.ref C_BadLinks) (.ref C_BarError) = some true) (kv_BadLinks : PySem.W.kitOne K (.ref C_BadLinks) (.type "ValueError") = some true) (ke_BadLinks_BarError : PySem.W.kitOne K (.ref C_BadLinks) (.ref C_BarError) = some true) (ke_BadLinks_BadBars : PySem.W.kitOne K (.ref C_BadLinks) (.ref C_BadBars) = some false) (ke_BadLinks_NoBar : PySem.W.kitOne K (.ref C_BadLinks) (.ref C_NoBar) = some false) (ke_BadLinks_BadPlace : PySem.W.kitOne K (.ref C_BadLinks) (.ref C_BadPlace) = some false) (ke_BadLinks_BadTree : PySem.W.kitOne K (.ref C_BadLinks) (.ref C_BadTree) = some false) (ke_BadLinks_BadLinks : PySem.W.kitOne K (.ref C_BadLinks) (.ref C_BadLinks) = some true) (c_Answer : mg "Answer" = some (.ref C_Answer)) (cl_Answer : Cls K C_Answer) (ic_Answer : InsO K C_Answer) (ki_Answer_Board : PySem.W.kitOne K (.ref C_Answer) (.ref C_Board) = some false) (ki_Answer_Row : PySem.W.kitOne K (.ref C_Answer) (.ref C_Row) = some false) (ki_Answer_Crossed : PySem.W.kitOne K (.ref C_Answer) (.ref C_Crossed) = some false) (c_Board : mg "Board" = some (.ref C_Board)) (cl_Board : Cls K C_Board) (ic_Board : InsO K C_Board) (na_Board_first : NoAttr K C_Board "first") (na_Board_many : NoAttr K C_Board "many") (na_Board_high : NoAttr K C_Board "high") (na_Board_around : NoAttr K C_Board "around") (ki_Board_Answer : PySem.W.kitOne K (.ref C_Board) (.ref C_Answer) = some true) (ki_Board_Row : PySem.W.kitOne K (.ref C_Board) (.ref C_Row) = some false) (ki_Board_Crossed : PySem.W.kitOne K (.ref C_Board) (.ref C_Crossed) = some false) (c_Row : mg "Row" = some (.ref C_Row)) (cl_Row : Cls K C_Row) (ic_Row : InsO K C_Row) (na_Row_bars : NoAttr K C_Row "bars") (ki_Row_Answer : PySem.W.kitOne K (.ref C_Row) (.ref C_Answer) = some true) (ki_Row_Board : PySem.W.kitOne K (.ref C_Row) (.ref C_Board) = some false) (ki_Row_Crossed : PySem.W.kitOne K (.ref C_Row) (.ref C_Crossed) = some false) (c_Crossed : mg "Crossed" = some (.ref C_Crossed)) (cl_Crossed : Cls K C_Crossed) (ic_Crossed : InsO K C_Crossed) (na_Crossed_first : NoAttr K C_Crossed "first") (na_Crossed_second : NoAttr K C_Crossed "second") (ki_Crossed_Answer : PySem.W.kitOne K (.ref C_Crossed) (.ref C_Answer) = some true) (ki_Crossed_Board : PySem.W.kitOne K (.ref C_Crossed) (.ref C_Board) = some false) (ki_Crossed_Row : PySem.W.kitOne K (.ref C_Crossed) (.ref C_Row) = some false) : Txt K mg ⟨C_Answer, C_Board, C_Row, C_Crossed, C_BarError, C_BadBars, C_NoBar, C_BadPlace, C_BadTree, C_BadLinks⟩ := ⟨m_len, m_isinstance, m_all, m_sum, m_max, m_min, m_list, m_int, m_bool, m_range, m_enumerate, m_zip, m_reversed, m_ValueError, c_HIGHEST, c_BarError, xi_BarError, kx_BarError, bx_BarError, tx_BarError, ec_BarError, em_BarError, kv_BarError, ke_BarError_BarError, ke_BarError_BadBars, ke_BarError_NoBar, ke_BarError_BadPlace, ke_BarError_BadTree, ke_BarError_BadLinks, c_BadBars, xi_BadBars, kx_BadBars, bx_BadBars, tx_BadBars, ec_BadBars, em_BadBars, kv_BadBars, ke_BadBars_BarError, ke_BadBars_BadBars, ke_BadBars_NoBar, ke_BadBars_BadPlace, ke_BadBars_BadTree, ke_BadBars_BadLinks, c_NoBar, xi_NoBar, kx_NoBar, bx_NoBar, tx_NoBar, ec_NoBar, em_NoBar, kv_NoBar, ke_NoBar_BarError, ke_NoBar_BadBars, ke_NoBar_NoBar, ke_NoBar_BadPlace, ke_NoBar_BadTree, ke_NoBar_BadLinks, c_BadPlace, xi_BadPlace, kx_BadPlace, bx_BadPlace, tx_BadPlace, ec_BadPlace, em_BadPlace, kv_BadPlace, ke_BadPlace_BarError, ke_BadPlace_BadBars, ke_BadPlace_NoBar, ke_BadPlace_BadPlace, ke_BadPlace_BadTree, ke_BadPlace_BadLinks, c_BadTree, xi_BadTree, kx_BadTree, bx_BadTree, tx_BadTree, ec_BadTree, em_BadTree, kv_BadTree, ke_BadTree_BarError, ke_BadTree_BadBars, ke_BadTree_NoBar, ke_BadTree_BadPlace, ke_BadTree_BadTree, ke_BadTree_BadLinks, c_BadLinks, xi_BadLinks, kx_BadLinks, bx_BadLinks, tx_BadLinks, ec_BadLinks, em_BadLinks, kv_BadLinks, ke_BadLinks_BarError, ke_BadLinks_BadBars, ke_BadLinks_NoBar, ke_BadLinks_BadPlace, ke_BadLinks_BadTree, ke_BadLinks_BadLinks, c_Answer, cl_Answer, ic_Answer, ki_Answer_Board, ki_Answer_Row, ki_Answer_Crossed, c_Board, cl_Board, ic_Board, na_Board_first, na_Board_many, na_Board_high, na_Board_around, ki_Board_Answer, ki_Board_Row, ki_Board_Crossed, c_Row, cl_Row, ic_Row, na_Row_bars, ki_Row_Answer, ki_Row_Board, ki_Row_Crossed, c_Crossed, cl_Crossed, ic_Crossed, na_Crossed_first, na_Crossed_second, ki_Crossed_Answer, ki_Crossed_Board, ki_Crossed_Row⟩
end Sky
open PySem PySem.W PyProof.Rows
set_option maxRecDepth 100000 in
set_option maxHeartbeats 0 in
theorem PySem.Challenge.cw_skybars_k09_refused_holds : PySem.Challenge.rw_skybars_k09_refused.Holds := by
  w_on; o_law; k_head; (case hw => w_witness2)
  k_fill
  refine L2.walk_of (l := PySem.Challenge.rw_skybars_k09_refused) (n := 63) (k := 7) (x := "_law_script") (CX := fun _ => L2.CX0) (sp := fun w => Sky.sp_law _) rfl (by decide) rfl ⟨rfl, by decide, by decide⟩ (fun w h Y => PySem.W.kIn_of Y) ?F (fun _ _ a ns hl _ hS => ⟨_, rfl, a, ns, rfl, hS, hl, fun _ => rfl⟩) (fun _ _ _ _ _ h => h)
  case F =>
    intro w mg fa h KX G hmg
    refine' Sky.all_mk hmg (Sky.txt_mk (PySem.W.mg_none_of KX G ?z_len) (PySem.W.mg_none_of KX G ?z_isinstance) (PySem.W.mg_none_of KX G ?z_all) (PySem.W.mg_none_of KX G ?z_sum) (PySem.W.mg_none_of KX G ?z_max) (PySem.W.mg_none_of KX G ?z_min) (PySem.W.mg_none_of KX G ?z_list) (PySem.W.mg_none_of KX G ?z_int) (PySem.W.mg_none_of KX G ?z_bool) (PySem.W.mg_none_of KX G ?z_range) (PySem.W.mg_none_of KX G ?z_enumerate) (PySem.W.mg_none_of KX G ?z_zip) (PySem.W.mg_none_of KX G ?z_reversed) (PySem.W.mg_none_of KX G ?z_ValueError) (Sky.cst_HIGHEST KX G ?c_HIGHEST) (PySem.W.mg_of KX G ?c_BarError) ?xi_BarError ?kx_BarError ?bx_BarError ?tx_BarError (Sky.excc_mk ?e1_ec_BarError ?e2_ec_BarError ?e3_ec_BarError ?e4_ec_BarError ?e5_ec_BarError ?e6_ec_BarError ?e7_ec_BarError ?e8_ec_BarError) (Sky.exm_mk ?m1_em_BarError ?m2_em_BarError ?m3_em_BarError ?m4_em_BarError) (Sky.kitv_mk ?kv_BarError) Sky.kit_me (Sky.kit_mk ?k1_ke_BarError_BadBars ?k2_ke_BarError_BadBars ?k3_ke_BarError_BadBars ?k4_ke_BarError_BadBars) (Sky.kit_mk ?k1_ke_BarError_NoBar ?k2_ke_BarError_NoBar ?k3_ke_BarError_NoBar ?k4_ke_BarError_NoBar) (Sky.kit_mk ?k1_ke_BarError_BadPlace ?k2_ke_BarError_BadPlace ?k3_ke_BarError_BadPlace ?k4_ke_BarError_BadPlace) (Sky.kit_mk ?k1_ke_BarError_BadTree ?k2_ke_BarError_BadTree ?k3_ke_BarError_BadTree ?k4_ke_BarError_BadTree) (Sky.kit_mk ?k1_ke_BarError_BadLinks ?k2_ke_BarError_BadLinks ?k3_ke_BarError_BadLinks ?k4_ke_BarError_BadLinks) (PySem.W.mg_of KX G ?c_BadBars) ?xi_BadBars ?kx_BadBars ?bx_BadBars ?tx_BadBars (Sky.excc_mk ?e1_ec_BadBars ?e2_ec_BadBars ?e3_ec_BadBars ?e4_ec_BadBars ?e5_ec_BadBars ?e6_ec_BadBars ?e7_ec_BadBars ?e8_ec_BadBars) (Sky.exm_mk ?m1_em_BadBars ?m2_em_BadBars ?m3_em_BadBars ?m4_em_BadBars) (Sky.kitv_mk ?kv_BadBars) (Sky.kit_mk ?k1_ke_BadBars_BarError ?k2_ke_BadBars_BarError ?k3_ke_BadBars_BarError ?k4_ke_BadBars_BarError) Sky.kit_me (Sky.kit_mk ?k1_ke_BadBars_NoBar ?k2_ke_BadBars_NoBar ?k3_ke_BadBars_NoBar ?k4_ke_BadBars_NoBar) (Sky.kit_mk ?k1_ke_BadBars_BadPlace ?k2_ke_BadBars_BadPlace ?k3_ke_BadBars_BadPlace ?k4_ke_BadBars_BadPlace) (Sky.kit_mk ?k1_ke_BadBars_BadTree ?k2_ke_BadBars_BadTree ?k3_ke_BadBars_BadTree ?k4_ke_BadBars_BadTree) (Sky.kit_mk ?k1_ke_BadBars_BadLinks ?k2_ke_BadBars_BadLinks ?k3_ke_BadBars_BadLinks ?k4_ke_BadBars_BadLinks) (PySem.W.mg_of KX G ?c_NoBar) ?xi_NoBar ?kx_NoBar ?bx_NoBar ?tx_NoBar (Sky.excc_mk ?e1_ec_NoBar ?e2_ec_NoBar ?e3_ec_NoBar ?e4_ec_NoBar ?e5_ec_NoBar ?e6_ec_NoBar ?e7_ec_NoBar ?e8_ec_NoBar) (Sky.exm_mk ?m1_em_NoBar ?m2_em_NoBar ?m3_em_NoBar ?m4_em_NoBar) (Sky.kitv_mk ?kv_NoBar) (Sky.kit_mk ?k1_ke_NoBar_BarError ?k2_ke_NoBar_BarError ?k3_ke_NoBar_BarError ?k4_ke_NoBar_BarError) (Sky.kit_mk ?k1_ke_NoBar_BadBars ?k2_ke_NoBar_BadBars ?k3_ke_NoBar_BadBars ?k4_ke_NoBar_BadBars) Sky.kit_me (Sky.kit_mk ?k1_ke_NoBar_BadPlace ?k2_ke_NoBar_BadPlace ?k3_ke_NoBar_BadPlace ?k4_ke_NoBar_BadPlace) (Sky.kit_mk ?k1_ke_NoBar_BadTree ?k2_ke_NoBar_BadTree ?k3_ke_NoBar_BadTree ?k4_ke_NoBar_BadTree) (Sky.kit_mk ?k1_ke_NoBar_BadLinks ?k2_ke_NoBar_BadLinks ?k3_ke_NoBar_BadLinks ?k4_ke_NoBar_BadLinks) (PySem.W.mg_of KX G ?c_BadPlace) ?xi_BadPlace ?kx_BadPlace ?bx_BadPlace ?tx_BadPlace (Sky.excc_mk ?e1_ec_BadPlace ?e2_ec_BadPlace ?e3_ec_BadPlace ?e4_ec_BadPlace ?e5_ec_BadPlace ?e6_ec_BadPlace ?e7_ec_BadPlace ?e8_ec_BadPlace) (Sky.exm_mk ?m1_em_BadPlace ?m2_em_BadPlace ?m3_em_BadPlace ?m4_em_BadPlace) (Sky.kitv_mk ?kv_BadPlace) (Sky.kit_mk ?k1_ke_BadPlace_BarError ?k2_ke_BadPlace_BarError ?k3_ke_BadPlace_BarError ?k4_ke_BadPlace_BarError) (Sky.kit_mk ?k1_ke_BadPlace_BadBars ?k2_ke_BadPlace_BadBars ?k3_ke_BadPlace_BadBars ?k4_ke_BadPlace_BadBars) (Sky.kit_mk ?k1_ke_BadPlace_NoBar ?k2_ke_BadPlace_NoBar ?k3_ke_BadPlace_NoBar ?k4_ke_BadPlace_NoBar) Sky.kit_me (Sky.kit_mk ?k1_ke_BadPlace_BadTree ?k2_ke_BadPlace_BadTree ?k3_ke_BadPlace_BadTree ?k4_ke_BadPlace_BadTree) (Sky.kit_mk ?k1_ke_BadPlace_BadLinks ?k2_ke_BadPlace_BadLinks ?k3_ke_BadPlace_BadLinks ?k4_ke_BadPlace_BadLinks) (PySem.W.mg_of KX G ?c_BadTree) ?xi_BadTree ?kx_BadTree ?bx_BadTree ?tx_BadTree (Sky.excc_mk ?e1_ec_BadTree ?e2_ec_BadTree ?e3_ec_BadTree ?e4_ec_BadTree ?e5_ec_BadTree ?e6_ec_BadTree ?e7_ec_BadTree ?e8_ec_BadTree) (Sky.exm_mk ?m1_em_BadTree ?m2_em_BadTree ?m3_em_BadTree ?m4_em_BadTree) (Sky.kitv_mk ?kv_BadTree) (Sky.kit_mk ?k1_ke_BadTree_BarError ?k2_ke_BadTree_BarError ?k3_ke_BadTree_BarError ?k4_ke_BadTree_BarError) (Sky.kit_mk ?k1_ke_BadTree_BadBars ?k2_ke_BadTree_BadBars ?k3_ke_BadTree_BadBars ?k4_ke_BadTree_BadBars) (Sky.kit_mk ?k1_ke_BadTree_NoBar ?k2_ke_BadTree_NoBar ?k3_ke_BadTree_NoBar ?k4_ke_BadTree_NoBar) (Sky.kit_mk ?k1_ke_BadTree_BadPlace ?k2_ke_BadTree_BadPlace ?k3_ke_BadTree_BadPlace ?k4_ke_BadTree_BadPlace) Sky.kit_me (Sky.kit_mk ?k1_ke_BadTree_BadLinks ?k2_ke_BadTree_BadLinks ?k3_ke_BadTree_BadLinks ?k4_ke_BadTree_BadLinks) (PySem.W.mg_of KX G ?c_BadLinks) ?xi_BadLinks ?kx_BadLinks ?bx_BadLinks ?tx_BadLinks (Sky.excc_mk ?e1_ec_BadLinks ?e2_ec_BadLinks ?e3_ec_BadLinks ?e4_ec_BadLinks ?e5_ec_BadLinks ?e6_ec_BadLinks ?e7_ec_BadLinks ?e8_ec_BadLinks) (Sky.exm_mk ?m1_em_BadLinks ?m2_em_BadLinks ?m3_em_BadLinks ?m4_em_BadLinks) (Sky.kitv_mk ?kv_BadLinks) (Sky.kit_mk ?k1_ke_BadLinks_BarError ?k2_ke_BadLinks_BarError ?k3_ke_BadLinks_BarError ?k4_ke_BadLinks_BarError) (Sky.kit_mk ?k1_ke_BadLinks_BadBars ?k2_ke_BadLinks_BadBars ?k3_ke_BadLinks_BadBars ?k4_ke_BadLinks_BadBars) (Sky.kit_mk ?k1_ke_BadLinks_NoBar ?k2_ke_BadLinks_NoBar ?k3_ke_BadLinks_NoBar ?k4_ke_BadLinks_NoBar) (Sky.kit_mk ?k1_ke_BadLinks_BadPlace ?k2_ke_BadLinks_BadPlace ?k3_ke_BadLinks_BadPlace ?k4_ke_BadLinks_BadPlace) (Sky.kit_mk ?k1_ke_BadLinks_BadTree ?k2_ke_BadLinks_BadTree ?k3_ke_BadLinks_BadTree ?k4_ke_BadLinks_BadTree) Sky.kit_me (PySem.W.mg_of KX G ?c_Answer) (Sky.cls_mk ?pg_cl_Answer ?hd_cl_Answer ?po_cl_Answer ?sa_cl_Answer) (Sky.insc_mk (Sky.cls_mk ?pg_cl_Answer ?hd_cl_Answer ?po_cl_Answer ?sa_cl_Answer) ?ha_ic_Answer ?hn_ic_Answer ?ht_ic_Answer ?hm_ic_Answer Sky.kit_me) (Sky.kit_mk ?k1_ki_Answer_Board ?k2_ki_Answer_Board ?k3_ki_Answer_Board ?k4_ki_Answer_Board) (Sky.kit_mk ?k1_ki_Answer_Row ?k2_ki_Answer_Row ?k3_ki_Answer_Row ?k4_ki_Answer_Row) (Sky.kit_mk ?k1_ki_Answer_Crossed ?k2_ki_Answer_Crossed ?k3_ki_Answer_Crossed ?k4_ki_Answer_Crossed) (PySem.W.mg_of KX G ?c_Board) (Sky.cls_mk ?pg_cl_Board ?hd_cl_Board ?po_cl_Board ?sa_cl_Board) (Sky.insc_mk (Sky.cls_mk ?pg_cl_Board ?hd_cl_Board ?po_cl_Board ?sa_cl_Board) ?ha_ic_Board ?hn_ic_Board ?ht_ic_Board ?hm_ic_Board Sky.kit_me) (Sky.na_mk ?na_Board_first) (Sky.na_mk ?na_Board_many) (Sky.na_mk ?na_Board_high) (Sky.na_mk ?na_Board_around) (Sky.kit_mk ?k1_ki_Board_Answer ?k2_ki_Board_Answer ?k3_ki_Board_Answer ?k4_ki_Board_Answer) (Sky.kit_mk ?k1_ki_Board_Row ?k2_ki_Board_Row ?k3_ki_Board_Row ?k4_ki_Board_Row) (Sky.kit_mk ?k1_ki_Board_Crossed ?k2_ki_Board_Crossed ?k3_ki_Board_Crossed ?k4_ki_Board_Crossed) (PySem.W.mg_of KX G ?c_Row) (Sky.cls_mk ?pg_cl_Row ?hd_cl_Row ?po_cl_Row ?sa_cl_Row) (Sky.insc_mk (Sky.cls_mk ?pg_cl_Row ?hd_cl_Row ?po_cl_Row ?sa_cl_Row) ?ha_ic_Row ?hn_ic_Row ?ht_ic_Row ?hm_ic_Row Sky.kit_me) (Sky.na_mk ?na_Row_bars) (Sky.kit_mk ?k1_ki_Row_Answer ?k2_ki_Row_Answer ?k3_ki_Row_Answer ?k4_ki_Row_Answer) (Sky.kit_mk ?k1_ki_Row_Board ?k2_ki_Row_Board ?k3_ki_Row_Board ?k4_ki_Row_Board) (Sky.kit_mk ?k1_ki_Row_Crossed ?k2_ki_Row_Crossed ?k3_ki_Row_Crossed ?k4_ki_Row_Crossed) (PySem.W.mg_of KX G ?c_Crossed) (Sky.cls_mk ?pg_cl_Crossed ?hd_cl_Crossed ?po_cl_Crossed ?sa_cl_Crossed) (Sky.insc_mk (Sky.cls_mk ?pg_cl_Crossed ?hd_cl_Crossed ?po_cl_Crossed ?sa_cl_Crossed) ?ha_ic_Crossed ?hn_ic_Crossed ?ht_ic_Crossed ?hm_ic_Crossed Sky.kit_me) (Sky.na_mk ?na_Crossed_first) (Sky.na_mk ?na_Crossed_second) (Sky.kit_mk ?k1_ki_Crossed_Answer ?k2_ki_Crossed_Answer ?k3_ki_Crossed_Answer ?k4_ki_Crossed_Answer) (Sky.kit_mk ?k1_ki_Crossed_Board ?k2_ki_Crossed_Board ?k3_ki_Crossed_Board ?k4_ki_Crossed_Board) (Sky.kit_mk ?k1_ki_Crossed_Row ?k2_ki_Crossed_Row ?k3_ki_Crossed_Row ?k4_ki_Crossed_Row)) (Sky.def_is_number KX G ?a_is_number ?l_is_number ?d_is_number ?k_is_number) (Sky.def_asked_bars KX G ?a_asked_bars ?l_asked_bars ?d_asked_bars ?k_asked_bars) (Sky.def_sees KX G ?a_sees ?l_sees ?d_sees ?k_sees) (Sky.def_ahead_of KX G ?a_ahead_of ?l_ahead_of ?d_ahead_of ?k_ahead_of) (Sky.def_behind_of KX G ?a_behind_of ?l_behind_of ?d_behind_of ?k_behind_of) (Sky.def_reaches KX G ?a_reaches ?l_reaches ?d_reaches ?k_reaches) (Sky.def_seen_ahead KX G ?a_seen_ahead ?l_seen_ahead ?d_seen_ahead ?k_seen_ahead) (Sky.def_shown KX G ?a_shown ?l_shown ?d_shown ?k_shown) (Sky.def_board KX G ?a_board ?l_board ?d_board ?k_board) (Sky.def_highest_so_far KX G ?a_highest_so_far ?l_highest_so_far ?d_highest_so_far ?k_highest_so_far) (Sky.def_levels KX G ?a_levels ?l_levels ?d_levels ?k_levels) (Sky.def_water KX G ?a_water ?l_water ?d_water ?k_water) (Sky.def_rims KX G ?a_rims ?l_rims ?d_rims ?k_rims) (Sky.def_links KX G ?a_links ?l_links ?d_links ?k_links) (Sky.def_parents_of KX G ?a_parents_of ?l_parents_of ?d_parents_of ?k_parents_of) (Sky.def_tree KX G ?a_tree ?l_tree ?d_tree ?k_tree) (Sky.def__law_bars_asked KX G ?a__law_bars_asked ?l__law_bars_asked ?d__law_bars_asked ?k__law_bars_asked) (Sky.def__law_places_asked KX G ?a__law_places_asked ?l__law_places_asked ?d__law_places_asked ?k__law_places_asked) (Sky.def_depths KX G ?a_depths ?l_depths ?d_depths ?k_depths) (Sky.def_bars_of KX G ?a_bars_of ?l_bars_of ?d_bars_of ?k_bars_of) (Sky.def__law_trees_asked KX G ?a__law_trees_asked ?l__law_trees_asked ?d__law_trees_asked ?k__law_trees_asked) (Sky.def_row_of KX G ?a_row_of ?l_row_of ?d_row_of ?k_row_of) (Sky.def__law_links_asked KX G ?a__law_links_asked ?l__law_links_asked ?d__law_links_asked ?k__law_links_asked) (Sky.def__law_told KX G ?a__law_told ?l__law_told ?d__law_told ?k__law_told) (Sky.def_Board___init__ ?a_Board___init__ ?i_Board___init__ ?l_Board___init__ ?d_Board___init__ ?k_Board___init__ ?mk_Board___init__ ?kc_Board___init__) (Sky.def_Row___init__ ?a_Row___init__ ?i_Row___init__ ?l_Row___init__ ?d_Row___init__ ?k_Row___init__ ?mk_Row___init__ ?kc_Row___init__) (Sky.def_Crossed___init__ ?a_Crossed___init__ ?i_Crossed___init__ ?l_Crossed___init__ ?d_Crossed___init__ ?k_Crossed___init__ ?mk_Crossed___init__ ?kc_Crossed___init__) (Sky.def_law KX G ?a_law ?l_law ?d_law ?k_law)
    (case z_len => k_is)
    (case z_isinstance => k_is)
    (case z_all => k_is)
    (case z_sum => k_is)
    (case z_max => k_is)
    (case z_min => k_is)
    (case z_list => k_is)
    (case z_int => k_is)
    (case z_bool => k_is)
    (case z_range => k_is)
    (case z_enumerate => k_is)
    (case z_zip => k_is)
    (case z_reversed => k_is)
    (case z_ValueError => k_is)
    (case c_HIGHEST => k_is)
    (case c_BarError => k_is)
    (case c_BadBars => k_is)
    (case c_NoBar => k_is)
    (case c_BadPlace => k_is)
    (case c_BadTree => k_is)
    (case c_BadLinks => k_is)
    (case c_Answer => k_is)
    (case c_Board => k_is)
    (case c_Row => k_is)
    (case c_Crossed => k_is)
    (case xi_BarError => k_exc)
    (case kx_BarError => k_is)
    (case bx_BarError => k_is)
    (case tx_BarError => k_is)
    (case e1_ec_BarError => k_is)
    (case e2_ec_BarError => k_is)
    (case e3_ec_BarError => k_is)
    (case e4_ec_BarError => k_is)
    (case e5_ec_BarError => k_is)
    (case e6_ec_BarError => k_is)
    (case e7_ec_BarError => k_is)
    (case e8_ec_BarError => k_is)
    (case m1_em_BarError => k_is)
    (case m2_em_BarError => k_is)
    (case m3_em_BarError => k_is)
    (case m4_em_BarError => k_is)
    (case kv_BarError => k_is)
    (case k1_ke_BarError_BadBars => k_is)
    (case k2_ke_BarError_BadBars => k_is)
    (case k3_ke_BarError_BadBars => k_is)
    (case k4_ke_BarError_BadBars => decide)
    (case k1_ke_BarError_NoBar => k_is)
    (case k2_ke_BarError_NoBar => k_is)
    (case k3_ke_BarError_NoBar => k_is)
    (case k4_ke_BarError_NoBar => decide)
    (case k1_ke_BarError_BadPlace => k_is)
    (case k2_ke_BarError_BadPlace => k_is)
    (case k3_ke_BarError_BadPlace => k_is)
    (case k4_ke_BarError_BadPlace => decide)
    (case k1_ke_BarError_BadTree => k_is)
    (case k2_ke_BarError_BadTree => k_is)
    (case k3_ke_BarError_BadTree => k_is)
    (case k4_ke_BarError_BadTree => decide)
    (case k1_ke_BarError_BadLinks => k_is)
    (case k2_ke_BarError_BadLinks => k_is)
    (case k3_ke_BarError_BadLinks => k_is)
    (case k4_ke_BarError_BadLinks => decide)
    (case xi_BadBars => k_exc)
    (case kx_BadBars => k_is)
    (case bx_BadBars => k_is)
    (case tx_BadBars => k_is)
    (case e1_ec_BadBars => k_is)
    (case e2_ec_BadBars => k_is)
    (case e3_ec_BadBars => k_is)
    (case e4_ec_BadBars => k_is)
    (case e5_ec_BadBars => k_is)
    (case e6_ec_BadBars => k_is)
    (case e7_ec_BadBars => k_is)
    (case e8_ec_BadBars => k_is)
    (case m1_em_BadBars => k_is)
    (case m2_em_BadBars => k_is)
    (case m3_em_BadBars => k_is)
    (case m4_em_BadBars => k_is)
    (case kv_BadBars => k_is)
    (case k1_ke_BadBars_BarError => k_is)
    (case k2_ke_BadBars_BarError => k_is)
    (case k3_ke_BadBars_BarError => k_is)
    (case k4_ke_BadBars_BarError => decide)
    (case k1_ke_BadBars_NoBar => k_is)
    (case k2_ke_BadBars_NoBar => k_is)
    (case k3_ke_BadBars_NoBar => k_is)
    (case k4_ke_BadBars_NoBar => decide)
    (case k1_ke_BadBars_BadPlace => k_is)
    (case k2_ke_BadBars_BadPlace => k_is)
    (case k3_ke_BadBars_BadPlace => k_is)
    (case k4_ke_BadBars_BadPlace => decide)
    (case k1_ke_BadBars_BadTree => k_is)
    (case k2_ke_BadBars_BadTree => k_is)
    (case k3_ke_BadBars_BadTree => k_is)
    (case k4_ke_BadBars_BadTree => decide)
    (case k1_ke_BadBars_BadLinks => k_is)
    (case k2_ke_BadBars_BadLinks => k_is)
    (case k3_ke_BadBars_BadLinks => k_is)
    (case k4_ke_BadBars_BadLinks => decide)
    (case xi_NoBar => k_exc)
    (case kx_NoBar => k_is)
    (case bx_NoBar => k_is)
    (case tx_NoBar => k_is)
    (case e1_ec_NoBar => k_is)
    (case e2_ec_NoBar => k_is)
    (case e3_ec_NoBar => k_is)
    (case e4_ec_NoBar => k_is)
    (case e5_ec_NoBar => k_is)
    (case e6_ec_NoBar => k_is)
    (case e7_ec_NoBar => k_is)
    (case e8_ec_NoBar => k_is)
    (case m1_em_NoBar => k_is)
    (case m2_em_NoBar => k_is)
    (case m3_em_NoBar => k_is)
    (case m4_em_NoBar => k_is)
    (case kv_NoBar => k_is)
    (case k1_ke_NoBar_BarError => k_is)
    (case k2_ke_NoBar_BarError => k_is)
    (case k3_ke_NoBar_BarError => k_is)
    (case k4_ke_NoBar_BarError => decide)
    (case k1_ke_NoBar_BadBars => k_is)
    (case k2_ke_NoBar_BadBars => k_is)
    (case k3_ke_NoBar_BadBars => k_is)
    (case k4_ke_NoBar_BadBars => decide)
    (case k1_ke_NoBar_BadPlace => k_is)
    (case k2_ke_NoBar_BadPlace => k_is)
    (case k3_ke_NoBar_BadPlace => k_is)
    (case k4_ke_NoBar_BadPlace => decide)
    (case k1_ke_NoBar_BadTree => k_is)
    (case k2_ke_NoBar_BadTree => k_is)
    (case k3_ke_NoBar_BadTree => k_is)
    (case k4_ke_NoBar_BadTree => decide)
    (case k1_ke_NoBar_BadLinks => k_is)
    (case k2_ke_NoBar_BadLinks => k_is)
    (case k3_ke_NoBar_BadLinks => k_is)
    (case k4_ke_NoBar_BadLinks => decide)
    (case xi_BadPlace => k_exc)
    (case kx_BadPlace => k_is)
    (case bx_BadPlace => k_is)
    (case tx_BadPlace => k_is)
    (case e1_ec_BadPlace => k_is)
    (case e2_ec_BadPlace => k_is)
    (case e3_ec_BadPlace => k_is)
    (case e4_ec_BadPlace => k_is)
    (case e5_ec_BadPlace => k_is)
    (case e6_ec_BadPlace => k_is)
    (case e7_ec_BadPlace => k_is)
    (case e8_ec_BadPlace => k_is)
    (case m1_em_BadPlace => k_is)
    (case m2_em_BadPlace => k_is)
    (case m3_em_BadPlace => k_is)
    (case m4_em_BadPlace => k_is)
    (case kv_BadPlace => k_is)
    (case k1_ke_BadPlace_BarError => k_is)
    (case k2_ke_BadPlace_BarError => k_is)
    (case k3_ke_BadPlace_BarError => k_is)
    (case k4_ke_BadPlace_BarError => decide)
    (case k1_ke_BadPlace_BadBars => k_is)
    (case k2_ke_BadPlace_BadBars => k_is)
    (case k3_ke_BadPlace_BadBars => k_is)
    (case k4_ke_BadPlace_BadBars => decide)
    (case k1_ke_BadPlace_NoBar => k_is)
    (case k2_ke_BadPlace_NoBar => k_is)
    (case k3_ke_BadPlace_NoBar => k_is)
    (case k4_ke_BadPlace_NoBar => decide)
    (case k1_ke_BadPlace_BadTree => k_is)
    (case k2_ke_BadPlace_BadTree => k_is)
    (case k3_ke_BadPlace_BadTree => k_is)
    (case k4_ke_BadPlace_BadTree => decide)
    (case k1_ke_BadPlace_BadLinks => k_is)
    (case k2_ke_BadPlace_BadLinks => k_is)
    (case k3_ke_BadPlace_BadLinks => k_is)
    (case k4_ke_BadPlace_BadLinks => decide)
    (case xi_BadTree => k_exc)
    (case kx_BadTree => k_is)
    (case bx_BadTree => k_is)
    (case tx_BadTree => k_is)
    (case e1_ec_BadTree => k_is)
    (case e2_ec_BadTree => k_is)
    (case e3_ec_BadTree => k_is)
    (case e4_ec_BadTree => k_is)
    (case e5_ec_BadTree => k_is)
    (case e6_ec_BadTree => k_is)
    (case e7_ec_BadTree => k_is)
    (case e8_ec_BadTree => k_is)
    (case m1_em_BadTree => k_is)
    (case m2_em_BadTree => k_is)
    (case m3_em_BadTree => k_is)
    (case m4_em_BadTree => k_is)
    (case kv_BadTree => k_is)
    (case k1_ke_BadTree_BarError => k_is)
    (case k2_ke_BadTree_BarError => k_is)
    (case k3_ke_BadTree_BarError => k_is)
    (case k4_ke_BadTree_BarError => decide)
    (case k1_ke_BadTree_BadBars => k_is)
    (case k2_ke_BadTree_BadBars => k_is)
    (case k3_ke_BadTree_BadBars => k_is)
    (case k4_ke_BadTree_BadBars => decide)
    (case k1_ke_BadTree_NoBar => k_is)
    (case k2_ke_BadTree_NoBar => k_is)
    (case k3_ke_BadTree_NoBar => k_is)
    (case k4_ke_BadTree_NoBar => decide)
    (case k1_ke_BadTree_BadPlace => k_is)
    (case k2_ke_BadTree_BadPlace => k_is)
    (case k3_ke_BadTree_BadPlace => k_is)
    (case k4_ke_BadTree_BadPlace => decide)
    (case k1_ke_BadTree_BadLinks => k_is)
    (case k2_ke_BadTree_BadLinks => k_is)
    (case k3_ke_BadTree_BadLinks => k_is)
    (case k4_ke_BadTree_BadLinks => decide)
    (case xi_BadLinks => k_exc)
    (case kx_BadLinks => k_is)
    (case bx_BadLinks => k_is)
    (case tx_BadLinks => k_is)
    (case e1_ec_BadLinks => k_is)
    (case e2_ec_BadLinks => k_is)
    (case e3_ec_BadLinks => k_is)
    (case e4_ec_BadLinks => k_is)
    (case e5_ec_BadLinks => k_is)
    (case e6_ec_BadLinks => k_is)
    (case e7_ec_BadLinks => k_is)
    (case e8_ec_BadLinks => k_is)
    (case m1_em_BadLinks => k_is)
    (case m2_em_BadLinks => k_is)
    (case m3_em_BadLinks => k_is)
    (case m4_em_BadLinks => k_is)
    (case kv_BadLinks => k_is)
    (case k1_ke_BadLinks_BarError => k_is)
    (case k2_ke_BadLinks_BarError => k_is)
    (case k3_ke_BadLinks_BarError => k_is)
    (case k4_ke_BadLinks_BarError => decide)
    (case k1_ke_BadLinks_BadBars => k_is)
    (case k2_ke_BadLinks_BadBars => k_is)
    (case k3_ke_BadLinks_BadBars => k_is)
    (case k4_ke_BadLinks_BadBars => decide)
    (case k1_ke_BadLinks_NoBar => k_is)
    (case k2_ke_BadLinks_NoBar => k_is)
    (case k3_ke_BadLinks_NoBar => k_is)
    (case k4_ke_BadLinks_NoBar => decide)
    (case k1_ke_BadLinks_BadPlace => k_is)
    (case k2_ke_BadLinks_BadPlace => k_is)
    (case k3_ke_BadLinks_BadPlace => k_is)
    (case k4_ke_BadLinks_BadPlace => decide)
    (case k1_ke_BadLinks_BadTree => k_is)
    (case k2_ke_BadLinks_BadTree => k_is)
    (case k3_ke_BadLinks_BadTree => k_is)
    (case k4_ke_BadLinks_BadTree => decide)
    (case pg_cl_Answer => k_is)
    (case hd_cl_Answer => k_is)
    (case po_cl_Answer => k_is)
    (case sa_cl_Answer => k_is)
    (case ha_ic_Answer => k_is)
    (case hn_ic_Answer => k_is)
    (case ht_ic_Answer => k_is)
    (case hm_ic_Answer => k_is)
    (case k1_ki_Answer_Board => k_is)
    (case k2_ki_Answer_Board => k_is)
    (case k3_ki_Answer_Board => k_is)
    (case k4_ki_Answer_Board => decide)
    (case k1_ki_Answer_Row => k_is)
    (case k2_ki_Answer_Row => k_is)
    (case k3_ki_Answer_Row => k_is)
    (case k4_ki_Answer_Row => decide)
    (case k1_ki_Answer_Crossed => k_is)
    (case k2_ki_Answer_Crossed => k_is)
    (case k3_ki_Answer_Crossed => k_is)
    (case k4_ki_Answer_Crossed => decide)
    (case pg_cl_Board => k_is)
    (case hd_cl_Board => k_is)
    (case po_cl_Board => k_is)
    (case sa_cl_Board => k_is)
    (case ha_ic_Board => k_is)
    (case hn_ic_Board => k_is)
    (case ht_ic_Board => k_is)
    (case hm_ic_Board => k_is)
    (case na_Board_first => k_is)
    (case na_Board_many => k_is)
    (case na_Board_high => k_is)
    (case na_Board_around => k_is)
    (case k1_ki_Board_Answer => k_is)
    (case k2_ki_Board_Answer => k_is)
    (case k3_ki_Board_Answer => k_is)
    (case k4_ki_Board_Answer => decide)
    (case k1_ki_Board_Row => k_is)
    (case k2_ki_Board_Row => k_is)
    (case k3_ki_Board_Row => k_is)
    (case k4_ki_Board_Row => decide)
    (case k1_ki_Board_Crossed => k_is)
    (case k2_ki_Board_Crossed => k_is)
    (case k3_ki_Board_Crossed => k_is)
    (case k4_ki_Board_Crossed => decide)
    (case pg_cl_Row => k_is)
    (case hd_cl_Row => k_is)
    (case po_cl_Row => k_is)
    (case sa_cl_Row => k_is)
    (case ha_ic_Row => k_is)
    (case hn_ic_Row => k_is)
    (case ht_ic_Row => k_is)
    (case hm_ic_Row => k_is)
    (case na_Row_bars => k_is)
    (case k1_ki_Row_Answer => k_is)
    (case k2_ki_Row_Answer => k_is)
    (case k3_ki_Row_Answer => k_is)
    (case k4_ki_Row_Answer => decide)
    (case k1_ki_Row_Board => k_is)
    (case k2_ki_Row_Board => k_is)
    (case k3_ki_Row_Board => k_is)
    (case k4_ki_Row_Board => decide)
    (case k1_ki_Row_Crossed => k_is)
    (case k2_ki_Row_Crossed => k_is)
    (case k3_ki_Row_Crossed => k_is)
    (case k4_ki_Row_Crossed => decide)
    (case pg_cl_Crossed => k_is)
    (case hd_cl_Crossed => k_is)
    (case po_cl_Crossed => k_is)
    (case sa_cl_Crossed => k_is)
    (case ha_ic_Crossed => k_is)
    (case hn_ic_Crossed => k_is)
    (case ht_ic_Crossed => k_is)
    (case hm_ic_Crossed => k_is)
    (case na_Crossed_first => k_is)
    (case na_Crossed_second => k_is)
    (case k1_ki_Crossed_Answer => k_is)
    (case k2_ki_Crossed_Answer => k_is)
    (case k3_ki_Crossed_Answer => k_is)
    (case k4_ki_Crossed_Answer => decide)
    (case k1_ki_Crossed_Board => k_is)
    (case k2_ki_Crossed_Board => k_is)
    (case k3_ki_Crossed_Board => k_is)
    (case k4_ki_Crossed_Board => decide)
    (case k1_ki_Crossed_Row => k_is)
    (case k2_ki_Crossed_Row => k_is)
    (case k3_ki_Crossed_Row => k_is)
    (case k4_ki_Crossed_Row => decide)
    (case a_is_number => k_is)
    (case l_is_number => k_is)
    (case d_is_number => k_is)
    (case k_is_number => k_is)
    (case a_asked_bars => k_is)
    (case l_asked_bars => k_is)
    (case d_asked_bars => k_is)
    (case k_asked_bars => k_is)
    (case a_sees => k_is)
    (case l_sees => k_is)
    (case d_sees => k_is)
    (case k_sees => k_is)
    (case a_ahead_of => k_is)
    (case l_ahead_of => k_is)
    (case d_ahead_of => k_is)
    (case k_ahead_of => k_is)
    (case a_behind_of => k_is)
    (case l_behind_of => k_is)
    (case d_behind_of => k_is)
    (case k_behind_of => k_is)
    (case a_reaches => k_is)
    (case l_reaches => k_is)
    (case d_reaches => k_is)
    (case k_reaches => k_is)
    (case a_seen_ahead => k_is)
    (case l_seen_ahead => k_is)
    (case d_seen_ahead => k_is)
    (case k_seen_ahead => k_is)
    (case a_shown => k_is)
    (case l_shown => k_is)
    (case d_shown => k_is)
    (case k_shown => k_is)
    (case a_board => k_is)
    (case l_board => k_is)
    (case d_board => k_is)
    (case k_board => k_is)
    (case a_highest_so_far => k_is)
    (case l_highest_so_far => k_is)
    (case d_highest_so_far => k_is)
    (case k_highest_so_far => k_is)
    (case a_levels => k_is)
    (case l_levels => k_is)
    (case d_levels => k_is)
    (case k_levels => k_is)
    (case a_water => k_is)
    (case l_water => k_is)
    (case d_water => k_is)
    (case k_water => k_is)
    (case a_rims => k_is)
    (case l_rims => k_is)
    (case d_rims => k_is)
    (case k_rims => k_is)
    (case a_links => k_is)
    (case l_links => k_is)
    (case d_links => k_is)
    (case k_links => k_is)
    (case a_parents_of => k_is)
    (case l_parents_of => k_is)
    (case d_parents_of => k_is)
    (case k_parents_of => k_is)
    (case a_tree => k_is)
    (case l_tree => k_is)
    (case d_tree => k_is)
    (case k_tree => k_is)
    (case a__law_bars_asked => k_is)
    (case l__law_bars_asked => k_is)
    (case d__law_bars_asked => k_is)
    (case k__law_bars_asked => k_is)
    (case a__law_places_asked => k_is)
    (case l__law_places_asked => k_is)
    (case d__law_places_asked => k_is)
    (case k__law_places_asked => k_is)
    (case a_depths => k_is)
    (case l_depths => k_is)
    (case d_depths => k_is)
    (case k_depths => k_is)
    (case a_bars_of => k_is)
    (case l_bars_of => k_is)
    (case d_bars_of => k_is)
    (case k_bars_of => k_is)
    (case a__law_trees_asked => k_is)
    (case l__law_trees_asked => k_is)
    (case d__law_trees_asked => k_is)
    (case k__law_trees_asked => k_is)
    (case a_row_of => k_is)
    (case l_row_of => k_is)
    (case d_row_of => k_is)
    (case k_row_of => k_is)
    (case a__law_links_asked => k_is)
    (case l__law_links_asked => k_is)
    (case d__law_links_asked => k_is)
    (case k__law_links_asked => k_is)
    (case a__law_told => k_is)
    (case l__law_told => k_is)
    (case d__law_told => k_is)
    (case k__law_told => k_is)
    (case a_Board___init__ => k_is)
    (case i_Board___init__ => k_is)
    (case l_Board___init__ => k_is)
    (case d_Board___init__ => k_is)
    (case k_Board___init__ => k_is)
    (case mk_Board___init__ => k_is)
    (case kc_Board___init__ => k_is)
    (case a_Row___init__ => k_is)
    (case i_Row___init__ => k_is)
    (case l_Row___init__ => k_is)
    (case d_Row___init__ => k_is)
    (case k_Row___init__ => k_is)
    (case mk_Row___init__ => k_is)
    (case kc_Row___init__ => k_is)
    (case a_Crossed___init__ => k_is)
    (case i_Crossed___init__ => k_is)
    (case l_Crossed___init__ => k_is)
    (case d_Crossed___init__ => k_is)
    (case k_Crossed___init__ => k_is)
    (case mk_Crossed___init__ => k_is)
    (case kc_Crossed___init__ => k_is)
    (case a_law => k_is)
    (case l_law => k_is)
    (case d_law => k_is)
    (case k_law => k_is)
#print axioms PySem.Challenge.cw_skybars_k09_refused_holds

