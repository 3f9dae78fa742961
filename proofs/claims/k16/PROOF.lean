import PyProof.Rows.All
import Wide.All
import OpenK.AllK
import Wide.FinOn
import HandS.ForMost
import HandS.Wide
import HandS.Style
import HandS.SortInts
import HandS.Deep
import HandS.Defaults
import HandS.Flow
import HandS.IsInst
import HandS.Codes
import HandS.NoneIn
import HandS.Property
import HandS.RaiseMore
import PyProof.ReprRoads
import PyProof.LongRange
import HandS.Exc
import HandS.ExcInit
import HandS.NestedK
import KE.KExcSuper
import HandS.ExcIs
import HandS.ExcField
import KE.KExcIs
import HandS.WordsExc
import HandS.MakeKwOnly
import HandS.SetFor
import KE.RegKIsAll
import HandS.Walk
import HandS.Star
import KE.KUnpackStar
import HandS.ExcCtx
import HandS.HotCalls
import HandS.Hot
import PyProof.TupleIter
import PySem.Challenge.RW_squeezelists_k16_errors_of_parting
set_option Elab.async false
set_option linter.all false
set_option maxRecDepth 100000
set_option maxHeartbeats 4000000
namespace Sq
open PySem PySem.Spec PyProof.Rows L2
/-! ## operators -/
/-- a power whose base has at most 100000 bits -/
def CPowW (i j : Int) : Prop := 0 ≤ j ∧ j ≤ 1000 ∧ i.natAbs.log2 < 100000
theorem bitsOf_le (i : Int) : Builtin.Int.intBits i ≤ i.natAbs.log2 + 1 := by
  unfold Builtin.Int.intBits
  split <;> omega
theorem op_powW {X : Cx} : OpR X (binaryOp .Pow) (rI CPowW fun i j => .int (i ^ j.toNat)) := opI fun i j _ _ _ _ _ hc q => by
  obtain ⟨h1, h2, h3⟩ := hc
  refine pow_int h1 ?_ q
  have hb := bitsOf_le i
  have h4 : ((Builtin.Int.intBits i : Nat) : Int) ≤ 100000 := by omega
  have h5 := Int.mul_le_mul h4 h2 h1 (by decide : (0 : Int) ≤ 100000)
  exact Int.le_trans h5 (by decide)
def ipIC (C : Int → Int → Prop) (f : Int → Int → Int) : TIp := fun x y H Q => ∃ i j, x = .int i ∧ y = .int j ∧ C i j ∧ Q (.int (f i j)) H
section
variable {X : Cx}
theorem ip_mulW : PIp X .Mult (ipIC CMulW fun i j => i * j) := by
  intro pins s σ H x y v u Q I r1 r2 h
  obtain ⟨i, j, e1, e2, c, q⟩ := h
  subst e1; subst e2
  obtain ⟨t, rfl⟩ := r1
  obtain ⟨t', rfl⟩ := r2
  exact imul_int ⟨.int _, H, I.tok _, ⟨_, rfl⟩, q⟩ c.ok
theorem ip_fdivW : PIp X .FloorDiv (ipIC CDivW fun i j => i / j) := by
  intro pins s σ H x y v u Q I r1 r2 h
  obtain ⟨i, j, e1, e2, c, q⟩ := h
  subst e1; subst e2
  obtain ⟨t, rfl⟩ := r1
  obtain ⟨t', rfl⟩ := r2
  have h1 : (0 : Int) < j := c.1
  refine ifloordiv_int (by omega) ?_ (.inl (PyProof.noPylong_of_log2 c.2))
  rw [Int.fdiv_eq_ediv_of_nonneg i (by omega)]
  exact ⟨.int _, H, I.tok _, ⟨_, rfl⟩, q⟩
end
/-- numbers below 2 ^ n have a small log2 -/
theorem lg_lt {i : Int} {n : Nat} (h : i.natAbs < 2 ^ n) (h0 : 0 < n) : i.natAbs.log2 < n := PySem.Flt.log2_lt_of h0 h

/-! ## sizes -/
/-- at most b bits -/
def Sm (b : Nat) (i : Int) : Prop := i.natAbs < 2 ^ b
theorem Sm.mono {a b : Nat} {i : Int} (h : Sm a i) (hab : a ≤ b) : Sm b i := Nat.lt_of_lt_of_le h (Nat.pow_le_pow_right (by decide) hab)
theorem Sm.lg {b : Nat} {i : Int} (h : Sm b i) (h0 : 0 < b) : i.natAbs.log2 < b := PySem.Flt.log2_lt_of h0 h
theorem Sm.add {b : Nat} {i j : Int} (h : Sm b i) (h' : Sm b j) : Sm (b + 1) (i + j) := by
  have e : 2 ^ (b + 1) = 2 ^ b + 2 ^ b := by rw [Nat.pow_succ]; omega
  unfold Sm at *
  omega
theorem Sm.neg {b : Nat} {i : Int} (h : Sm b i) : Sm b (-i) := by
  unfold Sm at *
  rw [Int.natAbs_neg]
  exact h
theorem Sm.sub {b : Nat} {i j : Int} (h : Sm b i) (h' : Sm b j) : Sm (b + 1) (i - j) := by
  rw [Int.sub_eq_add_neg]
  exact h.add h'.neg
theorem Sm.mul {a b : Nat} {i j : Int} (h : Sm a i) (h' : Sm b j) : Sm (a + b) (i * j) := by
  unfold Sm at *
  rw [Int.natAbs_mul, Nat.pow_add]
  exact Nat.mul_lt_mul'' h h'
theorem Sm.le {b : Nat} {i j : Int} (h : Sm b j) (h0 : 0 ≤ i) (hij : i ≤ j) : Sm b i := by
  unfold Sm at *
  omega
theorem Sm.wide {a b : Nat} {i j : Int} (h : Sm a i) (h' : Sm b j) (ha : 0 < a) (hb : 0 < b) (hab : a + b ≤ 1000000) : CMulW i j := by
  have h1 := h.lg ha
  have h2 := h'.lg hb
  unfold CMulW
  omega
/-- a small number -/
theorem Sm.of {b : Nat} {i : Int} (h : i.natAbs < 2 ^ 10) (hb : 10 ≤ b) : Sm b i := Sm.mono (a := 10) h hb
theorem div_ok {i k : Int} (h : 0 < k) (h2 : k < 2 ^ 240) : CDivW i k := ⟨h, Nat.lt_trans ((show Sm 240 k by unfold Sm; omega).lg (by decide)) (by decide)⟩
theorem pow_ok {b : Nat} {i j : Int} (h : Sm b i) (h0 : 0 < b) (hb : b ≤ 100000) (j0 : 0 ≤ j) (j1 : j ≤ 1000) : CPowW i j := ⟨j0, j1, Nat.lt_of_lt_of_le (h.lg h0) hb⟩
/-! ## rules whose reading speaks of the written part K itself (a comprehension's block has it too) -/
section
variable {X : Cx} {K : PySem.W.Frag}
theorem ix_listK (h : X.K = K := by rfl) : IxR X (rIxL K) := by subst h; exact ix_list
theorem ix_tupK (h : X.K = K := by rfl) : IxR X (rIxT K) := by subst h; exact ix_tup
theorem sl_listK (h : X.K = K := by rfl) : SlR X (rSlL K) := by subst h; exact sl_list
theorem sl_tupK (h : X.K = K := by rfl) : SlR X (rSlT K) := by subst h; exact sl_tup
def rLenQ (K : PySem.W.Frag) : List V → Hp → VK → Prop := fun xs H Q => ∃ p ys, xs = [.ref p] ∧ SqL K H p ys ∧ Q (.int ys.length) H
theorem len_seqK (h : X.K = K := by rfl) : CallR X (.builtin "len") (rLenQ K) := by
  subst h
  intro pins s σ H xs us Q I r q
  obtain ⟨p, ys, e, hs, q⟩ := q
  exact call_len_seq pins s σ H xs us Q I r ⟨p, ys, e, .inl hs, q⟩
/-- readings that are not to be opened by themselves -/
@[irreducible] def rEqQ (K : PySem.W.Frag) : R2 := rEqD K
@[irreducible] def rNeQ (K : PySem.W.Frag) : R2 := rNeD K
@[irreducible] def rInQ (K : PySem.W.Frag) : R2 := rInD K
@[irreducible] def rNotInQ (K : PySem.W.Frag) : R2 := rNotInD K
theorem rEqQ_of {H : Hp} {x y : V} {Q : VK} (h : rEqD K x y H Q) : rEqQ K x y H Q := by unfold rEqQ; exact h
theorem rNeQ_of {H : Hp} {x y : V} {Q : VK} (h : rNeD K x y H Q) : rNeQ K x y H Q := by unfold rNeQ; exact h
theorem rInQ_of {H : Hp} {x y : V} {Q : VK} (h : rInD K x y H Q) : rInQ K x y H Q := by unfold rInQ; exact h
theorem rNotInQ_of {H : Hp} {x y : V} {Q : VK} (h : rNotInD K x y H Q) : rNotInQ K x y H Q := by unfold rNotInQ; exact h
theorem op_eqDK (hu : X.A.units + 64 < cLine) (h : X.K = K := by rfl) : OpR X (compareOp .Eq) (rEqQ K) := by subst h; unfold rEqQ; exact op_eqD hu
theorem op_neDK (hu : X.A.units + 64 < cLine) (h : X.K = K := by rfl) : OpR X (compareOp .NotEq) (rNeQ K) := by subst h; unfold rNeQ; exact op_neD hu
theorem op_inDK (hu : X.A.units + 65 < cLine) (h : X.K = K := by rfl) : OpR X (compareOp .In) (rInQ K) := by subst h; unfold rInQ; exact op_inD hu
theorem op_notInDK (hu : X.A.units + 65 < cLine) (h : X.K = K := by rfl) : OpR X (compareOp .NotIn) (rNotInQ K) := by subst h; unfold rNotInQ; exact op_notInD hu
theorem isiK (h : X.K = K := by rfl) : CallR X (.builtin "isinstance") (rIsi K) := by subst h; exact call_isi
def rListOf (K : PySem.W.Frag) : List V → Hp → VK → Prop := fun xs H Q => ∃ p ys, xs = [.ref p] ∧ SqL K H p ys ∧ ∀ l, H l = none → Q (.ref l) (upd H l (.lst ys))
theorem list_ofK (h : X.K = K := by rfl) : CallR X (.type "list") (rListOf K) := by
  subst h
  intro pins s σ H xs us Q I r q
  obtain ⟨p, ys, e, hs, q⟩ := q
  exact call_list_of pins s σ H xs us Q I r ⟨p, ys, e, .inl hs, q⟩
theorem cr_sumK (hc : X.calm = true) (h : X.K = K := by rfl) : CallR X (.builtin "sum") (rSum K) := by subst h; exact cr_sum hc
theorem cr_maxK (hc : X.calm = true) (h : X.K = K := by rfl) : CallR X (.builtin "max") (rMax K) := by subst h; exact cr_max hc
theorem cr_minK (hc : X.calm = true) (h : X.K = K := by rfl) : CallR X (.builtin "min") (rMin K) := by subst h; exact cr_min hc
theorem cr_allK (hc : X.calm = true) (h : X.K = K := by rfl) : CallR X (.builtin "all") (rAll K) := by subst h; exact cr_all hc
theorem cr_anyK (hc : X.calm = true) (h : X.K = K := by rfl) : CallR X (.builtin "any") (rAny K) := by subst h; exact cr_any hc
theorem cr_sortedIK (h : X.K = K := by rfl) : CallR X (.builtin "sorted") (rSortedI K) := by subst h; exact cr_sortedI
variable {e a b : Expr} {te ta tb : TE} {es : List Expr} {t : TA} {tgs : TGs} {tg : Expr} {pos p q : Pos} {n : Nat}
theorem pi_listK (he : PE X e te) (h : X.K = K := by rfl) : PI X tg e (iList K te) := by subst h; exact pi_list he
theorem pg_tupK {k : Nat} (hc : X.calm = true) (hg : PGs X es tgs) (hn : (assignEach es X.env).length = n := by rfl) (hst : (assignEach es X.env).findIdx? (·.1) = none := by rfl) (h : X.K = K := by rfl) : PG X (.Tuple es k pos) (gTup K n tgs) := by
  subst h
  exact pg_tup hc hg hn hst
theorem pg_lstK {k : Nat} (hc : X.calm = true) (hg : PGs X es tgs) (hn : (assignEach es X.env).length = n := by rfl) (hst : (assignEach es X.env).findIdx? (·.1) = none := by rfl) (h : X.K = K := by rfl) : PG X (.Tuple es k pos) (gUnl K n tgs) := by
  subst h
  exact pg_unl hc hg hn hst
theorem pi_enumK {elts : List Expr} {kk : Nat} (hg : Gl X "enumerate") (hm : X.mg "enumerate" = none) (ha : PA X [e] t) (hs : starEach [e] X.env = [(false, eval e X.env)] := by rfl) (h : X.K = K := by rfl) :
    PI X (.Tuple elts kk p) (.Call (.Name "enumerate" q) [e] [] pos) (iEnum K t) := by
  subst h
  exact pi_enum hg hm ha hs
theorem pi_zipK {elts : List Expr} {kk : Nat} (hg : Gl X "zip") (hm : X.mg "zip" = none) (ha : PA X [a, b] t) (hs : starEach [a, b] X.env = (false, eval a X.env) :: starEach [b] X.env := by rfl)
    (hpl : (backTo pos (starEach [b] X.env)).any (·.1) = false := by rfl) (h : X.K = K := by rfl) : PI X (.Tuple elts kk p) (.Call (.Name "zip" q) [a, b] [] pos) (iZip K t) := by
  subst h
  exact pi_zip hg hm ha hs hpl
theorem pe_revLK {k : Nat} {p1 p2 p3 : Pos} (he : PE X e te) (h : X.K = K := by rfl) : PE X (.Subscript e (.Slice none none (some (.UnaryOp .USub (.Constant (.int 1) k p1) p2)) p3) pos) (tRevL K te) := by
  subst h
  exact pe_revL he
theorem pe_fldK {f : Str} (he : PE X e te) (hb : attributeBase e f X.env (eval e X.env) = eval e X.env := by rfl) (h : X.K = K := by rfl) : PE X (.Attribute e f pos) (tFld K te f) := by
  subst h
  exact pe_fld he hb
end

/-! ## heaps -/
/-- what holds between the turns of a loop (a wrapper: it is not taken apart by itself) -/
structure Keep (P : Prop) : Prop where
  o : P

theorem Same.get {H H' : Hp} {a : Addr} {o : HO} (s : Same H H') (h : H a = some o) : H' a = some o := s a o h
theorem same_new {H : Hp} {p : Addr} {o : HO} (h : H p = none) : Same H (upd H p o) := fun b u e => by
  rw [upd_ne (ne_of_none e h)]
  exact e
theorem upd_keep {H : Hp} {p a : Addr} {o u : HO} (n : H p = none) (h : H a = some u) : upd H p o a = some u := same_new n a u h
theorem upd_off {H : Hp} {p a : Addr} {o u : HO} (n : a ≠ p) (h : H a = some u) : upd H p o a = some u := by
  rw [upd_ne n]
  exact h
/-- a source of draws: what is true of it, where it stands -/
structure Rg where
  I : Hp → Prop
  S : Addr → Prop
  loc : ∀ H H' : Hp, (∀ a, S a → H' a = H a) → I H → I H'
  has : ∀ (H : Hp) (a : Addr), I H → S a → H a ≠ none
/-- the heap H is the quiet part G and the source -/
structure Sep (R : Rg) (G H : Hp) : Prop where
  inv : R.I H
  same : Same G H
  off : ∀ a, R.S a → G a = none
section
variable {R : Rg} {G G' H H' : Hp} {p a : Addr} {o u : HO}
theorem Sep.get (s : Sep R G H) (h : G a = some o) : H a = some o := s.same a o h
theorem Sep.free (s : Sep R G H) (h : H p = none) : G p = none := s.same.free h
theorem Sep.weak (s : Sep R G H) (h : Same G' G) : Sep R G' H := ⟨s.inv, h.trans s.same, fun a ha => by
  cases q : G' a with
  | none => rfl
  | some o =>
    have z := h a o q
    rw [s.off a ha] at z
    cases z⟩
theorem Sep.new (s : Sep R G H) (h : H p = none) (o : HO) : Sep R (upd G p o) (upd H p o) := by
  have np : ∀ a, R.S a → a ≠ p := fun a ha e => R.has H a s.inv ha (by rw [e]; exact h)
  refine ⟨R.loc H _ (fun a ha => upd_ne (np a ha)) s.inv, fun b x e => ?_, fun a ha => by rw [upd_ne (np a ha)]; exact s.off a ha⟩
  by_cases hb : b = p
  · rw [hb, upd_same] at e
    rw [hb, upd_same]
    exact e
  · rw [upd_ne hb] at e
    rw [upd_ne hb]
    exact s.same b x e
/-- a store into an object of the quiet part -/
theorem Sep.put (s : Sep R G H) (h : G p = some u) (o : HO) : Sep R (upd G p o) (upd H p o) := by
  have np : ∀ a, R.S a → a ≠ p := fun a ha e => by
    have z := s.off a ha
    rw [e, h] at z
    cases z
  refine ⟨R.loc H _ (fun a ha => upd_ne (np a ha)) s.inv, fun b x e => ?_, fun a ha => by rw [upd_ne (np a ha)]; exact s.off a ha⟩
  by_cases hb : b = p
  · rw [hb, upd_same] at e
    rw [hb, upd_same]
    exact e
  · rw [upd_ne hb] at e
    rw [upd_ne hb]
    exact s.same b x e
/-- behind something that only makes new things -/
theorem Sep.on (s : Sep R G H) (h : Same H H') : Sep R G H' := by
  refine ⟨R.loc H _ (fun a ha => ?_) s.inv, s.same.trans h, s.off⟩
  cases q : H a with
  | none => exact absurd q (R.has H a s.inv ha)
  | some o => exact h a o q
theorem Sep.grow (s : Sep R G H) (h : Same H H') (n : H p = none) (e : H' p = some o) : Sep R (upd G p o) H' := by
  have s' := s.on h
  have np : ∀ a, R.S a → a ≠ p := fun a ha z => R.has H a s.inv ha (by rw [z]; exact n)
  refine ⟨s'.inv, fun b x q => ?_, fun a ha => by rw [upd_ne (np a ha)]; exact s.off a ha⟩
  by_cases hb : b = p
  · rw [hb, upd_same] at q
    rw [hb, e]
    exact q
  · rw [upd_ne hb] at q
    exact s'.same b x q
end
/-- a source of draws that is a list of three ints: digits, a mix, a count that is at most N -/
def R3 (r : Addr) (N a b c : Int) (H : Hp) : Prop := H r = some (.lst [.int a, .int b, .int c]) ∧ 0 ≤ a ∧ 0 ≤ b ∧ b < 2 ^ 100 ∧ 0 ≤ c ∧ c ≤ N
def rg3 (r : Addr) (N : Int) : Rg where
  I := fun H => ∃ a b c, R3 r N a b c H
  S := fun x => x = r
  loc := fun H H' e ⟨a, b, c, h1, h2⟩ => ⟨a, b, c, (e r rfl).trans h1, h2⟩
  has := fun H x ⟨a, b, c, h1, _⟩ hx => by
    subst hx
    rw [h1]
    exact fun z => nomatch z
theorem Sep3.redo {r : Addr} {N N' : Int} {G H : Hp} {o : HO} (s : Sep (rg3 r N) G H) (h : ∃ a b c, R3 r N' a b c (upd H r o)) : Sep (rg3 r N') G (upd H r o) := by
  refine ⟨h, fun b u q => ?_, s.off⟩
  have nr : b ≠ r := fun z => by
    have := s.off b z
    rw [q] at this
    cases this
  rw [upd_ne nr]
  exact s.same b u q
theorem Sep3.mono {r : Addr} {N N' : Int} {G H : Hp} (s : Sep (rg3 r N) G H) (h : N ≤ N') : Sep (rg3 r N') G H := by
  obtain ⟨a, b, c, h1, h2, h3, h4, h5, h6⟩ := s.inv
  exact ⟨⟨a, b, c, h1, h2, h3, h4, h5, by omega⟩, s.same, s.off⟩
/-- a draw from it -/
def spDraw3 : Sp := fun vs H Q _ => ∃ (r : Addr) (m N : Int) (G : Hp), vs = [.ref r, .int m] ∧ Sep (rg3 r N) G H ∧ Keep (0 < m ∧ m < 2 ^ 240 ∧ N < 2 ^ 60) ∧ ∀ v H', 0 ≤ v → v < m → Sep (rg3 r (N + 1)) G H' → Q (.int v) H'
theorem seqL_of {K : PySem.W.Frag} {H : Hp} {a : Addr} {xs : List V} (h : H a = some (.lst xs)) : SqL K H a xs := .inl (.inl h)
/-- ints as values -/
abbrev iv (ns : List Int) : List V := ns.map V.int
theorem iv_app (ns : List Int) (x : Int) : iv ns ++ [V.int x] = iv (ns ++ [x]) := by simp
theorem iv_len (ns : List Int) : (iv ns).length = ns.length := List.length_map _
theorem iv_get {ns : List Int} {i : Nat} {x : V} (h : (iv ns)[i]? = some x) : ∃ n, ns[i]? = some n ∧ x = .int n := by
  rw [List.getElem?_map] at h
  cases e : ns[i]? with
  | none =>
    rw [e] at h
    cases h
  | some n =>
    rw [e] at h
    exact ⟨n, rfl, (Option.some.inj h).symm⟩

theorem atI_iv {ns : List Int} {i : Int} (h0 : 0 ≤ i) (h1 : i < ns.length) : ∃ n, atI (iv ns) i = some (.int n) := by
  obtain ⟨j, rfl⟩ := Int.eq_ofNat_of_zero_le h0
  have hj : j < ns.length := by omega
  exact ⟨ns[j], atI_nat (by rw [List.getElem?_map, List.getElem?_eq_getElem hj]; rfl)⟩
theorem seqIx0 {n : Nat} (h : 0 < n) : seqIndex? 0 n = some 0 := by
  unfold seqIndex?
  simp
  omega
theorem lit_len {n : Nat} (h : n ≤ 1000) : n ≤ sizeLine := Nat.le_of_lt (small1000 h)
/-- for i, x in enumerate(xs) -/
theorem for_enum {K : PySem.W.Frag} {a : Addr} {xs : List V} {g : TG} {tb : TS} {D : Ends} {σ : L2.St} {H : Hp} (Pv : Nat → L2.St → Hp → Prop) (h0 : Pv 0 σ H) (hq : ∀ i σ H, Pv i σ H → SqL K H a xs)
    (hs : ∀ (i : Nat) (x : V) (T : Addr) (σ : L2.St) (H : Hp), xs[i]? = some x → Pv i σ H → H T = none → g (.ref T) σ (upd H T (.tup [.int (i : Nat), x])) fun σ2 H2 => tb { D with nx := Pv (i + 1), ct := Pv (i + 1), bk := D.nx } σ2 H2) (hd : ∀ σ H, Pv xs.length σ H → D.nx σ H) :
    ∃ W : Nat → Nat → L2.St → Hp → Prop, (∃ m, W 0 m σ H) ∧ ∀ i m σ H, W i m σ H → ((Ite K a).stop i H ∧ D.nx σ H) ∨
      ((Ite K a).go i H ∧ ∃ N : L2.St → Hp → Prop, (∀ σ' H', N σ' H' → ∃ m', m' < m ∧ W (i + 1) m' σ' H') ∧ ∀ v H', (Ite K a).yld i H v H' → g v σ H' fun σ2 H2 => tb { D with nx := N, ct := N, bk := D.nx } σ2 H2) := by
  refine ⟨fun i m σ H => m + i = xs.length ∧ Pv i σ H, ⟨xs.length, rfl, h0⟩, fun i m σ H hW => ?_⟩
  obtain ⟨em, p⟩ := hW
  have q := hq i σ H p
  by_cases lt : i < xs.length
  · have ex : xs[i]? = some xs[i] := List.getElem?_eq_getElem lt
    refine .inr ⟨⟨xs, _, q, ex⟩, Pv (i + 1), fun σ' H' p' => ⟨m - 1, by omega, by omega, p'⟩, fun v H' hy => ?_⟩
    obtain ⟨T, x, rfl, nT, rfl, f⟩ := hy
    exact hs i x T σ H (f xs q) p nT
  · have ei : i = xs.length := by omega
    subst ei
    exact .inl ⟨⟨xs, q, Nat.le_refl _⟩, hd σ H p⟩

/-! ## repr of data, where no repr is under way -/
@[irreducible] def rReprD (K : PySem.W.Frag) : List V → Hp → VK → Prop := fun xs H Q => ∃ (a : Addr) (d : PyData), xs = [.ref a] ∧ Dp K H (.ref a) d ∧ d.showable = true ∧ d.hasDict = false ∧ d.depth ≤ 30 ∧ d.shown.length ≤ sizeLine ∧ Q (.str d.shown) H
theorem call_reprDK {X : Cx} {K : PySem.W.Frag} (hG : X.A.guards = some []) (hu : X.A.units + 64 < cLine) (h : X.K = K := by rfl) : CallR X (.builtin "repr") (rReprD K) := by
  subst h
  intro pins s σ H xs us Q I r h
  unfold rReprD at h
  obtain ⟨a, d, rfl, hd, hs, hn, hdp, hz, q⟩ := h
  obtain ⟨v, rfl, rv⟩ := vals1 r
  cases rv
  obtain ⟨as, rd⟩ := Dp.reads I d _ _ hd rfl
  refine repr_of_reads' rd hs (PyData.noDict_hsm hn) hG (by omega) (fun b o e => e) (fun h' t tk hk => ?_) hz
  exact ⟨.str d.shown, H, I.kept hk, ⟨_, rfl⟩, q⟩
/-! ## lists of ints as data -/
def dI (ns : List Int) : PyData := .list (ns.map .int)
theorem dpall_iv {K : PySem.W.Frag} {H : Hp} : ∀ ns : List Int, DpAll K H (iv ns) (ns.map .int)
  | [] => .nil
  | n :: r => .cons (.int n) (dpall_iv r)
theorem dp_iv {K : PySem.W.Frag} {H : Hp} {a : Addr} {ns : List Int} (h : SqL K H a (iv ns)) : Dp K H (.ref a) (dI ns) := .lst h (dpall_iv ns)
theorem can_ints : ∀ ns : List Int, PyData.canLayAll0 (ns.map .int) = true
  | [] => by simp [PyData.canLayAll0]
  | n :: r => by simp [PyData.canLayAll0, PyData.canLay0, can_ints r]
theorem dep_ints : ∀ ns : List Int, PyData.depthAll (ns.map .int) = 0
  | [] => by simp [PyData.depthAll]
  | n :: r => by simp [PyData.depthAll, PyData.depth, dep_ints r]
theorem eqv_ints : ∀ xs ys : List Int, PyData.eqvAll (xs.map .int) (ys.map .int) = decide (xs = ys)
  | [], [] => by simp [PyData.eqvAll]
  | [], _ :: _ => by simp [PyData.eqvAll]
  | _ :: _, [] => by simp [PyData.eqvAll]
  | x :: r, y :: t => by
    have ih := eqv_ints r t
    simp only [List.map_cons, PyData.eqvAll, PyData.eqv, ih, List.cons.injEq]
    by_cases e : x = y <;> by_cases e2 : r = t <;> simp [e, e2]
theorem shaped_dI (ns : List Int) : SeqAt.shaped (dI ns) = true := by
  unfold SeqAt.shaped dI
  simp only [PyData.canLay0, can_ints, PyData.depth, dep_ints]
  decide
theorem eqv_dI (xs ys : List Int) : PyData.eqv (dI xs) (dI ys) = decide (xs = ys) := by
  unfold dI
  simp only [PyData.eqv, eqv_ints]
theorem shown_ints_len : ∀ ns : List Int, (∀ n ∈ ns, n.natAbs.log2 < 1920) → ((PyData.shownAll (ns.map .int)).map (·.length)).sum ≤ 2000 * ns.length ∧ (PyData.shownAll (ns.map .int)).length = ns.length
  | [], _ => by simp [PyData.shownAll]
  | n :: r, h => by
    obtain ⟨h1, h2⟩ := shown_ints_len r fun m hm => h m (List.mem_cons_of_mem _ hm)
    have e := int_text_length_le (k := 1920) (by decide) (h n (List.mem_cons_self ..))
    have e2 : (PyData.shown (.int n)).length ≤ 2000 := by
      show (Str.ofString (toString n)).length ≤ 2000
      rw [PySem.ofString_length]
      omega
    simp only [List.map_cons, PyData.shownAll, List.sum_cons, List.length_cons]
    omega
theorem show_ints : ∀ ns : List Int, (∀ n ∈ ns, n.natAbs.log2 < 1920) → PyData.showableAll (ns.map .int) = true
  | [], _ => by simp [PyData.showableAll]
  | n :: r, h => by simp [PyData.showableAll, PyData.showable, h n (List.mem_cons_self ..), show_ints r fun m hm => h m (List.mem_cons_of_mem _ hm)]
theorem nod_ints : ∀ ns : List Int, PyData.hasDictAll (ns.map .int) = false
  | [] => by simp [PyData.hasDictAll]
  | n :: r => by simp [PyData.hasDictAll, PyData.hasDict, nod_ints r]
theorem r_eqI {K : PySem.W.Frag} {H : Hp} {a b : Addr} {xs ys : List Int} {Q : VK} (h1 : SqL K H a (iv xs)) (h2 : SqL K H b (iv ys)) (q : Q (.bl (decide (xs = ys))) H) : rEqQ K (.ref a) (.ref b) H Q :=
  rEqQ_of ⟨dI xs, dI ys, dp_iv h1, dp_iv h2, shaped_dI xs, shaped_dI ys, by rw [eqv_dI]; exact q⟩
theorem r_neI {K : PySem.W.Frag} {H : Hp} {a b : Addr} {xs ys : List Int} {Q : VK} (h1 : SqL K H a (iv xs)) (h2 : SqL K H b (iv ys)) (q : Q (.bl (!decide (xs = ys))) H) : rNeQ K (.ref a) (.ref b) H Q :=
  rNeQ_of ⟨dI xs, dI ys, dp_iv h1, dp_iv h2, shaped_dI xs, shaped_dI ys, by rw [eqv_dI]; exact q⟩
theorem r_repr {K : PySem.W.Frag} {H : Hp} {a : Addr} {ns : List Int} {Q : VK} (h1 : SqL K H a (iv ns)) (hl : ns.length ≤ 5000) (hz : ∀ n ∈ ns, n.natAbs.log2 < 1920) (q : Q (.str (dI ns).shown) H) : rReprD K [.ref a] H Q := by
  unfold rReprD
  refine ⟨a, dI ns, rfl, dp_iv h1, ?_, ?_, ?_, ?_, q⟩
  · simp only [dI, PyData.showable]
    exact show_ints ns hz
  · simp only [dI, PyData.hasDict]
    exact nod_ints ns
  · simp only [dI, PyData.depth, dep_ints]
    decide
  · obtain ⟨e1, e2⟩ := shown_ints_len ns hz
    have e3 := listText_len_le (PyData.shownAll (ns.map .int))
    simp only [dI, PyData.shown]
    rw [sizeLine_eq]
    omega
mutual
theorem dp_same {K : PySem.W.Frag} {H H' : Hp} (s : Same H H') : ∀ (d : PyData) (x : V), Dp K H x d → Dp K H' x d
  | .none, _, h => by cases h; exact .non
  | .bool _, _, h => by cases h; exact .bl _
  | .int _, _, h => by cases h; exact .int _
  | .str _, _, h => by cases h; exact .str _
  | .list ds, _, h => by
    cases h with
    | lst a b => exact .lst (s.seq a) (dpall_same s ds _ b)
  | .tuple ds, _, h => by
    cases h with
    | tup a b =>
      refine .tup ?_ (dpall_same s ds _ b)
      rcases a with (a | ⟨o, a⟩) | a
      · exact .inl (.inl (s _ _ a))
      · exact .inl (.inr ⟨o, s _ _ a⟩)
      · exact .inr a
  | .dict _, _, h => nomatch h
theorem dpall_same {K : PySem.W.Frag} {H H' : Hp} (s : Same H H') : ∀ (ds : List PyData) (xs : List V), DpAll K H xs ds → DpAll K H' xs ds
  | [], _, h => by cases h; exact .nil
  | d :: ds, _, h => by
    cases h with
    | cons a b => exact .cons (dp_same s d _ a) (dpall_same s ds _ b)
end
theorem dpall_len {K : PySem.W.Frag} {H : Hp} : ∀ (ds : List PyData) (xs : List V), DpAll K H xs ds → xs.length = ds.length
  | [], _, h => by cases h; rfl
  | d :: ds, _, h => by
    cases h with
    | cons a b => rw [List.length_cons, List.length_cons, dpall_len ds _ b]
theorem dpall_get {K : PySem.W.Frag} {H : Hp} : ∀ (ds : List PyData) (xs : List V), DpAll K H xs ds → ∀ (i : Nat) (d : PyData), ds[i]? = some d → ∃ x, xs[i]? = some x ∧ Dp K H x d
  | [], _, _, _, _, e => by simp at e
  | d :: ds, _, h, i, d', e => by
    cases h with
    | cons a b =>
      cases i with
      | zero =>
        have z : d = d' := by simpa using e
        subst z
        exact ⟨_, rfl, a⟩
      | succ i => exact dpall_get ds _ b i d' (by simpa using e)
theorem tyx_lst {K : PySem.W.Frag} {H : Hp} {a : Addr} {xs : List V} (h : SqL K H a xs) : TyX K H (.ref a) (.type "list") := by
  rcases h with (h | ⟨o, h⟩) | ⟨o, its, n, h1, h2, _⟩
  · exact .base (.lst h)
  · exact .base (.frz h)
  · exact .kList h1 h2
theorem tyx_tup {K : PySem.W.Frag} {H : Hp} {a : Addr} {xs : List V} (h : SqT K H a xs) : TyX K H (.ref a) (.type "tuple") := by
  rcases h with (h | ⟨o, h⟩) | ⟨o, its, n, h1, h2, _⟩
  · exact .base (.tup h)
  · exact .fTuple h
  · exact .kTuple h1 h2
theorem kit_no {K : PySem.W.Frag} : PySem.W.kitOne K (.type "int") (.type "bool") = some false ∧ PySem.W.kitOne K (.type "str") (.type "bool") = some false ∧ PySem.W.kitOne K (.type "list") (.type "bool") = some false ∧
    PySem.W.kitOne K (.type "bool") (.type "int") = some true ∧ PySem.W.kitOne K (.type "int") (.type "int") = some true := ⟨rfl, rfl, rfl, rfl, rfl⟩
/-! ## tests -/
theorem ifD {p A B : Prop} [Decidable p] (h1 : p → A) (h2 : ¬ p → B) : if decide p = true then A else B := by
  by_cases h : p
  · rw [decide_eq_true h]; exact iteT (h1 h)
  · rw [decide_eq_false h]; exact iteF (h2 h)
theorem ifN {p A B : Prop} [Decidable p] (h1 : ¬ p → A) (h2 : p → B) : if (!decide p) = true then A else B := by
  by_cases h : p
  · rw [decide_eq_true h]; exact iteF (h2 h)
  · rw [decide_eq_false h]; exact iteT (h1 h)
theorem ifI {i j : Int} {A B : Prop} (h1 : i = j → A) (h2 : i ≠ j → B) : if decide (V.int i = V.int j) = true then A else B :=
  ifD (fun e => h1 (V.int.inj e)) fun e => h2 fun z => e (congrArg V.int z)
theorem ifIN {i j : Int} {A B : Prop} (h1 : i ≠ j → A) (h2 : i = j → B) : if (!decide (V.int i = V.int j)) = true then A else B :=
  ifN (fun e => h1 fun z => e (congrArg V.int z)) fun e => h2 (V.int.inj e)
/-! ## defs that may ask for repr: called where no repr is under way -/
structure FnG (P : Program) (w : World) (K : PySem.W.Frag) (mg : Str → Option Value) (base : Heap) (CX : CXT) (k : Nat) (f : Addr) (fd : FuncData) (ps : List Str) (sp : Sp) : Prop where
  len : ∀ vs H Q E, sp vs H Q E → vs.length = ps.length
  run : ∀ (A : Around) (outer : List Env) (s : Shared) (H : Hp) (args : Args) (us : List Value) (vs : List V) (Q : VK) (E : XK), Room k A → A.guards = some [] →
    Env0 P w K mg base A outer s H → BindsTo s fd args (ps.zip us) → Vals vs us → sp vs H Q E → codeAny (model P w) A (.call (.ref f) args) (CR CX outer P w H s Q E) s
section
variable {P : Program} {w : World} {K : PySem.W.Frag} {mg : Str → Option Value} {base : Heap} {CX : CXT}
theorem FnG.of {k : Nat} {f : Addr} {fd : FuncData} {ps : List Str} {sp : Sp} (F : FnOk P w K mg base CX k f fd ps sp) : FnG P w K mg base CX k f fd ps sp :=
  ⟨F.len, fun A outer s H args us vs Q E hr _ => F.run A outer s H args us vs Q E hr⟩
theorem fnG_of {k : Nat} {f : Addr} {nm qual : Str} {pms : Arguments} {body : List Stmt} {sc : Scope} {dV kV dc pm cdv ct oc : Value} {an od : Option Addr} {sl : Array (Option Value)} {N ps : List Str} {sp : Sp}
    (lk : K.lookup f = some ⟨oc, od, .func (PySem.W.fnOf nm qual pms body sc dV kV dc pm an cdv ct), sl⟩) (hcd : PySem.W.codeIn K cdv qual = true) (S : FnScope N ps sc) (len : ∀ vs H Q E, sp vs H Q E → vs.length = ps.length)
    (hb : ∀ (A : Around) (outer : List Env) (s : Shared) (H : Hp) (vs : List V) (Q : VK) (E : XK), A.guards = some [] → Room k (A.deeper (envOfC qual sc s.heap.objs.size f cdv)) → sp vs H Q E →
      ∃ t, PSs (cxOf CX P w K mg base N qual sc f cdv A outer s H E) body t ∧ t { nx := fun _ H' => Q .non H', rt := Q } (start N vs) H) :
    FnG P w K mg base CX (k + 1) f (PySem.W.fnOf nm qual pms body sc dV kV dc pm an cdv ct) ps sp := by
  refine ⟨len, ?_⟩
  intro A out s H args us vs Q E room hG env bnd rel pre
  have ln := len _ _ _ _ pre
  have kin : K.In s.heap := env.mod.kin.keeps fun b o e => (env.bs b o e).1
  have nl : s.heap.NoLimit := env.mod.nolimit.keeps fun b o e => (env.bs b o e).1
  have kinds : ∀ y ∈ ps.zip us, sc.names.lookup y.1 = some .local ∨ (sc.names.lookup y.1 = some .cell ∧ ((cellsFrom (s.heap.objs.size + 1) sc.names []).lookup y.1).isSome = true) := by
    rintro ⟨x, v⟩ hy
    rcases S.par x (List.of_mem_zip hy).1 with z | z
    · exact .inl z
    · exact .inr ⟨z, PySem.W.cellsFrom_some _ _ _ (.inl z)⟩
  refine codeAny_call_function room.depth (kin _ _ lk) rfl S.co S.gen rfl (PySem.W.codeRec_of kin hcd) (bnd _ _ _ _ ?_)
  refine wpAny_newFunctionEnv_cells S.kind kinds fun en hen s1 x1 => ?_
  cases hen
  refine ⟨nl.keeps x1.toInCall.keep, codeAny_func ?_⟩
  obtain ⟨t, ht, hq⟩ := hb A out s H vs Q E hG (room.deeper _) pre
  have J0 : Inv (cxOf CX P w K mg base N qual sc f cdv A out s H E) [] (start N vs) H s1 := inv_start S room.hd env ln rel x1
  refine wpAny_mono (ht.run [] s1 (start N vs) H _ J0 hq) (fun fl s2 hs => ?_) fun e s2 hs => hs
  cases fl with
  | ret u =>
    obtain ⟨v, τ, H2, J, rv, q⟩ := hs
    exact ⟨v, H2, J.os, J.bare, J.base, J.hok, rv, q⟩
  | next =>
    obtain ⟨τ, H2, J, q⟩ := hs
    exact ⟨V.non, H2, J.os, J.bare, J.base, J.hok, rfl, q⟩
  | brk =>
    obtain ⟨_, _, _, q⟩ := hs
    cases q
  | cont =>
    obtain ⟨_, _, _, q⟩ := hs
    cases q
end
/-! ## a def of the text: where it stands; its promise -/
structure DefAt (K : PySem.W.Frag) (mg : Str → Option Value) (x : Str) (st : Stmt) (ps : List Str) : Prop where
  ex : ∃ (f : Addr) (fd : FuncData), Fun K x x st f fd ∧ mg x = some (.ref f) ∧ Binds K fd ps []
/-- a def that may be called by its name; dvs: the defaults that fill up -/
structure Cal (P : Program) (w : World) (K : PySem.W.Frag) (mg : Str → Option Value) (base : Heap) (k : Nat) (x : Str) (sp : Sp) (dvs : List V) : Prop where
  ex : ∃ (f : Addr) (fd : FuncData) (ps : List Str) (ds : List Value), FnOk P w K mg base CX0 k f fd ps sp ∧ mg x = some (.ref f) ∧ PySem.W.keepIn K (.ref f) = true ∧ L2.Binds K fd ps ds ∧ Vals dvs ds
/-- a def that may be called by its name; it may ask for repr -/
structure CalG (P : Program) (w : World) (K : PySem.W.Frag) (mg : Str → Option Value) (base : Heap) (k : Nat) (x : Str) (sp : Sp) : Prop where
  ex : ∃ (f : Addr) (fd : FuncData) (ps : List Str), FnG P w K mg base CX0 k f fd ps sp ∧ mg x = some (.ref f) ∧ PySem.W.keepIn K (.ref f) = true ∧ Binds K fd ps []
section
variable {P : Program} {w : World} {K : PySem.W.Frag} {mg : Str → Option Value} {base : Heap}
theorem DefAt.cal {x : Str} {st : Stmt} {ps N : List Str} {k : Nat} {sp : Sp} (D : DefAt K mg x st ps) (S : FnScope N ps (defScope st)) (len : ∀ vs H Q E, sp vs H Q E → vs.length = ps.length)
    (hb : ∀ (f : Addr) (cdv : Value) (A : Around) (outer : List Env) (s : Shared) (H : Hp) (vs : List V) (Q : VK) (E : XK), Room k (A.deeper (envOfC x (defScope st) s.heap.objs.size f cdv)) → sp vs H Q E →
      ∃ t, PSs (cxOf CX0 P w K mg base N x (defScope st) f cdv A outer s H E).nox (defBody st) t ∧ t { nx := fun _ H' => Q .non H', rt := Q } (start N vs) H) : Cal P w K mg base (k + 1) x sp [] := by
  obtain ⟨f, fd, F, hm, b⟩ := D.ex
  exact ⟨f, fd, ps, [], F.ok S len fun cdv A outer s H vs Q E => hb f cdv A outer s H vs Q E, hm, F.kp, b, .nil⟩
theorem DefAt.calG {x : Str} {st : Stmt} {ps N : List Str} {k : Nat} {sp : Sp} (D : DefAt K mg x st ps) (S : FnScope N ps (defScope st)) (len : ∀ vs H Q E, sp vs H Q E → vs.length = ps.length)
    (hb : ∀ (f : Addr) (cdv : Value) (A : Around) (outer : List Env) (s : Shared) (H : Hp) (vs : List V) (Q : VK) (E : XK), A.guards = some [] → Room k (A.deeper (envOfC x (defScope st) s.heap.objs.size f cdv)) → sp vs H Q E →
      ∃ t, PSs (cxOf CX0 P w K mg base N x (defScope st) f cdv A outer s H E).nox (defBody st) t ∧ t { nx := fun _ H' => Q .non H', rt := Q } (start N vs) H) : CalG P w K mg base (k + 1) x sp := by
  obtain ⟨f, fd, ⟨⟨oc, od, kV, doc, pm, an, cdv, ct, osl, rfl, lk, hcd⟩, kp⟩, hm, b⟩ := D.ex
  refine ⟨f, _, ps, fnG_of lk hcd S len fun A outer s H vs Q E hG hr hsp => ?_, hm, kp, b⟩
  obtain ⟨t, h, q⟩ := hb f cdv A outer s H vs Q E hG hr hsp
  exact ⟨t, h.nox, q⟩
theorem okG {x qual : Str} {st : Stmt} {f : Addr} {fd : FuncData} {N ps : List Str} {k : Nat} {sp : Sp} (F : Fun K x qual st f fd) (S : FnScope N ps (defScope st)) (len : ∀ vs H Q E, sp vs H Q E → vs.length = ps.length)
    (hb : ∀ (cdv : Value) (A : Around) (outer : List Env) (s : Shared) (H : Hp) (vs : List V) (Q : VK) (E : XK), A.guards = some [] → Room k (A.deeper (envOfC qual (defScope st) s.heap.objs.size f cdv)) → sp vs H Q E →
      ∃ t, PSs (cxOf CX0 P w K mg base N qual (defScope st) f cdv A outer s H E).nox (defBody st) t ∧ t { nx := fun _ H' => Q .non H', rt := Q } (start N vs) H) : FnG P w K mg base CX0 (k + 1) f fd ps sp := by
  obtain ⟨⟨oc, od, kV, doc, pm, an, cdv, ct, osl, rfl, lk, hcd⟩, kp⟩ := F
  refine fnG_of lk hcd S len fun A outer s H vs Q E hG hr hsp => ?_
  obtain ⟨t, h, q⟩ := hb cdv A outer s H vs Q E hG hr hsp
  exact ⟨t, h.nox, q⟩
theorem calG_of {x : Str} {k : Nat} {sp : Sp} (c : Cal P w K mg base k x sp []) : CalG P w K mg base k x sp := by
  obtain ⟨f, fd, ps, ds, F, hm, kp, b, d⟩ := c.ex
  cases d
  exact ⟨f, fd, ps, FnG.of F, hm, kp, b⟩
theorem Cal.imp {x : Str} {k j : Nat} {sp sp' : Sp} {dvs : List V} (c : Cal P w K mg base k x sp dvs) (hk : k ≤ j) (h : ∀ vs H Q E, sp' vs H Q E → sp vs H Q E) : Cal P w K mg base j x sp' dvs := by
  obtain ⟨f, fd, ps, ds, F, hm, kp, b, d⟩ := c.ex
  exact ⟨f, fd, ps, ds, (F.mono hk).imp h, hm, kp, b, d⟩
end
section
variable {X : Cx} {k j : Nat} {x : Str} {sp : Sp} {p pos : Pos} {e : Expr} {es : List Expr} {t : TA}
theorem pe_c {dvs : List V} (c : Cal X.prog X.w X.K X.mg X.base k x sp dvs) (hr : Room j X.A) (hk : k ≤ j) (hg : Gl X x) (ha : PA X (e :: es) t)
    (hdb : (x == ("__debug__" : Str)) = false := by decide) (he : starEach (e :: es) X.env = (false, eval e X.env) :: starEach es X.env := by rfl) (hpl : (backTo pos (starEach es X.env)).any (·.1) = false := by rfl) :
    PE X (.Call (.Name x p) (e :: es) [] pos) (tCall sp dvs E0 t) := by
  obtain ⟨f, fd, ps, ds, F, hm, kp, bd, vd⟩ := c.ex
  exact L2.pe_call F (hr.mono hk) hg hm kp bd vd pass0 ha hdb he hpl
/-- a call of a def that may ask for repr -/
theorem pe_cG (c : CalG X.prog X.w X.K X.mg X.base k x sp) (hG : X.A.guards = some []) (hr : Room j X.A) (hk : k ≤ j) (hg : Gl X x) (ha : PA X (e :: es) t)
    (hdb : (x == ("__debug__" : Str)) = false := by decide) (he : starEach (e :: es) X.env = (false, eval e X.env) :: starEach es X.env := by rfl) (hpl : (backTo pos (starEach es X.env)).any (·.1) = false := by rfl) :
    PE X (.Call (.Name x p) (e :: es) [] pos) (tCall sp [] E0 t) := by
  obtain ⟨f, fd, ps, F, hm, kp, b⟩ := c.ex
  refine ⟨fun pins s σ H Q I h => wpAny_Call_Name_kw (ld_glob I hg hm ?_ hdb)⟩
  refine PySem.W.callWith_K (h₀ := X.base) I.ok.mod.kin kp (thn (ha.run pos pins s σ H _ I h) fun us s1 hx => ?_) he hpl
  obtain ⟨vs, H1, I1, r, q⟩ := hx
  rw [List.append_nil] at q
  have ln : us.length = ps.length := by rw [← r.length]; exact F.len _ _ _ _ q
  have bb : BindsTo s1 fd ⟨us, []⟩ (ps.zip us) := by
    have z := b s1 us I1.kIn (by rw [List.append_nil]; exact ln)
    rw [List.append_nil] at z
    exact z
  refine ⟨I1.kIn, wpAny_call (codeAny_mono (F.run X.A X.stack s1 H1 ⟨us, []⟩ us vs Q E0 (hr.mono hk) hG I1.env0 bb r q) fun r s' hq => ?_)⟩
  cases r with
  | error e => exact False.elim hq
  | ok fl =>
    cases fl with
    | ret u => exact I1.after hq
    | next => exact False.elim hq
    | brk => exact False.elim hq
    | cont => exact False.elim hq
end
/-! ## methods, properties, new objects -/
structure Met (P : Program) (w : World) (K : PySem.W.Frag) (mg : Str → Option Value) (base : Heap) (k : Nat) (C : Addr) (m : Str) (sp : Sp) : Prop where
  ex : ∃ (f : Addr) (fd : FuncData) (ps : List Str), Cls K C ∧ Meth K C m f ∧ FnOk P w K mg base CX0 k f fd ps sp ∧ L2.Binds K fd ps []
structure Prp (P : Program) (w : World) (K : PySem.W.Frag) (mg : Str → Option Value) (base : Heap) (k : Nat) (C : Addr) (m : Str) (sp : Sp) : Prop where
  ex : ∃ (f p : Addr) (fd : FuncData) (ps : List Str), Cls K C ∧ PropOf K C m p f ∧ FnOk P w K mg base CX0 k f fd ps sp ∧ L2.Binds K fd ps []
structure Mak (P : Program) (w : World) (K : PySem.W.Frag) (mg : Str → Option Value) (base : Heap) (k : Nat) (x : Str) (C : Addr) (sp : Sp) : Prop where
  ex : ∃ (f : Addr) (fd : FuncData) (ps : List Str), Mk K C f ∧ FnOk P w K mg base CX0 k f fd ps sp ∧ mg x = some (.ref C) ∧ L2.Binds K fd ps []
section
variable {X : Cx} {k j : Nat} {C : Addr} {x m : Str} {sp : Sp} {p pos apos : Pos} {e o : Expr} {es : List Expr} {ta : TE} {t : TA}
theorem pe_m {pl : Sem Bool} (c : Met X.prog X.w X.K X.mg X.base k C m sp) (hr : Room j X.A) (hk : k ≤ j) (he : PE X o ta) (ha : PA X (e :: es) t)
    (ht : eval (.Call (.Attribute o m apos) (e :: es) [] pos) X.env = (do
      let ov ← eval o X.env
      standAt apos.atName
      let (f, first) ← holding [ov] (getMethod ov m pl)
      callWith pos f first (backTo pos (starEach (e :: es) X.env)) (backToKw pos (keywordEach [] X.env))) := by rfl)
    (hst : starEach (e :: es) X.env = (false, eval e X.env) :: starEach es X.env := by rfl) (hpl : (backTo pos (starEach es X.env)).any (·.1) = false := by rfl) : PE X (.Call (.Attribute o m apos) (e :: es) [] pos) (tMeth C m sp [] E0 ta t) := by
  obtain ⟨f, fd, ps, c1, c2, F, b⟩ := c.ex
  exact L2.pe_meth (pl := pl) he c1 c2 F (hr.mono hk) b .nil pass0 ha hst hpl ht
theorem pe_mk (c : Mak X.prog X.w X.K X.mg X.base k x C sp) (hr : Room j X.A) (hk : k + 1 ≤ j) (hg : Gl X x) (ha : PA X (e :: es) t)
    (hdb : (x == ("__debug__" : Str)) = false := by decide) (he : starEach (e :: es) X.env = (false, eval e X.env) :: starEach es X.env := by rfl) (hpl : (backTo pos (starEach es X.env)).any (·.1) = false := by rfl) :
    PE X (.Call (.Name x p) (e :: es) [] pos) (tMake C sp [] E0 t) := by
  obtain ⟨f, fd, ps, M, F, hm, b⟩ := c.ex
  exact L2.pe_make M F (hr.mono hk) hg hm b .nil pass0 ha hdb he hpl
theorem pe_p (c : Prp X.prog X.w X.K X.mg X.base k C m sp) (hr : Room j X.A) (hk : k + 1 ≤ j) (he : PE X e ta) (hab : attributeBase e m X.env (eval e X.env) = eval e X.env := by rfl) : PE X (.Attribute e m pos) (tProp C sp [] E0 ta) := by
  obtain ⟨f, q, fd, ps, c1, c2, F, b⟩ := c.ex
  exact L2.pe_prop he c1 c2 F (hr.mono hk) b .nil pass0 hab
end
section
variable {X : Cx} {K : PySem.W.Frag} {C : Addr} {k j : Nat} {m f : Str} {sp : Sp} {ta tv : TE} {o value : Expr} {pos pos' apos tpos : Pos}
theorem pe_m0 {pl : Sem Bool} (c : Met X.prog X.w X.K X.mg X.base k C m sp) (hr : Room j X.A) (hk : k ≤ j) (he : PE X o ta)
    (ht : eval (.Call (.Attribute o m apos) [] [] pos) X.env = (do
      let ov ← eval o X.env
      standAt apos.atName
      let (f, first) ← holding [ov] (getMethod ov m pl)
      callWith pos f first (backTo pos (starEach [] X.env)) (backToKw pos (keywordEach [] X.env))) := by rfl) : PE X (.Call (.Attribute o m apos) [] [] pos) (tMeth C m sp [] E0 ta tNil) := by
  obtain ⟨f, fd, ps, c1, c2, F, b⟩ := c.ex
  exact L2.pe_meth0 (pl := pl) he c1 c2 F (hr.mono hk) b .nil pass0 ht
theorem ps_fldK (ha : PE X o ta) (hv : PE X value tv) (hs : swapsWith value (some (.Attribute o f pos')) pos.line X.env = pure false) (h : X.K = K := by rfl) : PS X (.Assign [.Attribute o f pos'] value pos) (sFld K ta tv f) := by
  subst h
  exact ps_fld ha hv hs
theorem ps_fldaugK {op : Operator} {rd : V → V → Hp → VK → Prop} (ha : PE X o ta) (hv : PE X value tv) (hop : InOp X op rd) (h : X.K = K := by rfl) : PS X (.AugAssign (.Attribute o f tpos) op value pos) (sFldAug K ta tv rd f) := by
  subst h
  exact ps_fldaug ha hv hop
end
/-- a method of the text -/
structure MetAt (K : PySem.W.Frag) (C : Addr) (m qual : Str) (st : Stmt) (ps : List Str) : Prop where
  ex : ∃ (f : Addr) (fd : FuncData), Fun K m qual st f fd ∧ Meth K C m f ∧ L2.Binds K fd ps []
section
variable {P : Program} {w : World} {K : PySem.W.Frag} {mg : Str → Option Value} {base : Heap} {C : Addr} {m x qual : Str} {st : Stmt} {ps N : List Str} {k : Nat} {sp : Sp}
theorem MetAt.met (D : MetAt K C m qual st ps) (cl : Cls K C) (S : FnScope N ps (defScope st)) (len : ∀ vs H Q E, sp vs H Q E → vs.length = ps.length)
    (hb : ∀ (f : Addr) (cdv : Value) (A : Around) (outer : List Env) (s : Shared) (H : Hp) (vs : List V) (Q : VK) (E : XK), Room k (A.deeper (envOfC qual (defScope st) s.heap.objs.size f cdv)) → sp vs H Q E →
      ∃ t, PSs (cxOf CX0 P w K mg base N qual (defScope st) f cdv A outer s H E).nox (defBody st) t ∧ t { nx := fun _ H' => Q .non H', rt := Q } (start N vs) H) : Met P w K mg base (k + 1) C m sp := by
  obtain ⟨f, fd, F, hm, b⟩ := D.ex
  exact ⟨f, fd, ps, cl, hm, F.ok S len fun cdv A outer s H vs Q E => hb f cdv A outer s H vs Q E, b⟩
end
/-- a class's __init__ of the text -/
structure IniAt (K : PySem.W.Frag) (mg : Str → Option Value) (C : Addr) (x qual : Str) (st : Stmt) (ps : List Str) : Prop where
  ex : ∃ (f : Addr) (fd : FuncData), Fun K "__init__" qual st f fd ∧ Mk K C f ∧ mg x = some (.ref C) ∧ L2.Binds K fd ps []
/-- a property of the text -/
structure PrpAt (K : PySem.W.Frag) (C : Addr) (m qual : Str) (st : Stmt) (ps : List Str) : Prop where
  ex : ∃ (f p : Addr) (fd : FuncData), Fun K m qual st f fd ∧ PropOf K C m p f ∧ L2.Binds K fd ps []
section
variable {P : Program} {w : World} {K : PySem.W.Frag} {mg : Str → Option Value} {base : Heap} {C : Addr} {m x qual : Str} {st : Stmt} {ps N : List Str} {k : Nat} {sp : Sp}
theorem IniAt.mak (D : IniAt K mg C x qual st ps) (S : FnScope N ps (defScope st)) (len : ∀ vs H Q E, sp vs H Q E → vs.length = ps.length)
    (hb : ∀ (f : Addr) (cdv : Value) (A : Around) (outer : List Env) (s : Shared) (H : Hp) (vs : List V) (Q : VK) (E : XK), Room k (A.deeper (envOfC qual (defScope st) s.heap.objs.size f cdv)) → sp vs H Q E →
      ∃ t, PSs (cxOf CX0 P w K mg base N qual (defScope st) f cdv A outer s H E).nox (defBody st) t ∧ t { nx := fun _ H' => Q .non H', rt := Q } (start N vs) H) : Mak P w K mg base (k + 1) x C sp := by
  obtain ⟨f, fd, F, hm, hg, b⟩ := D.ex
  exact ⟨f, fd, ps, hm, F.ok S len fun cdv A outer s H vs Q E => hb f cdv A outer s H vs Q E, hg, b⟩
theorem PrpAt.prp (D : PrpAt K C m qual st ps) (cl : Cls K C) (S : FnScope N ps (defScope st)) (len : ∀ vs H Q E, sp vs H Q E → vs.length = ps.length)
    (hb : ∀ (f : Addr) (cdv : Value) (A : Around) (outer : List Env) (s : Shared) (H : Hp) (vs : List V) (Q : VK) (E : XK), Room k (A.deeper (envOfC qual (defScope st) s.heap.objs.size f cdv)) → sp vs H Q E →
      ∃ t, PSs (cxOf CX0 P w K mg base N qual (defScope st) f cdv A outer s H E).nox (defBody st) t ∧ t { nx := fun _ H' => Q .non H', rt := Q } (start N vs) H) : Prp P w K mg base (k + 1) C m sp := by
  obtain ⟨f, p, fd, F, hm, b⟩ := D.ex
  exact ⟨f, p, fd, ps, cl, hm, F.ok S len fun cdv A outer s H vs Q E => hb f cdv A outer s H vs Q E, b⟩
end
/-- all but o stands -/
def But (o : Addr) (H H' : Hp) : Prop := ∀ b u, b ≠ o → H b = some u → H' b = some u
theorem But.refl (o : Addr) (H : Hp) : But o H H := fun _ _ _ h => h
theorem But.trans {o : Addr} {H H1 H2 : Hp} (a : But o H H1) (b : But o H1 H2) : But o H H2 := fun c u n h => b c u n (a c u n h)
theorem But.of {o : Addr} {H H1 : Hp} (s : Same H H1) : But o H H1 := fun b u _ h => s b u h
theorem But.put {o : Addr} {H : Hp} {u : HO} : But o H (upd H o u) := fun b x n h => by
  rw [upd_ne n]
  exact h
theorem But.seq {K : PySem.W.Frag} {o a : Addr} {H H' : Hp} {xs : List V} (b : But o H H') (n : a ≠ o) (h : H a = some (.lst xs)) : SqL K H' a xs := seqL_of (b a _ n h)
theorem Sep.but {R : Rg} {G H H' : Hp} {o : Addr} {u u' : HO} (s : Sep R G H) (h : G o = some u) (b : But o H H') (e : H' o = some u') : Sep R (upd G o u') H' := by
  have no : ∀ a, R.S a → a ≠ o := fun a ha z => by
    have q := s.off a ha
    rw [z, h] at q
    cases q
  refine ⟨R.loc H _ (fun a ha => ?_) s.inv, fun c x q => ?_, fun a ha => by rw [upd_ne (no a ha)]; exact s.off a ha⟩
  · cases q : H a with
    | none => exact absurd q (R.has H a s.inv ha)
    | some z => exact b a z (no a ha) q
  · by_cases hc : c = o
    · rw [hc, upd_same] at q
      rw [hc, e]
      exact q
    · rw [upd_ne hc] at q
      exact b c x hc (s.same c x q)

theorem Sep.add {R : Rg} {G0 H0 G H : Hp} {l : Addr} {u : HO} (s0 : Sep R G0 H0) (n : H0 l = none) (s : Sep R G H) (e : H l = some u) : Sep R (upd G l u) H := by
  have nl : ∀ a, R.S a → a ≠ l := fun a ha z => R.has H0 a s0.inv ha (by rw [z]; exact n)
  refine ⟨s.inv, fun b x q => ?_, fun a ha => by rw [upd_ne (nl a ha)]; exact s.off a ha⟩
  by_cases hb : b = l
  · rw [hb, upd_same] at q
    rw [hb, e]
    exact q
  · rw [upd_ne hb] at q
    exact s.same b x q

/-! ## calls by keywords alone -/
/-- a def called with the keywords ks alone: sp speaks of their values -/
structure CalK (P : Program) (w : World) (K : PySem.W.Frag) (mg : Str → Option Value) (base : Heap) (k : Nat) (x : Str) (ks : List Str) (sp : Sp) : Prop where
  ex : ∃ (f : Addr) (fd : FuncData) (ps : List Str) (spf : Sp) (g : List Value → List Value → List Value) (gV : List V → List V → List V),
    FnOk P w K mg base CX0 k f fd ps spf ∧ mg x = some (.ref f) ∧ PySem.W.keepIn K (.ref f) = true ∧ KBn K fd ps 0 ks g gV ∧ ∀ zs H Q E, sp zs H Q E → zs.length = ks.length ∧ spf (gV [] zs) H Q E
def tCk (sp : Sp) (tk : TA) : TE := fun σ H Q => tk σ H fun zs H1 => sp zs H1 Q E0
section
variable {X : Cx} {k j : Nat} {x : Str} {ks : List Str} {sp : Sp} {p pos : Pos} {kws : List Keyword} {tk : TA}
theorem pe_ck (c : CalK X.prog X.w X.K X.mg X.base k x ks sp) (hr : Room j X.A) (hk : k ≤ j) (hg : Gl X x) (hkw : PK X kws tk)
    (hall : (backToKw pos (keywordEach kws X.env)).all (·.1.isSome) = true := by rfl) (hks : (backToKw pos (keywordEach kws X.env)).filterMap (·.1) = ks := by rfl) (hdb : (x == ("__debug__" : Str)) = false := by decide)
    (hpl : ((backTo pos (starEach [] X.env)).any (·.1) || (backToKw pos (keywordEach kws X.env)).any (·.1.isNone)) = false := by rfl) : PE X (.Call (.Name x p) [] kws pos) (tCk sp tk) := by
  obtain ⟨f, fd, ps, spf, g, gV, F, hm, kp, hb, hs⟩ := c.ex
  refine ⟨fun pins s σ H Q I h => wpAny_Call_Name_kw (ld_glob I hg hm ?_ hdb)⟩
  refine PySem.W.callWith_KW0 (h₀ := X.base) I.ok.mod.kin kp hall (thn (hkw.run pos pins s σ H _ I h) fun ws s1 hx => ?_) hpl
  obtain ⟨zs, H1, I1, rz, q⟩ := hx
  obtain ⟨lz, q⟩ := hs _ _ _ _ q
  refine ⟨I1.kIn, ?_⟩
  rw [hks]
  exact run_fnN F (hr.mono hk) hb pass0 I1 .nil rz rfl lz q
end

/-! ## a def with defaults, called by place or by keywords -/
section
variable {P : Program} {w : World} {K : PySem.W.Frag} {mg : Str → Option Value} {base : Heap} {x qual : Str} {pms : Arguments} {body : List Stmt} {sc : Scope} {dvs : List V} {f : Addr} {fd : FuncData} {ps ks : List Str}
/-- all parameters by keywords; g brings the values in the parameters' order -/
theorem kbn_dflt (F : FunD K x qual pms body sc dvs [] f fd) (hd : dvs ≠ []) (g : {α : Type} → List α → List α) (hg : ∀ {vs : List V} {us : List Value}, Vals vs us → Vals (g vs) (g us))
    (h : ∀ (T : Addr) (kV doc pm : Value) (an : Option Addr) (cdv ct : Value) (ws its : List Value), ws.length = ks.length → its.length = dvs.length →
      ∃ k, bindArgs (PySem.W.fnOf x qual pms body sc (.ref T) kV doc pm an cdv ct) ⟨[], ks.zip ws⟩ = seqItems? (.ref T) >>= k ∧ k (some its.toArray) = pure (ps.zip (g ws))) : KBn K fd ps 0 ks (fun _ ws => g ws) (fun _ zs => g zs) := by
  obtain ⟨oc, od, dV, kV, doc, pm, an, cdv, ct, osl, rfl, lk, hcd, hD, hK⟩ := F.ex
  rcases hD with ⟨e, _⟩ | ⟨_, T, o, its, m, rfl, lT, oT, rT⟩
  · exact absurd e hd
  · refine ⟨fun s us ws X l1 l2 => ?_, fun r1 r2 => hg r2⟩
    cases us with
    | cons u us => cases l1
    | nil =>
      obtain ⟨k, e1, e2⟩ := h T kV doc pm an cdv ct ws its l2 rT.length.symm
      refine BindsTo.of_looks fun M => ?_
      rw [e1]
      exact looks_items X lT oT (.of_pure e2)
/-- .. of a def without defaults -/
theorem kbn_plain {st : Stmt} (F : Fun K x qual st f fd) (g : {α : Type} → List α → List α) (hg : ∀ {vs : List V} {us : List Value}, Vals vs us → Vals (g vs) (g us))
    (h : ∀ (kV doc pm : Value) (an : Option Addr) (cdv ct : Value) (ws : List Value), ws.length = ks.length →
      bindArgs (PySem.W.fnOf x qual (defArgs st) (defBody st) (defScope st) .none kV doc pm an cdv ct) ⟨[], ks.zip ws⟩ = pure (ps.zip (g ws))) : KBn K fd ps 0 ks (fun _ ws => g ws) (fun _ zs => g zs) := by
  obtain ⟨oc, od, kV, doc, pm, an, cdv, ct, osl, rfl, lk, hcd⟩ := F.ex
  refine ⟨fun s us ws X l1 l2 => ?_, fun r1 r2 => hg r2⟩
  cases us with
  | cons u us => cases l1
  | nil => exact .of_eq (h kV doc pm an cdv ct ws l2)
theorem calK_mk {k : Nat} {spf sp : Sp} {g : List Value → List Value → List Value} {gV : List V → List V → List V} (F : FnOk P w K mg base CX0 k f fd ps spf) (hm : mg x = some (.ref f)) (kp : PySem.W.keepIn K (.ref f) = true) (b : KBn K fd ps 0 ks g gV)
    (h : ∀ zs H Q E, sp zs H Q E → zs.length = ks.length ∧ spf (gV [] zs) H Q E) : CalK P w K mg base k x ks sp := ⟨f, fd, ps, spf, g, gV, F, hm, kp, b, h⟩
end
/-- a def without defaults that is called by place and by keywords -/
structure Def2 (P : Program) (w : World) (K : PySem.W.Frag) (mg : Str → Option Value) (base : Heap) (k : Nat) (x : Str) (st : Stmt) (ps : List Str) (sp : Sp) : Prop where
  ex : ∃ (f : Addr) (fd : FuncData), Fun K x x st f fd ∧ mg x = some (.ref f) ∧ Binds K fd ps [] ∧ FnOk P w K mg base CX0 k f fd ps sp
section
variable {P : Program} {w : World} {K : PySem.W.Frag} {mg : Str → Option Value} {base : Heap} {x : Str} {st : Stmt} {ps ks N : List Str} {k : Nat} {sp sp' : Sp}
theorem DefAt.two (D : DefAt K mg x st ps) (S : FnScope N ps (defScope st)) (len : ∀ vs H Q E, sp vs H Q E → vs.length = ps.length)
    (hb : ∀ (f : Addr) (cdv : Value) (A : Around) (outer : List Env) (s : Shared) (H : Hp) (vs : List V) (Q : VK) (E : XK), Room k (A.deeper (envOfC x (defScope st) s.heap.objs.size f cdv)) → sp vs H Q E →
      ∃ t, PSs (cxOf CX0 P w K mg base N x (defScope st) f cdv A outer s H E).nox (defBody st) t ∧ t { nx := fun _ H' => Q .non H', rt := Q } (start N vs) H) : Def2 P w K mg base (k + 1) x st ps sp := by
  obtain ⟨f, fd, F, hm, b⟩ := D.ex
  exact ⟨f, fd, F, hm, b, F.ok S len fun cdv A outer s H vs Q E => hb f cdv A outer s H vs Q E⟩
theorem Def2.cal (D : Def2 P w K mg base k x st ps sp) : Cal P w K mg base k x sp [] := by
  obtain ⟨f, fd, F, hm, b, ok⟩ := D.ex
  exact ⟨f, fd, ps, [], ok, hm, F.kp, b, .nil⟩
theorem Def2.calK (D : Def2 P w K mg base k x st ps sp) (g : {α : Type} → List α → List α) (hg : ∀ {vs : List V} {us : List Value}, Vals vs us → Vals (g vs) (g us))
    (h : ∀ (kV doc pm : Value) (an : Option Addr) (cdv ct : Value) (ws : List Value), ws.length = ks.length →
      bindArgs (PySem.W.fnOf x x (defArgs st) (defBody st) (defScope st) .none kV doc pm an cdv ct) ⟨[], ks.zip ws⟩ = pure (ps.zip (g ws))) (hs : ∀ zs H Q E, sp' zs H Q E → zs.length = ks.length ∧ sp (g zs) H Q E) : CalK P w K mg base k x ks sp' := by
  obtain ⟨f, fd, F, hm, b, ok⟩ := D.ex
  exact calK_mk ok hm F.kp (kbn_plain F g hg h) hs
end
theorem perm_sorted_eq : ∀ {xs ys : List Int}, xs.Perm ys → xs.Pairwise (· ≤ ·) → ys.Pairwise (· ≤ ·) → xs = ys
  | [], ys, p, _, _ => (List.nil_perm.mp p).symm
  | x :: r, [], p, _, _ => absurd (List.perm_nil.mp p) (by simp)
  | x :: r, y :: t, p, h1, h2 => by
    have a1 := (List.pairwise_cons.mp h1).1
    have a2 := (List.pairwise_cons.mp h2).1
    have m1 : x ∈ y :: t := p.mem_iff.mp (List.mem_cons_self ..)
    have m2 : y ∈ x :: r := p.mem_iff.mpr (List.mem_cons_self ..)
    have e : x = y := by
      rcases List.mem_cons.mp m1 with z | z
      · exact z
      · rcases List.mem_cons.mp m2 with z2 | z2
        · exact z2.symm
        · have := a1 y z2
          have := a2 x z
          omega
    subst e
    rw [perm_sorted_eq (List.Perm.cons_inv p) (List.pairwise_cons.mp h1).2 (List.pairwise_cons.mp h2).2]

/-! ## a law's end, of a law that may ask for repr -/
theorem law_endG {P : Program} {w : World} {K : PySem.W.Frag} {mg mb : Str → Option Value} {k : Nat} {fa a : Addr} {fd : FuncData} {x : Str} {sp : Sp} {s₁ : Shared} {vs : List Value} {ns : List Int}
    (KX : K.In s₁.heap) (hns : s₁.heap.Ns mainGlobals mg) (hb : s₁.heap.Ns builtinsNs mb) (hbb : ∀ x : Str, x ≠ "__name__" → mb x = bootBuiltins x) (hlim : s₁.heap.NoLimit) (hg : s₁.gens = #[])
    (ha : s₁.heap.get? a = some { cls := .type "list", data := .seq vs.toArray }) (hi : IntsAre vs ns) (hl : ns.length ≤ sizeLine) (hr : Room k callerA)
    (F : ∀ base : Heap, K.In base → base.Ns mainGlobals mg → FnG P w K mg base CX0 k fa fd [x] sp) (hbind : ∀ (s : Shared) (u : Value), BindsTo s fd ⟨[u], []⟩ [(x, u)])
    (hsp : ∀ H : Hp, Only H → SqL K H a (iv ns) → sp [.ref a] H (fun v _ => v = .bl true) fun _ _ _ => False) :
    codeAny (model P w) callerA (.call (.ref fa) ⟨[.ref a], []⟩) (fun r s' => r = .ok (.ret (.bool true)) ∧ OldK s₁.heap s'.heap ∧ s'.os = s₁.os ∧ AllBare s'.gens) s₁ := by
  have rel := vals_ints hi
  have same : ∀ H : Hp, Only H → SqL K H a (iv ns) → HOk P w H s₁.heap → (∀ b, H b ≠ none → b = a) → (H a ≠ none → K.lookup a = none) →
      codeAny (model P w) callerA (.call (.ref fa) ⟨[.ref a], []⟩) (fun r s' => r = .ok (.ret (.bool true)) ∧ OldK s₁.heap s'.heap ∧ s'.os = s₁.os ∧ AllBare s'.gens) s₁ := by
    intro H only sq hok at_a k_a
    have nonK : ∀ {b : Addr} {o : Obj}, K.lookup b = some o → H b = none := by
      intro b o e
      cases q : H b with
      | none => rfl
      | some u =>
        have z := at_a b (by rw [q]; simp)
        subst z
        rw [k_a (by rw [q]; simp)] at e
        cases e
    have nonD : ∀ {b : Addr} {o : Obj} {es : Array DictEntry} {ep : Nat}, s₁.heap.get? b = some o → o.data = .dict es ep → H b = none := by
      intro b o es ep e d
      cases q : H b with
      | none => rfl
      | some u =>
        have z := at_a b (by rw [q]; simp)
        subst z
        rw [ha] at e
        cases e
        cases d
    have nsB : ∀ {b : Addr} {m : Str → Option Value}, s₁.heap.Ns b m → (hidT s₁.heap H).Ns b m := by
      rintro b m ⟨o, es, ep, e, d, r⟩
      exact ⟨o, es, ep, hidT_get e (nonD e d), d, r⟩
    have kinB : K.In (hidT s₁.heap H) := fun b o e => hidT_get (KX b o e) (nonK e)
    have md : Mod K mg (hidT s₁.heap H) := by
      obtain ⟨mc, h1, h2⟩ := hlim
      exact ⟨kinB, nsB hns, ⟨mb, nsB hb, hbb⟩, ⟨mc, nsB h1, h2⟩⟩
    have noIn : ∀ b : Addr, b ∉ frs [] := fun b z => by cases z
    have env : Env0 P w K mg (hidT s₁.heap H) callerA [] s₁ H := ⟨rfl, md, fun b o e => of_hidT e, Nat.le_of_eq (hidT_size _ _), trivial, fun b z => absurd z (noIn b), hok, .of_eq hg⟩
    refine codeAny_mono ((F _ kinB (nsB hns)).run callerA [] s₁ H ⟨[.ref a], []⟩ [.ref a] [.ref a] _ _ hr rfl env (hbind s₁ (.ref a)) (.cons rfl .nil) (hsp H only sq)) fun r s' h => ?_
    cases r with
    | error e => exact False.elim h
    | ok fl =>
      cases fl with
      | next => exact False.elim h
      | brk => exact False.elim h
      | cont => exact False.elim h
      | ret u =>
        obtain ⟨v, H', os, bare, un, hok', rv, q⟩ := h
        have ev : v = .bl true := q
        subst ev
        have eu : u = Value.bool true := rv
        subst eu
        refine ⟨rfl, OldK.of_keep fun b o e => ?_, os, bare⟩
        cases q : H b with
        | none => exact un.keep b o e q (noIn b) (by simp)
        | some u =>
          rcases only b with z | ⟨ob, xs, z⟩
          · rw [q] at z
            cases z
          · obtain ⟨e1, _⟩ := hok b _ z
            obtain ⟨e2, _⟩ := hok' b _ (un.frzs b ob _ z)
            rw [e] at e1
            cases e1
            exact e2
  cases hk : K.lookup a with
  | some o =>
    have e := KX a o hk
    rw [ha] at e
    cases e
    refine same (fun _ => none) (fun _ => .inl rfl) (.inr ⟨_, vs.toArray, _, hk, rfl, rfl, rfl, ?_, by simpa using rel⟩) (fun b u z => ?_) (fun b z => absurd rfl z) fun z => absurd rfl z
    · rw [List.size_toArray, hi.length]
      exact hl
    · exact nomatch (show (none : Option HO) = some u from z)
  | none =>
    let H0 : Hp := fun b => if b = a then some (.frz { cls := .type "list", data := .seq vs.toArray } (.lst (iv ns))) else none
    have at1 : H0 a = some (.frz { cls := .type "list", data := .seq vs.toArray } (.lst (iv ns))) := if_pos rfl
    have at0 : ∀ b, b ≠ a → H0 b = none := fun b hb => if_neg hb
    refine same H0 (fun b => ?_) (.inl (.inr ⟨_, at1⟩)) (fun b u z => ?_) (fun b z => ?_) fun _ => hk
    · by_cases hb : b = a
      · exact .inr ⟨_, _, by rw [hb]; exact at1⟩
      · exact .inl (at0 b hb)
    · by_cases hb : b = a
      · subst hb
        rw [at1] at z
        cases z
        exact ⟨ha, by rw [iv_len]; exact hl, vs, _, rel, ha⟩
      · rw [at0 b hb] at z
        cases z
    · by_cases hb : b = a
      · exact hb
      · exact absurd (at0 b hb) z
theorem walk_ofG {l : PySem.W.OpenLaw} {n k : Nat} {q : Program} {loose : List Str} {XP : (Str → Option Value) → Heap → Prop} {YP : World → Heap → Prop} {d : DefRec} {K : Params → PySem.W.Frag} {sp : PySem.W.Frag → Sp} {x : Str}
    (hn : l.most = some n) (hn2 : n ≤ sizeLine) (hdf : d.params.defaults = []) (hr : Room k callerA) (hY : ∀ (w : World) (h : Heap), YP w h → (K w.params).In h)
    (F : ∀ (w : World) (mg : Str → Option Value) (fa : Addr) (h : Heap), (K w.params).In h → h.Ns mainGlobals mg → mg d.name = some (.ref fa) →
      ∃ fd : FuncData, (∀ (s : Shared) (u : Value), BindsTo s fd ⟨[u], []⟩ [(x, u)]) ∧
        ∀ base : Heap, (K w.params).In base → base.Ns mainGlobals mg → FnG l.prog w (K w.params) mg base CX0 k fa fd [x] (sp (K w.params)))
    (hsp : ∀ (K : PySem.W.Frag) (H : Hp) (a : Addr) (ns : List Int), ns.length ≤ n → SqL K H a (iv ns) → sp K [.ref a] H (fun v _ => v = .bl true) fun _ _ _ => False) :
    PySem.W.WalkO q loose XP YP l.row.toRowW d [] (fun f vs => PySem.call f vs) := by
  refine Att.attach_call hn hdf fun w s₀ s₁ mg mb fa o pm cd doc a vs ns G Y ho hd hcd hmg hobj hints hlen hg => ?_
  have KX := hY w _ Y
  obtain ⟨fd, hb, hF⟩ := F w mg fa _ KX G.T.g hmg
  exact law_endG KX G.T.g G.T.b G.T.builtins G.T.nolimit hg hobj hints (Nat.le_trans hlen hn2) hr hF hb fun H _ hS => hsp (K w.params) H a ns hlen hS

/-! ## a def of the text, out of what the top has written -/
theorem DefAt.mk1 {K : PySem.W.Frag} {h : Heap} {mg : Str → Option Value} {x : Str} {st : Stmt} {ps : List Str} {f : Addr} {od an : Option Addr} {sl : Array (Option Value)} {oc kV dc pm cd ct : Value} (X : K.In h) (G : h.Ns mainGlobals mg)
    (a : PySem.W.nsIn K mainGlobals x = some (some (.ref f))) (l : K.lookup f = some ⟨oc, od, .func (PySem.W.fnOf x x (defArgs st) (defBody st) (defScope st) .none kV dc pm an cd ct), sl⟩) (c : PySem.W.codeIn K cd x = true) (k : PySem.W.keepIn K (.ref f) = true)
    (hb : ∀ (kV doc pm : Value) (an : Option Addr) (cdv ct : Value) (us : List Value), us.length = ps.length → bindArgs (PySem.W.fnOf x x (defArgs st) (defBody st) (defScope st) .none kV doc pm an cdv ct) ⟨us, []⟩ = pure (ps.zip us)) : DefAt K mg x st ps :=
  ⟨f, _, fun_mk (st := st) l c k, PySem.W.mg_of X G a, (fun_mk (st := st) l c k).binds hb⟩
theorem cutD {p q : Prop} (h : p) (k : p → q) : q := k h
/-- a class: what its facts say -/
theorem cls_mk {K : PySem.W.Frag} {h : Heap} {mg : Str → Option Value} {x : Str} {C : Addr} (X : K.In h) (hC : mg x = some (.ref C)) (pg : PySem.W.plainGet K C Str.empty = true) (hd : PySem.W.hasDictIn K C = true) (po : PySem.W.plainOver K C = true) (sa : PySem.W.findIn K (.ref C) "__setattr__" = some (some (.builtin "object.__setattr__"))) : Cls K C := ⟨pg, hd, po, sa⟩
theorem noat_mk {K : PySem.W.Frag} {h : Heap} {mg : Str → Option Value} {x : Str} {C : Addr} {m : Str} (X : K.In h) (hC : mg x = some (.ref C)) (n : PySem.W.findIn K (.ref C) m = some none) : NoAttr K C m := n
theorem IniAt.mk1 {K : PySem.W.Frag} {h : Heap} {mg : Str → Option Value} {C : Addr} {x qual : Str} {st : Stmt} {ps : List Str} {f : Addr} {od an : Option Addr} {sl : Array (Option Value)} {oc kV dc pm cd ct : Value} (X : K.In h) (hm : mg x = some (.ref C))
    (a : PySem.W.findIn K (.ref C) "__init__" = some (some (.ref f))) (l : K.lookup f = some ⟨oc, od, .func (PySem.W.fnOf "__init__" qual (defArgs st) (defBody st) (defScope st) .none kV dc pm an cd ct), sl⟩) (c : PySem.W.codeIn K cd qual = true) (k : PySem.W.keepIn K (.ref f) = true)
    (mk : PySem.W.makesIn K C = true) (i : PySem.W.isFn K (.ref f) = true) (kc : PySem.W.keepIn K (.ref C) = true)
    (hb : ∀ (kV doc pm : Value) (an : Option Addr) (cdv ct : Value) (us : List Value), us.length = ps.length → bindArgs (PySem.W.fnOf "__init__" qual (defArgs st) (defBody st) (defScope st) .none kV doc pm an cdv ct) ⟨us, []⟩ = pure (ps.zip us)) : IniAt K mg C x qual st ps :=
  ⟨f, _, fun_mk (st := st) l c k, ⟨mk, a, i, kc⟩, hm, (fun_mk (st := st) l c k).binds hb⟩
theorem MetAt.mk1 {K : PySem.W.Frag} {h : Heap} {mg : Str → Option Value} {x : Str} {C : Addr} {m qual : Str} {st : Stmt} {ps : List Str} {f : Addr} {od an : Option Addr} {sl : Array (Option Value)} {oc kV dc pm cd ct : Value} (X : K.In h) (hC : mg x = some (.ref C))
    (a : PySem.W.findIn K (.ref C) m = some (some (.ref f))) (l : K.lookup f = some ⟨oc, od, .func (PySem.W.fnOf m qual (defArgs st) (defBody st) (defScope st) .none kV dc pm an cd ct), sl⟩) (c : PySem.W.codeIn K cd qual = true) (k : PySem.W.keepIn K (.ref f) = true) (i : PySem.W.isFn K (.ref f) = true)
    (hb : ∀ (kV doc pm : Value) (an : Option Addr) (cdv ct : Value) (us : List Value), us.length = ps.length → bindArgs (PySem.W.fnOf m qual (defArgs st) (defBody st) (defScope st) .none kV doc pm an cdv ct) ⟨us, []⟩ = pure (ps.zip us)) : MetAt K C m qual st ps :=
  ⟨f, _, fun_mk (st := st) l c k, ⟨a, i, k⟩, (fun_mk (st := st) l c k).binds hb⟩
theorem PrpAt.mk1 {K : PySem.W.Frag} {h : Heap} {mg : Str → Option Value} {x : Str} {C : Addr} {m qual : Str} {st : Stmt} {ps : List Str} {f p : Addr} {rest : List Value} {od an : Option Addr} {sl : Array (Option Value)} {oc kV dc pm cd ct : Value} (X : K.In h) (hC : mg x = some (.ref C))
    (a : PySem.W.findIn K (.ref C) m = some (some (.ref p))) (g : PySem.W.specialIn K (.ref p) "__get__" = some (some (.builtin "property.__get__"))) (t : PySem.W.takesIn K (.ref p) = some true) (r : PySem.W.recIn K p "property" = some (.ref f :: rest))
    (l : K.lookup f = some ⟨oc, od, .func (PySem.W.fnOf m qual (defArgs st) (defBody st) (defScope st) .none kV dc pm an cd ct), sl⟩) (c : PySem.W.codeIn K cd qual = true) (k : PySem.W.keepIn K (.ref f) = true)
    (hb : ∀ (kV doc pm : Value) (an : Option Addr) (cdv ct : Value) (us : List Value), us.length = ps.length → bindArgs (PySem.W.fnOf m qual (defArgs st) (defBody st) (defScope st) .none kV doc pm an cdv ct) ⟨us, []⟩ = pure (ps.zip us)) : PrpAt K C m qual st ps :=
  ⟨f, p, _, fun_mk (st := st) l c k, ⟨a, g, t, rest, r⟩, (fun_mk (st := st) l c k).binds hb⟩
theorem glob_mk {K : PySem.W.Frag} {h : Heap} {mg : Str → Option Value} {x : Str} {C : Addr} (X : K.In h) (G : h.Ns mainGlobals mg) (a : PySem.W.nsIn K mainGlobals x = some (some (.ref C))) : mg x = some (.ref C) := PySem.W.mg_of X G a
/-- a def with defaults -/
theorem funD_mk {K : PySem.W.Frag} {h : Heap} {mg : Str → Option Value} {x : Str} {st : Stmt} {dvs : List V} {f T : Addr} {o : Obj} {its : List Value} {n : Nat} {od an : Option Addr} {sl : Array (Option Value)} {oc kV dc pm cd ct : Value} (X : K.In h) (G : h.Ns mainGlobals mg)
    (a : PySem.W.nsIn K mainGlobals x = some (some (.ref f))) (l : K.lookup f = some ⟨oc, od, .func (PySem.W.fnOf x x (defArgs st) (defBody st) (defScope st) (.ref T) kV dc pm an cd ct), sl⟩) (c : PySem.W.codeIn K cd x = true) (k : PySem.W.keepIn K (.ref f) = true)
    (t : K.lookup T = some o) (e : o.data = .seq its.toArray n) (hv : Vals dvs its) (hd : dvs ≠ []) : FunD K x x (defArgs st) (defBody st) (defScope st) dvs [] f (PySem.W.fnOf x x (defArgs st) (defBody st) (defScope st) (.ref T) kV dc pm an cd ct) ∧ mg x = some (.ref f) :=
  ⟨⟨⟨oc, od, _, kV, dc, pm, an, cd, ct, sl, rfl, l, c, .inr ⟨hd, T, o, its, n, rfl, t, e, hv⟩, .inl rfl⟩, k⟩, PySem.W.mg_of X G a⟩
/-- the law's own def -/
theorem DefAt.law {K : PySem.W.Frag} {mg : Str → Option Value} {x : Str} {st : Stmt} {fa : Addr} {p : Str} (D : DefAt K mg x st [p]) (hfa : mg x = some (.ref fa))
    (hb : ∀ (kV doc pm : Value) (an : Option Addr) (cdv ct : Value) (us : List Value), us.length = 1 → bindArgs (PySem.W.fnOf x x (defArgs st) (defBody st) (defScope st) .none kV doc pm an cdv ct) ⟨us, []⟩ = pure ([p].zip us)) :
    ∃ fd : FuncData, Fun K x x st fa fd ∧ ∀ (s : Shared) (u : Value), BindsTo s fd ⟨[u], []⟩ [(p, u)] := by
  obtain ⟨f, fd, F, hm, b⟩ := D.ex
  rw [hfa] at hm
  cases hm
  obtain ⟨oc, od, kV, doc, pm, an, cdv, ct, osl, rfl, lk, hcd⟩ := F.ex
  exact ⟨_, F, fun s u => .of_eq (hb kV doc pm an cdv ct [u] rfl)⟩
end Sq

/-! the mathematics of replacements on lengths of runs -/
namespace Sq
def once (n k : Int) : Int := n / k + n % k
def sqz (n : Int) (row : List Int) : Int := row.foldl once n
def rb (R k : Int) : Int := if k > R + 1 then R else (R + 3 - k) * k - 2
def reachOf (row : List Int) (most : Int) : Int := row.foldr (fun k R => rb R k) most
abbrev Two (row : List Int) : Prop := ∀ k ∈ row, (2 : Int) ≤ k
def Mid (ns : List Int) : Prop := ∀ k ∈ ns, (2 : Int) ≤ k ∧ k < 2 ^ 240
theorem Mid.two {ns : List Int} (h : Mid ns) : Two ns := fun k hk => (h k hk).1
theorem sqz_cons (n k : Int) (r : List Int) : sqz n (k :: r) = sqz (once n k) r := rfl
theorem sqz_app (n : Int) (a b : List Int) : sqz n (a ++ b) = sqz (sqz n a) b := by simp [sqz, List.foldl_append]
theorem sqz_snoc (n k : Int) (a : List Int) : sqz n (a ++ [k]) = once (sqz n a) k := by rw [sqz_app]; rfl
theorem sqz_take {row : List Int} {n k : Int} {i : Nat} (h : row[i]? = some k) : sqz n (row.take (i + 1)) = once (sqz n (row.take i)) k := by
  rw [List.take_add_one, h]
  exact sqz_snoc _ _ _
theorem once_nn {n k : Int} (hn : 0 ≤ n) (hk : 2 ≤ k) : 0 ≤ once n k := by
  unfold once
  have h1 := Int.ediv_nonneg hn (by omega : (0 : Int) ≤ k)
  have h2 := Int.emod_nonneg n (by omega : k ≠ 0)
  omega
/-- quotient and rest -/
theorem qr (n : Int) {k : Int} (hk : 2 ≤ k) : ∃ q r, n = q * k + r ∧ 0 ≤ r ∧ r < k ∧ n / k = q ∧ n % k = r :=
  ⟨n / k, n % k, by have := Int.mul_ediv_add_emod n k; rw [Int.mul_comm] at this; omega, Int.emod_nonneg n (by omega), Int.emod_lt_of_pos n (by omega), rfl, rfl⟩
theorem qr_of {q r k : Int} (h0 : 0 ≤ r) (h1 : r < k) : (q * k + r) / k = q ∧ (q * k + r) % k = r := by
  have hk : k ≠ 0 := by omega
  constructor
  · rw [Int.add_comm, Int.add_mul_ediv_right _ _ hk, Int.ediv_eq_zero_of_lt h0 h1]; omega
  · rw [Int.add_comm, Int.add_mul_emod_self_right, Int.emod_eq_of_lt h0 h1]
theorem once_qr {q r k : Int} (h0 : 0 ≤ r) (h1 : r < k) : once (q * k + r) k = q + r := by
  obtain ⟨a, b⟩ := qr_of (q := q) h0 h1
  unfold once
  rw [a, b]
theorem once_le {n k : Int} (hn : 0 ≤ n) (hk : 2 ≤ k) : once n k ≤ n := by
  obtain ⟨q, r, e, h0, h1, e1, e2⟩ := qr n hk
  unfold once
  rw [e1, e2]
  have hq : 0 ≤ q := by rw [← e1]; exact Int.ediv_nonneg hn (by omega)
  have := Int.mul_le_mul_of_nonneg_left (by omega : (1 : Int) ≤ k) hq
  omega
theorem once_small {n k : Int} (hn : 0 ≤ n) (h : n < k) : once n k = n := by
  unfold once
  rw [Int.ediv_eq_zero_of_lt hn h, Int.emod_eq_of_lt hn h]
  omega
theorem once_pos {n k : Int} (hn : 1 ≤ n) (hk : 2 ≤ k) : 1 ≤ once n k := by
  obtain ⟨q, r, e, h0, h1, e1, e2⟩ := qr n hk
  unfold once
  rw [e1, e2]
  have hq : 0 ≤ q := by rw [← e1]; exact Int.ediv_nonneg (by omega) (by omega)
  rcases Int.lt_or_eq_of_le hq with h | h
  · omega
  · subst h; omega
theorem sqz_nn : ∀ {row : List Int} {n : Int}, 0 ≤ n → Two row → 0 ≤ sqz n row
  | [], n, h, _ => h
  | k :: r, n, h, t => sqz_nn (row := r) (once_nn h (t k (List.mem_cons_self ..))) fun j hj => t j (List.mem_cons_of_mem _ hj)
theorem sqz_le : ∀ {row : List Int} {n : Int}, 0 ≤ n → Two row → sqz n row ≤ n
  | [], n, h, _ => Int.le_refl n
  | k :: r, n, h, t => Int.le_trans (sqz_le (row := r) (once_nn h (t k (List.mem_cons_self ..))) fun j hj => t j (List.mem_cons_of_mem _ hj)) (once_le h (t k (List.mem_cons_self ..)))
theorem sqz_pos : ∀ {row : List Int} {n : Int}, 1 ≤ n → Two row → 1 ≤ sqz n row
  | [], n, h, _ => h
  | k :: r, n, h, t => sqz_pos (row := r) (once_pos h (t k (List.mem_cons_self ..))) fun j hj => t j (List.mem_cons_of_mem _ hj)
/-- one step of the reach -/
theorem rb_pos {R k : Int} (hR : 1 ≤ R) (hk : 2 ≤ k) : R ≤ rb R k := by
  unfold rb
  split
  · omega
  · rename_i h
    have e : (R + 3 - k) * k - 2 - R = (R + 1 - k) * (k - 1) + (k - 1) := by
      have e1 : R + 3 - k = (R + 1 - k) + 2 := by omega
      have e2 : k = (k - 1) + 1 := by omega
      rw [e1]
      have e3 : (R + 1 - k) * k = (R + 1 - k) * (k - 1) + (R + 1 - k) := by
        have := Int.mul_sub (R + 1 - k) k 1
        omega
      have e4 : (R + 1 - k + 2) * k = (R + 1 - k) * k + 2 * k := Int.add_mul _ _ _
      omega
    have := Int.mul_nonneg (by omega : (0 : Int) ≤ R + 1 - k) (by omega : (0 : Int) ≤ k - 1)
    omega
theorem rb_all {R k n : Int} (hR : 1 ≤ R) (hk : 2 ≤ k) (h0 : 0 ≤ n) (h : n ≤ rb R k) : once n k ≤ R := by
  unfold rb at h
  split at h
  · rw [once_small h0 (by omega)]; exact h
  · rename_i hh
    obtain ⟨q, r, e, h1, h2, e1, e2⟩ := qr n hk
    unfold once
    rw [e1, e2]
    have e3 : (R + 3 - k) * k = (R + 2 - k) * k + k := by
      have : R + 3 - k = (R + 2 - k) + 1 := by omega
      rw [this, Int.add_mul, Int.one_mul]
    rcases Int.lt_or_le q (R + 2 - k) with hq | hq
    · omega
    · rcases Int.lt_or_eq_of_le hq with hq | hq
      · have := Int.mul_le_mul_of_nonneg_right (by omega : R + 3 - k ≤ q) (by omega : (0 : Int) ≤ k)
        omega
      · subst hq
        omega
theorem rb_next {R k : Int} (hR : 1 ≤ R) (hk : 2 ≤ k) : once (rb R k + 1) k = R + 1 := by
  unfold rb
  split
  · rw [once_small (by omega) (by omega)]
  · have e3 : (R + 3 - k) * k - 2 + 1 = (R + 2 - k) * k + (k - 1) := by
      have : R + 3 - k = (R + 2 - k) + 1 := by omega
      rw [this, Int.add_mul, Int.one_mul]; omega
    rw [e3, once_qr (by omega) (by omega)]
    omega
theorem reach_pos : ∀ {row : List Int} {m : Int}, 1 ≤ m → Two row → m ≤ reachOf row m
  | [], m, _, _ => Int.le_refl m
  | k :: r, m, h, t => by
    have ih := reach_pos (row := r) h fun j hj => t j (List.mem_cons_of_mem _ hj)
    exact Int.le_trans ih (rb_pos (by omega) (t k (List.mem_cons_self ..)))
theorem reach_all : ∀ {row : List Int} {m n : Int}, 1 ≤ m → Two row → 0 ≤ n → n ≤ reachOf row m → sqz n row ≤ m
  | [], m, n, _, _, _, h => h
  | k :: r, m, n, h, t, h0, hn => by
    have t' : Two r := fun j hj => t j (List.mem_cons_of_mem _ hj)
    have hk := t k (List.mem_cons_self ..)
    have p := reach_pos h t'
    exact reach_all (row := r) h t' (once_nn h0 hk) (rb_all (by omega) hk h0 hn)
theorem reach_next : ∀ {row : List Int} {m : Int}, 1 ≤ m → Two row → sqz (reachOf row m + 1) row = m + 1
  | [], m, _, _ => rfl
  | k :: r, m, h, t => by
    have t' : Two r := fun j hj => t j (List.mem_cons_of_mem _ hj)
    have hk := t k (List.mem_cons_self ..)
    have p := reach_pos h t'
    show sqz (once (rb (reachOf r m) k + 1) k) r = m + 1
    rw [rb_next (by omega) hk]
    exact reach_next h t'
/-- the reach is where the first greater one stands -/
theorem reach_is {row : List Int} {m n : Int} (h : 1 ≤ m) (t : Two row) (h0 : 0 ≤ n) (hn : m < sqz n row) (ha : ∀ j, 0 ≤ j → j < n → sqz j row ≤ m) : reachOf row m = n - 1 := by
  have p := reach_pos h t
  rcases Int.lt_or_le (reachOf row m) n with a | a
  · rcases Int.lt_or_le (reachOf row m + 1) n with b | b
    · have := ha _ (by omega) b
      rw [reach_next h t] at this
      omega
    · omega
  · have := reach_all h t h0 a
    omega
theorem reach_mono {row : List Int} {m m' : Int} (h : 1 ≤ m) (hm : m ≤ m') (t : Two row) : reachOf row m ≤ reachOf row m' := by
  rcases Int.lt_or_le (reachOf row m') (reachOf row m) with a | a
  · have p := reach_pos (m := m') (by omega) t
    have := reach_all h t (n := reachOf row m' + 1) (by omega) (by omega)
    rw [reach_next (by omega) t] at this
    omega
  · exact a
end Sq


namespace Sq
def prodL (ns : List Int) : Int := ns.foldr (fun k p => k * p) 1
def slack (ns : List Int) : Int := (ns.map fun k => k - 1).sum
theorem prodL_cons (k : Int) (r : List Int) : prodL (k :: r) = k * prodL r := rfl
theorem prodL_app (a b : List Int) : prodL (a ++ b) = prodL a * prodL b := by
  induction a with
  | nil => simp [prodL]
  | cons k r ih => rw [List.cons_append, prodL_cons, prodL_cons, ih, Int.mul_assoc]
theorem prodL_snoc (a : List Int) (k : Int) : prodL (a ++ [k]) = prodL a * k := by rw [prodL_app]; simp [prodL]
theorem prodL_pos : ∀ {ns : List Int}, Two ns → 1 ≤ prodL ns
  | [], _ => Int.le_refl 1
  | k :: r, h => by
    have ih := prodL_pos (ns := r) fun j hj => h j (List.mem_cons_of_mem _ hj)
    have hk := h k (List.mem_cons_self ..)
    rw [prodL_cons]
    have := Int.mul_le_mul (show (1 : Int) ≤ k by omega) ih (by decide) (by omega)
    omega
theorem prodL_one : ∀ {ns : List Int}, Two ns → prodL ns ≤ 1 → ns = []
  | [], _, _ => rfl
  | k :: r, h, h1 => by
    have ih := prodL_pos (ns := r) fun j hj => h j (List.mem_cons_of_mem _ hj)
    have hk := h k (List.mem_cons_self ..)
    rw [prodL_cons] at h1
    have := Int.mul_le_mul hk ih (by decide) (by omega)
    omega
theorem once_mul (n : Int) {k : Int} (hk : 2 ≤ k) : k * once n k = n + (k - 1) * (n % k) := by
  have e := Int.mul_ediv_add_emod n k
  unfold once
  rw [Int.mul_add, Int.sub_mul, Int.one_mul]
  omega
theorem sqz_ge : ∀ {ns : List Int} {n : Int}, 0 ≤ n → Two ns → n ≤ prodL ns * sqz n ns
  | [], n, _, _ => by simp [prodL, sqz]
  | k :: r, n, h0, h => by
    have t : Two r := fun j hj => h j (List.mem_cons_of_mem _ hj)
    have hk := h k (List.mem_cons_self ..)
    have ih := sqz_ge (ns := r) (once_nn h0 hk) t
    have e := once_mul n hk
    have hm := Int.emod_nonneg n (show k ≠ 0 by omega)
    have := Int.mul_nonneg (show 0 ≤ k - 1 by omega) hm
    have := Int.mul_le_mul_of_nonneg_left ih (show 0 ≤ k by omega)
    rw [prodL_cons, sqz_cons, Int.mul_assoc]
    omega
theorem slack_cons (k : Int) (r : List Int) : slack (k :: r) = (k - 1) + slack r := by simp [slack]
theorem slack_nn : ∀ {ns : List Int}, Two ns → 0 ≤ slack ns
  | [], _ => Int.le_refl 0
  | k :: r, h => by
    have ih := slack_nn (ns := r) fun j hj => h j (List.mem_cons_of_mem _ hj)
    have hk := h k (List.mem_cons_self ..)
    rw [slack_cons]
    omega
theorem sqz_up : ∀ {ns : List Int} {n : Int}, 0 ≤ n → Two ns → prodL ns * sqz n ns ≤ n + prodL ns * slack ns
  | [], n, _, _ => by simp [prodL, sqz, slack]
  | k :: r, n, h0, h => by
    have t : Two r := fun j hj => h j (List.mem_cons_of_mem _ hj)
    have hk := h k (List.mem_cons_self ..)
    have ih := sqz_up (ns := r) (once_nn h0 hk) t
    have e := once_mul n hk
    have hl := Int.emod_lt_of_pos n (show 0 < k by omega)
    have p := prodL_pos t
    have a1 : (k - 1) * (n % k) ≤ (k - 1) * k := Int.mul_le_mul_of_nonneg_left (by omega) (by omega)
    have a2 := Int.mul_le_mul_of_nonneg_left ih (show 0 ≤ k by omega)
    -- k * (prodL r * x) ≤ k * once n k + k * prodL r * slack r
    have a3 : k * prodL r * (k - 1) = (k - 1) * k * prodL r := by
      rw [Int.mul_comm (k * prodL r), Int.mul_assoc]
    have a4 : (k - 1) * k * 1 ≤ (k - 1) * k * prodL r := Int.mul_le_mul_of_nonneg_left p (Int.mul_nonneg (by omega) (by omega))
    rw [prodL_cons, sqz_cons, slack_cons, Int.mul_add (k * prodL r), a3, Int.mul_assoc k (prodL r) (sqz _ _)]
    rw [Int.mul_add, ← Int.mul_assoc] at a2
    rw [← Int.mul_assoc] at a2
    rw [← Int.mul_assoc]
    omega
theorem sqz_mul : ∀ {ns : List Int} {m : Int}, Two ns → sqz (m * prodL ns) ns = m
  | [], m, _ => by simp [prodL, sqz]
  | k :: r, m, h => by
    have hk := h k (List.mem_cons_self ..)
    have e : m * prodL (k :: r) = (m * prodL r) * k + 0 := by
      rw [prodL_cons, Int.add_zero, Int.mul_assoc, Int.mul_comm k]
    rw [sqz_cons, e, once_qr (by omega) (by omega), Int.add_zero]
    exact sqz_mul fun j hj => h j (List.mem_cons_of_mem _ hj)
theorem slack_le : ∀ {ns : List Int} {g : Int}, (∀ k ∈ ns, k ≤ g) → slack ns ≤ ns.length * (g - 1)
  | [], g, _ => by simp [slack]
  | k :: r, g, h => by
    have ih := slack_le (ns := r) (g := g) fun j hj => h j (List.mem_cons_of_mem _ hj)
    have hk := h k (List.mem_cons_self ..)
    rw [slack_cons, List.length_cons]
    have : ((r.length + 1 : Nat) : Int) * (g - 1) = r.length * (g - 1) + (g - 1) := by
      rw [Int.natCast_add, Int.add_mul]
      simp
    omega
theorem prodL_le : ∀ {ns : List Int} {g : Int} {n : Nat}, Two ns → (∀ k ∈ ns, k ≤ g) → ns.length ≤ n → 1 ≤ g → prodL ns ≤ g ^ n
  | [], g, n, _, _, _, hg => by
    show (1 : Int) ≤ g ^ n
    exact Int.pow_pos (show 0 < g by omega)
  | k :: r, g, 0, _, _, hl, _ => by simp at hl
  | k :: r, g, n + 1, h, hk, hl, hg => by
    have ih := prodL_le (ns := r) (g := g) (n := n) (fun j hj => h j (List.mem_cons_of_mem _ hj)) (fun j hj => hk j (List.mem_cons_of_mem _ hj)) (by simpa using hl) hg
    have p := prodL_pos (ns := r) fun j hj => h j (List.mem_cons_of_mem _ hj)
    have k2 := h k (List.mem_cons_self ..)
    rw [prodL_cons, Int.pow_succ, Int.mul_comm]
    exact Int.mul_le_mul ih (hk k (List.mem_cons_self ..)) (by omega) (by omega)
/-- the product is told by one long run -/
theorem told_prod {ns : List Int} {b s : Int} (h : Two ns) (hb : prodL ns ≤ b) (hs : slack ns < s) : ((s * b * (b + 1)) + sqz (s * b * (b + 1)) ns - 1) / sqz (s * b * (b + 1)) ns = prodL ns := by
  have p := prodL_pos h
  have s0 := slack_nn h
  have L0 : 0 ≤ s * b * (b + 1) := Int.mul_nonneg (Int.mul_nonneg (by omega) (by omega)) (by omega)
  have g := sqz_ge L0 h
  have u := sqz_up L0 h
  generalize hL : s * b * (b + 1) = L at *
  generalize hx : sqz L ns = x at *
  generalize hP : prodL ns = Pr at *
  generalize hS : slack ns = S at *
  -- (Pr - 1) * x < L ≤ Pr * x
  have e1 : Pr * S * Pr ≤ S * b * b := by
    have a := Int.mul_le_mul hb hb (by omega) (by omega : 0 ≤ b)
    have c := Int.mul_le_mul_of_nonneg_left a s0
    have d1 : Pr * S * Pr = S * (Pr * Pr) := by rw [Int.mul_comm Pr S, Int.mul_assoc]
    have d2 : S * b * b = S * (b * b) := Int.mul_assoc _ _ _
    omega
  have e2 : S * b * b + b < L := by
    have a1 : (S + 1) * b * (b + 1) ≤ s * b * (b + 1) := Int.mul_le_mul_of_nonneg_right (Int.mul_le_mul_of_nonneg_right (by omega) (by omega)) (by omega)
    have a2 : (S + 1) * b * (b + 1) = S * b * b + S * b + (b * b + b) := by
      rw [Int.add_mul, Int.one_mul, Int.mul_add, Int.mul_one, Int.add_mul]
      omega
    have a3 := Int.mul_nonneg s0 (show 0 ≤ b by omega)
    have a4 := Int.mul_le_mul (show (1 : Int) ≤ b by omega) (show (1 : Int) ≤ b by omega) (by decide) (by omega)
    omega
  have xpos : 0 < x := by
    rcases Int.lt_or_le 0 x with z | z
    · exact z
    · have := Int.mul_nonpos_of_nonneg_of_nonpos (show 0 ≤ Pr by omega) z
      have := Int.mul_nonneg (Int.mul_nonneg s0 (show 0 ≤ b by omega)) (show 0 ≤ b by omega)
      omega
  have lo : (Pr - 1) * x < L := by
    -- Pr * ((Pr - 1) * x) ≤ (Pr - 1) * (L + Pr * S) < Pr * L
    have a1 := Int.mul_le_mul_of_nonneg_left u (show 0 ≤ Pr - 1 by omega)
    have a2 : (Pr - 1) * (Pr * x) = Pr * ((Pr - 1) * x) := by
      rw [← Int.mul_assoc, ← Int.mul_assoc, Int.mul_comm (Pr - 1) Pr]
    have a3 : (Pr - 1) * (L + Pr * S) = Pr * L - L + (Pr * S * Pr - Pr * S) := by
      rw [Int.sub_mul, Int.one_mul, Int.mul_add, Int.mul_comm Pr (Pr * S)]
      omega
    have a4 := Int.mul_nonneg (show 0 ≤ Pr by omega) s0
    rcases Int.lt_or_le ((Pr - 1) * x) L with z | z
    · exact z
    · have := Int.mul_le_mul_of_nonneg_left z (show 0 ≤ Pr by omega)
      omega
  have q1 : L + x - 1 = (L - (Pr - 1) * x - 1) + Pr * x := by
    rw [Int.sub_mul, Int.one_mul]
    omega
  rw [q1, Int.add_mul_ediv_right _ _ (by omega), Int.ediv_eq_zero_of_lt (by omega) (by rw [Int.sub_mul, Int.one_mul]; omega)]
  omega
/-- the next number of the list is told by runs below the product -/
theorem next_hit {k : Int} {r : List Int} (h : Two (k :: r)) : sqz (prodL (k :: r) - k + 1) (k :: r) = 1 := by
  have t : Two r := fun j hj => h j (List.mem_cons_of_mem _ hj)
  have hk := h k (List.mem_cons_self ..)
  have e : prodL (k :: r) - k + 1 = (prodL r - 1) * k + 1 := by
    rw [prodL_cons, Int.sub_mul, Int.one_mul, Int.mul_comm]
  rw [sqz_cons, e, once_qr (by omega) (by omega)]
  have := sqz_mul (m := 1) t
  rw [Int.one_mul] at this
  rw [show prodL r - 1 + 1 = prodL r by omega]
  exact this
theorem next_miss {k j : Int} {r : List Int} (h : Two (k :: r)) (hj : 2 ≤ j) (hjk : j < k) : 1 < sqz (prodL (k :: r) - j + 1) (k :: r) := by
  have t : Two r := fun j hj => h j (List.mem_cons_of_mem _ hj)
  have hk := h k (List.mem_cons_self ..)
  have p := prodL_pos t
  have e : prodL (k :: r) - j + 1 = (prodL r - 1) * k + (k - j + 1) := by
    rw [prodL_cons, Int.sub_mul, Int.one_mul, Int.mul_comm]
    omega
  rw [sqz_cons, e, once_qr (by omega) (by omega)]
  have g := sqz_ge (n := prodL r - 1 + (k - j + 1)) (by omega) t
  rcases Int.lt_or_le 1 (sqz (prodL r - 1 + (k - j + 1)) r) with z | z
  · exact z
  · have := Int.mul_le_mul_of_nonneg_left z (show 0 ≤ prodL r by omega)
    omega
end Sq


namespace Sq
/-! ## a run that two different lists make to different lengths -/
theorem sqz_prod {ns : List Int} (h : Two ns) : sqz (prodL ns) ns = 1 := by
  have e := sqz_mul (m := 1) h
  rw [Int.one_mul] at e
  exact e
theorem sqz_far {ns : List Int} {n : Int} (h : Two ns) (hn : prodL ns < n) : 2 ≤ sqz n ns := by
  have p := prodL_pos h
  have g := sqz_ge (show 0 ≤ n by omega) h
  have s1 : 1 ≤ sqz n ns := sqz_pos (by omega) h
  rcases (show sqz n ns = 1 ∨ 2 ≤ sqz n ns by omega) with z | z
  · rw [z, Int.mul_one] at g
    omega
  · exact z
/-- products differ -/
theorem part_max {as bs : List Int} (ha : Two as) (hb : Two bs) (h : prodL as ≠ prodL bs) {n : Int} (hn : n = if prodL bs > prodL as then prodL bs else prodL as) : 1 ≤ n ∧ sqz n as ≠ sqz n bs := by
  have pa := prodL_pos ha
  have pb := prodL_pos hb
  by_cases c : prodL bs > prodL as
  · rw [if_pos c] at hn
    subst hn
    have e := sqz_prod hb
    have f := sqz_far ha c
    exact ⟨pb, by omega⟩
  · rw [if_neg c] at hn
    subst hn
    have e := sqz_prod ha
    have f := sqz_far hb (n := prodL as) (by omega)
    exact ⟨pa, by omega⟩
theorem part_head {a b : Int} {r t : List Int} (ha : 2 ≤ a) (hr : Two r) (hb : 2 ≤ b) (ht : Two t) (hp : a * prodL r = b * prodL t) (lt : a < b) :
    1 ≤ a * prodL r - a + 1 ∧ sqz (a * prodL r - a + 1) (a :: r) = 1 ∧ 2 ≤ sqz (a * prodL r - a + 1) (b :: t) := by
  have pr := prodL_pos hr
  have pt := prodL_pos ht
  have e1 : a * prodL r - a + 1 = (prodL r - 1) * a + 1 := by
    rw [Int.sub_mul, Int.one_mul, Int.mul_comm a]
  have e2 : a * prodL r - a + 1 = (prodL t - 1) * b + (b - a + 1) := by
    rw [hp, Int.sub_mul, Int.one_mul, Int.mul_comm b]
    omega
  refine ⟨?_, ?_, ?_⟩
  · have := Int.mul_nonneg (show 0 ≤ prodL r - 1 by omega) (show 0 ≤ a by omega)
    omega
  · rw [sqz_cons, e1, once_qr (by omega) (by omega), show prodL r - 1 + 1 = prodL r by omega]
    exact sqz_prod hr
  · rw [sqz_cons, e2, once_qr (by omega) (by omega)]
    exact sqz_far ht (by omega)
theorem pre_mul {pre r : List Int} (h : Two pre) (m : Int) : sqz (m * prodL pre) (pre ++ r) = sqz m r := by
  rw [sqz_app, sqz_mul h]
/-- the first place where they differ -/
theorem part_at {as bs : List Int} {j : Nat} {a b : Int} (ha : Two as) (hb : Two bs) (hp : prodL as = prodL bs) (hj : ∀ i, i < j → as[i]? = bs[i]?) (ea : as[j]? = some a) (eb : bs[j]? = some b) (ne : a ≠ b) :
    let n := (prodL (as.drop j) - (if b < a then b else a) + 1) * prodL (as.take j)
    1 ≤ n ∧ sqz n as ≠ sqz n bs := by
  intro n
  have tk : as.take j = bs.take j := by
    apply List.ext_getElem?
    intro i
    rw [List.getElem?_take, List.getElem?_take]
    split
    · exact hj i (by assumption)
    · rfl
  obtain ⟨la, ga⟩ := List.getElem?_eq_some_iff.mp ea
  obtain ⟨lb, gb⟩ := List.getElem?_eq_some_iff.mp eb
  have da : as.drop j = a :: as.drop (j + 1) := by rw [List.drop_eq_getElem_cons la, ga]
  have db : bs.drop j = b :: bs.drop (j + 1) := by rw [List.drop_eq_getElem_cons lb, gb]
  have sa : as = as.take j ++ (a :: as.drop (j + 1)) := by rw [← da, List.take_append_drop]
  have sb : bs = as.take j ++ (b :: bs.drop (j + 1)) := by rw [tk, ← db, List.take_append_drop]
  have tp : Two (as.take j) := fun k hk => ha k (List.mem_of_mem_take hk)
  have tr : Two (as.drop (j + 1)) := fun k hk => ha k (List.mem_of_mem_drop hk)
  have tt : Two (bs.drop (j + 1)) := fun k hk => hb k (List.mem_of_mem_drop hk)
  have a2 := ha a (List.mem_of_getElem? ea)
  have b2 := hb b (List.mem_of_getElem? eb)
  have pp := prodL_pos tp
  have eq : a * prodL (as.drop (j + 1)) = b * prodL (bs.drop (j + 1)) := by
    have h1 : prodL as = prodL (as.take j) * (a * prodL (as.drop (j + 1))) := by
      conv => lhs; rw [sa, prodL_app, prodL_cons]
    have h2 : prodL bs = prodL (as.take j) * (b * prodL (bs.drop (j + 1))) := by
      conv => lhs; rw [sb, prodL_app, prodL_cons]
    rw [h1, h2] at hp
    exact Int.eq_of_mul_eq_mul_left (by omega) hp
  have nd : prodL (as.drop j) = a * prodL (as.drop (j + 1)) := by rw [da, prodL_cons]
  have key : ∀ m, sqz (m * prodL (as.take j)) as = sqz m (a :: as.drop (j + 1)) ∧ sqz (m * prodL (as.take j)) bs = sqz m (b :: bs.drop (j + 1)) := fun m => ⟨by
    conv => lhs; arg 2; rw [sa]
    exact pre_mul tp m, by
    conv => lhs; arg 2; rw [sb]
    exact pre_mul tp m⟩
  have pos : ∀ m, 1 ≤ m → 1 ≤ m * prodL (as.take j) := fun m hm => by
    have := Int.mul_le_mul hm pp (by decide) (by omega)
    omega
  show 1 ≤ (prodL (as.drop j) - (if b < a then b else a) + 1) * prodL (as.take j) ∧ _
  rw [show n = (prodL (as.drop j) - (if b < a then b else a) + 1) * prodL (as.take j) from rfl, nd, (key _).1, (key _).2]
  by_cases c : b < a
  · rw [if_pos c, eq]
    obtain ⟨h1, h2, h3⟩ := part_head b2 tt a2 tr eq.symm c
    exact ⟨pos _ h1, by omega⟩
  · rw [if_neg c]
    obtain ⟨h1, h2, h3⟩ := part_head a2 tr b2 tt eq (by omega)
    exact ⟨pos _ h1, by omega⟩
/-- there is such a place -/
theorem part_has : ∀ {as bs : List Int}, Two as → Two bs → prodL as = prodL bs → as ≠ bs → ∃ (j : Nat) (a b : Int), as[j]? = some a ∧ bs[j]? = some b ∧ a ≠ b ∧ ∀ i, i < j → as[i]? = bs[i]?
  | [], [], _, _, _, ne => absurd rfl ne
  | [], b :: t, _, hb, hp, ne => absurd (prodL_one hb (by rw [← hp]; exact Int.le_refl 1)) (by simp)
  | a :: r, [], ha, _, hp, ne => absurd (prodL_one ha (by rw [hp]; exact Int.le_refl 1)) (by simp)
  | a :: r, b :: t, ha, hb, hp, ne => by
    by_cases e : a = b
    · subst e
      have a2 := ha a (List.mem_cons_self ..)
      have hp2 : prodL r = prodL t := by
        rw [prodL_cons, prodL_cons] at hp
        exact Int.eq_of_mul_eq_mul_left (by omega) hp
      obtain ⟨j, x, y, h1, h2, h3, h4⟩ := part_has (fun k hk => ha k (List.mem_cons_of_mem _ hk)) (fun k hk => hb k (List.mem_cons_of_mem _ hk)) hp2 (fun z => ne (by rw [z]))
      refine ⟨j + 1, x, y, by simpa using h1, by simpa using h2, h3, fun i hi => ?_⟩
      cases i with
      | zero => rfl
      | succ i => simpa using h4 i (by omega)
    · exact ⟨0, a, b, rfl, rfl, e, fun i hi => absurd hi (by omega)⟩
end Sq


namespace Sq
open PySem PySem.Spec PyProof.Rows L2
/-! ## ranges of wide ints -/
theorem turn_wide {P : Program} {w : World} {K : PySem.W.Frag} {tg : Expr} (z : Addr) (lo : Int) (n : Nat) : Turn P w K tg (Itr lo n) [z] z (fun i h => IsLongIter h z (lo + (i : Nat) * 1) ((n : Int) - (i : Nat)) 1) := by
  refine ⟨List.mem_singleton.mpr rfl, fun i h st b hb => ?_, fun i h h2 st k => k z (List.mem_singleton.mpr rfl) _ st, ?_, ?_, fun A i s Q E st h => wpAny_pyIter_longiter st h⟩
  · rw [List.mem_singleton.mp hb]
    exact ⟨_, st, fun v c => by cases (show Data.fields _ = Data.cell v from c)⟩
  · rintro X rfl rfl rfl hc i pins s σ H E I hf st hg
    have f := hf z (List.mem_singleton.mpr rfl)
    refine (Walks.longrange (prog := X.prog) (w := X.w) (I.ok.hd hc) z lo 1 n).item i s _ _ hg st fun v h2 tk hv st2 kk => ?_
    obtain ⟨t, rfl⟩ := hv
    have J : Inv X pins σ H { s with heap := h2, toks := tk } := I.turned (fun b o hb e => kk b o (fun m => hb (List.mem_singleton.mp m)) e) f.1 f.2.1 f.2.2.2.1 f.2.2.2.2.1 f.2.2.2.2.2
    refine ⟨_, rfl, go_of (s := { s with heap := h2, toks := tk }) (n := "longrange_iterator") st2 rfl rfl (by decide) ⟨.int (lo + i), H, J, ⟨t, by rw [Int.mul_one]⟩, ⟨rfl, rfl⟩, st2, fun b hb => (hf b hb).1⟩⟩
  · rintro X rfl rfl rfl hc i pins s σ H E I hf st hg
    have f := hf z (List.mem_singleton.mpr rfl)
    have m : n ≤ i := hg
    exact wpAny_pyNext_long_end (I.ok.hd hc) st (by omega) fun h2 k => ⟨rfl, I.turned (t' := s.toks) (fun b o hb e => k b o hb e) f.1 f.2.1 f.2.2.2.1 f.2.2.2.2.1 f.2.2.2.2.2⟩
section
variable {X : Cx} {tg a b : Expr} {t : TA} {p pos : Pos}
theorem rsz (lo hi : Int) : Builtin.Range.rangeSize lo hi 1 = ((hi - lo).toNat : Int) := by
  rw [rangeSize_one]
  split <;> omega
theorem wide_it {pins : List (Addr × Obj)} {σ : L2.St} {H : Hp} {s : Shared} {R : It → Hp → Prop} {E : Value → Shared → Prop} {lo hi : Int} {t u v : Tok} {tk : Nat} (I : Inv X pins σ H s) (q : R (Itr lo (hi - lo).toNat) H) :
    wpAny (model X.prog X.w) X.A (pyIter (.ref s.heap.objs.size)) (PIE X pins σ tg R) E { s with heap := s.heap.push { cls := .type "range", data := .fields #[.int lo t, .int hi u, .int 1 v] }, toks := tk } := by
  have J : Inv X pins σ H { s with heap := s.heap.push { cls := .type "range", data := .fields #[.int lo t, .int hi u, .int 1 v] }, toks := tk } := I.kept fun b o e => Heap.get?_push_of_some _ e
  have z0 : lo + ((0 : Nat) : Int) * 1 = lo := by omega
  have z1 : (((hi - lo).toNat : Nat) : Int) - ((0 : Nat) : Int) = Builtin.Range.rangeSize lo hi 1 := by
    rw [rsz]
    omega
  by_cases sm : Builtin.Range.small lo hi 1 = true
  · refine wpAny_pyIter_range (IsRange.new ..) sm ⟨(s.heap.push { cls := .type "range", data := .fields #[.int lo t, .int hi u, .int 1 v] }).objs.size, [(s.heap.push { cls := .type "range", data := .fields #[.int lo t, .int hi u, .int 1 v] }).objs.size], _, _, H, rfl,
      J.kept (t' := tk) fun b o e => Heap.get?_push_of_some _ e, turn_range _ lo (hi - lo).toNat, ?_, fun b hb => ?_, q⟩
    · show IsRangeIter _ _ (lo + ((0 : Nat) : Int) * 1) ((((hi - lo).toNat : Nat) : Int) - ((0 : Nat) : Int)) 1
      rw [z0, z1]
      exact Heap.get?_push_size _ rfl
    · rw [List.mem_singleton.mp hb]
      exact J.fpOk (Nat.le_refl _) (J.hok.fresh (Nat.le_refl _))
  · refine wpAny_pyIter_longrange (IsRange.new ..) (Bool.not_eq_true _ ▸ sm) ⟨(s.heap.push { cls := .type "range", data := .fields #[.int lo t, .int hi u, .int 1 v] }).objs.size, [(s.heap.push { cls := .type "range", data := .fields #[.int lo t, .int hi u, .int 1 v] }).objs.size], _, _, H, rfl,
      J.kept (t' := tk) fun b o e => Heap.get?_push_of_some _ e, turn_wide _ lo (hi - lo).toNat, ?_, fun b hb => ?_, q⟩
    · show IsLongIter _ _ (lo + ((0 : Nat) : Int) * 1) ((((hi - lo).toNat : Nat) : Int) - ((0 : Nat) : Int)) 1
      rw [z0, z1]
      exact Heap.get?_push_size _ rfl
    · rw [List.mem_singleton.mp hb]
      exact J.fpOk (Nat.le_refl _) (J.hok.fresh (Nat.le_refl _))
def iRngW (t : TA) : TI := fun σ H R => t σ H fun vs H1 => ∃ i j : Int, vs = [.int i, .int j] ∧ R (Itr i (j - i).toNat) H1
theorem pi_range2W (hg : Gl X "range") (hm : X.mg "range" = none) (ha : PA X [a, b] t) (h1 : starEach [a, b] X.env = [(false, eval a X.env), (false, eval b X.env)] := by rfl) (h2 : starEach [b] X.env = [(false, eval b X.env)] := by rfl) :
    PI X tg (.Call (.Name "range" p) [a, b] [] pos) (iRngW t) := by
  refine ⟨fun pins s σ H R I h => Call_ (ld_blt I hg hm boot_range (PyProof.Rows.callWith_type1 (thn (ha.run pos pins s σ H _ I h) fun us s1 hx => ?_) (by rw [h1, h2]) (by rw [h2]; rfl)))⟩
  obtain ⟨vs, H1, J, r, i, j, rfl, q⟩ := hx
  obtain ⟨u, v, rfl, ⟨c, rfl⟩, ⟨d, rfl⟩⟩ : ∃ u v, us = [u, v] ∧ RelV (.int i) u ∧ RelV (.int j) v := by
    cases r with
    | cons r1 r => cases r with
      | cons r2 r => cases r; exact ⟨_, _, rfl, r1, r2⟩
  exact call_range_2 (wide_it J q)
end
/-! ## parts of a list -/
theorem cut_from (xs : List V) (k : Nat) : cutV xs (some (k : Int)) none = xs.drop k := by
  unfold cutV
  rw [HT.sIx_nat, HT.sIx_none]
  rcases Nat.le_total k xs.length with h | h
  · rw [Nat.min_eq_left h]
    exact List.take_of_length_le (by rw [List.length_drop]; omega)
  · rw [Nat.min_eq_right h, List.drop_eq_nil_of_le (Nat.le_refl _), List.drop_eq_nil_of_le h]
    simp
theorem cut_to (xs : List V) (k : Nat) : cutV xs none (some (k : Int)) = xs.take k := by
  unfold cutV
  rw [HT.sIx_nat, HT.sIx_none, List.drop_zero, Nat.sub_zero]
  rcases Nat.le_total k xs.length with h | h
  · rw [Nat.min_eq_left h]
  · rw [Nat.min_eq_right h, List.take_of_length_le (Nat.le_refl _), List.take_of_length_le h]
theorem cut_mid (xs : List V) (j k : Nat) : cutV xs (some (j : Int)) (some (k : Int)) = (xs.drop j).take (k - j) := by
  unfold cutV
  rw [HT.sIx_nat, HT.sIx_nat]
  rcases Nat.le_total j xs.length with h | h
  · rw [Nat.min_eq_left h]
    rcases Nat.le_total k xs.length with h2 | h2
    · rw [Nat.min_eq_left h2]
    · rw [Nat.min_eq_right h2, List.take_of_length_le (by rw [List.length_drop]; omega), List.take_of_length_le (by rw [List.length_drop]; omega)]
  · rw [Nat.min_eq_right h, List.drop_eq_nil_of_le (Nat.le_refl _), List.drop_eq_nil_of_le h]
    simp
theorem iv_drop (ns : List Int) (k : Nat) : (iv ns).drop k = iv (ns.drop k) := by simp
theorem iv_take (ns : List Int) (k : Nat) : (iv ns).take k = iv (ns.take k) := by simp
/-! ## a op b op c op d -/
def tChain3 (r r' r'' : R2) (ta tb tc td : TE) : TE := fun σ H Q => ta σ H fun x H1 => tb σ H1 fun y H2 => r x y H2 fun z H3 => ∃ k, z = .bl k ∧
  (if k = true then tc σ H3 fun v H4 => r' y v H4 fun z' H5 => ∃ k', z' = .bl k' ∧ (if k' = true then td σ H5 fun u H6 => r'' v u H6 Q else Q (.bl false) H5) else Q (.bl false) H3)
section
variable {X : Cx} {a b c d : Expr} {ta tb tc td : TE} {pos : Pos} {op op' op'' : CmpOp} {r r' r'' : R2}
theorem pt_chain3 (h1 : OpR X (compareOp op) r) (h2 : OpR X (compareOp op') r') (h3 : OpR X (compareOp op'') r'') (ha : PE X a ta) (hb : PE X b tb) (hc : PE X c tc) (hd : PE X d td)
    (hm : lastMarks [op, op', op''] [b, c, d] = false := by with_unfolding_all rfl) : PT X (.Compare a [op, op', op''] [b, c, d] pos) (tTest (tChain3 r r' r'' ta tb tc td)) := by
  refine ⟨fun pins s σ H Q I h => isTrue_chain (thn (ha.run pins s σ H _ I h) fun v s1 ⟨x, H1, I1, r1, q1⟩ => test_link (thn (hb.run pins s1 σ H1 _ I1 q1) fun u s2 ⟨y, H2, I2, r2, q2⟩ =>
    thn (h1 pins s2 σ H2 x y v u _ I2 r1 r2 q2) fun e s3 ⟨z, H3, I3, r3, k, ez, q3⟩ => ?_)) hm⟩
  subst ez
  cases r3
  refine wpAny_truthy_bool ?_
  cases k with
  | false =>
    obtain ⟨k2, e2, q2⟩ := q3
    cases e2
    exact ite_ff ⟨H3, I3, q2⟩
  | true =>
    refine ite_tt (test_link (thn (hc.run pins s3 σ H3 _ I3 q3) fun w4 s4 ⟨y4, H4, I4, r4, q4⟩ => thn (h2 pins s4 σ H4 y y4 u w4 _ I4 r2 r4 q4) fun e5 s5 ⟨z5, H5, I5, r5, k5, e5', q5⟩ => ?_))
    subst e5'
    cases r5
    refine wpAny_truthy_bool ?_
    cases k5 with
    | false =>
      obtain ⟨k2, e2, q2⟩ := q5
      cases e2
      exact ite_ff ⟨H5, I5, q2⟩
    | true =>
      refine ite_tt (test_last (thn (hd.run pins s5 σ H5 _ I5 q5) fun w6 s6 ⟨y6, H6, I6, r6, q6⟩ => thn (h3 pins s6 σ H6 y4 y6 w4 w6 _ I6 r4 r6 q6) fun e7 s7 ⟨z7, H7, I7, r7, k7, e7', q7⟩ => ?_))
      subst e7'
      cases r7
      exact wpAny_truthy_bool ⟨H7, I7, q7⟩
end
end Sq


set_option Elab.async false
set_option maxRecDepth 100000
set_option maxHeartbeats 4000000
namespace Sq
open PySem PySem.Spec PyProof.Rows L2
/-! ## an own exception's __init__(self, value): super().__init__(text); self.value = value -/
section
open PySem.W PySem.Calls
variable {prog : Program} {w : World} {A : Around} {E : Value → Shared → Prop} {h : Heap} {g : Array GenState} {d : Drawn} {t : Nat} {os : OsState}
variable {nm q : Str} {C N : Addr} {bs bm : List Value} {hdct : Bool} {sn : List Str} {sub : List Value} {ab : Bool} {col : Option Bool} {dd : Option Addr} {k0 k1 k2 k3 k5 : Option Value}
/-- ValueError.__init__, bound to e, called -/
theorem call_vw {u e t0 : Addr} {rest : List Value} {Q : Value → Shared → Prop}
    (hC : h.get? C = some (excClassObj nm q C N bs bm hdct sn sub ab col dd k0 k1 k2 k3 k5 "ValueError.__new__")) (he : h.get? e = some (HandSPX.excO C t0)) (hu : h.get? u = some (kxs_mw "ValueError.__init__" e)) (hrest : rest.length ≤ sizeLine)
    (hq : ∀ h' t1, (∀ b o, b ≠ e → h.get? b = some o → h'.get? b = some o) → h'.get? e = some (HandSPX.excO C t1) → Q .none ⟨h', g, d, t, os⟩) :
    wpAny (model prog w) A (call (.ref u) rest) Q E ⟨h, g, d, t, os⟩ := by
  refine wpAny_call (codeAny_of_tree ?_)
  show wpAny _ A.in1 (callAny (.ref u) ⟨rest, []⟩) _ _ _
  simp only [callAny]
  refine wpAny_bind (wpAny_load hu ?_)
  simp only [kxs_mw, show (Value.type "method-wrapper" == Value.type "method" || Value.type "method-wrapper" == Value.type "builtin_function_or_method" || Value.type "method-wrapper" == Value.type "method-wrapper") = true by decide, if_true]
  refine W.KFB.if_so (by decide) ?_
  refine wpAny_bind (check_bound_init F.excBase_ValueError.toExcCallFacts hC he rfl ?_)
  refine wpAny_bind (wpAny_pure (wpAny_pure ⟨Code.quiet_builtin _ (by decide +kernel), codeAny_builtin F.excBase_ValueError.initEntry ?_⟩))
  exact exc_init_tree (cls := .ref C) (t0 := t0) (dv := none) (c2 := .none) (c3 := .none) (b4 := .bool false) he hrest fun h' k e' _ => hq h' h.objs.size k e'
end

def spXI (C : Addr) : Sp := fun vs H Q _ => ∃ (a : Addr) (v : V), vs = [.ref a, v] ∧ H a = some (exo a C none) ∧ ∀ dx, H dx = none → dx ≠ a → Q .non (upd (upd H dx (exd dx [("value", v)])) a (exo a C (some dx)))
/-- what the written part says of such an __init__ -/
structure XIn (P : Program) (K : PySem.W.Frag) (C f cc cda : Addr) (qual file : Str) : Prop where
  code : PySem.W.codeIn K (.ref cda) qual = true
  cell : ∃ cl cld csl, K.lookup cc = some ⟨cl, cld, .cell (some (.ref C)), csl⟩
  rec_ : ∃ ccl cdd vs ccs tf, K.lookup cda = some ⟨ccl, cdd, .fields vs, ccs⟩ ∧ vs[2]? = some (.str file tf)
  file : ((P.main.file : Str) == file) = true
  top : (P.main.scope.names.lookup ("super" : Str)).isSome = false
  opq : PySem.W.nsIn K PySem.cStatics "thirdparty.any" = some none
  sup : PySem.W.ks_superIn K C C "__init__" = some (some (.builtin "ValueError.__init__"))
  veb : PySem.W.subIn K (.ref C) (.type "ValueError") = some true
  self : PySem.W.mroIn K C (.ref C) = some true
  val : PySem.W.findIn K (.ref C) "value" = some none
abbrev xiScope : Scope := ⟨.function, [("self", .local), ("value", .local), ("__class__", .free), ("super", .globalImplicit)], false, false, []⟩
abbrev xiArgs (q0 q1 : Pos) : Arguments := { posonlyargs := [], args := [{ arg := "self", annotation := none, pos := q0 }, { arg := "value", annotation := none, pos := q1 }], vararg := none, kwonlyargs := [], kw_defaults := [], kwarg := none, defaults := [] }
abbrev xiBody (m : Str) (p0 p1 p2 p3 p4 p5 p6 p7 p8 p9 : Pos) : List Stmt := [.Expr (.Call (.Attribute (.Call (.Name "super" p0) [] [] p1) "__init__" p2) [.Constant (.str m) 0 p3] [] p4) p5, .Assign [.Attribute (.Name "self" p6) "value" p7] (.Name "value" p8) p9]
theorem xi_S : NdefX.NScope ["self", "value", "__class__"] ["self", "value"] ["__class__"] xiScope := NdefX.nscope_by (by decide +kernel)
/-- how the call of super().__init__ begins (by rfl, once the places are known) -/
def XiCall (qual : Str) (f cc cda : Addr) (m : Str) (p0 p1 p2 p3 p4 : Pos) : Prop := ∀ L : Addr, eval (.Call (.Attribute (.Call (.Name "super" p0) [] [] p1) "__init__" p2) [.Constant (.str m) 0 p3] [] p4) (PySem.W.ksEnv qual xiScope L f (.ref cda) cc) = (do
  let ov ← attributeBase (.Call (.Name "super" p0) [] [] p1) "__init__" (PySem.W.ksEnv qual xiScope L f (.ref cda) cc) (eval (.Call (.Name "super" p0) [] [] p1) (PySem.W.ksEnv qual xiScope L f (.ref cda) cc))
  standAt p2.atName
  let (g, first) ← holding [ov] (getMethod ov "__init__" (do return (← importBound (.Call (.Name "super" p0) [] [] p1) (PySem.W.ksEnv qual xiScope L f (.ref cda) cc)).getD true))
  callWith p4 g first (backTo p4 (starEach [.Constant (.str m) 0 p3] (PySem.W.ksEnv qual xiScope L f (.ref cda) cc))) [])
theorem ok_xi {P : Program} {w : World} {K : PySem.W.Frag} {mg : Str → Option Value} {base : Heap} {CX : CXT} {k : Nat} {C f cc cda : Addr} {qual file : Str} {kV doc pm ct oc : Value} {an od : Option Addr} {osl : Array (Option Value)}
    {p0 p1 p2 p3 p4 p5 p6 p7 p8 p9 q0 q1 : Pos} {m : Str} (T : OexC K C) (XI : XIn P K C f cc cda qual file)
    (lk : K.lookup f = some ⟨oc, od, .func (PySem.W.ksFn "__init__" qual (xiArgs q0 q1) (xiBody m p0 p1 p2 p3 p4 p5 p6 p7 p8 p9) xiScope .none kV doc pm an (.ref cda) ct cc), osl⟩) (hms : mg "super" = none) (he : XiCall qual f cc cda m p0 p1 p2 p3 p4) :
    FnOk P w K mg base CX (k + 1) f (PySem.W.ksFn "__init__" qual (xiArgs q0 q1) (xiBody m p0 p1 p2 p3 p4 p5 p6 p7 p8 p9) xiScope .none kV doc pm an (.ref cda) ct cc) ["self", "value"] (spXI C) := by
  refine ⟨fun vs H Q E h => by obtain ⟨a, v, rfl, _⟩ := h; rfl, fun A outer s H args us vs Q E hr e0 hbind r hsp => ?_⟩
  obtain ⟨a, v, rfl, ha, hq⟩ := hsp
  have KX : K.In s.heap := e0.mod.kin.keeps fun b o e => (e0.bs b o e).1
  have lim : s.heap.NoLimit := e0.mod.nolimit.keeps fun b o e => (e0.bs b o e).1
  obtain ⟨cl, cld, csl, hcell⟩ := XI.cell
  obtain ⟨ccl, cdd, cvs, ccs, tf, hcode, hvs⟩ := XI.rec_
  refine PySem.ks_codeAny_call_defAt (binds := (["self", "value"] : List Str).zip us) hr.depth (KX _ _ lk) rfl lim (PySem.W.codeRec_of KX XI.code) rfl hbind xi_S.nocell (fun ⟨n, _⟩ hy => xi_S.par n (List.of_mem_zip hy).1) (fun h1 hns kp => ?_) xi_S.co xi_S.gen xi_S.kind
  have S := xi_S
  let F : NdefX.NF := ⟨"__init__", qual, xiArgs q0 q1, xiBody m p0 p1 p2 p3 p4 p5 p6 p7 p8 p9, xiScope, [("__class__", cc)], cda⟩
  have cells : NdefX.CellsAt F.cl ["__class__"] [none] s.heap H := by
    have one : ∀ y c, F.cl.lookup y = some c → y = ("__class__" : Str) ∧ c = cc := fun y c e => by
      have e' : ([("__class__", cc)] : List (Str × Addr)).lookup y = some c := e
      by_cases z : y = ("__class__" : Str)
      · subst z
        simp [List.lookup] at e'
        exact ⟨rfl, e'.symm⟩
      · have z2 : (y == ("__class__" : Str)) = false := by simpa using z
        simp [List.lookup, z2] at e'
    refine ⟨rfl, fun y c e => ?_, fun x y c e1 e2 => ?_, fun i y e => ?_⟩
    · rw [(one y c e).2]
      exact ⟨(e0.bs _ _ (e0.mod.kin _ _ hcell)).2, _, ⟨_, KX _ _ hcell, rfl⟩⟩
    · rw [(one x c e1).1, (one y c e2).1]
    · cases i with
      | zero =>
        obtain rfl : ("__class__" : Str) = y := by simpa using e
        exact ⟨cc, by simp [F, List.lookup], fun v h => by simp at h⟩
      | succ i => simp at e
  have I : Inv (NdefX.ncx CX P w K mg base ["self", "value", "__class__"] F f A outer s H E) [] (NdefX.startF ["self", "value", "__class__"] [.ref a, v] [none]) H { s with heap := h1, toks := s.toks + ((["self", "value"] : List Str).zip us).length } :=
    NdefX.inv_startN (F := F) S hr.hd e0 rfl r cells hns kp
  have K1 : K.In h1 := KX.keeps kp
  show PySem.wpAt (model P w) (A.deeper (PySem.W.ksEnv qual xiScope s.heap.objs.size f (.ref cda) cc)) (.func (xiBody m p0 p1 p2 p3 p4 p5 p6 p7 p8 p9) (PySem.W.ksEnv qual xiScope s.heap.objs.size f (.ref cda) cc)) (execs (xiBody m p0 p1 p2 p3 p4 p5 p6 p7 p8 p9) (PySem.W.ksEnv qual xiScope s.heap.objs.size f (.ref cda) cc)) _ _ _
  refine ks_wpAt_execs_cons (ks_wpAt_Expr_any (ks_wpAt_MethodCall ?_ (he _)))
  refine ks_wpAt_super_base (env := NdefX.envF F f s.heap.objs.size) rfl rfl (by decide) rfl (K1 _ _ lk) rfl rfl rfl (K1 _ _ hcode) rfl hvs XI.file XI.top ?_
  obtain ⟨nm, q, N, bs, bm, sn, sub, ab, col, dd, k0, k1, k2, k3, k5, hC, hbm⟩ := T.cls
  have hcl : PySem.W.clsIn K C = some { name := nm, bases := bs, mro := .ref C :: bm, ns := N, qualname := q, hasDict := true, slotNames := sn, subclasses := sub, abstract := ab, collection := col, hasDel := false } := by unfold PySem.W.clsIn; rw [hC] <;> rfl
  obtain ⟨mb, hb1, hb2⟩ := I.mod.blt
  obtain ⟨t1, hoe⟩ := exo_at I.hok ha
  have hself : (((["self", "value"] : List Str).zip us).reverse.lookup ("self" : Str)) = some (Value.ref a) := by
    cases r with
    | cons r1 r => cases r with
      | cons r2 r =>
        cases r
        obtain rfl := r1
        rfl
  refine PySem.W.ks_loadName_global rfl rfl (Calls.loadGlobal_builtin (I.mod.glob.keeps I.bk) hms (hb1.keeps I.bk) ((hb2 _ (by decide)).trans PyProof.Rows.Boot.«super») ⟨rfl, ?_⟩)
  refine wpAny_loadName_free rfl rfl rfl ⟨_, K1 _ _ hcell, rfl⟩ ?_
  refine wpAny_loadName_local rfl rfl hns hself ?_
  refine ks_wpAny_isType_cls (K1 _ _ hC) rfl ⟨rfl, ?_⟩
  refine ks_wpAny_call_super (K1 _ _ hC) rfl hoe rfl (fun c e => by cases e) (PySem.W.looks_mroIn K1 XI.self) (fun h2 e2 kp2 => ?_)
  have I2 := I.kept (t' := s.toks + ((["self", "value"] : List Str).zip us).length) kp2
  have K2 : K.In h2 := K1.keeps kp2
  obtain ⟨t2, hoe2⟩ := exo_at I2.hok ha
  have at2 : PySem.W.InstAt h2 a { cls := .ref C, dict := none, data := .fields #[.ref t2, .none, .none, .none, .bool false, .none] } C none := ⟨hoe2, rfl, rfl, trivial⟩
  have hsup : PySem.W.alongIn K "__init__" (((.ref C :: bm).dropWhile (· != Value.ref C)).drop 1) = some (some (.builtin "ValueError.__init__")) := by
    have z := XI.sup
    unfold PySem.W.ks_superIn at z
    rw [hcl] at z
    exact z
  refine PySem.W.kxs_getMethod PySem.W.kxs_ValueError e2 (PySem.W.looks_opaque K2 XI.opq) (l₀ := .ref C :: bm) ((PySem.W.looks_clsIn K2 hcl).andThen .now) rfl K2 hsup (at2.type.andThen (PySem.W.looks_subIn K2 XI.veb)) (PySem.W.ks_ne K2 at2 hcl) (by decide) ?_
  have I3 := I2.kept (h' := h2.push (PySem.W.kxs_mw "ValueError.__init__" a)) (t' := s.toks + ((["self", "value"] : List Str).zip us).length + 1) fun b o e => Heap.get?_push_of_some _ e
  refine PySem.W.kxs_callWith (i := "ValueError.__init__") (x := a) rfl (Calls.evalArgs_plain (Calls.spliced_cons (Calls.Constant_str (pos := p3) (k := 0) (Calls.spliced_nil ⟨Heap.get?_push_at rfl rfl, ?_⟩))))
  have I4 := I3.tok (s.toks + ((["self", "value"] : List Str).zip us).length + 1 + 1)
  obtain ⟨t4, hoe4⟩ := exo_at I4.hok ha
  refine call_vw (t0 := t4) (Heap.get?_push_of_some _ (K2 _ _ hC)) hoe4 (Heap.get?_push_at rfl rfl) (by simp [sizeLine_eq]) fun h5 t5 k5 e5 => ?_
  have J0 := I4.write (h' := h5) (t' := s.toks + ((["self", "value"] : List Str).zip us).length + 1 + 1) (x := a) (e := a) (o := exo a C none) (by rw [ha]; exact True.intro) (.inl rfl) k5 ⟨_, e5⟩ (exo_ok e5)
  have eu : upd H a (exo a C none) = H := by
    funext b
    by_cases hb : b = a
    · rw [hb, upd_same, ha]
    · rw [upd_ne hb]
  rw [eu] at J0
  show PySem.wpAt _ _ _ (execs [.Assign [.Attribute (.Name "self" p6) "value" p7] (.Name "value" p8) p9] _) _ _ _
  refine wpAt_of_wpAny ?_
  have pst : PSs (NdefX.ncx CX P w K mg base ["self", "value", "__class__"] F f A outer s H E) [.Assign [.Attribute (.Name "self" p6) "value" p7] (.Name "value" p8) p9] (tOst K "value" (tVar 0) (tVar 1)) := pss_one (ps_ost (pv 0) (pv 1) rfl)
  refine wpAny_mono (pst.run [] _ _ H { nx := fun _ H' => Q .non H', rt := Q } J0 ⟨v, rfl, .ref a, rfl, a, C, rfl, T, XI.val, .inl ⟨ha, fun dx n ne => hq dx n ne⟩⟩) (fun fl s' hs => ?_) fun e s' hs => hs
  cases fl with
  | ret u =>
    obtain ⟨v, σ', H', J, rv, q⟩ := hs
    exact ⟨v, H', J.os, J.bare, J.base, J.hok, rv, q⟩
  | next =>
    obtain ⟨σ', H', J, q⟩ := hs
    exact ⟨.non, H', J.os, J.bare, J.base, J.hok, rfl, q⟩
  | brk =>
    obtain ⟨_, _, _, q⟩ := hs
    exact False.elim q
  | cont =>
    obtain ⟨_, _, _, q⟩ := hs
    exact False.elim q
end Sq


set_option Elab.async false
set_option maxRecDepth 100000
set_option maxHeartbeats 4000000
namespace Sq
open PySem PySem.Spec PyProof.Rows L2
/-! ## an exception that has been caught and is kept -/
/-- at a: an exception of the class cls with the dict d, at rest -/
def Xo (a : Addr) (cls : Value) (d : Option Addr) : HO := .ext fun h => ∃ (oe : Obj) (vs : Array Value), h.get? a = some oe ∧ Zc cls d oe ∧ oe.data = .fields vs
theorem xo_ok {P : Program} {w : World} {H : Hp} {h : Heap} {a : Addr} {cls : Value} {d : Option Addr} {oe : Obj} {vs : Array Value} (e : h.get? a = some oe) (z : Zc cls d oe) (f : oe.data = .fields vs) : ObjOk P w H h a (Xo a cls d) :=
  ⟨⟨oe, vs, e, z, f⟩, ⟨_, e⟩, fun _ _ ⟨o2, v2, e2, z2, f2⟩ k => ⟨o2, v2, k _ e2, z2, f2⟩⟩
theorem xo_at {P : Program} {w : World} {H : Hp} {h : Heap} {a : Addr} {cls : Value} {d : Option Addr} (hok : HOk P w H h) (e : H a = some (Xo a cls d)) : ∃ (oe : Obj) (vs : Array Value), h.get? a = some oe ∧ Zc cls d oe ∧ oe.data = .fields vs := by
  have x : ObjOk P w H h a (.ext fun h => ∃ (oe : Obj) (vs : Array Value), h.get? a = some oe ∧ Zc cls d oe ∧ oe.data = .fields vs) := hok a _ e
  exact x.1
section
variable {X : Cx} {pins : List (Addr × Obj)} {σ : L2.St} {H : Hp} {s : Shared} {a : Addr} {cls : Value} {d : Option Addr} {oe : Obj} {vs : Array Value}
/-- an object that is younger than the entry and that nothing holds is kept from now on -/
theorem track (J : Inv X pins σ H s) (e : s.heap.get? a = some oe) (na : H a = none) (nL : a ≠ X.env.locals) (np : ∀ p ∈ X.pn ++ pins, p.1 ≠ a) (young : X.s_0.heap.get? a = none) (z : Zc cls d oe) (f : oe.data = .fields vs) : Inv X pins σ (upd H a (Xo a cls d)) s := by
  have old : ∀ {b : Addr} {o : Obj}, X.s_0.heap.get? b = some o → b ≠ a := fun {b o} q c => by
    rw [c, young] at q
    cases q
  have set : ∀ {b : Addr} {o : HO}, H b = some o → b ≠ a := fun {b o} q c => by
    rw [c, na] at q
    cases q
  refine ⟨J.ok, J.os, J.bare, ⟨J.base.keep, J.base.slot, fun b o q n x => ?_, J.base.there, fun b xs q => ?_, fun b o v q => ?_, fun b ps q => ?_⟩, J.loc, J.cell, ?_, fun y c q => ?_, fun p hp => ?_, fun b o q => ?_, J.len⟩
  · rw [upd_ne (old q)]
    exact J.base.free b o q n x
  · have z := J.base.tups b xs q
    rw [upd_ne (set z)]
    exact z
  · have z := J.base.frzs b o v q
    rw [upd_ne (set z)]
    exact z
  · obtain ⟨more, z⟩ := J.base.tbls b ps q
    exact ⟨more, by rw [upd_ne (set z)]; exact z⟩
  · rw [upd_ne (Ne.symm nL)]
    exact J.free
  · have nc : c ≠ a := fun h => by
      obtain ⟨w, o, e2, d2⟩ := J.cell y c q
      rw [h, e] at e2
      cases e2
      rw [f] at d2
      cases d2
    rw [upd_ne nc]
    exact J.freeC y c q
  · obtain ⟨e1, n1, r1⟩ := J.pin p hp
    exact ⟨e1, by rw [upd_ne (np p hp)]; exact n1, r1⟩
  · by_cases hb : b = a
    · subst hb
      rw [upd_same] at q
      cases q
      exact xo_ok e z f
    · rw [upd_ne hb] at q
      have own : ∀ c, H c = some (.own b) → c ≠ a := fun c hc h => by
        rw [h, na] at hc
        cases hc
      exact (J.hok b o q).stay (fun c v _ k => k) (fun c hc => by rw [upd_ne (own c hc)]; exact hc) fun c xs hc => by rw [upd_ne fun h => by rw [h, na] at hc; cases hc]; exact hc
end

/-- what is wished behind the suite of 'except x as n' -/
def keepD (D : Ends) (i : Nat) : Ends where
  nx := fun τ G => D.nx (τ.set i none) G
  rt := D.rt
  bk := fun τ G => D.bk (τ.set i none) G
  ct := fun τ G => D.ct (τ.set i none) G
def wKeep (K : PySem.W.Frag) (c : Value) (i : Nat) (ts : Addr → Value → Option Addr → TS) (Wout : WX) (D : Ends) : WX := fun cls d σ H => ∃ b, PySem.W.exmOne K cls c = some b ∧
  (b = true → ∀ a, H a = none → ts a cls d (keepD D i) (σ.set i (some (.ref a))) (upd H a (Xo a cls d))) ∧ (b = false → Wout cls d σ H)
/-- into the suite and out of it -/
theorem suite_in {X : Cx} {pins : List (Addr × Obj)} {σ : L2.St} {H : Hp} {s : Shared} {a : Addr} (I : Inv X pins σ H s) : Inv (X.suite a (X.pn ++ pins)) [] σ H s :=
  ⟨I.ok.suite _ _, I.os, I.bare, I.base, I.loc, I.cell, I.free, I.freeC, fun p hp => I.pin p (by rw [List.append_nil] at hp; exact hp), I.hok, I.len⟩
theorem suite_out {X : Cx} {pins : List (Addr × Obj)} {σ : L2.St} {H : Hp} {s : Shared} {a : Addr} (I : Inv (X.suite a (X.pn ++ pins)) [] σ H s) (ok : X.Ok) : Inv X pins σ H s :=
  ⟨ok, I.os, I.bare, I.base, I.loc, I.cell, I.free, I.freeC, fun p hp => I.pin p (by rw [List.append_nil]; exact hp), I.hok, I.len⟩
section
variable {X : Cx} {x n : Str} {c : Value} {i : Nat} {body rest : List Stmt} {st : Stmt} {np pos pos2 : Pos} {tb : WX → TS} {ts : Addr → Value → Option Addr → TS} {Wout : WX}
/-- as ps_try_as; the exception stays behind the suite -/
theorem ps_try_keep (hs : X.stack = X.env :: X.outer) (hf : X.env.frame = some X.env.locals) (hN : X.N.Nodup) (hi : X.N[i]? = some n) (hln : X.env.kindOf n = some .local) (hex : X.ex = []) (hc : Names X x c) (tk : Takes X Wout)
    (hb : ∀ (W : WX) (pn : List (Addr × Obj)) (xe : Value → Shared → Prop), Takes (X.tr pn xe) W → PassesOwn (model X.prog X.w) X.A X.env xe → PSs (X.tr pn xe) body (tb W))
    (hsu : ∀ (a : Addr) (cls : Value) (d : Option Addr) (pn : List (Addr × Obj)), PSs (X.suite a pn) (st :: rest) (ts a cls d)) :
    PS X (.Try body [.ExceptHandler (some (.Name x np)) (some n) (st :: rest) pos2] [] [] pos) (fun D σ H => tb (wKeep X.K c i ts Wout D) D σ H) := by
  refine ⟨fun pins s σ H D I h => wpAny_Try_except ?_⟩
  have ok := I.ok
  have hfr : X.A.frames = some (X.env :: X.outer) := by rw [ok.frames, hs]
  have hlc : Loc X.env.scope n := .inl hln
  have seen : ∀ {C : Heap} {h : Heap} {q : Addr} {o : Obj} {vs : Array Value}, h.FunFrames C (X.env :: X.outer) → h.get? q = some o → o.data = .fields vs → q ∉ frs (X.env :: X.outer) := fun {C h q o vs} ff e dd hm => by
    obtain ⟨_, o2, e2, nn⟩ := ff.mem hm
    rw [e] at e2
    cases e2
    exact nn _ dd
  refine wpAny_mono ((hb (wKeep X.K c i ts Wout D) (X.pn ++ pins) _ (fun u s2 air => ?_) PassesOwn.looking).run [] s σ H D (I.toTry _) h) (fun fl s2 q => ?_) fun _ _ z => z
  · obtain ⟨a, G, sI, pins2, τ, H2, cls, d, rfl, J2, nb, up, sky, na, os, ag, b, hb1, yes, no⟩ := air
    have J : Inv X pins τ H2 sI := J2.ofTry ok
    rw [hs] at sky
    refine Sky.land Zc.steady hfr hf sky fun h3 l3 up3 => ?_
    have J3 : Inv X pins τ H2 { s2 with heap := h3 } := J.landed nb l3.1 (up.trans up3) os ag
    obtain ⟨o3, v3, e3, z3, d3⟩ := l3.there
    have out := seen l3.2.2.1 e3 d3
    have nL : a ≠ X.env.locals := fun z => out (List.mem_filterMap.mpr ⟨X.env, List.mem_cons_self, by rw [hf, z]⟩)
    have nF : a ∉ X.fs := fun hm => by
      obtain ⟨e, he, q⟩ := List.mem_filterMap.mp hm
      exact out (List.mem_filterMap.mpr ⟨e, List.mem_cons_of_mem _ he, q⟩)
    have young : sI.heap.get? a = none := by
      cases q : sI.heap.get? a with
      | none => rfl
      | some o =>
        have z := nb a o q (by rw [hs]; exact out)
        rw [l3.2.1] at z
        cases z
    have young0 : X.s_0.heap.get? a = none := by
      cases q : X.s_0.heap.get? a with
      | none => rfl
      | some o =>
        obtain ⟨o2, z⟩ := J.base.there a o q (by rw [hex]; simp)
        rw [young] at z
        cases z
    have off : ∀ p ∈ X.pn ++ pins, p.1 ≠ a := fun p hp z => by
      have y := (J.pin p hp).1
      rw [z, young] at y
      cases y
    have S3 := J3.suite e3 d3 na nL nF
    have LT : PySem.W.Looks (model X.prog X.w) h3 (typeOf (.ref a)) cls := fun _ _ _ s k q => wpAny_typeOf_ref (k _ _ e3) (by rw [z3.1]; exact q)
    have LM := PySem.W.exm_one (M := model X.prog X.w) J3.kIn LT hb1
    have ask : ∀ {Q2 : Value → Shared → Prop} {E2 : Value → Shared → Prop}, Q2 c { s2 with heap := h3 } → wpAny (model X.prog X.w) (X.A.mark (some (.ref a))) (eval (.Name x np) X.env) Q2 E2 { s2 with heap := h3 } := fun {Q2 E2} q => by
      obtain ⟨hg, hdb, hm | ⟨hm, hv, hnn⟩⟩ := hc
      · exact ld_glob (X := X.suite a ((a, o3) :: (X.pn ++ pins))) S3 hg hm q hdb
      · exact ld_blt (X := X.suite a ((a, o3) :: (X.pn ++ pins))) S3 hg hm hv q hnn hdb
    refine wpAny_handleBy_cons (codeAny_handlers_test (ask (LM.here ?_))) (by intro q; cases q)
    cases b with
    | true =>
      refine codeAny_handlers_suite_as (HandSPX.lands_againZ l3 fun h4 l4 up4 => ?_)
      have J4 : Inv X pins τ H2 { s2 with heap := h4 } := J.landed nb l4.1 ((up.trans up3).trans up4) os ag
      obtain ⟨o4, v4, e4, z4, d4⟩ := l4.there
      have S4 : Inv (X.suite a (X.pn ++ pins)) [] τ (upd H2 a (Xo a cls d)) { s2 with heap := h4 } := suite_in (track J4 e4 na nL off young0 z4 d4)
      refine store_ok (X := X.suite a (X.pn ++ pins)) (v := .ref a) S4 hN hi hlc rfl (fun s5 S5 => ?_) (.inr hln)
      refine wpAny_mono ((hsu a cls d (X.pn ++ pins)).run [] s5 _ _ _ S5 (yes rfl a na)) (fun fl s6 hsp => ?_) fun _ _ z => z.elim
      have fin : ∀ {σ6 : L2.St} {H6 : Hp} {Q2 : Shared → Prop}, Inv (X.suite a (X.pn ++ pins)) [] σ6 H6 s6 → (∀ s7, Inv X pins (σ6.set i none) H6 s7 → Q2 s7) →
          wpAny (model X.prog X.w) X.A (do bindName X.env n .none; unbindBehindTheSuite X.env n pos2) (fun _ s7 => Q2 s7) X.xe s6 := fun {σ6 H6 Q2} S6 hq =>
        gone_ok (X := X.suite a (X.pn ++ pins)) S6 hN hi hln fun s7 S7 => hq s7 (suite_out S7 ok)
      cases fl with
      | next =>
        obtain ⟨σ6, H6, S6, q6⟩ := hsp
        exact fin S6 fun s7 J7 => ⟨_, _, J7, q6⟩
      | brk =>
        obtain ⟨σ6, H6, S6, q6⟩ := hsp
        exact fin S6 fun s7 J7 => ⟨_, _, J7, q6⟩
      | cont =>
        obtain ⟨σ6, H6, S6, q6⟩ := hsp
        exact fin S6 fun s7 J7 => ⟨_, _, J7, q6⟩
      | ret u =>
        obtain ⟨v6, σ6, H6, S6, r6, q6⟩ := hsp
        exact fin S6 fun s7 J7 => ⟨_, _, _, J7, r6, q6⟩
    | false =>
      refine wpAny_handleBy_nil ?_
      obtain ⟨_, _, _, oe, vs, T, _, _, he, _, hd, h1, _⟩ := id l3
      unfold PySem.passOn
      refine wpAny_bind (wpAny_field he hd h1 ?_)
      rw [if_neg (show ¬ ((Value.ref T == Value.none) = true) from by simp)]
      have go : wpAny (model X.prog X.w) X.A (setFlight (.ref a) X.env.frame) (fun _ s4 => wpAny (model X.prog X.w) X.A (throw (.ref a) : Sem Flow) (SP X pins D) X.xe s4) X.xe { s2 with heap := h3 } := by
        rw [hf]
        exact HandSPX.setFlight_upZ l3 fun h4 g4 up4 => wpAny_throw (tk _ _ ⟨a, G, sI, pins, τ, H2, cls, d, rfl, J, nb, (up.trans up3).trans up4, .inr (.inr (by rw [hs]; exact g4)), na, os, ag, no rfl⟩)
      first
        | exact wpAny_bind (wpAny_pure (wpAny_bind go))
        | exact wpAny_bind go
  · cases fl with
    | next =>
      obtain ⟨τ, H2, J, q⟩ := q
      exact wpAny_execs_nil ⟨τ, H2, J.ofTry ok, q⟩
    | brk =>
      obtain ⟨τ, H2, J, q⟩ := q
      exact ⟨τ, H2, J.ofTry ok, q⟩
    | cont =>
      obtain ⟨τ, H2, J, q⟩ := q
      exact ⟨τ, H2, J.ofTry ok, q⟩
    | ret u =>
      obtain ⟨v, τ, H2, J, r, q⟩ := q
      exact ⟨v, τ, H2, J.ofTry ok, r, q⟩
end

/-! ## a kept exception looked at -/
/-- at a: a kept exception of the own class C with the attributes fs -/
def Kept (H : Hp) (a C : Addr) (fs : List (Str × V)) : Prop := ∃ d, (H a = some (Xo a (.ref C) (some d)) ∧ H d = some (.xd fs)) ∨ (H a = some (exo a C (some d)) ∧ H d = some (exd d fs))
theorem kept_at {X : Cx} {pins : List (Addr × Obj)} {σ : L2.St} {H : Hp} {s : Shared} {a C : Addr} {fs : List (Str × V)} (I : Inv X pins σ H s) (k : Kept H a C fs) :
    ∃ (oe od : Obj) (d : Addr) (mA : Str → Option Value), PySem.W.InstAt s.heap a oe C (some od) ∧ s.heap.get? d = some od ∧ s.heap.Ns1 d mA ∧ ∀ f, RelO (fs.lookup f) (mA f) := by
  obtain ⟨d, ⟨h1, h2⟩ | ⟨h1, h2⟩⟩ := k
  · obtain ⟨oe, vs, e, z, f⟩ := xo_at I.hok h1
    have hx : ObjOk X.prog X.w H s.heap d (.xd fs) := I.hok d _ h2
    obtain ⟨mA, hns, hr⟩ := hx
    obtain ⟨od, ho, _⟩ := lookIn_ns hns
    exact ⟨oe, od, d, mA, ⟨e, z.1, by unfold PySem.W.notCls; rw [f] <;> rfl, by rw [z.2]; exact ho⟩, ho, hns, hr⟩
  · obtain ⟨t1, e⟩ := exo_at I.hok h1
    obtain ⟨mA, hns, hr⟩ := exd_at I.hok h2
    obtain ⟨od, ho, _⟩ := lookIn_ns hns
    exact ⟨_, od, d, mA, ⟨e, rfl, rfl, ho⟩, ho, hns, hr⟩
def rIsX (K : PySem.W.Frag) : List V → Hp → VK → Prop := fun xs H Q => ∃ (a C : Addr) (fs : List (Str × V)) (c : V) (cv : Value) (b : Bool), xs = [.ref a, c] ∧ Kept H a C fs ∧ ExcC K C ∧ ClsV c cv ∧ PySem.W.kitOne K (.ref C) cv = some b ∧ Q (.bl b) H
theorem call_isX {X : Cx} {K : PySem.W.Frag} (h : X.K = K := by rfl) : CallR X (.builtin "isinstance") (rIsX K) := by
  subst h
  intro pins s σ H xs us Q I r h
  obtain ⟨a, C, fs, c, cv, b, rfl, k, EC, hc, e, q⟩ := h
  obtain ⟨oe, od, d, mA, J, _⟩ := kept_at I k
  cases r with
  | @cons _ u0 _ ur rx rr =>
    cases rr with
    | @cons _ u1 _ _ rt rr =>
      cases rr
      cases rx
      have ec : u1 = cv := by
        cases hc <;> exact rt
      subst ec
      obtain ⟨cd, hcd, _⟩ := PySem.W.any_some EC.hd
      exact PySem.W.kia_one (PySem.W.kitx_exc (by rw [hcd]; rfl) EC.hg EC.hk EC.hs EC.ha EC.hn EC.ht EC.hm) I.kIn J e (fun z => nomatch z) fun tk => ⟨.bl b, H, I.kept (t' := tk) fun _ _ z => z, rfl, q⟩
def tXv (K : PySem.W.Frag) (te : TE) (f : Str) : TE := fun σ H Q => te σ H fun x H1 => ∃ (a C : Addr) (fs : List (Str × V)) (v : V), x = .ref a ∧ Kept H1 a C fs ∧ XfC K C ∧ PySem.W.findIn K (.ref C) f = some none ∧ fs.lookup f = some v ∧ Q v H1
theorem pe_xv {X : Cx} {K : PySem.W.Frag} {e : Expr} {te : TE} {f : Str} {pos : Pos} (he : PE X e te) (hb : attributeBase e f X.env (eval e X.env) = eval e X.env := by rfl) (h : X.K = K := by rfl) : PE X (.Attribute e f pos) (tXv K te f) := by
  subst h
  refine ⟨fun pins s σ H Q I h => attr_of hb (thn (he.run pins s σ H _ I h) fun u s1 hh => ?_)⟩
  obtain ⟨x, H1, I1, rx, a, C, fs, v, rfl, k, T, hno, l, q⟩ := hh
  obtain rfl : u = Value.ref a := rx
  obtain ⟨oe, od, d, mA, J, ho, hns, hr⟩ := kept_at I1 k
  obtain ⟨od2, ho2, hl⟩ := lookIn_ns hns
  rw [ho] at ho2
  cases ho2
  obtain ⟨u, hu, ru⟩ := RelO.some_of (v := v) (o := mA f) (by rw [← l]; exact hr f)
  exact HandSPX.exc_get I1.kIn J T.ga T.gg T.exC (PySem.W.findObj_own T.hdC hno rfl (by rw [hl, hu])) (handed_of ru) ⟨v, H1, I1.tok _, ru, q⟩
end Sq


set_option Elab.async false
set_option maxRecDepth 100000
set_option maxHeartbeats 4000000
namespace Sq
open PySem PySem.Spec PyProof.Rows L2
/-! ## raise C(e), C an own class with the __init__ of MExc -/
structure Rai (P : Program) (w : World) (K : PySem.W.Frag) (mg : Str → Option Value) (base : Heap) (k : Nat) (x : Str) (C : Addr) : Prop where
  ex : ∃ (f : Addr) (fd : FuncData), OexC K C ∧ PySem.W.findIn K (.ref C) "__init__" = some (some (.ref f)) ∧ PySem.W.typeIn K (.ref f) = some (.type "function") ∧ FnOk P w K mg base CX0 k f fd ["self", "value"] (spXI C) ∧ mg x = some (.ref C) ∧ L2.Binds K fd ["self", "value"] []
def tRx (W : WX) (C : Addr) (te : TE) : TS := fun _ σ H => te σ H fun v H1 => ∀ d, H1 d = none → W (.ref C) (some d) σ (upd H1 d (.xd [("value", v)]))
theorem heap_rx {H : Hp} {a d : Addr} {u z o : HO} (na : H a = none) (n : d ≠ a) : upd (del (upd (upd (upd H a u) d z) a o) a) d (.xd [("value", v)]) = upd H d (.xd [("value", v)]) := by
  funext b
  by_cases h1 : b = d
  · rw [h1, upd_same, upd_same]
  · rw [upd_ne h1, upd_ne h1]
    by_cases h2 : b = a
    · rw [h2, del_same, na]
    · rw [del_ne h2, upd_ne h2, upd_ne h1, upd_ne h2]
/-- a reading that may be weakened -/
def tWk (te : TE) : TE := fun σ H Q => ∃ R : VK, te σ H R ∧ ∀ v G, R v G → Q v G
theorem pe_wk {X : Cx} {e : Expr} {te : TE} (h : PE X e te) : PE X e (tWk te) := ⟨fun pins s σ H Q I ⟨R, q, k⟩ => wpAny_mono (h.run pins s σ H R I q) (fun u s1 ⟨x, G, J, r, z⟩ => ⟨x, G, J, r, k _ _ z⟩) fun _ _ z => z⟩
section
variable {X : Cx} {W : WX} {k j : Nat} {C : Addr} {x : Str} {p pos pos2 : Pos} {e : Expr} {te : TE}
theorem ps_rx (c : Rai X.prog X.w X.K X.mg X.base k x C) (hr : Room j X.A) (hk : k + 1 ≤ j) (hg : Gl X x) (tk : Takes X W) (ha : PE X e te) (hc : X.calm = true := by rfl)
    (hdb : (x == ("__debug__" : Str)) = false := by decide) (he : starEach [e] X.env = (false, eval e X.env) :: starEach [] X.env := by rfl) (hpl : (backTo pos (starEach [] X.env)).any (·.1) = false := by rfl) : PS X (.Raise (some (.Call (.Name x p) [e] [] pos)) none pos2) (tRx W C te) := by
  obtain ⟨f, fd, T, iC, tI, F, hm, b⟩ := c.ex
  have mk := pmk_oex (pos := pos) (p := p) T iC tI F (hr.mono hk) b .nil pass0 hg hm (pa_cons (pe_wk ha) pa_nil he) hdb he hpl
  have r := ps_raise (pos := pos2) hc tk mk
  refine ⟨fun pins s σ H D I h => r.run pins s σ H D I ⟨_, h, fun v G q => ⟨Nat.le_of_ble_eq_true rfl, fun a na => ⟨a, v, rfl, upd_same, fun dx nd ne => ?_⟩⟩⟩⟩
  have nd' : G dx = none := by
    rw [upd_ne ne] at nd
    exact nd
  refine ⟨rfl, dx, _, upd_same, by rw [upd_ne ne, upd_same], nd', ?_⟩
  rw [heap_rx na ne]
  exact q dx nd'
end

/-! ## defs that may raise -/
structure CalX (P : Program) (w : World) (K : PySem.W.Frag) (mg : Str → Option Value) (base : Heap) (k : Nat) (x : Str) (sp : Sp) : Prop where
  ex : ∃ (f : Addr) (fd : FuncData) (ps : List Str), FnOk P w K mg base (L2.CX P w) k f fd ps sp ∧ mg x = some (.ref f) ∧ PySem.W.keepIn K (.ref f) = true ∧ L2.Binds K fd ps []
section
variable {P : Program} {w : World} {K : PySem.W.Frag} {mg : Str → Option Value} {base : Heap}
theorem DefAt.calX {x : Str} {st : Stmt} {ps N : List Str} {k : Nat} {sp : Sp} (D : DefAt K mg x st ps) (S : FnScope N ps (defScope st)) (len : ∀ vs H Q E, sp vs H Q E → vs.length = ps.length)
    (hb : ∀ (f : Addr) (cdv : Value) (A : Around) (outer : List Env) (s : Shared) (H : Hp) (vs : List V) (Q : VK) (E : XK), Room k (A.deeper (envOfC x (defScope st) s.heap.objs.size f cdv)) → sp vs H Q E →
      (Takes (cxOf (L2.CX P w) P w K mg base N x (defScope st) f cdv A outer s H E) fun cls d _ G => E cls d G) →
      ∃ t, PSs (cxOf (L2.CX P w) P w K mg base N x (defScope st) f cdv A outer s H E) (defBody st) t ∧ t { nx := fun _ H' => Q .non H', rt := Q } (start N vs) H) : CalX P w K mg base (k + 1) x sp := by
  obtain ⟨f, fd, F, hm, b⟩ := D.ex
  exact ⟨f, fd, ps, F.okX S len fun cdv A outer s H vs Q E hr hsp => hb f cdv A outer s H vs Q E hr hsp (takes_of rfl rfl rfl rfl), hm, F.kp, b⟩
/-- where it raises nothing it is a plain def -/
theorem fn_calm {k : Nat} {f : Addr} {fd : FuncData} {ps : List Str} {sp sp' : Sp} (F : FnOk P w K mg base (L2.CX P w) k f fd ps sp) (h : ∀ vs H Q E, sp' vs H Q E → sp vs H Q E0) : FnOk P w K mg base CX0 k f fd ps sp' := by
  refine ⟨fun vs H Q E q => F.len _ _ _ _ (h _ _ _ _ q), fun A outer s H args us vs Q E hr e0 b r q => codeAny_mono (F.run A outer s H args us vs Q E0 hr e0 b r (h _ _ _ _ q)) fun res s' z => ?_⟩
  cases res with
  | ok fl => cases fl <;> exact z
  | error e =>
    obtain ⟨_, _, _, _, _, _, _, _, _, _, _, _, no⟩ := z
    exact no.elim
theorem CalX.calm {x : Str} {k : Nat} {sp sp' : Sp} (c : CalX P w K mg base k x sp) (h : ∀ vs H Q E, sp' vs H Q E → sp vs H Q E0) : Cal P w K mg base k x sp' [] := by
  obtain ⟨f, fd, ps, F, hm, kp, b⟩ := c.ex
  exact ⟨f, fd, ps, [], fn_calm F h, hm, kp, b, .nil⟩
theorem CalX.imp {x : Str} {k j : Nat} {sp sp' : Sp} (c : CalX P w K mg base k x sp) (hk : k ≤ j) (h : ∀ vs H Q E, sp' vs H Q E → sp vs H Q E) : CalX P w K mg base j x sp' := by
  obtain ⟨f, fd, ps, F, hm, kp, b⟩ := c.ex
  exact ⟨f, fd, ps, (F.mono hk).imp h, hm, kp, b⟩
end
section
variable {X : Cx} {W : WX} {k j : Nat} {x : Str} {sp : Sp} {p pos : Pos} {e : Expr} {es : List Expr} {t : TA}
/-- a call that may raise, where W is wished of what is raised -/
theorem pe_cx (c : CalX X.prog X.w X.K X.mg X.base k x sp) (hr : Room j X.A) (hk : k ≤ j) (tk : Takes X W) (hg : Gl X x) (ha : PA X (e :: es) t)
    (hdb : (x == ("__debug__" : Str)) = false := by decide) (he : starEach (e :: es) X.env = (false, eval e X.env) :: starEach es X.env := by rfl) (hpl : (backTo pos (starEach es X.env)).any (·.1) = false := by rfl) :
    PE X (.Call (.Name x p) (e :: es) [] pos) (tCallS sp (WE W) t) := by
  obtain ⟨f, fd, ps, F, hm, kp, b⟩ := c.ex
  exact pe_callS F (hr.mono hk) hg hm kp b (passAt tk) ha hdb he hpl
/-- a call of such a def that raises nothing -/
theorem pe_cx0 (c : CalX X.prog X.w X.K X.mg X.base k x sp) (hr : Room j X.A) (hk : k ≤ j) (hg : Gl X x) (ha : PA X (e :: es) t)
    (hdb : (x == ("__debug__" : Str)) = false := by decide) (he : starEach (e :: es) X.env = (false, eval e X.env) :: starEach es X.env := by rfl) (hpl : (backTo pos (starEach es X.env)).any (·.1) = false := by rfl) :
    PE X (.Call (.Name x p) (e :: es) [] pos) (tCall sp [] E0 t) := by
  obtain ⟨f, fd, ps, F, hm, kp, b⟩ := c.ex
  exact L2.pe_call F (hr.mono hk) hg hm kp b .nil passL ha hdb he hpl
end

/-! ## methods and new objects that may raise -/
structure MetX (P : Program) (w : World) (K : PySem.W.Frag) (mg : Str → Option Value) (base : Heap) (k : Nat) (C : Addr) (m : Str) (sp : Sp) : Prop where
  ex : ∃ (f : Addr) (fd : FuncData) (ps : List Str), Cls K C ∧ Meth K C m f ∧ FnOk P w K mg base (L2.CX P w) k f fd ps sp ∧ L2.Binds K fd ps []
structure MakX (P : Program) (w : World) (K : PySem.W.Frag) (mg : Str → Option Value) (base : Heap) (k : Nat) (x : Str) (C : Addr) (sp : Sp) : Prop where
  ex : ∃ (f : Addr) (fd : FuncData) (ps : List Str), Mk K C f ∧ FnOk P w K mg base (L2.CX P w) k f fd ps sp ∧ mg x = some (.ref C) ∧ L2.Binds K fd ps []
section
variable {P : Program} {w : World} {K : PySem.W.Frag} {mg : Str → Option Value} {base : Heap} {C : Addr} {m x qual : Str} {st : Stmt} {ps N : List Str} {k : Nat} {sp : Sp}
theorem MetAt.metX (D : MetAt K C m qual st ps) (cl : Cls K C) (S : FnScope N ps (defScope st)) (len : ∀ vs H Q E, sp vs H Q E → vs.length = ps.length)
    (hb : ∀ (f : Addr) (cdv : Value) (A : Around) (outer : List Env) (s : Shared) (H : Hp) (vs : List V) (Q : VK) (E : XK), Room k (A.deeper (envOfC qual (defScope st) s.heap.objs.size f cdv)) → sp vs H Q E →
      (Takes (cxOf (L2.CX P w) P w K mg base N qual (defScope st) f cdv A outer s H E) fun cls d _ G => E cls d G) →
      ∃ t, PSs (cxOf (L2.CX P w) P w K mg base N qual (defScope st) f cdv A outer s H E) (defBody st) t ∧ t { nx := fun _ H' => Q .non H', rt := Q } (start N vs) H) : MetX P w K mg base (k + 1) C m sp := by
  obtain ⟨f, fd, F, hm, b⟩ := D.ex
  exact ⟨f, fd, ps, cl, hm, F.okX S len fun cdv A outer s H vs Q E hr hsp => hb f cdv A outer s H vs Q E hr hsp (takes_of rfl rfl rfl rfl), b⟩
theorem IniAt.makX (D : IniAt K mg C x qual st ps) (S : FnScope N ps (defScope st)) (len : ∀ vs H Q E, sp vs H Q E → vs.length = ps.length)
    (hb : ∀ (f : Addr) (cdv : Value) (A : Around) (outer : List Env) (s : Shared) (H : Hp) (vs : List V) (Q : VK) (E : XK), Room k (A.deeper (envOfC qual (defScope st) s.heap.objs.size f cdv)) → sp vs H Q E →
      (Takes (cxOf (L2.CX P w) P w K mg base N qual (defScope st) f cdv A outer s H E) fun cls d _ G => E cls d G) →
      ∃ t, PSs (cxOf (L2.CX P w) P w K mg base N qual (defScope st) f cdv A outer s H E) (defBody st) t ∧ t { nx := fun _ H' => Q .non H', rt := Q } (start N vs) H) : MakX P w K mg base (k + 1) x C sp := by
  obtain ⟨f, fd, F, hm, hg, b⟩ := D.ex
  exact ⟨f, fd, ps, hm, F.okX S len fun cdv A outer s H vs Q E hr hsp => hb f cdv A outer s H vs Q E hr hsp (takes_of rfl rfl rfl rfl), hg, b⟩
end
theorem MetX.calm {P : Program} {w : World} {K : PySem.W.Frag} {mg : Str → Option Value} {base : Heap} {C : Addr} {m : Str} {k : Nat} {sp sp' : Sp} (c : MetX P w K mg base k C m sp) (h : ∀ vs H Q E, sp' vs H Q E → sp vs H Q E0) : Met P w K mg base k C m sp' := by
  obtain ⟨f, fd, ps, c1, c2, F, b⟩ := c.ex
  exact ⟨f, fd, ps, c1, c2, fn_calm F h, b⟩
theorem MakX.calm {P : Program} {w : World} {K : PySem.W.Frag} {mg : Str → Option Value} {base : Heap} {C : Addr} {x : Str} {k : Nat} {sp sp' : Sp} (c : MakX P w K mg base k x C sp) (h : ∀ vs H Q E, sp' vs H Q E → sp vs H Q E0) : Mak P w K mg base k x C sp' := by
  obtain ⟨f, fd, ps, M, F, hm, b⟩ := c.ex
  exact ⟨f, fd, ps, M, fn_calm F h, hm, b⟩
def tMethS (C : Addr) (m : Str) (sp : Sp) (E : L2.St → XK) (ta : TE) (t : TA) : TE := fun σ H Q => ta σ H fun x H1 => ∃ a dx fs, x = .ref a ∧ H1 a = some (.ins C dx fs) ∧ fs.lookup m = none ∧ t σ H1 fun vs H2 => sp (x :: vs) H2 Q (E σ)
def tMakeS (C : Addr) (sp : Sp) (E : L2.St → XK) (t : TA) : TE := fun σ H Q => t σ H fun vs H1 => ∀ x dx, H1 x = none → H1 dx = none → dx ≠ x →
  sp (.ref x :: vs) (upd (upd H1 dx (.own x)) x (.ins C dx [])) (fun v H2 => v = .non ∧ Q (.ref x) H2) (E σ)
section
variable {X : Cx} {W : WX} {k j : Nat} {C : Addr} {x m : Str} {sp : Sp} {p pos apos : Pos} {e o : Expr} {es : List Expr} {ta : TE} {t : TA}
theorem pe_mx {pl : Sem Bool} (c : MetX X.prog X.w X.K X.mg X.base k C m sp) (hr : Room j X.A) (hk : k ≤ j) (tk : Takes X W) (he : PE X o ta) (ha : PA X (e :: es) t)
    (ht : eval (.Call (.Attribute o m apos) (e :: es) [] pos) X.env = (do
      let ov ← eval o X.env
      standAt apos.atName
      let (f, first) ← holding [ov] (getMethod ov m pl)
      callWith pos f first (backTo pos (starEach (e :: es) X.env)) (backToKw pos (keywordEach [] X.env))) := by rfl)
    (hst : starEach (e :: es) X.env = (false, eval e X.env) :: starEach es X.env := by rfl) (hpl : (backTo pos (starEach es X.env)).any (·.1) = false := by rfl) : PE X (.Call (.Attribute o m apos) (e :: es) [] pos) (tMethS C m sp (WE W) ta t) := by
  obtain ⟨f, fd, ps, cl, hm, F, b⟩ := c.ex
  refine ⟨fun pins s σ H Q I h => PySem.W.methodCall_KW (pl := pl) (thn (he.run pins s σ H _ I h) fun u s1 hh => ?_) ht⟩
  obtain ⟨x, H1, I1, rx, a, dx, fs, rfl, ea, l, q⟩ := hh
  obtain rfl : u = Value.ref a := rx
  refine getmeth_ok I1 ea cl hm l (PySem.W.callWith_K (first := [.ref a]) (h₀ := X.base) I.ok.mod.kin hm.kp (thn (ha.run pos pins s1 σ H1 _ I1 q) fun us s2 hh => ?_) hst hpl)
  obtain ⟨vs, H2, I2, r, q2⟩ := hh
  exact ⟨I2.kIn, run_fnS (us := .ref a :: us) (vs := .ref a :: vs) F (hr.mono hk) b (passAt tk σ) I2 (.cons rfl r) q2⟩
theorem pe_mkx (c : MakX X.prog X.w X.K X.mg X.base k x C sp) (hr : Room j X.A) (hk : k + 1 ≤ j) (tk : Takes X W) (hg : Gl X x) (ha : PA X (e :: es) t)
    (hdb : (x == ("__debug__" : Str)) = false := by decide) (he : starEach (e :: es) X.env = (false, eval e X.env) :: starEach es X.env := by rfl) (hpl : (backTo pos (starEach es X.env)).any (·.1) = false := by rfl) :
    PE X (.Call (.Name x p) (e :: es) [] pos) (tMakeS C sp (WE W) t) := by
  obtain ⟨f, fd, ps, M, F, hm, b⟩ := c.ex
  refine ⟨fun pins s σ H Q I h => wpAny_Call_Name_kw (ld_glob I hg hm ?_ hdb)⟩
  refine PySem.W.callWith_K (h₀ := X.base) I.ok.mod.kin M.kp (thn (ha.run pos pins s σ H _ I h) fun us s1 hh => ?_) he hpl
  obtain ⟨vs, H1, I1, r, q⟩ := hh
  refine ⟨I1.kIn, ?_⟩
  have hq := q (s1.heap.objs.size + 1) s1.heap.objs.size (I1.hok.fresh (Nat.le_succ _)) (I1.hok.fresh (Nat.le_refl _)) (Nat.ne_of_lt (Nat.lt_succ_self _))
  have I2 := Inv.made (C := C) I1
  have r2 : Vals (V.ref (s1.heap.objs.size + 1) :: vs) (Value.ref (s1.heap.objs.size + 1) :: us) := .cons rfl r
  have ln : (Value.ref (s1.heap.objs.size + 1) :: us).length = ps.length := by
    rw [← r2.length]
    exact F.len _ _ _ _ hq
  have bb := b _ (Value.ref (s1.heap.objs.size + 1) :: us) I2.kIn (by rw [List.append_nil]; exact ln)
  rw [List.append_nil] at bb
  show wpAny _ _ (call (.ref C) us) _ _ _
  refine wpAny_call (make_map (f := f) I1.kIn M.makes M.init (beq_iff_eq.mp M.fn) (codeAny_mono (F.run _ X.stack _ _ ⟨Value.ref (s1.heap.objs.size + 1) :: us, []⟩ _ _ _ (WE W σ) ((hr.mono hk).make C us []) (I2.env0.make C us []) bb r2 hq) fun r s' hq2 => ?_))
  cases r with
  | error er => exact passAt tk σ pins _ _ er s' I2 hq2
  | ok fl =>
    cases fl with
    | ret u =>
      obtain ⟨v, H', I3, rv, ev, q3⟩ := I2.after hq2
      subst ev
      exact ⟨rv, ⟨V.ref (s1.heap.objs.size + 1), H', I3, rfl, q3⟩⟩
    | next => exact False.elim hq2
    | brk => exact False.elim hq2
    | cont => exact False.elim hq2
theorem pe_mx0 {pl : Sem Bool} (c : MetX X.prog X.w X.K X.mg X.base k C m sp) (hr : Room j X.A) (hk : k ≤ j) (he : PE X o ta) (ha : PA X (e :: es) t)
    (ht : eval (.Call (.Attribute o m apos) (e :: es) [] pos) X.env = (do
      let ov ← eval o X.env
      standAt apos.atName
      let (f, first) ← holding [ov] (getMethod ov m pl)
      callWith pos f first (backTo pos (starEach (e :: es) X.env)) (backToKw pos (keywordEach [] X.env))) := by rfl)
    (hst : starEach (e :: es) X.env = (false, eval e X.env) :: starEach es X.env := by rfl) (hpl : (backTo pos (starEach es X.env)).any (·.1) = false := by rfl) : PE X (.Call (.Attribute o m apos) (e :: es) [] pos) (tMeth C m sp [] E0 ta t) := by
  obtain ⟨f, fd, ps, c1, c2, F, b⟩ := c.ex
  exact L2.pe_meth (pl := pl) he c1 c2 F (hr.mono hk) b .nil passL ha hst hpl ht
theorem pe_mkx0 (c : MakX X.prog X.w X.K X.mg X.base k x C sp) (hr : Room j X.A) (hk : k + 1 ≤ j) (hg : Gl X x) (ha : PA X (e :: es) t)
    (hdb : (x == ("__debug__" : Str)) = false := by decide) (he : starEach (e :: es) X.env = (false, eval e X.env) :: starEach es X.env := by rfl) (hpl : (backTo pos (starEach es X.env)).any (·.1) = false := by rfl) :
    PE X (.Call (.Name x p) (e :: es) [] pos) (tMake C sp [] E0 t) := by
  obtain ⟨f, fd, ps, M, F, hm, b⟩ := c.ex
  exact L2.pe_make M F (hr.mono hk) hg hm b .nil passL ha hdb he hpl
end

/-! ## an exception class of the text, out of what the top has written -/
theorem rai_mk {P : Program} {w : World} {K : PySem.W.Frag} {h base : Heap} {mg : Str → Option Value} {x : Str} {C f cc cda N : Addr} {nm q qual m file : Str} {bs bm sub : List Value} {sn : List Str} {ab : Bool} {col : Option Bool} {dd cld cdd od an : Option Addr} {k0 k1 k2 k3 k5 : Option Value}
    {cl ccl oc kV doc pm ct : Value} {csl ccs osl : Array (Option Value)} {cvs : Array Value} {tf : Tok} {p0 p1 p2 p3 p4 p5 p6 p7 p8 p9 q0 q1 : Pos} (X : K.In h) (G : h.Ns mainGlobals mg) (hm : mg x = some (.ref C))
    (lC : K.lookup C = some (excClassObj nm q C N bs bm true sn sub ab col dd k0 k1 k2 k3 k5 "ValueError.__new__")) (rC : PySem.HandSPX.refsVE bm = true) (sa : PySem.W.findIn K (.ref C) "__setattr__" = some (some (.builtin "object.__setattr__")))
    (ex : PySem.W.subIn K (.ref C) (.type "BaseException") = some true) (ty : PySem.W.typeIn K (.ref C) = some (.type "type")) (kc : PySem.W.keepIn K (.ref C) = true)
    (ini : PySem.W.findIn K (.ref C) "__init__" = some (some (.ref f))) (tyf : PySem.W.typeIn K (.ref f) = some (.type "function"))
    (l : K.lookup f = some ⟨oc, od, .func (PySem.W.ksFn "__init__" qual (xiArgs q0 q1) (xiBody m p0 p1 p2 p3 p4 p5 p6 p7 p8 p9) xiScope .none kV doc pm an (.ref cda) ct cc), osl⟩)
    (co : PySem.W.codeIn K (.ref cda) qual = true) (cell : K.lookup cc = some ⟨cl, cld, .cell (some (.ref C)), csl⟩) (rec_ : K.lookup cda = some ⟨ccl, cdd, .fields cvs, ccs⟩) (v2 : cvs[2]? = some (.str file tf)) (fl : ((P.main.file : Str) == file) = true)
    (top : (P.main.scope.names.lookup ("super" : Str)).isSome = false) (opq : PySem.W.nsIn K PySem.cStatics "thirdparty.any" = some none) (sup : PySem.W.ks_superIn K C C "__init__" = some (some (.builtin "ValueError.__init__"))) (veb : PySem.W.subIn K (.ref C) (.type "ValueError") = some true)
    (slf : PySem.W.mroIn K C (.ref C) = some true) (val : PySem.W.findIn K (.ref C) "value" = some none) (ms : PySem.W.nsIn K mainGlobals "super" = some none) (he : XiCall qual f cc cda m p0 p1 p2 p3 p4)
    (hb : ∀ us : List Value, us.length = 2 → bindArgs (PySem.W.ksFn "__init__" qual (xiArgs q0 q1) (xiBody m p0 p1 p2 p3 p4 p5 p6 p7 p8 p9) xiScope .none kV doc pm an (.ref cda) ct cc) ⟨us, []⟩ = pure ((["self", "value"] : List Str).zip us)) : Rai P w K mg base 1 x C :=
  ⟨f, _, ⟨⟨nm, q, N, bs, bm, sn, sub, ab, col, dd, k0, k1, k2, k3, k5, lC, rC⟩, sa, ex, ty, kc⟩, ini, tyf,
    ok_xi ⟨⟨nm, q, N, bs, bm, sn, sub, ab, col, dd, k0, k1, k2, k3, k5, lC, rC⟩, sa, ex, ty, kc⟩ ⟨co, ⟨cl, cld, csl, cell⟩, ⟨ccl, cdd, cvs, ccs, tf, rec_, v2⟩, fl, top, opq, sup, veb, slf, val⟩ l (PySem.W.mg_none_of X G ms) he, hm, L2.Binds.all hb⟩
end Sq


set_option Elab.async false
set_option maxRecDepth 100000
set_option maxHeartbeats 4000000
namespace Sq
open PySem PySem.Spec PyProof.Rows L2
/-! ## methods called by keywords alone -/
structure MetKX (P : Program) (w : World) (K : PySem.W.Frag) (mg : Str → Option Value) (base : Heap) (k : Nat) (C : Addr) (m : Str) (ks : List Str) (sp : Sp) : Prop where
  ex : ∃ (f : Addr) (fd : FuncData) (ps : List Str) (spf : Sp) (g : List Value → List Value → List Value) (gV : List V → List V → List V),
    Cls K C ∧ Meth K C m f ∧ FnOk P w K mg base (L2.CX P w) k f fd ps spf ∧ KBn K fd ps 1 ks g gV ∧ ∀ x zs H Q E, sp (x :: zs) H Q E → zs.length = ks.length ∧ spf (gV [x] zs) H Q E
def tMetK (C : Addr) (m : Str) (sp : Sp) (E : L2.St → XK) (ta : TE) (tk : TA) : TE := fun σ H Q => ta σ H fun x H1 => ∃ a dx fs, x = .ref a ∧ H1 a = some (.ins C dx fs) ∧ fs.lookup m = none ∧ tk σ H1 fun zs H2 => sp (x :: zs) H2 Q (E σ)
section
variable {X : Cx} {W : WX} {k j : Nat} {C : Addr} {m : Str} {ks : List Str} {sp : Sp} {pos apos : Pos} {o : Expr} {kws : List Keyword} {ta : TE} {t : TA}
theorem pe_mkwx {pl : Sem Bool} (c : MetKX X.prog X.w X.K X.mg X.base k C m ks sp) (hr : Room j X.A) (hk : k ≤ j) (tk : Takes X W) (he : PE X o ta) (ha : PK X kws t)
    (ht : eval (.Call (.Attribute o m apos) [] kws pos) X.env = (do
      let ov ← eval o X.env
      standAt apos.atName
      let (f, first) ← holding [ov] (getMethod ov m pl)
      callWith pos f first (backTo pos (starEach [] X.env)) (backToKw pos (keywordEach kws X.env))) := by rfl)
    (hall : (backToKw pos (keywordEach kws X.env)).all (·.1.isSome) = true := by rfl) (hks : (backToKw pos (keywordEach kws X.env)).filterMap (·.1) = ks := by rfl)
    (hpl : ((backTo pos (starEach [] X.env)).any (·.1) || (backToKw pos (keywordEach kws X.env)).any (·.1.isNone)) = false := by rfl) : PE X (.Call (.Attribute o m apos) [] kws pos) (tMetK C m sp (WE W) ta t) := by
  obtain ⟨f, fd, ps, spf, g, gV, cl, hm, F, hb, hs⟩ := c.ex
  refine ⟨fun pins s σ H Q I h => PySem.W.methodCall_KW (pl := pl) (thn (he.run pins s σ H _ I h) fun u s1 hh => ?_) ht⟩
  obtain ⟨x, H1, I1, rx, a, dx, fs, rfl, ea, l, q⟩ := hh
  obtain rfl : u = Value.ref a := rx
  refine getmeth_ok I1 ea cl hm l (PySem.W.callWith_KW0 (first := [.ref a]) (h₀ := X.base) I.ok.mod.kin hm.kp hall (thn (ha.run pos pins s1 σ H1 _ I1 q) fun ws s2 hh => ?_) hpl)
  obtain ⟨zs, H2, I2, rz, q2⟩ := hh
  obtain ⟨lz, q3⟩ := hs _ _ _ _ _ q2
  refine ⟨I2.kIn, ?_⟩
  rw [hks]
  have r1 : Vals [V.ref a] [Value.ref a] := .cons rfl .nil
  refine wpAny_call (codeAny_mono (F.run X.A X.stack s2 H2 ⟨[.ref a], ks.zip ws⟩ (g [.ref a] ws) (gV [.ref a] zs) Q (WE W σ) (hr.mono hk) I2.env0 (hb.to s2 [.ref a] ws I2.kIn rfl (rz.length.symm.trans lz)) (hb.rel r1 rz) q3) fun r s3 hq => ?_)
  cases r with
  | error er => exact passAt tk σ pins H2 s2 er s3 I2 hq
  | ok fl =>
    cases fl with
    | ret u => exact I2.after hq
    | next => exact False.elim hq
    | brk => exact False.elim hq
    | cont => exact False.elim hq
end
/-! ## new objects made by keywords alone -/
structure MakK (P : Program) (w : World) (K : PySem.W.Frag) (mg : Str → Option Value) (base : Heap) (k : Nat) (x : Str) (C : Addr) (ks : List Str) (sp : Sp) : Prop where
  ex : ∃ (f : Addr) (fd : FuncData) (ps : List Str) (spf : Sp) (g : List Value → List Value → List Value) (gV : List V → List V → List V),
    Mk K C f ∧ FnOk P w K mg base CX0 k f fd ps spf ∧ mg x = some (.ref C) ∧ KBn K fd ps 1 ks g gV ∧ ∀ x zs H Q E, sp (x :: zs) H Q E → zs.length = ks.length ∧ spf (gV [x] zs) H Q E
def tMakK (C : Addr) (sp : Sp) (tk : TA) : TE := fun σ H Q => tk σ H fun zs H1 => ∀ x dx, H1 x = none → H1 dx = none → dx ≠ x → sp (.ref x :: zs) (upd (upd H1 dx (.own x)) x (.ins C dx [])) (fun v H3 => v = .non ∧ Q (.ref x) H3) E0
section
variable {X : Cx} {k j : Nat} {C : Addr} {x : Str} {ks : List Str} {sp : Sp} {p pos : Pos} {kws : List Keyword} {t : TA}
theorem pe_mkk (c : MakK X.prog X.w X.K X.mg X.base k x C ks sp) (hr : Room j X.A) (hk : k + 1 ≤ j) (hg : Gl X x) (ha : PK X kws t)
    (hall : (backToKw pos (keywordEach kws X.env)).all (·.1.isSome) = true := by rfl) (hks : (backToKw pos (keywordEach kws X.env)).filterMap (·.1) = ks := by rfl) (hdb : (x == ("__debug__" : Str)) = false := by decide)
    (hpl : ((backTo pos (starEach [] X.env)).any (·.1) || (backToKw pos (keywordEach kws X.env)).any (·.1.isNone)) = false := by rfl) : PE X (.Call (.Name x p) [] kws pos) (tMakK C sp t) := by
  obtain ⟨f, fd, ps, spf, g, gV, M, F, hm, hb, hs⟩ := c.ex
  refine ⟨fun pins s σ H Q I h => wpAny_Call_Name_kw (ld_glob I hg hm (PySem.W.callWith_KW0 (h₀ := X.base) I.ok.mod.kin M.kp hall (thn (ha.run pos pins s σ H _ I h) fun ws s2 hh => ?_) hpl) hdb)⟩
  obtain ⟨zs, H2, I2, rz, q2⟩ := hh
  refine ⟨I2.kIn, ?_⟩
  rw [hks]
  have lz : zs.length = ks.length := (hs _ _ _ _ _ (q2 (s2.heap.objs.size + 1) s2.heap.objs.size (I2.hok.fresh (Nat.le_succ _)) (I2.hok.fresh (Nat.le_refl _)) (Nat.ne_of_lt (Nat.lt_succ_self _)))).1
  exact run_makeK (us := []) (vs := []) M F (hr.mono hk) hb pass0 I2 .nil rz rfl lz fun x dx n1 n2 n3 => (hs _ _ _ _ _ (q2 x dx n1 n2 n3)).2
end
/-! ## list.count of plain values -/
def rCntF (K : PySem.W.Frag) : V → List V → Hp → VK → Prop := fun x xs H Q => ∃ (a : Addr) (ys : List V) (y : V), x = .ref a ∧ xs = [y] ∧ SqL K H a ys ∧ flatV y = true ∧ ys.all flatV = true ∧ Q (.int ((ys.countP fun z => eqV z y : Nat) : Int)) H
theorem count_flat {y : V} : ∀ {ys : List V} {us : List Value}, Vals ys us → ys.all flatV = true → us.countP (eqU y) = ys.countP fun z => eqV z y
  | _, _, .nil, _ => rfl
  | _, _, .cons (a := z) (b := u) r t, f => by
    rw [List.all_cons, Bool.and_eq_true] at f
    rw [List.countP_cons, List.countP_cons, count_flat t f.2, eqU_of r f.1]
theorem mt_countF {X : Cx} : MtR X "list.count" (rCntF X.K) := by
  intro pins s σ H x xs v us Q I rx rxs h
  obtain ⟨a, ys, y, rfl, rfl, hs, fy, fys, q⟩ := h
  cases rx
  obtain ⟨uy, rfl, ry⟩ := rxs.one
  obtain ⟨its, rv, ⟨⟨cls, dd, data, sl⟩, n, ho, hc, hdn, hd⟩, hlen⟩ := I.list hs
  simp only at hc hd
  subst hc hd
  refine call_meets PySem.F.slot_list_count ⟨_, ho, rfl⟩ PySem.F.entry_list_count (PySem.F.args_list_count_2 _ _) (SeqAt.list_countAt a its.toArray n dd sl uy (eqU y)) ⟨ho, fun u2 hu2 => mem_eqAt ry fy rv fys u2 (by simpa using hu2), ?_⟩
  refine ⟨.int ((ys.countP fun z => eqV z y : Nat) : Int), H, I.tok _, ⟨s.toks, ?_⟩, q⟩
  show Value.int ((its.toArray.toList.countP (eqU y) : Nat) : Int) s.toks = _
  rw [List.toList_toArray, count_flat rv fys]
/-! ## a method, an __init__ called by place and by keywords -/
theorem kbn_self {K : PySem.W.Frag} {x qual : Str} {st : Stmt} {f : Addr} {fd : FuncData} {ps ks : List Str} (F : Fun K x qual st f fd) (g : {α : Type} → α → List α → List α) (hg : ∀ {v : V} {u : Value} {vs : List V} {us : List Value}, RelV v u → Vals vs us → Vals (g v vs) (g u us))
    (h : ∀ (kV doc pm : Value) (an : Option Addr) (cdv ct u : Value) (ws : List Value), ws.length = ks.length →
      bindArgs (PySem.W.fnOf x qual (defArgs st) (defBody st) (defScope st) .none kV doc pm an cdv ct) ⟨[u], ks.zip ws⟩ = pure (ps.zip (g u ws))) : KBn K fd ps 1 ks (fun us ws => match us with | [u] => g u ws | _ => ws) (fun us ws => match us with | [u] => g u ws | _ => ws) := by
  obtain ⟨oc, od, kV, doc, pm, an, cdv, ct, osl, rfl, lk, hcd⟩ := F.ex
  refine ⟨fun s us ws X l1 l2 => ?_, fun r1 r2 => ?_⟩
  · match us, l1 with
    | [u], _ => exact .of_eq (h kV doc pm an cdv ct u ws l2)
  · cases r1 with
    | nil => exact r2
    | cons a r => cases r with
      | nil => exact hg a r2
      | cons b r => exact r2
section
variable {P : Program} {w : World} {K : PySem.W.Frag} {mg : Str → Option Value} {base : Heap} {C : Addr} {m x qual : Str} {st : Stmt} {ps ks N : List Str} {k : Nat} {sp spk : Sp}
theorem MetAt.metKX (D : MetAt K C m qual st ps) (cl : Cls K C) (S : FnScope N ps (defScope st)) (len : ∀ vs H Q E, sp vs H Q E → vs.length = ps.length)
    (hb : ∀ (f : Addr) (cdv : Value) (A : Around) (outer : List Env) (s : Shared) (H : Hp) (vs : List V) (Q : VK) (E : XK), Room k (A.deeper (envOfC qual (defScope st) s.heap.objs.size f cdv)) → sp vs H Q E →
      (Takes (cxOf (L2.CX P w) P w K mg base N qual (defScope st) f cdv A outer s H E) fun cls d _ G => E cls d G) →
      ∃ t, PSs (cxOf (L2.CX P w) P w K mg base N qual (defScope st) f cdv A outer s H E) (defBody st) t ∧ t { nx := fun _ H' => Q .non H', rt := Q } (start N vs) H)
    (g : {α : Type} → α → List α → List α) (hg : ∀ {v : V} {u : Value} {vs : List V} {us : List Value}, RelV v u → Vals vs us → Vals (g v vs) (g u us))
    (h : ∀ (kV doc pm : Value) (an : Option Addr) (cdv ct u : Value) (ws : List Value), ws.length = ks.length →
      bindArgs (PySem.W.fnOf m qual (defArgs st) (defBody st) (defScope st) .none kV doc pm an cdv ct) ⟨[u], ks.zip ws⟩ = pure (ps.zip (g u ws)))
    (hs : ∀ x zs H Q E, spk (x :: zs) H Q E → zs.length = ks.length ∧ sp (g x zs) H Q E) : MetX P w K mg base (k + 1) C m sp ∧ MetKX P w K mg base (k + 1) C m ks spk := by
  obtain ⟨f, fd, F, hm, b⟩ := D.ex
  have ok := F.okX S len fun cdv A outer s H vs Q E hr hsp => hb f cdv A outer s H vs Q E hr hsp (takes_of rfl rfl rfl rfl)
  exact ⟨⟨f, fd, ps, cl, hm, ok, b⟩, ⟨f, fd, ps, sp, _, _, cl, hm, ok, kbn_self F g hg h, hs⟩⟩
theorem IniAt.makK (D : IniAt K mg C x qual st ps) (S : FnScope N ps (defScope st)) (len : ∀ vs H Q E, sp vs H Q E → vs.length = ps.length)
    (hb : ∀ (f : Addr) (cdv : Value) (A : Around) (outer : List Env) (s : Shared) (H : Hp) (vs : List V) (Q : VK) (E : XK), Room k (A.deeper (envOfC qual (defScope st) s.heap.objs.size f cdv)) → sp vs H Q E →
      (Takes (cxOf (L2.CX P w) P w K mg base N qual (defScope st) f cdv A outer s H E) fun cls d _ G => E cls d G) →
      ∃ t, PSs (cxOf (L2.CX P w) P w K mg base N qual (defScope st) f cdv A outer s H E) (defBody st) t ∧ t { nx := fun _ H' => Q .non H', rt := Q } (start N vs) H)
    (g : {α : Type} → α → List α → List α) (hg : ∀ {v : V} {u : Value} {vs : List V} {us : List Value}, RelV v u → Vals vs us → Vals (g v vs) (g u us))
    (h : ∀ (kV doc pm : Value) (an : Option Addr) (cdv ct u : Value) (ws : List Value), ws.length = ks.length →
      bindArgs (PySem.W.fnOf "__init__" qual (defArgs st) (defBody st) (defScope st) .none kV doc pm an cdv ct) ⟨[u], ks.zip ws⟩ = pure (ps.zip (g u ws)))
    (hs : ∀ x zs H Q E, spk (x :: zs) H Q E → zs.length = ks.length ∧ sp (g x zs) H Q E0) : MakX P w K mg base (k + 1) x C sp ∧ MakK P w K mg base (k + 1) x C ks spk := by
  obtain ⟨f, fd, F, hm, hg2, b⟩ := D.ex
  have ok := F.okX S len fun cdv A outer s H vs Q E hr hsp => hb f cdv A outer s H vs Q E hr hsp (takes_of rfl rfl rfl rfl)
  have ok0 : FnOk P w K mg base CX0 (k + 1) f fd ps (fun vs H Q _ => sp vs H Q E0) := fn_calm ok fun vs H Q E z => z
  exact ⟨⟨f, fd, ps, hm, ok, hg2, b⟩, ⟨f, fd, ps, _, _, _, hm, ok0, hg2, kbn_self F g hg h, hs⟩⟩
end
/-! ## [.. for i, x in enumerate(xs) ..] -/
theorem lc_enum {K : PySem.W.Frag} {a : Addr} {xs : List V} {g : TG} {tt : TT} {te : TE} {vs : List Nat} {σ : L2.St} {H1 : Hp} {D : Addr} {Qd : Hp → Prop} (Pv : Nat → Hp → Prop) (h0 : Pv 0 (upd H1 D (.lst []))) (hq : ∀ i H, Pv i H → SqL K H a xs)
    (hs : ∀ (i : Nat) (x : V) (T : Addr) (H : Hp), xs[i]? = some x → Pv i H → H T = none → g (.ref T) (wipe σ vs) (upd H T (.tup [.int (i : Nat), x])) fun σ2 H2 => wipe σ2 vs = wipe σ vs ∧ tt σ2 H2 fun b H3 =>
      if b = true then te σ2 H3 fun y H4 => ∃ acc, H4 D = some (.lst acc) ∧ acc.length < sizeLine ∧ Pv (i + 1) (upd H4 D (.lst (acc ++ [y]))) else Pv (i + 1) H3) (hd : ∀ H, Pv xs.length H → Qd H) :
    ∃ W : Nat → Nat → Hp → Prop, (∃ m, W 0 m (upd H1 D (.lst []))) ∧ ∀ i m H, W i m H →
      ((Ite K a).stop i H ∧ Qd H) ∨ ((Ite K a).go i H ∧ ∃ Nx : Hp → Prop, (∀ H', Nx H' → ∃ m', m' < m ∧ W (i + 1) m' H') ∧ ∀ x H', (Ite K a).yld i H x H' → g x (wipe σ vs) H' fun σ2 H2 => wipe σ2 vs = wipe σ vs ∧ tt σ2 H2 fun b H3 =>
        if b = true then te σ2 H3 fun y H4 => ∃ acc, H4 D = some (.lst acc) ∧ acc.length < sizeLine ∧ Nx (upd H4 D (.lst (acc ++ [y]))) else Nx H3) := by
  refine ⟨fun i m H => m + i = xs.length ∧ Pv i H, ⟨xs.length, rfl, h0⟩, fun i m H hW => ?_⟩
  obtain ⟨em, p⟩ := hW
  have q := hq i H p
  by_cases lt : i < xs.length
  · have ex : xs[i]? = some xs[i] := List.getElem?_eq_getElem lt
    refine .inr ⟨⟨xs, _, q, ex⟩, Pv (i + 1), fun H' p' => ⟨m - 1, by omega, by omega, p'⟩, fun v H' hy => ?_⟩
    obtain ⟨T, x, rfl, nT, rfl, f⟩ := hy
    exact hs i x T H (f xs q) p nT
  · have ei : i = xs.length := by omega
    subst ei
    exact .inl ⟨⟨xs, q, Nat.le_refl _⟩, hd H p⟩
/-! ## a kept exception stays -/
theorem Kept.same {H H' : Hp} {a C : Addr} {fs : List (Str × V)} (k : Kept H a C fs) (s : Same H H') : Kept H' a C fs := by
  obtain ⟨d, ⟨h1, h2⟩ | ⟨h1, h2⟩⟩ := k
  · exact ⟨d, .inl ⟨s _ _ h1, s _ _ h2⟩⟩
  · exact ⟨d, .inr ⟨s _ _ h1, s _ _ h2⟩⟩
theorem kept_new {H : Hp} {a C d : Addr} {fs : List (Str × V)} (na : H a = none) (hd : H d = some (.xd fs)) : Kept (upd H a (Xo a (.ref C) (some d))) a C fs := ⟨d, .inl ⟨upd_same, upd_keep na hd⟩⟩
theorem But.same {o : Addr} {H H1 H' : Hp} (b : But o H1 H') (s : Same H H1) (n : H o = none) : Same H H' := fun c u e => b c u (fun z => by
  rw [z, n] at e
  cases e) (s c u e)
theorem exm_mk {K : PySem.W.Frag} {C S : Addr} {b : Bool} (h1 : PySem.W.subIn K (.ref S) (.type "BaseException") = some true) (h2 : PySem.W.isClsIn K S = true) (h3 : PySem.W.typeIn K (.ref S) = some (.type "type")) (h4 : PySem.W.subIn K (.ref C) (.ref S) = some b) : PySem.W.exmOne K (.ref C) (.ref S) = some b := by
  have e1 : (PySem.W.subIn K (.ref S) (.type "BaseException") == some true) = true := by rw [h1] <;> rfl
  have e2 : ((PySem.W.clsIn K S).isSome && PySem.W.typeIn K (.ref S) == some (.type "type")) = true := by
    have h2' : (PySem.W.clsIn K S).isSome = true := h2
    rw [h2', h3] <;> rfl
  show (if (PySem.W.subIn K (.ref S) (.type "BaseException") == some true) = true then (if ((PySem.W.clsIn K S).isSome && PySem.W.typeIn K (.ref S) == some (.type "type")) = true then PySem.W.subIn K (.ref C) (.ref S) else none) else none) = some b
  rw [if_pos e1, if_pos e2]
  exact h4
end Sq


set_option Elab.async false
set_option maxRecDepth 100000
set_option maxHeartbeats 4000000
namespace Sq
open PySem PySem.Spec PyProof.Rows L2
/-! ## a, *b = a list -/
theorem star_list {prog : Program} {w : World} {A : Around} {E : Value → Shared → Prop} {s : Shared} {l : Addr} {items : Array Value} {n i : Nat} {Q : List Value → Shared → Prop} (hl : s.heap.IsList l items) (hh : A.handled = none) (hi : i < n) (hn : n ≤ items.size + 1) (hz : items.size ≤ 16384)
    (h : ∀ (h₂ : Heap) (tk : Nat), (∀ b o, s.heap.get? b = some o → h₂.get? b = some o) → Q (items.toList.take i ++ [.ref h₂.objs.size] ++ (items.toList.drop i).drop (items.size + 1 - n)) { s with heap := h₂.push { cls := .type "list", data := .seq ((items.toList.drop i).take (items.size + 1 - n)).toArray }, toks := tk }) :
    wpAny (model prog w) A (unpackItems (.ref l) n (some i)) Q E s := by
  have hlt : l ≠ s.heap.objs.size := by obtain ⟨o, ho, _⟩ := hl; exact Nat.ne_of_lt (Heap.lt_size ho)
  have hll : l < s.heap.objs.size := by obtain ⟨o, ho, _⟩ := hl; exact Heap.lt_size ho
  unfold unpackItems
  refine wpAny_bind ?_
  unfold notIterableAtAll
  refine wpAny_bind (wpAny_specialOf hl.typeIs PySem.F.slot_list_iter.lookup ?_)
  refine wpAny_pure ?_
  simp only [Bool.false_eq_true, if_false]
  refine wpAny_bind (wpAny_holding (wpAny_pyIter_list hl ?_))
  refine wpAny_bind (wpAny_holding (PySem.W.kun_draw hlt i 0 _ _ ⟨_, Heap.get?_push_size _ rfl, rfl, rfl⟩ (hl.push _) (by omega) fun h₁ hit₁ hs₁ => ?_))
  have hl₁ : h₁.IsList l items := (hl.push _).extBut hs₁.extBut hlt
  rw [Nat.zero_add] at hit₁
  have hit₁' := hit₁
  obtain ⟨oi, hoi, _⟩ := hit₁'
  have hl₁' := hl₁
  obtain ⟨ol, hol, _⟩ := hl₁'
  rw [List.drop_zero]
  have hfl : (items.toList.take i).length = i := by rw [List.length_take, Array.length_toList]; omega
  rw [if_neg (show ¬ ((items.toList.take i).length < i) by rw [hfl]; omega)]
  refine wpAny_bind (wpAny_holding (PySem.W.kun_collect (s := { s with heap := h₁ }) (T := "list_iterator") (.inr (.inr (.inl rfl))) (Walks.list (A := A.in1) hh s.heap.objs.size l hlt items) (fun j u st => st.1.typeIs) (k := i) (by omega) ⟨hit₁, hl₁⟩ (Heap.lt_size hoi) (Heap.lt_size hol) (fun h₂ tk hk => ?_) (by rw [sizeLine_eq]; omega)))
  have hrl : (items.toList.drop i).length = items.size - i := by rw [List.length_drop, Array.length_toList]
  have hmid : (items.toList.drop i).length - (n - 1 - i) = items.size + 1 - n := by rw [hrl]; omega
  show wpAny _ _ (if (items.toList.drop i).length < n - 1 - i then _ else _) _ _ _
  rw [if_neg (by rw [hrl]; omega)]
  show wpAny _ _ (newList ((items.toList.drop i).take ((items.toList.drop i).length - (n - 1 - i))) >>= fun d => pure (items.toList.take i ++ [d] ++ (items.toList.drop i).drop ((items.toList.drop i).length - (n - 1 - i)))) _ _ _
  rw [hmid]
  have he : ∀ b o, s.heap.get? b = some o → h₂.get? b = some o := fun b o e => hk b o (Nat.ne_of_lt (Heap.lt_size e)) (hs₁.extBut b o (Nat.ne_of_lt (Heap.lt_size e)) (Heap.get?_push_of_some _ e))
  exact wpAny_bind (wpAny_newList (wpAny_pure (h h₂ tk he)) (by rw [List.length_take, hrl, sizeLine_eq]; omega))
def gStar (K : PySem.W.Frag) (t : TGs) : TG := fun v σ H Q => ∃ a x xs, v = .ref a ∧ SqL K H a (x :: xs) ∧ xs.length ≤ 16000 ∧ ∀ D, H D = none → t [x, .ref D] σ (upd H D (.lst xs)) Q
section
variable {X : Cx} {K : PySem.W.Frag} {e : Expr} {es : List Expr} {t : TG} {u ts : TGs} {p pos : Pos} {k : Nat}
theorem pgs_star (h1 : PG X e t) (h2 : PGs X es u) (hs : (assignEach (.Starred e p :: es) X.env).map (·.2) = assign e X.env :: (assignEach es X.env).map (·.2) := by rfl) : PGs X (.Starred e p :: es) (gCons t u) := by
  refine ⟨fun pins s σ H vs us Q I r h => ?_⟩
  obtain ⟨v, vr, e1, h⟩ := h
  subst e1
  cases r with
  | cons r rr =>
    rw [hs]
    refine assignInOrder_cons (thn (h1.run pins s σ H _ _ _ I r h) fun _ s1 ⟨σ1, H1, I1, q1⟩ => ?_)
    exact h2.run pins s1 σ1 H1 _ _ Q I1 rr q1
/-- a, *b = a list -/
theorem pg_star (hc : X.calm = true) (h : PGs X es ts) (hn : (assignEach es X.env).length = 2 := by rfl) (hst : (assignEach es X.env).findIdx? (·.1) = some 1 := by rfl) (hK : X.K = K := by rfl) : PG X (.Tuple es k pos) (gStar K ts) := by
  subst hK
  refine ⟨fun pins s σ H v u Q I r hw => ?_⟩
  obtain ⟨a, x, xs, e1, hq, hl, hw⟩ := hw
  subst e1
  cases r
  obtain ⟨its, rv, pl, hz⟩ := I.list hq
  have hl' : s.heap.IsList a its.toArray := by
    obtain ⟨o, m, e, c, d, q⟩ := pl
    exact ⟨o, e, c, m, q⟩
  rw [PyProof.Rows.assign_Tuple]
  refine wpAny_bind (wpAny_standAt ?_)
  unfold unpack
  rw [hn, hst]
  cases rv with
  | @cons _ v0 _ vs0 r0 rr =>
    have hlen : vs0.length = xs.length := rr.length.symm
    refine wpAny_bind (wpAny_holding (star_list hl' (I.ok.hd hc) (by decide) (by rw [List.size_toArray, List.length_cons]; omega) (by rw [List.size_toArray, List.length_cons]; omega) fun h₂ tk kp => ?_))
    have I1 : Inv X pins σ H { s with heap := h₂, toks := tk } := I.kept kp
    have em : (((v0 :: vs0).toArray.toList.drop 1).take ((v0 :: vs0).toArray.size + 1 - 2)) = vs0 := by
      rw [List.toList_toArray, List.size_toArray, List.length_cons, List.drop_one, List.tail_cons]
      exact List.take_of_length_le (by omega)
    have el : (((v0 :: vs0).toArray.toList.drop 1).drop ((v0 :: vs0).toArray.size + 1 - 2)) = [] := by
      rw [List.toList_toArray, List.size_toArray, List.length_cons, List.drop_one, List.tail_cons]
      exact List.drop_eq_nil_of_le (by omega)
    have hf := I1.hok.fresh (Nat.le_refl _)
    have I2 : Inv X pins σ (upd H h₂.objs.size (.lst xs)) { s with heap := h₂.push { cls := .type "list", data := .seq vs0.toArray }, toks := tk } :=
      I1.laid (t' := tk) (fun b u q => Heap.get?_push_of_some _ q) (Nat.le_refl _) ⟨by rw [sizeLine_eq]; omega, vs0, _, rr, Heap.get?_push_size _ rfl⟩
    rw [em, el]
    exact h.run pins _ σ _ [x, .ref h₂.objs.size] [v0, .ref h₂.objs.size] Q I2 (.cons r0 (.cons rfl .nil)) (hw _ hf)
end
def tStarL (K : PySem.W.Frag) (te : TE) (t : TA) : TA := fun σ H Q => te σ H fun x H1 => ∃ (p : Addr) (xs : List V), x = V.ref p ∧ SqL K H1 p xs ∧ t σ H1 fun ys H2 => Q (xs ++ ys) H2
/-- *e in a display, e a list -/
theorem pa_starK {X : Cx} {K : PySem.W.Frag} {e : Expr} {es : List Expr} {te : TE} {t : TA} {p : Pos} (he : PE X e te) (hr : PA X es t) (hs : starEach (.Starred e p :: es) X.env = (true, eval e X.env) :: starEach es X.env := by rfl) (hK : X.K = K := by rfl) : PA X (.Starred e p :: es) (tStarL K te t) := by
  subst hK
  have z := StX.pa_star (pe_wk he) hr hs
  refine ⟨fun pos pins s σ H Q I h => z.run pos pins s σ H Q I ⟨_, h, fun v G q => ?_⟩⟩
  obtain ⟨a, xs, e, hq, q⟩ := q
  exact ⟨a, xs, e, .inr hq, q⟩
theorem pe_gc {X : Cx} {x : Str} {v : V} {pos : Pos} (hg : Gl X x) (h : ∃ u, X.mg x = some u ∧ RelV v u) (hdb : (x == ("__debug__" : Str)) = false := by decide) : PE X (.Name x pos) (tC v) := by
  obtain ⟨u, a, b⟩ := h
  exact pe_glob hg a b hdb
/-! ## texts of lists, sign by sign -/
def dig (c : Nat) : Bool := decide (48 ≤ c) && decide (c ≤ 57)
def wrd (n t : Nat) : List Nat := if 1 < t then TL.numL n ++ 94 :: TL.numL t else TL.numL n
/-- equal neighbours, and how often -/
def grpS (acc : List (Int × Nat)) (k : Int) : List (Int × Nat) := match acc.getLast? with
  | some (a, c) => if a = k then acc.dropLast ++ [(a, c + 1)] else acc ++ [(k, 1)]
  | none => [(k, 1)]
def grp (ns : List Int) : List (Int × Nat) := ns.foldl grpS []
def ungrp (ps : List (Int × Nat)) : List Int := ps.flatMap fun p => List.replicate p.2 p.1
theorem ungrp_app (a b : List (Int × Nat)) : ungrp (a ++ b) = ungrp a ++ ungrp b := List.flatMap_append
theorem last_split {α : Type} {l : List α} {x : α} (h : l.getLast? = some x) : l = l.dropLast ++ [x] := by
  have ne : l ≠ [] := fun e => by
    rw [e] at h
    cases h
  rw [List.getLast?_eq_some_getLast ne] at h
  have e := List.dropLast_concat_getLast ne
  rw [Option.some.inj h] at e
  exact e.symm
theorem ungrp_step (acc : List (Int × Nat)) (k : Int) : ungrp (grpS acc k) = ungrp acc ++ [k] := by
  unfold grpS
  cases h : acc.getLast? with
  | none =>
    have e : acc = [] := by
      cases acc with
      | nil => rfl
      | cons a t => simp at h
    subst e
    simp [ungrp]
  | some p =>
    obtain ⟨a, c⟩ := p
    have e := last_split h
    simp only
    split
    · rename_i z
      subst z
      rw [ungrp_app]
      conv => rhs; rw [e, ungrp_app]
      simp [ungrp, List.replicate_succ']
    · rw [ungrp_app]
      simp [ungrp]
theorem ungrp_fold : ∀ (ns : List Int) (acc : List (Int × Nat)), ungrp (ns.foldl grpS acc) = ungrp acc ++ ns
  | [], acc => by simp
  | k :: r, acc => by
    rw [List.foldl_cons, ungrp_fold r, ungrp_step, List.append_assoc]
    rfl
theorem ungrp_grp (ns : List Int) : ungrp (grp ns) = ns := by
  unfold grp
  rw [ungrp_fold]
  simp [ungrp]
/-- the counts are at least 1; what stands there stands in the list -/
def GrpOk (b : Int → Prop) (N : Nat) (ps : List (Int × Nat)) : Prop := ∀ p ∈ ps, b p.1 ∧ 1 ≤ p.2 ∧ p.2 ≤ N
theorem grp_step {b : Int → Prop} {N : Nat} {acc : List (Int × Nat)} {k : Int} (h : GrpOk b N acc) (hk : b k) : GrpOk b (N + 1) (grpS acc k) := by
  have up : ∀ p ∈ acc, b p.1 ∧ 1 ≤ p.2 ∧ p.2 ≤ N + 1 := fun p hp => ⟨(h p hp).1, (h p hp).2.1, Nat.le_succ_of_le (h p hp).2.2⟩
  unfold grpS
  cases e : acc.getLast? with
  | none =>
    intro p hp
    rw [List.mem_singleton.mp hp]
    exact ⟨hk, Nat.le_refl _, by simp⟩
  | some q =>
    obtain ⟨a, c⟩ := q
    have es := last_split e
    have hq := h (a, c) (by rw [es]; simp)
    simp only
    split
    · intro p hp
      rcases List.mem_append.mp hp with z | z
      · exact up p (List.dropLast_subset _ z)
      · rw [List.mem_singleton.mp z]
        exact ⟨hq.1, by simp, by have := hq.2.2; simp only at this ⊢; omega⟩
    · intro p hp
      rcases List.mem_append.mp hp with z | z
      · exact up p z
      · rw [List.mem_singleton.mp z]
        exact ⟨hk, Nat.le_refl _, by simp⟩
theorem grp_fold {b : Int → Prop} : ∀ (ns : List Int) (N : Nat) (acc : List (Int × Nat)), GrpOk b N acc → (∀ k ∈ ns, b k) → GrpOk b (N + ns.length) (ns.foldl grpS acc)
  | [], N, acc, h, _ => h
  | k :: r, N, acc, h, hk => by
    have := grp_fold r (N + 1) (grpS acc k) (grp_step h (hk k (List.mem_cons_self ..))) fun j hj => hk j (List.mem_cons_of_mem _ hj)
    rw [List.foldl_cons, List.length_cons, show N + (r.length + 1) = N + 1 + r.length by omega]
    exact this
theorem grp_ok {b : Int → Prop} {ns : List Int} (h : ∀ k ∈ ns, b k) : GrpOk b ns.length (grp ns) := by
  have := grp_fold ns 0 [] (fun p z => nomatch z) h
  rw [Nat.zero_add] at this
  exact this
theorem grp_snoc (ns : List Int) (k : Int) : grp (ns ++ [k]) = grpS (grp ns) k := by
  unfold grp
  rw [List.foldl_append]
  rfl
theorem grpS_len (acc : List (Int × Nat)) (k : Int) : (grpS acc k).length ≤ acc.length + 1 ∧ 0 < (grpS acc k).length := by
  unfold grpS
  cases e : acc.getLast? with
  | none => simp
  | some q =>
    obtain ⟨a, c⟩ := q
    have es := congrArg List.length (last_split e)
    simp only [List.length_append, List.length_singleton] at es
    simp only
    split <;> simp <;> omega
theorem grp_len (ns : List Int) : (grp ns).length ≤ ns.length := by
  have : ∀ (ns : List Int) (acc : List (Int × Nat)), (ns.foldl grpS acc).length ≤ acc.length + ns.length := by
    intro ns
    induction ns with
    | nil => intro acc; simp
    | cons k r ih =>
      intro acc
      have a := ih (grpS acc k)
      have b := (grpS_len acc k).1
      rw [List.foldl_cons, List.length_cons]
      omega
  have a := this ns []
  simpa [grp] using a
theorem grp_nil {ns : List Int} : grp ns = [] ↔ ns = [] := by
  constructor
  · intro h
    have e := ungrp_grp ns
    rw [h] at e
    exact e.symm
  · rintro rfl
    rfl
def noneL : List Nat := [110, 111, 110, 101]
def wrds (ns : List Int) : List (List Nat) := (grp ns).map fun p => wrd p.1.toNat p.2
def showL (ns : List Int) : List Nat := if ns = [] then noneL else TL.joinL [44, 32] (wrds ns)
/-! ## and read back -/
def numIn (w : List Nat) : Option Nat := if 1 ≤ w.length ∧ w.length ≤ 200 ∧ w.all dig = true then some (NumText.digitsVal w) else none
def numsIn (w : List Nat) : Option (List Int) := match TL.spl [94] 0 [] w with
  | [] => none
  | f :: o => match numIn f, (match o with | [] => some 1 | t :: _ => numIn t) with
    | some n, some t => if 1 < o.length ∨ n < 2 then none else some (List.replicate t (n : Int))
    | _, _ => none
theorem dig_num (n : Nat) : (TL.numL n).all dig = true := by
  rw [List.all_eq_true]
  intro c hc
  have := TL.numL_digits n c hc
  unfold dig
  rw [Bool.and_eq_true, decide_eq_true_eq, decide_eq_true_eq]
  exact this
theorem numIn_num {n : Nat} (h : (TL.numL n).length ≤ 200) : numIn (TL.numL n) = some n := by
  unfold numIn
  have l : 1 ≤ (TL.numL n).length := by
    cases e : TL.numL n with
    | nil => exact absurd e (TL.numL_ne n)
    | cons a t => simp
  rw [if_pos ⟨l, h, dig_num n⟩, TL.numL_val]
theorem free94 (n : Nat) : 94 ∉ TL.numL n := TL.numL_free (.inr (by decide))
theorem free44 (n t : Nat) : 44 ∉ wrd n t := by
  unfold wrd
  have a : ∀ m, 44 ∉ TL.numL m := fun m => TL.numL_free (.inl (by decide))
  split
  · simp only [List.mem_append, List.mem_cons, not_or]
    exact ⟨a n, by decide, a t⟩
  · exact a n
theorem spl_wrd (n t : Nat) : TL.spl [94] 0 [] (wrd n t) = if 1 < t then [TL.numL n, TL.numL t] else [TL.numL n] := by
  unfold wrd
  split
  · have e := TL.spl_part1 (s := 94) (S := []) (p := TL.numL n) (rest := TL.numL t) (acc := []) (free94 n)
    rw [show TL.numL n ++ 94 :: TL.numL t = TL.numL n ++ ([94] ++ TL.numL t) from rfl, e, TL.spl_last1 (free94 t)]
    rfl
  · rw [TL.spl_last1 (free94 n)]
    rfl
theorem nums_wrd {n t : Nat} (hn : (TL.numL n).length ≤ 200) (ht : (TL.numL t).length ≤ 200) (h2 : 2 ≤ n) (h1 : 1 ≤ t) : numsIn (wrd n t) = some (List.replicate t (n : Int)) := by
  unfold numsIn
  rw [spl_wrd]
  by_cases h : 1 < t
  · rw [if_pos h]
    simp only [numIn_num hn, numIn_num ht]
    rw [if_neg (by simp; omega)]
  · rw [if_neg h]
    simp only [numIn_num hn]
    rw [if_neg (by simp; omega), show t = 1 by omega]
theorem free110 (n t : Nat) : 110 ∉ wrd n t := by
  unfold wrd
  have a : ∀ m, 110 ∉ TL.numL m := fun m => TL.numL_free (.inr (by decide))
  split
  · simp only [List.mem_append, List.mem_cons, not_or]
    exact ⟨a n, by decide, a t⟩
  · exact a n
theorem wrds_ne {ns : List Int} (h : ns ≠ []) : wrds ns ≠ [] := fun e => h (grp_nil.mp (List.map_eq_nil_iff.mp e))
theorem spl_show {ns : List Int} (h : ns ≠ []) : TL.spl [44, 32] 0 [] (showL ns) = wrds ns := by
  unfold showL
  rw [if_neg h]
  refine TL.spl_join (wrds_ne h) fun p hp => ?_
  obtain ⟨q, _, rfl⟩ := List.mem_map.mp hp
  exact free44 _ _
theorem show_ne {ns : List Int} (h : ns ≠ []) : showL ns ≠ noneL := fun e => by
  have a := spl_show h
  rw [e, TL.spl_last1 (show 44 ∉ noneL by decide)] at a
  have m : noneL ∈ wrds ns := by
    rw [← a]
    simp
  obtain ⟨q, _, eq⟩ := List.mem_map.mp m
  have : 110 ∈ noneL := by decide
  rw [← eq] at this
  exact free110 _ _ this
theorem show_inj_nil {ns : List Int} : showL ns = noneL ↔ ns = [] := ⟨fun e => Classical.byContradiction fun h => show_ne h e, fun e => by
  subst e
  rfl⟩
/-- lists that are shown and read here -/
def Nice (ns : List Int) : Prop := (∀ k ∈ ns, 2 ≤ k ∧ k < 10 ^ 200) ∧ ns.length ≤ 5000
theorem num_len {k : Int} (h0 : 0 ≤ k) (h : k < 10 ^ 200) : (TL.numL k.toNat).length ≤ 200 := by
  have e : ((10 : Int) ^ 200) = ((10 ^ 200 : Nat) : Int) := by norm_cast
  refine TL.numL_len (by decide) ?_
  rw [e] at h
  omega
theorem lt5 {n : Nat} (h : n ≤ 5000) : n < sizeLine := by
  rw [sizeLine_eq]
  omega
theorem num_len3 {t : Nat} (h : t ≤ 5000) : (TL.numL t).length ≤ 4 := TL.numL_len (by decide) (by omega)
theorem Nice.grp {ns : List Int} (h : Nice ns) : GrpOk (fun k => 2 ≤ k ∧ k < 10 ^ 200) 5000 (grp ns) := fun p hp => by
  have := grp_ok h.1 p hp
  have l := h.2
  exact ⟨this.1, this.2.1, by omega⟩
theorem wrd_len {k : Int} {t : Nat} (h0 : 0 ≤ k) (h : k < 10 ^ 200) (ht : t ≤ 5000) : (wrd k.toNat t).length ≤ 205 := by
  have a := num_len h0 h
  have b := num_len3 ht
  unfold wrd
  split
  · rw [List.length_append, List.length_cons]
    omega
  · omega
theorem join_len (s : List Nat) : ∀ ws : List (List Nat), (TL.joinL s ws).length ≤ (ws.map (·.length)).sum + ws.length * s.length
  | [] => by simp [TL.joinL]
  | [p] => by simp [TL.joinL]
  | p :: q :: r => by
    have ih := join_len s (q :: r)
    simp only [TL.joinL, List.length_append, List.map_cons, List.sum_cons, List.length_cons] at ih ⊢
    have : (r.length + 1 + 1) * s.length = (r.length + 1) * s.length + s.length := by rw [Nat.add_mul (r.length + 1) 1]; omega
    omega
theorem sum_le {b : Nat} : ∀ {ws : List (List Nat)}, (∀ w ∈ ws, w.length ≤ b) → (ws.map (·.length)).sum ≤ ws.length * b
  | [], _ => by simp
  | w :: r, h => by
    have a := h w (List.mem_cons_self ..)
    have c := sum_le (ws := r) fun x hx => h x (List.mem_cons_of_mem _ hx)
    rw [List.map_cons, List.sum_cons, List.length_cons, Nat.add_mul]
    omega
theorem Nice.words {ns : List Int} (h : Nice ns) : (∀ w ∈ wrds ns, w.length ≤ 205) ∧ (wrds ns).length ≤ 5000 := by
  refine ⟨fun w hw => ?_, ?_⟩
  · obtain ⟨p, hp, rfl⟩ := List.mem_map.mp hw
    obtain ⟨a, b, c⟩ := h.grp p hp
    exact wrd_len (by omega) a.2 c
  · unfold wrds
    rw [List.length_map]
    exact Nat.le_trans (grp_len ns) h.2
theorem Nice.len {ns : List Int} (h : Nice ns) : (showL ns).length ≤ 1050000 := by
  obtain ⟨a, b⟩ := h.words
  unfold showL
  split
  · decide
  · have c := join_len [44, 32] (wrds ns)
    have d := sum_le a
    have e := Nat.mul_le_mul_right 205 b
    have f : (wrds ns).length * ([44, 32] : List Nat).length ≤ 5000 * 2 := Nat.mul_le_mul_right 2 b
    omega
theorem wrds_get {ns : List Int} {i : Nat} {w : List Nat} (h : (wrds ns)[i]? = some w) : ∃ p, (grp ns)[i]? = some p ∧ w = wrd p.1.toNat p.2 := by
  unfold wrds at h
  rw [List.getElem?_map] at h
  cases e : (grp ns)[i]? with
  | none =>
    rw [e] at h
    cases h
  | some p =>
    rw [e] at h
    exact ⟨p, rfl, (Option.some.inj h).symm⟩
theorem ungrp_take {ps : List (Int × Nat)} {i : Nat} {p : Int × Nat} (h : ps[i]? = some p) : ungrp (ps.take (i + 1)) = ungrp (ps.take i) ++ List.replicate p.2 p.1 := by
  rw [List.take_add_one, h, ungrp_app]
  simp [ungrp]
/-! ## the pairs in the heap -/
def Prs (H : Hp) (l : Addr) (ps : List (Int × Nat)) : Prop := ∃ ts : List Addr, H l = some (.lst (ts.map V.ref)) ∧ ts.length = ps.length ∧ ∀ (i : Nat) (t : Addr) (p : Int × Nat), ts[i]? = some t → ps[i]? = some p → H t = some (.tup [.int p.1, .int ((p.2 : Nat) : Int)])
theorem Prs.same {H H' : Hp} {l : Addr} {ps : List (Int × Nat)} (h : Prs H l ps) (s : Same H H') : Prs H' l ps := by
  obtain ⟨ts, a, b, c⟩ := h
  exact ⟨ts, s _ _ a, b, fun i t p h1 h2 => s _ _ (c i t p h1 h2)⟩
def dPs (ps : List (Int × Nat)) : PyData := .list (ps.map fun p => .tuple [.int p.1, .int ((p.2 : Nat) : Int)])
theorem dpall_prs {K : PySem.W.Frag} {H : Hp} : ∀ (ts : List Addr) (ps : List (Int × Nat)), ts.length = ps.length → (∀ (i : Nat) (t : Addr) (p : Int × Nat), ts[i]? = some t → ps[i]? = some p → H t = some (.tup [.int p.1, .int ((p.2 : Nat) : Int)])) →
    DpAll K H (ts.map V.ref) (ps.map fun p => .tuple [.int p.1, .int ((p.2 : Nat) : Int)])
  | [], [], _, _ => .nil
  | [], _ :: _, h, _ => by simp at h
  | _ :: _, [], h, _ => by simp at h
  | t :: ts, p :: ps, h, c => .cons (.tup (SqT.of (c 0 t p rfl rfl)) (.cons (.int _) (.cons (.int _) .nil))) (dpall_prs ts ps (by simpa using h) fun i t' p' h1 h2 => c (i + 1) t' p' (by simpa using h1) (by simpa using h2))
theorem dp_prs {K : PySem.W.Frag} {H : Hp} {l : Addr} {ps : List (Int × Nat)} (h : Prs H l ps) : Dp K H (.ref l) (dPs ps) := by
  obtain ⟨ts, a, b, c⟩ := h
  exact .lst (seqL_of a) (dpall_prs ts ps b c)
theorem can_prs : ∀ ps : List (Int × Nat), PyData.canLayAll0 (ps.map fun p => .tuple [.int p.1, .int ((p.2 : Nat) : Int)]) = true
  | [] => by simp [PyData.canLayAll0]
  | p :: r => by simp [PyData.canLayAll0, PyData.canLay0, can_prs r]
theorem dep_prs : ∀ ps : List (Int × Nat), PyData.depthAll (ps.map fun p => .tuple [.int p.1, .int ((p.2 : Nat) : Int)]) ≤ 1
  | [] => by simp [PyData.depthAll]
  | p :: r => by
    have := dep_prs r
    simp only [List.map_cons, PyData.depthAll, PyData.depth]
    omega
theorem shaped_prs (ps : List (Int × Nat)) : SeqAt.shaped (dPs ps) = true := by
  have := dep_prs ps
  unfold SeqAt.shaped dPs
  rw [Bool.and_eq_true, decide_eq_true_eq]
  refine ⟨by simp only [PyData.canLay0, can_prs], ?_⟩
  show PyData.depth _ ≤ 64
  rw [PyData.depth]
  omega
theorem eqv_prs0 (ps : List (Int × Nat)) : PyData.eqv (dPs ps) (dI []) = decide (ps = []) := by
  unfold dPs dI
  cases ps with
  | nil => simp [PyData.eqv, PyData.eqvAll]
  | cons a r => simp [PyData.eqv, PyData.eqvAll]
/-- found != [] -/
theorem r_nePs {K : PySem.W.Frag} {H : Hp} {l b : Addr} {ps : List (Int × Nat)} {Q : VK} (h1 : Prs H l ps) (h2 : SqL K H b (iv [])) (q : Q (.bl (!decide (ps = []))) H) : rNeQ K (.ref l) (.ref b) H Q :=
  rNeQ_of ⟨dPs ps, dI [], dp_prs h1, dp_iv h2, shaped_prs ps, shaped_dI [], by rw [eqv_prs0]; exact q⟩
theorem Prs.last {H : Hp} {l : Addr} {ps : List (Int × Nat)} {a : Int} {c : Nat} (h : Prs H l ps) (e : ps.getLast? = some (a, c)) :
    ∃ (ts : List Addr) (t : Addr) (j : Nat), H l = some (.lst (ts.map V.ref)) ∧ ixN (ts.map V.ref).length (-1) = some j ∧ atI (ts.map V.ref) (-1) = some (.ref t) ∧ H t = some (.tup [.int a, .int ((c : Nat) : Int)]) ∧
      ∀ (T : Addr) (k : Int) (H' : Hp), (∀ b o, b ≠ l → H b = some o → H' b = some o) → H' T = some (.tup [.int k, .int (((c + 1 : Nat) : Nat) : Int)]) → H' l = some (.lst ((ts.map V.ref).set j (.ref T))) → Prs H' l (ps.dropLast ++ [(k, c + 1)]) := by
  obtain ⟨ts, h1, h2, h3⟩ := h
  have ep := last_split e
  have lp := congrArg List.length ep
  simp only [List.length_append, List.length_singleton, List.length_dropLast] at lp
  have hpos : 0 < ts.length := by omega
  have lt : ts.length - 1 < ts.length := by omega
  have ix : ixN (ts.map V.ref).length (-1) = some (ts.length - 1) := by
    rw [List.length_map]
    unfold ixN
    rw [if_neg (by omega)]
    rw [if_pos (by omega)]
    congr 1
    omega
  have eg : ps[ts.length - 1]? = some (a, c) := by
    rw [h2, ep]
    simp
  refine ⟨ts, ts[ts.length - 1], ts.length - 1, h1, ix, ?_, h3 _ _ _ (List.getElem?_eq_getElem lt) eg, fun T k H' keep hT hl => ?_⟩
  · unfold atI
    rw [ix]
    show (ts.map V.ref)[ts.length - 1]? = _
    rw [List.getElem?_map, List.getElem?_eq_getElem lt]
    rfl
  · refine ⟨ts.set (ts.length - 1) T, by rw [hl, List.map_set], by rw [List.length_set, List.length_append, List.length_dropLast, List.length_singleton]; omega, fun i t p ht hp => ?_⟩
    have li : i < ts.length := by
      have := (List.getElem?_eq_some_iff.mp ht).1
      rw [List.length_set] at this
      exact this
    by_cases z : i = ts.length - 1
    · subst z
      rw [List.getElem?_set_self lt] at ht
      have et : T = t := Option.some.inj ht
      rw [List.getElem?_append_right (by rw [List.length_dropLast]; omega), List.length_dropLast, show ts.length - 1 - (ps.length - 1) = 0 by omega] at hp
      have epp : (k, c + 1) = p := by simpa using hp
      rw [← et, ← epp]
      exact hT
    · rw [List.getElem?_set_ne (by omega)] at ht
      rw [List.getElem?_append_left (by rw [List.length_dropLast]; omega), List.getElem?_dropLast, if_pos (by omega)] at hp
      have old := h3 i t p ht hp
      refine keep t _ (fun e => ?_) old
      rw [e, h1] at old
      cases old
theorem Prs.snoc {H H' : Hp} {l : Addr} {ps : List (Int × Nat)} {k : Int} (h : Prs H l ps) : ∃ ts : List Addr, H l = some (.lst (ts.map V.ref)) ∧ ts.length = ps.length ∧
    ∀ (T : Addr) (H' : Hp), (∀ b o, b ≠ l → H b = some o → H' b = some o) → H' T = some (.tup [.int k, .int ((1 : Nat) : Int)]) → H' l = some (.lst (ts.map V.ref ++ [.ref T])) → Prs H' l (ps ++ [(k, 1)]) := by
  obtain ⟨ts, h1, h2, h3⟩ := h
  refine ⟨ts, h1, h2, fun T H' keep hT hl => ⟨ts ++ [T], by rw [hl]; simp, by simp [h2], fun i t p ht hp => ?_⟩⟩
  by_cases z : i < ts.length
  · rw [List.getElem?_append_left z] at ht
    rw [List.getElem?_append_left (by omega)] at hp
    have old := h3 i t p ht hp
    refine keep t _ (fun e => ?_) old
    rw [e, h1] at old
    cases old
  · have li : i = ts.length := by
      have := (List.getElem?_eq_some_iff.mp ht).1
      simp at this
      omega
    subst li
    rw [List.getElem?_append_right (Nat.le_refl _), Nat.sub_self] at ht
    rw [h2, List.getElem?_append_right (Nat.le_refl _), Nat.sub_self] at hp
    have et : T = t := by simpa using ht
    have ep : (k, 1) = p := by simpa using hp
    rw [← et, ← ep]
    exact hT
theorem show_short {ns : List Int} (h : Nice ns) {n : Nat} (hn : ns.length ≤ n) : (showL ns).length ≤ n * 207 + 4 := by
  obtain ⟨a, b⟩ := h.words
  unfold showL
  split
  · show 4 ≤ _
    omega
  · have c := join_len [44, 32] (wrds ns)
    have d := sum_le a
    have l : (wrds ns).length ≤ n := by
      unfold wrds
      rw [List.length_map]
      exact Nat.le_trans (grp_len ns) hn
    have e := Nat.mul_le_mul_right 205 l
    have f : (wrds ns).length * ([44, 32] : List Nat).length ≤ n * 2 := Nat.mul_le_mul_right 2 l
    omega
theorem fold_rep (k : Int) : ∀ (c : Nat) (gs : List (Int × Nat)) (t : Nat), (List.replicate c k).foldl grpS (gs ++ [(k, t)]) = gs ++ [(k, t + c)]
  | 0, gs, t => by simp
  | c + 1, gs, t => by
    have e : grpS (gs ++ [(k, t)]) k = gs ++ [(k, t + 1)] := by
      unfold grpS
      simp
    rw [List.replicate_succ, List.foldl_cons, e, fold_rep k c gs (t + 1), show t + 1 + c = t + (c + 1) by omega]
theorem grp_add {ns : List Int} {gs : List (Int × Nat)} {k : Int} {c : Nat} (h : grp ns = gs) (hl : ∀ a t, gs.getLast? = some (a, t) → a ≠ k) (hc : 1 ≤ c) : grp (ns ++ List.replicate c k) = gs ++ [(k, c)] := by
  obtain ⟨c', rfl⟩ : ∃ c', c = c' + 1 := ⟨c - 1, by omega⟩
  unfold grp at h ⊢
  rw [List.foldl_append, h, List.replicate_succ, List.foldl_cons]
  have e : grpS gs k = gs ++ [(k, 1)] := by
    unfold grpS
    cases el : gs.getLast? with
    | none =>
      have : gs = [] := List.getLast?_eq_none_iff.mp el
      subst this
      rfl
    | some q =>
      obtain ⟨a, t⟩ := q
      simp only
      rw [if_neg (hl a t el)]
  rw [e, fold_rep k c' gs 1, show 1 + c' = c' + 1 by omega]
theorem grp_two {o : Int} {m : Nat} (h : 1 ≤ m) : grp ((o + 1) :: List.replicate m o) = [(o + 1, 1), (o, m)] :=
  grp_add (ns := [o + 1]) (gs := [(o + 1, 1)]) rfl (fun a t e => by
    have : a = o + 1 := by
      have := congrArg (Option.map Prod.fst) e
      simpa using this.symm
    omega) h
theorem show_two {o : Int} {m : Nat} (h : 2 ≤ m) : showL ((o + 1) :: List.replicate m o) = TL.numL (o + 1).toNat ++ ([44, 32] ++ (TL.numL o.toNat ++ 94 :: TL.numL m)) := by
  unfold showL wrds
  rw [if_neg (by simp), grp_two (by omega)]
  simp only [List.map_cons, List.map_nil, TL.joinL]
  unfold wrd
  rw [if_neg (by decide), if_pos (by omega)]
end Sq


set_option Elab.async false
set_option maxRecDepth 100000
set_option maxHeartbeats 4000000
namespace PySem.HandSPX
open PySem PySem.Spec PySem.W PySem.Calls PyProof.Rows
/-! ## an own exception made by a keyword: C(k = u) -/
section
variable {M : Model} {A : Around} {E : Value → Shared → Prop} {h : Heap} {g : Array GenState} {d : Drawn} {t : Nat} {os : OsState}
variable {nm q : Str} {C N : Addr} {bs bm bmB : List Value} {hdct : Bool} {sn : List Str} {sub : List Value} {ab : Bool} {col : Option Bool} {dd : Option Addr} {k0 k1 k2 k3 k5 : Option Value} {B newId initId : String}
theorem check_newK (F : ExcBaseFacts B newId initId bmB) (hT : ∀ X : String, bm.contains (.type X) = bmB.contains (.type X)) {ky : Str} {u : Value} {Q : Unit → Shared → Prop}
    (hC : h.get? C = some (excClassObj nm q C N bs bm hdct sn sub ab col dd k0 k1 k2 k3 k5 newId)) (hq : Q () ⟨h, g, d, t, os⟩) : wpAny M A (checkBuiltinCall newId ⟨[.ref C], [(ky, u)]⟩) Q E ⟨h, g, d, t, os⟩ := by
  have hcont : (Value.ref C :: bm).contains (.type B) = true := by rw [List.contains_cons, hT, F.hasB, Bool.or_true]
  have hstar := F.noStar
  simp only [checkBuiltinCall, F.newKind, F.newSplit, F.newRow]
  repeat (first | refine wpAny_loadPart_at hC ?_ | (refine wpAny_isSubtype_exc hC ?_; rw [hcont]) | refine wpAny_staticBase_exc hC ?_ | refine wpAny_madeBy_exc hC ?_ | simp only [bne_self_eq_false, Bool.false_eq_true, if_false] | wp_step)
  exact hq
end
section
variable {prog : Program} {w : World} {A : Around} {E : Value → Shared → Prop} {R : Result → Shared → Prop} {h : Heap} {g : Array GenState} {d : Drawn} {t : Nat} {os : OsState}
variable {nm q : Str} {C N : Addr} {bs bm bmB : List Value} {hdct : Bool} {sn : List Str} {sub : List Value} {ab : Bool} {col : Option Bool} {dd : Option Addr} {k0 k1 k2 k3 k5 : Option Value} {B newId initId : String}
theorem newK (F : ExcBaseFacts B newId initId bmB) (hT : ∀ X : String, bm.contains (.type X) = bmB.contains (.type X)) {ky : Str} {u : Value}
    (hC : h.get? C = some (excClassObj nm q C N bs bm hdct sn sub ab col dd k0 k1 k2 k3 k5 newId))
    (hq : R (.ok (.ret (.ref (h.objs.size + 1)))) ⟨(h.push { cls := .type "tuple", data := .seq ([] : List Value).toArray }).push
      { cls := .ref C, data := .fields #[.ref h.objs.size, .none, .none, .none, .bool false, .none] }, g, d, t, os⟩) :
    codeAny (model prog w) A (.builtin newId ⟨[.ref C], [(ky, u)]⟩) R ⟨h, g, d, t, os⟩ := by
  have hends := F.ends
  have hcB : (Value.ref C :: bm).contains (.type B) = true := by rw [List.contains_cons, hT, F.hasB, Bool.or_true]
  have hcA : (Value.ref C :: bm).contains (.type "AttributeError") = false := by rw [List.contains_cons, hT, F.noAttr]; rfl
  have hcN : (Value.ref C :: bm).contains (.type "NameError") = false := by rw [List.contains_cons, hT, F.noName]; rfl
  refine codeAny_builtinAt F.entry ?_
  unfold Builtin.«BaseException.__new__»
  refine wpAt_bind ?_
  show wpAt _ _ _ (stack >>= _) _ _ _
  refine wpAt_bind (wpAt_stack fun p below => wpAt_of_wpAny ?_)
  wp_walk
  refine wpAt_of_wpAny ?_
  rw [F.owner]
  repeat (first | with_reducible refine wpAny_madeHere_exc F.canon hC ?_ | with_reducible refine wpAny_loadPart_at hC ?_ | (with_reducible refine wpAny_isSubtype_exc hC ?_; first | rw [hcB] | rw [hcA] | rw [hcN]) | wp_step)
  show R _ _
  rw [Heap.size_push]
  exact hq
theorem type_callK (F : ExcBaseFacts B newId initId bmB) (hT : ∀ X : String, bm.contains (.type X) = bmB.contains (.type X)) {ky : Str} {u : Value} {fI : Addr} {Q : Fin → Shared → Prop}
    (hC : h.get? C = some (excClassObj nm q C N bs bm hdct sn sub ab col dd k0 k1 k2 k3 k5 newId))
    (hi : W.Looks (model prog w) h (typeLookup (.ref C) "__init__") (some (.ref fI))) (hb : ∀ self, W.Looks (model prog w) h (bindSpecial (.ref fI) self) (.ref fI, [self]))
    (hq : codeAny (model prog w) A (.call (.ref fI) ⟨[.ref (h.objs.size + 1)], [(ky, u)]⟩)
      (fun r s' => match r with | .ok (.ret v) => v = .none ∧ Q (.done (.ret (.ref (h.objs.size + 1)))) s' | .ok _ => False | .error e => E e s')
      ⟨(h.push (W.kdv_tup [])).push (excO C h.objs.size), g, d, t, os⟩) :
    wpAny (model prog w) A (Builtin.«type.__call__» ⟨[.ref C], [(ky, u)]⟩) Q E ⟨h, g, d, t, os⟩ := by
  repeat (first | with_reducible refine wpAny_loadPart_at hC ?_ | with_reducible refine wpAny_madeBy_exc hC ?_ | wp_step)
  refine codeAny_call_builtin_code (Code.quiet_builtin _ F.quiet) (check_newK F hT hC ?_)
  refine newK F hT hC ?_
  show wpAny _ _ _ _ _ _
  have k : ∀ b o, h.get? b = some o → ((h.push (W.kdv_tup [])).push (excO C h.objs.size)).get? b = some o := fun b o e => Heap.get?_push_of_some _ (Heap.get?_push_of_some _ e)
  have hC₁ := k _ _ hC
  have hget : ((h.push (W.kdv_tup [])).push (excO C h.objs.size)).get? (h.objs.size + 1) = some (excO C h.objs.size) := by heap_get
  have hcC : (Value.ref C :: bm).contains (.ref C) = true := by simp
  have i1 := hi.keeps k
  have b1 := (hb (.ref (h.objs.size + 1))).keeps k
  unfold isInstance
  repeat (first | with_reducible refine wpAny_loadPart_at hget ?_ | (with_reducible refine wpAny_isSubtype_exc hC₁ ?_; rw [hcC]) | wp_step)
  show wpAny _ _ (typeLookup (.ref C) _) _ _ _
  refine i1.at ?_
  refine wpAny_holding (wpAny_bind (b1.at ?_))
  refine wpAny_bind (wpAny_call (codeAny_mono hq fun r s' z => ?_))
  rcases r with e | (v | _ | _ | _) <;> first | exact z | exact z.elim | skip
  obtain ⟨rfl, z⟩ := z
  first
    | exact wpAny_pure (wpAny_pure z)
    | (wp_walk; exact z)
theorem call_ownK (F : ExcBaseFacts B newId initId bmB) (hT : ∀ X : String, bm.contains (.type X) = bmB.contains (.type X)) {ky : Str} {u : Value} {fI : Addr}
    (hC : h.get? C = some (excClassObj nm q C N bs bm hdct sn sub ab col dd k0 k1 k2 k3 k5 newId))
    (hi : W.Looks (model prog w) h (typeLookup (.ref C) "__init__") (some (.ref fI))) (hb : ∀ self, W.Looks (model prog w) h (bindSpecial (.ref fI) self) (.ref fI, [self]))
    (hq : codeAny (model prog w) (A.under (.builtin "type.__call__" ⟨[.ref C], [(ky, u)]⟩)) (.call (.ref fI) ⟨[.ref (h.objs.size + 1)], [(ky, u)]⟩) (W.InitBack (h.objs.size + 1) R)
      ⟨(h.push (W.kdv_tup [])).push (excO C h.objs.size), g, d, t, os⟩) :
    codeAny (model prog w) A (.call (.ref C) ⟨[], [(ky, u)]⟩) R ⟨h, g, d, t, os⟩ := by
  have f1 := tc_lookup
  have f2 := tc_bind (.ref C)
  have hTy : (⟨h, g, d, t, os⟩ : Shared).TypeIs (.ref C) "type" := ⟨_, hC, rfl⟩
  refine codeAny_of_tree ?_
  show wpAny _ _ (callAny (.ref C) _) _ _ _
  repeat (any_goals (first | assumption | with_reducible refine wpAny_loadPart_at hC ?_ | wp_step))
  refine ⟨rfl, ?_⟩
  refine codeAny_call_builtin_at (Code.quiet_builtin _ (by decide +kernel)) entry_typeCall (wpAny_check_type_call_sub hC (type_callK F hT hC hi hb ?_))
  refine codeAny_mono hq fun r s' z => ?_
  rcases r with e | (v | _ | _ | _) <;> exact z
end
end PySem.HandSPX

namespace Sq
open PySem PySem.Spec PyProof.Rows L2
/-! ## an own exception as a value: C(e), C(value = e) -/
structure OwnX (P : Program) (w : World) (K : PySem.W.Frag) (mg : Str → Option Value) (base : Heap) (k : Nat) (x : Str) (C : Addr) : Prop where
  ex : ∃ (f : Addr) (fd : FuncData), OexC K C ∧ PySem.W.findIn K (.ref C) "__init__" = some (some (.ref f)) ∧ PySem.W.typeIn K (.ref f) = some (.type "function") ∧ FnOk P w K mg base CX0 k f fd ["self", "value"] (spXI C) ∧ mg x = some (.ref C) ∧ L2.Binds K fd ["self", "value"] [] ∧
    ∀ (s : Shared) (u v : Value), BindsTo s fd ⟨[u], [("value", v)]⟩ ((["self", "value"] : List Str).zip [u, v])
def tOex (C : Addr) (te : TE) : TE := fun σ H Q => te σ H fun v H1 => ∀ a d, H1 a = none → H1 d = none → d ≠ a → Q (.ref a) (upd (upd H1 d (exd d [("value", v)])) a (exo a C (some d)))
theorem xi_sp {C a : Addr} {v : V} {H : Hp} {Q : VK} {E : XK} (na : H a = none) (q : ∀ a d, H a = none → H d = none → d ≠ a → Q (.ref a) (upd (upd H d (exd d [("value", v)])) a (exo a C (some d)))) :
    spXI C [.ref a, v] (upd H a (exo a C none)) (fun x H2 => x = .non ∧ Q (.ref a) H2) E := by
  refine ⟨a, v, rfl, upd_same, fun dx nd ne => ⟨rfl, ?_⟩⟩
  rw [upd_ne ne] at nd
  have e : upd (upd (upd H a (exo a C none)) dx (exd dx [("value", v)])) a (exo a C (some dx)) = upd (upd H dx (exd dx [("value", v)])) a (exo a C (some dx)) := by
    funext b
    by_cases h1 : b = a
    · rw [h1, upd_same, upd_same]
    · rw [upd_ne h1, upd_ne h1]
      by_cases h2 : b = dx
      · rw [h2, upd_same, upd_same]
      · rw [upd_ne h2, upd_ne h2, upd_ne h1]
  rw [e]
  exact q a dx na nd ne
section
variable {X : Cx} {k j : Nat} {C : Addr} {x : Str} {p pos : Pos} {e : Expr} {te : TE} {kws : List Keyword} {t : TA}
theorem pe_oex (c : OwnX X.prog X.w X.K X.mg X.base k x C) (hr : Room j X.A) (hk : k + 1 ≤ j) (hg : Gl X x) (ha : PE X e te)
    (hdb : (x == ("__debug__" : Str)) = false := by decide) (he : starEach [e] X.env = (false, eval e X.env) :: starEach [] X.env := by rfl) (hpl : (backTo pos (starEach [] X.env)).any (·.1) = false := by rfl) : PE X (.Call (.Name x p) [e] [] pos) (tOex C te) := by
  obtain ⟨f, fd, T, iC, tI, FO, hm, b, bk⟩ := c.ex
  obtain ⟨nm, q, N, bs, bm, sn, sub, ab, col, dd, k0, k1, k2, k3, k5, hC, hbm⟩ := T.cls
  refine ⟨fun pins s σ H Q I h => wpAny_Call_Name_kw (ld_glob I hg hm ?_ hdb)⟩
  have pa : PA X [e] (tCons (tWk te) tNil) := pa_cons (pe_wk ha) pa_nil he
  refine PySem.W.callWith_K (h₀ := X.base) I.ok.mod.kin T.kC (thn (pa.run pos pins s σ H (fun vs H1 => ∃ v, vs = [v] ∧ ∀ a d, H1 a = none → H1 d = none → d ≠ a → Q (.ref a) (upd (upd H1 d (exd d [("value", v)])) a (exo a C (some d)))) I ⟨_, h, fun v G q => ⟨v, rfl, q⟩⟩) fun us s1 hh => ?_) he hpl
  obtain ⟨vs, H1, I1, r1, v, rfl, q1⟩ := hh
  obtain ⟨u, rfl, ru⟩ := r1.one
  refine ⟨I1.kIn, ?_⟩
  show wpAny _ _ (call (.ref C) [u]) _ _ _
  obtain ⟨hp, g, dr, tk, os⟩ := s1
  have hsz : hp.objs.size ≤ hp.objs.size + 1 := Nat.le_succ _
  have hn : H1 (hp.objs.size + 1) = none := I1.hok.fresh hsz
  have kk : ∀ b o, hp.get? b = some o → ((hp.push (PySem.W.kdv_tup [u])).push (PySem.HandSPX.excO C hp.objs.size)).get? b = some o := fun b o e => Heap.get?_push_of_some _ (Heap.get?_push_of_some _ e)
  have hget : ((hp.push (PySem.W.kdv_tup [u])).push (PySem.HandSPX.excO C hp.objs.size)).get? (hp.objs.size + 1) = some (PySem.HandSPX.excO C hp.objs.size) := by heap_get
  have I2 : Inv X pins σ (upd H1 (hp.objs.size + 1) (exo (hp.objs.size + 1) C none)) ⟨(hp.push (PySem.W.kdv_tup [u])).push (PySem.HandSPX.excO C hp.objs.size), g, dr, tk, os⟩ :=
    I1.laid (t' := tk) (a := hp.objs.size + 1) (o := exo (hp.objs.size + 1) C none) (h' := (hp.push (PySem.W.kdv_tup [u])).push (PySem.HandSPX.excO C hp.objs.size)) kk hsz (exo_ok hget)
  have r2 : Vals [V.ref (hp.objs.size + 1), v] [Value.ref (hp.objs.size + 1), u] := .cons rfl (.cons ru .nil)
  have hq := xi_sp (E := E0) hn q1
  have bb := b _ [Value.ref (hp.objs.size + 1), u] I2.kIn rfl
  refine wpAny_call (PySem.HandSPX.call_own F.excBase_ValueError (fun Y => PySem.HandSPX.refsVE_contains Y bm hbm) (I1.kIn _ _ hC) (PySem.W.looks_findIn I1.kIn iC) (fun self => PySem.W.bind_fn I1.kIn self tI) (lit_len (Nat.le_of_ble_eq_true rfl))
    (codeAny_mono (FO.run _ X.stack _ _ ⟨[Value.ref (hp.objs.size + 1), u], []⟩ [Value.ref (hp.objs.size + 1), u] _ _ E0 ((hr.mono hk).make C [u] []) (I2.env0.make C [u] []) bb r2 hq) fun r s' hq' => ?_))
  cases r with
  | error er => exact False.elim hq'
  | ok fl =>
    cases fl with
    | ret u =>
      obtain ⟨v, H', I3, rv, ev, q3⟩ := I2.after hq'
      subst ev
      exact ⟨rv, ⟨V.ref (hp.objs.size + 1), H', I3, rfl, q3⟩⟩
    | next => exact False.elim hq'
    | brk => exact False.elim hq'
    | cont => exact False.elim hq'
theorem pe_oexK {kpos : Pos} (c : OwnX X.prog X.w X.K X.mg X.base k x C) (hr : Room j X.A) (hk : k + 1 ≤ j) (hg : Gl X x) (ha : PE X e te)
    (hall : (backToKw pos (keywordEach [⟨some "value", e, kpos⟩] X.env)).all (·.1.isSome) = true := by rfl) (hks : (backToKw pos (keywordEach [⟨some "value", e, kpos⟩] X.env)).filterMap (·.1) = (["value"] : List Str) := by rfl) (hdb : (x == ("__debug__" : Str)) = false := by decide)
    (hpl : ((backTo pos (starEach [] X.env)).any (·.1) || (backToKw pos (keywordEach [⟨some "value", e, kpos⟩] X.env)).any (·.1.isNone)) = false := by rfl) : PE X (.Call (.Name x p) [] [⟨some "value", e, kpos⟩] pos) (tOex C te) := by
  obtain ⟨f, fd, T, iC, tI, FO, hm, b, bk⟩ := c.ex
  obtain ⟨nm, q, N, bs, bm, sn, sub, ab, col, dd, k0, k1, k2, k3, k5, hC, hbm⟩ := T.cls
  have pk : PK X [⟨some "value", e, kpos⟩] (tCons (tWk te) tNil) := pk_cons (pe_wk ha) pk_nil
  refine ⟨fun pins s σ H Q I h => wpAny_Call_Name_kw (ld_glob I hg hm (PySem.W.callWith_KW0 (h₀ := X.base) I.ok.mod.kin T.kC hall (thn (pk.run pos pins s σ H (fun vs H1 => ∃ v, vs = [v] ∧ ∀ a d, H1 a = none → H1 d = none → d ≠ a → Q (.ref a) (upd (upd H1 d (exd d [("value", v)])) a (exo a C (some d)))) I ⟨_, h, fun v G q => ⟨v, rfl, q⟩⟩) fun us s1 hh => ?_) hpl) hdb)⟩
  obtain ⟨vs, H1, I1, r1, v, rfl, q1⟩ := hh
  obtain ⟨u, rfl, ru⟩ := r1.one
  refine ⟨I1.kIn, ?_⟩
  rw [hks]
  show wpAny _ _ (call (.ref C) [] [("value", u)]) _ _ _
  obtain ⟨hp, g, dr, tk, os⟩ := s1
  have hsz : hp.objs.size ≤ hp.objs.size + 1 := Nat.le_succ _
  have hn : H1 (hp.objs.size + 1) = none := I1.hok.fresh hsz
  have kk : ∀ b o, hp.get? b = some o → ((hp.push (PySem.W.kdv_tup [])).push (PySem.HandSPX.excO C hp.objs.size)).get? b = some o := fun b o e => Heap.get?_push_of_some _ (Heap.get?_push_of_some _ e)
  have hget : ((hp.push (PySem.W.kdv_tup [])).push (PySem.HandSPX.excO C hp.objs.size)).get? (hp.objs.size + 1) = some (PySem.HandSPX.excO C hp.objs.size) := by heap_get
  have I2 : Inv X pins σ (upd H1 (hp.objs.size + 1) (exo (hp.objs.size + 1) C none)) ⟨(hp.push (PySem.W.kdv_tup [])).push (PySem.HandSPX.excO C hp.objs.size), g, dr, tk, os⟩ :=
    I1.laid (t' := tk) (a := hp.objs.size + 1) (o := exo (hp.objs.size + 1) C none) (h' := (hp.push (PySem.W.kdv_tup [])).push (PySem.HandSPX.excO C hp.objs.size)) kk hsz (exo_ok hget)
  have r2 : Vals [V.ref (hp.objs.size + 1), v] [Value.ref (hp.objs.size + 1), u] := .cons rfl (.cons ru .nil)
  have hq := xi_sp (E := E0) hn q1
  refine wpAny_call (PySem.HandSPX.call_ownK F.excBase_ValueError (fun Y => PySem.HandSPX.refsVE_contains Y bm hbm) (I1.kIn _ _ hC) (PySem.W.looks_findIn I1.kIn iC) (fun self => PySem.W.bind_fn I1.kIn self tI)
    (codeAny_mono (FO.run _ X.stack _ _ ⟨[Value.ref (hp.objs.size + 1)], [("value", u)]⟩ [Value.ref (hp.objs.size + 1), u] _ _ E0 ((hr.mono hk).make C [] [("value", u)]) (I2.env0.make C [] [("value", u)]) (bk _ _ _) r2 hq) fun r s' hq' => ?_))
  cases r with
  | error er => exact False.elim hq'
  | ok fl =>
    cases fl with
    | ret u =>
      obtain ⟨v, H', I3, rv, ev, q3⟩ := I2.after hq'
      subst ev
      exact ⟨rv, ⟨V.ref (hp.objs.size + 1), H', I3, rfl, q3⟩⟩
    | next => exact False.elim hq'
    | brk => exact False.elim hq'
    | cont => exact False.elim hq'
end
theorem kept_own {H : Hp} {a C d : Addr} {v : V} (na : H a = none) (nd : H d = none) (ne : d ≠ a) : Kept (upd (upd H d (exd d [("value", v)])) a (exo a C (some d))) a C [("value", v)] := ⟨d, .inr ⟨upd_same, upd_off ne upd_same⟩⟩
theorem own_mk {P : Program} {w : World} {K : PySem.W.Frag} {h base : Heap} {mg : Str → Option Value} {x : Str} {C f cc cda N : Addr} {nm q qual m file : Str} {bs bm sub : List Value} {sn : List Str} {ab : Bool} {col : Option Bool} {dd cld cdd od an : Option Addr} {k0 k1 k2 k3 k5 : Option Value}
    {cl ccl oc kV doc pm ct : Value} {csl ccs osl : Array (Option Value)} {cvs : Array Value} {tf : Tok} {p0 p1 p2 p3 p4 p5 p6 p7 p8 p9 q0 q1 : Pos} (X : K.In h) (G : h.Ns mainGlobals mg) (hm : mg x = some (.ref C))
    (lC : K.lookup C = some (excClassObj nm q C N bs bm true sn sub ab col dd k0 k1 k2 k3 k5 "ValueError.__new__")) (rC : PySem.HandSPX.refsVE bm = true) (sa : PySem.W.findIn K (.ref C) "__setattr__" = some (some (.builtin "object.__setattr__")))
    (ex : PySem.W.subIn K (.ref C) (.type "BaseException") = some true) (ty : PySem.W.typeIn K (.ref C) = some (.type "type")) (kc : PySem.W.keepIn K (.ref C) = true)
    (ini : PySem.W.findIn K (.ref C) "__init__" = some (some (.ref f))) (tyf : PySem.W.typeIn K (.ref f) = some (.type "function"))
    (l : K.lookup f = some ⟨oc, od, .func (PySem.W.ksFn "__init__" qual (xiArgs q0 q1) (xiBody m p0 p1 p2 p3 p4 p5 p6 p7 p8 p9) xiScope .none kV doc pm an (.ref cda) ct cc), osl⟩)
    (co : PySem.W.codeIn K (.ref cda) qual = true) (cell : K.lookup cc = some ⟨cl, cld, .cell (some (.ref C)), csl⟩) (rec_ : K.lookup cda = some ⟨ccl, cdd, .fields cvs, ccs⟩) (v2 : cvs[2]? = some (.str file tf)) (fl : ((P.main.file : Str) == file) = true)
    (top : (P.main.scope.names.lookup ("super" : Str)).isSome = false) (opq : PySem.W.nsIn K PySem.cStatics "thirdparty.any" = some none) (sup : PySem.W.ks_superIn K C C "__init__" = some (some (.builtin "ValueError.__init__"))) (veb : PySem.W.subIn K (.ref C) (.type "ValueError") = some true)
    (slf : PySem.W.mroIn K C (.ref C) = some true) (val : PySem.W.findIn K (.ref C) "value" = some none) (ms : PySem.W.nsIn K mainGlobals "super" = some none) (he : XiCall qual f cc cda m p0 p1 p2 p3 p4)
    (hb : ∀ us : List Value, us.length = 2 → bindArgs (PySem.W.ksFn "__init__" qual (xiArgs q0 q1) (xiBody m p0 p1 p2 p3 p4 p5 p6 p7 p8 p9) xiScope .none kV doc pm an (.ref cda) ct cc) ⟨us, []⟩ = pure ((["self", "value"] : List Str).zip us))
    (hbk : ∀ u v : Value, bindArgs (PySem.W.ksFn "__init__" qual (xiArgs q0 q1) (xiBody m p0 p1 p2 p3 p4 p5 p6 p7 p8 p9) xiScope .none kV doc pm an (.ref cda) ct cc) ⟨[u], [("value", v)]⟩ = pure ((["self", "value"] : List Str).zip [u, v])) : OwnX P w K mg base 1 x C :=
  ⟨f, _, ⟨⟨nm, q, N, bs, bm, sn, sub, ab, col, dd, k0, k1, k2, k3, k5, lC, rC⟩, sa, ex, ty, kc⟩, ini, tyf,
    ok_xi ⟨⟨nm, q, N, bs, bm, sn, sub, ab, col, dd, k0, k1, k2, k3, k5, lC, rC⟩, sa, ex, ty, kc⟩ ⟨co, ⟨cl, cld, csl, cell⟩, ⟨ccl, cdd, cvs, ccs, tf, rec_, v2⟩, fl, top, opq, sup, veb, slf, val⟩ l (PySem.W.mg_none_of X G ms) he, hm, L2.Binds.all hb, fun _ u v => .of_eq (hbk u v)⟩
/-! ## repr of any plain value -/
@[irreducible] def rReprV (K : PySem.W.Frag) : List V → Hp → VK → Prop := fun xs H Q => ∃ (x : V) (d : PyData), xs = [x] ∧ Dp K H x d ∧ d.showable = true ∧ d.hasDict = false ∧ d.depth ≤ 30 ∧ d.shown.length ≤ sizeLine ∧ Q (.str d.shown) H
theorem call_reprVK {X : Cx} {K : PySem.W.Frag} (hG : X.A.guards = some []) (hu : X.A.units + 64 < cLine) (h : X.K = K := by rfl) : CallR X (.builtin "repr") (rReprV K) := by
  subst h
  intro pins s σ H xs us Q I r h
  unfold rReprV at h
  obtain ⟨x, d, rfl, hd, hs, hn, hdp, hz, q⟩ := h
  obtain ⟨v, rfl, rv⟩ := vals1 r
  have ref : ∀ a : Addr, x = .ref a → wpAny (model X.prog X.w) X.A (call (.builtin "repr") [v]) (EP X pins σ Q) X.xe s := fun a e => by
    subst e
    cases rv
    obtain ⟨as, rd⟩ := Dp.reads I d _ _ hd rfl
    refine repr_of_reads' rd hs (PyData.noDict_hsm hn) hG (by omega) (fun b o e => e) (fun h' t tk hk => ?_) hz
    exact ⟨.str d.shown, H, I.kept hk, ⟨_, rfl⟩, q⟩
  cases hd with
  | non =>
    cases rv
    simp only [PyData.shown] at q
    exact PySem.P.repr_of_none ⟨.str _, H, I.tok _, ⟨_, rfl⟩, q⟩
  | bl b =>
    cases rv
    simp only [PyData.shown] at q
    exact PySem.P.repr_of_bool ⟨.str _, H, I.tok _, ⟨_, rfl⟩, q⟩
  | int i =>
    obtain ⟨t, rfl⟩ := rv
    simp only [PyData.shown] at q
    exact PySem.P.repr_of_int (by simpa [PyData.showable] using hs) ⟨.str _, H, I.tok _, ⟨_, rfl⟩, q⟩
  | str a =>
    obtain ⟨t, rfl⟩ := rv
    simp only [PyData.shown] at q hz
    exact PySem.P.repr_of_str ⟨.str _, H, I.tok _, ⟨_, rfl⟩, q⟩ hz
  | lst h1 h2 => exact ref _ rfl
  | tup h1 h2 => exact ref _ rfl
theorem rReprV_of {K : PySem.W.Frag} {H : Hp} {x : V} {d : PyData} {Q : VK} (hd : Dp K H x d) (h1 : d.showable = true) (h2 : d.hasDict = false) (h3 : d.depth ≤ 30) (h4 : d.shown.length ≤ sizeLine) (q : Q (.str d.shown) H) : rReprV K [x] H Q := by
  unfold rReprV
  exact ⟨x, d, rfl, hd, h1, h2, h3, h4, q⟩
/-! ## text * number -/
def rRepS : R2 := fun x y H Q => ∃ (a : Str) (n : Int), x = .str a ∧ y = .int n ∧ MulOk a n ∧ Q (.str (Txt.mul a n)) H
theorem op_rep_str {X : Cx} : OpR X (binaryOp .Mult) rRepS := by
  intro pins s σ H x y v u Q I r1 r2 h
  obtain ⟨a, n, rfl, rfl, hm, q⟩ := h
  obtain ⟨t, rfl⟩ := r1
  obtain ⟨t', rfl⟩ := r2
  exact SB.mul hm fun t2 k => ⟨.str _, H, I.tok _, ⟨_, rfl⟩, q⟩
/-- a list of ints shown -/
theorem r_reprVI {K : PySem.W.Frag} {H : Hp} {a : Addr} {ns : List Int} {Q : VK} (h1 : SqL K H a (iv ns)) (hl : ns.length ≤ 5000) (hz : ∀ n ∈ ns, n.natAbs.log2 < 1920) (q : Q (.str (dI ns).shown) H) : rReprV K [.ref a] H Q := by
  refine rReprV_of (dp_iv h1) ?_ ?_ ?_ ?_ q
  · simp only [dI, PyData.showable]
    exact show_ints ns hz
  · simp only [dI, PyData.hasDict]
    exact nod_ints ns
  · simp only [dI, PyData.depth, dep_ints]
    decide
  · obtain ⟨e1, e2⟩ := shown_ints_len ns hz
    have e3 := listText_len_le (PyData.shownAll (ns.map .int))
    simp only [dI, PyData.shown]
    rw [sizeLine_eq]
    omega
theorem short_of {d : PyData} (h1 : d.leavesShort 2000 = true) (h2 : d.bulk ≤ 8000) : d.shown.length ≤ sizeLine := by
  have := PyData.shown_le_bulk 2000 (by decide) d h1
  have : (2000 + 2) * d.bulk ≤ (2000 + 2) * 8000 := Nat.mul_le_mul_left _ h2
  rw [sizeLine_eq]
  omega
/-- two texts -/
def dT2 (a b : List Nat) : PyData := .list [.str (SX.S a), .str (SX.S b)]
theorem short_str {a : List Nat} (h : ∀ c ∈ a, c < 16 ^ 8) : (PyData.str (SX.S a)).leavesShort 2000 = true := by
  simp only [PyData.leavesShort, List.all_eq_true, decide_eq_true_eq]
  exact h
theorem r_reprT2 {K : PySem.W.Frag} {H : Hp} {p : Addr} {a b : List Nat} {Q : VK} (h1 : H p = some (.lst [.str (SX.S a), .str (SX.S b)])) (ha : ∀ c ∈ a, c < 16 ^ 8) (hb : ∀ c ∈ b, c < 16 ^ 8) (la : a.length ≤ 3000) (lb : b.length ≤ 3000) (q : Q (.str (dT2 a b).shown) H) : rReprV K [.ref p] H Q := by
  refine rReprV_of (.lst (seqL_of h1) (.cons (.str _) (.cons (.str _) .nil))) ?_ ?_ ?_ ?_ q
  · simp [PyData.showable, PyData.showableAll]
  · simp [PyData.hasDict, PyData.hasDictAll]
  · simp [PyData.depth, PyData.depthAll]
  · refine short_of ?_ ?_
    · simp only [PyData.leavesShort, PyData.leavesShortAll, Bool.and_true, Bool.and_eq_true]
      exact ⟨by simpa [PyData.leavesShort] using short_str ha, by simpa [PyData.leavesShort] using short_str hb⟩
    · simp only [PyData.bulk, PyData.bulkAll]
      have e1 : a.toArray.size = a.length := SX.S_len a
      have e2 : b.toArray.size = b.length := SX.S_len b
      omega
end Sq


set_option Elab.async false
set_option maxRecDepth 100000
set_option maxHeartbeats 4000000
namespace Sq
open PySem PySem.Spec L2
/-! ### values that are shown by repr, their size bounded -/
structure DOk (k b : Nat) (d : PyData) : Prop where
  sh : d.showable = true
  nd : d.hasDict = false
  dp : d.depth ≤ k
  ls : d.leavesShort 2000 = true
  bk : d.bulk ≤ b
theorem DOk.mono {k b k' b' : Nat} {d : PyData} (h : DOk k b d) (hk : k ≤ k') (hb : b ≤ b') : DOk k' b' d := ⟨h.sh, h.nd, Nat.le_trans h.dp hk, h.ls, Nat.le_trans h.bk hb⟩
theorem dok_non : DOk 0 0 .none := ⟨by simp [PyData.showable], by simp [PyData.hasDict], by simp [PyData.depth], by simp [PyData.leavesShort], by simp [PyData.bulk]⟩
theorem dok_bl (b : Bool) : DOk 0 0 (.bool b) := ⟨by simp [PyData.showable], by simp [PyData.hasDict], by simp [PyData.depth], by simp [PyData.leavesShort], by simp [PyData.bulk]⟩
theorem dok_int {i : Int} (h : i.natAbs.log2 < 1920) : DOk 0 0 (.int i) := ⟨by simpa [PyData.showable] using h, by simp [PyData.hasDict], by simp [PyData.depth], by
  have e := int_text_length_le (k := 1920) (by decide) h
  have z : (PyData.shown (.int i)).length ≤ 2000 := by
    show (Str.ofString (toString i)).length ≤ 2000
    rw [PySem.ofString_length]
    omega
  simpa [PyData.leavesShort] using z, by simp [PyData.bulk]⟩
theorem dok_str {x : Str} {b : Nat} (h1 : (PyData.str x).leavesShort 2000 = true) (h2 : x.cps.size ≤ b) : DOk 0 b (.str x) := ⟨by simp [PyData.showable], by simp [PyData.hasDict], by simp [PyData.depth], h1, by simpa [PyData.bulk] using h2⟩
theorem dok_strS {a : List Nat} {b : Nat} (h : ∀ c ∈ a, c < 16 ^ 8) (l : a.length ≤ b) : DOk 0 b (.str (SX.S a)) := dok_str (short_str h) (by simpa [SX.S] using l)
theorem dok_all {k b : Nat} : ∀ {ds : List PyData}, (∀ d ∈ ds, DOk k b d) → PyData.showableAll ds = true ∧ PyData.hasDictAll ds = false ∧ PyData.depthAll ds ≤ k ∧ PyData.leavesShortAll 2000 ds = true ∧ PyData.bulkAll ds ≤ ds.length * (b + 1)
  | [], _ => by simp [PyData.showableAll, PyData.hasDictAll, PyData.depthAll, PyData.leavesShortAll, PyData.bulkAll]
  | d :: r, h => by
    obtain ⟨a1, a2, a3, a4, a5⟩ := dok_all (ds := r) fun x hx => h x (List.mem_cons_of_mem _ hx)
    obtain ⟨b1, b2, b3, b4, b5⟩ := h d (List.mem_cons_self ..)
    refine ⟨by simp [PyData.showableAll, a1, b1], by simp [PyData.hasDictAll, a2, b2], ?_, by simp [PyData.leavesShortAll, a4, b4], ?_⟩
    · simp only [PyData.depthAll]
      omega
    · simp only [PyData.bulkAll, List.length_cons, Nat.add_mul]
      omega
theorem dok_list {k b m : Nat} {ds : List PyData} (h : ∀ d ∈ ds, DOk k b d) (hm : ds.length * (b + 1) ≤ m) : DOk (k + 1) m (.list ds) := by
  obtain ⟨a1, a2, a3, a4, a5⟩ := dok_all h
  exact ⟨by simpa [PyData.showable] using a1, by simpa [PyData.hasDict] using a2, by simpa [PyData.depth] using a3, by simpa [PyData.leavesShort] using a4, Nat.le_trans (by simpa [PyData.bulk] using a5) hm⟩
theorem dok_tup {k b m : Nat} {ds : List PyData} (h : ∀ d ∈ ds, DOk k b d) (hm : ds.length * (b + 1) ≤ m) : DOk (k + 1) m (.tuple ds) := by
  obtain ⟨a1, a2, a3, a4, a5⟩ := dok_all h
  exact ⟨by simpa [PyData.showable] using a1, by simpa [PyData.hasDict] using a2, by simpa [PyData.depth] using a3, by simpa [PyData.leavesShort] using a4, Nat.le_trans (by simpa [PyData.bulk] using a5) hm⟩
theorem dok_dI {ns : List Int} {m : Nat} (h : ∀ n ∈ ns, n.natAbs.log2 < 1920) (hm : ns.length ≤ m) : DOk 1 m (dI ns) := by
  refine dok_list (k := 0) (b := 0) (fun d hd => ?_) (by simpa using hm)
  obtain ⟨n, hn, rfl⟩ := List.mem_map.mp hd
  exact dok_int (h n hn)
theorem rRepr_ok {K : PySem.W.Frag} {H : Hp} {x : V} {d : PyData} {k b : Nat} {Q : VK} (h : DOk k b d) (hd : Dp K H x d) (hk : k ≤ 30) (hb : b ≤ 8000) (q : Q (.str d.shown) H) : rReprV K [x] H Q :=
  rReprV_of hd h.sh h.nd (Nat.le_trans h.dp hk) (short_of h.ls (Nat.le_trans h.bk hb)) q
theorem dpall_app {K : PySem.W.Frag} {H : Hp} {x : V} {d : PyData} : ∀ {xs : List V} {ds : List PyData}, DpAll K H xs ds → Dp K H x d → DpAll K H (xs ++ [x]) (ds ++ [d])
  | [], _, h, hx => by
    cases h
    exact .cons hx .nil
  | _ :: _, _, h, hx => by
    cases h with
    | cons a b => exact .cons a (dpall_app b hx)
theorem dpall_rep {K : PySem.W.Frag} {H : Hp} {x : V} {d : PyData} (hx : Dp K H x d) : ∀ n : Nat, DpAll K H (List.replicate n x) (List.replicate n d)
  | 0 => .nil
  | n + 1 => .cons hx (dpall_rep hx n)
theorem dpall_cat {K : PySem.W.Frag} {H : Hp} : ∀ {xs ys : List V} {ds es : List PyData}, DpAll K H xs ds → DpAll K H ys es → DpAll K H (xs ++ ys) (ds ++ es)
  | [], _, _, _, h, g => by
    cases h
    exact g
  | _ :: _, _, _, _, h, g => by
    cases h with
    | cons a b => exact .cons a (dpall_cat b g)
theorem kit_list {K : PySem.W.Frag} : PySem.W.kitOne K (.type "list") (.type "str") = some false := rfl
theorem kit_tup {K : PySem.W.Frag} : PySem.W.kitOne K (.type "tuple") (.type "str") = some false := rfl
theorem kit_int {K : PySem.W.Frag} : PySem.W.kitOne K (.type "int") (.type "str") = some false := rfl
theorem kit_bl {K : PySem.W.Frag} : PySem.W.kitOne K (.type "bool") (.type "str") = some false := rfl
theorem kit_non {K : PySem.W.Frag} : PySem.W.kitOne K (.type "NoneType") (.type "str") = some false := rfl
end Sq


set_option Elab.async false
set_option maxRecDepth 100000
set_option maxHeartbeats 4000000
namespace Sq
open PySem PySem.Spec PyProof.Rows L2
/-! ## isinstance of a kept exception, with a tuple of classes -/
def rIsXT (K : PySem.W.Frag) : List V → Hp → VK → Prop := fun xs H Q => ∃ (a C : Addr) (fs : List (Str × V)) (tp : Addr) (cs : List V) (ws : List Value) (b : Bool), xs = [.ref a, .ref tp] ∧ Kept H a C fs ∧ ExcC K C ∧ H tp = some (.tup cs) ∧ Paired ClsV cs ws ∧ PySem.W.kitAny K (.ref C) ws = some b ∧ Q (.bl b) H
theorem call_isXT {X : Cx} {K : PySem.W.Frag} (h : X.K = K := by rfl) : CallR X (.builtin "isinstance") (rIsXT K) := by
  subst h
  intro pins s σ H xs us Q I r h
  obtain ⟨a, C, fs, tp, cs, ws, b, rfl, k, EC, hT, hc, e, q⟩ := h
  obtain ⟨oe, od, d, mA, J, _⟩ := kept_at I k
  obtain ⟨u0, u1, rfl, r0, r1⟩ := vals2 r
  obtain rfl : u0 = Value.ref a := r0
  obtain rfl : u1 = Value.ref tp := r1
  obtain ⟨_, its, rv, o, h1, h2, n, h3⟩ := (show ObjOk X.prog X.w H s.heap tp (.tup cs) from I.hok tp _ hT)
  have e3 := ClsV.all hc rv
  subst e3
  obtain ⟨oc, od2, dt, sl⟩ := o
  simp only at h2 h3
  subst h2 h3
  obtain ⟨cd, hcd, _⟩ := PySem.W.any_some EC.hd
  exact PySem.W.kia_tup (PySem.W.kitx_exc (by rw [hcd]; rfl) EC.hg EC.hk EC.hs EC.ha EC.hn EC.ht EC.hm) I.kIn J h1 e (fun z => nomatch z) fun tk => ⟨.bl b, H, I.kept (t' := tk) fun _ _ z => z, rfl, q⟩
/-! ## a def that may raise, called by place and by keywords -/
structure Def2X (P : Program) (w : World) (K : PySem.W.Frag) (mg : Str → Option Value) (base : Heap) (k : Nat) (x : Str) (st : Stmt) (ps : List Str) (sp : Sp) : Prop where
  ex : ∃ (f : Addr) (fd : FuncData), Fun K x x st f fd ∧ mg x = some (.ref f) ∧ Binds K fd ps [] ∧ FnOk P w K mg base (L2.CX P w) k f fd ps sp
section
variable {P : Program} {w : World} {K : PySem.W.Frag} {mg : Str → Option Value} {base : Heap} {x : Str} {st : Stmt} {ps N : List Str} {k : Nat} {sp sp' : Sp}
theorem DefAt.twoX (D : DefAt K mg x st ps) (S : FnScope N ps (defScope st)) (len : ∀ vs H Q E, sp vs H Q E → vs.length = ps.length)
    (hb : ∀ (f : Addr) (cdv : Value) (A : Around) (outer : List Env) (s : Shared) (H : Hp) (vs : List V) (Q : VK) (E : XK), Room k (A.deeper (envOfC x (defScope st) s.heap.objs.size f cdv)) → sp vs H Q E →
      (Takes (cxOf (L2.CX P w) P w K mg base N x (defScope st) f cdv A outer s H E) fun cls d _ G => E cls d G) →
      ∃ t, PSs (cxOf (L2.CX P w) P w K mg base N x (defScope st) f cdv A outer s H E) (defBody st) t ∧ t { nx := fun _ H' => Q .non H', rt := Q } (start N vs) H) : Def2X P w K mg base (k + 1) x st ps sp := by
  obtain ⟨f, fd, F, hm, b⟩ := D.ex
  exact ⟨f, fd, F, hm, b, F.okX S len fun cdv A outer s H vs Q E hr hsp => hb f cdv A outer s H vs Q E hr hsp (takes_of rfl rfl rfl rfl)⟩
theorem Def2X.calX (D : Def2X P w K mg base k x st ps sp) : CalX P w K mg base k x sp := by
  obtain ⟨f, fd, F, hm, b, ok⟩ := D.ex
  exact ⟨f, fd, ps, ok, hm, F.kp, b⟩
theorem Def2X.calm (D : Def2X P w K mg base k x st ps sp) (h : ∀ vs H Q E, sp' vs H Q E → sp vs H Q E0) : Def2 P w K mg base k x st ps sp' := by
  obtain ⟨f, fd, F, hm, b, ok⟩ := D.ex
  exact ⟨f, fd, F, hm, b, fn_calm ok h⟩
end
end Sq


set_option Elab.async false
set_option maxRecDepth 100000
set_option maxHeartbeats 4000000
namespace Sq
open PySem PySem.Spec PyProof.Rows L2
/-! ## a stop behind a statement: its ways meet there, the rest is shown once -/
@[irreducible] def tCut (a b : TS) : TS := tSeq a b
theorem pss_cut {X : Cx} {st : Stmt} {rest : List Stmt} {a b : TS} (h1 : PS X st a) (h2 : PSs X rest b) : PSs X (st :: rest) (tCut a b) := by
  unfold tCut
  exact pss_cons h1 h2
theorem cut_at {a b : TS} {D : Ends} {σ : L2.St} {H : Hp} (P : L2.St → Hp → Prop) (h1 : ∀ N : L2.St → Hp → Prop, (∀ σ' H', P σ' H' → N σ' H') → a { D with nx := N } σ H) (h2 : ∀ σ' H', P σ' H' → b D σ' H') : tCut a b D σ H := by
  unfold tCut
  exact h1 _ h2
end Sq


set_option Elab.async false
set_option maxRecDepth 100000
set_option maxHeartbeats 4000000
/-! what is raised where nothing is handled: its context is None, and that is remembered -/
namespace Sq
open PySem PySem.Spec PyProof.Rows L2
section
variable {X : Cx} {p pos : Pos} {e : Expr} {es : List Expr} {ta : TA}
/-- C(e, ..), its context known -/
theorem pmk_oexN {x : Str} {C fi : Addr} {k : Nat} {fd : FuncData} {ps : List Str} {sp : Sp} (T : OexC X.K C) (ini : PySem.W.findIn X.K (.ref C) "__init__" = some (some (.ref fi))) (tyi : PySem.W.typeIn X.K (.ref fi) = some (.type "function"))
    (F : FnOk X.prog X.w X.K X.mg X.base CX0 k fi fd ps sp) (room : Room (k + 1) X.A) (bd : L2.Binds X.K fd ps []) (hg : Gl X x) (hm : X.mg x = some (.ref C)) (ha : PA X (e :: es) ta)
    (hdb : (x == ("__debug__" : Str)) = false := by decide) (he : starEach (e :: es) X.env = (false, eval e X.env) :: starEach es X.env := by rfl) (hpl : (backTo pos (starEach es X.env)).any (·.1) = false := by rfl) :
    L2N.PMk X (.Call (.Name x p) (e :: es) [] pos) (tMkO C sp [] ta) := by
  intro pins s σ H Q I h
  obtain ⟨nm, q, N, bs, bm, sn, sub, ab, col, dd, c0, c1, c2, c3, c5, look, refs⟩ := T.cls
  refine wpAny_Call_Name_kw (ld_glob I hg hm (PySem.W.callWith_K (h₀ := X.base) I.ok.mod.kin T.kC (thn (ha.run pos pins s σ H _ I h) fun us s1 got => ?_) he hpl) hdb)
  obtain ⟨vs, H1, I1, rv, len, go⟩ := got
  refine ⟨I1.kIn, show wpAny _ _ (call (.ref C) us) _ _ _ from ?_⟩
  obtain ⟨h1, g1, d1, t1, o1⟩ := s1
  have big : h1.objs.size ≤ h1.objs.size + 1 := Nat.le_succ _
  have sp1 := go _ (I1.hok.fresh big)
  rw [List.append_nil] at sp1
  have old : ∀ b o, h1.get? b = some o → ((h1.push (PySem.W.kdv_tup us)).push (PySem.HandSPX.excO C h1.objs.size)).get? b = some o := fun b o z => Heap.get?_push_of_some _ (Heap.get?_push_of_some _ z)
  have new : ((h1.push (PySem.W.kdv_tup us)).push (PySem.HandSPX.excO C h1.objs.size)).get? (h1.objs.size + 1) = some (PySem.HandSPX.excO C h1.objs.size) := by heap_get
  have I2 : Inv X pins σ (upd H1 (h1.objs.size + 1) (exo (h1.objs.size + 1) C none)) ⟨(h1.push (PySem.W.kdv_tup us)).push (PySem.HandSPX.excO C h1.objs.size), g1, d1, t1, o1⟩ :=
    I1.laid (t' := t1) (a := h1.objs.size + 1) (o := exo (h1.objs.size + 1) C none) (h' := (h1.push (PySem.W.kdv_tup us)).push (PySem.HandSPX.excO C h1.objs.size)) old big (exo_ok new)
  have rv2 : Vals (V.ref (h1.objs.size + 1) :: vs) (Value.ref (h1.objs.size + 1) :: us) := .cons rfl rv
  have ln : (Value.ref (h1.objs.size + 1) :: us).length = ps.length := rv2.length.symm.trans (F.len _ _ _ _ sp1)
  have lus : us.length ≤ sizeLine := by
    rw [← Paired.length rv, sizeLine_eq]
    omega
  have bd2 := bd _ (Value.ref (h1.objs.size + 1) :: us) I2.kIn (by rw [List.append_nil]; exact ln)
  rw [List.append_nil] at bd2
  refine wpAny_call (PySem.HandSPX.call_own PySem.F.excBase_ValueError (fun Y => PySem.HandSPX.refsVE_contains Y bm refs) (I1.kIn _ _ look) (PySem.W.looks_findIn I1.kIn ini) (fun self => PySem.W.bind_fn I1.kIn self tyi) lus
    (codeAny_mono (F.run _ X.stack _ _ ⟨Value.ref (h1.objs.size + 1) :: us, []⟩ _ _ _ E0 (room.make C us []) (I2.env0.make C us []) bd2 rv2 sp1) fun r s2 out => ?_))
  cases r with
  | error er => exact out.elim
  | ok fl =>
    cases fl with
    | ret u =>
      obtain ⟨v, H2, os2, bare2, un2, hok2, ru, ev, d, fs, ea, ed, nd, fin⟩ := out
      subst ev
      obtain ⟨h2, g2, d2, t2, o2⟩ := s2
      obtain ⟨t0, G, J, kG, ge, at_, na⟩ := mk_end0 (d2 := d2) (t2 := t2) I1 big old un2 hok2 os2 bare2 ea ed nd
      refine ⟨ru, h1.objs.size + 1, _, _, ⟨G, g2, d2, t2, o2⟩, _, .ref C, some d, rfl, J, kG, ge, at_, ⟨rfl, rfl, fun ws z => ?_⟩, rfl, rfl, na, rfl, bare2, raises_own T.exC T.tyC, fin⟩
      cases z
      rfl
    | next => exact out.elim
    | brk => exact out.elim
    | cont => exact out.elim
end
section
variable {X : Cx} {W : WX} {k j : Nat} {C : Addr} {x : Str} {p pos pos2 : Pos} {e : Expr} {te : TE}
theorem ps_rxN (c : Rai X.prog X.w X.K X.mg X.base k x C) (hr : Room j X.A) (hk : k + 1 ≤ j) (hg : Gl X x) (tk : L2N.Takes X W) (ha : PE X e te) (hc : X.calm = true := by rfl)
    (hdb : (x == ("__debug__" : Str)) = false := by decide) (he : starEach [e] X.env = (false, eval e X.env) :: starEach [] X.env := by rfl) (hpl : (backTo pos (starEach [] X.env)).any (·.1) = false := by rfl) : PS X (.Raise (some (.Call (.Name x p) [e] [] pos)) none pos2) (tRx W C te) := by
  obtain ⟨f, fd, T, iC, tI, F, hm, b⟩ := c.ex
  have r := L2N.ps_raise (pos := pos2) hc tk (pmk_oexN (pos := pos) (p := p) T iC tI F (hr.mono hk) b hg hm (pa_cons (pe_wk ha) pa_nil he) hdb he hpl)
  refine ⟨fun pins s σ H D I h => r.run pins s σ H D I ⟨_, h, fun v G q => ⟨Nat.le_of_ble_eq_true rfl, fun a na => ⟨a, v, rfl, upd_same, fun dx nd ne => ?_⟩⟩⟩⟩
  rw [upd_ne ne] at nd
  refine ⟨rfl, dx, _, upd_same, by rw [upd_ne ne, upd_same], nd, ?_⟩
  rw [heap_rx na ne]
  exact q dx nd
end
/-! ## defs that may raise -/
structure CalXN (P : Program) (w : World) (K : PySem.W.Frag) (mg : Str → Option Value) (base : Heap) (k : Nat) (x : Str) (sp : Sp) : Prop where
  ex : ∃ (f : Addr) (fd : FuncData) (ps : List Str), FnOk P w K mg base (L2N.CX P w) k f fd ps sp ∧ mg x = some (.ref f) ∧ PySem.W.keepIn K (.ref f) = true ∧ L2.Binds K fd ps []
structure Def2XN (P : Program) (w : World) (K : PySem.W.Frag) (mg : Str → Option Value) (base : Heap) (k : Nat) (x : Str) (st : Stmt) (ps : List Str) (sp : Sp) : Prop where
  ex : ∃ (f : Addr) (fd : FuncData), Fun K x x st f fd ∧ mg x = some (.ref f) ∧ Binds K fd ps [] ∧ FnOk P w K mg base (L2N.CX P w) k f fd ps sp
section
variable {P : Program} {w : World} {K : PySem.W.Frag} {mg : Str → Option Value} {base : Heap} {x qual : Str} {st : Stmt} {ps N : List Str} {k : Nat} {sp sp' : Sp}
theorem okXN {f : Addr} {fd : FuncData} (F : Fun K x qual st f fd) (S : FnScope N ps (defScope st)) (len : ∀ vs H Q E, sp vs H Q E → vs.length = ps.length)
    (hb : ∀ (cdv : Value) (A : Around) (outer : List Env) (s : Shared) (H : Hp) (vs : List V) (Q : VK) (E : XK), Room k (A.deeper (envOfC qual (defScope st) s.heap.objs.size f cdv)) → sp vs H Q E → (L2N.Takes (cxOf (L2N.CX P w) P w K mg base N qual (defScope st) f cdv A outer s H E) fun cls d _ G => E cls d G) →
      ∃ t, PSs (cxOf (L2N.CX P w) P w K mg base N qual (defScope st) f cdv A outer s H E) (defBody st) t ∧ t { nx := fun _ H' => Q .non H', rt := Q } (start N vs) H) : FnOk P w K mg base (L2N.CX P w) (k + 1) f fd ps sp := by
  obtain ⟨oc, od, kV, doc, pm, an, cdv, ct, osl, rfl, lk, hcd⟩ := F.ex
  exact fn_of lk hcd S len fun A outer s H vs Q E hr hsp => hb cdv A outer s H vs Q E hr hsp (L2N.takes_of rfl rfl rfl rfl)
theorem DefAt.calXN (D : DefAt K mg x st ps) (S : FnScope N ps (defScope st)) (len : ∀ vs H Q E, sp vs H Q E → vs.length = ps.length)
    (hb : ∀ (f : Addr) (cdv : Value) (A : Around) (outer : List Env) (s : Shared) (H : Hp) (vs : List V) (Q : VK) (E : XK), Room k (A.deeper (envOfC x (defScope st) s.heap.objs.size f cdv)) → sp vs H Q E →
      (L2N.Takes (cxOf (L2N.CX P w) P w K mg base N x (defScope st) f cdv A outer s H E) fun cls d _ G => E cls d G) →
      ∃ t, PSs (cxOf (L2N.CX P w) P w K mg base N x (defScope st) f cdv A outer s H E) (defBody st) t ∧ t { nx := fun _ H' => Q .non H', rt := Q } (start N vs) H) : CalXN P w K mg base (k + 1) x sp := by
  obtain ⟨f, fd, F, hm, b⟩ := D.ex
  exact ⟨f, fd, ps, okXN F S len fun cdv => hb f cdv, hm, F.kp, b⟩
theorem DefAt.twoXN (D : DefAt K mg x st ps) (S : FnScope N ps (defScope st)) (len : ∀ vs H Q E, sp vs H Q E → vs.length = ps.length)
    (hb : ∀ (f : Addr) (cdv : Value) (A : Around) (outer : List Env) (s : Shared) (H : Hp) (vs : List V) (Q : VK) (E : XK), Room k (A.deeper (envOfC x (defScope st) s.heap.objs.size f cdv)) → sp vs H Q E →
      (L2N.Takes (cxOf (L2N.CX P w) P w K mg base N x (defScope st) f cdv A outer s H E) fun cls d _ G => E cls d G) →
      ∃ t, PSs (cxOf (L2N.CX P w) P w K mg base N x (defScope st) f cdv A outer s H E) (defBody st) t ∧ t { nx := fun _ H' => Q .non H', rt := Q } (start N vs) H) : Def2XN P w K mg base (k + 1) x st ps sp := by
  obtain ⟨f, fd, F, hm, b⟩ := D.ex
  exact ⟨f, fd, F, hm, b, okXN F S len fun cdv => hb f cdv⟩
theorem Def2XN.calXN (D : Def2XN P w K mg base k x st ps sp) : CalXN P w K mg base k x sp := by
  obtain ⟨f, fd, F, hm, b, ok⟩ := D.ex
  exact ⟨f, fd, ps, ok, hm, F.kp, b⟩
theorem fn_calmN {f : Addr} {fd : FuncData} (F : FnOk P w K mg base (L2N.CX P w) k f fd ps sp) (h : ∀ vs H Q E, sp' vs H Q E → sp vs H Q E0) : FnOk P w K mg base CX0 k f fd ps sp' := by
  refine ⟨fun vs H Q E q => F.len _ _ _ _ (h _ _ _ _ q), fun A outer s H args us vs Q E hr e0 b r q => codeAny_mono (F.run A outer s H args us vs Q E0 hr e0 b r (h _ _ _ _ q)) fun res s' z => ?_⟩
  cases res with
  | ok fl => cases fl <;> exact z
  | error e =>
    obtain ⟨_, _, _, _, _, _, _, _, _, _, _, _, no⟩ := z
    exact no.elim
theorem CalXN.calm (c : CalXN P w K mg base k x sp) (h : ∀ vs H Q E, sp' vs H Q E → sp vs H Q E0) : Cal P w K mg base k x sp' [] := by
  obtain ⟨f, fd, ps, F, hm, kp, b⟩ := c.ex
  exact ⟨f, fd, ps, [], fn_calmN F h, hm, kp, b, .nil⟩
theorem CalXN.imp {j : Nat} (c : CalXN P w K mg base k x sp) (hk : k ≤ j) (h : ∀ vs H Q E, sp' vs H Q E → sp vs H Q E) : CalXN P w K mg base j x sp' := by
  obtain ⟨f, fd, ps, F, hm, kp, b⟩ := c.ex
  exact ⟨f, fd, ps, (F.mono hk).imp h, hm, kp, b⟩
end
section
variable {X : Cx} {W : WX} {k j : Nat} {x : Str} {sp : Sp} {p pos : Pos} {e : Expr} {es : List Expr} {t : TA}
theorem pe_cxN (c : CalXN X.prog X.w X.K X.mg X.base k x sp) (hr : Room j X.A) (hk : k ≤ j) (tk : L2N.Takes X W) (hg : Gl X x) (ha : PA X (e :: es) t)
    (hdb : (x == ("__debug__" : Str)) = false := by decide) (he : starEach (e :: es) X.env = (false, eval e X.env) :: starEach es X.env := by rfl) (hpl : (backTo pos (starEach es X.env)).any (·.1) = false := by rfl) :
    PE X (.Call (.Name x p) (e :: es) [] pos) (tCallS sp (WE W) t) := by
  obtain ⟨f, fd, ps, F, hm, kp, b⟩ := c.ex
  exact pe_callS F (hr.mono hk) hg hm kp b (L2N.passAt tk) ha hdb he hpl
end
theorem takes0N {X : Cx} : L2N.Takes X (fun _ _ _ _ => False) := fun u s' ⟨_, _, _, _, _, _, _, _, _, _, _, _, _, _, _, _, no⟩ => no.elim
/-! ## try .. except, the exception kept: its context is known to be None -/
/-- at a: an exception at rest whose context is None -/
def Xn (a : Addr) (cls : Value) (d : Option Addr) : HO := .ext fun h => ∃ (oe : Obj) (vs : Array Value), h.get? a = some oe ∧ Zc cls d oe ∧ oe.data = .fields vs ∧ vs[2]? = some .none
theorem xn_ok {P : Program} {w : World} {H : Hp} {h : Heap} {a : Addr} {cls : Value} {d : Option Addr} {oe : Obj} {vs : Array Value} (e : h.get? a = some oe) (z : Zc cls d oe) (f : oe.data = .fields vs) (c : vs[2]? = some .none) : ObjOk P w H h a (Xn a cls d) :=
  ⟨⟨oe, vs, e, z, f, c⟩, ⟨_, e⟩, fun _ _ ⟨o2, v2, e2, z2, f2, c2⟩ k => ⟨o2, v2, k _ e2, z2, f2, c2⟩⟩
theorem xn_at {P : Program} {w : World} {H : Hp} {h : Heap} {a : Addr} {cls : Value} {d : Option Addr} (hok : HOk P w H h) (e : H a = some (Xn a cls d)) : ∃ (oe : Obj) (vs : Array Value), h.get? a = some oe ∧ Zc cls d oe ∧ oe.data = .fields vs ∧ vs[2]? = some .none := by
  have x : ObjOk P w H h a (.ext fun h => ∃ (oe : Obj) (vs : Array Value), h.get? a = some oe ∧ Zc cls d oe ∧ oe.data = .fields vs ∧ vs[2]? = some .none) := hok a _ e
  exact x.1
/-- the same object, told more of -/
theorem more_told {X : Cx} {pins : List (Addr × Obj)} {σ : L2.St} {H : Hp} {s : Shared} {a : Addr} {cls : Value} {d : Option Addr} {oe : Obj} {vs : Array Value} (J : Inv X pins σ (upd H a (Xo a cls d)) s) (e : s.heap.get? a = some oe) (na : H a = none) (z : Zc cls d oe) (f : oe.data = .fields vs) (c : vs[2]? = some .none) :
    Inv X pins σ (upd H a (Xn a cls d)) s := by
  have eq : ∀ b, b ≠ a → upd H a (Xn a cls d) b = upd H a (Xo a cls d) b := fun b hb => by rw [upd_ne hb, upd_ne hb]
  have same0 : ∀ b, upd H a (Xo a cls d) b = none → upd H a (Xn a cls d) b = none := fun b q => by
    by_cases hb : b = a
    · rw [hb, upd_same] at q
      cases q
    · rw [eq b hb]
      exact q
  have same1 : ∀ b o, (∀ φ, o ≠ HO.ext φ) → upd H a (Xo a cls d) b = some o → upd H a (Xn a cls d) b = some o := fun b o n q => by
    by_cases hb : b = a
    · rw [hb, upd_same] at q
      exact absurd (Option.some.inj q).symm (n _)
    · rw [eq b hb]
      exact q
  refine ⟨J.ok, J.os, J.bare, ⟨fun b o q n => J.base.keep b o q n, fun b o q n => J.base.slot b o q n, fun b o q n x => same0 b (J.base.free b o q n x), J.base.there, fun b xs q => same1 b _ (fun _ z => by cases z) (J.base.tups b xs q), fun b o v q => same1 b _ (fun _ z => by cases z) (J.base.frzs b o v q), fun b ps q => ?_⟩, J.loc, J.cell, same0 _ J.free, fun y c2 q => same0 _ (J.freeC y c2 q), fun p hp => ?_, fun b o q => ?_, J.len⟩
  · obtain ⟨more, y⟩ := J.base.tbls b ps q
    exact ⟨more, same1 b _ (fun _ z => by cases z) y⟩
  · obtain ⟨g1, g2, g3⟩ := J.pin p hp
    exact ⟨g1, same0 _ g2, g3⟩
  · by_cases hb : b = a
    · rw [hb, upd_same] at q
      cases q
      rw [hb]
      exact xn_ok e z f c
    · rw [eq b hb] at q
      exact (J.hok b o q).stay (fun _ _ _ y => y) (fun c2 y => same1 c2 _ (fun _ z => by cases z) y) fun c2 xs y => same1 c2 _ (fun _ z => by cases z) y
def wKeepN (K : PySem.W.Frag) (c : Value) (i : Nat) (ts : Addr → Value → Option Addr → TS) (Wout : WX) (D : Ends) : WX := fun cls d σ H => ∃ b, PySem.W.exmOne K cls c = some b ∧
  (b = true → ∀ a, H a = none → ts a cls d (keepD D i) (σ.set i (some (.ref a))) (upd H a (Xn a cls d))) ∧ (b = false → Wout cls d σ H)
section
variable {X : Cx} {x n : Str} {c : Value} {i : Nat} {body rest : List Stmt} {st : Stmt} {np pos pos2 : Pos} {tb : WX → TS} {ts : Addr → Value → Option Addr → TS} {Wout : WX}
theorem ps_try_keepN (hs : X.stack = X.env :: X.outer) (hf : X.env.frame = some X.env.locals) (hN : X.N.Nodup) (hi : X.N[i]? = some n) (hln : X.env.kindOf n = some .local) (hex : X.ex = []) (hc : Names X x c) (tk : L2N.Takes X Wout)
    (hb : ∀ (W : WX) (pn : List (Addr × Obj)) (xe : Value → Shared → Prop), L2N.Takes (X.tr pn xe) W → PassesOwn (model X.prog X.w) X.A X.env xe → PSs (X.tr pn xe) body (tb W))
    (hsu : ∀ (a : Addr) (cls : Value) (d : Option Addr) (pn : List (Addr × Obj)), PSs (X.suite a pn) (st :: rest) (ts a cls d)) :
    PS X (.Try body [.ExceptHandler (some (.Name x np)) (some n) (st :: rest) pos2] [] [] pos) (fun D σ H => tb (wKeepN X.K c i ts Wout D) D σ H) := by
  refine ⟨fun pins s σ H D I h => wpAny_Try_except ?_⟩
  have ok := I.ok
  have hfr : X.A.frames = some (X.env :: X.outer) := by rw [ok.frames, hs]
  have hlc : Loc X.env.scope n := .inl hln
  have seen : ∀ {C : Heap} {h : Heap} {q : Addr} {o : Obj} {vs : Array Value}, h.FunFrames C (X.env :: X.outer) → h.get? q = some o → o.data = .fields vs → q ∉ frs (X.env :: X.outer) := fun {C h q o vs} ff e dd hm => by
    obtain ⟨_, o2, e2, nn⟩ := ff.mem hm
    rw [e] at e2
    cases e2
    exact nn _ dd
  refine wpAny_mono ((hb (wKeepN X.K c i ts Wout D) (X.pn ++ pins) _ (fun u s2 air => ?_) PassesOwn.looking).run [] s σ H D (I.toTry _) h) (fun fl s2 q => ?_) fun _ _ z => z
  · obtain ⟨a, G, sI, pins2, τ, H2, cls, d, rfl, J2, nb, up, sky, na, os, ag, b, hb1, yes, no⟩ := air
    have J : Inv X pins τ H2 sI := J2.ofTry ok
    rw [hs] at sky
    refine L2N.Sky.land L2N.Zn.steady hfr hf sky fun h3 l3 up3 => ?_
    have J3 : Inv X pins τ H2 { s2 with heap := h3 } := J.landed nb l3.1 (up.trans up3) os ag
    obtain ⟨o3, v3, e3, z3, d3⟩ := l3.there
    have out := seen l3.2.2.1 e3 d3
    have nL : a ≠ X.env.locals := fun z => out (List.mem_filterMap.mpr ⟨X.env, List.mem_cons_self, by rw [hf, z]⟩)
    have nF : a ∉ X.fs := fun hm => by
      obtain ⟨e, he, q⟩ := List.mem_filterMap.mp hm
      exact out (List.mem_filterMap.mpr ⟨e, List.mem_cons_of_mem _ he, q⟩)
    have young : sI.heap.get? a = none := by
      cases q : sI.heap.get? a with
      | none => rfl
      | some o =>
        have z := nb a o q (by rw [hs]; exact out)
        rw [l3.2.1] at z
        cases z
    have young0 : X.s_0.heap.get? a = none := by
      cases q : X.s_0.heap.get? a with
      | none => rfl
      | some o =>
        obtain ⟨o2, z⟩ := J.base.there a o q (by rw [hex]; simp)
        rw [young] at z
        cases z
    have off : ∀ p ∈ X.pn ++ pins, p.1 ≠ a := fun p hp z => by
      have y := (J.pin p hp).1
      rw [z, young] at y
      cases y
    have S3 := J3.suite e3 d3 na nL nF
    have LT : PySem.W.Looks (model X.prog X.w) h3 (typeOf (.ref a)) cls := fun _ _ _ s k q => wpAny_typeOf_ref (k _ _ e3) (by rw [z3.1]; exact q)
    have LM := PySem.W.exm_one (M := model X.prog X.w) J3.kIn LT hb1
    have ask : ∀ {Q2 : Value → Shared → Prop} {E2 : Value → Shared → Prop}, Q2 c { s2 with heap := h3 } → wpAny (model X.prog X.w) (X.A.mark (some (.ref a))) (eval (.Name x np) X.env) Q2 E2 { s2 with heap := h3 } := fun {Q2 E2} q => by
      obtain ⟨hg, hdb, hm | ⟨hm, hv, hnn⟩⟩ := hc
      · exact ld_glob (X := X.suite a ((a, o3) :: (X.pn ++ pins))) S3 hg hm q hdb
      · exact ld_blt (X := X.suite a ((a, o3) :: (X.pn ++ pins))) S3 hg hm hv q hnn hdb
    refine wpAny_handleBy_cons (codeAny_handlers_test (ask (LM.here ?_))) (by intro q; cases q)
    cases b with
    | true =>
      refine codeAny_handlers_suite_as (HandSPX.lands_againZ l3 fun h4 l4 up4 => ?_)
      have J4 : Inv X pins τ H2 { s2 with heap := h4 } := J.landed nb l4.1 ((up.trans up3).trans up4) os ag
      obtain ⟨o4, v4, e4, z4, d4⟩ := l4.there
      have S4 : Inv (X.suite a (X.pn ++ pins)) [] τ (upd H2 a (Xn a cls d)) { s2 with heap := h4 } := suite_in (more_told (track J4 e4 na nL off young0 z4.zc d4) e4 na z4.zc d4 (z4.2.2 _ d4))
      refine store_ok (X := X.suite a (X.pn ++ pins)) (v := .ref a) S4 hN hi hlc rfl (fun s5 S5 => ?_) (.inr hln)
      refine wpAny_mono ((hsu a cls d (X.pn ++ pins)).run [] s5 _ _ _ S5 (yes rfl a na)) (fun fl s6 hsp => ?_) fun _ _ z => z.elim
      have fin : ∀ {σ6 : L2.St} {H6 : Hp} {Q2 : Shared → Prop}, Inv (X.suite a (X.pn ++ pins)) [] σ6 H6 s6 → (∀ s7, Inv X pins (σ6.set i none) H6 s7 → Q2 s7) →
          wpAny (model X.prog X.w) X.A (do bindName X.env n .none; unbindBehindTheSuite X.env n pos2) (fun _ s7 => Q2 s7) X.xe s6 := fun {σ6 H6 Q2} S6 hq =>
        gone_ok (X := X.suite a (X.pn ++ pins)) S6 hN hi hln fun s7 S7 => hq s7 (suite_out S7 ok)
      cases fl with
      | next =>
        obtain ⟨σ6, H6, S6, q6⟩ := hsp
        exact fin S6 fun s7 J7 => ⟨_, _, J7, q6⟩
      | brk =>
        obtain ⟨σ6, H6, S6, q6⟩ := hsp
        exact fin S6 fun s7 J7 => ⟨_, _, J7, q6⟩
      | cont =>
        obtain ⟨σ6, H6, S6, q6⟩ := hsp
        exact fin S6 fun s7 J7 => ⟨_, _, J7, q6⟩
      | ret u =>
        obtain ⟨v6, σ6, H6, S6, r6, q6⟩ := hsp
        exact fin S6 fun s7 J7 => ⟨_, _, _, J7, r6, q6⟩
    | false =>
      refine wpAny_handleBy_nil ?_
      obtain ⟨_, _, _, oe, vs, T, _, _, he, _, hd, h1, _⟩ := id l3
      unfold PySem.passOn
      refine wpAny_bind (wpAny_field he hd h1 ?_)
      rw [if_neg (show ¬ ((Value.ref T == Value.none) = true) from by simp)]
      have go : wpAny (model X.prog X.w) X.A (setFlight (.ref a) X.env.frame) (fun _ s4 => wpAny (model X.prog X.w) X.A (throw (.ref a) : Sem Flow) (SP X pins D) X.xe s4) X.xe { s2 with heap := h3 } := by
        rw [hf]
        exact HandSPX.setFlight_upZ l3 fun h4 g4 up4 => wpAny_throw (tk _ _ ⟨a, G, sI, pins, τ, H2, cls, d, rfl, J, nb, (up.trans up3).trans up4, .inr (.inr (by rw [hs]; exact g4)), na, os, ag, no rfl⟩)
      first
        | exact wpAny_bind (wpAny_pure (wpAny_bind go))
        | exact wpAny_bind go
  · cases fl with
    | next =>
      obtain ⟨τ, H2, J, q⟩ := q
      exact wpAny_execs_nil ⟨τ, H2, J.ofTry ok, q⟩
    | brk =>
      obtain ⟨τ, H2, J, q⟩ := q
      exact ⟨τ, H2, J.ofTry ok, q⟩
    | cont =>
      obtain ⟨τ, H2, J, q⟩ := q
      exact ⟨τ, H2, J.ofTry ok, q⟩
    | ret u =>
      obtain ⟨v, τ, H2, J, r, q⟩ := q
      exact ⟨v, τ, H2, J.ofTry ok, r, q⟩
end
end Sq


set_option Elab.async false
set_option maxRecDepth 100000
set_option maxHeartbeats 4000000
/-! code that runs while an exception is handled: lists and tuples walked, defs called -/
namespace Sq
open PySem PySem.Spec PyProof.Rows L2 HotX
/-! ## ends of iterators -/
section
variable {prog : Program} {w : World} {A : Around} {E : Value → Shared → Prop} {s : Shared}
theorem hot_ne {x1 it : Addr} {o : Obj} {vs : Array Value} (hot : HotAt A x1 s.heap) (ho : s.heap.get? it = some o) (hd : o.data = .fields vs) (hs : vs[2]? ≠ some .none) : x1 ≠ it := fun z => by
  obtain ⟨_, o1, v1, e1, d1, c1⟩ := hot
  rw [z, ho] at e1
  cases e1
  rw [hd] at d1
  cases d1
  exact hs c1
/-- StopIteration, raised behind a field that was set -/
theorem stop_hot {α : Type} {it x1 : Addr} {h1 : Heap} {E' : Value → Shared → Prop} (hot : HotAt A x1 s.heap) (ne : x1 ≠ it) (k1 : ∀ b u, b ≠ it → s.heap.get? b = some u → h1.get? b = some u)
    (hcl : ∀ e h', (∃ o, h'.get? e = some o ∧ o.cls = .type "StopIteration") → Heap.ExtBut it s.heap h' → E' (.ref e) { s with heap := h' }) :
    wpAny (model prog w) A (raiseNew (α := α) =<< newExc (.type "StopIteration") []) (fun _ _ => False) E' { s with heap := h1 } := by
  obtain ⟨hh, o1, v1, e1, d1, c1⟩ := hot
  show wpAny _ _ (newExc (.type "StopIteration") [] >>= _) _ _ _
  refine wpAny_bind ?_
  simp only [newExc, newTuple]
  refine wpAny_bind (wpAny_newObj_type ?_ (by size_fits))
  refine wpAny_bind (m := firstArgMember _ _) (wpAny_of_eq (a := Value.none) (by first | rfl | (simp only [firstArgMember]; rfl)) (wpAny_newObj_type ?_ (by size_fits)))
  have g1 := Heap.get?_push_of_some { cls := .type "tuple", data := .seq (#[] : Array Value) } (k1 x1 _ ne e1)
  refine raiseNew_hot ⟨hh, o1, v1, Heap.get?_push_of_some _ g1, d1, c1⟩ (Nat.ne_of_lt (Heap.lt_size g1)) (Heap.get?_push_size _ rfl) rfl (by first | (simp; done) | (simp; omega) | (simp only [Array.size_append]; simp; omega)) ?_
  refine hcl _ _ ⟨_, Heap.get?_update_self _ (Heap.get?_push_size _ rfl) rfl, rfl⟩ fun b u hb q => ?_
  have g2 := Heap.get?_push_of_some { cls := .type "tuple", data := .seq (#[] : Array Value) } (k1 b u hb q)
  rw [Heap.get?_update_other _ _ (Nat.ne_of_gt (Heap.lt_size g2))]
  exact Heap.get?_push_of_some _ g2
theorem list_end_hot {it l x1 : Addr} {i : Nat} {items : Array Value} {Q : Option Value → Shared → Prop} (hot : HotAt A x1 s.heap) (hit : s.heap.IsListIter it l i) (hl : s.heap.IsList l items) (hx : items[i]? = none)
    (hQ : ∀ h', Heap.ExtBut it s.heap h' → Q none { s with heap := h' }) : wpAny (model prog w) A (pyNext (.ref it)) Q E s := by
  obtain ⟨o, ho, hc, hd⟩ := id hit
  obtain ⟨ol, hol, _, nl, hdl⟩ := hl
  have ne := hot_ne hot ho hd (by simp)
  unfold pyNext
  refine wpAny_bind (wpAny_attempt (wpAny_callSpecial?_slot (name := Str.ofString "__next__") hit.typeIs slot_listiter_next (wpAny_call_entry slot_listiter_next hit.typeIs entry_listiter_next ?_ (args_listiter_next _))))
  refine show wpAny _ _ (field (.ref it) 0 >>= _) _ _ s from wpAny_bind (wpAny_field ho hd (x := .ref l) rfl ?_)
  show wpAny _ _ (if (Value.ref l == Value.none) = true then _ else _) _ _ s
  rw [if_neg (by exact Bool.false_ne_true)]
  refine show wpAny _ _ (field (.ref it) 1 >>= _) _ _ s from wpAny_bind (wpAny_field ho hd (x := .int i 0) rfl ?_)
  refine show wpAny _ _ (seqItems? (.ref l) >>= _) _ _ s from wpAny_bind (wpAny_seqItems hol hdl ?_)
  simp only [Int.toNat_natCast, hx]
  refine wpAny_bind (wpAny_rule (wpAny_bind (wpAny_setField ho hd (by simp) ?_)))
  refine wpAny_mono (stop_hot (A := A.in1) (E' := fun x s' => wpAny (model prog w) A (isInstance x (.type "StopIteration")) (fun b s2 => b = true ∧ Q none s2) (fun _ _ => False) s') hot ne (fun b u hb q => (Heap.get?_update_other _ _ (Ne.symm hb)).trans q) fun e h' ⟨oe, he, hce⟩ k => ?_) (fun _ _ z => z.elim) fun x s' hx2 => ?_
  · exact wpAny_isInstance (T := "StopIteration") (b := true) ⟨oe, he, hce⟩ isSubtype_stop ⟨rfl, hQ _ k⟩
  · refine wpAny_bind (wpAny_mono hx2 (fun b s2 hb => ?_) fun _ _ z => z.elim)
    obtain ⟨rfl, hb⟩ := hb
    exact wpAny_pure hb
theorem tuple_end_hot {it l x1 : Addr} {i : Nat} {items : Array Value} {Q : Option Value → Shared → Prop} (hot : HotAt A x1 s.heap) (hit : s.heap.IsTupleIter it l i) (hl : s.heap.IsTuple l items) (hx : items[i]? = none)
    (hQ : ∀ h', Heap.ExtBut it s.heap h' → Q none { s with heap := h' }) : wpAny (model prog w) A (pyNext (.ref it)) Q E s := by
  obtain ⟨o, ho, hc, hd⟩ := id hit
  obtain ⟨ol, hol, _, nl, hdl⟩ := hl
  have ne := hot_ne hot ho hd (by simp)
  unfold pyNext
  refine wpAny_bind (wpAny_attempt (wpAny_callSpecial?_slot (name := Str.ofString "__next__") hit.typeIs PySem.F.slot_tuple_iterator_next (wpAny_call_entry PySem.F.slot_tuple_iterator_next hit.typeIs PySem.F.entry_tuple_iterator_next ?_ (PySem.F.args_tuple_iterator_next_1 _))))
  refine show wpAny _ _ (field (.ref it) 0 >>= _) _ _ s from wpAny_bind (wpAny_field ho hd (x := .ref l) rfl ?_)
  show wpAny _ _ (if (Value.ref l == Value.none) = true then _ else _) _ _ s
  rw [if_neg (by exact Bool.false_ne_true)]
  refine show wpAny _ _ (field (.ref it) 1 >>= _) _ _ s from wpAny_bind (wpAny_field ho hd (x := .int i 0) rfl ?_)
  refine show wpAny _ _ (seqItems? (.ref l) >>= _) _ _ s from wpAny_bind (wpAny_seqItems hol hdl ?_)
  simp only [Int.toNat_natCast, hx]
  refine wpAny_bind (wpAny_rule (wpAny_bind (wpAny_setField ho hd (by simp) ?_)))
  refine wpAny_mono (stop_hot (A := A.in1) (E' := fun x s' => wpAny (model prog w) A (isInstance x (.type "StopIteration")) (fun b s2 => b = true ∧ Q none s2) (fun _ _ => False) s') hot ne (fun b u hb q => (Heap.get?_update_other _ _ (Ne.symm hb)).trans q) fun e h' ⟨oe, he, hce⟩ k => ?_) (fun _ _ z => z.elim) fun x s' hx2 => ?_
  · exact wpAny_isInstance (T := "StopIteration") (b := true) ⟨oe, he, hce⟩ isSubtype_stop ⟨rfl, hQ _ k⟩
  · refine wpAny_bind (wpAny_mono hx2 (fun b s2 hb => ?_) fun _ _ z => z.elim)
    obtain ⟨rfl, hb⟩ := hb
    exact wpAny_pure hb
/-- a tuple taken apart -/
theorem assign_tup_hot {env : Env} {elts : List Expr} {kk : Nat} {pos : Pos} {t x1 : Addr} {items : Array Value} {Q : Unit → Shared → Prop} (hot : HotAt A x1 s.heap) (ht : s.heap.IsTuple t items) (hn : (assignEach elts env).length = items.size) (hst : (assignEach elts env).findIdx? (·.1) = none)
    (h : ∀ h', Heap.ExtBut s.heap.objs.size s.heap h' → wpAny (model prog w) A (assignInOrder ((assignEach elts env).map (·.2)) items.toList) Q E { s with heap := h' }) : wpAny (model prog w) A (assign (.Tuple elts kk pos) env (.ref t)) Q E s := by
  have lt : t ≠ s.heap.objs.size := by
    obtain ⟨o, ho, _⟩ := ht
    exact Nat.ne_of_lt (Heap.lt_size ho)
  have lx : x1 ≠ s.heap.objs.size := by
    obtain ⟨_, o, _, ho, _⟩ := hot
    exact Nat.ne_of_lt (Heap.lt_size ho)
  rw [arm_assign_Tuple]
  refine wpAny_bind (wpAny_standAt ?_)
  unfold unpack
  rw [hn, hst]
  refine wpAny_bind (wpAny_holding ?_)
  unfold unpackItems
  refine wpAny_bind ?_
  unfold notIterableAtAll
  refine wpAny_bind (wpAny_specialOf ht.typeIs PySem.F.slot_tuple_iter.lookup (wpAny_pure ?_))
  simp only [Bool.false_eq_true, if_false]
  refine wpAny_bind (wpAny_holding (wpAny_pyIter_tuple ht (wpAny_bind (wpAny_holding (wpAny_draw_tuple lt items.size 0 _ _ ⟨_, Heap.get?_push_size _ rfl, rfl, rfl⟩ (ht.push _) (by omega) fun h1 hit1 sb1 => ?_)))))
  have all : List.take items.size (List.drop 0 items.toList) = items.toList := List.take_of_length_le (by simp)
  rw [all, if_neg (by simp)]
  have hot1 : HotAt A x1 h1 := by
    obtain ⟨hh, o, v, e, r⟩ := hot
    exact ⟨hh, o, v, sb1.extBut _ _ lx (Heap.get?_push_of_some _ e), r⟩
  refine wpAny_bind (wpAny_holding (tuple_end_hot hot1 hit1 ((ht.push _).extBut sb1.extBut lt) (by simp) fun h2 e2 => ?_))
  simp only [Option.isSome_none, Bool.false_eq_true, if_false]
  exact wpAny_pure (h h2 fun b o hb e => e2 b o hb (sb1.extBut b o hb (Heap.get?_push_of_some _ e)))
end
/-! ## what a context knows of the handled exception -/
/-- the exception that is handled is tracked, its context is None -/
def HotN (x1 : Addr) (H : Hp) : Prop := ∃ (cls : Value) (d : Option Addr), H x1 = some (Xn x1 cls d)
theorem HotN.at {X : Cx} {pins : List (Addr × Obj)} {σ : L2.St} {H : Hp} {s : Shared} {x1 : Addr} (h : HotN x1 H) (hh : X.A.handled = some (.ref x1)) (I : Inv X pins σ H s) : HotAt X.A x1 s.heap := by
  obtain ⟨cls, d, e⟩ := h
  obtain ⟨oe, vs, e1, _, e2, e3⟩ := xn_at I.hok e
  exact ⟨hh, oe, vs, e1, e2, e3⟩
theorem HotN.same {x1 : Addr} {H H' : Hp} (h : HotN x1 H) (s : Same H H') : HotN x1 H' := by
  obtain ⟨cls, d, e⟩ := h
  exact ⟨cls, d, s _ _ e⟩
/-! ## a tuple target -/
def gTupN (x1 : Addr) (K : PySem.W.Frag) (n : Nat) (t : TGs) : TG := fun v σ H Q => ∃ a xs, v = .ref a ∧ SqT K H a xs ∧ xs.length = n ∧ HotN x1 H ∧ t xs σ H Q
theorem pg_tupN {X : Cx} {K : PySem.W.Frag} {es : List Expr} {kk : Nat} {pos : Pos} {t : TGs} {n : Nat} {x1 : Addr} (hh : X.A.handled = some (.ref x1)) (h : PGs X es t) (hn : (assignEach es X.env).length = n := by rfl) (hst : (assignEach es X.env).findIdx? (·.1) = none := by rfl) (hK : X.K = K := by rfl) : PG X (.Tuple es kk pos) (gTupN x1 K n t) := by
  subst hK
  refine ⟨fun pins s σ H v u Q I r hw => ?_⟩
  obtain ⟨a, xs, rfl, hq, hl, hot, hw⟩ := hw
  obtain rfl : u = Value.ref a := r
  obtain ⟨its, rv, ht, hz⟩ := I.tuple hq
  refine assign_tup_hot (hot.at hh I) (show s.heap.IsTuple a its.toArray from ht) (by simp [hn, ← hl, rv.length]) hst fun h' hx => ?_
  exact h.run pins _ σ H xs _ Q (I.kept (t' := s.toks) fun b o e => hx b o (Nat.ne_of_lt (Heap.lt_size e)) e) (by simpa using rv) hw
/-! ## a comprehension over a list -/
def ItlN (x1 : Addr) (K : PySem.W.Frag) (a : Addr) : It := ⟨(Itl K a).go, (Itl K a).yld, fun i H => HotN x1 H ∧ (Itl K a).stop i H⟩
def iListN (x1 : Addr) (K : PySem.W.Frag) (te : TE) : TI := fun σ H R => te σ H fun x H1 => ∃ a, x = .ref a ∧ (∃ xs, SqL K H1 a xs) ∧ R (ItlN x1 K a) H1
section
variable {X : Cx}
theorem lc_coreN {pins : List (Addr × Obj)} {s : Shared} {σ : L2.St} {H : Hp} {Q : VK} {elt tg l : Expr} {ifs : List Expr} {scope : Scope} {own : List (Str × Nat)} {pos pos2 : Pos} {tl : TE} {g : TG} {tt : TT} {te : TE} {use : Option (Value → Sem Unit)} {Qf : Value → Shared → Prop} {x1 : Addr} (hh : X.A.handled = some (.ref x1)) (nd : X.N.Nodup) (I : Inv X pins σ H s) (hl : PE X l tl) (ok : BlkOk X.N X.env.scope scope own)
    (hg : ∀ (s : Shared) (H : Hp) (C : Addr) (cl : List (Str × Addr)) (fp : List Addr), PG (X.blk s H scope (compEnvC scope cl C X.env) fp) tg g) (ht : ∀ (s : Shared) (H : Hp) (C : Addr) (cl : List (Str × Addr)) (fp : List Addr), PTs (X.blk s H scope (compEnvC scope cl C X.env) fp) ifs tt)
    (he : ∀ (s : Shared) (H : Hp) (C : Addr) (cl : List (Str × Addr)) (fp : List Addr), PE (X.blk s H scope (compEnvC scope cl C X.env) fp) elt te) (hs : ∀ x, foldedSetIterable l X.env x = pure x) (h : tLc (iListN x1 X.K tl) g tt te (own.map (·.2)) σ H Q)
    (hRR : ∀ D C s' m H', Inv X pins σ H' s' → Q (.ref D) H' → s'.heap.Ns C m → FpOk X pins H' C → compPost (model X.prog X.w) X.A X.xe use Qf (.ref D) C (.ok .next) s') :
    wpAny (model X.prog X.w) X.A (comprehension (.ListComp elt [⟨tg, l, ifs, 0⟩] scope pos) scope X.env pos2 (newList []) false (eval l X.env) use) Qf X.xe s := by
  have fr : ∀ y ∈ scope.names, y.2 = .free → ∃ c, X.env.cells.lookup y.1 = some c := fun y hy e => (ok.free y hy e).elim (fun k => I.ok.has _ (.inl k)) fun k => I.ok.has _ (.inr k)
  refine wpAny_comprehension_free (use := use) rfl hs (closure_ok fr) ok.kind (fun y hy e => by rw [ok.uniq y hy, e]) (thn (hl.run pins s σ H _ I h) fun xv s1 got => ?_)
  obtain ⟨x, H1, I1, rx, a, rfl, ⟨xs, hq⟩, q⟩ := got
  obtain rfl : xv = Value.ref a := rx
  obtain ⟨its, rv, p, hz⟩ := I1.list hq
  refine wpAny_pyIter_list p.isList ?_
  have I2 : Inv X pins σ H1 { s1 with heap := s1.heap.push { cls := .type "list_iterator", data := .fields #[.ref a, .int 0 0] } } := I1.kept (t' := s1.toks) fun b o e => Heap.get?_push_of_some _ e
  have itA := I1.fpOk (Nat.le_refl _) (I1.hok.fresh (Nat.le_refl _))
  have st2 : (s1.heap.push { cls := .type "list_iterator", data := .fields #[.ref a, .int 0 0] }).IsListIter s1.heap.objs.size a 0 := ⟨_, Heap.get?_push_size _ rfl, rfl, rfl⟩
  generalize hit : s1.heap.objs.size = it at itA st2 ⊢
  generalize hs2 : ({ s1 with heap := s1.heap.push { cls := .type "list_iterator", data := .fields #[.ref a, .int 0 0] } } : Shared) = s2 at I2 ⊢
  have e2 : s2.heap = s1.heap.push { cls := .type "list_iterator", data := .fields #[.ref a, .int 0 0] } := by rw [← hs2]
  rw [← e2] at st2
  refine wpAny_newObj_type (newEnv_comp ?_) (by show 0 ≤ sizeLine; decide)
  generalize hD : s2.heap.objs.size = D
  have nD : H1 D = none := I2.hok.fresh (Nat.le_of_eq hD)
  obtain ⟨W, ⟨m0, w0⟩, turn⟩ := q D nD
  generalize hs3 : ({ s2 with heap := s2.heap.push { cls := .type "list", data := .seq ([] : List Value).toArray } } : Shared) = s3
  have e3 : s3.heap = s2.heap.push { cls := .type "list", data := .seq ([] : List Value).toArray } := by rw [← hs3]
  have I3 : Inv X pins σ (upd H1 D (.lst [])) s3 := by
    rw [← hs3]
    exact I2.laid (t' := s2.toks) (fun b o e => Heap.get?_push_of_some _ e) (Nat.le_of_eq hD) ⟨Nat.zero_le _, [], 0, .nil, by rw [← hD]; exact Heap.get?_push_size _ rfl⟩
  have ltit : it < s2.heap.objs.size := by
    obtain ⟨o, e, _⟩ := st2
    exact Heap.lt_size e
  have f3 : ∀ b ∈ [it], FpOk X pins (upd H1 D (.lst [])) b ∧ b < s3.heap.objs.size := fun b hb => by
    rw [List.mem_singleton.mp hb, e3, Heap.size_push]
    exact ⟨⟨by rw [upd_ne (by rw [← hD]; exact Nat.ne_of_lt ltit)]; exact itA.1, itA.2⟩, Nat.lt_succ_of_lt ltit⟩
  have I4 := block_start I3 ok nd f3
  have pg := hg s3 (upd H1 D (.lst [])) s3.heap.objs.size (cellsFrom (s3.heap.objs.size + 1) scope.names (cloFrom X.env.cells scope.names [])) [it]
  have pt := ht s3 (upd H1 D (.lst [])) s3.heap.objs.size (cellsFrom (s3.heap.objs.size + 1) scope.names (cloFrom X.env.cells scope.names [])) [it]
  have pe := he s3 (upd H1 D (.lst [])) s3.heap.objs.size (cellsFrom (s3.heap.objs.size + 1) scope.names (cloFrom X.env.cells scope.names [])) [it]
  show codeAny _ _ (.compStart (.ListComp elt [⟨tg, l, ifs, 0⟩] scope pos) 0 (.ref it) (.ref D) (compEnvC scope (cellsFrom (s3.heap.objs.size + 1) scope.names (cloFrom X.env.cells scope.names [])) s3.heap.objs.size X.env)) (compPost (model X.prog X.w) X.A X.xe use Qf (.ref D) s3.heap.objs.size) { s3 with heap := pushCells (s3.heap.push { cls := .type "dict", data := .dict #[] }) scope.names }
  generalize hce : compEnvC scope (cellsFrom (s3.heap.objs.size + 1) scope.names (cloFrom X.env.cells scope.names [])) s3.heap.objs.size X.env = ce at I4 pg pt pe ⊢
  have cL : ce.locals = s3.heap.objs.size := by
    subst hce
    rfl
  have nit := (f3 it List.mem_cons_self).1.1
  generalize hH3 : upd H1 D (.lst []) = H3 at I3 I4 pg pt pe w0 nit f3
  generalize hs4 : ({ s3 with heap := pushCells (s3.heap.push { cls := .type "dict", data := .dict #[] }) scope.names } : Shared) = s4 at I4 ⊢
  have st4 : s4.heap.IsListIter it a 0 := st2.at fun o e => by
    rw [← hs4]
    exact pushCells_keeps _ _ _ _ (Heap.get?_push_of_some _ (by rw [e3]; exact Heap.get?_push_of_some _ e))
  have stat : ∀ {σ5 : L2.St} {H5 : Hp} {s5 : Shared}, Inv (X.blk s3 H3 scope ce [it]) [] σ5 H5 s5 → H5 it = none → FpOk (X.blk s3 H3 scope ce [it]) [] H5 it := fun {σ5 H5 s5} I5 n =>
    have m : it ∈ [it] := List.mem_cons_self
    ⟨n, (I5.ok.exf it m).1, I5.ok.exfs it m, .inl m, fun x c e => (I5.ok.exf it m).2 x c e, fun p hp => absurd (show p ∈ ([] : List (Addr × Obj)) ++ [] from hp) (by simp)⟩
  have loop : codeAny (model X.prog X.w) X.A (.compLoop (.ListComp elt [⟨tg, l, ifs, 0⟩] scope pos) 0 (.ref it) (.ref D) ce) (compPost (model X.prog X.w) X.A X.xe use Qf (.ref D) s3.heap.objs.size) s4 := by
    refine compLoop_any (fun n s5 => ∃ i H5, Inv (X.blk s3 H3 scope ce [it]) [] (wipe σ (own.map (·.2))) H5 s5 ∧ s5.heap.IsListIter it a i ∧ H5 it = none ∧ W i n H5) ?_ m0 ⟨0, H3, I4, st4, nit, w0⟩
    rintro n s5 ⟨i, H5, I5, st5, n5, w5⟩
    obtain ⟨g0, g1, g2, g3, g4, g5⟩ := stat I5 n5
    rcases turn i n H5 w5 with ⟨⟨hot, ys, hy, ly⟩, qq⟩ | ⟨⟨ys, y, hy, ey⟩, Nx, hNx, step⟩
    · obtain ⟨jts, rj, pj, _⟩ := I5.list hy
      have lj := rj.length
      refine list_end_hot (hot.at (X := X.blk s3 H3 scope ce [it]) hh I5) st5 pj.isList (by simp; omega) fun h6 eb => ?_
      have I6 : Inv (X.blk s3 H3 scope ce [it]) [] _ H5 { s5 with heap := h6 } := I5.turned (t' := s5.toks) (fun b o hb e => eb b o hb e) g0 g1 g3 g4 g5
      have I7 : Inv X pins σ H5 { s5 with heap := h6 } := I3.call' (ch := [it]) I6.os I6.base I6.hok I6.bare fun b hb => by
        obtain ⟨⟨_, k1, _, k3, k4, k5⟩, _⟩ := f3 b hb
        exact ⟨k3, k1, k4, k5⟩
      have nC : H5 s3.heap.objs.size = none := by
        rw [← cL]
        exact I6.free
      obtain ⟨m, hn, _⟩ := I6.loc
      have hn2 : h6.Ns s3.heap.objs.size m := by
        rw [← cL]
        exact hn
      exact hRR D s3.heap.objs.size _ m H5 I7 qq hn2 (I3.fpOk (Nat.le_refl _) nC)
    · obtain ⟨jts, rj, pj, _⟩ := I5.list hy
      obtain ⟨u, hu, ru⟩ := rj.get ey
      refine wpAny_pyNext_list_item st5 pj.isList (x := u) (by simpa using hu) fun h6 st6 sb => ?_
      have I6 : Inv (X.blk s3 H3 scope ce [it]) [] _ H5 { s5 with heap := h6 } := I5.turned (t' := s5.toks) (fun b o hb e => (sb.2 b hb).trans e) g0 g1 g3 g4 g5
      obtain ⟨oi, ei, ci, di⟩ := id st6
      refine go_of (s := { s5 with heap := h6 }) ei ci di (by decide) ?_
      have I6' := I6.pinned (fp := [it]) (fun b hb => by rw [List.mem_singleton.mp hb]; exact stat I6 n5) fun b hb => by
        rw [List.mem_singleton.mp hb]
        exact ⟨oi, ei, fun v z => by rw [di] at z; cases z⟩
      refine thnF (pg.run _ _ _ H5 y u _ I6' ru (step y H5 ⟨rfl, fun zs hz => by rw [I5.list_inj hz hy]; exact ey⟩)) fun _ s8 ⟨σ8, H8, I8, hw8, q8⟩ => ?_
      refine thnF (pt.run _ s8 σ8 H8 _ I8 q8) fun b s9 ⟨H9, I9, q9⟩ => ?_
      have fin : ∀ {s' : Shared} {H' : Hp}, Inv (X.blk s3 H3 scope ce [it]) ([] ++ pinsAt [it] h6) σ8 H' s' → Nx H' → ∃ m, m < n ∧ ∃ i H', Inv (X.blk s3 H3 scope ce [it]) [] (wipe σ (own.map (·.2))) H' s' ∧ s'.heap.IsListIter it a i ∧ H' it = none ∧ W i m H' := fun {s' H'} I' nx => by
        obtain ⟨m', hm, w'⟩ := hNx H' nx
        have pin := I'.pin (it, oi) (List.mem_append_right _ (List.mem_append_right _ (mem_pinsAt List.mem_cons_self ei)))
        have lw : (wipe σ (own.map (·.2))).length = σ8.length := by rw [← hw8, wipe_length]
        exact ⟨m', hm, i + 1, H', (I'.unpinned (pins := [])).weak lw (fun j v e => by rw [← hw8] at e; exact (wipe_some e).1), ⟨oi, pin.1, ci, di⟩, pin.2.1, w'⟩
      cases b with
      | false =>
        simp only [Bool.false_eq_true, if_false] at q9 ⊢
        exact fin I9 q9
      | true =>
        simp only [if_true] at q9 ⊢
        refine thnF (pe.run _ s9 σ8 H9 _ I9 q9) fun z s10 ⟨yv, H10, I10, r10, acc, hD10, hz10, nx⟩ => ?_
        exact app_ok (X := X.blk s3 H3 scope ce [it]) I10 hD10 hz10 r10 fun s11 I11 => fin I11 nx
  exact codeAny_compStart_list loop (wpAny_pyIter_listiter st4 loop)
theorem pe_lcN {elt tg l : Expr} {ifs : List Expr} {scope : Scope} {own : List (Str × Nat)} {pos : Pos} {tl : TE} {g : TG} {tt : TT} {te : TE} {x1 : Addr} (hh : X.A.handled = some (.ref x1)) (nd : X.N.Nodup) (hl : PE X l tl) (ok : BlkOk X.N X.env.scope scope own)
    (hg : ∀ (s : Shared) (H : Hp) (C : Addr) (cl : List (Str × Addr)) (fp : List Addr), PG (X.blk s H scope (compEnvC scope cl C X.env) fp) tg g) (ht : ∀ (s : Shared) (H : Hp) (C : Addr) (cl : List (Str × Addr)) (fp : List Addr), PTs (X.blk s H scope (compEnvC scope cl C X.env) fp) ifs tt)
    (he : ∀ (s : Shared) (H : Hp) (C : Addr) (cl : List (Str × Addr)) (fp : List Addr), PE (X.blk s H scope (compEnvC scope cl C X.env) fp) elt te) (hs : ∀ x, foldedSetIterable l X.env x = pure x := by intro _; rfl) :
    PE X (.ListComp elt [⟨tg, l, ifs, 0⟩] scope pos) (tLc (iListN x1 X.K tl) g tt te (own.map (·.2))) := by
  refine ⟨fun pins s σ H Q I h => ?_⟩
  rw [eval_ListComp]
  refine lc_coreN hh nd I hl ok hg ht he hs h fun D C s' m H' J q hn ⟨k0, k1, k2, k3, k4, k5⟩ => ⟨m, hn, fun h8 sb => ?_⟩
  exact ⟨.ref D, H', J.turned (t' := s'.toks) (fun b o hb e => (sb.2 b hb).trans e) k0 k1 k3 k4 k5, rfl, q⟩
/-- name = [..], the name a local -/
theorem ps_setLcN {i : Nat} {y : Str} {py spos : Pos} {elt tg l : Expr} {ifs : List Expr} {scope : Scope} {own : List (Str × Nat)} {pos : Pos} {tl : TE} {g : TG} {tt : TT} {te : TE} {x1 : Addr} (hh : X.A.handled = some (.ref x1)) (nd : X.N.Nodup) (hy : X.N[i]? = some y) (hyl : X.env.scope.names.lookup y = some .local)
    (hsw : swapsWith (.ListComp elt [⟨tg, l, ifs, 0⟩] scope pos) (some (.Name y py)) spos.line X.env = pure true) (hl : PE X l tl) (ok : BlkOk X.N X.env.scope scope own)
    (hg : ∀ (s : Shared) (H : Hp) (C : Addr) (cl : List (Str × Addr)) (fp : List Addr), PG (X.blk s H scope (compEnvC scope cl C X.env) fp) tg g) (ht : ∀ (s : Shared) (H : Hp) (C : Addr) (cl : List (Str × Addr)) (fp : List Addr), PTs (X.blk s H scope (compEnvC scope cl C X.env) fp) ifs tt)
    (he : ∀ (s : Shared) (H : Hp) (C : Addr) (cl : List (Str × Addr)) (fp : List Addr), PE (X.blk s H scope (compEnvC scope cl C X.env) fp) elt te) (hs : ∀ x, foldedSetIterable l X.env x = pure x := by intro _; rfl) :
    PS X (.Assign [.Name y py] (.ListComp elt [⟨tg, l, ifs, 0⟩] scope pos) spos) (tAsg (tLc (iListN x1 X.K tl) g tt te (own.map (·.2))) (gName i)) := by
  refine ⟨fun pins s σ H D I h => ?_⟩
  rw [exec_Assign_Name_used _ _ _ _ hsw]
  refine wpAny_bind (wpAny_standAt (wpAny_bind ?_))
  have h2 : tLc (iListN x1 X.K tl) g tt te (own.map (·.2)) σ H (fun x H1 => gName i x σ H1 D.nx) := h
  show wpAny _ X.A (do let _ ← comprehension (.ListComp elt [⟨tg, l, ifs, 0⟩] scope pos) scope X.env (firstIterPos [⟨tg, l, ifs, 0⟩] pos) (newList []) false (eval l X.env) (some (assign (.Name y py) X.env))) _ _ s
  refine wpAny_bind (thn (lc_coreN (Qf := fun _ s' => SP X pins D .next s') hh nd I hl ok hg ht he hs h2 fun L C s' m H' J q hn f => ?_) fun _ s' hq => wpAny_pure (wpAny_pure hq))
  show wpAny _ _ (assign (.Name y py) X.env (.ref L)) _ _ _
  refine wpAny_assign_Name (store_ok2 (v := V.ref L) J nd hy (.inl hyl) rfl (fun s2 J2 ⟨b, sb, hb⟩ => ?_) (.inr hyl))
  obtain ⟨k0, k1, k2, k3, k4, k5⟩ := f
  have ne : C ≠ b := hb.elim (fun z => by rw [z]; exact k1) fun z e => k4 y b z e.symm
  exact ⟨m, hn.sameBut sb ne, fun h8 sb8 => ⟨_, H', J2.turned (t' := s2.toks) (fun b o hb e => (sb8.2 b hb).trans e) k0 k1 k3 k4 k5, q⟩⟩
end
/-- over a list that the block leaves as it is -/
theorem lc_listN {x1 : Addr} {K : PySem.W.Frag} {a : Addr} {xs : List V} {H0 : Hp} {Bd : V → Hp → (Hp → Prop) → Prop} {Qd : Hp → Prop} (Pv : Nat → Hp → Prop) (h0 : Pv 0 H0) (hl : ∀ i H, i ≤ xs.length → Pv i H → SqL K H a xs)
    (hs : ∀ i x H, xs[i]? = some x → Pv i H → Bd x H (Pv (i + 1))) (hd : ∀ H, Pv xs.length H → HotN x1 H ∧ Qd H) :
    ∃ W : Nat → Nat → Hp → Prop, (∃ m, W 0 m H0) ∧ ∀ i m H, W i m H →
      ((ItlN x1 K a).stop i H ∧ Qd H) ∨ ((ItlN x1 K a).go i H ∧ ∃ Nx : Hp → Prop, (∀ H', Nx H' → ∃ m', m' < m ∧ W (i + 1) m' H') ∧ ∀ x H', (ItlN x1 K a).yld i H x H' → Bd x H' Nx) := by
  refine ⟨fun i m H => m = xs.length - i ∧ i ≤ xs.length ∧ Pv i H, ⟨xs.length, by simp, Nat.zero_le _, h0⟩, ?_⟩
  rintro i m H ⟨rfl, hi, p⟩
  have q := hl i H hi p
  by_cases lt : i < xs.length
  · refine .inr ⟨⟨xs, xs[i], q, by simp [lt]⟩, Pv (i + 1), fun H' p' => ⟨xs.length - (i + 1), by omega, rfl, lt, p'⟩, fun x H' y => ?_⟩
    obtain ⟨rfl, y⟩ := y
    exact hs i x _ (y xs q) p
  · have e : i = xs.length := by omega
    subst e
    obtain ⟨hot, qd⟩ := hd H p
    exact .inl ⟨⟨hot, xs, q, Nat.le_refl _⟩, qd⟩
end Sq


set_option Elab.async false
set_option maxRecDepth 100000
set_option maxHeartbeats 4000000
/-! a def called while an exception is handled -/
namespace Sq
open PySem PySem.Spec PyProof.Rows L2 HotX
open L2H (RoomH)
structure FnC (P : Program) (w : World) (K : PySem.W.Frag) (mg : Str → Option Value) (base : Heap) (k : Nat) (f : Addr) (fd : FuncData) (ps : List Str) (sp : Addr → Sp) : Prop where
  len : ∀ x1 vs H Q E, sp x1 vs H Q E → vs.length = ps.length
  run : ∀ (A : Around) (outer : List Env) (s : Shared) (H : Hp) (args : Args) (us : List Value) (vs : List V) (Q : VK) (E : XK) (x1 : Addr), RoomH k A → A.handled = some (.ref x1) → Env0 P w K mg base A outer s H → BindsTo s fd args (ps.zip us) → Vals vs us → sp x1 vs H Q E →
    codeAny (model P w) A (.call (.ref f) args) (CR CX0 outer P w H s Q E) s
/-- the context of its body -/
def cxC (P : Program) (w : World) (K : PySem.W.Frag) (mg : Str → Option Value) (base : Heap) (N : List Str) (qual : Str) (scope : Scope) (f : Addr) (cd : Value) (A : Around) (outer : List Env) (s : Shared) (H : Hp) : Cx :=
  { cxOf CX0 P w K mg base N qual scope f cd A outer s H E0 with calm := false, xe := fun _ _ => False }
theorem fn_ofC {P : Program} {w : World} {K : PySem.W.Frag} {mg : Str → Option Value} {base : Heap} {k : Nat} {f : Addr} {name qual : Str} {params : Arguments} {body : List Stmt} {scope : Scope} {dV kV doc pm cdv ct oc : Value} {an od : Option Addr}
    {osl : Array (Option Value)} {N ps : List Str} {sp : Addr → Sp} (lk : K.lookup f = some ⟨oc, od, .func (PySem.W.fnOf name qual params body scope dV kV doc pm an cdv ct), osl⟩) (hcd : PySem.W.codeIn K cdv qual = true) (S : FnScope N ps scope) (len : ∀ x1 vs H Q E, sp x1 vs H Q E → vs.length = ps.length)
    (hbody : ∀ (A : Around) (outer : List Env) (s : Shared) (H : Hp) (vs : List V) (Q : VK) (E : XK) (x1 : Addr), A.handled = some (.ref x1) → RoomH k (A.deeper (envOfC qual scope s.heap.objs.size f cdv)) → sp x1 vs H Q E →
      ∃ t, PSs (cxC P w K mg base N qual scope f cdv A outer s H) body t ∧ t { nx := fun _ H' => Q .non H', rt := Q } (L2.start N vs) H) : FnC P w K mg base (k + 1) f (PySem.W.fnOf name qual params body scope dV kV doc pm an cdv ct) ps sp := by
  refine ⟨len, fun A outer s H args us vs Q E x1 hr hh e0 hb r hsp => ?_⟩
  have hl := len _ _ _ _ _ hsp
  have KX : K.In s.heap := e0.mod.kin.keeps fun b o e => (e0.bs b o e).1
  have lim : s.heap.NoLimit := e0.mod.nolimit.keeps fun b o e => (e0.bs b o e).1
  have hk : ∀ y ∈ ps.zip us, scope.names.lookup y.1 = some .local ∨ (scope.names.lookup y.1 = some .cell ∧ ((cellsFrom (s.heap.objs.size + 1) scope.names []).lookup y.1).isSome = true) := fun ⟨n, v⟩ hy => (S.par n (List.of_mem_zip hy).1).elim .inl fun q => .inr ⟨q, PySem.W.cellsFrom_some _ _ _ (.inl q)⟩
  refine codeAny_call_function hr.depth (KX _ _ lk) rfl S.co S.gen rfl (PySem.W.codeRec_of KX hcd) (hb _ _ _ _ (wpAny_newFunctionEnv_cells S.kind hk fun env he s1 x => ?_))
  subst he
  refine ⟨lim.keeps x.toInCall.keep, codeAny_func ?_⟩
  obtain ⟨t, ht, hq⟩ := hbody A outer s H vs Q E x1 hh (hr.deeper _) hsp
  have e00 : Env0 P w K mg base { A with handled := none } outer s H := ⟨e0.1, e0.2, e0.3, e0.4, e0.5, e0.6, e0.7, e0.8⟩
  have I0 : Inv (cxOf CX0 P w K mg base N qual scope f cdv { A with handled := none } outer s H E0) [] (L2.start N vs) H s1 := inv_start S rfl e00 hl r x
  have ok0 := I0.ok
  have I : Inv (cxC P w K mg base N qual scope f cdv A outer s H) [] (L2.start N vs) H s1 :=
    ⟨⟨ok0.mod, ok0.kind, ok0.glob, ok0.blt, ok0.above, ok0.inj, ok0.has, ok0.cab, (fun z => Bool.noConfusion (show false = true from z)), Around.frames_deeper e0.frames, ok0.stk, ok0.exf, ok0.bs, ok0.bsz, ok0.noex, ok0.exfs, ok0.funs, ok0.frf⟩, I0.os, I0.bare, I0.base, I0.loc, I0.cell, I0.free, I0.freeC, I0.pin, I0.hok, I0.len⟩
  refine wpAny_mono (ht.run [] s1 (L2.start N vs) H _ I hq) (fun fl s' hs => ?_) fun e s' hs => hs.elim
  cases fl with
  | ret u =>
    obtain ⟨v, σ', H', J, rv, q⟩ := hs
    exact ⟨v, H', J.os, J.bare, J.base, J.hok, rv, q⟩
  | next =>
    obtain ⟨σ', H', J, q⟩ := hs
    exact ⟨.non, H', J.os, J.bare, J.base, J.hok, rfl, q⟩
  | brk => obtain ⟨_, _, _, q⟩ := hs; exact q.elim
  | cont => obtain ⟨_, _, _, q⟩ := hs; exact q.elim
/-- room within a suite -/
theorem roomS {k : Nat} {A : Around} (r : Room k A) (h : Option Value) : RoomH k (A.mark h) := ⟨r.dp, r.un⟩
structure CalC (P : Program) (w : World) (K : PySem.W.Frag) (mg : Str → Option Value) (base : Heap) (k : Nat) (x : Str) (sp : Addr → Sp) : Prop where
  ex : ∃ (f : Addr) (fd : FuncData) (ps : List Str), FnC P w K mg base k f fd ps sp ∧ mg x = some (.ref f) ∧ PySem.W.keepIn K (.ref f) = true ∧ L2.Binds K fd ps []
theorem DefAt.calC {P : Program} {w : World} {K : PySem.W.Frag} {mg : Str → Option Value} {base : Heap} {x : Str} {st : Stmt} {ps N : List Str} {k : Nat} {sp : Addr → Sp} (D : DefAt K mg x st ps) (S : FnScope N ps (defScope st)) (len : ∀ x1 vs H Q E, sp x1 vs H Q E → vs.length = ps.length)
    (hb : ∀ (f : Addr) (cdv : Value) (A : Around) (outer : List Env) (s : Shared) (H : Hp) (vs : List V) (Q : VK) (E : XK) (x1 : Addr), A.handled = some (.ref x1) → RoomH k (A.deeper (envOfC x (defScope st) s.heap.objs.size f cdv)) → sp x1 vs H Q E →
      ∃ t, PSs (cxC P w K mg base N x (defScope st) f cdv A outer s H) (defBody st) t ∧ t { nx := fun _ H' => Q .non H', rt := Q } (L2.start N vs) H) : CalC P w K mg base (k + 1) x sp := by
  obtain ⟨f, fd, ⟨⟨oc, od, kV, doc, pm, an, cdv, ct, osl, rfl, lk, hcd⟩, kp⟩, hm, b⟩ := D.ex
  exact ⟨f, _, ps, fn_ofC lk hcd S len fun A outer s H vs Q E x1 => hb f cdv A outer s H vs Q E x1, hm, kp, b⟩
section
variable {X : Cx} {k j : Nat} {x : Str} {sp : Addr → Sp} {p pos : Pos} {e : Expr} {es : List Expr} {t : TA} {x1 : Addr}
def tCallC (sp : Addr → Sp) (x1 : Addr) (t : TA) : TE := fun σ H Q => t σ H fun vs H1 => sp x1 vs H1 Q E0
theorem pe_calC (c : CalC X.prog X.w X.K X.mg X.base k x sp) (hr : RoomH j X.A) (hk : k ≤ j) (hh : X.A.handled = some (.ref x1)) (hg : Gl X x) (ha : PA X (e :: es) t)
    (hdb : (x == ("__debug__" : Str)) = false := by decide) (he : starEach (e :: es) X.env = (false, eval e X.env) :: starEach es X.env := by rfl) (hpl : (backTo pos (starEach es X.env)).any (·.1) = false := by rfl) :
    PE X (.Call (.Name x p) (e :: es) [] pos) (tCallC sp x1 t) := by
  obtain ⟨f, fd, ps, F, hm, kp, b⟩ := c.ex
  refine ⟨fun pins s σ H Q I h => wpAny_Call_Name_kw (ld_glob I hg hm (PySem.W.callWith_K (h₀ := X.base) I.ok.mod.kin kp (thn (ha.run pos pins s σ H _ I h) fun us s1 got => ?_) he hpl) hdb)⟩
  obtain ⟨vs, H1, I1, r, q⟩ := got
  have ln : us.length = ps.length := r.length.symm.trans (F.len _ _ _ _ _ q)
  have bb := b s1 us I1.kIn (by rw [List.append_nil]; exact ln)
  rw [List.append_nil] at bb
  refine ⟨I1.kIn, wpAny_call (codeAny_mono (F.run X.A X.stack s1 H1 ⟨us, []⟩ us vs Q E0 x1 (hr.mono hk) hh I1.env0 bb r q) fun r s' hq => ?_)⟩
  cases r with
  | error e => exact hq.elim
  | ok fl =>
    cases fl with
    | ret u => exact I1.after hq
    | next => exact hq.elim
    | brk => exact hq.elim
    | cont => exact hq.elim
end
/-! ## the handled exception looked at -/
def KeptN (H : Hp) (a C : Addr) (fs : List (Str × V)) : Prop := ∃ d, H a = some (Xn a (.ref C) (some d)) ∧ H d = some (.xd fs)
theorem KeptN.same {H H' : Hp} {a C : Addr} {fs : List (Str × V)} (k : KeptN H a C fs) (s : Same H H') : KeptN H' a C fs := by
  obtain ⟨d, h1, h2⟩ := k
  exact ⟨d, s _ _ h1, s _ _ h2⟩
theorem KeptN.hot {H : Hp} {a C : Addr} {fs : List (Str × V)} (k : KeptN H a C fs) : HotN a H := by
  obtain ⟨d, h1, _⟩ := k
  exact ⟨_, _, h1⟩
theorem keptN_at {X : Cx} {pins : List (Addr × Obj)} {σ : L2.St} {H : Hp} {s : Shared} {a C : Addr} {fs : List (Str × V)} (I : Inv X pins σ H s) (k : KeptN H a C fs) :
    ∃ (oe od : Obj) (d : Addr) (mA : Str → Option Value), PySem.W.InstAt s.heap a oe C (some od) ∧ s.heap.get? d = some od ∧ s.heap.Ns1 d mA ∧ ∀ f, RelO (fs.lookup f) (mA f) := by
  obtain ⟨d, h1, h2⟩ := k
  obtain ⟨oe, vs, e, z, f, _⟩ := xn_at I.hok h1
  have hx : ObjOk X.prog X.w H s.heap d (.xd fs) := I.hok d _ h2
  obtain ⟨mA, hns, hr⟩ := hx
  obtain ⟨od, ho, _⟩ := lookIn_ns hns
  exact ⟨oe, od, d, mA, ⟨e, z.1, by unfold PySem.W.notCls; rw [f] <;> rfl, by rw [z.2]; exact ho⟩, ho, hns, hr⟩
def rIsN (K : PySem.W.Frag) : List V → Hp → VK → Prop := fun xs H Q => ∃ (a C : Addr) (fs : List (Str × V)) (c : V) (cv : Value) (b : Bool), xs = [.ref a, c] ∧ KeptN H a C fs ∧ ExcC K C ∧ ClsV c cv ∧ PySem.W.kitOne K (.ref C) cv = some b ∧ Q (.bl b) H
theorem call_isN {X : Cx} {K : PySem.W.Frag} (h : X.K = K := by rfl) : CallR X (.builtin "isinstance") (rIsN K) := by
  subst h
  intro pins s σ H xs us Q I r h
  obtain ⟨a, C, fs, c, cv, b, rfl, k, EC, hc, e, q⟩ := h
  obtain ⟨oe, od, d, mA, J, _⟩ := keptN_at I k
  obtain ⟨u0, u1, rfl, r0, r1⟩ := vals2 r
  obtain rfl : u0 = Value.ref a := r0
  have ec : u1 = cv := by cases hc <;> exact r1
  subst ec
  obtain ⟨cd, hcd, _⟩ := PySem.W.any_some EC.hd
  exact PySem.W.kia_one (PySem.W.kitx_exc (by rw [hcd]; rfl) EC.hg EC.hk EC.hs EC.ha EC.hn EC.ht EC.hm) I.kIn J e (fun z => nomatch z) fun tk => ⟨.bl b, H, I.kept (t' := tk) fun _ _ z => z, rfl, q⟩
def tXvN (K : PySem.W.Frag) (te : TE) (f : Str) : TE := fun σ H Q => te σ H fun x H1 => ∃ (a C : Addr) (fs : List (Str × V)) (v : V), x = .ref a ∧ KeptN H1 a C fs ∧ XfC K C ∧ PySem.W.findIn K (.ref C) f = some none ∧ fs.lookup f = some v ∧ Q v H1
theorem pe_xvN {X : Cx} {K : PySem.W.Frag} {e : Expr} {te : TE} {f : Str} {pos : Pos} (he : PE X e te) (hb : attributeBase e f X.env (eval e X.env) = eval e X.env := by rfl) (h : X.K = K := by rfl) : PE X (.Attribute e f pos) (tXvN K te f) := by
  subst h
  refine ⟨fun pins s σ H Q I h => attr_of hb (thn (he.run pins s σ H _ I h) fun u s1 hh => ?_)⟩
  obtain ⟨x, H1, I1, rx, a, C, fs, v, rfl, k, T, hno, l, q⟩ := hh
  obtain rfl : u = Value.ref a := rx
  obtain ⟨oe, od, d, mA, J, ho, hns, hr⟩ := keptN_at I1 k
  obtain ⟨od2, ho2, hl⟩ := lookIn_ns hns
  rw [ho] at ho2
  cases ho2
  obtain ⟨u, hu, ru⟩ := RelO.some_of (v := v) (o := mA f) (by rw [← l]; exact hr f)
  exact HandSPX.exc_get I1.kIn J T.ga T.gg T.exC (PySem.W.findObj_own T.hdC hno rfl (by rw [hl, hu])) (handed_of ru) ⟨v, H1, I1.tok _, ru, q⟩
end Sq

/-! ## own tactic words (local) -/
local macro_rules | `(tactic| walk_at "sq hp") => `(tactic| first
  | assumption
  | exact L2.upd_same
  | (refine Sq.Sep.get (by assumption) ?_; walk_at "sq hp")
  | (refine Sq.upd_keep (by assumption) ?_; walk_at "sq hp")
  | (refine Sq.Same.get (by assumption) ?_; walk_at "sq hp")
  | (refine Sq.upd_off (by assumption) ?_; walk_at "sq hp")
  | (refine Sq.upd_off (Ne.symm (by assumption)) ?_; walk_at "sq hp"))
local macro_rules | `(tactic| walk_at "sq sql") => `(tactic| first
  | assumption
  | exact Sq.seqL_of (by walk_at "sq hp")
  | exact L2.Same.seq (by assumption) (by assumption)
  | exact L2.Same.seq (Sq.Sep.same (by assumption)) (by assumption))
local macro_rules | `(tactic| walk_at "sq len") => `(tactic| (
  (try simp only [List.length_map, List.length_append, List.length_cons, List.length_nil, List.length_take, List.length_drop, List.length_reverse]); (try rw [PySem.sizeLine_eq]); omega))
local macro_rules | `(tactic| walk_at "sq side") => `(tactic| first
  | exact rfl
  | exact Nat.zero_le _
  | exact Sq.lit_len (Nat.le_of_ble_eq_true rfl)
  | ((with_reducible show L2.SqL _ _ _ _); walk_at "sq sql")
  | ((with_reducible show L2.SqT _ _ _ _); exact L2.SqT.of (by walk_at "sq hp"))
  | (apply Exists.intro; walk_at "sq sql")
  | ((with_reducible show _ = some _); walk_at "sq hp")
  | ((with_reducible show Sq.Sep _ _ _); assumption)
  | ((with_reducible show L2.ClsV _ _); first | exact .ty _ | exact .own _)
  | ((with_reducible show L2.TyX _ _ _ _); first | exact .base .non | exact .base (.bl _) | exact .base (.int _) | exact .base (.str _) | exact Sq.tyx_lst (by walk_at "sq sql") | exact Sq.tyx_tup (by exact L2.SqT.of (by walk_at "sq hp")) | assumption)
  | ((with_reducible show Sq.CPowW _ _); first | assumption | exact ⟨by decide, by decide, by decide⟩)
  | ((with_reducible show L2.CMulW _ _); first | assumption | exact (by decide +kernel))
  | ((with_reducible show L2.CDivW _ _); first | assumption | exact ⟨by decide, by decide⟩)
  | ((with_reducible show L2.tyV _ "list" _ _); exact Or.inl ⟨rfl, _, by walk_at "sq sql"⟩)
  | ((with_reducible show _ < PySem.sizeLine); walk_at "sq len")
  | ((with_reducible show _ ≤ PySem.sizeLine); walk_at "sq len")
  | ((with_reducible show (0 : Int) < _); first | assumption | decide | omega)
  | decide
  | omega)
local macro_rules | `(tactic| walk_at "sq go") => `(tactic| repeat (first
  | exact rfl
  | (fail_if_success (show ∃ W : Nat → Nat → L2.St → L2.Hp → Prop, _)
     fail_if_success (show ∃ W : Nat → Nat → L2.Hp → Prop, _)
     fail_if_success (show ∃ W : Nat → L2.St → L2.Hp → Prop, _)
     fail_if_success (show ∃ W : Nat → Nat → List L2.V → L2.St → L2.Hp → Prop, _)
     apply Exists.intro)
  | (apply And.intro; focus walk_at "sq side")
  | refine L2.iteT ?_
  | refine L2.iteF ?_))
namespace Sq
open PySem PySem.Spec PyProof.Rows L2
def topS (i : Nat) : Stmt := PySem.Challenge.pw_squeezelists_k16_errors_of_parting.main.body.getD i (.Pass ⟨0, 0, 0, 0⟩)
structure Bt (mg : Str → Option Value) : Prop where
  «ValueError» : mg "ValueError" = none
  «bool» : mg "bool" = none
  «enumerate» : mg "enumerate" = none
  «int» : mg "int" = none
  «isinstance» : mg "isinstance" = none
  «len» : mg "len" = none
  «list» : mg "list" = none
  «max» : mg "max" = none
  «min» : mg "min" = none
  «range» : mg "range" = none
  «repr» : mg "repr" = none
  «str» : mg "str" = none
  «tuple» : mg "tuple" = none
  «zip» : mg "zip" = none
section
variable {P : Program} {w : World} {K : PySem.W.Frag} {mg : Str → Option Value} {base : Heap}

/-! ### the checks, also where they raise -/
/-- the first number below 2 -/
def bad (ns : List Int) : Option Nat := ns.findIdx? fun k => decide (k < 2)
theorem bad_none {ns : List Int} : bad ns = none ↔ Two ns := by
  unfold bad Two
  rw [List.findIdx?_eq_none_iff]
  constructor
  · intro h k hk
    have := h k hk
    simpa using this
  · intro h k hk
    have := h k hk
    simp
    omega
theorem bad_at {ns : List Int} {i : Nat} {n : Int} (h : ns[i]? = some n) (c : n < 2) (le : ∀ j : Nat, j < i → ∀ k, ns[j]? = some k → 2 ≤ k) : bad ns = some i := by
  unfold bad
  rw [List.findIdx?_eq_some_iff_getElem]
  obtain ⟨lt, e⟩ := List.getElem?_eq_some_iff.mp h
  refine ⟨lt, by rw [e]; simpa using c, fun j hj => ?_⟩
  have := le j hj _ (List.getElem?_eq_getElem (by omega))
  simp
  omega
abbrev s_check_list : Stmt := topS 8
theorem sc_check_list : FnScope ["replacements", "index", "replacement"] ["replacements"] (defScope s_check_list) := ⟨rfl, rfl, rfl, by decide +kernel, rfl, by decide +kernel, by decide +kernel⟩

def spCheckX (K : PySem.W.Frag) (CL : Addr) : Sp := fun vs H Q E => ∃ (a : Addr) (ns : List Int), vs = [.ref a] ∧ SqL K H a (iv ns) ∧ Keep ((bad ns = none → ∀ H', Same H H' → Q .non H') ∧
  ∀ i : Nat, bad ns = some i → ∀ d H', Same H H' → H' d = some (.xd [("value", .int i)]) → E (.ref CL) (some d) H')
theorem cal_check_listX {CL : Addr} (D : DefAt K mg "check_list" s_check_list ["replacements"]) (B : Bt mg) (c_InvalidList : Rai P w K mg base 1 "InvalidList" CL) : CalXN P w K mg base 3 "check_list" (spCheckX K CL) := by
  refine D.calXN sc_check_list (fun vs H Q E h => ?_) (fun f cdv A outer s H vs Q E hr h tk => ?_)
  · obtain ⟨a, ns, rfl, _⟩ := h
    rfl
  · obtain ⟨a, ns, rfl, hS, ⟨q, qe⟩⟩ := h
    refine ⟨_, (pss_one (ps_for PassesOwn.leaving rfl (pi_enumK (K := K) (by rfl) B.enumerate (pa_cons (pv 0) pa_nil)) (pg_tupK (K := K) (n := 2) rfl (pgs_cons (pg_name (i := 1) sc_check_list.nd rfl (Or.inl rfl)) (pgs_cons (pg_name (i := 2) sc_check_list.nd rfl (Or.inl rfl)) pgs_nil)))
   (pss_one (ps_if (pt_cmpR op_lt (pv 2) pe_int (nomark _)) (pss_one (ps_rxN c_InvalidList hr (by first | decide | omega) (by rfl) tk (pv 1))) pss_nil)))), ?_⟩
    walk_at "sq go"
    refine for_enum (K := K) (a := a) (xs := iv ns) (fun i σ H' => Keep (∃ x y, σ = [some (.ref a), x, y] ∧ Same H H' ∧ ∀ j : Nat, j < i → ∀ k, ns[j]? = some k → 2 ≤ k)) ⟨none, none, rfl, .refl H, fun j hj => absurd hj (by omega)⟩ (fun i σ H' h => ?_) (fun i x T σ H' hx h nT => ?_) (fun σ H' h => ?_)
    · obtain ⟨_, _, _, s, _⟩ := h.o
      exact s.seq hS
    · obtain ⟨y1, y2, rfl, s, le⟩ := h.o
      obtain ⟨n, hn, rfl⟩ := iv_get hx
      have s1 := s.trans (same_new (o := .tup [.int (i : Nat), .int n]) nT)
      walk_at "sq go"
      refine ifD (fun c => ?_) (fun c => ?_)
      · walk_at "sq go"
        intro d nd
        refine qe i (bad_at hn c le) d _ (s1.trans (same_new nd)) upd_same
      · refine ⟨_, _, rfl, s1, fun j hj k hk => ?_⟩
        rcases Nat.lt_succ_iff_lt_or_eq.mp hj with z | z
        · exact le j z k hk
        · rw [z, hn] at hk
          cases hk
          omega
    · obtain ⟨y1, y2, rfl, s, le⟩ := h.o
      refine q (bad_none.mpr fun k hk => ?_) H' s
      obtain ⟨j, hj⟩ := List.mem_iff_getElem?.mp hk
      have lt : j < ns.length := (List.getElem?_eq_some_iff.mp hj).1
      exact le j (by rw [iv_len]; exact lt) k hj

abbrev s_greatest_origin_of : Stmt := topS 10
theorem sc_greatest_origin_of : FnScope ["length", "replacements", "replacement"] ["length", "replacements"] (defScope s_greatest_origin_of) := ⟨rfl, rfl, rfl, by decide +kernel, rfl, by decide +kernel, by decide +kernel⟩

/-- sizes of a length and a list's numbers -/
def FitP (ns : List Int) (m : Int) : Prop := ∃ b c : Nat, (∀ k ∈ ns, Sm b k) ∧ Sm c m ∧ 10 ≤ b ∧ 10 ≤ c ∧ c + (ns.length + 1) * b ≤ 900000
theorem sm_prod {b c : Nat} {m : Int} : ∀ {ns : List Int}, (∀ k ∈ ns, Sm b k) → Sm c m → Sm (c + ns.length * b) (m * prodL ns)
  | [], _, h => by simpa [prodL] using h
  | k :: r, hb, h => by
    have ih := sm_prod (ns := r) (m := m * k) (c := c + b) (fun j hj => hb j (List.mem_cons_of_mem _ hj)) (h.mul (hb k (List.mem_cons_self ..)))
    rw [prodL_cons, ← Int.mul_assoc, List.length_cons, Nat.add_mul, Nat.one_mul, show c + (r.length * b + b) = c + b + r.length * b by omega]
    exact ih
def spGO (K : PySem.W.Frag) : Sp := fun vs H Q _ => ∃ (n : Int) (p : Addr) (ns : List Int), vs = [.int n, .ref p] ∧ SqL K H p (iv ns) ∧ Keep (FitP ns n) ∧ Q (.int (n * prodL ns)) H
theorem prod_take {row : List Int} {k : Int} {i : Nat} (h : row[i]? = some k) (n : Int) : n * prodL (row.take (i + 1)) = n * prodL (row.take i) * k := by
  rw [List.take_add_one, h]
  show n * prodL (row.take i ++ [k]) = _
  rw [prodL_snoc, Int.mul_assoc]
theorem cal_greatest_origin_of (D : DefAt K mg "greatest_origin_of" s_greatest_origin_of ["length", "replacements"]) (B : Bt mg) : Cal P w K mg base 1 "greatest_origin_of" (spGO K) [] := by
  refine D.cal sc_greatest_origin_of (fun vs H Q E h => ?_) (fun f cdv A outer s H vs Q E hr h => ?_)
  · obtain ⟨n, p, ns, rfl, _⟩ := h
    rfl
  · obtain ⟨n, p, ns, rfl, hS, ⟨b, c, hb, hc, h10, hc10, hz⟩, q⟩ := h
    refine ⟨_, (pss_cons (ps_for PassesOwn.never rfl (pi_listK (K := K) (pv 1)) (pg_name (i := 2) sc_greatest_origin_of.nd rfl (Or.inl rfl))
   (pss_one (ps_aug (i := 0) sc_greatest_origin_of.nd rfl (Or.inl rfl) (pv 2) ip_mulW)))
  (pss_one (ps_ret (pv 0)))), ?_⟩
    walk_at "sq go"
    refine for_list (K := K) (a := p) (xs := iv ns) (fun i σ H' => Keep (∃ x, σ = [some (.int (n * prodL (ns.take i))), some (.ref p), x] ∧ H' = H)) ⟨none, by simp [prodL, L2.start], rfl⟩ (fun i σ H' _ h => ?_) (fun i x σ H' hx h => ?_) (fun σ H' h => ?_)
    · obtain ⟨x, _, rfl⟩ := h.o
      exact hS
    · obtain ⟨x, rfl, rfl⟩ := h.o
      obtain ⟨k, hk, rfl⟩ := iv_get hx
      have s1 := sm_prod (ns := ns.take i) (fun j hj => hb j (List.mem_of_mem_take hj)) hc
      have len : (ns.take i).length ≤ ns.length := by
        rw [List.length_take]
        omega
      have le := Nat.mul_le_mul_right b len
      have wm : CMulW (n * prodL (ns.take i)) k := s1.wide (hb k (List.mem_of_getElem? hk)) (by omega) (by omega) (by
        rw [Nat.add_mul] at hz
        omega)
      walk_at "sq go"
      exact ⟨_, by rw [prod_take hk]; rfl, rfl⟩
    · obtain ⟨x, rfl, rfl⟩ := h.o
      have e : (iv ns).length = ns.length := iv_len _
      rw [e, List.take_length]
      walk_at "sq go"
      exact q

/-! ### runs that part two lists, also where errors are due -/
/-- bounds of a list that may be bad -/
def Bd0 (ns : List Int) : Prop := (∀ k ∈ ns, k ≤ 10 ^ 6) ∧ ns.length ≤ 200
theorem Bd0.ok {ns : List Int} (h : Bd0 ns) (e : bad ns = none) : Two ns ∧ (∀ k ∈ ns, k ≤ 10 ^ 6) ∧ ns.length ≤ 200 := ⟨bad_none.mp e, h.1, h.2⟩
def Bnd (ns : List Int) : Prop := Two ns ∧ (∀ k ∈ ns, k ≤ 10 ^ 6) ∧ ns.length ≤ 200
theorem Bnd.sub {ns ms : List Int} (h : Bnd ns) (hs : ∀ k ∈ ms, k ∈ ns) (hl : ms.length ≤ ns.length) : Bnd ms := ⟨fun k hk => h.1 k (hs k hk), fun k hk => h.2.1 k (hs k hk), Nat.le_trans hl h.2.2⟩
theorem Bnd.sm {ns : List Int} (h : Bnd ns) : ∀ k ∈ ns, Sm 20 k := fun k hk => by
  have := h.1 k hk
  have := h.2.1 k hk
  unfold Sm
  omega
theorem Bnd.fit {ns : List Int} (h : Bnd ns) {m : Int} {c : Nat} (hm : Sm c m) (h10 : 10 ≤ c) (hc : c ≤ 100000) : FitP ns m := by
  refine ⟨20, c, h.sm, hm, by decide, h10, ?_⟩
  have := h.2.2
  omega
theorem Bnd.prod {ns : List Int} (h : Bnd ns) : Sm 4010 (prodL ns) := by
  have z := sm_prod (ns := ns) (m := 1) (c := 10) h.sm (by unfold Sm; decide)
  rw [Int.one_mul] at z
  refine z.mono ?_
  have := h.2.2
  omega
abbrev s_parting_run : Stmt := topS 13
theorem sc_parting_run : FnScope ["first", "second", "one", "other", "index", "run", "left", "right"] ["first", "second"] (defScope s_parting_run) := ⟨rfl, rfl, rfl, by decide +kernel, rfl, by decide +kernel, by decide +kernel⟩

/-- of two lists: what is due first -/
def spTwoX (K : PySem.W.Frag) (CL : Addr) : Sp := fun vs H Q E => ∃ (a b : Addr) (ns ms : List Int), vs = [.ref a, .ref b] ∧ SqL K H a (iv ns) ∧ SqL K H b (iv ms) ∧ Keep (Bd0 ns ∧ Bd0 ms ∧ (bad ns = none → bad ms = none → ∀ v H', Same H H' → Q v H') ∧
  (∀ i : Nat, bad ns = some i → ∀ d H', Same H H' → H' d = some (.xd [("value", .int i)]) → E (.ref CL) (some d) H') ∧ ∀ i : Nat, bad ns = none → bad ms = some i → ∀ d H', Same H H' → H' d = some (.xd [("value", .int i)]) → E (.ref CL) (some d) H')
local macro_rules | `(tactic| walk_at "sq side") => `(tactic| first
  | ((with_reducible show _ → _ → _ → _ → _ = false); assumption)
  | ((with_reducible show List.all _ _ = true); assumption)
  | ((with_reducible show _[_]? = some _); assumption))
theorem cal_partX {CL : Addr} (D : DefAt K mg "parting_run" s_parting_run ["first", "second"]) (B : Bt mg) (g_SINGLE : ∃ u, mg "SINGLE" = some u ∧ L2.RelV (.int 1) u) (c_check_listX : CalXN P w K mg base 3 "check_list" (spCheckX K CL)) (c_greatest_origin_of : Cal P w K mg base 1 "greatest_origin_of" (spGO K) []) : CalXN P w K mg base 4 "parting_run" (spTwoX K CL) := by
  refine D.calXN sc_parting_run (fun vs H Q E h => ?_) (fun f cdv A outer s H vs Q E hr h tk => ?_)
  · obtain ⟨a, b, ns, ms, rfl, _⟩ := h
    rfl
  · obtain ⟨a, b, ns, ms, rfl, hA, hB, ⟨zn, zm, q, x1, x2⟩⟩ := h
    refine ⟨_, (pss_cons (ps_expr (pe_cxN c_check_listX hr (by first | decide | omega) tk (by rfl) (pa_cons (pv 0) pa_nil)))
  (pss_cons (ps_expr (pe_cxN c_check_listX hr (by first | decide | omega) tk (by rfl) (pa_cons (pv 1) pa_nil)))
  (pss_cons (ps_if (pt_cmpR (op_eqDK (K := K) hr.units) (pv 0) (pv 1) (nomark _)) (pss_one (ps_ret pe_non)) pss_nil)
  (pss_cons (ps_par (i := 2) (j := 3) rfl sc_parting_run.nd rfl rfl (by decide) rfl rfl (pa_cons (pe_c c_greatest_origin_of hr (by first | decide | omega) (by rfl) (pa_cons (pe_gc (by rfl) g_SINGLE) (pa_cons (pv 0) pa_nil))) (pa_cons (pe_c c_greatest_origin_of hr (by first | decide | omega) (by rfl) (pa_cons (pe_gc (by rfl) g_SINGLE) (pa_cons (pv 1) pa_nil))) pa_nil)) (by rfl))
  (pss_cons (ps_if (pt_cmpR op_ne (pv 2) (pv 3) (nomark _)) (pss_one (ps_ret (pe_callB (call_max2 rfl) (by rfl) B.max (by decide +kernel) (pa_cons (pv 2) (pa_cons (pv 3) pa_nil))))) pss_nil)
  (pss_cons (ps_set (i := 4) sc_parting_run.nd rfl (Or.inl rfl) (pe_bm PySem.F.plainAttrs_list PySem.F.slot_list_index PySem.F.type_list_index mt_index (pe_lc (own := [("left", 6), ("right", 7)]) (by rfl) sc_parting_run.nd (pi_zipK (K := K) (by rfl) B.zip (pa_cons (pv 0) (pa_cons (pv 1) pa_nil))) (blkOk_by (own := [("left", 6), ("right", 7)]) (N := ["first", "second", "one", "other", "index", "run", "left", "right"]) (sc := defScope s_parting_run) (by decide +kernel)) (fun _ _ _ _ _ => (pg_tupK (K := K) (n := 2) rfl (pgs_cons (pg_name (i := 6) sc_parting_run.nd rfl (Or.inl rfl)) (pgs_cons (pg_name (i := 7) sc_parting_run.nd rfl (Or.inl rfl)) pgs_nil)))) (fun _ _ _ _ _ => pts_nil) (fun _ _ _ _ _ => (pe_cmpR op_ne (pv 6) (pv 7) (nomark _)))) (pa_cons pe_bl pa_nil)))
  (pss_cons (ps_set (i := 5) sc_parting_run.nd rfl (Or.inl rfl) (pe_op op_add (pe_op op_sub (pe_c c_greatest_origin_of hr (by first | decide | omega) (by rfl) (pa_cons (pe_gc (by rfl) g_SINGLE) (pa_cons (pe_slice (sl_listK (K := K)) (pv 0) (po_some (pv 4)) po_none) pa_nil))) (pe_callB (call_min2 rfl) (by rfl) B.min (by decide +kernel) (pa_cons (pe_ix (ix_listK (K := K)) (pv 0) (pv 4) (fun _ _ => rfl)) (pa_cons (pe_ix (ix_listK (K := K)) (pv 1) (pv 4) (fun _ _ => rfl)) pa_nil)))) pe_int))
  (pss_one (ps_ret (pe_c c_greatest_origin_of hr (by first | decide | omega) (by rfl) (pa_cons (pv 5) (pa_cons (pe_slice (sl_listK (K := K)) (pv 0) po_none (po_some (pv 4))) pa_nil)))))))))))), ?_⟩
    walk_at "sq go"
    refine ⟨⟨fun eb H1 s1 => ?_, fun i eb d H1 s1 hd => x1 i eb d H1 s1 hd⟩⟩
    have hB1 := s1.seq hB
    walk_at "sq go"
    refine ⟨⟨fun em H2 s2 => ?_, fun i em d H2 s2 hd => x2 i eb em d H2 (s1.trans s2) hd⟩⟩
    have bn : Bnd ns := zn.ok eb
    have bm : Bnd ms := zm.ok em
    have q := q eb em
    have s12 := s1.trans s2
    have hA2 := s12.seq hA
    have hB2 := s12.seq hB
    walk_at "sq go"
    refine r_eqI hA2 hB2 ?_
    walk_at "sq go"
    refine ifD (fun e => ?_) (fun ne => ?_)
    · walk_at "sq go"
      exact q _ _ s12
    · have one : Sm 10 (1 : Int) := by unfold Sm; decide
      have fa := bn.fit one (by decide) (by decide)
      have fb := bm.fit one (by decide) (by decide)
      walk_at "sq go"
      refine ⟨⟨fa⟩, ?_⟩
      walk_at "sq go"
      refine ⟨⟨fb⟩, ?_⟩
      walk_at "sq go"
      refine ifIN (fun np => ?_) (fun ep => ?_)
      · walk_at "sq go"
        have z := part_max bn.1 bm.1 (fun z => np (by rw [z])) (n := if 1 * prodL ms > 1 * prodL ns then 1 * prodL ms else 1 * prodL ns) (by rw [Int.one_mul, Int.one_mul])
        exact q _ _ s12
      · have ep2 : prodL ns = prodL ms := by omega
        obtain ⟨j, x, y, ex, ey, nxy, bef⟩ := part_has bn.1 bm.1 ep2 ne
        walk_at "sq go"
        intro D1 nD
        have lD : (iv ns).length = ns.length := iv_len _
        have lE : (iv ms).length = ms.length := iv_len _
        refine lc_it (walk_zip (K := K) (a := a) (b := b) (xs := iv ns) (ys := iv ms) rfl) (fun i H' => Keep (∃ bs : List Bool, But D1 (upd H2 D1 (.lst [])) H' ∧ H' D1 = some (.lst (bs.map V.bl)) ∧ bs.length = i ∧ ∀ t, t < i → bs[t]? = some (!decide (ns[t]? = ms[t]?)))) ⟨[], .refl _ _, upd_same, rfl, fun t ht => absurd ht (by omega)⟩ (fun i H' _ h => ?_) (fun i v H' H'' hi h hy => ?_) (fun H' h => ?_)
        · obtain ⟨bs, bt, _⟩ := h.o
          have sB := bt.same (same_new nD) nD
          exact ⟨sB.seq hA2, sB.seq hB2⟩
        · obtain ⟨bs, bt, hD, lb, ok⟩ := h.o
          obtain ⟨T, u, w', rfl, nT, rfl, eu, ew⟩ := hy
          obtain ⟨k, hk, rfl⟩ := iv_get eu
          obtain ⟨l, hl, rfl⟩ := iv_get ew
          have hD2 := upd_keep (o := .tup [.int k, .int l]) nT hD
          have hT : upd H' T (.tup [.int k, .int l]) T = some (.tup [.int k, .int l]) := upd_same
          have li := (List.getElem?_eq_some_iff.mp hk).1
          have sz : (bs.map V.bl).length < sizeLine := by
            rw [List.length_map]
            have := bn.2.2
            exact small1000 (by omega)
          walk_at "sq go"
          refine ⟨bs ++ [!decide (V.int k = V.int l)], bt.trans ((But.of (same_new nT)).trans But.put), by rw [upd_same, List.map_append]; rfl, by simp [lb], fun t ht => ?_⟩
          rcases Nat.lt_succ_iff_lt_or_eq.mp ht with z | z
          · rw [List.getElem?_append_left (by omega)]
            exact ok t z
          · subst z
            rw [List.getElem?_append_right (by omega), show t - bs.length = 0 by omega, hk, hl]
            show some (!decide (V.int k = V.int l)) = some (!decide (some k = some l))
            congr 2
            by_cases e : k = l
            · rw [decide_eq_true (congrArg V.int e), decide_eq_true (congrArg some e)]
            · rw [decide_eq_false fun z => e (V.int.inj z), decide_eq_false fun z => e (Option.some.inj z)]
        · obtain ⟨bs, bt, hD, lb, ok⟩ := h.o
          have sB := bt.same (same_new nD) nD
          have hA3 := sB.seq hA2
          have hB3 := sB.seq hB2
          have lx := (List.getElem?_eq_some_iff.mp ex).1
          have ly := (List.getElem?_eq_some_iff.mp ey).1
          have flt : (bs.map V.bl).all flatV = true := by
            rw [List.all_eq_true]
            intro v hv
            obtain ⟨c, _, rfl⟩ := List.mem_map.mp hv
            rfl
          have hz : (bs.map V.bl)[j]? = some (.bl true) := by
            rw [List.getElem?_map, ok j (by omega), ex, ey, decide_eq_false fun z => nxy (Option.some.inj z)]
            rfl
          have hno : ∀ (m : Nat) (z' : V), m < j → (bs.map V.bl)[m]? = some z' → eqV z' (.bl true) = false := fun m z' hm e => by
            rw [List.getElem?_map, ok m (by omega), bef m hm, decide_eq_true rfl] at e
            have := Option.some.inj e
            rw [← this]
            rfl
          walk_at "sq go"
          intro A1 nA1
          rw [cut_from, iv_drop]
          have bD : Bnd (ns.drop j) := bn.sub (fun k hk => List.mem_of_mem_drop hk) (by rw [List.length_drop]; omega)
          have bT : Bnd (ns.take j) := bn.sub (fun k hk => List.mem_of_mem_take hk) (by rw [List.length_take]; omega)
          have hD1 : SqL K (upd H' A1 (.lst (iv (ns.drop j)))) A1 (iv (ns.drop j)) := seqL_of upd_same
          have sA1 := same_new (o := .lst (iv (ns.drop j))) nA1
          have hA4 := sA1.seq hA3
          have hB4 := sA1.seq hB3
          have atx : atI (iv ns) ((j : Nat) : Int) = some (.int x) := atI_nat (by rw [List.getElem?_map, ex]; rfl)
          have aty : atI (iv ms) ((j : Nat) : Int) = some (.int y) := atI_nat (by rw [List.getElem?_map, ey]; rfl)
          walk_at "sq go"
          refine ⟨⟨bD.fit one (by decide) (by decide)⟩, ?_⟩
          walk_at "sq go"
          intro A2 nA2
          rw [cut_to, iv_take]
          have hT1 : SqL K (upd (upd H' A1 (.lst (iv (ns.drop j)))) A2 (.lst (iv (ns.take j)))) A2 (iv (ns.take j)) := seqL_of upd_same
          obtain ⟨n1, n2⟩ := part_at bn.1 bm.1 ep2 bef ex ey nxy
          have pD := bD.prod
          have x2 := bn.1 x (List.mem_of_getElem? ex)
          have y2 := bm.1 y (List.mem_of_getElem? ey)
          have pos := prodL_pos bT.1
          have sR : Sm 4010 (1 * prodL (ns.drop j) - (if y < x then y else x) + 1) := by
            have pd := prodL_pos bD.1
            refine Sm.le pD ?_ ?_
            · have : (if y < x then y else x) ≤ prodL (ns.drop j) := by
                have dx : ns.drop j = x :: ns.drop (j + 1) := by
                  obtain ⟨l, e⟩ := List.getElem?_eq_some_iff.mp ex
                  rw [List.drop_eq_getElem_cons l, e]
                have pr := prodL_pos (ns := ns.drop (j + 1)) fun k hk => bn.1 k (List.mem_of_mem_drop hk)
                have : x * 1 ≤ x * prodL (ns.drop (j + 1)) := Int.mul_le_mul_of_nonneg_left pr (by omega)
                rw [dx, prodL_cons]
                split <;> omega
              omega
            · split <;> omega
          walk_at "sq go"
          refine ⟨⟨bT.fit sR (by decide) (by decide)⟩, ?_⟩
          rw [Int.one_mul]
          exact q _ _ (s12.trans (sB.trans (sA1.trans (same_new nA2))))
abbrev s_commute : Stmt := topS 14
theorem sc_commute : FnScope ["first", "second"] ["first", "second"] (defScope s_commute) := ⟨rfl, rfl, rfl, by decide +kernel, rfl, by decide +kernel, by decide +kernel⟩

theorem cal_commX {CL : Addr} (D : DefAt K mg "commute" s_commute ["first", "second"]) (B : Bt mg) (c_check_listX : CalXN P w K mg base 3 "check_list" (spCheckX K CL)) : CalXN P w K mg base 4 "commute" (spTwoX K CL) := by
  refine D.calXN sc_commute (fun vs H Q E h => ?_) (fun f cdv A outer s H vs Q E hr h tk => ?_)
  · obtain ⟨a, b, ns, ms, rfl, _⟩ := h
    rfl
  · obtain ⟨a, b, ns, ms, rfl, hA, hB, ⟨zn, zm, q, x1, x2⟩⟩ := h
    refine ⟨_, (pss_cons (ps_expr (pe_cxN c_check_listX hr (by first | decide | omega) tk (by rfl) (pa_cons (pv 0) pa_nil)))
  (pss_cons (ps_expr (pe_cxN c_check_listX hr (by first | decide | omega) tk (by rfl) (pa_cons (pv 1) pa_nil)))
  (pss_one (ps_ret (pe_cmpR (op_eqDK (K := K) hr.units) (pe_lst (pa_starK (K := K) (pv 0) (pa_starK (K := K) (pv 1) pa_nil))) (pe_lst (pa_starK (K := K) (pv 1) (pa_starK (K := K) (pv 0) pa_nil))) (nomark _)))))), ?_⟩
    walk_at "sq go"
    refine ⟨⟨fun eb H1 s1 => ?_, fun i eb d H1 s1 hd => x1 i eb d H1 s1 hd⟩⟩
    have hB1 := s1.seq hB
    walk_at "sq go"
    refine ⟨⟨fun em H2 s2 => ?_, fun i em d H2 s2 hd => x2 i eb em d H2 (s1.trans s2) hd⟩⟩
    have bn : Bnd ns := zn.ok eb
    have bm : Bnd ms := zm.ok em
    have q := q eb em
    have s12 := s1.trans s2
    have hA2 := s12.seq hA
    have hB2 := s12.seq hB
    have sz : (iv ns ++ (iv ms ++ [])).length ≤ sizeLine := by
      have := bn.2.2
      have := bm.2.2
      rw [List.append_nil, List.length_append, iv_len, iv_len, sizeLine_eq]
      omega
    have sz2 : (iv ms ++ (iv ns ++ [])).length ≤ sizeLine := by
      have := bn.2.2
      have := bm.2.2
      rw [List.append_nil, List.length_append, iv_len, iv_len, sizeLine_eq]
      omega
    walk_at "sq go"
    intro C1 nC1
    have hA3 := (same_new (o := .lst (iv ns ++ (iv ms ++ []))) nC1).seq hA2
    have hB3 := (same_new (o := .lst (iv ns ++ (iv ms ++ []))) nC1).seq hB2
    walk_at "sq go"
    intro C2 nC2
    have e1 : iv ns ++ (iv ms ++ []) = iv (ns ++ ms) := by simp
    have e2 : iv ms ++ (iv ns ++ []) = iv (ms ++ ns) := by simp
    rw [e1] at nC2
    rw [e1, e2]
    refine r_eqI (xs := ns ++ ms) (ys := ms ++ ns) (seqL_of (upd_keep nC2 upd_same)) (seqL_of upd_same) ?_
    exact q _ _ (s12.trans ((same_new nC1).trans (same_new nC2)))

/-! ### the source of draws (a list: great cells, the digits left, a mix, a count) -/
def RB (r d : Addr) (N : Int) (ds : List Int) (a mix n : Int) (H : Hp) : Prop :=
  H r = some (.lst [.ref d, .int a, .int mix, .int n]) ∧ H d = some (.lst (iv ds)) ∧ d ≠ r ∧ 0 ≤ mix ∧ mix < 2305843009213693952 ∧ 0 ≤ n ∧ n ≤ N
def rgB (r d : Addr) (N : Int) : Rg where
  I := fun H => ∃ ds a mix n, RB r d N ds a mix n H
  S := fun x => x = r ∨ x = d
  loc := fun H H' e ⟨ds, a, mix, n, h1, h2, h3⟩ => ⟨ds, a, mix, n, (e r (.inl rfl)).trans h1, (e d (.inr rfl)).trans h2, h3⟩
  has := fun H x ⟨ds, a, mix, n, h1, h2, _⟩ hx => by
    rcases hx with rfl | rfl
    · rw [h1]; exact fun z => nomatch z
    · rw [h2]; exact fun z => nomatch z
/-- the source is drawn from: all else stands -/
theorem SepB.redo {r d : Addr} {N N' : Int} {G H H' : Hp} (s : Sep (rgB r d N) G H) (e : ∀ b o, b ≠ r → b ≠ d → H b = some o → H' b = some o) (h : ∃ ds a mix n, RB r d N' ds a mix n H') : Sep (rgB r d N') G H' := by
  refine ⟨h, fun b o q => ?_, s.off⟩
  have nr : b ≠ r := fun z => by
    have := s.off b (.inl z)
    rw [q] at this
    cases this
  have nd : b ≠ d := fun z => by
    have := s.off b (.inr z)
    rw [q] at this
    cases this
  exact e b o nr nd (s.same b o q)
theorem SepB.mono {r d : Addr} {N N' : Int} {G H : Hp} (s : Sep (rgB r d N) G H) (h : N ≤ N') : Sep (rgB r d N') G H := by
  obtain ⟨ds, a, mix, n, h1, h2, h3, h4, h5, h6, h7⟩ := s.inv
  exact SepB.redo s (fun _ _ _ _ z => z) ⟨ds, a, mix, n, h1, h2, h3, h4, h5, h6, by omega⟩
abbrev s_law_source : Stmt := topS 16
theorem sc_law_source : FnScope ["script", "mix", "digits", "cell", "span"] ["script"] (defScope s_law_source) := ⟨rfl, rfl, rfl, by decide +kernel, rfl, by decide +kernel, by decide +kernel⟩

def spSource (K : PySem.W.Frag) : Sp := fun vs H Q _ => ∃ (p : Addr) (ns : List Int), vs = [.ref p] ∧ SqL K H p (iv ns) ∧ ns.length ≤ 63 ∧ ∀ r d H', Same H H' → Sep (rgB r d 0) H H' → Q (.ref r) H'
theorem cal_source (D : DefAt K mg "_law_source" s_law_source ["script"]) (B : Bt mg) : Cal P w K mg base 1 "_law_source" (spSource K) [] := by
  refine D.cal sc_law_source (fun vs H Q E h => ?_) (fun f cdv A outer s H vs Q E hr h => ?_)
  · obtain ⟨p, ns, rfl, _⟩ := h
    rfl
  · obtain ⟨p, ns, rfl, hS, hl, q⟩ := h
    refine ⟨_, (pss_cons (ps_set (i := 1) sc_law_source.nd rfl (Or.inl rfl) pe_int)
  (pss_cons (ps_set (i := 2) sc_law_source.nd rfl (Or.inl rfl) (pe_lst pa_nil))
  (pss_cons (ps_for PassesOwn.never rfl (pi_listK (K := K) (pv 0)) (pg_name (i := 3) sc_law_source.nd rfl (Or.inl rfl))
   (pss_cons (ps_set (i := 1) sc_law_source.nd rfl (Or.inl rfl) (pe_op op_mod (pe_op op_add (pe_op op_mulW (pv 1) pe_int) (pv 3)) (pe_op op_sub (pe_op op_powW pe_int pe_int) pe_int)))
  (pss_cons (ps_set (i := 4) sc_law_source.nd rfl (Or.inl rfl) (pe_callB (call_max2 rfl) (by rfl) B.max (by decide +kernel) (pa_cons (pv 3) (pa_cons (pe_op op_sub pe_int (pv 3)) pa_nil))))
  (pss_one (ps_if (pt_cmpR op_ge (pv 4) (pe_op op_powW pe_int pe_int) (nomark _)) (pss_one (ps_expr (pe_bm PySem.F.plainAttrs_list PySem.F.slot_list_append PySem.F.type_list_append mt_append (pv 2) (pa_cons (pe_op op_sub (pv 4) (pe_op op_powW pe_int pe_int)) pa_nil)))) pss_nil)))))
  (pss_one (ps_ret (pe_lst (pa_cons (pv 2) (pa_cons pe_int (pa_cons (pv 1) (pa_cons pe_int pa_nil)))))))))), ?_⟩
    walk_at "sq go"
    intro d nd
    have s1 : Same H (upd H d (.lst [])) := same_new nd
    have npd : ∀ H' : Hp, Same H H' → SqL K H' p (iv ns) := fun H' s => s.seq hS
    walk_at "sq go"
    refine for_list (K := K) (a := p) (xs := iv ns) (fun i σ H' => Keep (∃ ds mix y z, σ = [some (.ref p), some (.int mix), some (.ref d), y, z] ∧ H' = upd H d (.lst (iv ds)) ∧ ds.length ≤ i ∧ 0 ≤ mix ∧ mix < 2305843009213693952))
      ⟨[], 271828182845904, none, none, rfl, rfl, Nat.le_refl _, by decide, by decide⟩ (fun i σ H' _ h => ?_) (fun i x σ H' hx h => ?_) (fun σ H' h => ?_)
    · obtain ⟨ds, mix, y, z, _, rfl, _⟩ := h.o
      exact npd _ (same_new nd)
    · obtain ⟨ds, mix, y, z, rfl, rfl, hds, h0, h1⟩ := h.o
      obtain ⟨n, hn, rfl⟩ := iv_get hx
      have hi : i < ns.length := (List.getElem?_eq_some_iff.mp hn).1
      have hm : CMulW mix 1000033 := Sm.wide (a := 61) (b := 20) (by unfold Sm; omega) (by unfold Sm; decide) (by decide) (by decide) (by decide)
      have e61 : (2 : Int) ^ (61 : Int).toNat - 1 = 2305843009213693951 := by decide
      walk_at "sq go"
      have m0 := Int.emod_nonneg (mix * 1000033 + n) (show (2 : Int) ^ (61 : Int).toNat - 1 ≠ 0 by rw [e61]; decide)
      have m1 := Int.emod_lt_of_pos (mix * 1000033 + n) (show 0 < (2 : Int) ^ (61 : Int).toNat - 1 by rw [e61]; decide)
      rw [e61] at m1
      refine ifD (fun c => ?_) (fun c => ?_)
      · walk_at "sq go"
        rw [upd_upd, iv_app]
        exact ⟨_, _, _, _, rfl, rfl, by rw [List.length_append, List.length_singleton]; omega, m0, by rw [e61]; omega⟩
      · exact ⟨ds, _, _, _, rfl, rfl, by omega, m0, by rw [e61]; omega⟩
    · obtain ⟨ds, mix, y, z, rfl, rfl, hds, h0, h1⟩ := h.o
      walk_at "sq go"
      intro r nr
      have ndr : d ≠ r := fun e => by
        rw [← e, upd_same] at nr
        cases nr
      have s2 : Same H (upd H d (.lst (iv ds))) := same_new nd
      refine q r d _ (s2.trans (same_new nr)) ⟨⟨ds, 0, mix, 0, upd_same, by rw [upd_ne ndr, upd_same], ndr, h0, by omega, by decide, by decide⟩, s2.trans (same_new nr), fun a ha => ?_⟩
      rcases ha with rfl | rfl
      · exact s2.free nr
      · exact nd

abbrev s_law_draw : Stmt := topS 17
theorem sc_law_draw : FnScope ["source", "many", "drawn", "mixed"] ["source", "many"] (defScope s_law_draw) := ⟨rfl, rfl, rfl, by decide +kernel, rfl, by decide +kernel, by decide +kernel⟩

def spDraw : Sp := fun vs H Q _ => ∃ (r d : Addr) (m N : Int) (G : Hp), vs = [.ref r, .int m] ∧ Sep (rgB r d N) G H ∧ Keep (0 < m ∧ m < 2 ^ 240 ∧ N < 2 ^ 60) ∧ ∀ v H', 0 ≤ v → v < m → Sep (rgB r d (N + 1)) G H' → Q (.int v) H'
theorem cal_draw (D : DefAt K mg "_law_draw" s_law_draw ["source", "many"]) (B : Bt mg) : Cal P w K mg base 1 "_law_draw" spDraw [] := by
  refine D.cal sc_law_draw (fun vs H Q E h => ?_) (fun f cdv A outer s H vs Q E hr h => ?_)
  · obtain ⟨r, d, m, N, G, rfl, _⟩ := h
    rfl
  · obtain ⟨r, d, m, N, G, rfl, hS, ⟨hm, hmb, hN⟩, q⟩ := h
    have hmz : m.natAbs.log2 < 9000 := Nat.lt_trans ((show Sm 240 m by unfold Sm; omega).lg (by decide)) (by decide)
    obtain ⟨ds0, a0, mix, n, hr0, hd0, ndr, h0, h1, n0, n1⟩ := id hS.inv
    refine ⟨_, (pss_cons (ps_while PassesOwn.never (PW.pt (pw_and (pt_cmpR op_lt (pe_ix (ix_listK (K := K)) (pv 0) pe_int (fun _ _ => rfl)) pe_int (nomark _)) (pw_and1 (pt_cmpR (op_neDK (K := K) hr.units) (pe_ix (ix_listK (K := K)) (pv 0) pe_int (fun _ _ => rfl)) (pe_lst pa_nil) (nomark _)))))
   (pss_one (ps_asg (pe_bm PySem.F.plainAttrs_list PySem.F.slot_list_pop PySem.F.type_list_pop mt_popAt (pe_ix (ix_listK (K := K)) (pv 0) pe_int (fun _ _ => rfl)) (pa_cons pe_int pa_nil)) (pg_sub (pv 0) pe_int set_list))))
  (pss_cons (ps_if (pt_cmpR op_ge (pe_ix (ix_listK (K := K)) (pv 0) pe_int (fun _ _ => rfl)) pe_int (nomark _)) (pss_cons (ps_set (i := 2) sc_law_draw.nd rfl (Or.inl rfl) (pe_op op_mod (pe_ix (ix_listK (K := K)) (pv 0) pe_int (fun _ _ => rfl)) (pv 1)))
  (pss_cons (ps_asg (pe_op op_fdivW (pe_ix (ix_listK (K := K)) (pv 0) pe_int (fun _ _ => rfl)) (pv 1)) (pg_sub (pv 0) pe_int set_list))
  (pss_one (ps_ret (pv 2))))) pss_nil)
  (pss_cons (ps_asg (pe_op op_add (pe_ix (ix_listK (K := K)) (pv 0) pe_int (fun _ _ => rfl)) pe_int) (pg_sub (pv 0) pe_int set_list))
  (pss_cons (ps_set (i := 3) sc_law_draw.nd rfl (Or.inl rfl) (pe_op op_mulW (pe_op op_add (pe_ix (ix_listK (K := K)) (pv 0) pe_int (fun _ _ => rfl)) pe_int) (pe_op op_powW (pe_op op_add (pe_ix (ix_listK (K := K)) (pv 0) pe_int (fun _ _ => rfl)) pe_int) pe_int)))
  (pss_cons (ps_set (i := 3) sc_law_draw.nd rfl (Or.inl rfl) (pe_op op_mod (pe_op op_add (pv 3) (pe_op op_mulW pe_int (pe_ix (ix_listK (K := K)) (pv 0) pe_int (fun _ _ => rfl)))) (pe_op op_sub (pe_op op_powW pe_int pe_int) pe_int)))
  (pss_one (ps_ret (pe_op op_mod (pe_op op_fdivW (pe_op op_mod (pe_op op_powW (pv 3) pe_int) (pe_op op_add (pe_op op_powW pe_int pe_int) pe_int)) pe_int) (pv 1))))))))), ?_⟩
    refine ⟨fun k σ H' => Keep (∃ ds a, σ = [some (.ref r), some (.int m), none, none] ∧ k = ds.length ∧ RB r d N ds a mix n H' ∧ ∀ b o, b ≠ r → b ≠ d → H b = some o → H' b = some o), ⟨_, ds0, a0, rfl, rfl, ⟨hr0, hd0, ndr, h0, h1, n0, n1⟩, fun _ _ _ _ z => z⟩, fun k σ H' h => ?_⟩
    obtain ⟨ds, a, rfl, rfl, ⟨gr, gd, _⟩, ge⟩ := h.o
    clear h
    have cm : CDivW a m := ⟨hm, hmz⟩
    have p3 : CPowW (n + 1 + 3) 3 := ⟨by decide, by decide, Nat.lt_trans ((show Sm 61 (n + 1 + 3) by unfold Sm; omega).lg (by decide)) (by decide)⟩
    have m3 : CMulW (mix + 7) ((n + 1 + 3) ^ (3 : Int).toNat) := by
      have e1 : Sm 62 (mix + 7) := by unfold Sm; omega
      have e2 : Sm 61 (n + 1 + 3) := by unfold Sm; omega
      have e3 : (n + 1 + 3) ^ (3 : Int).toNat = (n + 1 + 3) * (n + 1 + 3) * (n + 1 + 3) := by
        show (n + 1 + 3) ^ 3 = _
        rw [Int.pow_succ, Int.pow_succ, Int.pow_succ, Int.pow_zero, Int.one_mul]
      rw [e3]
      exact e1.wide ((e2.mul e2).mul e2) (by decide) (by decide) (by decide)
    have m4 : CMulW 1000081 (n + 1) := Sm.wide (a := 20) (b := 61) (by unfold Sm; decide) (by unfold Sm; omega) (by decide) (by decide) (by decide)
    have e61 : (2 : Int) ^ (61 : Int).toNat - 1 = 2305843009213693951 := by decide
    have p5 : CPowW (((mix + 7) * (n + 1 + 3) ^ (3 : Int).toNat + 1000081 * (n + 1)) % (2 ^ (61 : Int).toNat - 1)) 5 := by
      rw [e61]
      generalize (mix + 7) * (n + 1 + 3) ^ (3 : Int).toNat + 1000081 * (n + 1) = y
      exact ⟨by decide, by decide, Nat.lt_trans ((show Sm 61 (y % 2305843009213693951) by unfold Sm; omega).lg (by decide)) (by decide)⟩
    walk_at "sq go"
    refine ifD (fun c => ?_) (fun c => ?_)
    · walk_at "sq go"
      intro e ne
      refine r_neI (xs := ds) (ys := []) (by walk_at "sq sql") (by walk_at "sq sql") ?_
      walk_at "sq go"
      have ge2 : ∀ b o, b ≠ r → b ≠ d → H b = some o → upd H' e (.lst []) b = some o := fun b o h1 h2 z => upd_keep ne (ge b o h1 h2 z)
      have gr2 := upd_keep (o := .lst []) ne gr
      have gd2 := upd_keep (o := .lst []) ne gd
      generalize upd H' e (.lst []) = H2 at ge2 gr2 gd2
      clear ge gr gd ne
      refine ifN (fun c2 => ?_) (fun c2 => ?_)
      · obtain ⟨x, rest, rfl⟩ : ∃ x rest, ds = x :: rest := by
          cases ds with
          | nil => exact absurd rfl c2
          | cons x rest => exact ⟨x, rest, rfl⟩
        refine ⟨fun σ' H3 => Keep (σ' = [some (.ref r), some (.int m), none, none] ∧ RB r d N rest x mix n H3 ∧ ∀ b o, b ≠ r → b ≠ d → H b = some o → H3 b = some o), fun σ' H3 h3 => ?_, ?_⟩
        · obtain ⟨e1, e2, e3⟩ := h3.o
          exact ⟨rest.length, by rw [List.length_cons]; omega, rest, x, e1, rfl, e2, e3⟩
        · walk_at "sq go"
          refine ⟨seqIx0 (by simp), ?_⟩
          walk_at "sq go"
          exact ⟨rfl, ⟨upd_same, by rw [upd_ne ndr, upd_same]; rfl, ndr, h0, h1, n0, n1⟩, fun b o k1 k2 z => upd_off k1 (upd_off k2 (ge2 b o k1 k2 z))⟩
      · have gd := gd2
        have gr := gr2
        have ge := ge2
        walk_at "sq go"
        refine ifD (fun c4 => ?_) (fun c4 => ?_)
        · walk_at "sq go"
          have v0 := Int.emod_nonneg a (show m ≠ 0 by omega)
          have v1 := Int.emod_lt_of_pos a hm
          refine q _ _ v0 v1 (SepB.redo hS (fun b o k1 k2 z => upd_off k1 (ge b o k1 k2 z)) ⟨ds, a / m, mix, n, upd_same, ?_, ndr, h0, h1, n0, by omega⟩)
          rw [upd_ne ndr]
          exact gd
        · walk_at "sq go"
          have v0 : ∀ y : Int, 0 ≤ y % m := fun y => Int.emod_nonneg y (show m ≠ 0 by omega)
          have v1 : ∀ y : Int, y % m < m := fun y => Int.emod_lt_of_pos y hm
          refine q _ _ (v0 _) (v1 _) ?_
          refine SepB.redo hS (fun b o k1 k2 z => upd_off k1 (ge b o k1 k2 z)) ⟨ds, a, mix, n + 1, upd_same, ?_, ndr, h0, h1, by omega, by omega⟩
          rw [upd_ne ndr]
          exact gd
    · skip
      walk_at "sq go"
      refine ifD (fun c4 => ?_) (fun c4 => ?_)
      · walk_at "sq go"
        have v0 := Int.emod_nonneg a (show m ≠ 0 by omega)
        have v1 := Int.emod_lt_of_pos a hm
        refine q _ _ v0 v1 (SepB.redo hS (fun b o k1 k2 z => upd_off k1 (ge b o k1 k2 z)) ⟨ds, a / m, mix, n, upd_same, ?_, ndr, h0, h1, n0, by omega⟩)
        rw [upd_ne ndr]
        exact gd
      · walk_at "sq go"
        have v0 : ∀ y : Int, 0 ≤ y % m := fun y => Int.emod_nonneg y (show m ≠ 0 by omega)
        have v1 : ∀ y : Int, y % m < m := fun y => Int.emod_lt_of_pos y hm
        refine q _ _ (v0 _) (v1 _) ?_
        refine SepB.redo hS (fun b o k1 k2 z => upd_off k1 (ge b o k1 k2 z)) ⟨ds, a, mix, n + 1, upd_same, ?_, ndr, h0, h1, by omega, by omega⟩
        rw [upd_ne ndr]
        exact gd

abbrev s_law_row : Stmt := topS 19
theorem sc_law_row : FnScope ["source", "many", "wide", "way", "again", "found", "time", "some"] ["source", "many", "wide"] (defScope s_law_row) := ⟨rfl, rfl, rfl, by decide +kernel, rfl, by decide +kernel, by decide +kernel⟩

/-- replacements from 2 to wide -/
def Row (ns : List Int) (wide : Int) : Prop := ∀ k ∈ ns, (2 : Int) ≤ k ∧ k ≤ wide
def spRow : Sp := fun vs H Q _ => ∃ (r d : Addr) (many wide N : Int) (G : Hp), vs = [.ref r, .int many, .int wide] ∧ Sep (rgB r d N) G H ∧ Keep (0 ≤ many ∧ many ≤ 100 ∧ 2 ≤ wide ∧ wide < 2 ^ 100 ∧ N < 2 ^ 59) ∧
  ∀ p ns H', G p = none → ns.length ≤ many.toNat → Row ns wide → Sep (rgB r d (N + 203)) (upd G p (.lst (iv ns))) H' → Q (.ref p) H'
theorem cal_row (D : DefAt K mg "_law_row" s_law_row ["source", "many", "wide"]) (B : Bt mg) (c_law_draw : Cal P w K mg base 1 "_law_draw" spDraw []) : Cal P w K mg base 2 "_law_row" spRow [] := by
  refine D.cal sc_law_row (fun vs H Q E h => ?_) (fun f cdv A outer s H vs Q E hr h => ?_)
  · obtain ⟨r, d, many, wide, N, G, rfl, _⟩ := h
    rfl
  · obtain ⟨r, d, many, wide, N, G, rfl, hS, ⟨m0, m1, w2, wb, hN⟩, q⟩ := h
    refine ⟨_, (pss_cons (ps_par (i := 3) (j := 4) rfl sc_law_row.nd rfl rfl (by decide) rfl rfl (pa_cons (pe_c c_law_draw hr (by first | decide | omega) (by rfl) (pa_cons (pv 0) (pa_cons pe_int pa_nil))) (pa_cons (pe_op op_add pe_int (pe_c c_law_draw hr (by first | decide | omega) (by rfl) (pa_cons (pv 0) (pa_cons (pe_op op_sub (pv 2) pe_int) pa_nil)))) pa_nil)) (by rfl))
  (pss_cons (ps_set (i := 5) sc_law_row.nd rfl (Or.inl rfl) (pe_lst pa_nil))
  (pss_cons (ps_for PassesOwn.never rfl (pi_range1 (by rfl) B.range (pa_cons (pe_c c_law_draw hr (by first | decide | omega) (by rfl) (pa_cons (pv 0) (pa_cons (pe_op op_add (pv 1) pe_int) pa_nil))) pa_nil)) (pg_name (i := 6) sc_law_row.nd rfl (Or.inl rfl))
   (pss_cons (ps_set (i := 7) sc_law_row.nd rfl (Or.inl rfl) (pe_lst (pa_cons (pe_op op_add pe_int (pe_c c_law_draw hr (by first | decide | omega) (by rfl) (pa_cons (pv 0) (pa_cons (pe_op op_sub (pv 2) pe_int) pa_nil)))) (pa_cons (pe_op op_add pe_int (pe_c c_law_draw hr (by first | decide | omega) (by rfl) (pa_cons (pv 0) (pa_cons (pe_callB (call_min2 rfl) (by rfl) B.min (by decide +kernel) (pa_cons pe_int (pa_cons (pe_op op_sub (pv 2) pe_int) pa_nil))) pa_nil)))) (pa_cons (pv 4) pa_nil)))))
  (pss_one (ps_expr (pe_bm PySem.F.plainAttrs_list PySem.F.slot_list_append PySem.F.type_list_append mt_append (pv 5) (pa_cons (pe_ix (ix_listK (K := K)) (pv 7) (pv 3) (fun _ _ => rfl)) pa_nil))))))
  (pss_one (ps_ret (pv 5)))))), ?_⟩
    walk_at "sq go"
    refine ⟨⟨by omega, by omega, by omega⟩, fun way H1 y0 y1 hS1 => ?_⟩
    walk_at "sq go"
    refine ⟨⟨by omega, by omega, by omega⟩, fun ag H2 a0 a1 hS2 => ?_⟩
    walk_at "sq go"
    intro p np
    have gp : G p = none := hS2.free np
    have hS3 := hS2.new np (.lst [])
    walk_at "sq go"
    refine ⟨⟨by omega, by omega, by omega⟩, fun tn H3 t0 t1 hS4 => ?_⟩
    walk_at "sq go"
    refine for_range (lo := 0) (n := tn.toNat) (fun i σ H' => Keep (∃ ns x y, σ = [some (.ref r), some (.int many), some (.int wide), some (.int way), some (.int (2 + ag)), some (.ref p), x, y] ∧ Sep (rgB r d (N + 3 + 2 * i)) (upd G p (.lst (iv ns))) H' ∧ ns.length = i ∧ Row ns wide))
      ⟨[], none, none, rfl, SepB.mono hS4 (by omega), rfl, fun _ z => nomatch z⟩ (fun i σ H' hi h => ?_) (fun σ H' h => ?_)
    · obtain ⟨ns, x, y, rfl, hs, hl, hrow⟩ := h.o
      walk_at "sq go"
      refine ⟨⟨by omega, by omega, by omega⟩, fun b1 K1 b10 b11 hs1 => ?_⟩
      walk_at "sq go"
      refine ⟨⟨by split <;> omega, by split <;> omega, by omega⟩, fun b2 K2 b20 b21 hs2 => ?_⟩
      walk_at "sq go"
      intro e ne
      have hs3 := hs2.on (same_new (o := .lst [.int (2 + b1), .int (2 + b2), .int (2 + ag)]) ne)
      have hb2 : 2 + b2 ≤ wide := by
        split at b21 <;> omega
      have pick : ∃ v, atI [V.int (2 + b1), V.int (2 + b2), V.int (2 + ag)] way = some (.int v) ∧ 2 ≤ v ∧ v ≤ wide := by
        rcases (show way = 0 ∨ way = 1 ∨ way = 2 by omega) with z | z | z <;> rw [z]
        · exact ⟨_, atI_nat (j := 0) rfl, by omega, by omega⟩
        · exact ⟨_, atI_nat (j := 1) rfl, by omega, by omega⟩
        · exact ⟨_, atI_nat (j := 2) rfl, by omega, by omega⟩
      obtain ⟨v, ev, v2, vw⟩ := pick
      have hp : upd K2 e (.lst [.int (2 + b1), .int (2 + b2), .int (2 + ag)]) p = some (.lst (iv ns)) := hs3.get upd_same
      have hs4 := hs3.put upd_same (.lst (iv ns ++ [.int v]))
      rw [upd_upd, iv_app] at hs4
      walk_at "sq go"
      refine ⟨ns ++ [v], _, _, rfl, ?_, by simp [hl], fun k hk => ?_⟩
      · rw [iv_app]
        exact SepB.mono hs4 (by omega)
      · rcases List.mem_append.mp hk with z | z
        · exact hrow k z
        · rw [List.mem_singleton.mp z]
          exact ⟨v2, vw⟩
    · obtain ⟨ns, x, y, rfl, hs, hl, hrow⟩ := h.o
      walk_at "sq go"
      exact q p ns H' gp (by omega) hrow (SepB.mono hs (by omega))

abbrev s_law_same : Stmt := topS 18
theorem sc_law_same : FnScope ["found", "wanted", "k"] ["found", "wanted"] (defScope s_law_same) := ⟨rfl, rfl, rfl, by decide +kernel, rfl, by decide +kernel, by decide +kernel⟩

mutual
def plain : PyData → Bool
  | .none => true
  | .bool _ => true
  | .int _ => true
  | .str x => PyData.canLay0 (.str x)
  | .list xs => decide (xs.length ≤ 1000000) && plainAll xs
  | .tuple _ => false
  | .dict _ => false
def plainAll : List PyData → Bool
  | [] => true
  | x :: xs => plain x && plainAll xs
end
theorem plain_get : ∀ (ds : List PyData) (i : Nat) (d : PyData), plainAll ds = true → ds[i]? = some d → plain d = true
  | [], _, _, _, e => by simp at e
  | x :: r, i, d, h, e => by
    simp only [plainAll, Bool.and_eq_true] at h
    cases i with
    | zero =>
      have z : x = d := by simpa using e
      rw [← z]
      exact h.1
    | succ i => exact plain_get r i d h.2 (by simpa using e)
theorem depth_get : ∀ (ds : List PyData) (i : Nat) (d : PyData), ds[i]? = some d → d.depth ≤ PyData.depthAll ds
  | [], _, _, e => by simp at e
  | x :: r, i, d, e => by
    simp only [PyData.depthAll]
    cases i with
    | zero =>
      have z : x = d := by simpa using e
      rw [← z]
      exact Nat.le_max_left _ _
    | succ i => exact Nat.le_trans (depth_get r i d (by simpa using e)) (Nat.le_max_right _ _)
/-- x and y hold the same data d, of depth n at most -/
def Alike (K : PySem.W.Frag) (H : Hp) (n : Nat) (x y : V) : Prop := ∃ d, Dp K H x d ∧ Dp K H y d ∧ plain d = true ∧ d.depth ≤ n
def spSame (K : PySem.W.Frag) (n : Nat) : Sp := fun vs H Q _ => ∃ x y, vs = [x, y] ∧ Keep (Alike K H n x y) ∧ ∀ H', Same H H' → Q (.bl true) H'
theorem cal_same0 (D : DefAt K mg "_law_same" s_law_same ["found", "wanted"]) : Cal P w K mg base 1 "_law_same" (fun _ _ _ _ => False) [] := by
  refine D.cal sc_law_same (fun vs H Q E h => ?_) (fun f cdv A outer s H vs Q E hr h => ?_)
  · exact h.elim
  · exact h.elim
theorem cal_same1 (D : DefAt K mg "_law_same" s_law_same ["found", "wanted"]) (B : Bt mg) {k n : Nat} {sp : Sp} (c_law_same : Cal P w K mg base k "_law_same" sp [])
    (hsp : ∀ (x y : V) (H : Hp) (Q : VK) (E : XK) (m : Nat), Alike K H m x y → m < n → (∀ H', Same H H' → Q (.bl true) H') → sp [x, y] H Q E) : Cal P w K mg base (k + 1) "_law_same" (spSame K n) [] := by
  refine D.cal sc_law_same (fun vs H Q E h => ?_) (fun f cdv A outer s H vs Q E hr h => ?_)
  · obtain ⟨x, y, rfl, _⟩ := h
    rfl
  · obtain ⟨x, y, rfl, ⟨d, hx, hy, hc, hd⟩, q⟩ := h
    refine ⟨_, (pss_cons (ps_if (pt_cmpR op_isN (pv 1) pe_non (nomark _)) (pss_one (ps_ret (pe_cmpR op_isN (pv 0) pe_non (nomark _)))) pss_nil)
  (pss_cons (ps_if (pt_val (pe_callB (isiK (K := K)) (by rfl) B.isinstance (by decide +kernel) (pa_cons (pv 1) (pa_cons (pe_bltn (v := .ty "bool") (by rfl) B.bool (by decide +kernel) rfl) pa_nil)))) (pss_one (ps_ret (pe_and (pe_callB (isiK (K := K)) (by rfl) B.isinstance (by decide +kernel) (pa_cons (pv 0) (pa_cons (pe_bltn (v := .ty "bool") (by rfl) B.bool (by decide +kernel) rfl) pa_nil))) (pe_one (pe_cmpR (op_eqDK (K := K) hr.units) (pv 0) (pv 1) (nomark _)))))) pss_nil)
  (pss_cons (ps_if (pt_val (pe_callB (isiK (K := K)) (by rfl) B.isinstance (by decide +kernel) (pa_cons (pv 1) (pa_cons (pe_bltn (v := .ty "int") (by rfl) B.int (by decide +kernel) rfl) pa_nil)))) (pss_one (ps_ret (pe_and (pe_callB (isiK (K := K)) (by rfl) B.isinstance (by decide +kernel) (pa_cons (pv 0) (pa_cons (pe_bltn (v := .ty "int") (by rfl) B.int (by decide +kernel) rfl) pa_nil))) (pe_and (pe_not (pe_callB (isiK (K := K)) (by rfl) B.isinstance (by decide +kernel) (pa_cons (pv 0) (pa_cons (pe_bltn (v := .ty "bool") (by rfl) B.bool (by decide +kernel) rfl) pa_nil)))) (pe_one (pe_cmpR (op_eqDK (K := K) hr.units) (pv 0) (pv 1) (nomark _))))))) pss_nil)
  (pss_cons (ps_if (pt_val (pe_callB (isiK (K := K)) (by rfl) B.isinstance (by decide +kernel) (pa_cons (pv 1) (pa_cons (pe_bltn (v := .ty "str") (by rfl) B.str (by decide +kernel) rfl) pa_nil)))) (pss_one (ps_ret (pe_and (pe_callB (isiK (K := K)) (by rfl) B.isinstance (by decide +kernel) (pa_cons (pv 0) (pa_cons (pe_bltn (v := .ty "str") (by rfl) B.str (by decide +kernel) rfl) pa_nil))) (pe_one (pe_cmpR (op_eqDK (K := K) hr.units) (pv 0) (pv 1) (nomark _)))))) pss_nil)
  (pss_cons (ps_if (pt_cmpR op_ne (pe_callB (isiK (K := K)) (by rfl) B.isinstance (by decide +kernel) (pa_cons (pv 0) (pa_cons (pe_bltn (v := .ty "list") (by rfl) B.list (by decide +kernel) rfl) pa_nil))) (pe_callB (isiK (K := K)) (by rfl) B.isinstance (by decide +kernel) (pa_cons (pv 1) (pa_cons (pe_bltn (v := .ty "list") (by rfl) B.list (by decide +kernel) rfl) pa_nil))) (nomark _)) (pss_one (ps_ret pe_bl)) pss_nil)
  (pss_cons (ps_if (PW.pt (pw_or (pt_cmpR op_ne (pe_callB (isiK (K := K)) (by rfl) B.isinstance (by decide +kernel) (pa_cons (pv 0) (pa_cons (pe_bltn (v := .ty "tuple") (by rfl) B.tuple (by decide +kernel) rfl) pa_nil))) (pe_callB (isiK (K := K)) (by rfl) B.isinstance (by decide +kernel) (pa_cons (pv 1) (pa_cons (pe_bltn (v := .ty "tuple") (by rfl) B.tuple (by decide +kernel) rfl) pa_nil))) (nomark _)) (pw_or1 (pt_cmpR op_ne (pe_callB (len_seqK (K := K)) (by rfl) B.len boot_len (pa_cons (pv 0) pa_nil)) (pe_callB (len_seqK (K := K)) (by rfl) B.len boot_len (pa_cons (pv 1) pa_nil)) (nomark _))))) (pss_one (ps_ret pe_bl)) pss_nil)
  (pss_one (ps_ret (pe_cmpR (op_eqDK (K := K) hr.units) (pe_lc (own := [("k", 2)]) (g := gName 2) (by rfl) sc_law_same.nd (pi_range1 (by rfl) B.range (pa_cons (pe_callB (len_seqK (K := K)) (by rfl) B.len boot_len (pa_cons (pv 1) pa_nil)) pa_nil)) (blkOk_by (own := [("k", 2)]) (N := ["found", "wanted", "k"]) (sc := defScope s_law_same) (by decide +kernel)) (fun _ _ _ _ _ => (pg_name (i := 2) sc_law_same.nd rfl (Or.inl rfl))) (fun _ _ _ _ _ => (pts_one (pt_not (pt_val (pe_c c_law_same hr (by first | decide | omega) (by rfl) (pa_cons (pe_ix (ix_listK (K := K)) (pv 0) (pv 2) (fun _ _ => rfl)) (pa_cons (pe_ix (ix_listK (K := K)) (pv 1) (pv 2) (fun _ _ => rfl)) pa_nil))))))) (fun _ _ _ _ _ => (pv 2))) (pe_lst pa_nil) (nomark _)))))))))), ?_⟩
    cases d with
    | none =>
      cases hx; cases hy
      walk_at "sq go"
      exact q H (.refl H)
    | bool v =>
      cases hx; cases hy
      walk_at "sq go"
      refine rEqQ_of ⟨_, _, .bl v, .bl v, by simp [SeqAt.shaped, PyData.canLay0, PyData.depth], by simp [SeqAt.shaped, PyData.canLay0, PyData.depth], ?_⟩
      have e : PyData.eqv (.bool v) (.bool v) = true := by simp [PyData.eqv]
      rw [e]
      exact q H (.refl H)
    | int v =>
      cases hx; cases hy
      walk_at "sq go"
      refine rEqQ_of ⟨_, _, .int v, .int v, by simp [SeqAt.shaped, PyData.canLay0, PyData.depth], by simp [SeqAt.shaped, PyData.canLay0, PyData.depth], ?_⟩
      have e : PyData.eqv (.int v) (.int v) = true := by simp [PyData.eqv]
      rw [e]
      exact q H (.refl H)
    | str v =>
      cases hx; cases hy
      walk_at "sq go"
      have sh : SeqAt.shaped (.str v) = true := by
        simp only [plain, PyData.canLay0] at hc
        simp [SeqAt.shaped, PyData.canLay0, PyData.depth, hc]
      refine rEqQ_of ⟨_, _, .str v, .str v, sh, sh, ?_⟩
      have e : PyData.eqv (.str v) (.str v) = true := by simp [PyData.eqv]
      rw [e]
      exact q H (.refl H)
    | list ds =>
      cases hx with
      | @lst a xs _ ha hxs =>
      cases hy with
      | @lst b ys _ hb hys =>
      have lx := dpall_len _ _ hxs
      have ly := dpall_len _ _ hys
      simp only [plain, Bool.and_eq_true, decide_eq_true_eq] at hc
      simp only [PyData.depth] at hd
      obtain ⟨hlen, hc⟩ := hc
      walk_at "sq go"
      refine ifIN (fun c => absurd (by rw [lx, ly]) c) (fun _ => ?_)
      walk_at "sq go"
      intro D nD
      refine lc_range (lo := 0) (n := ((ys.length : Nat) : Int).toNat) (fun i H' => Keep (Same H H' ∧ H' D = some (.lst []))) ⟨same_new nD, upd_same⟩ (fun i H' hi h => ?_) (fun H' h => ?_)
      · obtain ⟨s1, eD⟩ := h.o
        have hi2 : i < ds.length := by omega
        obtain ⟨x, ex, dx⟩ := dpall_get _ _ hxs i _ (List.getElem?_eq_getElem hi2)
        obtain ⟨y, ey, dy⟩ := dpall_get _ _ hys i _ (List.getElem?_eq_getElem hi2)
        have ax : atI xs (0 + (i : Int)) = some x := by rw [Int.zero_add]; exact atI_nat ex
        have ay : atI ys (0 + (i : Int)) = some y := by rw [Int.zero_add]; exact atI_nat ey
        have ha' := s1.seq ha
        have hb' := s1.seq hb
        walk_at "sq go"
        refine hsp x y H' _ _ _ ⟨_, dp_same s1 _ _ dx, dp_same s1 _ _ dy, plain_get _ i _ hc (List.getElem?_eq_getElem hi2), depth_get _ i _ (List.getElem?_eq_getElem hi2)⟩ (by omega) (fun H2 s2 => ?_)
        walk_at "sq go"
        exact ⟨s1.trans s2, s2 _ _ eD⟩
      · obtain ⟨s1, eD⟩ := h.o
        walk_at "sq go"
        intro e ne
        have s2 := s1.trans (same_new (o := .lst []) ne)
        refine r_eqI (xs := []) (ys := []) (seqL_of (upd_keep ne eD)) (seqL_of upd_same) ?_
        exact q _ s2
    | tuple ds => simp [plain] at hc
    | dict kvs => nomatch hx
theorem Alike.mono {K : PySem.W.Frag} {H : Hp} {m n : Nat} {x y : V} (h : Alike K H m x y) (hm : m ≤ n) : Alike K H n x y := by
  obtain ⟨d, h1, h2, h3, h4⟩ := h
  exact ⟨d, h1, h2, h3, by omega⟩
theorem cal_same (D : DefAt K mg "_law_same" s_law_same ["found", "wanted"]) (B : Bt mg) : ∀ n : Nat, Cal P w K mg base (n + 2) "_law_same" (spSame K n) []
  | 0 => cal_same1 D B (cal_same0 D) fun x y H Q E m h lt q => absurd lt (by omega)
  | n + 1 => cal_same1 D B (cal_same D B n) fun x y H Q E m h lt q => ⟨x, y, rfl, ⟨h.mono (by omega)⟩, q⟩
theorem alike_ints {K : PySem.W.Frag} {H : Hp} {a b : Addr} {ns : List Int} {n : Nat} (h1 : SqL K H a (iv ns)) (h2 : SqL K H b (iv ns)) (hl : ns.length ≤ 1000000) (hn : 1 ≤ n) : Alike K H n (.ref a) (.ref b) := by
  have pl : ∀ ns : List Int, plainAll (ns.map .int) = true := by
    intro ns
    induction ns with
    | nil => simp [plainAll]
    | cons x r ih => simp [plainAll, plain, ih]
  refine ⟨dI ns, dp_iv h1, dp_iv h2, ?_, ?_⟩
  · unfold dI
    simp only [plain, pl, List.length_map, decide_eq_true hl, Bool.and_self]
  · unfold dI
    simp only [PyData.depth, dep_ints]
    omega
theorem alike_int {K : PySem.W.Frag} {H : Hp} {i : Int} {n : Nat} : Alike K H n (.int i) (.int i) := ⟨.int i, .int i, .int i, by simp [plain], by simp [PyData.depth]⟩

/-! ### what an exception tells, while it is handled -/
structure KndE (K : PySem.W.Frag) (CL CN CC CU CR CS C : Addr) (b1 b2 b3 b4 b5 : Bool) : Prop where
  ec : ExcC K C
  xf : XfC K C
  nv : PySem.W.findIn K (.ref C) "value" = some none
  k1 : PySem.W.kitOne K (.ref C) (.ref CL) = some b1
  k2 : PySem.W.kitOne K (.ref C) (.ref CN) = some b2
  k3 : PySem.W.kitOne K (.ref C) (.ref CC) = some b3
  k4 : PySem.W.kitOne K (.ref C) (.ref CU) = some b4
  k5 : PySem.W.kitOne K (.ref C) (.ref CR) = some b5
  kS : PySem.W.kitOne K (.ref C) (.ref CS) = some true
  kV : PySem.W.kitOne K (.ref C) (.type "ValueError") = some true
  ex : PySem.W.exmOne K (.ref C) (.ref CS) = some true
theorem knd_mk {h : Heap} {CL CN CC CU CR CS C : Addr} {b1 b2 b3 b4 b5 : Bool} {y y1 y2 y3 y4 y5 y6 : Str} (_ : K.In h) (_ : mg y = some (.ref C)) (_ : mg y1 = some (.ref CL)) (_ : mg y2 = some (.ref CN)) (_ : mg y3 = some (.ref CC)) (_ : mg y4 = some (.ref CU)) (_ : mg y5 = some (.ref CR)) (_ : mg y6 = some (.ref CS))
    (hg : PySem.W.findIn K (.ref C) "__getattribute__" = some (some (.builtin "BaseException.__getattribute__"))) (hk : PySem.W.findIn K (.ref C) "__getattr__" = some none) (hs : PySem.W.subIn K (.ref C) (.type "BaseException") = some true) (hd : PySem.W.hasDictIn K C = true)
    (ha : PySem.W.findIn K (.ref C) "__class__" = some (some (.builtin "object.__class__"))) (hn : PySem.W.specialIn K (.builtin "object.__class__") "__get__" = some (some (.builtin "getset_descriptor.__get__"))) (ht : PySem.W.takesIn K (.builtin "object.__class__") = some true) (hm : PySem.W.mroIn K C (.type "object") = some true)
    (nv : PySem.W.findIn K (.ref C) "value" = some none) (k1 : PySem.W.kitOne K (.ref C) (.ref CL) = some b1) (k2 : PySem.W.kitOne K (.ref C) (.ref CN) = some b2) (k3 : PySem.W.kitOne K (.ref C) (.ref CC) = some b3) (k4 : PySem.W.kitOne K (.ref C) (.ref CU) = some b4) (k5 : PySem.W.kitOne K (.ref C) (.ref CR) = some b5)
    (kS : PySem.W.kitOne K (.ref C) (.ref CS) = some true) (kV : PySem.W.kitOne K (.ref C) (.type "ValueError") = some true) (x1 : PySem.W.subIn K (.ref CS) (.type "BaseException") = some true) (x2 : PySem.W.isClsIn K CS = true) (x3 : PySem.W.typeIn K (.ref CS) = some (.type "type")) (x4 : PySem.W.subIn K (.ref C) (.ref CS) = some true) : KndE K CL CN CC CU CR CS C b1 b2 b3 b4 b5 :=
  ⟨⟨hg, hk, hs, hd, ha, hn, ht, hm⟩, ⟨hg, hk, hs, hd⟩, nv, k1, k2, k3, k4, k5, kS, kV, exm_mk x1 x2 x3 x4⟩
structure Cls6 (mg : Str → Option Value) (CL CN CC CU CR CS : Addr) : Prop where
  l : mg "InvalidList" = some (.ref CL)
  n : mg "InvalidNumber" = some (.ref CN)
  c : mg "InvalidCharacter" = some (.ref CC)
  u : mg "NothingToUndo" = some (.ref CU)
  r : mg "Unreadable" = some (.ref CR)
  s : mg "SqueezeError" = some (.ref CS)
/-- the names of the classes -/
def nmE (b1 b2 b3 b4 b5 : Bool) : List V := (([(V.str "InvalidList", b1), (.str "InvalidNumber", b2), (.str "InvalidCharacter", b3), (.str "NothingToUndo", b4), (.str "Unreadable", b5)]).filter (·.2)).map (·.1)
/-- five pairs of a name and an answer -/
theorem five_get {H : Hp} {t1 t2 t3 t4 t5 : Addr} {ps : List (V × Bool)} {n1 n2 n3 n4 n5 : V} {b1 b2 b3 b4 b5 : Bool} (hp : ps = [(n1, b1), (n2, b2), (n3, b3), (n4, b4), (n5, b5)]) (h1 : H t1 = some (.tup [n1, .bl b1])) (h2 : H t2 = some (.tup [n2, .bl b2])) (h3 : H t3 = some (.tup [n3, .bl b3])) (h4 : H t4 = some (.tup [n4, .bl b4])) (h5 : H t5 = some (.tup [n5, .bl b5])) :
    ∀ (i : Nat) (x : V), ([V.ref t1, .ref t2] ++ [.ref t3] ++ [.ref t4, .ref t5])[i]? = some x → ∃ t n b, x = .ref t ∧ ps[i]? = some (n, b) ∧ H t = some (.tup [n, .bl b])
  | 0, x, e => ⟨t1, n1, b1, (Option.some.inj e).symm, by rw [hp]; rfl, h1⟩
  | 1, x, e => ⟨t2, n2, b2, (Option.some.inj e).symm, by rw [hp]; rfl, h2⟩
  | 2, x, e => ⟨t3, n3, b3, (Option.some.inj e).symm, by rw [hp]; rfl, h3⟩
  | 3, x, e => ⟨t4, n4, b4, (Option.some.inj e).symm, by rw [hp]; rfl, h4⟩
  | 4, x, e => ⟨t5, n5, b5, (Option.some.inj e).symm, by rw [hp]; rfl, h5⟩
  | i + 5, x, e => by cases e
theorem nm_take {ps : List (V × Bool)} {i : Nat} {n : V} {b : Bool} (h : ps[i]? = some (n, b)) : ((ps.take (i + 1)).filter (·.2)).map (·.1) = ((ps.take i).filter (·.2)).map (·.1) ++ (if b = true then [n] else []) := by
  rw [List.take_add_one, h]
  cases b <;> simp
local macro_rules | `(tactic| walk_at "sq side") => `(tactic| first
  | ((with_reducible show ExcC _ _); assumption)
  | ((with_reducible show XfC _ _); assumption)
  | ((with_reducible show KeptN _ _ _ _); assumption)
  | ((with_reducible show HotN _ _); assumption)
  | ((with_reducible show PySem.W.kitOne _ _ _ = some _); assumption)
  | ((with_reducible show PySem.W.findIn _ _ _ = some _); assumption)
  | ((with_reducible show _[_]? = some _); assumption))
abbrev s_law_error : Stmt := topS 21
theorem sc_law_error : FnScope ["e", "held", "names", "name", "is_one"] ["e"] (defScope s_law_error) := ⟨rfl, rfl, rfl, by decide +kernel, rfl, by decide +kernel, by decide +kernel⟩

def spErr (K : PySem.W.Frag) (CL CN CC CU CR CS : Addr) (x1 : Addr) : Sp := fun vs H Q _ => ∃ (C : Addr) (v : V) (b1 b2 b3 b4 b5 : Bool), vs = [.ref x1] ∧ KeptN H x1 C [("value", v)] ∧ Keep (KndE K CL CN CC CU CR CS C b1 b2 b3 b4 b5) ∧
  ∀ l H', Same H H' → H l = none → H' l = some (.lst (nmE b1 b2 b3 b4 b5 ++ [v, .bl true])) → Q (.ref l) H'
theorem cal_error {CL CN CC CU CR CS : Addr} (D : DefAt K mg "_law_error" s_law_error ["e"]) (B : Bt mg) (c6 : Cls6 mg CL CN CC CU CR CS) : CalC P w K mg base 1 "_law_error" (spErr K CL CN CC CU CR CS) := by
  refine D.calC sc_law_error (fun x1 vs H Q E h => ?_) (fun f cdv A outer s H vs Q E x1 hh hr h => ?_)
  · obtain ⟨C, v, b1, b2, b3, b4, b5, rfl, _⟩ := h
    rfl
  · obtain ⟨C, v, b1, b2, b3, b4, b5, rfl, ka, ⟨ec, xf, nv, k1, k2, k3, k4, k5, kS, kV, ex⟩, q⟩ := h
    obtain ⟨m_InvalidList, m_InvalidNumber, m_InvalidCharacter, m_NothingToUndo, m_Unreadable, m_SqueezeError⟩ := c6
    refine ⟨_, (pss_cons (ps_set (i := 1) sc_law_error.nd rfl (Or.inl rfl) (pe_lst (pa_cons (pe_tup (pa_cons pe_str (pa_cons (pe_callB (call_isN (K := K)) (by rfl) B.isinstance (by decide +kernel) (pa_cons (pv 0) (pa_cons (pe_glob (v := .ref _) (by rfl) m_InvalidList rfl) pa_nil))) pa_nil))) (pa_cons (pe_tup (pa_cons pe_str (pa_cons (pe_callB (call_isN (K := K)) (by rfl) B.isinstance (by decide +kernel) (pa_cons (pv 0) (pa_cons (pe_glob (v := .ref _) (by rfl) m_InvalidNumber rfl) pa_nil))) pa_nil))) pa_nil))))
  (pss_cons (ps_set (i := 1) sc_law_error.nd rfl (Or.inl rfl) (pe_op op_cat (pv 1) (pe_lst (pa_cons (pe_tup (pa_cons pe_str (pa_cons (pe_callB (call_isN (K := K)) (by rfl) B.isinstance (by decide +kernel) (pa_cons (pv 0) (pa_cons (pe_glob (v := .ref _) (by rfl) m_InvalidCharacter rfl) pa_nil))) pa_nil))) pa_nil))))
  (pss_cons (ps_set (i := 1) sc_law_error.nd rfl (Or.inl rfl) (pe_op op_cat (pv 1) (pe_lst (pa_cons (pe_tup (pa_cons pe_str (pa_cons (pe_callB (call_isN (K := K)) (by rfl) B.isinstance (by decide +kernel) (pa_cons (pv 0) (pa_cons (pe_glob (v := .ref _) (by rfl) m_NothingToUndo rfl) pa_nil))) pa_nil))) (pa_cons (pe_tup (pa_cons pe_str (pa_cons (pe_callB (call_isN (K := K)) (by rfl) B.isinstance (by decide +kernel) (pa_cons (pv 0) (pa_cons (pe_glob (v := .ref _) (by rfl) m_Unreadable rfl) pa_nil))) pa_nil))) pa_nil)))))
  (pss_cons (ps_setLcN (i := 2) (own := [("name", 3), ("is_one", 4)]) hh sc_law_error.nd rfl rfl (sw_true rfl rfl rfl (by decide +kernel)) (pv 1) (blkOk_by (own := [("name", 3), ("is_one", 4)]) (N := ["e", "held", "names", "name", "is_one"]) (sc := defScope s_law_error) (by decide +kernel)) (fun _ _ _ _ _ => (pg_tupN (K := K) (n := 2) hh (pgs_cons (pg_name (i := 3) sc_law_error.nd rfl (Or.inl rfl)) (pgs_cons (pg_name (i := 4) sc_law_error.nd rfl (Or.inl rfl)) pgs_nil)))) (fun _ _ _ _ _ => (pts_one (pt_val (pv 4)))) (fun _ _ _ _ _ => (pv 3)))
  (pss_one (ps_ret (pe_op op_cat (pv 2) (pe_lst (pa_cons (pe_xvN (K := K) (pv 0)) (pa_cons (pe_and (pe_callB (call_isN (K := K)) (by rfl) B.isinstance (by decide +kernel) (pa_cons (pv 0) (pa_cons (pe_glob (v := .ref _) (by rfl) m_SqueezeError rfl) pa_nil))) (pe_one (pe_callB (call_isN (K := K)) (by rfl) B.isinstance (by decide +kernel) (pa_cons (pv 0) (pa_cons (pe_bltn (v := .ty "ValueError") (by rfl) B.ValueError (by decide +kernel) rfl) pa_nil))))) pa_nil)))))))))), ?_⟩
    walk_at "sq go"
    intro t1 n1
    have s1 := same_new (o := .tup [V.str "InvalidList", .bl b1]) n1
    have ka1 := ka.same s1
    walk_at "sq go"
    intro t2 n2
    have s2 := same_new (o := .tup [V.str "InvalidNumber", .bl b2]) n2
    have ka2 := ka1.same s2
    walk_at "sq go"
    intro l1 m1
    have s3 := same_new (o := .lst [.ref t1, .ref t2]) m1
    have ka3 := ka2.same s3
    walk_at "sq go"
    intro t3 n3
    have s4 := same_new (o := .tup [V.str "InvalidCharacter", .bl b3]) n3
    have ka4 := ka3.same s4
    walk_at "sq go"
    intro l2 m2
    have s5 := same_new (o := .lst [.ref t3]) m2
    have ka5 := ka4.same s5
    have gl1 := (s4.trans s5) l1 _ upd_same
    walk_at "sq go"
    intro l3 m3
    have s6 := same_new (o := .lst ([.ref t1, .ref t2] ++ [.ref t3])) m3
    have ka6 := ka5.same s6
    walk_at "sq go"
    intro t4 n4
    have s7 := same_new (o := .tup [V.str "NothingToUndo", .bl b4]) n4
    have ka7 := ka6.same s7
    walk_at "sq go"
    intro t5 n5
    have s8 := same_new (o := .tup [V.str "Unreadable", .bl b5]) n5
    have ka8 := ka7.same s8
    walk_at "sq go"
    intro l4 m4
    have s9 := same_new (o := .lst [.ref t4, .ref t5]) m4
    have ka9 := ka8.same s9
    have gl3 := (s7.trans (s8.trans s9)) l3 _ upd_same
    walk_at "sq go"
    intro l5 m5
    have s10 := same_new (o := .lst ([.ref t1, .ref t2] ++ [.ref t3] ++ [.ref t4, .ref t5])) m5
    have ka10 := ka9.same s10
    have five := five_get (H := upd (upd (upd (upd (upd (upd (upd (upd (upd (upd H t1 (.tup [V.str "InvalidList", .bl b1])) t2 (.tup [V.str "InvalidNumber", .bl b2])) l1 (.lst [.ref t1, .ref t2])) t3 (.tup [V.str "InvalidCharacter", .bl b3])) l2 (.lst [.ref t3])) l3 (.lst ([.ref t1, .ref t2] ++ [.ref t3]))) t4 (.tup [V.str "NothingToUndo", .bl b4])) t5 (.tup [V.str "Unreadable", .bl b5])) l4 (.lst [.ref t4, .ref t5])) l5 (.lst ([.ref t1, .ref t2] ++ [.ref t3] ++ [.ref t4, .ref t5])))
      (ps := [(V.str "InvalidList", b1), (.str "InvalidNumber", b2), (.str "InvalidCharacter", b3), (.str "NothingToUndo", b4), (.str "Unreadable", b5)]) rfl
      ((s2.trans (s3.trans (s4.trans (s5.trans (s6.trans (s7.trans (s8.trans (s9.trans s10)))))))) _ _ upd_same) ((s3.trans (s4.trans (s5.trans (s6.trans (s7.trans (s8.trans (s9.trans s10))))))) _ _ upd_same) ((s5.trans (s6.trans (s7.trans (s8.trans (s9.trans s10))))) _ _ upd_same) ((s8.trans (s9.trans s10)) _ _ upd_same) ((s9.trans s10) _ _ upd_same)
    have sA := s1.trans (s2.trans (s3.trans (s4.trans (s5.trans (s6.trans (s7.trans (s8.trans (s9.trans s10))))))))
    have gl5 : upd (upd (upd (upd (upd (upd (upd (upd (upd (upd H t1 (.tup [V.str "InvalidList", .bl b1])) t2 (.tup [V.str "InvalidNumber", .bl b2])) l1 (.lst [.ref t1, .ref t2])) t3 (.tup [V.str "InvalidCharacter", .bl b3])) l2 (.lst [.ref t3])) l3 (.lst ([.ref t1, .ref t2] ++ [.ref t3]))) t4 (.tup [V.str "NothingToUndo", .bl b4])) t5 (.tup [V.str "Unreadable", .bl b5])) l4 (.lst [.ref t4, .ref t5])) l5 (.lst ([.ref t1, .ref t2] ++ [.ref t3] ++ [.ref t4, .ref t5])) l5 = some (.lst ([.ref t1, .ref t2] ++ [.ref t3] ++ [.ref t4, .ref t5])) := upd_same
    generalize upd (upd (upd (upd (upd (upd (upd (upd (upd (upd H t1 (.tup [V.str "InvalidList", .bl b1])) t2 (.tup [V.str "InvalidNumber", .bl b2])) l1 (.lst [.ref t1, .ref t2])) t3 (.tup [V.str "InvalidCharacter", .bl b3])) l2 (.lst [.ref t3])) l3 (.lst ([.ref t1, .ref t2] ++ [.ref t3]))) t4 (.tup [V.str "NothingToUndo", .bl b4])) t5 (.tup [V.str "Unreadable", .bl b5])) l4 (.lst [.ref t4, .ref t5])) l5 (.lst ([.ref t1, .ref t2] ++ [.ref t3] ++ [.ref t4, .ref t5])) = HA at five sA gl5 ka10 ⊢
    clear s1 s2 s3 s4 s5 s6 s7 s8 s9 s10 ka1 ka2 ka3 ka4 ka5 ka6 ka7 ka8 ka9 gl1 gl3
    walk_at "sq go"
    intro D nD
    have sD := same_new (o := .lst []) nD
    refine lc_listN (K := K) (a := l5) (xs := [.ref t1, .ref t2] ++ [.ref t3] ++ [.ref t4, .ref t5]) (fun i H' => Keep (But D (upd HA D (.lst [])) H' ∧ H' D = some (.lst ((([(V.str "InvalidList", b1), (.str "InvalidNumber", b2), (.str "InvalidCharacter", b3), (.str "NothingToUndo", b4), (.str "Unreadable", b5)].take i).filter (·.2)).map (·.1))))) ⟨.refl _ _, upd_same⟩ (fun i H' _ h => ?_) (fun i x H' hx h => ?_) (fun H' h => ?_)
    · obtain ⟨bt, _⟩ := h.o
      exact (bt.same sD nD).seq (seqL_of gl5)
    · obtain ⟨bt, gD⟩ := h.o
      obtain ⟨t, n, b, rfl, e, ht⟩ := five i x hx
      have sm := bt.same sD nD
      have ht2 := sm _ _ ht
      have hot := (ka10.same sm).hot
      have li := (List.getElem?_eq_some_iff.mp hx).1
      have e2 := nm_take e
      have sz : ((([(V.str "InvalidList", b1), (.str "InvalidNumber", b2), (.str "InvalidCharacter", b3), (.str "NothingToUndo", b4), (.str "Unreadable", b5)].take i).filter (·.2)).map (·.1)).length < sizeLine := by
        rw [List.length_map, sizeLine_eq]
        refine Nat.lt_of_le_of_lt (List.length_filter_le _ _) ?_
        rw [List.length_take]
        have li5 : i < 5 := li
        omega
      walk_at "sq go"
      cases b with
      | false =>
        show Keep _
        exact ⟨bt, by rw [e2]; simpa using gD⟩
      | true =>
        walk_at "sq go"
        exact ⟨bt.trans .put, by rw [upd_same, e2]; rfl⟩
    · obtain ⟨bt, gD⟩ := h.o
      have sm := bt.same sD nD
      have kb := ka10.same sm
      refine ⟨kb.hot, ?_⟩
      walk_at "sq go"
      intro m nm
      have gD2 : upd H' m (.lst [v, .bl true]) D = some (.lst (nmE b1 b2 b3 b4 b5)) := upd_keep nm gD
      have sz : (nmE b1 b2 b3 b4 b5).length + ([v, .bl true] : List V).length ≤ sizeLine := by
        unfold nmE
        rw [List.length_map, sizeLine_eq]
        have := List.length_filter_le (fun x => x.2) [(V.str "InvalidList", b1), (.str "InvalidNumber", b2), (.str "InvalidCharacter", b3), (.str "NothingToUndo", b4), (.str "Unreadable", b5)]
        simp only [List.length_cons, List.length_nil] at *
        omega
      walk_at "sq go"
      intro l nl
      refine q l _ (sA.trans (sm.trans ((same_new nm).trans (same_new nl)))) ?_ upd_same
      exact sA.free (sm.free ((same_new nm).free nl))

/-! ### lists with bad numbers -/
theorem bad_ins (ns : List Int) (j : Nat) {v : Int} (hv : v < 2) : bad (ns.take j ++ [v] ++ ns.drop j) ≠ none := fun e => by
  have := bad_none.mp e v (by simp)
  omega
theorem iv_ins (ns : List Int) (j : Nat) (v : Int) : (iv ns).take j ++ [V.int v] ++ (iv ns).drop j = iv (ns.take j ++ [v] ++ ns.drop j) := by simp
theorem same_upd {G G' : Hp} {p : Addr} {u : HO} (h : Same G G') : Same (upd G p u) (upd G' p u) := fun b x e => by
  by_cases hb : b = p
  · rw [hb, upd_same] at e ⊢
    exact e
  · rw [upd_ne hb] at e ⊢
    exact h b x e
/-- what the places below 2 say of the first of them -/
def Lows (ns : List Int) (i : Nat) (acc : List Int) : Prop := acc.length ≤ i ∧ (∀ j, bad ns = some j → (i ≤ j → acc = []) ∧ (j < i → ∃ r, acc = (j : Int) :: r))
theorem bad_lt {ns : List Int} {j : Nat} (h : bad ns = some j) : j < ns.length ∧ (∀ k, ns[j]? = some k → k < 2) ∧ ∀ i : Nat, i < j → ∀ k, ns[i]? = some k → 2 ≤ k := by
  unfold bad at h
  rw [List.findIdx?_eq_some_iff_getElem] at h
  obtain ⟨lt, e, no⟩ := h
  refine ⟨lt, fun k hk => ?_, fun i hi k hk => ?_⟩
  · rw [List.getElem?_eq_getElem lt] at hk
    cases hk
    simpa using e
  · have z := no i hi
    rw [List.getElem?_eq_getElem (by omega)] at hk
    cases hk
    simpa using z
theorem Lows.zero (ns : List Int) : Lows ns 0 [] := ⟨Nat.le_refl _, fun j _ => ⟨fun _ => rfl, fun h => absurd h (by omega)⟩⟩
theorem Lows.hit {ns : List Int} {i : Nat} {acc : List Int} {k : Int} (h : Lows ns i acc) (hk : ns[i]? = some k) (c : k < 2) : Lows ns (i + 1) (acc ++ [(i : Int)]) := by
  refine ⟨by rw [List.length_append, List.length_singleton]; exact Nat.succ_le_succ h.1, fun j e => ?_⟩
  obtain ⟨a, b⟩ := h.2 j e
  obtain ⟨lt, at_, no⟩ := bad_lt e
  constructor
  · intro hj
    have := no i (by omega) k hk
    omega
  · intro hj
    by_cases z : j < i
    · obtain ⟨r, rfl⟩ := b z
      exact ⟨r ++ [(i : Int)], rfl⟩
    · have e2 : j = i := by omega
      rw [a (by omega), e2]
      exact ⟨[], rfl⟩
theorem Lows.miss {ns : List Int} {i : Nat} {acc : List Int} {k : Int} (h : Lows ns i acc) (hk : ns[i]? = some k) (c : ¬ k < 2) : Lows ns (i + 1) acc := by
  refine ⟨Nat.le_succ_of_le h.1, fun j e => ?_⟩
  obtain ⟨a, b⟩ := h.2 j e
  obtain ⟨lt, at_, no⟩ := bad_lt e
  have ne : j ≠ i := fun z => by
    subst z
    exact c (at_ k hk)
  exact ⟨fun hj => a (by omega), fun hj => b (by omega)⟩

/-! ### lists that may be bad; the first bad number -/
theorem low4 {a : Int} (a0 : 0 ≤ a) (a1 : a < 10 ^ 29) {w : Int} (h0 : 0 ≤ w) (h1 : w < 4) : ∃ v, atI [V.int 1, V.int 0, V.int (-1), V.int (0 - a)] w = some (.int v) ∧ v ≤ 1 ∧ -(10 ^ 29) ≤ v := by
  rcases (show w = 0 ∨ w = 1 ∨ w = 2 ∨ w = 3 by omega) with z | z | z | z <;> rw [z]
  · exact ⟨_, atI_nat (j := 0) rfl, by omega, by decide⟩
  · exact ⟨_, atI_nat (j := 1) rfl, by omega, by decide⟩
  · exact ⟨_, atI_nat (j := 2) rfl, by omega, by decide⟩
  · exact ⟨_, atI_nat (j := 3) rfl, by omega, by omega⟩
theorem few4 {w : Int} (h0 : 0 ≤ w) (h1 : w < 4) : ∃ v : Int, atI [V.int 0, V.int 0, V.int 1, V.int 2] w = some (.int v) ∧ 0 ≤ v ∧ v ≤ 2 := by
  rcases (show w = 0 ∨ w = 1 ∨ w = 2 ∨ w = 3 by omega) with z | z | z | z <;> rw [z]
  · exact ⟨_, atI_nat (j := 0) rfl, by decide, by decide⟩
  · exact ⟨_, atI_nat (j := 1) rfl, by decide, by decide⟩
  · exact ⟨_, atI_nat (j := 2) rfl, by decide, by decide⟩
  · exact ⟨_, atI_nat (j := 3) rfl, by decide, by decide⟩
/-- a list of numbers within bounds -/
def Bd1 (n : Nat) (ns : List Int) : Prop := ns.length ≤ n ∧ ∀ k ∈ ns, k ≤ 10 ^ 6 ∧ -(10 ^ 29) ≤ k
theorem Bd1.bd0 {n : Nat} {ns : List Int} (h : Bd1 n ns) (hn : n ≤ 200) : Bd0 ns := ⟨fun k hk => (h.2 k hk).1, Nat.le_trans h.1 hn⟩
theorem Bd1.lg {n : Nat} {ns : List Int} (h : Bd1 n ns) : ∀ k ∈ ns, k.natAbs.log2 < 1920 := fun k hk => by
  have := h.2 k hk
  exact Nat.lt_trans ((show Sm 100 k by unfold Sm; omega).lg (by decide)) (by decide)
abbrev s_law_spoilt : Stmt := topS 22
theorem sc_law_spoilt : FnScope ["source", "row", "found", "time", "low"] ["source", "row"] (defScope s_law_spoilt) := ⟨rfl, rfl, rfl, by decide +kernel, rfl, by decide +kernel, by decide +kernel⟩

def spSpoilt (K : PySem.W.Frag) : Sp := fun vs H Q _ => ∃ (r d p : Addr) (ns : List Int) (N : Int) (G : Hp), vs = [.ref r, .ref p] ∧ Sep (rgB r d N) G H ∧ SqL K H p (iv ns) ∧ Keep (Bd1 100 ns ∧ N < 2 ^ 59) ∧
  ∀ l ms H', G l = none → Bd1 (ns.length + 2) ms → Sep (rgB r d (N + 8)) (upd G l (.lst (iv ms))) H' → Q (.ref l) H'
theorem cal_spoilt (D : DefAt K mg "_law_spoilt" s_law_spoilt ["source", "row"]) (B : Bt mg) (c_law_draw : Cal P w K mg base 1 "_law_draw" spDraw []) : Cal P w K mg base 2 "_law_spoilt" (spSpoilt K) [] := by
  refine D.cal sc_law_spoilt (fun vs H Q E h => ?_) (fun f cdv A outer s H vs Q E hr h => ?_)
  · obtain ⟨r, d, p, ns, N, G, rfl, _⟩ := h
    rfl
  · obtain ⟨r, d, p, ns, N, G, rfl, hS, hp, ⟨bn, hN⟩, q⟩ := h
    refine ⟨_, (pss_cons (ps_set (i := 2) sc_law_spoilt.nd rfl (Or.inl rfl) (pe_callTy (list_ofK (K := K)) (by rfl) B.list (by decide +kernel) (pa_cons (pv 1) pa_nil)))
  (pss_cons (ps_for PassesOwn.never rfl (pi_range1 (by rfl) B.range (pa_cons (pe_ix (ix_listK (K := K)) (pe_lst (pa_cons pe_int (pa_cons pe_int (pa_cons pe_int (pa_cons pe_int pa_nil))))) (pe_c c_law_draw hr (by first | decide | omega) (by rfl) (pa_cons (pv 0) (pa_cons pe_int pa_nil))) (fun _ _ => rfl)) pa_nil)) (pg_name (i := 3) sc_law_spoilt.nd rfl (Or.inl rfl))
   (pss_cons (ps_set (i := 4) sc_law_spoilt.nd rfl (Or.inl rfl) (pe_ix (ix_listK (K := K)) (pe_lst (pa_cons pe_int (pa_cons pe_int (pa_cons (pe_un un_neg pe_int) (pa_cons (pe_op op_sub pe_int (pe_c c_law_draw hr (by first | decide | omega) (by rfl) (pa_cons (pv 0) (pa_cons (pe_op op_powW pe_int pe_int) pa_nil)))) pa_nil))))) (pe_c c_law_draw hr (by first | decide | omega) (by rfl) (pa_cons (pv 0) (pa_cons pe_int pa_nil))) (fun _ _ => rfl)))
  (pss_one (ps_expr (pe_bm PySem.F.plainAttrs_list PySem.F.slot_list_insert PySem.F.type_list_insert mt_insert (pv 2) (pa_cons (pe_c c_law_draw hr (by first | decide | omega) (by rfl) (pa_cons (pv 0) (pa_cons (pe_op op_add (pe_callB (len_seqK (K := K)) (by rfl) B.len boot_len (pa_cons (pv 2) pa_nil)) pe_int) pa_nil))) (pa_cons (pv 4) pa_nil)))))))
  (pss_one (ps_ret (pv 2))))), ?_⟩
    walk_at "sq go"
    intro l nl
    have gl := hS.free nl
    have hS1 := hS.new nl (.lst (iv ns))
    walk_at "sq go"
    intro e0 ne0
    have ge0 := hS1.free ne0
    have hS2 := hS1.new ne0 (.lst [.int 0, .int 0, .int 1, .int 2])
    walk_at "sq go"
    refine ⟨⟨by omega, by omega, by omega⟩, fun tn H2 t0 t1 hS3 => ?_⟩
    have gE : H2 e0 = some (.lst [.int 0, .int 0, .int 1, .int 2]) := hS3.get upd_same
    obtain ⟨many, em, m0, m2⟩ := few4 t0 t1
    have hS4 := hS3.weak (same_new (o := .lst [.int 0, .int 0, .int 1, .int 2]) ge0)
    walk_at "sq go"
    refine for_range (lo := 0) (n := many.toNat) (fun i σ H' => Keep (∃ ms x y, σ = [some (.ref r), some (.ref p), some (.ref l), x, y] ∧ Sep (rgB r d (N + 1 + 3 * i)) (upd G l (.lst (iv ms))) H' ∧ Bd1 (ns.length + i) ms ∧ i ≤ 2))
      ⟨ns, none, none, rfl, SepB.mono hS4 (by omega), ⟨Nat.le_refl _, bn.2⟩, by omega⟩ (fun i σ H' hi h => ?_) (fun σ H' h => ?_)
    · obtain ⟨ms, x, y, rfl, hs, bm, i2⟩ := h.o
      have lm := bm.1
      have ln := bn.1
      walk_at "sq go"
      refine ⟨⟨by decide, by decide, by omega⟩, fun low K1 w0 w1 hs1 => ?_⟩
      walk_at "sq go"
      intro e ne
      have ge := hs1.free ne
      have nle : l ≠ e := fun z => by
        rw [← z, upd_same] at ge
        cases ge
      have hs2 := hs1.new ne (.lst [.int 1, .int 0, .int (-1), .int (0 - low)])
      walk_at "sq go"
      refine ⟨⟨by decide, by decide, by omega⟩, fun wy K2 y0 y1 hs3 => ?_⟩
      have ge3 : K2 e = some (.lst [.int 1, .int 0, .int (-1), .int (0 - low)]) := hs3.get upd_same
      obtain ⟨v, ev, v1, v2⟩ := low4 w0 (show low < 10 ^ 29 from w1) y0 y1
      have hs4 := hs3.weak (same_new (o := .lst [.int 1, .int 0, .int (-1), .int (0 - low)]) ge)
      have gl4 := hs4.get upd_same
      walk_at "sq go"
      have lv : (iv ms).length = ms.length := iv_len _
      refine ⟨⟨by omega, by omega, by omega⟩, fun at_ K3 a0 a1 hs5 => ?_⟩
      have gl5 := hs5.get upd_same
      walk_at "sq go"
      have hs6 := hs5.put upd_same (.lst ((iv ms).take at_.toNat ++ [V.int v] ++ (iv ms).drop at_.toNat))
      rw [upd_upd] at hs6
      rw [iv_ins]
      rw [iv_ins] at hs6
      refine ⟨_, _, _, rfl, SepB.mono hs6 (by omega), ⟨?_, fun k hk => ?_⟩, by omega⟩
      · simp only [List.length_append, List.length_take, List.length_drop, List.length_singleton]
        omega
      · rcases List.mem_append.mp hk with z | z
        · rcases List.mem_append.mp z with z | z
          · exact bm.2 k (List.mem_of_mem_take z)
          · rw [List.mem_singleton.mp z]
            omega
        · exact bm.2 k (List.mem_of_mem_drop z)
    · obtain ⟨ms, x, y, rfl, hs, bm, i2⟩ := h.o
      walk_at "sq go"
      exact q l ms H' gl ⟨Nat.le_trans bm.1 (by omega), bm.2⟩ (SepB.mono hs (by omega))
abbrev s_law_first : Stmt := topS 24
theorem sc_law_first : FnScope ["row", "low", "spot", "one"] ["row"] (defScope s_law_first) := ⟨rfl, rfl, rfl, by decide +kernel, rfl, by decide +kernel, by decide +kernel⟩

def spFirst (K : PySem.W.Frag) : Sp := fun vs H Q _ => ∃ (p : Addr) (ns : List Int), vs = [.ref p] ∧ SqL K H p (iv ns) ∧ Keep (ns.length ≤ 1000 ∧ (bad ns = none → ∀ H', Same H H' → Q .non H') ∧
  ∀ i : Nat, bad ns = some i → ∀ l H', Same H H' → H l = none → H' l = some (.lst [.str "InvalidList", .int i, .bl true]) → Q (.ref l) H')
theorem cal_first (D : DefAt K mg "_law_first" s_law_first ["row"]) (B : Bt mg) : Cal P w K mg base 1 "_law_first" (spFirst K) [] := by
  refine D.cal sc_law_first (fun vs H Q E h => ?_) (fun f cdv A outer s H vs Q E hr h => ?_)
  · obtain ⟨p, ns, rfl, _⟩ := h
    rfl
  · obtain ⟨p, ns, rfl, hS, ⟨len, q0, q1⟩⟩ := h
    refine ⟨_, (pss_cons (ps_setLc (i := 1) (own := [("spot", 2), ("one", 3)]) (by rfl) sc_law_first.nd rfl rfl (sw_true rfl rfl rfl (by decide +kernel)) (pi_enumK (K := K) (by rfl) B.enumerate (pa_cons (pv 0) pa_nil)) (blkOk_by (own := [("spot", 2), ("one", 3)]) (N := ["row", "low", "spot", "one"]) (sc := defScope s_law_first) (by decide +kernel)) (fun _ _ _ _ _ => (pg_tupK (K := K) (n := 2) rfl (pgs_cons (pg_name (i := 2) sc_law_first.nd rfl (Or.inl rfl)) (pgs_cons (pg_name (i := 3) sc_law_first.nd rfl (Or.inl rfl)) pgs_nil)))) (fun _ _ _ _ _ => (pts_one (pt_cmpR op_lt (pv 3) pe_int (nomark _)))) (fun _ _ _ _ _ => (pv 2)))
  (pss_one (ps_ret (pe_ifExp (pt_cmpR (op_neDK (K := K) hr.units) (pv 1) (pe_lst pa_nil) (nomark _)) (pe_lst (pa_cons pe_str (pa_cons (pe_ix (ix_listK (K := K)) (pv 1) pe_int (fun _ _ => rfl)) (pa_cons pe_bl pa_nil)))) pe_non)))), ?_⟩
    walk_at "sq go"
    intro D1 nD
    have sD := same_new (o := .lst []) nD
    refine lc_enum (K := K) (a := p) (xs := iv ns) (fun i H3 => Keep (∃ acc, But D1 (upd H D1 (.lst [])) H3 ∧ H3 D1 = some (.lst (iv acc)) ∧ Lows ns i acc ∧ (bad ns = none → acc = []))) ⟨[], .refl _ _, upd_same, Lows.zero _, fun _ => rfl⟩ (fun i H3 h => ?_) (fun i x T H3 hx h nT => ?_) (fun H3 h => ?_)
    · obtain ⟨acc, bt, _⟩ := h.o
      exact (bt.same sD nD).seq hS
    · obtain ⟨acc, bt, gD, lo, e0⟩ := h.o
      obtain ⟨k, hk, rfl⟩ := iv_get hx
      have sT := same_new (o := .tup [.int (i : Nat), .int k]) nT
      have gD2 := sT _ _ gD
      have bt2 := bt.trans (.of sT)
      walk_at "sq go"
      refine ifD (fun c => ?_) (fun c => ?_)
      · walk_at "sq go"
        have lt := (List.getElem?_eq_some_iff.mp hk).1
        have le := lo.1
        refine ⟨by walk_at "sq len", ⟨acc ++ [(i : Int)], bt2.trans .put, by rw [upd_same, iv_app], lo.hit hk c, fun e => absurd (bad_none.mp e k (List.mem_of_getElem? hk)) (by omega)⟩⟩
      · exact ⟨acc, bt2, gD2, lo.miss hk c, e0⟩
    · obtain ⟨acc, bt, gD, lo, e0⟩ := h.o
      have sm := bt.same sD nD
      walk_at "sq go"
      intro m nm
      refine r_neI (xs := acc) (ys := []) (seqL_of (upd_keep nm gD)) (seqL_of upd_same) ?_
      have sm2 := sm.trans (same_new (o := .lst []) nm)
      cases eb : bad ns with
      | none =>
        have z := e0 eb
        subst z
        walk_at "sq go"
        exact q0 eb _ sm2
      | some j =>
        obtain ⟨rest, rfl⟩ := (lo.2 j eb).2 (by rw [iv_len]; exact (bad_lt eb).1)
        rw [show (!decide ((j : Int) :: rest = [])) = true by simp]
        have at0 : atI (iv ((j : Int) :: rest)) 0 = some (.int (j : Nat)) := atI_nat (j := 0) rfl
        have gD3 := upd_keep (o := .lst []) nm gD
        walk_at "sq go"
        intro l nl
        exact q1 j eb l _ (sm2.trans (same_new nl)) (sm2.free nl) upd_same

/-! ### the quiet part grows -/
theorem Sep.box {R : Rg} {G H : Hp} {p : Addr} (s : Sep R G H) (h : H p = none) (o : HO) : ∃ G2 H2, upd H p o = H2 ∧ Same G G2 ∧ G2 p = some o ∧ H2 p = some o ∧ Sep R G2 H2 := ⟨_, _, rfl, same_new (s.free h), upd_same, upd_same, s.new h o⟩
theorem Sep.took {R : Rg} {G H : Hp} {p : Addr} {o : HO} (s : Sep R (upd G p o) H) (h : G p = none) : ∃ G2, Same G G2 ∧ G2 p = some o ∧ H p = some o ∧ Sep R G2 H := ⟨_, same_new h, upd_same, s.get upd_same, s⟩
theorem sep_add {R : Rg} {G H H2 : Hp} {L : Addr} {o : HO} (s : Sep R G H) (sm : Same H H2) (n : H L = none) (e : H2 L = some o) : Sep R (upd G L o) H2 := by
  have s2 := s.on sm
  refine ⟨s2.inv, fun b u hb => ?_, fun a ha => ?_⟩
  · by_cases z : b = L
    · rw [z, upd_same] at hb
      cases hb
      rw [z]
      exact e
    · rw [upd_ne z] at hb
      exact s2.same b u hb
  · have na : a ≠ L := fun z => R.has H a s.inv ha (by rw [z]; exact n)
    rw [upd_ne na]
    exact s2.off a ha
theorem r_repr2 {K : PySem.W.Frag} {H : Hp} {p a b : Addr} {ns ms : List Int} {Q : VK} (h : H p = some (.lst [.ref a, .ref b])) (h1 : SqL K H a (iv ns)) (h2 : SqL K H b (iv ms)) (l1 : ns.length ≤ 500) (l2 : ms.length ≤ 500) (z1 : ∀ n ∈ ns, n.natAbs.log2 < 1920) (z2 : ∀ n ∈ ms, n.natAbs.log2 < 1920)
    (q : Q (.str (PyData.list [dI ns, dI ms]).shown) H) : rReprV K [.ref p] H Q := by
  refine rRepr_ok (k := 2) (b := 2000) (dok_list (k := 1) (b := 500) (fun d hd => ?_) (by simp)) (.lst (seqL_of h) (.cons (dp_iv h1) (.cons (dp_iv h2) .nil))) (by decide) (by decide) q
  rcases List.mem_cons.mp hd with z | z
  · rw [z]
    exact dok_dI z1 l1
  · rw [List.mem_singleton.mp z]
    exact dok_dI z2 l2

/-! ### what is raised -/
def due2 (ns ms : List Int) : Option Nat := match bad ns with | some i => some i | none => bad ms
local macro_rules | `(tactic| walk_at "sq side") => `(tactic| first
  | ((with_reducible show KeptN _ _ _ _); assumption)
  | ((with_reducible show PySem.W.exmOne _ _ _ = some _); assumption))
abbrev s_law_raised : Stmt := topS 23
theorem sc_law_raised : FnScope ["door", "one", "other", "caught", "e"] ["door", "one", "other"] (defScope s_law_raised) := ⟨rfl, rfl, rfl, by decide +kernel, rfl, by decide +kernel, by decide +kernel⟩

def spRaised (K : PySem.W.Frag) : Sp := fun vs H Q _ => ∃ (door : Int) (a b : Addr) (ns ms : List Int), vs = [.int door, .ref a, .ref b] ∧ SqL K H a (iv ns) ∧ SqL K H b (iv ms) ∧ Keep (Bd0 ns ∧ Bd0 ms ∧ (due2 ns ms = none → ∀ H', Same H H' → Q .non H') ∧
  ∀ i : Nat, due2 ns ms = some i → ∀ l H', Same H H' → H l = none → H' l = some (.lst [.str "InvalidList", .int i, .bl true]) → Q (.ref l) H')
theorem cal_raised {CL CN CC CU CR CS : Addr} (D : DefAt K mg "_law_raised" s_law_raised ["door", "one", "other"]) (B : Bt mg) (c6 : Cls6 mg CL CN CC CU CR CS) (kn : KndE K CL CN CC CU CR CS CL true false false false false) (c_law_error : CalC P w K mg base 1 "_law_error" (spErr K CL CN CC CU CR CS))
    (c_parting_runX : CalXN P w K mg base 4 "parting_run" (spTwoX K CL)) (c_commuteX : CalXN P w K mg base 4 "commute" (spTwoX K CL)) : Cal P w K mg base 5 "_law_raised" (spRaised K) [] := by
  refine D.cal sc_law_raised (fun vs H Q E h => ?_) (fun f cdv A outer s H vs Q E hr h => ?_)
  · obtain ⟨door, a, b, ns, ms, rfl, _⟩ := h
    rfl
  · obtain ⟨door, a, b, ns, ms, rfl, hA, hB, ⟨zn, zm, q0, q1⟩⟩ := h
    obtain ⟨m_InvalidList, m_InvalidNumber, m_InvalidCharacter, m_NothingToUndo, m_Unreadable, m_SqueezeError⟩ := c6
    have kex := kn.ex
    refine ⟨_, (pss_cons (ps_set (i := 3) sc_law_raised.nd rfl (Or.inl rfl) pe_non)
  (pss_cons (ps_try_keepN (i := 4) rfl rfl sc_law_raised.nd rfl rfl rfl ⟨rfl, by decide, .inl m_SqueezeError⟩ takes0N
   (fun W pn xe tk po => (pss_one (ps_if (pt_cmpR op_eq (pv 0) pe_int (nomark _)) (pss_one (ps_expr (pe_cxN c_parting_runX hr (by first | decide | omega) tk (by rfl) (pa_cons (pv 1) (pa_cons (pv 2) pa_nil))))) (pss_one (ps_expr (pe_cxN c_commuteX hr (by first | decide | omega) tk (by rfl) (pa_cons (pv 1) (pa_cons (pv 2) pa_nil))))))))
   (fun a cls d pn => (pss_one (ps_set (i := 3) sc_law_raised.nd rfl (Or.inl rfl) (pe_calC c_law_error (roomS hr _) (by first | decide | omega) rfl (by rfl) (pa_cons (pv 4) pa_nil))))))
  (pss_one (ps_ret (pv 3))))), ?_⟩
    walk_at "sq go"
    have err : ∀ (i : Nat) (dd : Addr) (H' : Hp), due2 ns ms = some i → Same H H' → H' dd = some (.xd [("value", .int i)]) → wKeepN K (.ref CS) 4 (fun a cls d => tAsg (tCallC (spErr K CL CN CC CU CR CS) a (tCons (tVar 4) tNil)) (gName 3)) (fun _ _ _ _ => False)
        { nx := tRet (tVar 3) { nx := fun _ H' => Q .non H', rt := Q }, rt := Q } (.ref CL) (some dd) [some (.int door), some (.ref a), some (.ref b), some .non, none] H' := fun i dd H' e s1 hd => by
      refine ⟨true, kex, fun _ x nx => ?_, fun z => by cases z⟩
      have ka : KeptN (upd H' x (Xn x (.ref CL) (some dd))) x CL [("value", .int i)] := ⟨dd, upd_same, by rw [upd_ne (ne_of_none hd nx)]; exact hd⟩
      walk_at "sq go"
      refine ⟨⟨kn⟩, fun l H2 s2 nl gl => ?_⟩
      walk_at "sq go"
      exact q1 i e l _ (s1.trans ((same_new nx).trans s2)) (s1.free ((same_new nx).free nl)) gl
    refine ifD (fun c => ?_) (fun c => ?_)
    all_goals
      walk_at "sq go"
      refine ⟨⟨zn, zm, fun e1 e2 v H1 s1 => ?_, fun i e1 d H1 s1 hd => err i d H1 (by unfold due2; rw [e1]) s1 hd, fun i e1 e2 d H1 s1 hd => err i d H1 (by unfold due2; rw [e1]; exact e2) s1 hd⟩⟩
      walk_at "sq go"
      exact q0 (by unfold due2; rw [e1]; exact e2) _ s1
/-! ### what is told is what is due -/
/-- an error's list, or None -/
def ErrV (H : Hp) (x : V) : Option Nat → Prop
  | none => x = .non
  | some i => ∃ l, x = .ref l ∧ H l = some (.lst [.str "InvalidList", .int i, .bl true])
theorem ErrV.same {H H' : Hp} {x : V} {o : Option Nat} (h : ErrV H x o) (s : Same H H') : ErrV H' x o := by
  cases o with
  | none => exact h
  | some i =>
    obtain ⟨l, e, g⟩ := h
    exact ⟨l, e, s _ _ g⟩
def dErr : Option Nat → PyData
  | none => .none
  | some i => .list [.str "InvalidList", .int i, .bool true]
theorem ErrV.dp {H : Hp} {x : V} {o : Option Nat} (h : ErrV H x o) : Dp K H x (dErr o) := by
  cases o with
  | none =>
    obtain rfl : x = .non := h
    exact .non
  | some i =>
    obtain ⟨l, rfl, g⟩ := h
    exact .lst (seqL_of g) (.cons (.str _) (.cons (.int _) (.cons (.bl _) .nil)))
theorem err_plain (o : Option Nat) : plain (dErr o) = true := by
  cases o with
  | none => rfl
  | some i =>
    have e : (PyData.str "InvalidList").canLay0 = true := by decide +kernel
    simp [dErr, plain, plainAll, e]
theorem err_depth (o : Option Nat) : (dErr o).depth ≤ 1 := by
  cases o with
  | none => decide
  | some i => simp [dErr, PyData.depth, PyData.depthAll]
theorem alike_err2 {H : Hp} {a b : Addr} {x y u v : V} {o : Option Nat} {n : Nat} (ha : SqL K H a [x, y]) (hb : SqL K H b [u, v]) (h1 : ErrV H x o) (h2 : ErrV H y o) (h3 : ErrV H u o) (h4 : ErrV H v o) (hn : 2 ≤ n) : Alike K H n (.ref a) (.ref b) := by
  refine ⟨.list [dErr o, dErr o], .lst ha (.cons h1.dp (.cons h2.dp .nil)), .lst hb (.cons h3.dp (.cons h4.dp .nil)), ?_, ?_⟩
  · simp [plain, plainAll, err_plain]
  · have := err_depth o
    simp only [PyData.depth, PyData.depthAll]
    omega
theorem alike_err {H : Hp} {x y : V} {o : Option Nat} {n : Nat} (h1 : ErrV H x o) (h2 : ErrV H y o) (hn : 1 ≤ n) : Alike K H n x y := ⟨dErr o, h1.dp, h2.dp, err_plain o, Nat.le_trans (err_depth o) hn⟩
abbrev s_law : Stmt := topS 25
theorem sc_law : FnScope ["script", "source", "k", "turn", "one", "other", "saved", "due", "told", "door"] ["script"] (defScope s_law) := ⟨rfl, rfl, rfl, by decide +kernel, rfl, by decide +kernel, by decide +kernel⟩

def spLaw (K : PySem.W.Frag) : Sp := fun vs H Q _ => ∃ (a : Addr) (ns : List Int), vs = [.ref a] ∧ SqL K H a (iv ns) ∧ ns.length ≤ 63 ∧ ∀ H', Q (.bl true) H'
theorem ok_law {f : Addr} {fd : FuncData} (F : Fun K "law" "law" s_law f fd) (B : Bt mg) (c_law_source : Cal P w K mg base 1 "_law_source" (spSource K) []) (c_law_draw : Cal P w K mg base 1 "_law_draw" spDraw []) (c_law_row : Cal P w K mg base 2 "_law_row" spRow []) (c_law_spoilt : Cal P w K mg base 2 "_law_spoilt" (spSpoilt K) [])
    (c_law_first : Cal P w K mg base 1 "_law_first" (spFirst K) []) (c_law_raised : Cal P w K mg base 5 "_law_raised" (spRaised K) []) (c_law_same : Cal P w K mg base 5 "_law_same" (spSame K 3) []) : FnG P w K mg base CX0 8 f fd ["script"] (spLaw K) := by
  refine okG F sc_law (fun vs H Q E h => ?_) (fun cdv A outer s H vs Q E hG hr h => ?_)
  · obtain ⟨a, ns, rfl, _⟩ := h
    rfl
  · obtain ⟨p0, ns0, rfl, hP, hl, q⟩ := h
    refine ⟨_, (pss_cons (ps_set (i := 1) sc_law.nd rfl (Or.inl rfl) (pe_c c_law_source hr (by first | decide | omega) (by rfl) (pa_cons (pv 0) pa_nil)))
  (pss_cons (ps_for PassesOwn.never rfl (pi_range1 (by rfl) B.range (pa_cons (pe_op op_add pe_int (pe_callB (call_min2 rfl) (by rfl) B.min (by decide +kernel) (pa_cons pe_int (pa_cons (pe_callB (len_seqK (K := K)) (by rfl) B.len boot_len (pa_cons (pv 0) pa_nil)) pa_nil)))) pa_nil)) (pg_name (i := 2) sc_law.nd rfl (Or.inl rfl))
   (pss_one (ps_for PassesOwn.never rfl (pi_range1 (by rfl) B.range (pa_cons pe_int pa_nil)) (pg_name (i := 3) sc_law.nd rfl (Or.inl rfl))
   (pss_cons (ps_set (i := 4) sc_law.nd rfl (Or.inr rfl) (pe_c c_law_spoilt hr (by first | decide | omega) (by rfl) (pa_cons (pv 1) (pa_cons (pe_c c_law_row hr (by first | decide | omega) (by rfl) (pa_cons (pv 1) (pa_cons pe_int (pa_cons pe_int pa_nil)))) pa_nil))))
  (pss_cons (ps_set (i := 5) sc_law.nd rfl (Or.inr rfl) (pe_ix (ix_listK (K := K)) (pe_lst (pa_cons (pe_c c_law_spoilt hr (by first | decide | omega) (by rfl) (pa_cons (pv 1) (pa_cons (pe_c c_law_row hr (by first | decide | omega) (by rfl) (pa_cons (pv 1) (pa_cons pe_int (pa_cons pe_int pa_nil)))) pa_nil))) (pa_cons (pe_callTy (list_ofK (K := K)) (by rfl) B.list (by decide +kernel) (pa_cons (pv 4) pa_nil)) pa_nil))) (pe_c c_law_draw hr (by first | decide | omega) (by rfl) (pa_cons (pv 1) (pa_cons pe_int pa_nil))) (fun _ _ => rfl)))
  (pss_cut (ps_par (i := 6) (j := 7) rfl sc_law.nd rfl rfl (by decide) rfl rfl (pa_cons (pe_callB (call_reprVK (K := K) hG hr.units) (by rfl) B.repr (by decide +kernel) (pa_cons (pe_lst (pa_cons (pv 4) (pa_cons (pv 5) pa_nil))) pa_nil)) (pa_cons (pe_ifExp (pt_cmpR op_notN (pe_c c_law_first hr (by first | decide | omega) (by rfl) (pa_cons (pv 4) pa_nil)) pe_non (nomark _)) (pe_c c_law_first hr (by first | decide | omega) (by rfl) (pa_cons (pv 4) pa_nil)) (pe_c c_law_first hr (by first | decide | omega) (by rfl) (pa_cons (pv 5) pa_nil))) pa_nil)) (by rfl))
  (pss_cons (ps_setLc (i := 8) (own := [("door", 9)]) (g := gName 9) (by rfl) sc_law.nd rfl rfl (sw_true rfl rfl rfl (by decide +kernel)) (pi_range1 (by rfl) B.range (pa_cons pe_int pa_nil)) (blkOk_by (own := [("door", 9)]) (N := ["script", "source", "k", "turn", "one", "other", "saved", "due", "told", "door"]) (sc := defScope s_law) (by decide +kernel)) (fun _ _ _ _ _ => (pg_name (i := 9) sc_law.nd rfl (Or.inl rfl))) (fun _ _ _ _ _ => pts_nil) (fun _ _ _ _ _ => (pe_c c_law_raised hr (by first | decide | omega) (by rfl) (pa_cons (pv 9) (pa_cons (pv 4) (pa_cons (pv 5) pa_nil))))))
  (pss_one (ps_if (PW.pt (pw_or (pt_not (pt_val (pe_c c_law_same hr (by first | decide | omega) (by rfl) (pa_cons (pv 8) (pa_cons (pe_op op_rep (pe_lst (pa_cons (pv 7) pa_nil)) pe_int) pa_nil))))) (pw_or1 (pt_cmpR op_ne (pe_callB (call_reprVK (K := K) hG hr.units) (by rfl) B.repr (by decide +kernel) (pa_cons (pe_lst (pa_cons (pv 4) (pa_cons (pv 5) pa_nil))) pa_nil)) (pv 6) (nomark _))))) (pss_one (ps_ret pe_bl)) pss_nil)))))))))
  (pss_one (ps_ret (pe_c c_law_same hr (by first | decide | omega) (by rfl) (pa_cons (pe_c c_law_raised hr (by first | decide | omega) (by rfl) (pa_cons pe_int (pa_cons (pe_lst (pa_cons pe_int (pa_cons pe_int pa_nil))) (pa_cons (pe_lst (pa_cons pe_int (pa_cons pe_int pa_nil))) pa_nil)))) (pa_cons (pe_lst (pa_cons pe_str (pa_cons pe_int (pa_cons pe_bl pa_nil)))) pa_nil))))))), ?_⟩
    walk_at "sq go"
    intro r d H1 s1 hS1
    have hP1 := s1.seq hP
    walk_at "sq go"
    refine for_range (lo := 0) (n := _) (fun i σ H' => Keep (∃ x2 x3 x4 x5 x6 x7 x8 x9, σ = [some (.ref p0), some (.ref r), x2, x3, x4, x5, x6, x7, x8, x9] ∧ Sep (rgB r d (4000 * i)) H H' ∧ i ≤ 11)) ⟨_, _, _, _, _, _, _, _, rfl, SepB.mono hS1 (by omega), by omega⟩ (fun i σ H' hi h => ?_) (fun σ H' h => ?_)
    · obtain ⟨x2, x3, x4, x5, x6, x7, x8, x9, rfl, hs, hi11⟩ := h.o
      have hi12 : i + 1 ≤ 11 := by
        (repeat' split at hi) <;> omega
      walk_at "sq go"
      refine for_range (lo := 0) (n := 8) (fun j σ H' => Keep (∃ x2 x3 x4 x5 x6 x7 x8 x9, σ = [some (.ref p0), some (.ref r), x2, x3, x4, x5, x6, x7, x8, x9] ∧ Sep (rgB r d (4000 * i + 450 * j)) H H')) ⟨_, _, _, _, _, _, _, _, rfl, SepB.mono hs (by omega)⟩ (fun j σ H' hj h => ?_) (fun σ H' h => ?_)
      · obtain ⟨x2, x3, x4, x5, x6, x7, x8, x9, rfl, hs1⟩ := h.o
        walk_at "sq go"
        refine ⟨⟨by decide, by decide, by decide, by decide, by omega⟩, fun p ns H2 gp ln row hs2 => ?_⟩
        obtain ⟨G1, t1, g1, h1, hs2⟩ := hs2.took gp
        have hp := seqL_of (K := K) h1
        have b1 : Bd1 100 ns := ⟨Nat.le_trans ln (by decide), fun k hk => ⟨Int.le_trans (row k hk).2 (by decide), Int.le_trans (by decide) (row k hk).1⟩⟩
        walk_at "sq go"
        refine ⟨⟨b1, by omega⟩, fun a ms1 H3 ga bm1 hs3 => ?_⟩
        obtain ⟨G2, t2, g2, h2, hs3⟩ := hs3.took ga
        walk_at "sq go"
        refine ⟨⟨by decide, by decide, by decide, by decide, by omega⟩, fun p3 ns3 H4 gp3 ln3 row3 hs4 => ?_⟩
        obtain ⟨G3, t3, g3, h3, hs4⟩ := hs4.took gp3
        have hp3 := seqL_of (K := K) h3
        have b3 : Bd1 100 ns3 := ⟨Nat.le_trans ln3 (by decide), fun k hk => ⟨Int.le_trans (row3 k hk).2 (by decide), Int.le_trans (by decide) (row3 k hk).1⟩⟩
        walk_at "sq go"
        refine ⟨⟨b3, by omega⟩, fun b1' ms2 H5 gb bm2 hs5 => ?_⟩
        obtain ⟨G4, t4, g4, h4, hs5⟩ := hs5.took gb
        have ga5 := hs5.get (t4 _ _ (t3 _ _ g2))
        have hp5 := seqL_of (K := K) ga5
        walk_at "sq go"
        intro b2 nb2
        obtain ⟨G5, H6, eq6, t5, g5, h5, hs6⟩ := hs5.box nb2 (.lst (iv ms1))
        rw [eq6]
        walk_at "sq go"
        intro e1 ne1
        obtain ⟨G6, H7, eq7, t6, g6, h6, hs7⟩ := hs6.box ne1 (.lst [.ref b1', .ref b2])
        rw [eq7]
        walk_at "sq go"
        refine ⟨⟨by decide, by decide, by omega⟩, fun w H8 w0 w1 hs8 => ?_⟩
        have he1 := hs8.get g6
        have z1 : Bd1 12 ms1 := ⟨Nat.le_trans bm1.1 (by omega), bm1.2⟩
        obtain ⟨b, mb, eb, gb6, zb⟩ : ∃ (b : Addr) (mb : List Int), atI [V.ref b1', V.ref b2] w = some (.ref b) ∧ G6 b = some (.lst (iv mb)) ∧ Bd1 12 mb := by
          rcases (show w = 0 ∨ w = 1 by omega) with z | z <;> rw [z]
          · exact ⟨b1', ms2, atI_nat (j := 0) rfl, t6 _ _ (t5 _ _ g4), Nat.le_trans bm2.1 (by omega), bm2.2⟩
          · exact ⟨b2, ms1, atI_nat (j := 1) rfl, t6 _ _ g5, z1⟩
        have ga6 : G6 a = some (.lst (iv ms1)) := t6 _ _ (t5 _ _ (t4 _ _ (t3 _ _ g2)))
        have sG6 : Same H G6 := t1.trans (t2.trans (t3.trans (t4.trans (t5.trans t6))))
        clear hs2 hs3 hs4 hs5 hs6 hs7 h1 h2 h3 h4 h5 h6 g1 g2 g3 g4 g5 t1 t2 t3 t4 t5 t6 hp hp3 hp5 ga5 bm1 bm2 b1 b3
        walk_at "sq go"
        have nna : bad ms1 = none ∨ bad ms1 ≠ none := Classical.em _
        refine cut_at (fun σ' H' => ∃ dv : V, σ' = [some (.ref p0), some (.ref r), x2, some (.int (0 + ((j : Nat) : Int))), some (.ref a), some (.ref b), some (.str (PyData.list [dI ms1, dI mb]).shown), some dv, x8, x9] ∧ Sep (rgB r d (4000 * i + 450 * (j + 1))) G6 H' ∧ ErrV H' dv (due2 ms1 mb)) (fun N hN => ?_) (fun σ1 K1 hd => ?_)
        · have hsa := hs8
          walk_at "sq go"
          intro rp nrp
          obtain ⟨G7, K2, eqk, t7, g7, h7, hs9⟩ := hs8.box nrp (.lst [.ref a, .ref b])
          rw [eqk]
          have ha9 := seqL_of (K := K) (hs9.get (t7 _ _ ga6))
          have hb9 := seqL_of (K := K) (hs9.get (t7 _ _ gb6))
          refine r_repr2 h7 ha9 hb9 (Nat.le_trans z1.1 (by decide)) (Nat.le_trans zb.1 (by decide)) z1.lg zb.lg ?_
          walk_at "sq go"
          have len1 : ms1.length ≤ 1000 := Nat.le_trans z1.1 (by decide)
          have len2 : mb.length ≤ 1000 := Nat.le_trans zb.1 (by decide)
          refine ⟨⟨len1, fun e K3 s3 => ?_, fun i1 e l0 K3 s3 nl0 gl0 => ?_⟩⟩
          · have hb10 := s3.seq hb9
            have du : due2 ms1 mb = bad mb := by
              unfold due2
              rw [e]
            walk_at "sq go"
            refine ⟨⟨len2, fun e2 K4 s4 => ?_, fun i2 e2 l K4 s4 nl gl => ?_⟩⟩
            · walk_at "sq go"
              refine hN _ _ ⟨.non, rfl, SepB.mono (((hs9.on s3).on s4).weak t7) (by omega), ?_⟩
              rw [du, e2]
              rfl
            · walk_at "sq go"
              refine hN _ _ ⟨.ref l, rfl, SepB.mono (((hs9.on s3).on s4).weak t7) (by omega), ?_⟩
              rw [du, e2]
              exact ⟨l, rfl, gl⟩
          · have ha10 := s3.seq ha9
            have du : due2 ms1 mb = some i1 := by
              unfold due2
              rw [e]
            walk_at "sq go"
            refine ⟨⟨len1, fun e2 => ?_, fun i2 e2 l K4 s4 nl gl => ?_⟩⟩
            · rw [e] at e2
              cases e2
            · rw [e] at e2
              cases e2
              walk_at "sq go"
              refine hN _ _ ⟨.ref l, rfl, SepB.mono (((hs9.on s3).on s4).weak t7) (by omega), ?_⟩
              rw [du]
              exact ⟨l, rfl, gl⟩
        · obtain ⟨dv, rfl, hs9, ed⟩ := hd
          have ha9 := seqL_of (K := K) (hs9.get ga6)
          have hb9 := seqL_of (K := K) (hs9.get gb6)
          walk_at "sq go"
          intro D nD
          have sD := same_new (o := .lst []) nD
          refine lc_range (lo := 0) (n := 2) (fun t K3 => Keep (∃ us : List V, But D (upd K1 D (.lst [])) K3 ∧ K3 D = some (.lst us) ∧ us.length = t ∧ ∀ u ∈ us, ErrV K3 u (due2 ms1 mb))) ⟨[], .refl _ _, upd_same, rfl, fun u hu => by cases hu⟩ (fun t K3 ht h => ?_) (fun K3 h => ?_)
          · obtain ⟨us, bt, gD, lu, ok⟩ := h.o
            have sm := bt.same sD nD
            have ha10 := sm.seq ha9
            have hb10 := sm.seq hb9
            have lz : us.length < sizeLine := small1000 (by omega)
            have fin : ∀ (x : V) (K4 : Hp), Same K3 K4 → ErrV K4 x (due2 ms1 mb) → Keep (∃ us2 : List V, But D (upd K1 D (.lst [])) (upd K4 D (.lst (us ++ [x]))) ∧ upd K4 D (.lst (us ++ [x])) D = some (.lst us2) ∧ us2.length = t + 1 ∧ ∀ u ∈ us2, ErrV (upd K4 D (.lst (us ++ [x]))) u (due2 ms1 mb)) := fun x K4 s4 hx => by
              have up : ∀ u : V, ErrV K4 u (due2 ms1 mb) → ErrV (upd K4 D (.lst (us ++ [x]))) u (due2 ms1 mb) := fun u hu => by
                cases eo : due2 ms1 mb with
                | none =>
                  rw [eo] at hu
                  exact hu
                | some i2 =>
                  rw [eo] at hu
                  obtain ⟨l, rfl, gl⟩ := hu
                  refine ⟨l, rfl, ?_⟩
                  rw [upd_ne]
                  · exact gl
                  · intro z
                    rw [z, s4 _ _ gD] at gl
                    have e := HO.lst.inj (Option.some.inj gl)
                    have := ok (.str "InvalidList") (by rw [e]; exact List.mem_cons_self)
                    rw [eo] at this
                    obtain ⟨_, q, _⟩ := this
                    cases q
              refine ⟨us ++ [x], bt.trans ((But.of s4).trans .put), upd_same, by simp [lu], fun u hu => up u ?_⟩
              rcases List.mem_append.mp hu with z | z
              · exact (ok u z).same s4
              · rw [List.mem_singleton.mp z]
                exact hx
            have gDs : ∀ {K4 : Hp}, Same K3 K4 → K4 D = some (.lst us) := fun s4 => s4 _ _ gD
            walk_at "sq go"
            refine ⟨⟨z1.bd0 (by decide), zb.bd0 (by decide), fun e K4 s4 => ?_, fun i2 e l K4 s4 nl gl => ?_⟩⟩
            · have gD4 := gDs s4
              walk_at "sq go"
              exact fin _ _ s4 (by rw [e]; rfl)
            · have gD4 := gDs s4
              walk_at "sq go"
              exact fin _ _ s4 (by rw [e]; exact ⟨l, rfl, gl⟩)
          · obtain ⟨us, bt, gD, lu, ok⟩ := h.o
            have sm := bt.same sD nD
            obtain ⟨u1, u2, rfl⟩ : ∃ u1 u2, us = [u1, u2] := by
              match us, lu with
              | [u1, u2], _ => exact ⟨u1, u2, rfl⟩
            have ok1 := ok u1 (by simp)
            have ok2 := ok u2 (by simp)
            walk_at "sq go"
            intro A1 nA1
            walk_at "sq go"
            intro A2 nA2
            have s12 := (same_new (o := .lst [dv]) nA1).trans (same_new (o := .lst (List.replicate (Int.toNat 2) [dv]).flatten) nA2)
            have gD2 := s12 _ _ gD
            walk_at "sq go"
            refine ⟨⟨alike_err2 (o := due2 ms1 mb) (x := u1) (y := u2) (u := dv) (v := dv) (seqL_of gD2) (seqL_of upd_same) (ok1.same s12) (ok2.same s12) ((ed.same sm).same s12) ((ed.same sm).same s12) (by decide)⟩, fun K5 s5 => ?_⟩
            have s15 := sm.trans (s12.trans s5)
            have ha15 := s15.seq ha9
            have hb15 := s15.seq hb9
            walk_at "sq go"
            intro rp nrp
            have s16 := s15.trans (same_new (o := .lst [.ref a, .ref b]) nrp)
            refine r_repr2 upd_same (s16.seq ha9) (s16.seq hb9) (Nat.le_trans z1.1 (by decide)) (Nat.le_trans zb.1 (by decide)) z1.lg zb.lg ?_
            walk_at "sq go"
            refine ifN (fun c => absurd rfl c) (fun _ => ?_)
            walk_at "sq go"
            exact ⟨_, _, _, _, _, _, _, _, rfl, SepB.mono ((hs9.on s16).weak sG6) (by omega)⟩
      · obtain ⟨x2, x3, x4, x5, x6, x7, x8, x9, rfl, hs1⟩ := h.o
        exact ⟨_, _, _, _, _, _, _, _, rfl, SepB.mono hs1 (by omega), hi12⟩
    · obtain ⟨x2, x3, x4, x5, x6, x7, x8, x9, rfl, hs, hi11⟩ := h.o
      walk_at "sq go"
      intro a1 na1
      walk_at "sq go"
      intro a2 na2
      have g1 : upd (upd H' a1 (.lst [.int 2, .int 2])) a2 (.lst [.int 2, .int 0]) a1 = some (.lst (iv [2, 2])) := upd_keep na2 upd_same
      have g2 : upd (upd H' a1 (.lst [.int 2, .int 2])) a2 (.lst [.int 2, .int 0]) a2 = some (.lst (iv [2, 0])) := upd_same
      walk_at "sq go"
      refine ⟨⟨⟨by decide, by decide⟩, ⟨by decide, by decide⟩, fun e => absurd e (by decide), fun i2 e l K4 s4 nl gl => ?_⟩⟩
      obtain rfl : 1 = i2 := Option.some.inj ((show due2 [2, 2] [2, 0] = some 1 by decide).symm.trans e)
      walk_at "sq go"
      intro a3 na3
      walk_at "sq go"
      exact ⟨⟨alike_err (o := some 1) ⟨l, rfl, upd_keep na3 gl⟩ ⟨a3, rfl, upd_same⟩ (by decide)⟩, fun K5 s5 => q K5⟩
end
end Sq
open PySem PySem.W PyProof.Rows in
set_option maxRecDepth 100000 in
set_option maxHeartbeats 0 in
theorem PySem.Challenge.cw_squeezelists_k16_errors_of_parting_holds : PySem.Challenge.rw_squeezelists_k16_errors_of_parting.Holds := by
  w_on; o_law; k_head; (case hw => w_witness2)
  k_fill
  refine Sq.walk_ofG (l := PySem.Challenge.rw_squeezelists_k16_errors_of_parting) (n := 63) (k := 8) (x := "script") (sp := Sq.spLaw) rfl (by decide) rfl ⟨rfl, by decide, by decide⟩ (fun w h Y => PySem.W.kIn_of Y) ?F (fun K H a ns hl hS => ⟨a, ns, rfl, hS, hl, fun _ => rfl⟩)
  case F =>
    intro w mg fa h KX G hmg
    have B : Sq.Bt mg := by
      refine' ⟨PySem.W.mg_none_of KX G ?z0, PySem.W.mg_none_of KX G ?z1, PySem.W.mg_none_of KX G ?z2, PySem.W.mg_none_of KX G ?z3, PySem.W.mg_none_of KX G ?z4, PySem.W.mg_none_of KX G ?z5, PySem.W.mg_none_of KX G ?z6, PySem.W.mg_none_of KX G ?z7, PySem.W.mg_none_of KX G ?z8, PySem.W.mg_none_of KX G ?z9, PySem.W.mg_none_of KX G ?z10, PySem.W.mg_none_of KX G ?z11, PySem.W.mg_none_of KX G ?z12, PySem.W.mg_none_of KX G ?z13⟩
      (case z0 => k_is)
      (case z1 => k_is)
      (case z2 => k_is)
      (case z3 => k_is)
      (case z4 => k_is)
      (case z5 => k_is)
      (case z6 => k_is)
      (case z7 => k_is)
      (case z8 => k_is)
      (case z9 => k_is)
      (case z10 => k_is)
      (case z11 => k_is)
      (case z12 => k_is)
      (case z13 => k_is)
    have g_SINGLE : ∃ u, mg "SINGLE" = some u ∧ L2.RelV (L2.V.int 1) u := by
      refine' ⟨?u_SINGLE, PySem.W.mg_of KX G ?a_SINGLE, ?r_SINGLE⟩
      (case a_SINGLE => k_is)
      (case r_SINGLE => first | exact ⟨_, rfl⟩ | exact ⟨_, congrArg (fun z => PySem.Value.str z _) (by decide +kernel)⟩)
    refine' Sq.cutD (Sq.DefAt.mk1 (x := "check_list") (st := Sq.s_check_list) (ps := ["replacements"]) KX G ?a_check_list ?l_check_list ?c_check_list ?k_check_list (fun _ _ _ _ _ _ us hl => match us, hl with | [_], _ => rfl)) ?_
    (case a_check_list => k_is); (case l_check_list => k_is); (case c_check_list => k_is); (case k_check_list => k_is)
    intro D_check_list
    refine' Sq.cutD (Sq.DefAt.mk1 (x := "greatest_origin_of") (st := Sq.s_greatest_origin_of) (ps := ["length", "replacements"]) KX G ?a_greatest_origin_of ?l_greatest_origin_of ?c_greatest_origin_of ?k_greatest_origin_of (fun _ _ _ _ _ _ us hl => match us, hl with | [_, _], _ => rfl)) ?_
    (case a_greatest_origin_of => k_is); (case l_greatest_origin_of => k_is); (case c_greatest_origin_of => k_is); (case k_greatest_origin_of => k_is)
    intro D_greatest_origin_of
    refine' Sq.cutD (Sq.DefAt.mk1 (x := "parting_run") (st := Sq.s_parting_run) (ps := ["first", "second"]) KX G ?a_parting_run ?l_parting_run ?c_parting_run ?k_parting_run (fun _ _ _ _ _ _ us hl => match us, hl with | [_, _], _ => rfl)) ?_
    (case a_parting_run => k_is); (case l_parting_run => k_is); (case c_parting_run => k_is); (case k_parting_run => k_is)
    intro D_parting_run
    refine' Sq.cutD (Sq.DefAt.mk1 (x := "commute") (st := Sq.s_commute) (ps := ["first", "second"]) KX G ?a_commute ?l_commute ?c_commute ?k_commute (fun _ _ _ _ _ _ us hl => match us, hl with | [_, _], _ => rfl)) ?_
    (case a_commute => k_is); (case l_commute => k_is); (case c_commute => k_is); (case k_commute => k_is)
    intro D_commute
    refine' Sq.cutD (Sq.DefAt.mk1 (x := "_law_source") (st := Sq.s_law_source) (ps := ["script"]) KX G ?a_law_source ?l_law_source ?c_law_source ?k_law_source (fun _ _ _ _ _ _ us hl => match us, hl with | [_], _ => rfl)) ?_
    (case a_law_source => k_is); (case l_law_source => k_is); (case c_law_source => k_is); (case k_law_source => k_is)
    intro D_law_source
    refine' Sq.cutD (Sq.DefAt.mk1 (x := "_law_draw") (st := Sq.s_law_draw) (ps := ["source", "many"]) KX G ?a_law_draw ?l_law_draw ?c_law_draw ?k_law_draw (fun _ _ _ _ _ _ us hl => match us, hl with | [_, _], _ => rfl)) ?_
    (case a_law_draw => k_is); (case l_law_draw => k_is); (case c_law_draw => k_is); (case k_law_draw => k_is)
    intro D_law_draw
    refine' Sq.cutD (Sq.DefAt.mk1 (x := "_law_same") (st := Sq.s_law_same) (ps := ["found", "wanted"]) KX G ?a_law_same ?l_law_same ?c_law_same ?k_law_same (fun _ _ _ _ _ _ us hl => match us, hl with | [_, _], _ => rfl)) ?_
    (case a_law_same => k_is); (case l_law_same => k_is); (case c_law_same => k_is); (case k_law_same => k_is)
    intro D_law_same
    refine' Sq.cutD (Sq.DefAt.mk1 (x := "_law_row") (st := Sq.s_law_row) (ps := ["source", "many", "wide"]) KX G ?a_law_row ?l_law_row ?c_law_row ?k_law_row (fun _ _ _ _ _ _ us hl => match us, hl with | [_, _, _], _ => rfl)) ?_
    (case a_law_row => k_is); (case l_law_row => k_is); (case c_law_row => k_is); (case k_law_row => k_is)
    intro D_law_row
    refine' Sq.cutD (Sq.DefAt.mk1 (x := "_law_error") (st := Sq.s_law_error) (ps := ["e"]) KX G ?a_law_error ?l_law_error ?c_law_error ?k_law_error (fun _ _ _ _ _ _ us hl => match us, hl with | [_], _ => rfl)) ?_
    (case a_law_error => k_is); (case l_law_error => k_is); (case c_law_error => k_is); (case k_law_error => k_is)
    intro D_law_error
    refine' Sq.cutD (Sq.DefAt.mk1 (x := "_law_spoilt") (st := Sq.s_law_spoilt) (ps := ["source", "row"]) KX G ?a_law_spoilt ?l_law_spoilt ?c_law_spoilt ?k_law_spoilt (fun _ _ _ _ _ _ us hl => match us, hl with | [_, _], _ => rfl)) ?_
    (case a_law_spoilt => k_is); (case l_law_spoilt => k_is); (case c_law_spoilt => k_is); (case k_law_spoilt => k_is)
    intro D_law_spoilt
    refine' Sq.cutD (Sq.DefAt.mk1 (x := "_law_raised") (st := Sq.s_law_raised) (ps := ["door", "one", "other"]) KX G ?a_law_raised ?l_law_raised ?c_law_raised ?k_law_raised (fun _ _ _ _ _ _ us hl => match us, hl with | [_, _, _], _ => rfl)) ?_
    (case a_law_raised => k_is); (case l_law_raised => k_is); (case c_law_raised => k_is); (case k_law_raised => k_is)
    intro D_law_raised
    refine' Sq.cutD (Sq.DefAt.mk1 (x := "_law_first") (st := Sq.s_law_first) (ps := ["row"]) KX G ?a_law_first ?l_law_first ?c_law_first ?k_law_first (fun _ _ _ _ _ _ us hl => match us, hl with | [_], _ => rfl)) ?_
    (case a_law_first => k_is); (case l_law_first => k_is); (case c_law_first => k_is); (case k_law_first => k_is)
    intro D_law_first
    refine' Sq.cutD (Sq.DefAt.mk1 (x := "law") (st := Sq.s_law) (ps := ["script"]) KX G ?a_law ?l_law ?c_law ?k_law (fun _ _ _ _ _ _ us hl => match us, hl with | [_], _ => rfl)) ?_
    (case a_law => k_is); (case l_law => k_is); (case c_law => k_is); (case k_law => k_is)
    intro D_law
    refine' Sq.cutD (Sq.glob_mk (x := "InvalidList") KX G ?aC_InvalidList) ?_
    (case aC_InvalidList => k_is)
    intro C_InvalidList
    refine' Sq.cutD (Sq.glob_mk (x := "InvalidNumber") KX G ?aC_InvalidNumber) ?_
    (case aC_InvalidNumber => k_is)
    intro C_InvalidNumber
    refine' Sq.cutD (Sq.glob_mk (x := "InvalidCharacter") KX G ?aC_InvalidCharacter) ?_
    (case aC_InvalidCharacter => k_is)
    intro C_InvalidCharacter
    refine' Sq.cutD (Sq.glob_mk (x := "NothingToUndo") KX G ?aC_NothingToUndo) ?_
    (case aC_NothingToUndo => k_is)
    intro C_NothingToUndo
    refine' Sq.cutD (Sq.glob_mk (x := "Unreadable") KX G ?aC_Unreadable) ?_
    (case aC_Unreadable => k_is)
    intro C_Unreadable
    refine' Sq.cutD (Sq.glob_mk (x := "SqueezeError") KX G ?aC_SqueezeError) ?_
    (case aC_SqueezeError => k_is)
    intro C_SqueezeError
    refine' Sq.cutD (Sq.knd_mk KX C_InvalidList C_InvalidList C_InvalidNumber C_InvalidCharacter C_NothingToUndo C_Unreadable C_SqueezeError ?hg_InvalidList ?hk_InvalidList ?hs_InvalidList ?hd_InvalidList ?ha_InvalidList ?hn_InvalidList ?ht_InvalidList ?hm_InvalidList ?nv_InvalidList ?k1_InvalidList ?k2_InvalidList ?k3_InvalidList ?k4_InvalidList ?k5_InvalidList ?kS_InvalidList ?kV_InvalidList ?x1_InvalidList ?x2_InvalidList ?x3_InvalidList ?x4_InvalidList) ?_
    (case hg_InvalidList => k_is)
    (case hk_InvalidList => k_is)
    (case hs_InvalidList => k_is)
    (case hd_InvalidList => k_is)
    (case ha_InvalidList => k_is)
    (case hn_InvalidList => k_is)
    (case ht_InvalidList => k_is)
    (case hm_InvalidList => k_is)
    (case nv_InvalidList => k_is)
    (case k1_InvalidList => kit_is)
    (case k2_InvalidList => kit_is)
    (case k3_InvalidList => kit_is)
    (case k4_InvalidList => kit_is)
    (case k5_InvalidList => kit_is)
    (case kS_InvalidList => kit_is)
    (case kV_InvalidList => kit_is)
    (case x1_InvalidList => k_is)
    (case x2_InvalidList => k_is)
    (case x3_InvalidList => k_is)
    (case x4_InvalidList => k_is)
    intro N_InvalidList
    have c6 : Sq.Cls6 mg _ _ _ _ _ _ := ⟨C_InvalidList, C_InvalidNumber, C_InvalidCharacter, C_NothingToUndo, C_Unreadable, C_SqueezeError⟩
    obtain ⟨fd, F, hb⟩ := D_law.law hmg (fun _ _ _ _ _ _ us hl => match us, hl with | [_], _ => rfl)
    refine ⟨fd, hb, fun base _ _ => ?_⟩
    refine' Sq.cutD (Sq.rai_mk (P := PySem.Challenge.rw_squeezelists_k16_errors_of_parting.prog) (w := w) (base := base) KX G C_InvalidList ?lC_InvalidList ?rC_InvalidList ?sa_InvalidList ?ex_InvalidList ?ty_InvalidList ?kc_InvalidList ?ini_InvalidList ?tyf_InvalidList ?l_InvalidList ?co_InvalidList ?cell_InvalidList ?rec__InvalidList ?v2_InvalidList ?fl_InvalidList ?top_InvalidList ?opq_InvalidList ?sup_InvalidList ?veb_InvalidList ?slf_InvalidList ?val_InvalidList ?ms_InvalidList ?he_InvalidList ?hb_InvalidList) ?_
    (case lC_InvalidList => k_is)
    (case rC_InvalidList => decide +kernel)
    (case sa_InvalidList => k_is)
    (case ex_InvalidList => k_is)
    (case ty_InvalidList => k_is)
    (case kc_InvalidList => k_is)
    (case ini_InvalidList => k_is)
    (case tyf_InvalidList => k_is)
    (case l_InvalidList => k_is)
    (case co_InvalidList => k_is)
    (case cell_InvalidList => k_is)
    (case rec__InvalidList => k_is)
    (case v2_InvalidList => rfl)
    (case fl_InvalidList => rfl)
    (case top_InvalidList => rfl)
    (case opq_InvalidList => k_is)
    (case sup_InvalidList => ks_is)
    (case veb_InvalidList => k_is)
    (case slf_InvalidList => k_is)
    (case val_InvalidList => k_is)
    (case ms_InvalidList => k_is)
    (case he_InvalidList => exact fun _ => rfl)
    (case hb_InvalidList => exact fun us hl => match us, hl with | [_, _], _ => rfl)
    intro R_InvalidList
    have ccl := Sq.cal_check_listX (P := PySem.Challenge.rw_squeezelists_k16_errors_of_parting.prog) (w := w) (base := base) D_check_list B R_InvalidList
    have cpr := Sq.cal_partX (P := PySem.Challenge.rw_squeezelists_k16_errors_of_parting.prog) (w := w) (base := base) D_parting_run B g_SINGLE ccl (Sq.cal_greatest_origin_of D_greatest_origin_of B)
    have ccm := Sq.cal_commX (P := PySem.Challenge.rw_squeezelists_k16_errors_of_parting.prog) (w := w) (base := base) D_commute B ccl
    have cd := Sq.cal_draw (P := PySem.Challenge.rw_squeezelists_k16_errors_of_parting.prog) (w := w) (base := base) D_law_draw B
    have ce := Sq.cal_error (P := PySem.Challenge.rw_squeezelists_k16_errors_of_parting.prog) (w := w) (base := base) D_law_error B c6
    have cs := Sq.cal_same (P := PySem.Challenge.rw_squeezelists_k16_errors_of_parting.prog) (w := w) (base := base) D_law_same B 3
    refine Sq.ok_law F B (Sq.cal_source D_law_source B) cd (Sq.cal_row D_law_row B cd) (Sq.cal_spoilt D_law_spoilt B cd) (Sq.cal_first D_law_first B) (Sq.cal_raised D_law_raised B c6 N_InvalidList ce cpr ccm) cs
